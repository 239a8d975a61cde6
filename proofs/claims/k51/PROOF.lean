import PyProof.Rows.All
import Wide.All
import OpenK.AllK
import Wide.FinOn
import KE.KStateDown
import Lean
import HandS.ForMost
import HandS.Exc
import HandS.Defaults
import HandS.More
import HandS.Head0
import HandS.Head1
import HandS.Head2
import HandS.HeadEnd
import HandS.HeadHook1
import HandS.HeadHook2
import HandS.HeadHook3
import HandS.HeadHook4
import HandS.Lambda
import HandS.EndTab
import HandS.HeadWalk
import HandS.ExcInit
import HandS.ExcField
import HandS.ExcIs
import HandS.CallLocal
import HandS.Flow
import HandS.DictComp
import HandS.TupAny
import HandS.FStr
import HandS.IsInst
import HandS.Zip
import KE.KUnpackStar
import HandS.Walk
import HandS.Strs
import OpenK.KOps
import PyProof.StrBlock2
import HandS.DictEq
import HandS.ListItems
import HandS.Nested
import KE.KDflt
import KE.KIsAll
import PySem.Challenge.RW_leakpost_k51_whole_bench_as_told
set_option Elab.async false
set_option linter.all false
set_option maxRecDepth 100000
set_option maxHeartbeats 0
namespace K51
open PySem PySem.Spec PyProof.Rows L2
abbrev PW : Program := PySem.Challenge.pw_leakpost_k51_whole_bench_as_told
def top (i : Nat) : Stmt := PySem.Challenge.pw_leakpost_k51_whole_bench_as_told.main.body.getD i (.Pass ⟨0, 0, 0, 0⟩)
abbrev s_is_word : Stmt := top 19
abbrev s_is_letter : Stmt := top 20
abbrev s_is_name : Stmt := top 21
abbrev s_need_name : Stmt := top 29
abbrev s_need_fresh : Stmt := top 30
abbrev s_need_short : Stmt := top 31
abbrev s_need_act : Stmt := top 32
abbrev s_need_wish : Stmt := top 35
abbrev s_lab_at : Stmt := top 54
abbrev s_with_lab : Stmt := top 55
abbrev s_do_lab : Stmt := top 56
abbrev s_do_drop : Stmt := top 57
abbrev s_do_machine : Stmt := top 58
abbrev s_do_row : Stmt := top 59
abbrev s_do_move : Stmt := top 60
abbrev s_do_strike : Stmt := top 61
abbrev s_do_wish : Stmt := top 63
abbrev s_do_unwish : Stmt := top 64
abbrev s_plain_done : Stmt := top 65
abbrev s_state_behind : Stmt := top 69
abbrev s_L_bag : Stmt := top 72
abbrev s_L_pull : Stmt := top 73
abbrev s_L_of : Stmt := top 74
abbrev s_L_same : Stmt := top 75
abbrev s_L_wild : Stmt := top 76
abbrev s_L_letters : Stmt := top 77
abbrev s_L_names : Stmt := top 78
abbrev s_L_word : Stmt := top 79
abbrev s_L_refusal : Stmt := top 80
abbrev s_L_word_of : Stmt := top 81
abbrev s_L_move_due : Stmt := top 82
abbrev s_L_pick : Stmt := top 83
abbrev s_L_drawn_act : Stmt := top 84
abbrev s_L_move_deed : Stmt := top 85
abbrev s_L_wish_deed : Stmt := top 86
abbrev s_L_deed : Stmt := top 87
abbrev s_L_wish_bad : Stmt := top 88
abbrev s_L_fresh_word : Stmt := top 89
abbrev s_L_lists_after : Stmt := top 90
abbrev s_L_word_due : Stmt := top 91
abbrev s_L_state_after : Stmt := top 92
abbrev s_L_refused_word : Stmt := top 93
abbrev s_L_stands_so : Stmt := top 94
abbrev s_L_step_done : Stmt := top 95
abbrev s_L_edit_word : Stmt := top 96
abbrev s_law : Stmt := top 97
abbrev s_LeakError_init : Stmt := inClass (top 2) 0
abbrev s_BadName_init : Stmt := inClass (top 3) 0
abbrev s_BadWord_init : Stmt := inClass (top 4) 0
abbrev s_BadAct_init : Stmt := inClass (top 5) 0
abbrev s_BadWish_init : Stmt := inClass (top 6) 0
abbrev s_BadDeed_init : Stmt := inClass (top 8) 0
abbrev s_Taken_init : Stmt := inClass (top 9) 0
abbrev s_Full_init : Stmt := inClass (top 10) 0
abbrev s_NoMachine_init : Stmt := inClass (top 11) 0
abbrev s_NoRow_init : Stmt := inClass (top 12) 0
abbrev s_NoMove_init : Stmt := inClass (top 13) 0
abbrev s_NoLab_init : Stmt := inClass (top 14) 0
abbrev s_NoWish_init : Stmt := inClass (top 15) 0
abbrev s_Lab_init : Stmt := inClass (top 33) 0
abbrev s_Lab_take_machine : Stmt := inClass (top 33) 1
abbrev s_Lab_take_row : Stmt := inClass (top 33) 2
abbrev s_Lab_take_move : Stmt := inClass (top 33) 3
abbrev s_Lab_look_full : Stmt := inClass (top 33) 4
abbrev s_Lab_stands_of : Stmt := inClass (top 33) 5
abbrev s_Lab_machines : Stmt := inClass (top 33) 12
abbrev s_Lab_rows : Stmt := inClass (top 33) 13
abbrev s_Lab_moves : Stmt := inClass (top 33) 14
abbrev s_Lab_move_at : Stmt := inClass (top 33) 19
abbrev s_Bench_init : Stmt := inClass (top 70) 0
abbrev s_Bench_len : Stmt := inClass (top 70) 2
abbrev s_Bench_repr : Stmt := inClass (top 70) 3
abbrev s_Bench_do : Stmt := inClass (top 70) 5
abbrev s_Bench_labs : Stmt := inClass (top 70) 20
abbrev s_Bench_wishes : Stmt := inClass (top 70) 21
abbrev s_Bench_lab_of : Stmt := inClass (top 70) 22
abbrev s_Bench_wish_of : Stmt := inClass (top 70) 23
def d_is_word : He.DefD := ⟨("is_word", none), "is_word", "is_word", defArgs s_is_word, defBody s_is_word, defScope s_is_word, [], []⟩
def d_is_letter : He.DefD := ⟨("is_letter", none), "is_letter", "is_letter", defArgs s_is_letter, defBody s_is_letter, defScope s_is_letter, [], []⟩
def d_is_name : He.DefD := ⟨("is_name", none), "is_name", "is_name", defArgs s_is_name, defBody s_is_name, defScope s_is_name, [], []⟩
def d_need_name : He.DefD := ⟨("need_name", none), "need_name", "need_name", defArgs s_need_name, defBody s_need_name, defScope s_need_name, [], []⟩
def d_need_fresh : He.DefD := ⟨("need_fresh", none), "need_fresh", "need_fresh", defArgs s_need_fresh, defBody s_need_fresh, defScope s_need_fresh, [], []⟩
def d_need_short : He.DefD := ⟨("need_short", none), "need_short", "need_short", defArgs s_need_short, defBody s_need_short, defScope s_need_short, [], []⟩
def d_need_act : He.DefD := ⟨("need_act", none), "need_act", "need_act", defArgs s_need_act, defBody s_need_act, defScope s_need_act, [], []⟩
def d_need_wish : He.DefD := ⟨("need_wish", none), "need_wish", "need_wish", defArgs s_need_wish, defBody s_need_wish, defScope s_need_wish, [], []⟩
def d_lab_at : He.DefD := ⟨("lab_at", none), "lab_at", "lab_at", defArgs s_lab_at, defBody s_lab_at, defScope s_lab_at, [], []⟩
def d_with_lab : He.DefD := ⟨("with_lab", none), "with_lab", "with_lab", defArgs s_with_lab, defBody s_with_lab, defScope s_with_lab, [], []⟩
def d_do_lab : He.DefD := ⟨("do_lab", none), "do_lab", "do_lab", defArgs s_do_lab, defBody s_do_lab, defScope s_do_lab, [], []⟩
def d_do_drop : He.DefD := ⟨("do_drop", none), "do_drop", "do_drop", defArgs s_do_drop, defBody s_do_drop, defScope s_do_drop, [], []⟩
def d_do_machine : He.DefD := ⟨("do_machine", none), "do_machine", "do_machine", defArgs s_do_machine, defBody s_do_machine, defScope s_do_machine, [], []⟩
def d_do_row : He.DefD := ⟨("do_row", none), "do_row", "do_row", defArgs s_do_row, defBody s_do_row, defScope s_do_row, [], []⟩
def d_do_move : He.DefD := ⟨("do_move", none), "do_move", "do_move", defArgs s_do_move, defBody s_do_move, defScope s_do_move, [], []⟩
def d_do_strike : He.DefD := ⟨("do_strike", none), "do_strike", "do_strike", defArgs s_do_strike, defBody s_do_strike, defScope s_do_strike, [], []⟩
def d_do_wish : He.DefD := ⟨("do_wish", none), "do_wish", "do_wish", defArgs s_do_wish, defBody s_do_wish, defScope s_do_wish, [], []⟩
def d_do_unwish : He.DefD := ⟨("do_unwish", none), "do_unwish", "do_unwish", defArgs s_do_unwish, defBody s_do_unwish, defScope s_do_unwish, [], []⟩
def d_plain_done : He.DefD := ⟨("plain_done", none), "plain_done", "plain_done", defArgs s_plain_done, defBody s_plain_done, defScope s_plain_done, [], []⟩
def d_state_behind : He.DefD := ⟨("state_behind", none), "state_behind", "state_behind", defArgs s_state_behind, defBody s_state_behind, defScope s_state_behind, [], []⟩
def d_L_bag : He.DefD := ⟨("_law_bag", none), "_law_bag", "_law_bag", defArgs s_L_bag, defBody s_L_bag, defScope s_L_bag, [], []⟩
def d_L_pull : He.DefD := ⟨("_law_pull", none), "_law_pull", "_law_pull", defArgs s_L_pull, defBody s_L_pull, defScope s_L_pull, [], []⟩
def d_L_of : He.DefD := ⟨("_law_of", none), "_law_of", "_law_of", defArgs s_L_of, defBody s_L_of, defScope s_L_of, [], []⟩
def d_L_same : He.DefD := ⟨("_law_same", none), "_law_same", "_law_same", defArgs s_L_same, defBody s_L_same, defScope s_L_same, [], []⟩
def d_L_wild : He.DefD := ⟨("_law_wild", none), "_law_wild", "_law_wild", defArgs s_L_wild, defBody s_L_wild, defScope s_L_wild, [], []⟩
def d_L_letters : He.DefD := ⟨("_law_letters", none), "_law_letters", "_law_letters", defArgs s_L_letters, defBody s_L_letters, defScope s_L_letters, [], []⟩
def d_L_names : He.DefD := ⟨("_law_names", none), "_law_names", "_law_names", defArgs s_L_names, defBody s_L_names, defScope s_L_names, [], []⟩
def d_L_word : He.DefD := ⟨("_law_word", none), "_law_word", "_law_word", defArgs s_L_word, defBody s_L_word, defScope s_L_word, [], []⟩
def d_L_refusal : He.DefD := ⟨("_law_refusal", none), "_law_refusal", "_law_refusal", defArgs s_L_refusal, defBody s_L_refusal, defScope s_L_refusal, [], []⟩
def d_L_word_of : He.DefD := ⟨("_law_word_of", none), "_law_word_of", "_law_word_of", defArgs s_L_word_of, defBody s_L_word_of, defScope s_L_word_of, [], []⟩
def d_L_move_due : He.DefD := ⟨("_law_move_due", none), "_law_move_due", "_law_move_due", defArgs s_L_move_due, defBody s_L_move_due, defScope s_L_move_due, [], []⟩
def d_L_pick : He.DefD := ⟨("_law_pick", none), "_law_pick", "_law_pick", defArgs s_L_pick, defBody s_L_pick, defScope s_L_pick, [], []⟩
def d_L_drawn_act : He.DefD := ⟨("_law_drawn_act", none), "_law_drawn_act", "_law_drawn_act", defArgs s_L_drawn_act, defBody s_L_drawn_act, defScope s_L_drawn_act, [], []⟩
def d_L_move_deed : He.DefD := ⟨("_law_move_deed", none), "_law_move_deed", "_law_move_deed", defArgs s_L_move_deed, defBody s_L_move_deed, defScope s_L_move_deed, [], []⟩
def d_L_wish_deed : He.DefD := ⟨("_law_wish_deed", none), "_law_wish_deed", "_law_wish_deed", defArgs s_L_wish_deed, defBody s_L_wish_deed, defScope s_L_wish_deed, [], []⟩
def d_L_deed : He.DefD := ⟨("_law_deed", none), "_law_deed", "_law_deed", defArgs s_L_deed, defBody s_L_deed, defScope s_L_deed, [], []⟩
def d_L_wish_bad : He.DefD := ⟨("_law_wish_bad", none), "_law_wish_bad", "_law_wish_bad", defArgs s_L_wish_bad, defBody s_L_wish_bad, defScope s_L_wish_bad, [], []⟩
def d_L_fresh_word : He.DefD := ⟨("_law_fresh_word", none), "_law_fresh_word", "_law_fresh_word", defArgs s_L_fresh_word, defBody s_L_fresh_word, defScope s_L_fresh_word, [], []⟩
def d_L_lists_after : He.DefD := ⟨("_law_lists_after", none), "_law_lists_after", "_law_lists_after", defArgs s_L_lists_after, defBody s_L_lists_after, defScope s_L_lists_after, [], []⟩
def d_L_word_due : He.DefD := ⟨("_law_word_due", none), "_law_word_due", "_law_word_due", defArgs s_L_word_due, defBody s_L_word_due, defScope s_L_word_due, [], []⟩
def d_L_state_after : He.DefD := ⟨("_law_state_after", none), "_law_state_after", "_law_state_after", defArgs s_L_state_after, defBody s_L_state_after, defScope s_L_state_after, [], []⟩
def d_L_refused_word : He.DefD := ⟨("_law_refused_word", none), "_law_refused_word", "_law_refused_word", defArgs s_L_refused_word, defBody s_L_refused_word, defScope s_L_refused_word, [], []⟩
def d_L_stands_so : He.DefD := ⟨("_law_stands_so", none), "_law_stands_so", "_law_stands_so", defArgs s_L_stands_so, defBody s_L_stands_so, defScope s_L_stands_so, [], []⟩
def d_L_step_done : He.DefD := ⟨("_law_step_done", none), "_law_step_done", "_law_step_done", defArgs s_L_step_done, defBody s_L_step_done, defScope s_L_step_done, [], []⟩
def d_L_edit_word : He.DefD := ⟨("_law_edit_word", none), "_law_edit_word", "_law_edit_word", defArgs s_L_edit_word, defBody s_L_edit_word, defScope s_L_edit_word, [], []⟩
def d_law : He.DefD := ⟨("law", none), "law", "law", defArgs s_law, defBody s_law, defScope s_law, [], []⟩
def d_LeakError_init : He.DefD := ⟨("LeakError", some "__init__"), "__init__", "LeakError.__init__", defArgs s_LeakError_init, defBody s_LeakError_init, defScope s_LeakError_init, [], []⟩
def d_BadName_init : He.DefD := ⟨("BadName", some "__init__"), "__init__", "BadName.__init__", defArgs s_BadName_init, defBody s_BadName_init, defScope s_BadName_init, [.int (-1)], []⟩
def d_BadWord_init : He.DefD := ⟨("BadWord", some "__init__"), "__init__", "BadWord.__init__", defArgs s_BadWord_init, defBody s_BadWord_init, defScope s_BadWord_init, [.int (-1)], []⟩
def d_BadAct_init : He.DefD := ⟨("BadAct", some "__init__"), "__init__", "BadAct.__init__", defArgs s_BadAct_init, defBody s_BadAct_init, defScope s_BadAct_init, [.int (-1)], []⟩
def d_BadWish_init : He.DefD := ⟨("BadWish", some "__init__"), "__init__", "BadWish.__init__", defArgs s_BadWish_init, defBody s_BadWish_init, defScope s_BadWish_init, [.int (-1)], []⟩
def d_BadDeed_init : He.DefD := ⟨("BadDeed", some "__init__"), "__init__", "BadDeed.__init__", defArgs s_BadDeed_init, defBody s_BadDeed_init, defScope s_BadDeed_init, [.int (-1)], []⟩
def d_Taken_init : He.DefD := ⟨("Taken", some "__init__"), "__init__", "Taken.__init__", defArgs s_Taken_init, defBody s_Taken_init, defScope s_Taken_init, [.int (-1)], []⟩
def d_Full_init : He.DefD := ⟨("Full", some "__init__"), "__init__", "Full.__init__", defArgs s_Full_init, defBody s_Full_init, defScope s_Full_init, [.int (-1)], []⟩
def d_NoMachine_init : He.DefD := ⟨("NoMachine", some "__init__"), "__init__", "NoMachine.__init__", defArgs s_NoMachine_init, defBody s_NoMachine_init, defScope s_NoMachine_init, [.int (-1)], []⟩
def d_NoRow_init : He.DefD := ⟨("NoRow", some "__init__"), "__init__", "NoRow.__init__", defArgs s_NoRow_init, defBody s_NoRow_init, defScope s_NoRow_init, [.int (-1)], []⟩
def d_NoMove_init : He.DefD := ⟨("NoMove", some "__init__"), "__init__", "NoMove.__init__", defArgs s_NoMove_init, defBody s_NoMove_init, defScope s_NoMove_init, [.int (-1)], []⟩
def d_NoLab_init : He.DefD := ⟨("NoLab", some "__init__"), "__init__", "NoLab.__init__", defArgs s_NoLab_init, defBody s_NoLab_init, defScope s_NoLab_init, [.int (-1)], []⟩
def d_NoWish_init : He.DefD := ⟨("NoWish", some "__init__"), "__init__", "NoWish.__init__", defArgs s_NoWish_init, defBody s_NoWish_init, defScope s_NoWish_init, [.int (-1)], []⟩
def d_Lab_init : He.DefD := ⟨("Lab", some "__init__"), "__init__", "Lab.__init__", defArgs s_Lab_init, defBody s_Lab_init, defScope s_Lab_init, [.adr (He.dflAt ("Lab", some "__init__") 0), .adr (He.dflAt ("Lab", some "__init__") 1), .adr (He.dflAt ("Lab", some "__init__") 2)], []⟩
def d_Lab_take_machine : He.DefD := ⟨("Lab", some "take_machine"), "take_machine", "Lab.take_machine", defArgs s_Lab_take_machine, defBody s_Lab_take_machine, defScope s_Lab_take_machine, [], []⟩
def d_Lab_take_row : He.DefD := ⟨("Lab", some "take_row"), "take_row", "Lab.take_row", defArgs s_Lab_take_row, defBody s_Lab_take_row, defScope s_Lab_take_row, [], []⟩
def d_Lab_take_move : He.DefD := ⟨("Lab", some "take_move"), "take_move", "Lab.take_move", defArgs s_Lab_take_move, defBody s_Lab_take_move, defScope s_Lab_take_move, [], []⟩
def d_Lab_look_full : He.DefD := ⟨("Lab", some "look_full"), "look_full", "Lab.look_full", defArgs s_Lab_look_full, defBody s_Lab_look_full, defScope s_Lab_look_full, [], []⟩
def d_Lab_stands_of : He.DefD := ⟨("Lab", some "stands_of"), "stands_of", "Lab.stands_of", defArgs s_Lab_stands_of, defBody s_Lab_stands_of, defScope s_Lab_stands_of, [], []⟩
def d_Lab_machines : He.DefD := ⟨("Lab", some "machines"), "machines", "Lab.machines", defArgs s_Lab_machines, defBody s_Lab_machines, defScope s_Lab_machines, [], []⟩
def d_Lab_rows : He.DefD := ⟨("Lab", some "rows"), "rows", "Lab.rows", defArgs s_Lab_rows, defBody s_Lab_rows, defScope s_Lab_rows, [], []⟩
def d_Lab_moves : He.DefD := ⟨("Lab", some "moves"), "moves", "Lab.moves", defArgs s_Lab_moves, defBody s_Lab_moves, defScope s_Lab_moves, [], []⟩
def d_Lab_move_at : He.DefD := ⟨("Lab", some "move_at"), "move_at", "Lab.move_at", defArgs s_Lab_move_at, defBody s_Lab_move_at, defScope s_Lab_move_at, [], []⟩
def d_Bench_init : He.DefD := ⟨("Bench", some "__init__"), "__init__", "Bench.__init__", defArgs s_Bench_init, defBody s_Bench_init, defScope s_Bench_init, [], []⟩
def d_Bench_len : He.DefD := ⟨("Bench", some "__len__"), "__len__", "Bench.__len__", defArgs s_Bench_len, defBody s_Bench_len, defScope s_Bench_len, [], []⟩
def d_Bench_repr : He.DefD := ⟨("Bench", some "__repr__"), "__repr__", "Bench.__repr__", defArgs s_Bench_repr, defBody s_Bench_repr, defScope s_Bench_repr, [], []⟩
def d_Bench_do : He.DefD := ⟨("Bench", some "do"), "do", "Bench.do", defArgs s_Bench_do, defBody s_Bench_do, defScope s_Bench_do, [], []⟩
def d_Bench_labs : He.DefD := ⟨("Bench", some "labs"), "labs", "Bench.labs", defArgs s_Bench_labs, defBody s_Bench_labs, defScope s_Bench_labs, [], []⟩
def d_Bench_wishes : He.DefD := ⟨("Bench", some "wishes"), "wishes", "Bench.wishes", defArgs s_Bench_wishes, defBody s_Bench_wishes, defScope s_Bench_wishes, [], []⟩
def d_Bench_lab_of : He.DefD := ⟨("Bench", some "lab_of"), "lab_of", "Bench.lab_of", defArgs s_Bench_lab_of, defBody s_Bench_lab_of, defScope s_Bench_lab_of, [], []⟩
def d_Bench_wish_of : He.DefD := ⟨("Bench", some "wish_of"), "wish_of", "Bench.wish_of", defArgs s_Bench_wish_of, defBody s_Bench_wish_of, defScope s_Bench_wish_of, [], []⟩
def fnL : List He.DefD := [d_is_word, d_is_letter, d_is_name, d_need_name, d_need_fresh, d_need_short, d_need_act, d_need_wish, d_lab_at, d_with_lab, d_do_lab, d_do_drop, d_do_machine, d_do_row, d_do_move, d_do_strike, d_do_wish, d_do_unwish, d_plain_done, d_state_behind, d_L_bag, d_L_pull, d_L_of, d_L_same, d_L_wild, d_L_letters, d_L_names, d_L_word, d_L_refusal, d_L_word_of, d_L_move_due, d_L_pick, d_L_drawn_act, d_L_move_deed, d_L_wish_deed, d_L_deed, d_L_wish_bad, d_L_fresh_word, d_L_lists_after, d_L_word_due, d_L_state_after, d_L_refused_word, d_L_stands_so, d_L_step_done, d_L_edit_word, d_law, d_LeakError_init, d_BadName_init, d_BadWord_init, d_BadAct_init, d_BadWish_init, d_BadDeed_init, d_Taken_init, d_Full_init, d_NoMachine_init, d_NoRow_init, d_NoMove_init, d_NoLab_init, d_NoWish_init, d_Lab_init, d_Lab_take_machine, d_Lab_take_row, d_Lab_take_move, d_Lab_look_full, d_Lab_stands_of, d_Lab_machines, d_Lab_rows, d_Lab_moves, d_Lab_move_at, d_Bench_init, d_Bench_len, d_Bench_repr, d_Bench_do, d_Bench_labs, d_Bench_wishes, d_Bench_lab_of, d_Bench_wish_of]
def faL : List He.Fa := [
  .glo "is_word",
  .glo "is_letter",
  .glo "is_name",
  .glo "need_name",
  .glo "need_fresh",
  .glo "need_short",
  .glo "need_act",
  .glo "need_wish",
  .glo "lab_at",
  .glo "with_lab",
  .glo "do_lab",
  .glo "do_drop",
  .glo "do_machine",
  .glo "do_row",
  .glo "do_move",
  .glo "do_strike",
  .glo "do_wish",
  .glo "do_unwish",
  .glo "plain_done",
  .glo "state_behind",
  .glo "_law_bag",
  .glo "_law_pull",
  .glo "_law_of",
  .glo "_law_same",
  .glo "_law_wild",
  .glo "_law_letters",
  .glo "_law_names",
  .glo "_law_word",
  .glo "_law_refusal",
  .glo "_law_word_of",
  .glo "_law_move_due",
  .glo "_law_pick",
  .glo "_law_drawn_act",
  .glo "_law_move_deed",
  .glo "_law_wish_deed",
  .glo "_law_deed",
  .glo "_law_wish_bad",
  .glo "_law_fresh_word",
  .glo "_law_lists_after",
  .glo "_law_word_due",
  .glo "_law_state_after",
  .glo "_law_refused_word",
  .glo "_law_stands_so",
  .glo "_law_step_done",
  .glo "_law_edit_word",
  .glo "law",
  .glo "LeakError",
  .glo "BadName",
  .glo "BadWord",
  .glo "BadAct",
  .glo "BadWish",
  .glo "BadDeed",
  .glo "Taken",
  .glo "Full",
  .glo "NoMachine",
  .glo "NoRow",
  .glo "NoMove",
  .glo "NoLab",
  .glo "NoWish",
  .glo "Lab",
  .glo "Bench",
  .glo "SIZES_lab",
  .glo "SIZES_bench",
  .glo "ONES",
  .glo "THREES",
  .free "all",
  .free "any",
  .free "len",
  .free "list",
  .free "dict",
  .free "tuple",
  .free "sorted",
  .free "set",
  .free "str",
  .free "int",
  .free "isinstance",
  .free "range",
  .free "zip",
  .free "repr",
  .free "ValueError",
  .free "LookupError",
  .int "LONGEST_NAME" 8,
  .int "LONGEST_WORD" 8,
  .int "MOST_MACHINES" 3,
  .int "MOST_ROWS" 3,
  .int "MOST_MOVES" 24,
  .int "MOST_STANDS" 6,
  .int "MOST_LABS" 6,
  .int "MOST_WISHES" 12,
  .str "LETTERS" "abcdefghijklmnopqrstuvwxyz",
  .cls "Lab",
  .mkr "Lab",
  .keep "Lab",
  .meth "Lab" "take_machine",
  .meth "Lab" "take_row",
  .meth "Lab" "take_move",
  .meth "Lab" "look_full",
  .meth "Lab" "stands_of",
  .meth "Lab" "machines",
  .meth "Lab" "rows",
  .meth "Lab" "moves",
  .meth "Lab" "move_at",
  .cls "Bench",
  .mkr "Bench",
  .keep "Bench",
  .meth "Bench" "__len__",
  .meth "Bench" "__repr__",
  .meth "Bench" "do",
  .meth "Bench" "labs",
  .meth "Bench" "wishes",
  .meth "Bench" "lab_of",
  .meth "Bench" "wish_of",
  .noat "Lab" "firsts",
  .noat "Lab" "words",
  .noat "Lab" "steps",
  .noat "Lab" "names",
  .noat "Lab" "row_names",
  .noat "Bench" "now",
  .noat "Bench" "past",
  .noat "Bench" "ahead",
  .noat "Bench" "papers",
  .noat "Bench" "searches",
  .keep "BadName",
  .keep "BadWord",
  .keep "BadAct",
  .keep "BadWish",
  .keep "BadDeed",
  .keep "Taken",
  .keep "Full",
  .keep "NoMachine",
  .keep "NoRow",
  .keep "NoMove",
  .keep "NoLab",
  .keep "NoWish",
  .noat "BadName" "word",
  .noat "BadName" "at",
  .exm "BadName" "LeakError" true,
  .noat "BadWord" "word",
  .noat "BadWord" "at",
  .exm "BadWord" "LeakError" true,
  .noat "BadAct" "word",
  .noat "BadAct" "at",
  .exm "BadAct" "LeakError" true,
  .noat "BadWish" "word",
  .noat "BadWish" "at",
  .exm "BadWish" "LeakError" true,
  .noat "BadDeed" "word",
  .noat "BadDeed" "at",
  .exm "BadDeed" "LeakError" true,
  .noat "Taken" "word",
  .noat "Taken" "at",
  .exm "Taken" "LeakError" true,
  .noat "Full" "word",
  .noat "Full" "at",
  .exm "Full" "LeakError" true,
  .noat "NoMachine" "word",
  .noat "NoMachine" "at",
  .exm "NoMachine" "LeakError" true,
  .noat "NoRow" "word",
  .noat "NoRow" "at",
  .exm "NoRow" "LeakError" true,
  .noat "NoMove" "word",
  .noat "NoMove" "at",
  .exm "NoMove" "LeakError" true,
  .noat "NoLab" "word",
  .noat "NoLab" "at",
  .exm "NoLab" "LeakError" true,
  .noat "NoWish" "word",
  .noat "NoWish" "at",
  .exm "NoWish" "LeakError" true,
  .free "bool"]
def tsL : List He.Tab := [(fun K => He.ga K "SIZES_lab", ["send", "take", "bare", "idle"]), (fun K => He.ga K "SIZES_bench", ["lab", "drop", "machine", "row", "move", "strike", "load", "wish", "unwish"]), (fun K => He.ga K "ONES", ["lab", "drop", "unwish"]), (fun K => He.ga K "THREES", ["machine", "row", "load"])]
def tfL : List He.Defn := [("_law_step_done", none), ("law", none)]
/-! ### what the heap must say of the refusals' classes -/
/-- an own class under ValueError (its own bases first), as it stands -/
def oexB (K : PySem.W.Frag) (C : Addr) : Bool := (match K.lookup C with
  | some ⟨.type t, _, .cls cd, sl⟩ => decide (t = "type") && (match cd.mro, sl.toList with
    | .ref C' :: bm, [_, _, _, _, some (.builtin n), _] => decide (C' = C) && (decide (n = "ValueError.__new__") && (cd.hasDict && (!cd.hasDel && PySem.HandSPX.refsVE bm)))
    | _, _ => false)
  | _ => false)
def oexB2 (K : PySem.W.Frag) (C : Addr) : Bool :=
  decide (PySem.W.findIn K (.ref C) "__setattr__" = some (some (.builtin "object.__setattr__"))) && (decide (PySem.W.subIn K (.ref C) (.type "BaseException") = some true) && (decide (PySem.W.typeIn K (.ref C) = some (.type "type")) && PySem.W.keepIn K (.ref C)))
def excB (K : PySem.W.Frag) (D : Addr) : Bool :=
  decide (PySem.W.findIn K (.ref D) "__class__" = some (some (.builtin "object.__class__"))) && (decide (PySem.W.specialIn K (.builtin "object.__class__") "__get__" = some (some (.builtin "getset_descriptor.__get__"))) && (decide (PySem.W.takesIn K (.builtin "object.__class__") = some true) &&
    (decide (PySem.W.mroIn K D (.type "object") = some true) && (decide (PySem.W.kitOne K (.ref D) (.type "ValueError") = some true) && decide (PySem.W.kitOne K (.ref D) (.type "LookupError") = some false)))))
def initB (K : PySem.W.Frag) (x : Str) : Bool :=
  decide (PySem.W.findIn K (.ref (He.ga K x)) "__init__" = some (some (.ref (He.ma K (He.ga K x) "__init__")))) && decide (PySem.W.typeIn K (.ref (He.ma K (He.ga K x) "__init__")) = some (.type "function"))
def errB (K : PySem.W.Frag) (x : Str) : Bool := oexB K (He.ga K x) && (oexB2 K (He.ga K x) && (xfB K (He.ga K x) && (excB K (He.ga K x) && initB K x)))
def errs : List Str := ["BadName", "BadWord", "BadAct", "BadWish", "BadDeed", "Taken", "Full", "NoMachine", "NoRow", "NoMove", "NoLab", "NoWish"]
/-- LeakError.__init__ and ValueError.__init__, read off their classes -/
def clsFnB (K : PySem.W.Frag) : Bool :=
  PySem.W.readsIn K (He.ga K "LeakError") (.type "type") && (decide (PySem.W.specialIn K (.ref (He.ga K "LeakError")) "__getattribute__" = some (some (.builtin "type.__getattribute__"))) &&
    ((match PySem.W.findCls K (.ref (He.ga K "LeakError")) (.type "type") "__init__" with
      | some (.val (.ref f)) => decide (f = He.ma K (He.ga K "LeakError") "__init__") && decide (PySem.W.typeIn K (.ref f) = some (.type "function"))
      | _ => false) && (match PySem.W.findCls K (.type "ValueError") (.type "type") "__init__" with
      | some (.val (.builtin n)) => decide (n = "ValueError.__init__")
      | _ => false)))
/-- an empty tuple that the top has made -/
def tup0B (K : PySem.W.Frag) (a : Addr) : Bool := (match K.lookup a with
  | some ⟨.type c, _, .seq its _, _⟩ => decide (c = "tuple") && its.isEmpty
  | _ => false)
def exB (K : PySem.W.Frag) : Bool := errs.all (errB K) && (clsFnB K && ((tup0B K (He.dflAt ("Lab", some "__init__") 0 K) && (tup0B K (He.dflAt ("Lab", some "__init__") 1 K) && tup0B K (He.dflAt ("Lab", some "__init__") 2 K))) &&
  (He.valsB K (He.ga K "SIZES_lab") [("send", .int 3), ("take", .int 3), ("bare", .int 2), ("idle", .int 1)] && (He.valsB K (He.ga K "SIZES_bench") [("lab", .int 1), ("drop", .int 1), ("machine", .int 3), ("row", .int 3), ("move", .int 5), ("strike", .int 2), ("load", .int 3), ("wish", .int 4), ("unwish", .int 1)] &&
  (He.valsB K (He.ga K "ONES") [("lab", .glo "do_lab"), ("drop", .glo "do_drop"), ("unwish", .glo "do_unwish")] && He.valsB K (He.ga K "THREES") [("machine", .glo "do_machine"), ("row", .glo "do_row"), ("load", .glo "do_load")])))))
/-! ### the Hook -/
/-- the addresses that a value, a dict's values name -/
def valsOf (o : Option Obj) : List Addr := match o with
  | some ⟨_, _, .dict es _, _⟩ => es.toList.flatMap fun e => He.refV e.val
  | _ => []
/-- a function with its code and its defaults -/
def funAs (g : Addr → Option Obj) (a : Addr) : List Addr := match g a with
  | some ⟨_, _, .func fd, _⟩ => a :: (He.refV fd.code ++ match fd.defaults with
    | .ref t => t :: (match g t with
      | some ⟨_, _, .seq its _, _⟩ => its.toList.flatMap He.refV
      | _ => [])
    | _ => [])
  | _ => []
/-- what stands behind a global name -/
def gloAs (g : Addr → Option Obj) (a : Addr) : List Addr := match g a with
  | some ⟨_, _, .func _, _⟩ => funAs g a
  | some ⟨_, _, .cls cd, _⟩ => a :: cd.ns :: (valsOf (g cd.ns)).flatMap (funAs g)
  | some _ => [a]
  | none => []
def asL (g : Addr → Option Obj) : List Addr := mainGlobals :: cStatics :: (valsOf (g mainGlobals)).flatMap (gloAs g)
def fragOf (g : Addr → Option Obj) : PySem.W.Frag := He.frT g (asL g)
abbrev AlK : Type := He.AlT × Bool
def obsK (g : Addr → Option Obj) : AlK := (He.obsT faL fnL tsL (fragOf g), exB (fragOf g) && (He.tabsB g tfL (fragOf g) && decide ((He.cT (fragOf g) ("_law_step_done", none)).2 ≠ (He.cT (fragOf g) ("law", none)).2)))
def valK (w : World) : AlK := (He.valT fnL tsL w, true)
def hkK : PySem.W.Hook where
  α := AlK
  obs := fun s => obsK s.heap.get?
  val := fun w => valK w
  says := fun w h => ∃ (g : Addr → Option Obj), (∀ a o, g a = some o → h.get? a = some o) ∧ obsK g = valK w
  of := fun w s e => ⟨s.heap.get?, fun _ _ z => z, e⟩
  keeps := fun w h h' ⟨g, hg, e⟩ k => ⟨g, fun a o z => k a o (hg a o z), e⟩
def obK (s : PySem.W.SharedT) : AlK := obsK (HandSHeadRun.getT s)
theorem obK_eq (s : PySem.W.SharedT) : obK s = hkK.obs s.abs := by
  have e : HandSHeadRun.getT s = s.abs.heap.get? := funext (HandSHeadRun.getT_eq s)
  show obsK _ = obsK _
  rw [e]
end K51

set_option Elab.async false
set_option linter.all false
set_option maxRecDepth 100000
set_option maxHeartbeats 0
namespace K51
open PySem PySem.Spec PyProof.Rows L2
def loose0 : List Str := ["_wall", "LeakError", "BadName", "BadWord", "BadAct", "BadWish", "BadBody", "BadDeed", "Taken", "Full", "NoMachine", "NoRow", "NoMove", "NoLab", "NoWish", "LETTERS", "LONGEST_NAME", "is_word", "is_letter", "is_name", "MOST_MACHINES", "MOST_ROWS", "MOST_MOVES", "MOST_STANDS", "LONGEST_WORD", "SIZES_lab", "need_name", "need_fresh", "need_short", "need_act"]
def loose1 : List Str := ["Lab", "need_wish", "MOST_LIST", "MOST_DEEP", "FORMS", "MOST_PARTS", "DEEPEST", "good_thing", "is_shaped", "inner", "all_parts", "is_body", "need_body", "Maker", "compiled", "MOST_LABS", "MOST_WISHES", "lab_at", "with_lab", "do_lab", "do_drop", "do_machine", "do_row", "do_move", "do_strike", "do_load", "do_wish", "do_unwish", "plain_done", "ONES"]
def loose2 : List Str := ["THREES", "SIZES_bench", "state_behind", "Bench", "_law_bag", "_law_pull", "_law_of", "_law_same", "_law_wild", "_law_letters", "_law_names", "_law_word", "_law_refusal", "_law_word_of", "_law_move_due", "_law_pick", "_law_drawn_act", "_law_move_deed", "_law_wish_deed", "_law_deed", "_law_wish_bad", "_law_fresh_word", "_law_lists_after", "_law_word_due", "_law_state_after", "_law_refused_word", "_law_stands_so", "_law_step_done", "_law_edit_word"]
def loose : List Str := loose0 ++ loose1 ++ loose2
abbrev RR : PySem.W.OpenRow := PySem.W.OpenLaw.row PySem.Challenge.rw_leakpost_k51_whole_bench_as_told
theorem run_f (w : World) : HandSHeadRun.RunEq RR (PySem.W.view RR.prog [97]) hkK obK 20000 loose (w.withFollow "special-get-raises" false) := by
  intro os
  kernel_rfl
theorem run_t (w : World) : HandSHeadRun.RunEq RR (PySem.W.view RR.prog [97]) hkK obK 20000 loose (w.withFollow "special-get-raises" true) := by
  intro os
  kernel_rfl
theorem run (w : World) : HandSHeadRun.RunEq RR (PySem.W.view RR.prog [97]) hkK obK 20000 loose w :=
  PySem.W.byRow2 "special-get-raises" (P := fun w => HandSHeadRun.RunEq RR (PySem.W.view RR.prog [97]) hkK obK 20000 loose w) run_f run_t w
end K51

set_option Elab.async false
set_option linter.all false
set_option maxRecDepth 100000
set_option maxHeartbeats 4000000
namespace K51
open PySem PySem.Spec PyProof.Rows L2
/-- what is known of the written part K and of the module's names mg -/
structure TX (w : World) (K : PySem.W.Frag) (mg : Str → Option Value) : Prop where
  ex : ∃ (g : Addr → Option Obj) (h : Heap), K = fragOf g ∧ K.In h ∧ h.Ns mainGlobals mg ∧ obsK g = valK w
section
variable {w : World} {K : PySem.W.Frag} {mg : Str → Option Value}
theorem TX.says (T : TX w K mg) : He.SaysT faL fnL tsL w K := by
  obtain ⟨g, h, rfl, _, _, e⟩ := T.ex
  exact congrArg (fun z : AlK => z.1) e
theorem TX.ext (T : TX w K mg) : exB K = true := by
  obtain ⟨g, h, rfl, _, _, e⟩ := T.ex
  exact (He.ba (congrArg (fun z : AlK => z.2) e)).1
theorem TX.glo (T : TX w K mg) (i : Nat) {x : Str} (h : faL[i]? = some (.glo x)) : mg x = some (.ref (He.ga K x)) := by
  obtain ⟨g, hp, _, hI, hN, _⟩ := id T.ex
  exact He.glo_ok hI hN (T.says.d.fact i h)
theorem TX.free (T : TX w K mg) (i : Nat) {x : Str} (h : faL[i]? = some (.free x)) : mg x = none := by
  obtain ⟨g, hp, _, hI, hN, _⟩ := id T.ex
  exact He.free_ok hI hN (T.says.d.fact i h)
theorem TX.int (T : TX w K mg) (i : Nat) {x : Str} {n : Int} (h : faL[i]? = some (.int x n)) : ∃ t, mg x = some (.int n t) := by
  obtain ⟨g, hp, _, hI, hN, _⟩ := id T.ex
  exact He.int_ok hI hN (T.says.d.fact i h)
theorem TX.str (T : TX w K mg) (i : Nat) {x z : Str} (h : faL[i]? = some (.str x z)) : ∃ t, mg x = some (.str z t) := by
  obtain ⟨g, hp, _, hI, hN, _⟩ := id T.ex
  exact He.str_ok hI hN (T.says.d.fact i h)
theorem TX.g_is_word (T : TX w K mg) : mg "is_word" = some (.ref (He.ga K "is_word")) := T.glo 0 rfl
theorem TX.g_is_letter (T : TX w K mg) : mg "is_letter" = some (.ref (He.ga K "is_letter")) := T.glo 1 rfl
theorem TX.g_is_name (T : TX w K mg) : mg "is_name" = some (.ref (He.ga K "is_name")) := T.glo 2 rfl
theorem TX.g_need_name (T : TX w K mg) : mg "need_name" = some (.ref (He.ga K "need_name")) := T.glo 3 rfl
theorem TX.g_need_fresh (T : TX w K mg) : mg "need_fresh" = some (.ref (He.ga K "need_fresh")) := T.glo 4 rfl
theorem TX.g_need_short (T : TX w K mg) : mg "need_short" = some (.ref (He.ga K "need_short")) := T.glo 5 rfl
theorem TX.g_need_act (T : TX w K mg) : mg "need_act" = some (.ref (He.ga K "need_act")) := T.glo 6 rfl
theorem TX.g_need_wish (T : TX w K mg) : mg "need_wish" = some (.ref (He.ga K "need_wish")) := T.glo 7 rfl
theorem TX.g_lab_at (T : TX w K mg) : mg "lab_at" = some (.ref (He.ga K "lab_at")) := T.glo 8 rfl
theorem TX.g_with_lab (T : TX w K mg) : mg "with_lab" = some (.ref (He.ga K "with_lab")) := T.glo 9 rfl
theorem TX.g_do_lab (T : TX w K mg) : mg "do_lab" = some (.ref (He.ga K "do_lab")) := T.glo 10 rfl
theorem TX.g_do_drop (T : TX w K mg) : mg "do_drop" = some (.ref (He.ga K "do_drop")) := T.glo 11 rfl
theorem TX.g_do_machine (T : TX w K mg) : mg "do_machine" = some (.ref (He.ga K "do_machine")) := T.glo 12 rfl
theorem TX.g_do_row (T : TX w K mg) : mg "do_row" = some (.ref (He.ga K "do_row")) := T.glo 13 rfl
theorem TX.g_do_move (T : TX w K mg) : mg "do_move" = some (.ref (He.ga K "do_move")) := T.glo 14 rfl
theorem TX.g_do_strike (T : TX w K mg) : mg "do_strike" = some (.ref (He.ga K "do_strike")) := T.glo 15 rfl
theorem TX.g_do_wish (T : TX w K mg) : mg "do_wish" = some (.ref (He.ga K "do_wish")) := T.glo 16 rfl
theorem TX.g_do_unwish (T : TX w K mg) : mg "do_unwish" = some (.ref (He.ga K "do_unwish")) := T.glo 17 rfl
theorem TX.g_plain_done (T : TX w K mg) : mg "plain_done" = some (.ref (He.ga K "plain_done")) := T.glo 18 rfl
theorem TX.g_state_behind (T : TX w K mg) : mg "state_behind" = some (.ref (He.ga K "state_behind")) := T.glo 19 rfl
theorem TX.g_L_bag (T : TX w K mg) : mg "_law_bag" = some (.ref (He.ga K "_law_bag")) := T.glo 20 rfl
theorem TX.g_L_pull (T : TX w K mg) : mg "_law_pull" = some (.ref (He.ga K "_law_pull")) := T.glo 21 rfl
theorem TX.g_L_of (T : TX w K mg) : mg "_law_of" = some (.ref (He.ga K "_law_of")) := T.glo 22 rfl
theorem TX.g_L_same (T : TX w K mg) : mg "_law_same" = some (.ref (He.ga K "_law_same")) := T.glo 23 rfl
theorem TX.g_L_wild (T : TX w K mg) : mg "_law_wild" = some (.ref (He.ga K "_law_wild")) := T.glo 24 rfl
theorem TX.g_L_letters (T : TX w K mg) : mg "_law_letters" = some (.ref (He.ga K "_law_letters")) := T.glo 25 rfl
theorem TX.g_L_names (T : TX w K mg) : mg "_law_names" = some (.ref (He.ga K "_law_names")) := T.glo 26 rfl
theorem TX.g_L_word (T : TX w K mg) : mg "_law_word" = some (.ref (He.ga K "_law_word")) := T.glo 27 rfl
theorem TX.g_L_refusal (T : TX w K mg) : mg "_law_refusal" = some (.ref (He.ga K "_law_refusal")) := T.glo 28 rfl
theorem TX.g_L_word_of (T : TX w K mg) : mg "_law_word_of" = some (.ref (He.ga K "_law_word_of")) := T.glo 29 rfl
theorem TX.g_L_move_due (T : TX w K mg) : mg "_law_move_due" = some (.ref (He.ga K "_law_move_due")) := T.glo 30 rfl
theorem TX.g_L_pick (T : TX w K mg) : mg "_law_pick" = some (.ref (He.ga K "_law_pick")) := T.glo 31 rfl
theorem TX.g_L_drawn_act (T : TX w K mg) : mg "_law_drawn_act" = some (.ref (He.ga K "_law_drawn_act")) := T.glo 32 rfl
theorem TX.g_L_move_deed (T : TX w K mg) : mg "_law_move_deed" = some (.ref (He.ga K "_law_move_deed")) := T.glo 33 rfl
theorem TX.g_L_wish_deed (T : TX w K mg) : mg "_law_wish_deed" = some (.ref (He.ga K "_law_wish_deed")) := T.glo 34 rfl
theorem TX.g_L_deed (T : TX w K mg) : mg "_law_deed" = some (.ref (He.ga K "_law_deed")) := T.glo 35 rfl
theorem TX.g_L_wish_bad (T : TX w K mg) : mg "_law_wish_bad" = some (.ref (He.ga K "_law_wish_bad")) := T.glo 36 rfl
theorem TX.g_L_fresh_word (T : TX w K mg) : mg "_law_fresh_word" = some (.ref (He.ga K "_law_fresh_word")) := T.glo 37 rfl
theorem TX.g_L_lists_after (T : TX w K mg) : mg "_law_lists_after" = some (.ref (He.ga K "_law_lists_after")) := T.glo 38 rfl
theorem TX.g_L_word_due (T : TX w K mg) : mg "_law_word_due" = some (.ref (He.ga K "_law_word_due")) := T.glo 39 rfl
theorem TX.g_L_state_after (T : TX w K mg) : mg "_law_state_after" = some (.ref (He.ga K "_law_state_after")) := T.glo 40 rfl
theorem TX.g_L_refused_word (T : TX w K mg) : mg "_law_refused_word" = some (.ref (He.ga K "_law_refused_word")) := T.glo 41 rfl
theorem TX.g_L_stands_so (T : TX w K mg) : mg "_law_stands_so" = some (.ref (He.ga K "_law_stands_so")) := T.glo 42 rfl
theorem TX.g_L_step_done (T : TX w K mg) : mg "_law_step_done" = some (.ref (He.ga K "_law_step_done")) := T.glo 43 rfl
theorem TX.g_L_edit_word (T : TX w K mg) : mg "_law_edit_word" = some (.ref (He.ga K "_law_edit_word")) := T.glo 44 rfl
theorem TX.g_law (T : TX w K mg) : mg "law" = some (.ref (He.ga K "law")) := T.glo 45 rfl
theorem TX.g_LeakError (T : TX w K mg) : mg "LeakError" = some (.ref (He.ga K "LeakError")) := T.glo 46 rfl
theorem TX.g_BadName (T : TX w K mg) : mg "BadName" = some (.ref (He.ga K "BadName")) := T.glo 47 rfl
theorem TX.g_BadWord (T : TX w K mg) : mg "BadWord" = some (.ref (He.ga K "BadWord")) := T.glo 48 rfl
theorem TX.g_BadAct (T : TX w K mg) : mg "BadAct" = some (.ref (He.ga K "BadAct")) := T.glo 49 rfl
theorem TX.g_BadWish (T : TX w K mg) : mg "BadWish" = some (.ref (He.ga K "BadWish")) := T.glo 50 rfl
theorem TX.g_BadDeed (T : TX w K mg) : mg "BadDeed" = some (.ref (He.ga K "BadDeed")) := T.glo 51 rfl
theorem TX.g_Taken (T : TX w K mg) : mg "Taken" = some (.ref (He.ga K "Taken")) := T.glo 52 rfl
theorem TX.g_Full (T : TX w K mg) : mg "Full" = some (.ref (He.ga K "Full")) := T.glo 53 rfl
theorem TX.g_NoMachine (T : TX w K mg) : mg "NoMachine" = some (.ref (He.ga K "NoMachine")) := T.glo 54 rfl
theorem TX.g_NoRow (T : TX w K mg) : mg "NoRow" = some (.ref (He.ga K "NoRow")) := T.glo 55 rfl
theorem TX.g_NoMove (T : TX w K mg) : mg "NoMove" = some (.ref (He.ga K "NoMove")) := T.glo 56 rfl
theorem TX.g_NoLab (T : TX w K mg) : mg "NoLab" = some (.ref (He.ga K "NoLab")) := T.glo 57 rfl
theorem TX.g_NoWish (T : TX w K mg) : mg "NoWish" = some (.ref (He.ga K "NoWish")) := T.glo 58 rfl
theorem TX.g_Lab (T : TX w K mg) : mg "Lab" = some (.ref (He.ga K "Lab")) := T.glo 59 rfl
theorem TX.g_Bench (T : TX w K mg) : mg "Bench" = some (.ref (He.ga K "Bench")) := T.glo 60 rfl
theorem TX.g_SIZES_lab (T : TX w K mg) : mg "SIZES_lab" = some (.ref (He.ga K "SIZES_lab")) := T.glo 61 rfl
theorem TX.g_SIZES_bench (T : TX w K mg) : mg "SIZES_bench" = some (.ref (He.ga K "SIZES_bench")) := T.glo 62 rfl
theorem TX.g_ONES (T : TX w K mg) : mg "ONES" = some (.ref (He.ga K "ONES")) := T.glo 63 rfl
theorem TX.g_THREES (T : TX w K mg) : mg "THREES" = some (.ref (He.ga K "THREES")) := T.glo 64 rfl
theorem TX.f_all (T : TX w K mg) : mg "all" = none := T.free 65 rfl
theorem TX.f_any (T : TX w K mg) : mg "any" = none := T.free 66 rfl
theorem TX.f_len (T : TX w K mg) : mg "len" = none := T.free 67 rfl
theorem TX.f_list (T : TX w K mg) : mg "list" = none := T.free 68 rfl
theorem TX.f_dict (T : TX w K mg) : mg "dict" = none := T.free 69 rfl
theorem TX.f_tuple (T : TX w K mg) : mg "tuple" = none := T.free 70 rfl
theorem TX.f_sorted (T : TX w K mg) : mg "sorted" = none := T.free 71 rfl
theorem TX.f_set (T : TX w K mg) : mg "set" = none := T.free 72 rfl
theorem TX.f_str (T : TX w K mg) : mg "str" = none := T.free 73 rfl
theorem TX.f_int (T : TX w K mg) : mg "int" = none := T.free 74 rfl
theorem TX.f_isinstance (T : TX w K mg) : mg "isinstance" = none := T.free 75 rfl
theorem TX.f_range (T : TX w K mg) : mg "range" = none := T.free 76 rfl
theorem TX.f_zip (T : TX w K mg) : mg "zip" = none := T.free 77 rfl
theorem TX.f_repr (T : TX w K mg) : mg "repr" = none := T.free 78 rfl
theorem TX.f_ValueError (T : TX w K mg) : mg "ValueError" = none := T.free 79 rfl
theorem TX.f_LookupError (T : TX w K mg) : mg "LookupError" = none := T.free 80 rfl
theorem TX.i_LONGEST_NAME (T : TX w K mg) : ∃ t, mg "LONGEST_NAME" = some (.int 8 t) := T.int 81 rfl
theorem TX.i_LONGEST_WORD (T : TX w K mg) : ∃ t, mg "LONGEST_WORD" = some (.int 8 t) := T.int 82 rfl
theorem TX.i_MOST_MACHINES (T : TX w K mg) : ∃ t, mg "MOST_MACHINES" = some (.int 3 t) := T.int 83 rfl
theorem TX.i_MOST_ROWS (T : TX w K mg) : ∃ t, mg "MOST_ROWS" = some (.int 3 t) := T.int 84 rfl
theorem TX.i_MOST_MOVES (T : TX w K mg) : ∃ t, mg "MOST_MOVES" = some (.int 24 t) := T.int 85 rfl
theorem TX.i_MOST_STANDS (T : TX w K mg) : ∃ t, mg "MOST_STANDS" = some (.int 6 t) := T.int 86 rfl
theorem TX.i_MOST_LABS (T : TX w K mg) : ∃ t, mg "MOST_LABS" = some (.int 6 t) := T.int 87 rfl
theorem TX.i_MOST_WISHES (T : TX w K mg) : ∃ t, mg "MOST_WISHES" = some (.int 12 t) := T.int 88 rfl
theorem TX.f_bool (T : TX w K mg) : mg "bool" = none := T.free 170 rfl
theorem TX.t_LETTERS (T : TX w K mg) : ∃ t, mg "LETTERS" = some (.str "abcdefghijklmnopqrstuvwxyz" t) := T.str 89 rfl
theorem TX.c_Lab (T : TX w K mg) : Cls K (He.ga K "Lab") := He.cls_ok (T.says.d.fact 90 (f := .cls "Lab") rfl)
theorem TX.mk_Lab (T : TX w K mg) : Mk K (He.ga K "Lab") (He.ma K (He.ga K "Lab") "__init__") := He.mkr_ok (T.says.d.fact 91 (f := .mkr "Lab") rfl)
theorem TX.kp_Lab (T : TX w K mg) : PySem.W.keepIn K (.ref (He.ga K "Lab")) = true := He.keep_ok (T.says.d.fact 92 (f := .keep "Lab") rfl)
theorem TX.m_Lab_take_machine (T : TX w K mg) : Meth K (He.ga K "Lab") "take_machine" (He.ma K (He.ga K "Lab") "take_machine") := He.meth_ok (T.says.d.fact 93 (f := .meth "Lab" "take_machine") rfl)
theorem TX.m_Lab_take_row (T : TX w K mg) : Meth K (He.ga K "Lab") "take_row" (He.ma K (He.ga K "Lab") "take_row") := He.meth_ok (T.says.d.fact 94 (f := .meth "Lab" "take_row") rfl)
theorem TX.m_Lab_take_move (T : TX w K mg) : Meth K (He.ga K "Lab") "take_move" (He.ma K (He.ga K "Lab") "take_move") := He.meth_ok (T.says.d.fact 95 (f := .meth "Lab" "take_move") rfl)
theorem TX.m_Lab_look_full (T : TX w K mg) : Meth K (He.ga K "Lab") "look_full" (He.ma K (He.ga K "Lab") "look_full") := He.meth_ok (T.says.d.fact 96 (f := .meth "Lab" "look_full") rfl)
theorem TX.m_Lab_stands_of (T : TX w K mg) : Meth K (He.ga K "Lab") "stands_of" (He.ma K (He.ga K "Lab") "stands_of") := He.meth_ok (T.says.d.fact 97 (f := .meth "Lab" "stands_of") rfl)
theorem TX.m_Lab_machines (T : TX w K mg) : Meth K (He.ga K "Lab") "machines" (He.ma K (He.ga K "Lab") "machines") := He.meth_ok (T.says.d.fact 98 (f := .meth "Lab" "machines") rfl)
theorem TX.m_Lab_rows (T : TX w K mg) : Meth K (He.ga K "Lab") "rows" (He.ma K (He.ga K "Lab") "rows") := He.meth_ok (T.says.d.fact 99 (f := .meth "Lab" "rows") rfl)
theorem TX.m_Lab_moves (T : TX w K mg) : Meth K (He.ga K "Lab") "moves" (He.ma K (He.ga K "Lab") "moves") := He.meth_ok (T.says.d.fact 100 (f := .meth "Lab" "moves") rfl)
theorem TX.m_Lab_move_at (T : TX w K mg) : Meth K (He.ga K "Lab") "move_at" (He.ma K (He.ga K "Lab") "move_at") := He.meth_ok (T.says.d.fact 101 (f := .meth "Lab" "move_at") rfl)
theorem TX.c_Bench (T : TX w K mg) : Cls K (He.ga K "Bench") := He.cls_ok (T.says.d.fact 102 (f := .cls "Bench") rfl)
theorem TX.mk_Bench (T : TX w K mg) : Mk K (He.ga K "Bench") (He.ma K (He.ga K "Bench") "__init__") := He.mkr_ok (T.says.d.fact 103 (f := .mkr "Bench") rfl)
theorem TX.kp_Bench (T : TX w K mg) : PySem.W.keepIn K (.ref (He.ga K "Bench")) = true := He.keep_ok (T.says.d.fact 104 (f := .keep "Bench") rfl)
theorem TX.m_Bench_len (T : TX w K mg) : Meth K (He.ga K "Bench") "__len__" (He.ma K (He.ga K "Bench") "__len__") := He.meth_ok (T.says.d.fact 105 (f := .meth "Bench" "__len__") rfl)
theorem TX.m_Bench_repr (T : TX w K mg) : Meth K (He.ga K "Bench") "__repr__" (He.ma K (He.ga K "Bench") "__repr__") := He.meth_ok (T.says.d.fact 106 (f := .meth "Bench" "__repr__") rfl)
theorem TX.m_Bench_do (T : TX w K mg) : Meth K (He.ga K "Bench") "do" (He.ma K (He.ga K "Bench") "do") := He.meth_ok (T.says.d.fact 107 (f := .meth "Bench" "do") rfl)
theorem TX.m_Bench_labs (T : TX w K mg) : Meth K (He.ga K "Bench") "labs" (He.ma K (He.ga K "Bench") "labs") := He.meth_ok (T.says.d.fact 108 (f := .meth "Bench" "labs") rfl)
theorem TX.m_Bench_wishes (T : TX w K mg) : Meth K (He.ga K "Bench") "wishes" (He.ma K (He.ga K "Bench") "wishes") := He.meth_ok (T.says.d.fact 109 (f := .meth "Bench" "wishes") rfl)
theorem TX.m_Bench_lab_of (T : TX w K mg) : Meth K (He.ga K "Bench") "lab_of" (He.ma K (He.ga K "Bench") "lab_of") := He.meth_ok (T.says.d.fact 110 (f := .meth "Bench" "lab_of") rfl)
theorem TX.m_Bench_wish_of (T : TX w K mg) : Meth K (He.ga K "Bench") "wish_of" (He.ma K (He.ga K "Bench") "wish_of") := He.meth_ok (T.says.d.fact 111 (f := .meth "Bench" "wish_of") rfl)
theorem TX.n_Lab_firsts (T : TX w K mg) : NoAttr K (He.ga K "Lab") "firsts" := He.noat_ok (T.says.d.fact 112 (f := .noat "Lab" "firsts") rfl)
theorem TX.n_Lab_words (T : TX w K mg) : NoAttr K (He.ga K "Lab") "words" := He.noat_ok (T.says.d.fact 113 (f := .noat "Lab" "words") rfl)
theorem TX.n_Lab_steps (T : TX w K mg) : NoAttr K (He.ga K "Lab") "steps" := He.noat_ok (T.says.d.fact 114 (f := .noat "Lab" "steps") rfl)
theorem TX.n_Lab_names (T : TX w K mg) : NoAttr K (He.ga K "Lab") "names" := He.noat_ok (T.says.d.fact 115 (f := .noat "Lab" "names") rfl)
theorem TX.n_Lab_row_names (T : TX w K mg) : NoAttr K (He.ga K "Lab") "row_names" := He.noat_ok (T.says.d.fact 116 (f := .noat "Lab" "row_names") rfl)
theorem TX.n_Bench_now (T : TX w K mg) : NoAttr K (He.ga K "Bench") "now" := He.noat_ok (T.says.d.fact 117 (f := .noat "Bench" "now") rfl)
theorem TX.n_Bench_past (T : TX w K mg) : NoAttr K (He.ga K "Bench") "past" := He.noat_ok (T.says.d.fact 118 (f := .noat "Bench" "past") rfl)
theorem TX.n_Bench_ahead (T : TX w K mg) : NoAttr K (He.ga K "Bench") "ahead" := He.noat_ok (T.says.d.fact 119 (f := .noat "Bench" "ahead") rfl)
theorem TX.n_Bench_papers (T : TX w K mg) : NoAttr K (He.ga K "Bench") "papers" := He.noat_ok (T.says.d.fact 120 (f := .noat "Bench" "papers") rfl)
theorem TX.n_Bench_searches (T : TX w K mg) : NoAttr K (He.ga K "Bench") "searches" := He.noat_ok (T.says.d.fact 121 (f := .noat "Bench" "searches") rfl)
theorem TX.kp_BadName (T : TX w K mg) : PySem.W.keepIn K (.ref (He.ga K "BadName")) = true := He.keep_ok (T.says.d.fact 122 (f := .keep "BadName") rfl)
theorem TX.kp_BadWord (T : TX w K mg) : PySem.W.keepIn K (.ref (He.ga K "BadWord")) = true := He.keep_ok (T.says.d.fact 123 (f := .keep "BadWord") rfl)
theorem TX.kp_BadAct (T : TX w K mg) : PySem.W.keepIn K (.ref (He.ga K "BadAct")) = true := He.keep_ok (T.says.d.fact 124 (f := .keep "BadAct") rfl)
theorem TX.kp_BadWish (T : TX w K mg) : PySem.W.keepIn K (.ref (He.ga K "BadWish")) = true := He.keep_ok (T.says.d.fact 125 (f := .keep "BadWish") rfl)
theorem TX.kp_BadDeed (T : TX w K mg) : PySem.W.keepIn K (.ref (He.ga K "BadDeed")) = true := He.keep_ok (T.says.d.fact 126 (f := .keep "BadDeed") rfl)
theorem TX.kp_Taken (T : TX w K mg) : PySem.W.keepIn K (.ref (He.ga K "Taken")) = true := He.keep_ok (T.says.d.fact 127 (f := .keep "Taken") rfl)
theorem TX.kp_Full (T : TX w K mg) : PySem.W.keepIn K (.ref (He.ga K "Full")) = true := He.keep_ok (T.says.d.fact 128 (f := .keep "Full") rfl)
theorem TX.kp_NoMachine (T : TX w K mg) : PySem.W.keepIn K (.ref (He.ga K "NoMachine")) = true := He.keep_ok (T.says.d.fact 129 (f := .keep "NoMachine") rfl)
theorem TX.kp_NoRow (T : TX w K mg) : PySem.W.keepIn K (.ref (He.ga K "NoRow")) = true := He.keep_ok (T.says.d.fact 130 (f := .keep "NoRow") rfl)
theorem TX.kp_NoMove (T : TX w K mg) : PySem.W.keepIn K (.ref (He.ga K "NoMove")) = true := He.keep_ok (T.says.d.fact 131 (f := .keep "NoMove") rfl)
theorem TX.kp_NoLab (T : TX w K mg) : PySem.W.keepIn K (.ref (He.ga K "NoLab")) = true := He.keep_ok (T.says.d.fact 132 (f := .keep "NoLab") rfl)
theorem TX.kp_NoWish (T : TX w K mg) : PySem.W.keepIn K (.ref (He.ga K "NoWish")) = true := He.keep_ok (T.says.d.fact 133 (f := .keep "NoWish") rfl)
theorem TX.n_BadName_word (T : TX w K mg) : NoAttr K (He.ga K "BadName") "word" := He.noat_ok (T.says.d.fact 134 (f := .noat "BadName" "word") rfl)
theorem TX.n_BadName_at (T : TX w K mg) : NoAttr K (He.ga K "BadName") "at" := He.noat_ok (T.says.d.fact 135 (f := .noat "BadName" "at") rfl)
theorem TX.x_BadName (T : TX w K mg) : PySem.W.exmOne K (.ref (He.ga K "BadName")) (.ref (He.ga K "LeakError")) = some true := He.exm_ok (T.says.d.fact 136 (f := .exm "BadName" "LeakError" true) rfl)
theorem TX.n_BadWord_word (T : TX w K mg) : NoAttr K (He.ga K "BadWord") "word" := He.noat_ok (T.says.d.fact 137 (f := .noat "BadWord" "word") rfl)
theorem TX.n_BadWord_at (T : TX w K mg) : NoAttr K (He.ga K "BadWord") "at" := He.noat_ok (T.says.d.fact 138 (f := .noat "BadWord" "at") rfl)
theorem TX.x_BadWord (T : TX w K mg) : PySem.W.exmOne K (.ref (He.ga K "BadWord")) (.ref (He.ga K "LeakError")) = some true := He.exm_ok (T.says.d.fact 139 (f := .exm "BadWord" "LeakError" true) rfl)
theorem TX.n_BadAct_word (T : TX w K mg) : NoAttr K (He.ga K "BadAct") "word" := He.noat_ok (T.says.d.fact 140 (f := .noat "BadAct" "word") rfl)
theorem TX.n_BadAct_at (T : TX w K mg) : NoAttr K (He.ga K "BadAct") "at" := He.noat_ok (T.says.d.fact 141 (f := .noat "BadAct" "at") rfl)
theorem TX.x_BadAct (T : TX w K mg) : PySem.W.exmOne K (.ref (He.ga K "BadAct")) (.ref (He.ga K "LeakError")) = some true := He.exm_ok (T.says.d.fact 142 (f := .exm "BadAct" "LeakError" true) rfl)
theorem TX.n_BadWish_word (T : TX w K mg) : NoAttr K (He.ga K "BadWish") "word" := He.noat_ok (T.says.d.fact 143 (f := .noat "BadWish" "word") rfl)
theorem TX.n_BadWish_at (T : TX w K mg) : NoAttr K (He.ga K "BadWish") "at" := He.noat_ok (T.says.d.fact 144 (f := .noat "BadWish" "at") rfl)
theorem TX.x_BadWish (T : TX w K mg) : PySem.W.exmOne K (.ref (He.ga K "BadWish")) (.ref (He.ga K "LeakError")) = some true := He.exm_ok (T.says.d.fact 145 (f := .exm "BadWish" "LeakError" true) rfl)
theorem TX.n_BadDeed_word (T : TX w K mg) : NoAttr K (He.ga K "BadDeed") "word" := He.noat_ok (T.says.d.fact 146 (f := .noat "BadDeed" "word") rfl)
theorem TX.n_BadDeed_at (T : TX w K mg) : NoAttr K (He.ga K "BadDeed") "at" := He.noat_ok (T.says.d.fact 147 (f := .noat "BadDeed" "at") rfl)
theorem TX.x_BadDeed (T : TX w K mg) : PySem.W.exmOne K (.ref (He.ga K "BadDeed")) (.ref (He.ga K "LeakError")) = some true := He.exm_ok (T.says.d.fact 148 (f := .exm "BadDeed" "LeakError" true) rfl)
theorem TX.n_Taken_word (T : TX w K mg) : NoAttr K (He.ga K "Taken") "word" := He.noat_ok (T.says.d.fact 149 (f := .noat "Taken" "word") rfl)
theorem TX.n_Taken_at (T : TX w K mg) : NoAttr K (He.ga K "Taken") "at" := He.noat_ok (T.says.d.fact 150 (f := .noat "Taken" "at") rfl)
theorem TX.x_Taken (T : TX w K mg) : PySem.W.exmOne K (.ref (He.ga K "Taken")) (.ref (He.ga K "LeakError")) = some true := He.exm_ok (T.says.d.fact 151 (f := .exm "Taken" "LeakError" true) rfl)
theorem TX.n_Full_word (T : TX w K mg) : NoAttr K (He.ga K "Full") "word" := He.noat_ok (T.says.d.fact 152 (f := .noat "Full" "word") rfl)
theorem TX.n_Full_at (T : TX w K mg) : NoAttr K (He.ga K "Full") "at" := He.noat_ok (T.says.d.fact 153 (f := .noat "Full" "at") rfl)
theorem TX.x_Full (T : TX w K mg) : PySem.W.exmOne K (.ref (He.ga K "Full")) (.ref (He.ga K "LeakError")) = some true := He.exm_ok (T.says.d.fact 154 (f := .exm "Full" "LeakError" true) rfl)
theorem TX.n_NoMachine_word (T : TX w K mg) : NoAttr K (He.ga K "NoMachine") "word" := He.noat_ok (T.says.d.fact 155 (f := .noat "NoMachine" "word") rfl)
theorem TX.n_NoMachine_at (T : TX w K mg) : NoAttr K (He.ga K "NoMachine") "at" := He.noat_ok (T.says.d.fact 156 (f := .noat "NoMachine" "at") rfl)
theorem TX.x_NoMachine (T : TX w K mg) : PySem.W.exmOne K (.ref (He.ga K "NoMachine")) (.ref (He.ga K "LeakError")) = some true := He.exm_ok (T.says.d.fact 157 (f := .exm "NoMachine" "LeakError" true) rfl)
theorem TX.n_NoRow_word (T : TX w K mg) : NoAttr K (He.ga K "NoRow") "word" := He.noat_ok (T.says.d.fact 158 (f := .noat "NoRow" "word") rfl)
theorem TX.n_NoRow_at (T : TX w K mg) : NoAttr K (He.ga K "NoRow") "at" := He.noat_ok (T.says.d.fact 159 (f := .noat "NoRow" "at") rfl)
theorem TX.x_NoRow (T : TX w K mg) : PySem.W.exmOne K (.ref (He.ga K "NoRow")) (.ref (He.ga K "LeakError")) = some true := He.exm_ok (T.says.d.fact 160 (f := .exm "NoRow" "LeakError" true) rfl)
theorem TX.n_NoMove_word (T : TX w K mg) : NoAttr K (He.ga K "NoMove") "word" := He.noat_ok (T.says.d.fact 161 (f := .noat "NoMove" "word") rfl)
theorem TX.n_NoMove_at (T : TX w K mg) : NoAttr K (He.ga K "NoMove") "at" := He.noat_ok (T.says.d.fact 162 (f := .noat "NoMove" "at") rfl)
theorem TX.x_NoMove (T : TX w K mg) : PySem.W.exmOne K (.ref (He.ga K "NoMove")) (.ref (He.ga K "LeakError")) = some true := He.exm_ok (T.says.d.fact 163 (f := .exm "NoMove" "LeakError" true) rfl)
theorem TX.n_NoLab_word (T : TX w K mg) : NoAttr K (He.ga K "NoLab") "word" := He.noat_ok (T.says.d.fact 164 (f := .noat "NoLab" "word") rfl)
theorem TX.n_NoLab_at (T : TX w K mg) : NoAttr K (He.ga K "NoLab") "at" := He.noat_ok (T.says.d.fact 165 (f := .noat "NoLab" "at") rfl)
theorem TX.x_NoLab (T : TX w K mg) : PySem.W.exmOne K (.ref (He.ga K "NoLab")) (.ref (He.ga K "LeakError")) = some true := He.exm_ok (T.says.d.fact 166 (f := .exm "NoLab" "LeakError" true) rfl)
theorem TX.n_NoWish_word (T : TX w K mg) : NoAttr K (He.ga K "NoWish") "word" := He.noat_ok (T.says.d.fact 167 (f := .noat "NoWish" "word") rfl)
theorem TX.n_NoWish_at (T : TX w K mg) : NoAttr K (He.ga K "NoWish") "at" := He.noat_ok (T.says.d.fact 168 (f := .noat "NoWish" "at") rfl)
theorem TX.x_NoWish (T : TX w K mg) : PySem.W.exmOne K (.ref (He.ga K "NoWish")) (.ref (He.ga K "LeakError")) = some true := He.exm_ok (T.says.d.fact 169 (f := .exm "NoWish" "LeakError" true) rfl)
theorem TX.fd_is_word (T : TX w K mg) : ∃ fd, FunD K d_is_word.name d_is_word.qual d_is_word.params d_is_word.body d_is_word.scope (d_is_word.dvs K) (d_is_word.kws K) (He.fAd K d_is_word.at_) fd := T.says.d.def_ 0 (d := d_is_word) rfl
theorem TX.fd_is_letter (T : TX w K mg) : ∃ fd, FunD K d_is_letter.name d_is_letter.qual d_is_letter.params d_is_letter.body d_is_letter.scope (d_is_letter.dvs K) (d_is_letter.kws K) (He.fAd K d_is_letter.at_) fd := T.says.d.def_ 1 (d := d_is_letter) rfl
theorem TX.fd_is_name (T : TX w K mg) : ∃ fd, FunD K d_is_name.name d_is_name.qual d_is_name.params d_is_name.body d_is_name.scope (d_is_name.dvs K) (d_is_name.kws K) (He.fAd K d_is_name.at_) fd := T.says.d.def_ 2 (d := d_is_name) rfl
theorem TX.fd_need_name (T : TX w K mg) : ∃ fd, FunD K d_need_name.name d_need_name.qual d_need_name.params d_need_name.body d_need_name.scope (d_need_name.dvs K) (d_need_name.kws K) (He.fAd K d_need_name.at_) fd := T.says.d.def_ 3 (d := d_need_name) rfl
theorem TX.fd_need_fresh (T : TX w K mg) : ∃ fd, FunD K d_need_fresh.name d_need_fresh.qual d_need_fresh.params d_need_fresh.body d_need_fresh.scope (d_need_fresh.dvs K) (d_need_fresh.kws K) (He.fAd K d_need_fresh.at_) fd := T.says.d.def_ 4 (d := d_need_fresh) rfl
theorem TX.fd_need_short (T : TX w K mg) : ∃ fd, FunD K d_need_short.name d_need_short.qual d_need_short.params d_need_short.body d_need_short.scope (d_need_short.dvs K) (d_need_short.kws K) (He.fAd K d_need_short.at_) fd := T.says.d.def_ 5 (d := d_need_short) rfl
theorem TX.fd_need_act (T : TX w K mg) : ∃ fd, FunD K d_need_act.name d_need_act.qual d_need_act.params d_need_act.body d_need_act.scope (d_need_act.dvs K) (d_need_act.kws K) (He.fAd K d_need_act.at_) fd := T.says.d.def_ 6 (d := d_need_act) rfl
theorem TX.fd_need_wish (T : TX w K mg) : ∃ fd, FunD K d_need_wish.name d_need_wish.qual d_need_wish.params d_need_wish.body d_need_wish.scope (d_need_wish.dvs K) (d_need_wish.kws K) (He.fAd K d_need_wish.at_) fd := T.says.d.def_ 7 (d := d_need_wish) rfl
theorem TX.fd_lab_at (T : TX w K mg) : ∃ fd, FunD K d_lab_at.name d_lab_at.qual d_lab_at.params d_lab_at.body d_lab_at.scope (d_lab_at.dvs K) (d_lab_at.kws K) (He.fAd K d_lab_at.at_) fd := T.says.d.def_ 8 (d := d_lab_at) rfl
theorem TX.fd_with_lab (T : TX w K mg) : ∃ fd, FunD K d_with_lab.name d_with_lab.qual d_with_lab.params d_with_lab.body d_with_lab.scope (d_with_lab.dvs K) (d_with_lab.kws K) (He.fAd K d_with_lab.at_) fd := T.says.d.def_ 9 (d := d_with_lab) rfl
theorem TX.fd_do_lab (T : TX w K mg) : ∃ fd, FunD K d_do_lab.name d_do_lab.qual d_do_lab.params d_do_lab.body d_do_lab.scope (d_do_lab.dvs K) (d_do_lab.kws K) (He.fAd K d_do_lab.at_) fd := T.says.d.def_ 10 (d := d_do_lab) rfl
theorem TX.fd_do_drop (T : TX w K mg) : ∃ fd, FunD K d_do_drop.name d_do_drop.qual d_do_drop.params d_do_drop.body d_do_drop.scope (d_do_drop.dvs K) (d_do_drop.kws K) (He.fAd K d_do_drop.at_) fd := T.says.d.def_ 11 (d := d_do_drop) rfl
theorem TX.fd_do_machine (T : TX w K mg) : ∃ fd, FunD K d_do_machine.name d_do_machine.qual d_do_machine.params d_do_machine.body d_do_machine.scope (d_do_machine.dvs K) (d_do_machine.kws K) (He.fAd K d_do_machine.at_) fd := T.says.d.def_ 12 (d := d_do_machine) rfl
theorem TX.fd_do_row (T : TX w K mg) : ∃ fd, FunD K d_do_row.name d_do_row.qual d_do_row.params d_do_row.body d_do_row.scope (d_do_row.dvs K) (d_do_row.kws K) (He.fAd K d_do_row.at_) fd := T.says.d.def_ 13 (d := d_do_row) rfl
theorem TX.fd_do_move (T : TX w K mg) : ∃ fd, FunD K d_do_move.name d_do_move.qual d_do_move.params d_do_move.body d_do_move.scope (d_do_move.dvs K) (d_do_move.kws K) (He.fAd K d_do_move.at_) fd := T.says.d.def_ 14 (d := d_do_move) rfl
theorem TX.fd_do_strike (T : TX w K mg) : ∃ fd, FunD K d_do_strike.name d_do_strike.qual d_do_strike.params d_do_strike.body d_do_strike.scope (d_do_strike.dvs K) (d_do_strike.kws K) (He.fAd K d_do_strike.at_) fd := T.says.d.def_ 15 (d := d_do_strike) rfl
theorem TX.fd_do_wish (T : TX w K mg) : ∃ fd, FunD K d_do_wish.name d_do_wish.qual d_do_wish.params d_do_wish.body d_do_wish.scope (d_do_wish.dvs K) (d_do_wish.kws K) (He.fAd K d_do_wish.at_) fd := T.says.d.def_ 16 (d := d_do_wish) rfl
theorem TX.fd_do_unwish (T : TX w K mg) : ∃ fd, FunD K d_do_unwish.name d_do_unwish.qual d_do_unwish.params d_do_unwish.body d_do_unwish.scope (d_do_unwish.dvs K) (d_do_unwish.kws K) (He.fAd K d_do_unwish.at_) fd := T.says.d.def_ 17 (d := d_do_unwish) rfl
theorem TX.fd_plain_done (T : TX w K mg) : ∃ fd, FunD K d_plain_done.name d_plain_done.qual d_plain_done.params d_plain_done.body d_plain_done.scope (d_plain_done.dvs K) (d_plain_done.kws K) (He.fAd K d_plain_done.at_) fd := T.says.d.def_ 18 (d := d_plain_done) rfl
theorem TX.fd_state_behind (T : TX w K mg) : ∃ fd, FunD K d_state_behind.name d_state_behind.qual d_state_behind.params d_state_behind.body d_state_behind.scope (d_state_behind.dvs K) (d_state_behind.kws K) (He.fAd K d_state_behind.at_) fd := T.says.d.def_ 19 (d := d_state_behind) rfl
theorem TX.fd_L_bag (T : TX w K mg) : ∃ fd, FunD K d_L_bag.name d_L_bag.qual d_L_bag.params d_L_bag.body d_L_bag.scope (d_L_bag.dvs K) (d_L_bag.kws K) (He.fAd K d_L_bag.at_) fd := T.says.d.def_ 20 (d := d_L_bag) rfl
theorem TX.fd_L_pull (T : TX w K mg) : ∃ fd, FunD K d_L_pull.name d_L_pull.qual d_L_pull.params d_L_pull.body d_L_pull.scope (d_L_pull.dvs K) (d_L_pull.kws K) (He.fAd K d_L_pull.at_) fd := T.says.d.def_ 21 (d := d_L_pull) rfl
theorem TX.fd_L_of (T : TX w K mg) : ∃ fd, FunD K d_L_of.name d_L_of.qual d_L_of.params d_L_of.body d_L_of.scope (d_L_of.dvs K) (d_L_of.kws K) (He.fAd K d_L_of.at_) fd := T.says.d.def_ 22 (d := d_L_of) rfl
theorem TX.fd_L_same (T : TX w K mg) : ∃ fd, FunD K d_L_same.name d_L_same.qual d_L_same.params d_L_same.body d_L_same.scope (d_L_same.dvs K) (d_L_same.kws K) (He.fAd K d_L_same.at_) fd := T.says.d.def_ 23 (d := d_L_same) rfl
theorem TX.fd_L_wild (T : TX w K mg) : ∃ fd, FunD K d_L_wild.name d_L_wild.qual d_L_wild.params d_L_wild.body d_L_wild.scope (d_L_wild.dvs K) (d_L_wild.kws K) (He.fAd K d_L_wild.at_) fd := T.says.d.def_ 24 (d := d_L_wild) rfl
theorem TX.fd_L_letters (T : TX w K mg) : ∃ fd, FunD K d_L_letters.name d_L_letters.qual d_L_letters.params d_L_letters.body d_L_letters.scope (d_L_letters.dvs K) (d_L_letters.kws K) (He.fAd K d_L_letters.at_) fd := T.says.d.def_ 25 (d := d_L_letters) rfl
theorem TX.fd_L_names (T : TX w K mg) : ∃ fd, FunD K d_L_names.name d_L_names.qual d_L_names.params d_L_names.body d_L_names.scope (d_L_names.dvs K) (d_L_names.kws K) (He.fAd K d_L_names.at_) fd := T.says.d.def_ 26 (d := d_L_names) rfl
theorem TX.fd_L_word (T : TX w K mg) : ∃ fd, FunD K d_L_word.name d_L_word.qual d_L_word.params d_L_word.body d_L_word.scope (d_L_word.dvs K) (d_L_word.kws K) (He.fAd K d_L_word.at_) fd := T.says.d.def_ 27 (d := d_L_word) rfl
theorem TX.fd_L_refusal (T : TX w K mg) : ∃ fd, FunD K d_L_refusal.name d_L_refusal.qual d_L_refusal.params d_L_refusal.body d_L_refusal.scope (d_L_refusal.dvs K) (d_L_refusal.kws K) (He.fAd K d_L_refusal.at_) fd := T.says.d.def_ 28 (d := d_L_refusal) rfl
theorem TX.fd_L_word_of (T : TX w K mg) : ∃ fd, FunD K d_L_word_of.name d_L_word_of.qual d_L_word_of.params d_L_word_of.body d_L_word_of.scope (d_L_word_of.dvs K) (d_L_word_of.kws K) (He.fAd K d_L_word_of.at_) fd := T.says.d.def_ 29 (d := d_L_word_of) rfl
theorem TX.fd_L_move_due (T : TX w K mg) : ∃ fd, FunD K d_L_move_due.name d_L_move_due.qual d_L_move_due.params d_L_move_due.body d_L_move_due.scope (d_L_move_due.dvs K) (d_L_move_due.kws K) (He.fAd K d_L_move_due.at_) fd := T.says.d.def_ 30 (d := d_L_move_due) rfl
theorem TX.fd_L_pick (T : TX w K mg) : ∃ fd, FunD K d_L_pick.name d_L_pick.qual d_L_pick.params d_L_pick.body d_L_pick.scope (d_L_pick.dvs K) (d_L_pick.kws K) (He.fAd K d_L_pick.at_) fd := T.says.d.def_ 31 (d := d_L_pick) rfl
theorem TX.fd_L_drawn_act (T : TX w K mg) : ∃ fd, FunD K d_L_drawn_act.name d_L_drawn_act.qual d_L_drawn_act.params d_L_drawn_act.body d_L_drawn_act.scope (d_L_drawn_act.dvs K) (d_L_drawn_act.kws K) (He.fAd K d_L_drawn_act.at_) fd := T.says.d.def_ 32 (d := d_L_drawn_act) rfl
theorem TX.fd_L_move_deed (T : TX w K mg) : ∃ fd, FunD K d_L_move_deed.name d_L_move_deed.qual d_L_move_deed.params d_L_move_deed.body d_L_move_deed.scope (d_L_move_deed.dvs K) (d_L_move_deed.kws K) (He.fAd K d_L_move_deed.at_) fd := T.says.d.def_ 33 (d := d_L_move_deed) rfl
theorem TX.fd_L_wish_deed (T : TX w K mg) : ∃ fd, FunD K d_L_wish_deed.name d_L_wish_deed.qual d_L_wish_deed.params d_L_wish_deed.body d_L_wish_deed.scope (d_L_wish_deed.dvs K) (d_L_wish_deed.kws K) (He.fAd K d_L_wish_deed.at_) fd := T.says.d.def_ 34 (d := d_L_wish_deed) rfl
theorem TX.fd_L_deed (T : TX w K mg) : ∃ fd, FunD K d_L_deed.name d_L_deed.qual d_L_deed.params d_L_deed.body d_L_deed.scope (d_L_deed.dvs K) (d_L_deed.kws K) (He.fAd K d_L_deed.at_) fd := T.says.d.def_ 35 (d := d_L_deed) rfl
theorem TX.fd_L_wish_bad (T : TX w K mg) : ∃ fd, FunD K d_L_wish_bad.name d_L_wish_bad.qual d_L_wish_bad.params d_L_wish_bad.body d_L_wish_bad.scope (d_L_wish_bad.dvs K) (d_L_wish_bad.kws K) (He.fAd K d_L_wish_bad.at_) fd := T.says.d.def_ 36 (d := d_L_wish_bad) rfl
theorem TX.fd_L_fresh_word (T : TX w K mg) : ∃ fd, FunD K d_L_fresh_word.name d_L_fresh_word.qual d_L_fresh_word.params d_L_fresh_word.body d_L_fresh_word.scope (d_L_fresh_word.dvs K) (d_L_fresh_word.kws K) (He.fAd K d_L_fresh_word.at_) fd := T.says.d.def_ 37 (d := d_L_fresh_word) rfl
theorem TX.fd_L_lists_after (T : TX w K mg) : ∃ fd, FunD K d_L_lists_after.name d_L_lists_after.qual d_L_lists_after.params d_L_lists_after.body d_L_lists_after.scope (d_L_lists_after.dvs K) (d_L_lists_after.kws K) (He.fAd K d_L_lists_after.at_) fd := T.says.d.def_ 38 (d := d_L_lists_after) rfl
theorem TX.fd_L_word_due (T : TX w K mg) : ∃ fd, FunD K d_L_word_due.name d_L_word_due.qual d_L_word_due.params d_L_word_due.body d_L_word_due.scope (d_L_word_due.dvs K) (d_L_word_due.kws K) (He.fAd K d_L_word_due.at_) fd := T.says.d.def_ 39 (d := d_L_word_due) rfl
theorem TX.fd_L_state_after (T : TX w K mg) : ∃ fd, FunD K d_L_state_after.name d_L_state_after.qual d_L_state_after.params d_L_state_after.body d_L_state_after.scope (d_L_state_after.dvs K) (d_L_state_after.kws K) (He.fAd K d_L_state_after.at_) fd := T.says.d.def_ 40 (d := d_L_state_after) rfl
theorem TX.fd_L_refused_word (T : TX w K mg) : ∃ fd, FunD K d_L_refused_word.name d_L_refused_word.qual d_L_refused_word.params d_L_refused_word.body d_L_refused_word.scope (d_L_refused_word.dvs K) (d_L_refused_word.kws K) (He.fAd K d_L_refused_word.at_) fd := T.says.d.def_ 41 (d := d_L_refused_word) rfl
theorem TX.fd_L_stands_so (T : TX w K mg) : ∃ fd, FunD K d_L_stands_so.name d_L_stands_so.qual d_L_stands_so.params d_L_stands_so.body d_L_stands_so.scope (d_L_stands_so.dvs K) (d_L_stands_so.kws K) (He.fAd K d_L_stands_so.at_) fd := T.says.d.def_ 42 (d := d_L_stands_so) rfl
theorem TX.fd_L_step_done (T : TX w K mg) : ∃ fd, FunD K d_L_step_done.name d_L_step_done.qual d_L_step_done.params d_L_step_done.body d_L_step_done.scope (d_L_step_done.dvs K) (d_L_step_done.kws K) (He.fAd K d_L_step_done.at_) fd := T.says.d.def_ 43 (d := d_L_step_done) rfl
theorem TX.fd_L_edit_word (T : TX w K mg) : ∃ fd, FunD K d_L_edit_word.name d_L_edit_word.qual d_L_edit_word.params d_L_edit_word.body d_L_edit_word.scope (d_L_edit_word.dvs K) (d_L_edit_word.kws K) (He.fAd K d_L_edit_word.at_) fd := T.says.d.def_ 44 (d := d_L_edit_word) rfl
theorem TX.fd_law (T : TX w K mg) : ∃ fd, FunD K d_law.name d_law.qual d_law.params d_law.body d_law.scope (d_law.dvs K) (d_law.kws K) (He.fAd K d_law.at_) fd := T.says.d.def_ 45 (d := d_law) rfl
theorem TX.fd_LeakError_init (T : TX w K mg) : ∃ fd, FunD K d_LeakError_init.name d_LeakError_init.qual d_LeakError_init.params d_LeakError_init.body d_LeakError_init.scope (d_LeakError_init.dvs K) (d_LeakError_init.kws K) (He.fAd K d_LeakError_init.at_) fd := T.says.d.def_ 46 (d := d_LeakError_init) rfl
theorem TX.fd_BadName_init (T : TX w K mg) : ∃ fd, FunD K d_BadName_init.name d_BadName_init.qual d_BadName_init.params d_BadName_init.body d_BadName_init.scope (d_BadName_init.dvs K) (d_BadName_init.kws K) (He.fAd K d_BadName_init.at_) fd := T.says.d.def_ 47 (d := d_BadName_init) rfl
theorem TX.fd_BadWord_init (T : TX w K mg) : ∃ fd, FunD K d_BadWord_init.name d_BadWord_init.qual d_BadWord_init.params d_BadWord_init.body d_BadWord_init.scope (d_BadWord_init.dvs K) (d_BadWord_init.kws K) (He.fAd K d_BadWord_init.at_) fd := T.says.d.def_ 48 (d := d_BadWord_init) rfl
theorem TX.fd_BadAct_init (T : TX w K mg) : ∃ fd, FunD K d_BadAct_init.name d_BadAct_init.qual d_BadAct_init.params d_BadAct_init.body d_BadAct_init.scope (d_BadAct_init.dvs K) (d_BadAct_init.kws K) (He.fAd K d_BadAct_init.at_) fd := T.says.d.def_ 49 (d := d_BadAct_init) rfl
theorem TX.fd_BadWish_init (T : TX w K mg) : ∃ fd, FunD K d_BadWish_init.name d_BadWish_init.qual d_BadWish_init.params d_BadWish_init.body d_BadWish_init.scope (d_BadWish_init.dvs K) (d_BadWish_init.kws K) (He.fAd K d_BadWish_init.at_) fd := T.says.d.def_ 50 (d := d_BadWish_init) rfl
theorem TX.fd_BadDeed_init (T : TX w K mg) : ∃ fd, FunD K d_BadDeed_init.name d_BadDeed_init.qual d_BadDeed_init.params d_BadDeed_init.body d_BadDeed_init.scope (d_BadDeed_init.dvs K) (d_BadDeed_init.kws K) (He.fAd K d_BadDeed_init.at_) fd := T.says.d.def_ 51 (d := d_BadDeed_init) rfl
theorem TX.fd_Taken_init (T : TX w K mg) : ∃ fd, FunD K d_Taken_init.name d_Taken_init.qual d_Taken_init.params d_Taken_init.body d_Taken_init.scope (d_Taken_init.dvs K) (d_Taken_init.kws K) (He.fAd K d_Taken_init.at_) fd := T.says.d.def_ 52 (d := d_Taken_init) rfl
theorem TX.fd_Full_init (T : TX w K mg) : ∃ fd, FunD K d_Full_init.name d_Full_init.qual d_Full_init.params d_Full_init.body d_Full_init.scope (d_Full_init.dvs K) (d_Full_init.kws K) (He.fAd K d_Full_init.at_) fd := T.says.d.def_ 53 (d := d_Full_init) rfl
theorem TX.fd_NoMachine_init (T : TX w K mg) : ∃ fd, FunD K d_NoMachine_init.name d_NoMachine_init.qual d_NoMachine_init.params d_NoMachine_init.body d_NoMachine_init.scope (d_NoMachine_init.dvs K) (d_NoMachine_init.kws K) (He.fAd K d_NoMachine_init.at_) fd := T.says.d.def_ 54 (d := d_NoMachine_init) rfl
theorem TX.fd_NoRow_init (T : TX w K mg) : ∃ fd, FunD K d_NoRow_init.name d_NoRow_init.qual d_NoRow_init.params d_NoRow_init.body d_NoRow_init.scope (d_NoRow_init.dvs K) (d_NoRow_init.kws K) (He.fAd K d_NoRow_init.at_) fd := T.says.d.def_ 55 (d := d_NoRow_init) rfl
theorem TX.fd_NoMove_init (T : TX w K mg) : ∃ fd, FunD K d_NoMove_init.name d_NoMove_init.qual d_NoMove_init.params d_NoMove_init.body d_NoMove_init.scope (d_NoMove_init.dvs K) (d_NoMove_init.kws K) (He.fAd K d_NoMove_init.at_) fd := T.says.d.def_ 56 (d := d_NoMove_init) rfl
theorem TX.fd_NoLab_init (T : TX w K mg) : ∃ fd, FunD K d_NoLab_init.name d_NoLab_init.qual d_NoLab_init.params d_NoLab_init.body d_NoLab_init.scope (d_NoLab_init.dvs K) (d_NoLab_init.kws K) (He.fAd K d_NoLab_init.at_) fd := T.says.d.def_ 57 (d := d_NoLab_init) rfl
theorem TX.fd_NoWish_init (T : TX w K mg) : ∃ fd, FunD K d_NoWish_init.name d_NoWish_init.qual d_NoWish_init.params d_NoWish_init.body d_NoWish_init.scope (d_NoWish_init.dvs K) (d_NoWish_init.kws K) (He.fAd K d_NoWish_init.at_) fd := T.says.d.def_ 58 (d := d_NoWish_init) rfl
theorem TX.fd_Lab_init (T : TX w K mg) : ∃ fd, FunD K d_Lab_init.name d_Lab_init.qual d_Lab_init.params d_Lab_init.body d_Lab_init.scope (d_Lab_init.dvs K) (d_Lab_init.kws K) (He.fAd K d_Lab_init.at_) fd := T.says.d.def_ 59 (d := d_Lab_init) rfl
theorem TX.fd_Lab_take_machine (T : TX w K mg) : ∃ fd, FunD K d_Lab_take_machine.name d_Lab_take_machine.qual d_Lab_take_machine.params d_Lab_take_machine.body d_Lab_take_machine.scope (d_Lab_take_machine.dvs K) (d_Lab_take_machine.kws K) (He.fAd K d_Lab_take_machine.at_) fd := T.says.d.def_ 60 (d := d_Lab_take_machine) rfl
theorem TX.fd_Lab_take_row (T : TX w K mg) : ∃ fd, FunD K d_Lab_take_row.name d_Lab_take_row.qual d_Lab_take_row.params d_Lab_take_row.body d_Lab_take_row.scope (d_Lab_take_row.dvs K) (d_Lab_take_row.kws K) (He.fAd K d_Lab_take_row.at_) fd := T.says.d.def_ 61 (d := d_Lab_take_row) rfl
theorem TX.fd_Lab_take_move (T : TX w K mg) : ∃ fd, FunD K d_Lab_take_move.name d_Lab_take_move.qual d_Lab_take_move.params d_Lab_take_move.body d_Lab_take_move.scope (d_Lab_take_move.dvs K) (d_Lab_take_move.kws K) (He.fAd K d_Lab_take_move.at_) fd := T.says.d.def_ 62 (d := d_Lab_take_move) rfl
theorem TX.fd_Lab_look_full (T : TX w K mg) : ∃ fd, FunD K d_Lab_look_full.name d_Lab_look_full.qual d_Lab_look_full.params d_Lab_look_full.body d_Lab_look_full.scope (d_Lab_look_full.dvs K) (d_Lab_look_full.kws K) (He.fAd K d_Lab_look_full.at_) fd := T.says.d.def_ 63 (d := d_Lab_look_full) rfl
theorem TX.fd_Lab_stands_of (T : TX w K mg) : ∃ fd, FunD K d_Lab_stands_of.name d_Lab_stands_of.qual d_Lab_stands_of.params d_Lab_stands_of.body d_Lab_stands_of.scope (d_Lab_stands_of.dvs K) (d_Lab_stands_of.kws K) (He.fAd K d_Lab_stands_of.at_) fd := T.says.d.def_ 64 (d := d_Lab_stands_of) rfl
theorem TX.fd_Lab_machines (T : TX w K mg) : ∃ fd, FunD K d_Lab_machines.name d_Lab_machines.qual d_Lab_machines.params d_Lab_machines.body d_Lab_machines.scope (d_Lab_machines.dvs K) (d_Lab_machines.kws K) (He.fAd K d_Lab_machines.at_) fd := T.says.d.def_ 65 (d := d_Lab_machines) rfl
theorem TX.fd_Lab_rows (T : TX w K mg) : ∃ fd, FunD K d_Lab_rows.name d_Lab_rows.qual d_Lab_rows.params d_Lab_rows.body d_Lab_rows.scope (d_Lab_rows.dvs K) (d_Lab_rows.kws K) (He.fAd K d_Lab_rows.at_) fd := T.says.d.def_ 66 (d := d_Lab_rows) rfl
theorem TX.fd_Lab_moves (T : TX w K mg) : ∃ fd, FunD K d_Lab_moves.name d_Lab_moves.qual d_Lab_moves.params d_Lab_moves.body d_Lab_moves.scope (d_Lab_moves.dvs K) (d_Lab_moves.kws K) (He.fAd K d_Lab_moves.at_) fd := T.says.d.def_ 67 (d := d_Lab_moves) rfl
theorem TX.fd_Lab_move_at (T : TX w K mg) : ∃ fd, FunD K d_Lab_move_at.name d_Lab_move_at.qual d_Lab_move_at.params d_Lab_move_at.body d_Lab_move_at.scope (d_Lab_move_at.dvs K) (d_Lab_move_at.kws K) (He.fAd K d_Lab_move_at.at_) fd := T.says.d.def_ 68 (d := d_Lab_move_at) rfl
theorem TX.fd_Bench_init (T : TX w K mg) : ∃ fd, FunD K d_Bench_init.name d_Bench_init.qual d_Bench_init.params d_Bench_init.body d_Bench_init.scope (d_Bench_init.dvs K) (d_Bench_init.kws K) (He.fAd K d_Bench_init.at_) fd := T.says.d.def_ 69 (d := d_Bench_init) rfl
theorem TX.fd_Bench_len (T : TX w K mg) : ∃ fd, FunD K d_Bench_len.name d_Bench_len.qual d_Bench_len.params d_Bench_len.body d_Bench_len.scope (d_Bench_len.dvs K) (d_Bench_len.kws K) (He.fAd K d_Bench_len.at_) fd := T.says.d.def_ 70 (d := d_Bench_len) rfl
theorem TX.fd_Bench_repr (T : TX w K mg) : ∃ fd, FunD K d_Bench_repr.name d_Bench_repr.qual d_Bench_repr.params d_Bench_repr.body d_Bench_repr.scope (d_Bench_repr.dvs K) (d_Bench_repr.kws K) (He.fAd K d_Bench_repr.at_) fd := T.says.d.def_ 71 (d := d_Bench_repr) rfl
theorem TX.fd_Bench_do (T : TX w K mg) : ∃ fd, FunD K d_Bench_do.name d_Bench_do.qual d_Bench_do.params d_Bench_do.body d_Bench_do.scope (d_Bench_do.dvs K) (d_Bench_do.kws K) (He.fAd K d_Bench_do.at_) fd := T.says.d.def_ 72 (d := d_Bench_do) rfl
theorem TX.fd_Bench_labs (T : TX w K mg) : ∃ fd, FunD K d_Bench_labs.name d_Bench_labs.qual d_Bench_labs.params d_Bench_labs.body d_Bench_labs.scope (d_Bench_labs.dvs K) (d_Bench_labs.kws K) (He.fAd K d_Bench_labs.at_) fd := T.says.d.def_ 73 (d := d_Bench_labs) rfl
theorem TX.fd_Bench_wishes (T : TX w K mg) : ∃ fd, FunD K d_Bench_wishes.name d_Bench_wishes.qual d_Bench_wishes.params d_Bench_wishes.body d_Bench_wishes.scope (d_Bench_wishes.dvs K) (d_Bench_wishes.kws K) (He.fAd K d_Bench_wishes.at_) fd := T.says.d.def_ 74 (d := d_Bench_wishes) rfl
theorem TX.fd_Bench_lab_of (T : TX w K mg) : ∃ fd, FunD K d_Bench_lab_of.name d_Bench_lab_of.qual d_Bench_lab_of.params d_Bench_lab_of.body d_Bench_lab_of.scope (d_Bench_lab_of.dvs K) (d_Bench_lab_of.kws K) (He.fAd K d_Bench_lab_of.at_) fd := T.says.d.def_ 75 (d := d_Bench_lab_of) rfl
theorem TX.fd_Bench_wish_of (T : TX w K mg) : ∃ fd, FunD K d_Bench_wish_of.name d_Bench_wish_of.qual d_Bench_wish_of.params d_Bench_wish_of.body d_Bench_wish_of.scope (d_Bench_wish_of.dvs K) (d_Bench_wish_of.kws K) (He.fAd K d_Bench_wish_of.at_) fd := T.says.d.def_ 76 (d := d_Bench_wish_of) rfl
theorem TX.k_SIZES_lab (T : TX w K mg) : ∃ es n, KDict K w (He.ga K "SIZES_lab") es n := T.says.tab 0 (t := tsL[0]) rfl
theorem TX.k_SIZES_bench (T : TX w K mg) : ∃ es n, KDict K w (He.ga K "SIZES_bench") es n := T.says.tab 1 (t := tsL[1]) rfl
theorem TX.k_ONES (T : TX w K mg) : ∃ es n, KDict K w (He.ga K "ONES") es n := T.says.tab 2 (t := tsL[2]) rfl
theorem TX.k_THREES (T : TX w K mg) : ∃ es n, KDict K w (He.ga K "THREES") es n := T.says.tab 3 (t := tsL[3]) rfl
end
end K51

set_option Elab.async false
set_option linter.all false
set_option maxRecDepth 100000
set_option maxHeartbeats 4000000
namespace K51
open PySem PySem.Spec PyProof.Rows L2
/-! ### constants, tables -/
section
variable {X : Cx}
theorem pe_kint {x : Str} {i : Int} {pos : Pos} (hg : Gl X x) (hm : ∃ t, X.mg x = some (.int i t)) (hd : (x == ("__debug__" : Str)) = false := by decide) : PE X (.Name x pos) (tC (.int i)) := by
  obtain ⟨t, e⟩ := hm
  exact pe_glob hg e ⟨t, rfl⟩ hd
theorem pe_kstr {x z : Str} {pos : Pos} (hg : Gl X x) (hm : ∃ t, X.mg x = some (.str z t)) (hd : (x == ("__debug__" : Str)) = false := by decide) : PE X (.Name x pos) (tC (.str z)) := by
  obtain ⟨t, e⟩ := hm
  exact pe_glob hg e ⟨t, rfl⟩ hd
theorem op_inK {d : Addr} (D : ∃ es n, KDict X.K X.w d es n) : OpR X (compareOp .In) (fun x y H Q => ∃ (z : Str) (r : Option Value), x = .str z ∧ y = .ref d ∧ PySem.W.nsIn X.K d z = some r ∧ Q (.bl r.isSome) H) := by
  obtain ⟨es, n, D⟩ := D
  exact op_in_kd D
theorem op_notInK {d : Addr} (D : ∃ es n, KDict X.K X.w d es n) : OpR X (compareOp .NotIn) (fun x y H Q => ∃ (z : Str) (r : Option Value), x = .str z ∧ y = .ref d ∧ PySem.W.nsIn X.K d z = some r ∧ Q (.bl (!r.isSome)) H) := by
  obtain ⟨es, n, D⟩ := D
  exact op_notIn_kd D
end
/-! ### what is known of a def that may be called -/
section
variable (P : Program) (w : World) (K : PySem.W.Frag) (mg : Str → Option Value) (base : Heap)
/-- the module's name x holds a def (level k) that keeps sp; dvs: its defaults that fill up -/
def CalE (k : Nat) (x : Str) (dvs : List V) (sp : Sp) : Prop :=
  ∃ (f : Addr) (fd : FuncData) (ps : List Str) (ds : List Value), FnOk P w K mg base (L2.CX P w) k f fd ps sp ∧ mg x = some (.ref f) ∧ PySem.W.keepIn K (.ref f) = true ∧ Binds K fd ps ds ∧ Vals dvs ds
def MetE (k : Nat) (C : Addr) (m : Str) (dvs : List V) (sp : Sp) : Prop :=
  ∃ (f : Addr) (fd : FuncData) (ps : List Str) (ds : List Value), FnOk P w K mg base (L2.CX P w) k f fd ps sp ∧ Meth K C m f ∧ Binds K fd ps ds ∧ Vals dvs ds
def MakE (k : Nat) (x : Str) (C : Addr) (dvs : List V) (sp : Sp) : Prop :=
  ∃ (f : Addr) (fd : FuncData) (ps : List Str) (ds : List Value), FnOk P w K mg base (L2.CX P w) k f fd ps sp ∧ Mk K C f ∧ mg x = some (.ref C) ∧ Binds K fd ps ds ∧ Vals dvs ds
end
section
variable {X : Cx} {k j : Nat} {x m : Str} {C : Addr} {dvs : List V} {sp : Sp} {E : XK} {e o : Expr} {es : List Expr} {t : TA} {ta : TE} {p pos apos : Pos}
theorem pe_cal (c : CalE X.prog X.w X.K X.mg X.base k x dvs sp) (hr : Room k X.A) (hg : Gl X x) (hx : Passes (L2.CX X.prog X.w) X E) (ha : PA X (e :: es) t)
    (hdb : (x == ("__debug__" : Str)) = false := by decide) (he : starEach (e :: es) X.env = (false, eval e X.env) :: starEach es X.env := by rfl) (hpl : (backTo pos (starEach es X.env)).any (·.1) = false := by rfl) :
    PE X (.Call (.Name x p) (e :: es) [] pos) (tCall sp dvs E t) := by
  obtain ⟨f, fd, ps, ds, F, hm, hk, hb, hd⟩ := c
  exact pe_call F hr hg hm hk hb hd hx ha hdb he hpl
theorem pe_cal0 (c : CalE X.prog X.w X.K X.mg X.base k x dvs sp) (hr : Room k X.A) (hg : Gl X x) (hx : Passes (L2.CX X.prog X.w) X E)
    (hdb : (x == ("__debug__" : Str)) = false := by decide) : PE X (.Call (.Name x p) [] [] pos) (tCall sp dvs E tNil) := by
  obtain ⟨f, fd, ps, ds, F, hm, hk, hb, hd⟩ := c
  exact pe_call0 F hr hg hm hk hb hd hx hdb
/-- the form of a method's call -/
abbrev MForm (X : Cx) (o : Expr) (m : Str) (apos : Pos) (es : List Expr) (pos : Pos) (pl : Sem Bool) : Prop :=
  eval (.Call (.Attribute o m apos) es [] pos) X.env = (do
      let ov ← eval o X.env
      standAt apos.atName
      let (f, first) ← holding [ov] (getMethod ov m pl)
      callWith pos f first (backTo pos (starEach es X.env)) (backToKw pos (keywordEach [] X.env)))
theorem pe_metE {pl : Sem Bool} (cl : Cls X.K C) (c : MetE X.prog X.w X.K X.mg X.base k C m dvs sp) (hr : Room k X.A) (hx : Passes (L2.CX X.prog X.w) X E) (ho : PE X o ta) (ha : PA X (e :: es) t)
    (he : starEach (e :: es) X.env = (false, eval e X.env) :: starEach es X.env := by rfl) (hpl : (backTo pos (starEach es X.env)).any (·.1) = false := by rfl) (ht : MForm X o m apos (e :: es) pos pl := by rfl) :
    PE X (.Call (.Attribute o m apos) (e :: es) [] pos) (tMeth C m sp dvs E ta t) := by
  obtain ⟨f, fd, ps, ds, F, hm, hb, hd⟩ := c
  exact pe_meth ho cl hm F hr hb hd hx ha he hpl ht
theorem pe_metE0 {pl : Sem Bool} (cl : Cls X.K C) (c : MetE X.prog X.w X.K X.mg X.base k C m dvs sp) (hr : Room k X.A) (hx : Passes (L2.CX X.prog X.w) X E) (ho : PE X o ta) (ht : MForm X o m apos [] pos pl := by rfl) :
    PE X (.Call (.Attribute o m apos) [] [] pos) (tMeth C m sp dvs E ta tNil) := by
  obtain ⟨f, fd, ps, ds, F, hm, hb, hd⟩ := c
  exact pe_meth0 ho cl hm F hr hb hd hx ht
theorem pe_makE (c : MakE X.prog X.w X.K X.mg X.base k x C dvs sp) (hr : Room (k + 1) X.A) (hg : Gl X x) (hx : Passes (L2.CX X.prog X.w) X E) (ha : PA X (e :: es) t)
    (hdb : (x == ("__debug__" : Str)) = false := by decide) (he : starEach (e :: es) X.env = (false, eval e X.env) :: starEach es X.env := by rfl) (hpl : (backTo pos (starEach es X.env)).any (·.1) = false := by rfl) :
    PE X (.Call (.Name x p) (e :: es) [] pos) (tMake C sp dvs E t) := by
  obtain ⟨f, fd, ps, ds, F, hM, hm, hb, hd⟩ := c
  exact pe_make hM F hr hg hm hb hd hx ha hdb he hpl
theorem pe_makE0 (c : MakE X.prog X.w X.K X.mg X.base k x C dvs sp) (hr : Room (k + 1) X.A) (hg : Gl X x) (hx : Passes (L2.CX X.prog X.w) X E)
    (hdb : (x == ("__debug__" : Str)) = false := by decide) : PE X (.Call (.Name x p) [] [] pos) (tMake C sp dvs E tNil) := by
  obtain ⟨f, fd, ps, ds, F, hM, hm, hb, hd⟩ := c
  exact pe_make0 hM F hr hg hm hb hd hx hdb
end
/-- an exception of a callee leaves this def too -/
theorem px {P : Program} {w : World} {K : PySem.W.Frag} {mg : Str → Option Value} {base : Heap} {N : List Str} {q : Str} {sc : Scope} {f : Addr} {cd : Value} {A : Around} {outer : List Env} {s : Shared} {H : Hp} {E : XK} :
    Passes (L2.CX P w) (cxOf (L2.CX P w) P w K mg base N q sc f cd A outer s H E) E := passes_call (takes_of rfl rfl rfl rfl) fun _ _ _ _ h => h
theorem passL {X : Cx} : Passes (L2.CX X.prog X.w) X E0 := fun _ _ _ _ _ _ _ h => by
  obtain ⟨_, _, _, _, _, _, _, _, _, _, _, _, z⟩ := h
  exact z.elim
/-! ### from a def's body -/
section
variable {P : Program} {w : World} {K : PySem.W.Frag} {mg : Str → Option Value} {base : Heap}
abbrev Body (P : Program) (w : World) (K : PySem.W.Frag) (mg : Str → Option Value) (base : Heap) (k : Nat) (N : List Str) (qual : Str) (body : List Stmt) (scope : Scope) (f : Addr) (sp : Sp) : Prop :=
  ∀ (cdv : Value) (A : Around) (outer : List Env) (s : Shared) (H : Hp) (vs : List V) (Q : VK) (E : XK), Room k (A.deeper (envOfC qual scope s.heap.objs.size f cdv)) → sp vs H Q E →
      ∃ t, PSs (cxOf (L2.CX P w) P w K mg base N qual scope f cdv A outer s H E) body t ∧ t { nx := fun _ H' => Q .non H', rt := Q } (start N vs) H
/-- how a def without defaults binds -/
abbrev Bnd0 (x qual : Str) (params : Arguments) (body : List Stmt) (scope : Scope) (ps : List Str) : Prop := ∀ (kV doc pm : Value) (an : Option Addr) (cdv ct : Value) (us : List Value), us.length = ps.length → bindArgs (PySem.W.fnOf x qual params body scope .none kV doc pm an cdv ct) ⟨us, []⟩ = pure (ps.zip us)
theorem cal_of {x qual : Str} {params : Arguments} {body : List Stmt} {scope : Scope} {N ps : List Str} {k : Nat} {sp : Sp} {f : Addr} (d : ∃ fd, FunD K x qual params body scope [] [] f fd) (hm : mg x = some (.ref f)) (S : FnScope N ps scope)
    (hb : Bnd0 x qual params body scope ps) (len : ∀ vs H Q E, sp vs H Q E → vs.length = ps.length) (B : Body P w K mg base k N qual body scope f sp) : CalE P w K mg base (k + 1) x [] sp := by
  obtain ⟨fd, F⟩ := d
  exact ⟨f, fd, ps, [], F.ok S len B, hm, F.kp, F.bindsN hb, .nil⟩
theorem met_of {x qual : Str} {params : Arguments} {body : List Stmt} {scope : Scope} {N ps : List Str} {k : Nat} {sp : Sp} {C f : Addr} (d : ∃ fd, FunD K x qual params body scope [] [] f fd) (hm : Meth K C x f) (S : FnScope N ps scope)
    (hb : Bnd0 x qual params body scope ps) (len : ∀ vs H Q E, sp vs H Q E → vs.length = ps.length) (B : Body P w K mg base k N qual body scope f sp) : MetE P w K mg base (k + 1) C x [] sp := by
  obtain ⟨fd, F⟩ := d
  exact ⟨f, fd, ps, [], F.ok S len B, hm, F.bindsN hb, .nil⟩
theorem CalE.mono {j k : Nat} {x : Str} {dvs : List V} {sp : Sp} (c : CalE P w K mg base j x dvs sp) (h : j ≤ k) : CalE P w K mg base k x dvs sp := by
  obtain ⟨f, fd, ps, ds, F, r⟩ := c
  exact ⟨f, fd, ps, ds, F.mono h, r⟩
theorem MetE.mono {j k : Nat} {x : Str} {C : Addr} {dvs : List V} {sp : Sp} (c : MetE P w K mg base j C x dvs sp) (h : j ≤ k) : MetE P w K mg base k C x dvs sp := by
  obtain ⟨f, fd, ps, ds, F, r⟩ := c
  exact ⟨f, fd, ps, ds, F.mono h, r⟩
end
end K51

set_option Elab.async false
set_option linter.all false
set_option maxRecDepth 100000
set_option maxHeartbeats 4000000
namespace K51
open PySem PySem.Spec PyProof.Rows L2
/-! ### nested data that never changes -/
inductive D where
  | non | bl (b : Bool) | int (i : Int) | str (s : Str) | lst (l : List D) | tup (l : List D)
/-- all but the addresses of M stands as it stood -/
def Keep (M : List Addr) (H H' : Hp) : Prop := ∀ a o, a ∉ M → H a = some o → H' a = some o
/-- the addresses of M are tracked (what is new is none of them) -/
def Trk (M : List Addr) (H : Hp) : Prop := ∀ a ∈ M, ∃ o, H a = some o
theorem Keep.refl {M : List Addr} (H : Hp) : Keep M H H := fun _ _ _ h => h
theorem Keep.trans {M : List Addr} {H H1 H2 : Hp} (a : Keep M H H1) (b : Keep M H1 H2) : Keep M H H2 := fun c o n h => b c o n (a c o n h)
theorem Keep.of {M : List Addr} {H H' : Hp} (s : Same H H') : Keep M H H' := fun a o _ h => s a o h
theorem Keep.sub {M M' : List Addr} {H H' : Hp} (k : Keep M H H') (h : ∀ a ∈ M, a ∈ M') : Keep M' H H' := fun a o n e => k a o (fun z => n (h a z)) e
theorem Keep.same {H H' : Hp} (k : Keep [] H H') : Same H H' := fun a o e => k a o (by simp) e
theorem Same.keep {H H' : Hp} (M : List Addr) (s : Same H H') : Keep M H H' := Keep.of s
theorem Trk.same {M : List Addr} {H H' : Hp} (t : Trk M H) (s : Same H H') : Trk M H' := fun a h => let ⟨o, e⟩ := t a h; ⟨o, s a o e⟩
theorem Trk.new {M : List Addr} {H : Hp} {p : Addr} (t : Trk M H) (h : H p = none) : p ∉ M := fun m => by
  obtain ⟨o, e⟩ := t p m
  rw [h] at e
  cases e
theorem Trk.nil {H : Hp} : Trk [] H := fun _ h => by cases h
theorem Same.up {H : Hp} {p : Addr} {o : HO} (h : H p = none) : Same H (upd H p o) := fun a u e => by
  rw [upd_ne (ne_of_none e h)]
  exact e
theorem Keep.at {M : List Addr} {H : Hp} {p : Addr} {o : HO} (h : p ∈ M) : Keep M H (upd H p o) := fun a u n e => by
  rw [upd_ne (fun z => n (by rw [z]; exact h))]
  exact e
theorem Trk.at {M : List Addr} {H : Hp} {p : Addr} {o : HO} (t : Trk M H) : Trk M (upd H p o) := fun a h => by
  by_cases e : a = p
  · subst e
    exact ⟨_, upd_same⟩
  · rw [upd_ne e]
    exact t a h
mutual
def DA (M : List Addr) (H : Hp) : V → D → Prop
  | v, .non => v = .non
  | v, .bl b => v = .bl b
  | v, .int i => v = .int i
  | v, .str s => v = .str s
  | v, .lst ds => ∃ a xs, v = .ref a ∧ a ∉ M ∧ H a = some (.lst xs) ∧ DAs M H xs ds
  | v, .tup ds => ∃ a xs, v = .ref a ∧ a ∉ M ∧ H a = some (.tup xs) ∧ DAs M H xs ds
def DAs (M : List Addr) (H : Hp) : List V → List D → Prop
  | [], [] => True
  | x :: xs, d :: ds => DA M H x d ∧ DAs M H xs ds
  | [], _ :: _ => False
  | _ :: _, [] => False
end
section
variable {M M' : List Addr} {H H' : Hp}
mutual
theorem DA.keep (k : Keep M H H') : ∀ {v : V} {d : D}, DA M H v d → DA M H' v d
  | v, .non, h => by unfold DA at h ⊢; exact h
  | v, .bl b, h => by unfold DA at h ⊢; exact h
  | v, .int i, h => by unfold DA at h ⊢; exact h
  | v, .str s, h => by unfold DA at h ⊢; exact h
  | v, .lst ds, h => by
    unfold DA at h ⊢
    obtain ⟨a, xs, e, n, ha, hs⟩ := h
    exact ⟨a, xs, e, n, k a _ n ha, DAs.keep k hs⟩
  | v, .tup ds, h => by
    unfold DA at h ⊢
    obtain ⟨a, xs, e, n, ha, hs⟩ := h
    exact ⟨a, xs, e, n, k a _ n ha, DAs.keep k hs⟩
theorem DAs.keep (k : Keep M H H') : ∀ {xs : List V} {ds : List D}, DAs M H xs ds → DAs M H' xs ds
  | [], [], _ => by unfold DAs; trivial
  | x :: xs, d :: ds, h => by
    unfold DAs at h ⊢
    exact ⟨DA.keep k h.1, DAs.keep k h.2⟩
  | [], _ :: _, h => by unfold DAs at h; exact h.elim
  | _ :: _, [], h => by unfold DAs at h; exact h.elim
end
mutual
theorem DA.sub (k : ∀ a ∈ M', a ∈ M) : ∀ {v : V} {d : D}, DA M H v d → DA M' H v d
  | v, .non, h => by unfold DA at h ⊢; exact h
  | v, .bl b, h => by unfold DA at h ⊢; exact h
  | v, .int i, h => by unfold DA at h ⊢; exact h
  | v, .str s, h => by unfold DA at h ⊢; exact h
  | v, .lst ds, h => by
    unfold DA at h ⊢
    obtain ⟨a, xs, e, n, ha, hs⟩ := h
    exact ⟨a, xs, e, fun z => n (k a z), ha, DAs.sub k hs⟩
  | v, .tup ds, h => by
    unfold DA at h ⊢
    obtain ⟨a, xs, e, n, ha, hs⟩ := h
    exact ⟨a, xs, e, fun z => n (k a z), ha, DAs.sub k hs⟩
theorem DAs.sub (k : ∀ a ∈ M', a ∈ M) : ∀ {xs : List V} {ds : List D}, DAs M H xs ds → DAs M' H xs ds
  | [], [], _ => by unfold DAs; trivial
  | x :: xs, d :: ds, h => by
    unfold DAs at h ⊢
    exact ⟨DA.sub k h.1, DAs.sub k h.2⟩
  | [], _ :: _, h => by unfold DAs at h; exact h.elim
  | _ :: _, [], h => by unfold DAs at h; exact h.elim
end
theorem DA.tup_iff {v : V} {ds : List D} : DA M H v (.tup ds) ↔ ∃ a xs, v = .ref a ∧ a ∉ M ∧ H a = some (.tup xs) ∧ DAs M H xs ds := by
  constructor <;> intro h <;> unfold DA at * <;> exact h
theorem DA.lst_iff {v : V} {ds : List D} : DA M H v (.lst ds) ↔ ∃ a xs, v = .ref a ∧ a ∉ M ∧ H a = some (.lst xs) ∧ DAs M H xs ds := by
  constructor <;> intro h <;> unfold DA at * <;> exact h
theorem DA.str_iff {v : V} {s : Str} : DA M H v (.str s) ↔ v = .str s := by
  constructor <;> intro h <;> unfold DA at * <;> exact h
theorem DA.int_iff {v : V} {i : Int} : DA M H v (.int i) ↔ v = .int i := by
  constructor <;> intro h <;> unfold DA at * <;> exact h
theorem DA.bl_iff {v : V} {b : Bool} : DA M H v (.bl b) ↔ v = .bl b := by
  constructor <;> intro h <;> unfold DA at * <;> exact h
theorem DA.str' (s : Str) : DA M H (.str s) (.str s) := DA.str_iff.mpr rfl
theorem DA.int' (i : Int) : DA M H (.int i) (.int i) := DA.int_iff.mpr rfl
theorem DAs.nil : DAs M H [] [] := by unfold DAs; trivial
theorem DAs.cons_iff {x : V} {xs : List V} {d : D} {ds : List D} : DAs M H (x :: xs) (d :: ds) ↔ DA M H x d ∧ DAs M H xs ds := by
  rw [DAs]
theorem DAs.cons {x : V} {xs : List V} {d : D} {ds : List D} (a : DA M H x d) (b : DAs M H xs ds) : DAs M H (x :: xs) (d :: ds) := DAs.cons_iff.mpr ⟨a, b⟩
theorem DAs.nil_inv {xs : List V} (h : DAs M H xs []) : xs = [] := by
  cases xs with
  | nil => rfl
  | cons x xs => unfold DAs at h; exact h.elim
theorem DAs.cons_inv {xs : List V} {d : D} {ds : List D} (h : DAs M H xs (d :: ds)) : ∃ x r, xs = x :: r ∧ DA M H x d ∧ DAs M H r ds := by
  cases xs with
  | nil => unfold DAs at h; exact h.elim
  | cons x xs => exact ⟨x, xs, rfl, DAs.cons_iff.mp h⟩
theorem DAs.length : ∀ {xs : List V} {ds : List D}, DAs M H xs ds → xs.length = ds.length
  | [], [], _ => rfl
  | x :: xs, d :: ds, h => congrArg Nat.succ (DAs.length (DAs.cons_iff.mp h).2)
  | [], _ :: _, h => by unfold DAs at h; exact h.elim
  | _ :: _, [], h => by unfold DAs at h; exact h.elim
theorem DAs.append : ∀ {xs : List V} {ds : List D} {ys : List V} {es : List D}, DAs M H xs ds → DAs M H ys es → DAs M H (xs ++ ys) (ds ++ es)
  | [], [], _, _, _, k => k
  | x :: xs, d :: ds, _, _, h, k => DAs.cons (DAs.cons_iff.mp h).1 (DAs.append (DAs.cons_iff.mp h).2 k)
  | [], _ :: _, _, _, h, _ => by unfold DAs at h; exact h.elim
  | _ :: _, [], _, _, h, _ => by unfold DAs at h; exact h.elim
theorem DAs.get : ∀ {xs : List V} {ds : List D} {i : Nat} {x : V}, DAs M H xs ds → xs[i]? = some x → ∃ d, ds[i]? = some d ∧ DA M H x d
  | [], _, i, x, _, e => by simp at e
  | x :: xs, d :: ds, 0, y, h, e => by
    have e : x = y := by simpa using e
    subst e
    exact ⟨d, rfl, (DAs.cons_iff.mp h).1⟩
  | x :: xs, d :: ds, i + 1, y, h, e => by
    obtain ⟨d', h1, h2⟩ := DAs.get (i := i) (DAs.cons_iff.mp h).2 (by simpa using e)
    exact ⟨d', by simpa using h1, h2⟩
  | _ :: _, [], _, _, h, _ => by unfold DAs at h; exact h.elim
theorem DAs.at : ∀ {xs : List V} {ds : List D} {i : Nat} {d : D}, DAs M H xs ds → ds[i]? = some d → ∃ x, xs[i]? = some x ∧ DA M H x d
  | _, [], i, x, _, e => by simp at e
  | x :: xs, d :: ds, 0, y, h, e => by
    have e : d = y := by simpa using e
    subst e
    exact ⟨x, rfl, (DAs.cons_iff.mp h).1⟩
  | x :: xs, d :: ds, i + 1, y, h, e => by
    obtain ⟨d', h1, h2⟩ := DAs.at (i := i) (DAs.cons_iff.mp h).2 (by simpa using e)
    exact ⟨d', by simpa using h1, h2⟩
  | [], _ :: _, _, _, h, _ => by unfold DAs at h; exact h.elim
theorem DAs.take : ∀ {xs : List V} {ds : List D} (n : Nat), DAs M H xs ds → DAs M H (xs.take n) (ds.take n)
  | _, _, 0, _ => by simp; exact DAs.nil
  | [], [], _ + 1, _ => by simp; exact DAs.nil
  | x :: xs, d :: ds, n + 1, h => by
    simp only [List.take_succ_cons]
    exact DAs.cons (DAs.cons_iff.mp h).1 (DAs.take n (DAs.cons_iff.mp h).2)
  | [], _ :: _, _, h => by unfold DAs at h; exact h.elim
  | _ :: _, [], _, h => by unfold DAs at h; exact h.elim
theorem DAs.drop : ∀ {xs : List V} {ds : List D} (n : Nat), DAs M H xs ds → DAs M H (xs.drop n) (ds.drop n)
  | _, _, 0, h => by simpa using h
  | [], [], _ + 1, _ => by simp; exact DAs.nil
  | x :: xs, d :: ds, n + 1, h => by
    simp only [List.drop_succ_cons]
    exact DAs.drop n (DAs.cons_iff.mp h).2
  | [], _ :: _, _, h => by unfold DAs at h; exact h.elim
  | _ :: _, [], _, h => by unfold DAs at h; exact h.elim
/-- texts -/
theorem DAs.strs : ∀ {xs : List V} {ss : List Str}, DAs M H xs (ss.map D.str) → xs = ss.map V.str
  | xs, [], h => by rw [DAs.nil_inv h]; rfl
  | xs, s :: ss, h => by
    obtain ⟨x, r, e, h1, h2⟩ := DAs.cons_inv h
    rw [e, DA.str_iff.mp h1, DAs.strs h2]
    rfl
theorem DAs.of_strs : ∀ (ss : List Str), DAs M H (ss.map V.str) (ss.map D.str)
  | [] => DAs.nil
  | s :: ss => DAs.cons (DA.str' s) (DAs.of_strs ss)
/-- a new tuple, a new list -/
theorem DA.newT {p : Addr} {xs : List V} {ds : List D} (t : Trk M H) (np : H p = none) (h : DAs M H xs ds) : DA M (upd H p (.tup xs)) (.ref p) (.tup ds) :=
  DA.tup_iff.mpr ⟨p, xs, rfl, t.new np, upd_same, h.keep (Keep.of (Same.up np))⟩
theorem DA.newL {p : Addr} {xs : List V} {ds : List D} (t : Trk M H) (np : H p = none) (h : DAs M H xs ds) : DA M (upd H p (.lst xs)) (.ref p) (.lst ds) :=
  DA.lst_iff.mpr ⟨p, xs, rfl, t.new np, upd_same, h.keep (Keep.of (Same.up np))⟩
end
theorem Same.keepL {H H' H'' : Hp} {L : Addr} (hL : H L = none) (s : Same H H') (k : Keep [L] H' H'') : Same H H'' := fun a o e => k a o (by simp; exact ne_of_none e hL) (s a o e)
theorem Keep.nilL {H H' : Hp} (k : Keep [] H H') (M : List Addr) : Keep M H H' := k.sub (by simp)
theorem take_succ_get {α : Type} {l : List α} {i : Nat} {x : α} (h : l[i]? = some x) : l.take (i + 1) = l.take i ++ [x] := by
  rw [List.take_add_one, h]
  rfl
/-! ### comprehensions -/
section
variable {J : It} {n : Nat} {G : Hp → Prop} {Y : Nat → Hp → V → Hp → Prop}
/-- a comprehension: A tells by the turn and the heap what the list holds so far (it does not look at the list's own address D) -/
theorem lc_acc (w : Walk J n G Y) {g : TG} {tt : TT} {te : TE} {vs : List Nat} {σ : L2.St} {H1 : Hp} {L : Addr} {Qd : Hp → Prop} (A : Nat → List V → Hp → Prop) (hn : n < 100000)
    (hL : H1 L = none) (h0 : A 0 [] (upd H1 L (.lst []))) (hG : ∀ i acc H, i ≤ n → A i acc H → G H) (hlen : ∀ i acc H, A i acc H → acc.length ≤ i)
    (keep : ∀ i acc H H', A i acc H → Keep [L] H H' → A i acc H')
    (hs : ∀ i x acc H H' (K : Option V → Hp → Prop), i < n → A i acc H → (∃ o, H L = some o) → Y i H x H' →
      (∀ y H'', Keep [] H H'' → A (i + 1) (acc ++ [y]) H'' → K (some y) H'') → (∀ H'', Keep [] H H'' → A (i + 1) acc H'' → K none H'') →
      g x (wipe σ vs) H' fun σ2 H2 => wipe σ2 vs = wipe σ vs ∧ tt σ2 H2 fun b H3 => if b = true then te σ2 H3 fun y H4 => K (some y) H4 else K none H3)
    (hd : ∀ acc H, A n acc H → H L = some (.lst acc) → Qd H) :
    ∃ W : Nat → Nat → Hp → Prop, (∃ m, W 0 m (upd H1 L (.lst []))) ∧ ∀ i m H, W i m H →
      (J.stop i H ∧ Qd H) ∨ (J.go i H ∧ ∃ Nx : Hp → Prop, (∀ H', Nx H' → ∃ m', m' < m ∧ W (i + 1) m' H') ∧ ∀ x H', J.yld i H x H' → g x (wipe σ vs) H' fun σ2 H2 => wipe σ2 vs = wipe σ vs ∧ tt σ2 H2 fun b H3 =>
        if b = true then te σ2 H3 fun y H4 => ∃ acc, H4 L = some (.lst acc) ∧ acc.length < sizeLine ∧ Nx (upd H4 L (.lst (acc ++ [y]))) else Nx H3) := by
  refine lc_it w (fun i H => ∃ acc, H L = some (.lst acc) ∧ A i acc H) ⟨[], upd_same, h0⟩ (fun i H hi ⟨acc, _, a⟩ => hG i acc H hi a) (fun i x H H' hi ⟨acc, hl, a⟩ y => ?_) (fun H ⟨acc, hl, a⟩ => hd acc H a hl)
  refine hs i x acc H H' (fun o H'' => match o with
    | some y => ∃ acc, H'' L = some (.lst acc) ∧ acc.length < sizeLine ∧ ∃ acc', (upd H'' L (.lst (acc ++ [y]))) L = some (.lst acc') ∧ A (i + 1) acc' (upd H'' L (.lst (acc ++ [y])))
    | none => ∃ acc, H'' L = some (.lst acc) ∧ A (i + 1) acc H'') hi a ⟨_, hl⟩ y (fun z H'' k a' => ?_) (fun H'' k a' => ?_)
  · have hz := hlen i acc H a
    refine ⟨acc, k L _ (by simp) hl, by rw [sizeLine_eq]; omega, acc ++ [z], upd_same, keep _ _ _ _ a' (Keep.at (by simp))⟩
  · exact ⟨acc, k L _ (by simp) hl, a'⟩
/-- the same without a test -/
theorem lc_acc0 (w : Walk J n G Y) {g : TG} {te : TE} {vs : List Nat} {σ : L2.St} {H1 : Hp} {L : Addr} {Qd : Hp → Prop} (A : Nat → List V → Hp → Prop) (hn : n < 100000)
    (hL : H1 L = none) (h0 : A 0 [] (upd H1 L (.lst []))) (hG : ∀ i acc H, i ≤ n → A i acc H → G H) (hlen : ∀ i acc H, A i acc H → acc.length ≤ i)
    (keep : ∀ i acc H H', A i acc H → Keep [L] H H' → A i acc H') (hg : ∀ x σ H Q Q', (∀ σ' H', Q σ' H' → Q' σ' H') → g x σ H Q → g x σ H Q')
    (hs : ∀ i x acc H H' (K : V → Hp → Prop), i < n → A i acc H → (∃ o, H L = some o) → Y i H x H' → (∀ y H'', Keep [] H H'' → A (i + 1) (acc ++ [y]) H'' → K y H'') →
      g x (wipe σ vs) H' fun σ2 H2 => wipe σ2 vs = wipe σ vs ∧ te σ2 H2 K)
    (hd : ∀ acc H, A n acc H → H L = some (.lst acc) → Qd H) :
    ∃ W : Nat → Nat → Hp → Prop, (∃ m, W 0 m (upd H1 L (.lst []))) ∧ ∀ i m H, W i m H →
      (J.stop i H ∧ Qd H) ∨ (J.go i H ∧ ∃ Nx : Hp → Prop, (∀ H', Nx H' → ∃ m', m' < m ∧ W (i + 1) m' H') ∧ ∀ x H', J.yld i H x H' → g x (wipe σ vs) H' fun σ2 H2 => wipe σ2 vs = wipe σ vs ∧ tYes σ2 H2 fun b H3 =>
        if b = true then te σ2 H3 fun y H4 => ∃ acc, H4 L = some (.lst acc) ∧ acc.length < sizeLine ∧ Nx (upd H4 L (.lst (acc ++ [y]))) else Nx H3) := by
  refine lc_acc (tt := tYes) w A hn hL h0 hG hlen keep (fun i x acc H H' K hi a e y k1 _ => ?_) hd
  refine hg x _ _ _ _ (fun σ2 H2 q => ⟨q.1, ?_⟩) (hs i x acc H H' (fun y H4 => K (some y) H4) hi a e y k1)
  show if true = true then te σ2 H2 fun y H4 => K (some y) H4 else K none H2
  rw [if_pos rfl]
  exact q.2
end
theorem gName_mono {i : Nat} : ∀ (x : V) (σ : L2.St) (H : Hp) (Q Q' : L2.St → Hp → Prop), (∀ σ' H', Q σ' H' → Q' σ' H') → gName i x σ H Q → gName i x σ H Q' := fun x σ H Q Q' h q => h _ _ q
end K51

set_option Elab.async false
set_option linter.all false
set_option maxRecDepth 100000
set_option maxHeartbeats 4000000
namespace K51
open PySem PySem.Spec PyProof.Rows L2
/-! ### the refusals' classes -/
structure ErrF (K : PySem.W.Frag) (C : Addr) : Prop where
  oex : OexC K C
  xf : XfC K C
  ec : ExcC K C
  ve : PySem.W.kitOne K (.ref C) (.type "ValueError") = some true
  le : PySem.W.kitOne K (.ref C) (.type "LookupError") = some false
theorem oexB_ok {K : PySem.W.Frag} {C : Addr} (h : oexB K C = true) : ∃ nm q N bs bm sn sub ab col dd k0 k1 k2 k3 k5, K.lookup C = some (excClassObj nm q C N bs bm true sn sub ab col dd k0 k1 k2 k3 k5 "ValueError.__new__") ∧ PySem.HandSPX.refsVE bm = true := by
  unfold oexB at h
  split at h
  · rename_i t dd cd sl e
    obtain ⟨h1, h2⟩ := Bool.and_eq_true_iff.mp h
    have et : t = "type" := of_decide_eq_true h1
    split at h2
    · rename_i C' bm k0 k1 k2 k3 n k5 em es
      obtain ⟨h3, h4⟩ := Bool.and_eq_true_iff.mp h2
      obtain ⟨h5, h6⟩ := Bool.and_eq_true_iff.mp h4
      obtain ⟨h7, h8⟩ := Bool.and_eq_true_iff.mp h6
      obtain ⟨h9, h10⟩ := Bool.and_eq_true_iff.mp h8
      have eC : C' = C := of_decide_eq_true h3
      have en : n = "ValueError.__new__" := of_decide_eq_true h5
      subst et eC en
      obtain ⟨c1, c2, c3, c4, c5, c6, c7, c8, c9, c10, c11⟩ := cd
      have e1 : c3 = .ref C' :: bm := em
      have e6 : c6 = true := h7
      have e11 : c11 = false := by simpa using h9
      have e5 : sl = #[k0, k1, k2, k3, some (.builtin "ValueError.__new__"), k5] := by
        have z : sl.toList.toArray = [k0, k1, k2, k3, some (.builtin "ValueError.__new__"), k5].toArray := by rw [es]
        simpa using z
      subst e1 e6 e11 e5
      exact ⟨_, _, _, _, _, _, _, _, _, _, _, _, _, _, _, e, h10⟩
    · cases h2
  · cases h
theorem errB_ok {K : PySem.W.Frag} {x : Str} (h : errB K x = true) : ErrF K (He.ga K x) ∧ PySem.W.findIn K (.ref (He.ga K x)) "__init__" = some (some (.ref (He.ma K (He.ga K x) "__init__"))) ∧ PySem.W.typeIn K (.ref (He.ma K (He.ga K x) "__init__")) = some (.type "function") := by
  obtain ⟨h1, h⟩ := Bool.and_eq_true_iff.mp h
  obtain ⟨h2, h⟩ := Bool.and_eq_true_iff.mp h
  obtain ⟨h3, h⟩ := Bool.and_eq_true_iff.mp h
  obtain ⟨h4, h5⟩ := Bool.and_eq_true_iff.mp h
  obtain ⟨a1, h2⟩ := Bool.and_eq_true_iff.mp h2
  obtain ⟨a2, h2⟩ := Bool.and_eq_true_iff.mp h2
  obtain ⟨a3, a4⟩ := Bool.and_eq_true_iff.mp h2
  obtain ⟨b1, h4⟩ := Bool.and_eq_true_iff.mp h4
  obtain ⟨b2, h4⟩ := Bool.and_eq_true_iff.mp h4
  obtain ⟨b3, h4⟩ := Bool.and_eq_true_iff.mp h4
  obtain ⟨b4, h4⟩ := Bool.and_eq_true_iff.mp h4
  obtain ⟨b5, b6⟩ := Bool.and_eq_true_iff.mp h4
  obtain ⟨c1, c2⟩ := Bool.and_eq_true_iff.mp h5
  have X := xfB_ok h3
  exact ⟨⟨⟨oexB_ok h1, of_decide_eq_true a1, of_decide_eq_true a2, of_decide_eq_true a3, a4⟩, X, ⟨X.ga, X.gg, X.exC, X.hdC, of_decide_eq_true b1, of_decide_eq_true b2, of_decide_eq_true b3, of_decide_eq_true b4⟩, of_decide_eq_true b5, of_decide_eq_true b6⟩,
    of_decide_eq_true c1, of_decide_eq_true c2⟩
section
variable {w : World} {K : PySem.W.Frag} {mg : Str → Option Value}
theorem TX.errB (T : TX w K mg) {x : Str} (h : errs.contains x = true) : K51.errB K x = true := by
  have e := (Bool.and_eq_true_iff.mp T.ext).1
  exact List.all_eq_true.mp e x (by simpa using h)
structure ClsFn (K : PySem.W.Frag) : Prop where
  rd : PySem.W.readsIn K (He.ga K "LeakError") (.type "type") = true
  ga : PySem.W.specialIn K (.ref (He.ga K "LeakError")) "__getattribute__" = some (some (.builtin "type.__getattribute__"))
  fi : PySem.W.findCls K (.ref (He.ga K "LeakError")) (.type "type") "__init__" = some (.val (.ref (He.ma K (He.ga K "LeakError") "__init__")))
  ve : PySem.W.findCls K (.type "ValueError") (.type "type") "__init__" = some (.val (.builtin "ValueError.__init__"))
theorem TX.clsFn (T : TX w K mg) : ClsFn K := by
  have e := (Bool.and_eq_true_iff.mp (Bool.and_eq_true_iff.mp T.ext).2).1
  obtain ⟨h1, h⟩ := Bool.and_eq_true_iff.mp e
  obtain ⟨h2, h⟩ := Bool.and_eq_true_iff.mp h
  obtain ⟨h3, h4⟩ := Bool.and_eq_true_iff.mp h
  refine ⟨h1, of_decide_eq_true h2, ?_, ?_⟩
  · split at h3
    · rename_i f e
      obtain ⟨h5, h6⟩ := Bool.and_eq_true_iff.mp h3
      rw [← show f = _ from of_decide_eq_true h5]
      exact e
    · cases h3
  · split at h4
    · rename_i n e
      rw [← show n = _ from of_decide_eq_true h4]
      exact e
    · cases h4
end
/-! ### C.m(..), m a function of the class -/
section
variable {X : Cx} {k : Nat} {x m : Str} {C f : Addr} {fd : FuncData} {ps : List Str} {sp : Sp} {E : XK} {e : Expr} {es : List Expr} {t : TA} {p pos apos : Pos}
theorem pe_clsfn {pl : Sem Bool} (F : FnOk X.prog X.w X.K X.mg X.base (L2.CX X.prog X.w) k f fd ps sp) (kf : PySem.W.keepIn X.K (.ref f) = true) (hb : Binds X.K fd ps []) (rd : PySem.W.readsIn X.K C (.type "type") = true)
    (ga : PySem.W.specialIn X.K (.ref C) "__getattribute__" = some (some (.builtin "type.__getattribute__"))) (fi : PySem.W.findCls X.K (.ref C) (.type "type") m = some (.val (.ref f))) (hr : Room k X.A) (hg : Gl X x) (hm : X.mg x = some (.ref C)) (hx : Passes (L2.CX X.prog X.w) X E)
    (ha : PA X (e :: es) t) (hd : (x == ("__debug__" : Str)) = false := by decide) (he : starEach (e :: es) X.env = (false, eval e X.env) :: starEach es X.env := by rfl) (hpl : (backTo pos (starEach es X.env)).any (·.1) = false := by rfl) (ht : MForm X (.Name x p) m apos (e :: es) pos pl := by rfl) :
    PE X (.Call (.Attribute (.Name x p) m apos) (e :: es) [] pos) (tCall sp [] E t) := by
  refine ⟨fun pins s σ H Q I h => ?_⟩
  refine PySem.W.methodCall_KW (pl := pl) (ld_glob I hg hm ?_ hd) ht
  refine PySem.W.method_cls I.kIn ga (PySem.W.cls_value I.kIn rd fi rfl ?_)
  refine PySem.W.callWith_K (h₀ := X.base) (first := []) I.ok.mod.kin kf (thn (ha.run pos pins _ σ H _ (I.tok _) h) fun us s1 ⟨vs, H1, I1, r, q⟩ => ⟨I1.kIn, ?_⟩) he hpl
  exact run_fn F hr hb .nil hx I1 r q
end
/-! ### raise X(), X an own class whose __init__ fills in its defaults -/
/-- X(): its own dict holds fs -/
def tErr (C : Addr) (fs : List (Str × V)) : L2.St → Hp → XK → Prop := fun _ H Q => ∀ d H', H d = none → H' d = some (.xd fs) → Same H H' → Q (.ref C) (some d) H'
/-- what such an __init__ promises -/
def spErr (K : PySem.W.Frag) (C : Addr) (fs : V → List (Str × V)) : Sp := fun vs H Q _ => ∃ (a : Addr) (i : V), vs = [.ref a, i] ∧ H a = some (exo a C none) ∧
  ∀ dx H', H dx = none → dx ≠ a → H' a = some (exo a C (some dx)) → H' dx = some (exd dx (fs i)) → (∀ b o, b ≠ a → H b = some o → H' b = some o) → Q .non H'
section
variable {X : Cx} {CX : CXT} {x : Str} {C fI : Addr} {k : Nat} {fd : FuncData} {ps : List Str} {ds : List Value} {dv : V} {fs : V → List (Str × V)} {p pos : Pos}
theorem pmk_err0 (T : OexC X.K C) (iC : PySem.W.findIn X.K (.ref C) "__init__" = some (some (.ref fI))) (tI : PySem.W.typeIn X.K (.ref fI) = some (.type "function")) (F1 : FnOk X.prog X.w X.K X.mg X.base CX k fI fd ps (spErr X.K C fs)) (hr : Room (k + 1) X.A)
    (hb : Binds X.K fd ps ds) (hd : Vals [dv] ds) (hx : Passes CX X (fun _ _ _ => False)) (hg : Gl X x) (hm : X.mg x = some (.ref C)) (hdb : (x == ("__debug__" : Str)) = false := by decide) : PMk X (.Call (.Name x p) [] [] pos) (tErr C (fs dv)) := by
  intro pins s σ H Q I h
  obtain ⟨nm, q, N, bs, bm, sn, sub, ab, col, dd, k0, k1, k2, k3, k5, hC, hbm⟩ := T.cls
  refine wpAny_Call_Name_kw (ld_glob I hg hm ?_ hdb)
  refine PySem.W.callWith_K0 I.kIn T.kC ?_
  obtain ⟨hp, g, dr, tk, os⟩ := s
  have hsz : hp.objs.size ≤ hp.objs.size + 1 := Nat.le_succ _
  have hn : H (hp.objs.size + 1) = none := I.hok.fresh hsz
  have kk : ∀ b o, hp.get? b = some o → ((hp.push (PySem.W.kdv_tup [])).push (PySem.HandSPX.excO C hp.objs.size)).get? b = some o := fun b o e => Heap.get?_push_of_some _ (Heap.get?_push_of_some _ e)
  have hget : ((hp.push (PySem.W.kdv_tup [])).push (PySem.HandSPX.excO C hp.objs.size)).get? (hp.objs.size + 1) = some (PySem.HandSPX.excO C hp.objs.size) := by heap_get
  have I2 : Inv X pins σ (upd H (hp.objs.size + 1) (exo (hp.objs.size + 1) C none)) ⟨(hp.push (PySem.W.kdv_tup [])).push (PySem.HandSPX.excO C hp.objs.size), g, dr, tk, os⟩ :=
    I.laid (t' := tk) (a := hp.objs.size + 1) (o := exo (hp.objs.size + 1) C none) (h' := (hp.push (PySem.W.kdv_tup [])).push (PySem.HandSPX.excO C hp.objs.size)) kk hsz (exo_ok hget)
  have r2 : Vals [V.ref (hp.objs.size + 1), dv] (Value.ref (hp.objs.size + 1) :: ds) := .cons rfl hd
  have hq : spErr X.K C fs [V.ref (hp.objs.size + 1), dv] (upd H (hp.objs.size + 1) (exo (hp.objs.size + 1) C none))
      (fun v H2 => v = .non ∧ ∃ (d : Addr) (fs' : List (Str × V)), H2 (hp.objs.size + 1) = some (exo (hp.objs.size + 1) C (some d)) ∧ H2 d = some (exd d fs') ∧ H d = none ∧ Q (.ref C) (some d) (upd (del H2 (hp.objs.size + 1)) d (.xd fs'))) (fun _ _ _ => False) := by
    refine ⟨_, _, rfl, upd_same, fun dx H' ndx nea e1 e2 k => ⟨rfl, dx, _, e1, e2, ?_, ?_⟩⟩
    · rw [upd_ne nea] at ndx
      exact ndx
    · refine h dx _ (by rw [upd_ne nea] at ndx; exact ndx) upd_same fun b o e => ?_
      have nb : b ≠ hp.objs.size + 1 := ne_of_none e hn
      rw [upd_ne (fun z => by rw [upd_ne nea] at ndx; rw [z, ndx] at e; cases e), del_ne nb]
      exact k b o nb (by rw [upd_ne nb]; exact e)
  have hl : (Value.ref (hp.objs.size + 1) :: ds).length = ps.length := by
    have e := r2.length
    rw [F1.len _ _ _ _ hq] at e
    exact e.symm
  refine wpAny_call (PySem.HandSPX.call_own F.excBase_ValueError (fun Y => PySem.HandSPX.refsVE_contains Y bm hbm) (I.kIn _ _ hC) (PySem.W.looks_findIn I.kIn iC) (fun self => PySem.W.bind_fn I.kIn self tI) (Nat.zero_le _)
    (codeAny_mono (F1.run _ X.stack _ _ ⟨[Value.ref (hp.objs.size + 1)], []⟩ (Value.ref (hp.objs.size + 1) :: ds) _ _ (fun _ _ _ => False) (hr.make C [] []) (I2.env0.make C [] []) (hb _ [Value.ref (hp.objs.size + 1)] I2.kIn hl) r2 hq) fun r s' hq' => ?_))
  cases r with
  | error er => exact hx pins σ _ _ er s' I2 hq'
  | ok fl =>
    cases fl with
    | ret u =>
      obtain ⟨v, H2, os2, bare2, un2, hok2, rv, ev, d, fs', ea, ed, hd1, q2⟩ := hq'
      subst ev
      obtain ⟨h2, g2, d2, t2, os'⟩ := s'
      exact ⟨rv, mk_end (raises_own T.exC T.tyC) I hsz kk un2 hok2 os2 bare2 ea ed hd1 q2⟩
    | next => exact False.elim hq'
    | brk => exact False.elim hq'
    | cont => exact False.elim hq'
end
/-- the class x: its __init__ (level k) keeps spErr, the default is dv -/
def ErrE (P : Program) (w : World) (K : PySem.W.Frag) (mg : Str → Option Value) (base : Heap) (k : Nat) (x : Str) (dv : V) (fs : V → List (Str × V)) : Prop :=
  ∃ (fI : Addr) (fd : FuncData) (ps : List Str) (ds : List Value), ErrF K (He.ga K x) ∧ PySem.W.findIn K (.ref (He.ga K x)) "__init__" = some (some (.ref fI)) ∧ PySem.W.typeIn K (.ref fI) = some (.type "function") ∧
    FnOk P w K mg base (L2.CX P w) k fI fd ps (spErr K (He.ga K x) fs) ∧ Binds K fd ps ds ∧ Vals [dv] ds ∧ mg x = some (.ref (He.ga K x))
theorem pmk_err {X : Cx} {x : Str} {k : Nat} {dv : V} {fs : V → List (Str × V)} {p pos : Pos} (c : ErrE X.prog X.w X.K X.mg X.base k x dv fs) (hr : Room (k + 1) X.A) (hg : Gl X x) (hdb : (x == ("__debug__" : Str)) = false := by decide) : PMk X (.Call (.Name x p) [] [] pos) (tErr (He.ga X.K x) (fs dv)) := by
  obtain ⟨fI, fd, ps, ds, T, iC, tI, F1, hb, hd, hm⟩ := c
  exact pmk_err0 T.oex iC tI F1 hr hb hd passL hg hm hdb
end K51

set_option Elab.async false
set_option linter.all false
set_option maxRecDepth 100000
set_option maxHeartbeats 4000000
namespace K51
open PySem PySem.Spec PyProof.Rows L2
/-- what a refusal's own dict holds -/
def errFs (wd : Str) (i : V) : List (Str × V) := [("at", i), ("word", .str wd)]
/-- LeakError.__init__(self, word, at) -/
def spLeak (K : PySem.W.Frag) : Sp := fun vs H Q _ => ∃ (a C : Addr) (wd : Str) (i : V), vs = [.ref a, .str wd, i] ∧ OexC K C ∧ PySem.W.findIn K (.ref C) "word" = some none ∧ PySem.W.findIn K (.ref C) "at" = some none ∧ H a = some (exo a C none) ∧
  ∀ dx H', H dx = none → dx ≠ a → H' a = some (exo a C (some dx)) → H' dx = some (exd dx (errFs wd i)) → (∀ b o, b ≠ a → H b = some o → H' b = some o) → Q .non H'
section
variable {P : Program} {w : World} {K : PySem.W.Frag} {mg : Str → Option Value} {base : Heap}
abbrev N_LE : List Str := ["self", "word", "at"]
theorem sc_LE : FnScope N_LE ["self", "word", "at"] (defScope s_LeakError_init) := ⟨rfl, rfl, rfl, by decide +kernel, rfl, by decide +kernel, by decide +kernel⟩
theorem b_LE : Bnd0 d_LeakError_init.name d_LeakError_init.qual d_LeakError_init.params d_LeakError_init.body d_LeakError_init.scope ["self", "word", "at"] := fun _ _ _ _ _ _ us hl => match us, hl with | [_, _, _], _ => rfl
theorem ok_leak (T : TX w K mg) : ∃ fd : FuncData, FnOk P w K mg base (L2.CX P w) 1 (He.ma K (He.ga K "LeakError") "__init__") fd ["self", "word", "at"] (spLeak K) ∧ PySem.W.keepIn K (.ref (He.ma K (He.ga K "LeakError") "__init__")) = true ∧ Binds K fd ["self", "word", "at"] [] := by
  obtain ⟨fd, F⟩ := T.fd_LeakError_init
  refine ⟨fd, F.ok sc_LE (fun vs H Q E h => ?_) (fun cdv A outer s H vs Q E hr h => ?_), F.kp, F.bindsN b_LE⟩
  · obtain ⟨a, C, wd, i, rfl, _⟩ := h
    rfl
  obtain ⟨a, C, wd, i, rfl, TC, nw, na, ha, k⟩ := h
  refine ⟨_, pss_cons (ps_expr (pe_veinit rfl T.f_ValueError T.clsFn.ve (pa_cons (pv 0) (pa_cons (pv 1) pa_nil)))) (pss_cons (ps_ost (pv 0) (pv 1)) (pss_one (ps_ost (pv 0) (pv 2)))), ?_⟩
  refine ⟨_, rfl, _, rfl, a, C, _, rfl, by show 1 ≤ 1000; decide, TC, ha, ?_⟩
  refine ⟨_, rfl, _, rfl, a, C, rfl, TC, nw, Or.inl ⟨ha, fun dx nx ne => ?_⟩⟩
  have e1 : upd (upd H dx (exd dx [("word", V.str wd)])) a (exo a C (some dx)) dx = some (exd dx [("word", V.str wd)]) := by rw [upd_ne ne, upd_same]
  refine ⟨_, rfl, _, rfl, a, C, rfl, TC, na, Or.inr ⟨dx, _, upd_same, e1, by show 1 ≤ 900; decide, ?_⟩⟩
  refine k dx _ nx ne (by rw [upd_ne ne.symm, upd_same]) upd_same fun b o hb e => ?_
  rw [upd_ne (ne_of_none e nx), upd_ne hb, upd_ne (ne_of_none e nx)]
  exact e

theorem sc_BadName : FnScope ["self", "at"] ["self", "at"] (defScope s_BadName_init) := ⟨rfl, rfl, rfl, by decide +kernel, rfl, by decide +kernel, by decide +kernel⟩
theorem ok_BadName_init (T : TX w K mg) : ErrE P w K mg base 2 "BadName" (.int (-1)) (errFs "badname") := by
  obtain ⟨fL, FL, kL, bL⟩ := ok_leak (P := P) (base := base) T
  obtain ⟨TF, iC, tI⟩ := errB_ok (T.errB (x := "BadName") (by decide +kernel))
  obtain ⟨fd, F⟩ := T.fd_BadName_init
  have G : FnOk P w K mg base (L2.CX P w) 2 (He.ma K (He.ga K "BadName") "__init__") fd ["self", "at"] (spErr K (He.ga K "BadName") (errFs "badname")) := by
    refine F.ok sc_BadName (fun vs H Q E h => ?_) (fun cdv A outer s H vs Q E hr h => ?_)
    · obtain ⟨a, i, rfl, _⟩ := h
      rfl
    obtain ⟨a, i, rfl, ha, k⟩ := h
    refine ⟨_, pss_one (ps_expr (pe_clsfn FL kL bL T.clsFn.rd T.clsFn.ga T.clsFn.fi hr rfl T.g_LeakError passL (pa_cons (pv 0) (pa_cons pe_str (pa_cons (pv 1) pa_nil))))), ?_⟩
    exact ⟨_, rfl, _, rfl, a, _, _, i, rfl, TF.oex, T.n_BadName_word, T.n_BadName_at, ha, k⟩
  obtain ⟨ds, vd, b⟩ := F.binds1 (ps := ["self", "at"]) 1 0 (List.cons_ne_nil _ _) rfl (fun _ _ _ _ _ _ _ us its h1 h2 => match us, its, h1, h2 with | [_], [_], _, _ => ⟨_, rfl, rfl⟩)
  exact ⟨_, fd, _, ds, TF, iC, tI, G, b, vd, T.g_BadName⟩
theorem sc_BadWord : FnScope ["self", "at"] ["self", "at"] (defScope s_BadWord_init) := ⟨rfl, rfl, rfl, by decide +kernel, rfl, by decide +kernel, by decide +kernel⟩
theorem ok_BadWord_init (T : TX w K mg) : ErrE P w K mg base 2 "BadWord" (.int (-1)) (errFs "badword") := by
  obtain ⟨fL, FL, kL, bL⟩ := ok_leak (P := P) (base := base) T
  obtain ⟨TF, iC, tI⟩ := errB_ok (T.errB (x := "BadWord") (by decide +kernel))
  obtain ⟨fd, F⟩ := T.fd_BadWord_init
  have G : FnOk P w K mg base (L2.CX P w) 2 (He.ma K (He.ga K "BadWord") "__init__") fd ["self", "at"] (spErr K (He.ga K "BadWord") (errFs "badword")) := by
    refine F.ok sc_BadWord (fun vs H Q E h => ?_) (fun cdv A outer s H vs Q E hr h => ?_)
    · obtain ⟨a, i, rfl, _⟩ := h
      rfl
    obtain ⟨a, i, rfl, ha, k⟩ := h
    refine ⟨_, pss_one (ps_expr (pe_clsfn FL kL bL T.clsFn.rd T.clsFn.ga T.clsFn.fi hr rfl T.g_LeakError passL (pa_cons (pv 0) (pa_cons pe_str (pa_cons (pv 1) pa_nil))))), ?_⟩
    exact ⟨_, rfl, _, rfl, a, _, _, i, rfl, TF.oex, T.n_BadWord_word, T.n_BadWord_at, ha, k⟩
  obtain ⟨ds, vd, b⟩ := F.binds1 (ps := ["self", "at"]) 1 0 (List.cons_ne_nil _ _) rfl (fun _ _ _ _ _ _ _ us its h1 h2 => match us, its, h1, h2 with | [_], [_], _, _ => ⟨_, rfl, rfl⟩)
  exact ⟨_, fd, _, ds, TF, iC, tI, G, b, vd, T.g_BadWord⟩
theorem sc_BadAct : FnScope ["self", "at"] ["self", "at"] (defScope s_BadAct_init) := ⟨rfl, rfl, rfl, by decide +kernel, rfl, by decide +kernel, by decide +kernel⟩
theorem ok_BadAct_init (T : TX w K mg) : ErrE P w K mg base 2 "BadAct" (.int (-1)) (errFs "badact") := by
  obtain ⟨fL, FL, kL, bL⟩ := ok_leak (P := P) (base := base) T
  obtain ⟨TF, iC, tI⟩ := errB_ok (T.errB (x := "BadAct") (by decide +kernel))
  obtain ⟨fd, F⟩ := T.fd_BadAct_init
  have G : FnOk P w K mg base (L2.CX P w) 2 (He.ma K (He.ga K "BadAct") "__init__") fd ["self", "at"] (spErr K (He.ga K "BadAct") (errFs "badact")) := by
    refine F.ok sc_BadAct (fun vs H Q E h => ?_) (fun cdv A outer s H vs Q E hr h => ?_)
    · obtain ⟨a, i, rfl, _⟩ := h
      rfl
    obtain ⟨a, i, rfl, ha, k⟩ := h
    refine ⟨_, pss_one (ps_expr (pe_clsfn FL kL bL T.clsFn.rd T.clsFn.ga T.clsFn.fi hr rfl T.g_LeakError passL (pa_cons (pv 0) (pa_cons pe_str (pa_cons (pv 1) pa_nil))))), ?_⟩
    exact ⟨_, rfl, _, rfl, a, _, _, i, rfl, TF.oex, T.n_BadAct_word, T.n_BadAct_at, ha, k⟩
  obtain ⟨ds, vd, b⟩ := F.binds1 (ps := ["self", "at"]) 1 0 (List.cons_ne_nil _ _) rfl (fun _ _ _ _ _ _ _ us its h1 h2 => match us, its, h1, h2 with | [_], [_], _, _ => ⟨_, rfl, rfl⟩)
  exact ⟨_, fd, _, ds, TF, iC, tI, G, b, vd, T.g_BadAct⟩
theorem sc_BadWish : FnScope ["self", "at"] ["self", "at"] (defScope s_BadWish_init) := ⟨rfl, rfl, rfl, by decide +kernel, rfl, by decide +kernel, by decide +kernel⟩
theorem ok_BadWish_init (T : TX w K mg) : ErrE P w K mg base 2 "BadWish" (.int (-1)) (errFs "badwish") := by
  obtain ⟨fL, FL, kL, bL⟩ := ok_leak (P := P) (base := base) T
  obtain ⟨TF, iC, tI⟩ := errB_ok (T.errB (x := "BadWish") (by decide +kernel))
  obtain ⟨fd, F⟩ := T.fd_BadWish_init
  have G : FnOk P w K mg base (L2.CX P w) 2 (He.ma K (He.ga K "BadWish") "__init__") fd ["self", "at"] (spErr K (He.ga K "BadWish") (errFs "badwish")) := by
    refine F.ok sc_BadWish (fun vs H Q E h => ?_) (fun cdv A outer s H vs Q E hr h => ?_)
    · obtain ⟨a, i, rfl, _⟩ := h
      rfl
    obtain ⟨a, i, rfl, ha, k⟩ := h
    refine ⟨_, pss_one (ps_expr (pe_clsfn FL kL bL T.clsFn.rd T.clsFn.ga T.clsFn.fi hr rfl T.g_LeakError passL (pa_cons (pv 0) (pa_cons pe_str (pa_cons (pv 1) pa_nil))))), ?_⟩
    exact ⟨_, rfl, _, rfl, a, _, _, i, rfl, TF.oex, T.n_BadWish_word, T.n_BadWish_at, ha, k⟩
  obtain ⟨ds, vd, b⟩ := F.binds1 (ps := ["self", "at"]) 1 0 (List.cons_ne_nil _ _) rfl (fun _ _ _ _ _ _ _ us its h1 h2 => match us, its, h1, h2 with | [_], [_], _, _ => ⟨_, rfl, rfl⟩)
  exact ⟨_, fd, _, ds, TF, iC, tI, G, b, vd, T.g_BadWish⟩
theorem sc_BadDeed : FnScope ["self", "at"] ["self", "at"] (defScope s_BadDeed_init) := ⟨rfl, rfl, rfl, by decide +kernel, rfl, by decide +kernel, by decide +kernel⟩
theorem ok_BadDeed_init (T : TX w K mg) : ErrE P w K mg base 2 "BadDeed" (.int (-1)) (errFs "baddeed") := by
  obtain ⟨fL, FL, kL, bL⟩ := ok_leak (P := P) (base := base) T
  obtain ⟨TF, iC, tI⟩ := errB_ok (T.errB (x := "BadDeed") (by decide +kernel))
  obtain ⟨fd, F⟩ := T.fd_BadDeed_init
  have G : FnOk P w K mg base (L2.CX P w) 2 (He.ma K (He.ga K "BadDeed") "__init__") fd ["self", "at"] (spErr K (He.ga K "BadDeed") (errFs "baddeed")) := by
    refine F.ok sc_BadDeed (fun vs H Q E h => ?_) (fun cdv A outer s H vs Q E hr h => ?_)
    · obtain ⟨a, i, rfl, _⟩ := h
      rfl
    obtain ⟨a, i, rfl, ha, k⟩ := h
    refine ⟨_, pss_one (ps_expr (pe_clsfn FL kL bL T.clsFn.rd T.clsFn.ga T.clsFn.fi hr rfl T.g_LeakError passL (pa_cons (pv 0) (pa_cons pe_str (pa_cons (pv 1) pa_nil))))), ?_⟩
    exact ⟨_, rfl, _, rfl, a, _, _, i, rfl, TF.oex, T.n_BadDeed_word, T.n_BadDeed_at, ha, k⟩
  obtain ⟨ds, vd, b⟩ := F.binds1 (ps := ["self", "at"]) 1 0 (List.cons_ne_nil _ _) rfl (fun _ _ _ _ _ _ _ us its h1 h2 => match us, its, h1, h2 with | [_], [_], _, _ => ⟨_, rfl, rfl⟩)
  exact ⟨_, fd, _, ds, TF, iC, tI, G, b, vd, T.g_BadDeed⟩
theorem sc_Taken : FnScope ["self", "at"] ["self", "at"] (defScope s_Taken_init) := ⟨rfl, rfl, rfl, by decide +kernel, rfl, by decide +kernel, by decide +kernel⟩
theorem ok_Taken_init (T : TX w K mg) : ErrE P w K mg base 2 "Taken" (.int (-1)) (errFs "taken") := by
  obtain ⟨fL, FL, kL, bL⟩ := ok_leak (P := P) (base := base) T
  obtain ⟨TF, iC, tI⟩ := errB_ok (T.errB (x := "Taken") (by decide +kernel))
  obtain ⟨fd, F⟩ := T.fd_Taken_init
  have G : FnOk P w K mg base (L2.CX P w) 2 (He.ma K (He.ga K "Taken") "__init__") fd ["self", "at"] (spErr K (He.ga K "Taken") (errFs "taken")) := by
    refine F.ok sc_Taken (fun vs H Q E h => ?_) (fun cdv A outer s H vs Q E hr h => ?_)
    · obtain ⟨a, i, rfl, _⟩ := h
      rfl
    obtain ⟨a, i, rfl, ha, k⟩ := h
    refine ⟨_, pss_one (ps_expr (pe_clsfn FL kL bL T.clsFn.rd T.clsFn.ga T.clsFn.fi hr rfl T.g_LeakError passL (pa_cons (pv 0) (pa_cons pe_str (pa_cons (pv 1) pa_nil))))), ?_⟩
    exact ⟨_, rfl, _, rfl, a, _, _, i, rfl, TF.oex, T.n_Taken_word, T.n_Taken_at, ha, k⟩
  obtain ⟨ds, vd, b⟩ := F.binds1 (ps := ["self", "at"]) 1 0 (List.cons_ne_nil _ _) rfl (fun _ _ _ _ _ _ _ us its h1 h2 => match us, its, h1, h2 with | [_], [_], _, _ => ⟨_, rfl, rfl⟩)
  exact ⟨_, fd, _, ds, TF, iC, tI, G, b, vd, T.g_Taken⟩
theorem sc_Full : FnScope ["self", "at"] ["self", "at"] (defScope s_Full_init) := ⟨rfl, rfl, rfl, by decide +kernel, rfl, by decide +kernel, by decide +kernel⟩
theorem ok_Full_init (T : TX w K mg) : ErrE P w K mg base 2 "Full" (.int (-1)) (errFs "full") := by
  obtain ⟨fL, FL, kL, bL⟩ := ok_leak (P := P) (base := base) T
  obtain ⟨TF, iC, tI⟩ := errB_ok (T.errB (x := "Full") (by decide +kernel))
  obtain ⟨fd, F⟩ := T.fd_Full_init
  have G : FnOk P w K mg base (L2.CX P w) 2 (He.ma K (He.ga K "Full") "__init__") fd ["self", "at"] (spErr K (He.ga K "Full") (errFs "full")) := by
    refine F.ok sc_Full (fun vs H Q E h => ?_) (fun cdv A outer s H vs Q E hr h => ?_)
    · obtain ⟨a, i, rfl, _⟩ := h
      rfl
    obtain ⟨a, i, rfl, ha, k⟩ := h
    refine ⟨_, pss_one (ps_expr (pe_clsfn FL kL bL T.clsFn.rd T.clsFn.ga T.clsFn.fi hr rfl T.g_LeakError passL (pa_cons (pv 0) (pa_cons pe_str (pa_cons (pv 1) pa_nil))))), ?_⟩
    exact ⟨_, rfl, _, rfl, a, _, _, i, rfl, TF.oex, T.n_Full_word, T.n_Full_at, ha, k⟩
  obtain ⟨ds, vd, b⟩ := F.binds1 (ps := ["self", "at"]) 1 0 (List.cons_ne_nil _ _) rfl (fun _ _ _ _ _ _ _ us its h1 h2 => match us, its, h1, h2 with | [_], [_], _, _ => ⟨_, rfl, rfl⟩)
  exact ⟨_, fd, _, ds, TF, iC, tI, G, b, vd, T.g_Full⟩
theorem sc_NoMachine : FnScope ["self", "at"] ["self", "at"] (defScope s_NoMachine_init) := ⟨rfl, rfl, rfl, by decide +kernel, rfl, by decide +kernel, by decide +kernel⟩
theorem ok_NoMachine_init (T : TX w K mg) : ErrE P w K mg base 2 "NoMachine" (.int (-1)) (errFs "nomachine") := by
  obtain ⟨fL, FL, kL, bL⟩ := ok_leak (P := P) (base := base) T
  obtain ⟨TF, iC, tI⟩ := errB_ok (T.errB (x := "NoMachine") (by decide +kernel))
  obtain ⟨fd, F⟩ := T.fd_NoMachine_init
  have G : FnOk P w K mg base (L2.CX P w) 2 (He.ma K (He.ga K "NoMachine") "__init__") fd ["self", "at"] (spErr K (He.ga K "NoMachine") (errFs "nomachine")) := by
    refine F.ok sc_NoMachine (fun vs H Q E h => ?_) (fun cdv A outer s H vs Q E hr h => ?_)
    · obtain ⟨a, i, rfl, _⟩ := h
      rfl
    obtain ⟨a, i, rfl, ha, k⟩ := h
    refine ⟨_, pss_one (ps_expr (pe_clsfn FL kL bL T.clsFn.rd T.clsFn.ga T.clsFn.fi hr rfl T.g_LeakError passL (pa_cons (pv 0) (pa_cons pe_str (pa_cons (pv 1) pa_nil))))), ?_⟩
    exact ⟨_, rfl, _, rfl, a, _, _, i, rfl, TF.oex, T.n_NoMachine_word, T.n_NoMachine_at, ha, k⟩
  obtain ⟨ds, vd, b⟩ := F.binds1 (ps := ["self", "at"]) 1 0 (List.cons_ne_nil _ _) rfl (fun _ _ _ _ _ _ _ us its h1 h2 => match us, its, h1, h2 with | [_], [_], _, _ => ⟨_, rfl, rfl⟩)
  exact ⟨_, fd, _, ds, TF, iC, tI, G, b, vd, T.g_NoMachine⟩
theorem sc_NoRow : FnScope ["self", "at"] ["self", "at"] (defScope s_NoRow_init) := ⟨rfl, rfl, rfl, by decide +kernel, rfl, by decide +kernel, by decide +kernel⟩
theorem ok_NoRow_init (T : TX w K mg) : ErrE P w K mg base 2 "NoRow" (.int (-1)) (errFs "norow") := by
  obtain ⟨fL, FL, kL, bL⟩ := ok_leak (P := P) (base := base) T
  obtain ⟨TF, iC, tI⟩ := errB_ok (T.errB (x := "NoRow") (by decide +kernel))
  obtain ⟨fd, F⟩ := T.fd_NoRow_init
  have G : FnOk P w K mg base (L2.CX P w) 2 (He.ma K (He.ga K "NoRow") "__init__") fd ["self", "at"] (spErr K (He.ga K "NoRow") (errFs "norow")) := by
    refine F.ok sc_NoRow (fun vs H Q E h => ?_) (fun cdv A outer s H vs Q E hr h => ?_)
    · obtain ⟨a, i, rfl, _⟩ := h
      rfl
    obtain ⟨a, i, rfl, ha, k⟩ := h
    refine ⟨_, pss_one (ps_expr (pe_clsfn FL kL bL T.clsFn.rd T.clsFn.ga T.clsFn.fi hr rfl T.g_LeakError passL (pa_cons (pv 0) (pa_cons pe_str (pa_cons (pv 1) pa_nil))))), ?_⟩
    exact ⟨_, rfl, _, rfl, a, _, _, i, rfl, TF.oex, T.n_NoRow_word, T.n_NoRow_at, ha, k⟩
  obtain ⟨ds, vd, b⟩ := F.binds1 (ps := ["self", "at"]) 1 0 (List.cons_ne_nil _ _) rfl (fun _ _ _ _ _ _ _ us its h1 h2 => match us, its, h1, h2 with | [_], [_], _, _ => ⟨_, rfl, rfl⟩)
  exact ⟨_, fd, _, ds, TF, iC, tI, G, b, vd, T.g_NoRow⟩
theorem sc_NoMove : FnScope ["self", "at"] ["self", "at"] (defScope s_NoMove_init) := ⟨rfl, rfl, rfl, by decide +kernel, rfl, by decide +kernel, by decide +kernel⟩
theorem ok_NoMove_init (T : TX w K mg) : ErrE P w K mg base 2 "NoMove" (.int (-1)) (errFs "nomove") := by
  obtain ⟨fL, FL, kL, bL⟩ := ok_leak (P := P) (base := base) T
  obtain ⟨TF, iC, tI⟩ := errB_ok (T.errB (x := "NoMove") (by decide +kernel))
  obtain ⟨fd, F⟩ := T.fd_NoMove_init
  have G : FnOk P w K mg base (L2.CX P w) 2 (He.ma K (He.ga K "NoMove") "__init__") fd ["self", "at"] (spErr K (He.ga K "NoMove") (errFs "nomove")) := by
    refine F.ok sc_NoMove (fun vs H Q E h => ?_) (fun cdv A outer s H vs Q E hr h => ?_)
    · obtain ⟨a, i, rfl, _⟩ := h
      rfl
    obtain ⟨a, i, rfl, ha, k⟩ := h
    refine ⟨_, pss_one (ps_expr (pe_clsfn FL kL bL T.clsFn.rd T.clsFn.ga T.clsFn.fi hr rfl T.g_LeakError passL (pa_cons (pv 0) (pa_cons pe_str (pa_cons (pv 1) pa_nil))))), ?_⟩
    exact ⟨_, rfl, _, rfl, a, _, _, i, rfl, TF.oex, T.n_NoMove_word, T.n_NoMove_at, ha, k⟩
  obtain ⟨ds, vd, b⟩ := F.binds1 (ps := ["self", "at"]) 1 0 (List.cons_ne_nil _ _) rfl (fun _ _ _ _ _ _ _ us its h1 h2 => match us, its, h1, h2 with | [_], [_], _, _ => ⟨_, rfl, rfl⟩)
  exact ⟨_, fd, _, ds, TF, iC, tI, G, b, vd, T.g_NoMove⟩
theorem sc_NoLab : FnScope ["self", "at"] ["self", "at"] (defScope s_NoLab_init) := ⟨rfl, rfl, rfl, by decide +kernel, rfl, by decide +kernel, by decide +kernel⟩
theorem ok_NoLab_init (T : TX w K mg) : ErrE P w K mg base 2 "NoLab" (.int (-1)) (errFs "nolab") := by
  obtain ⟨fL, FL, kL, bL⟩ := ok_leak (P := P) (base := base) T
  obtain ⟨TF, iC, tI⟩ := errB_ok (T.errB (x := "NoLab") (by decide +kernel))
  obtain ⟨fd, F⟩ := T.fd_NoLab_init
  have G : FnOk P w K mg base (L2.CX P w) 2 (He.ma K (He.ga K "NoLab") "__init__") fd ["self", "at"] (spErr K (He.ga K "NoLab") (errFs "nolab")) := by
    refine F.ok sc_NoLab (fun vs H Q E h => ?_) (fun cdv A outer s H vs Q E hr h => ?_)
    · obtain ⟨a, i, rfl, _⟩ := h
      rfl
    obtain ⟨a, i, rfl, ha, k⟩ := h
    refine ⟨_, pss_one (ps_expr (pe_clsfn FL kL bL T.clsFn.rd T.clsFn.ga T.clsFn.fi hr rfl T.g_LeakError passL (pa_cons (pv 0) (pa_cons pe_str (pa_cons (pv 1) pa_nil))))), ?_⟩
    exact ⟨_, rfl, _, rfl, a, _, _, i, rfl, TF.oex, T.n_NoLab_word, T.n_NoLab_at, ha, k⟩
  obtain ⟨ds, vd, b⟩ := F.binds1 (ps := ["self", "at"]) 1 0 (List.cons_ne_nil _ _) rfl (fun _ _ _ _ _ _ _ us its h1 h2 => match us, its, h1, h2 with | [_], [_], _, _ => ⟨_, rfl, rfl⟩)
  exact ⟨_, fd, _, ds, TF, iC, tI, G, b, vd, T.g_NoLab⟩
theorem sc_NoWish : FnScope ["self", "at"] ["self", "at"] (defScope s_NoWish_init) := ⟨rfl, rfl, rfl, by decide +kernel, rfl, by decide +kernel, by decide +kernel⟩
theorem ok_NoWish_init (T : TX w K mg) : ErrE P w K mg base 2 "NoWish" (.int (-1)) (errFs "nowish") := by
  obtain ⟨fL, FL, kL, bL⟩ := ok_leak (P := P) (base := base) T
  obtain ⟨TF, iC, tI⟩ := errB_ok (T.errB (x := "NoWish") (by decide +kernel))
  obtain ⟨fd, F⟩ := T.fd_NoWish_init
  have G : FnOk P w K mg base (L2.CX P w) 2 (He.ma K (He.ga K "NoWish") "__init__") fd ["self", "at"] (spErr K (He.ga K "NoWish") (errFs "nowish")) := by
    refine F.ok sc_NoWish (fun vs H Q E h => ?_) (fun cdv A outer s H vs Q E hr h => ?_)
    · obtain ⟨a, i, rfl, _⟩ := h
      rfl
    obtain ⟨a, i, rfl, ha, k⟩ := h
    refine ⟨_, pss_one (ps_expr (pe_clsfn FL kL bL T.clsFn.rd T.clsFn.ga T.clsFn.fi hr rfl T.g_LeakError passL (pa_cons (pv 0) (pa_cons pe_str (pa_cons (pv 1) pa_nil))))), ?_⟩
    exact ⟨_, rfl, _, rfl, a, _, _, i, rfl, TF.oex, T.n_NoWish_word, T.n_NoWish_at, ha, k⟩
  obtain ⟨ds, vd, b⟩ := F.binds1 (ps := ["self", "at"]) 1 0 (List.cons_ne_nil _ _) rfl (fun _ _ _ _ _ _ _ us its h1 h2 => match us, its, h1, h2 with | [_], [_], _, _ => ⟨_, rfl, rfl⟩)
  exact ⟨_, fd, _, ds, TF, iC, tI, G, b, vd, T.g_NoWish⟩
/-- a refusal's class -/
structure IsErr (K : PySem.W.Frag) (C : Addr) : Prop where
  f : ErrF K C
  nw : PySem.W.findIn K (.ref C) "word" = some none
  na : PySem.W.findIn K (.ref C) "at" = some none
  ex : PySem.W.exmOne K (.ref C) (.ref (He.ga K "LeakError")) = some true
/-- the refusal of the word wd, the heap as it was -/
def Refuse (K : PySem.W.Frag) (wd : Str) (H : Hp) (E : XK) : Prop := ∀ (C d : Addr) (H' : Hp), IsErr K C → H' d = some (.xd (errFs wd (.int (-1)))) → Same H H' → E (.ref C) (some d) H'
theorem Refuse.go {K : PySem.W.Frag} {wd : Str} {H : Hp} {E : XK} {C : Addr} (k : Refuse K wd H E) (ie : IsErr K C) : ∀ d H', H d = none → H' d = some (.xd (errFs wd (.int (-1)))) → Same H H' → E (.ref C) (some d) H' := fun d H' _ h s => k C d H' ie h s
theorem Refuse.mono {K : PySem.W.Frag} {wd : Str} {H H1 : Hp} {E : XK} (k : Refuse K wd H E) (s : Same H H1) : Refuse K wd H1 E := fun C d H' ie h s' => k C d H' ie h (s.trans s')
/-- none: it is let; some wd: it is refused so -/
def Res (K : PySem.W.Frag) (r : Option Str) (ok : Prop) (H : Hp) (E : XK) : Prop := match r with
  | none => ok
  | some wd => Refuse K wd H E
theorem TX.ie_BadName (T : TX w K mg) : IsErr K (He.ga K "BadName") := ⟨(errB_ok (T.errB (x := "BadName") (by decide +kernel))).1, T.n_BadName_word, T.n_BadName_at, T.x_BadName⟩
theorem TX.ie_BadWord (T : TX w K mg) : IsErr K (He.ga K "BadWord") := ⟨(errB_ok (T.errB (x := "BadWord") (by decide +kernel))).1, T.n_BadWord_word, T.n_BadWord_at, T.x_BadWord⟩
theorem TX.ie_BadAct (T : TX w K mg) : IsErr K (He.ga K "BadAct") := ⟨(errB_ok (T.errB (x := "BadAct") (by decide +kernel))).1, T.n_BadAct_word, T.n_BadAct_at, T.x_BadAct⟩
theorem TX.ie_BadWish (T : TX w K mg) : IsErr K (He.ga K "BadWish") := ⟨(errB_ok (T.errB (x := "BadWish") (by decide +kernel))).1, T.n_BadWish_word, T.n_BadWish_at, T.x_BadWish⟩
theorem TX.ie_BadDeed (T : TX w K mg) : IsErr K (He.ga K "BadDeed") := ⟨(errB_ok (T.errB (x := "BadDeed") (by decide +kernel))).1, T.n_BadDeed_word, T.n_BadDeed_at, T.x_BadDeed⟩
theorem TX.ie_Taken (T : TX w K mg) : IsErr K (He.ga K "Taken") := ⟨(errB_ok (T.errB (x := "Taken") (by decide +kernel))).1, T.n_Taken_word, T.n_Taken_at, T.x_Taken⟩
theorem TX.ie_Full (T : TX w K mg) : IsErr K (He.ga K "Full") := ⟨(errB_ok (T.errB (x := "Full") (by decide +kernel))).1, T.n_Full_word, T.n_Full_at, T.x_Full⟩
theorem TX.ie_NoMachine (T : TX w K mg) : IsErr K (He.ga K "NoMachine") := ⟨(errB_ok (T.errB (x := "NoMachine") (by decide +kernel))).1, T.n_NoMachine_word, T.n_NoMachine_at, T.x_NoMachine⟩
theorem TX.ie_NoRow (T : TX w K mg) : IsErr K (He.ga K "NoRow") := ⟨(errB_ok (T.errB (x := "NoRow") (by decide +kernel))).1, T.n_NoRow_word, T.n_NoRow_at, T.x_NoRow⟩
theorem TX.ie_NoMove (T : TX w K mg) : IsErr K (He.ga K "NoMove") := ⟨(errB_ok (T.errB (x := "NoMove") (by decide +kernel))).1, T.n_NoMove_word, T.n_NoMove_at, T.x_NoMove⟩
theorem TX.ie_NoLab (T : TX w K mg) : IsErr K (He.ga K "NoLab") := ⟨(errB_ok (T.errB (x := "NoLab") (by decide +kernel))).1, T.n_NoLab_word, T.n_NoLab_at, T.x_NoLab⟩
theorem TX.ie_NoWish (T : TX w K mg) : IsErr K (He.ga K "NoWish") := ⟨(errB_ok (T.errB (x := "NoWish") (by decide +kernel))).1, T.n_NoWish_word, T.n_NoWish_at, T.x_NoWish⟩
end
end K51

set_option Elab.async false
set_option linter.all false
set_option maxRecDepth 100000
set_option maxHeartbeats 4000000
namespace K51
open PySem PySem.Spec PyProof.Rows L2
/-! ### the tables of the top -/
section
variable {w : World} {K : PySem.W.Frag} {mg : Str → Option Value}
theorem kdct_of {a : Addr} {kvs : List (Str × He.Dv)} (h : He.valsB K a kvs = true) (k : ∃ es n, KDict K w a es n) {q : Str × He.Dv} (hq : q ∈ kvs) : KDct K w a q.1 (q.2.v K) := by
  obtain ⟨es, n, k⟩ := k
  obtain ⟨u, e, r⟩ := He.valsB_ok h hq
  exact ⟨es, n, u, k.at_, k.lit, e, r⟩
theorem KDct.in_ {a : Addr} {z : Str} {v : V} (k : KDct K w a z v) : ∃ u, PySem.W.nsIn K a z = some (some u) := by
  obtain ⟨es, n, u, _, _, e, _⟩ := k
  exact ⟨u, e⟩
theorem TX.tabs (T : TX w K mg) : (tup0B K (He.dflAt ("Lab", some "__init__") 0 K) = true ∧ tup0B K (He.dflAt ("Lab", some "__init__") 1 K) = true ∧ tup0B K (He.dflAt ("Lab", some "__init__") 2 K) = true) ∧
    He.valsB K (He.ga K "SIZES_lab") [("send", .int 3), ("take", .int 3), ("bare", .int 2), ("idle", .int 1)] = true ∧
    He.valsB K (He.ga K "SIZES_bench") [("lab", .int 1), ("drop", .int 1), ("machine", .int 3), ("row", .int 3), ("move", .int 5), ("strike", .int 2), ("load", .int 3), ("wish", .int 4), ("unwish", .int 1)] = true ∧
    He.valsB K (He.ga K "ONES") [("lab", .glo "do_lab"), ("drop", .glo "do_drop"), ("unwish", .glo "do_unwish")] = true ∧
    He.valsB K (He.ga K "THREES") [("machine", .glo "do_machine"), ("row", .glo "do_row"), ("load", .glo "do_load")] = true := by
  obtain ⟨_, h⟩ := Bool.and_eq_true_iff.mp T.ext
  obtain ⟨_, h⟩ := Bool.and_eq_true_iff.mp h
  obtain ⟨h1, h⟩ := Bool.and_eq_true_iff.mp h
  obtain ⟨h2, h⟩ := Bool.and_eq_true_iff.mp h
  obtain ⟨h3, h⟩ := Bool.and_eq_true_iff.mp h
  obtain ⟨h4, h5⟩ := Bool.and_eq_true_iff.mp h
  obtain ⟨a1, h1⟩ := Bool.and_eq_true_iff.mp h1
  obtain ⟨a2, a3⟩ := Bool.and_eq_true_iff.mp h1
  exact ⟨⟨a1, a2, a3⟩, h2, h3, h4, h5⟩
theorem tup0B_ok {a : Addr} (h : tup0B K a = true) (H : Hp) : SqT K H a [] := by
  unfold tup0B at h
  split at h
  · rename_i c dd its n sl e
    obtain ⟨h1, h2⟩ := Bool.and_eq_true_iff.mp h
    have e1 : its = #[] := Array.isEmpty_iff.mp h2
    subst e1
    exact .inr ⟨_, _, _, e, congrArg Value.type (of_decide_eq_true h1), rfl, Nat.zero_le _, .nil⟩
  · cases h
theorem TX.tup0 (T : TX w K mg) (H : Hp) : SqT K H (He.dflAt ("Lab", some "__init__") 0 K) [] ∧ SqT K H (He.dflAt ("Lab", some "__init__") 1 K) [] ∧ SqT K H (He.dflAt ("Lab", some "__init__") 2 K) [] := by
  obtain ⟨⟨h1, h2, h3⟩, _⟩ := T.tabs
  exact ⟨tup0B_ok h1 H, tup0B_ok h2 H, tup0B_ok h3 H⟩
end
/-! ### letters, words, names -/
abbrev low26 : Str := "abcdefghijklmnopqrstuvwxyz"
def lowB (c : Nat) : Bool := decide (c ∈ low26.cps.toList)
def isWord (z : Str) : Bool := z.cps.toList.all lowB
def isLetter (z : Str) : Bool := decide (z.length = 1) && isWord z
/-- a word of so many letters -/
def wordOf (z : Str) (lo hi : Int) : Bool := decide (lo ≤ (z.length : Int)) && (decide ((z.length : Int) ≤ hi) && isWord z)
def isName (z : Str) : Bool := wordOf z 1 8
def okIf (b : Bool) (wd : Str) : Option Str := if b then none else some wd
def spIsWord : Sp := fun vs H Q _ => ∃ z : Str, vs = [.str z] ∧ z.length ≤ 1000 ∧ ∀ H', Same H H' → Q (.bl (isWord z)) H'
def spIsLetter : Sp := fun vs H Q _ => ∃ z : Str, vs = [.str z] ∧ z.length ≤ 1000 ∧ ∀ H', Same H H' → Q (.bl (isLetter z)) H'
def spIsName : Sp := fun vs H Q _ => ∃ z : Str, vs = [.str z] ∧ z.length ≤ 1000 ∧ ∀ H', Same H H' → Q (.bl (isName z)) H'
def spWordOf : Sp := fun vs H Q _ => ∃ (z : Str) (lo hi : Int), vs = [.str z, .int lo, .int hi] ∧ z.length ≤ 1000 ∧ ∀ H', Same H H' → Q (.bl (wordOf z lo hi)) H'
def spNeedName (K : PySem.W.Frag) : Sp := fun vs H Q E => ∃ z : Str, vs = [.str z] ∧ z.length ≤ 1000 ∧ Res K (okIf (isName z) "badname") (∀ H', Same H H' → Q .non H') H E
/-- the dict's keys are texts -/
def keyIn (z : Str) (kvs : List (Key × V)) : Bool := (valV kvs (Sum.inr z)).isSome
def spNeedFresh (K : PySem.W.Frag) : Sp := fun vs H Q E => ∃ (z : Str) (d : Addr) (kvs : List (Key × V)), vs = [.str z, .ref d] ∧ H d = some (.dK kvs) ∧ Res K (okIf (!keyIn z kvs) "taken") (Q .non H) H E
def spNeedShort (K : PySem.W.Frag) : Sp := fun vs H Q E => ∃ z : Str, vs = [.str z] ∧ z.length ≤ 1000 ∧ Res K (okIf (wordOf z 0 8) "badword") (∀ H', Same H H' → Q .non H') H E
/-! ### acts -/
inductive Act where
  | idle | bare (r : Str) | send (r l : Str) | take (r l : Str)
def Act.ss : Act → List Str
  | .idle => ["idle"]
  | .bare r => ["bare", r]
  | .send r l => ["send", r, l]
  | .take r l => ["take", r, l]
def Act.d (a : Act) : D := .tup (a.ss.map D.str)
def spNeedAct : Sp := fun vs H Q _ => ∃ (M : List Addr) (v : V) (a : Act), vs = [v] ∧ DA M H v a.d ∧ ∀ H', Same H H' → Q .non H'
theorem str_one {z : Str} (h : z.length = 1) : ∃ c, z = ⟨#[c]⟩ := by
  obtain ⟨a⟩ := z
  have h1 : a.size = 1 := h
  obtain ⟨l⟩ := a
  match l, h1 with
  | [c], _ => exact ⟨c, rfl⟩
section
variable {P : Program} {w : World} {K : PySem.W.Frag} {mg : Str → Option Value} {base : Heap}
/-- all(c in letters for c in z) as a comprehension's reading -/
theorem all_low {H : Hp} {z : Str} {L : Addr} {vs : List Nat} {i : Nat} {σ : L2.St} {te : TE} {Q : Hp → List V → Prop} (hz : z.length ≤ 1000) (hL : H L = none)
    (hw : ∀ x, wipe ((wipe σ vs).set i (some x)) vs = wipe σ vs) (he : ∀ (c : Nat) (H1 : Hp) (R : VK), R (.bl (lowB c)) H1 → te ((wipe σ vs).set i (some (.str ⟨#[c]⟩))) H1 R)
    (k : ∀ H', Same H H' → H' L = some (.lst ((z.cps.toList.map lowB).map V.bl)) → Q H' []) :
    ∃ W : Nat → Nat → Hp → Prop, (∃ m, W 0 m (upd H L (.lst []))) ∧ ∀ j m H, W j m H →
      ((Its z).stop j H ∧ Q H []) ∨ ((Its z).go j H ∧ ∃ Nx : Hp → Prop, (∀ H', Nx H' → ∃ m', m' < m ∧ W (j + 1) m' H') ∧ ∀ x H', (Its z).yld j H x H' → gName i x (wipe σ vs) H' fun σ2 H2 => wipe σ2 vs = wipe σ vs ∧ tYes σ2 H2 fun b H3 =>
        if b = true then te σ2 H3 fun y H4 => ∃ acc, H4 L = some (.lst acc) ∧ acc.length < sizeLine ∧ Nx (upd H4 L (.lst (acc ++ [y]))) else Nx H3) := by
  refine lc_acc0 (Qd := fun H => Q H []) walk_str (fun i acc H' => Same H H' ∧ acc = (z.cps.toList.take i).map fun c => V.bl (lowB c)) (by show z.length < 100000; omega) hL ⟨Same.up hL, rfl⟩ (fun _ _ _ _ _ => trivial)
    (fun i acc H' a => by rw [a.2, List.length_map, List.length_take]; exact Nat.min_le_left _ _) (fun i acc H' H'' a k => ⟨Same.keepL hL a.1 k, a.2⟩) gName_mono (fun i x acc H1 H2 K hi a _ y k1 => ?_) (fun acc H1 a hl => ?_)
  · obtain ⟨rfl, c, hc, rfl⟩ := y
    refine ⟨hw _, he c _ _ (k1 _ _ (Keep.refl _) ⟨a.1, ?_⟩)⟩
    rw [take_succ_get (by rw [Array.getElem?_toList]; exact hc), List.map_append, a.2]
    rfl
  · have e : z.cps.toList.take z.cps.size = z.cps.toList := List.take_of_length_le (by rw [Array.length_toList]; exact Nat.le_refl _)
    exact k _ a.1 (by rw [hl, a.2, e, List.map_map]; rfl)
theorem all_low_id (z : Str) : (z.cps.toList.map lowB).all id = isWord z := by rw [List.all_map]; rfl
abbrev N_is_word : List Str := ["text", "sign"]
theorem sc_is_word : FnScope N_is_word ["text"] (defScope s_is_word) := ⟨rfl, rfl, rfl, by decide +kernel, rfl, by decide +kernel, by decide +kernel⟩
theorem b_is_word : Bnd0 d_is_word.name d_is_word.qual d_is_word.params d_is_word.body d_is_word.scope ["text"] := fun _ _ _ _ _ _ us hl => match us, hl with | [_], _ => rfl
theorem ok_is_word (T : TX w K mg) : CalE P w K mg base 1 "is_word" [] spIsWord := by
  refine cal_of T.fd_is_word T.g_is_word sc_is_word b_is_word (fun vs H Q E h => ?_) (fun cdv A outer s H vs Q E hr h => ?_)
  · obtain ⟨z, rfl, _⟩ := h
    rfl
  obtain ⟨z, rfl, hz, k⟩ := h
  have nd := sc_is_word.nd
  refine ⟨_, (pss_one (ps_ret (pe_callB (cr_all rfl) (by rfl) T.f_all (by decide +kernel) (pa_cons (pe_lc (own := [("sign", 1)]) (by rfl) nd (pi_str (pv 0)) (blkOk_by (N := N_is_word) (sc := defScope s_is_word) (by decide +kernel)) (fun _ _ _ _ _ => (pg_name (i := 1) nd rfl (Or.inl rfl))) (fun _ _ _ _ _ => pts_nil) (fun _ _ _ _ _ => (pe_cmpR op_in_sign (pv 1) (pe_kstr rfl T.t_LETTERS) (by rfl)))) pa_nil)))), ?_⟩
  refine ⟨_, rfl, _, rfl, fun L hL => ?_⟩
  refine all_low (Q := fun H' _ => _) hz hL (fun _ => rfl) (fun c H1 R r => ⟨_, rfl, _, _, rfl, rfl, r⟩) fun H1 s1 hl => ?_
  refine ⟨L, _, rfl, SqL.of hl, ?_⟩
  rw [all_low_id]
  exact k _ s1
abbrev N_is_letter : List Str := ["text"]
theorem sc_is_letter : FnScope N_is_letter ["text"] (defScope s_is_letter) := ⟨rfl, rfl, rfl, by decide +kernel, rfl, by decide +kernel, by decide +kernel⟩
theorem b_is_letter : Bnd0 d_is_letter.name d_is_letter.qual d_is_letter.params d_is_letter.body d_is_letter.scope ["text"] := fun _ _ _ _ _ _ us hl => match us, hl with | [_], _ => rfl
theorem ok_is_letter (T : TX w K mg) : CalE P w K mg base 1 "is_letter" [] spIsLetter := by
  refine cal_of T.fd_is_letter T.g_is_letter sc_is_letter b_is_letter (fun vs H Q E h => ?_) (fun cdv A outer s H vs Q E hr h => ?_)
  · obtain ⟨z, rfl, _⟩ := h
    rfl
  obtain ⟨z, rfl, hz, k⟩ := h
  have nd := sc_is_letter.nd
  refine ⟨_, (pss_one (ps_ret (pe_and (pe_cmpR op_eq (pe_callB call_len_str (by rfl) T.f_len PySem.boot_len (pa_cons (pv 0) pa_nil)) pe_int (nomark _)) (pe_one (pe_cmpR op_in_sign (pv 0) (pe_kstr rfl T.t_LETTERS) (by rfl)))))), ?_⟩
  refine ⟨_, rfl, _, rfl, by rw [sizeLine_eq]; omega, rfl, _, rfl, ?_⟩
  refine ite2 (fun hc => ?_) (fun hc => ?_)
  · have h1 : z.length = 1 := by
      have z1 : (z.length : Int) = 1 := by simpa using hc
      omega
    obtain ⟨c, rfl⟩ := str_one h1
    refine ⟨_, rfl, _, _, rfl, rfl, ?_⟩
    have e : isLetter ⟨#[c]⟩ = decide (c ∈ low26.cps.toList) := by
      show (decide ((1 : Nat) = 1) && ([c].all lowB)) = _
      simp [lowB]
    have k1 := k H (Same.refl H)
    rw [e] at k1
    exact k1
  · have h1 : ¬ z.length = 1 := fun z0 => by
      have z1 : ¬ (z.length : Int) = 1 := by simpa using hc
      omega
    have k1 := k H (Same.refl H)
    have e : isLetter z = false := by
      unfold isLetter
      rw [decide_eq_false h1]
      rfl
    rw [e] at k1
    exact k1
abbrev N_is_name : List Str := ["text"]
theorem sc_is_name : FnScope N_is_name ["text"] (defScope s_is_name) := ⟨rfl, rfl, rfl, by decide +kernel, rfl, by decide +kernel, by decide +kernel⟩
theorem b_is_name : Bnd0 d_is_name.name d_is_name.qual d_is_name.params d_is_name.body d_is_name.scope ["text"] := fun _ _ _ _ _ _ us hl => match us, hl with | [_], _ => rfl
theorem ok_is_name (T : TX w K mg) : CalE P w K mg base 2 "is_name" [] spIsName := by
  refine cal_of T.fd_is_name T.g_is_name sc_is_name b_is_name (fun vs H Q E h => ?_) (fun cdv A outer s H vs Q E hr h => ?_)
  · obtain ⟨z, rfl, _⟩ := h
    rfl
  obtain ⟨z, rfl, hz, k⟩ := h
  have nd := sc_is_name.nd
  refine ⟨_, (pss_one (ps_ret (pe_and (pe_chain op_le op_le pe_int (pe_callB call_len_str (by rfl) T.f_len PySem.boot_len (pa_cons (pv 0) pa_nil)) (pe_kint rfl T.i_LONGEST_NAME)) (pe_one (pe_cal (ok_is_word T) (hr.mono (by decide)) rfl passL (pa_cons (pv 0) pa_nil)))))), ?_⟩
  refine ⟨_, rfl, _, rfl, by rw [sizeLine_eq]; omega, _, _, rfl, rfl, _, rfl, ?_⟩
  unfold isName wordOf at k
  by_cases h1 : (1 : Int) ≤ (z.length : Int)
  · rw [if_pos (by simpa using h1)]
    refine ⟨_, _, rfl, rfl, _, rfl, ?_⟩
    by_cases h2 : (z.length : Int) ≤ 8
    · rw [if_pos (by simpa using h2)]
      refine ⟨_, rfl, _, rfl, hz, fun H' s' => ?_⟩
      have k1 := k H' s'
      rw [decide_eq_true h1, decide_eq_true h2] at k1
      exact k1
    · rw [if_neg (by simpa using h2)]
      have k1 := k H (Same.refl H)
      rw [decide_eq_true h1, decide_eq_false h2] at k1
      exact k1
  · rw [if_neg (by simpa using h1)]
    have k1 := k H (Same.refl H)
    rw [decide_eq_false h1] at k1
    exact ⟨_, rfl, k1⟩
abbrev N_L_word_of : List Str := ["_law_text", "_law_least_many", "_law_top", "_law_alphabet", "_law_sign"]
theorem sc_L_word_of : FnScope N_L_word_of ["_law_text", "_law_least_many", "_law_top"] (defScope s_L_word_of) := ⟨rfl, rfl, rfl, by decide +kernel, rfl, by decide +kernel, by decide +kernel⟩
theorem b_L_word_of : Bnd0 d_L_word_of.name d_L_word_of.qual d_L_word_of.params d_L_word_of.body d_L_word_of.scope ["_law_text", "_law_least_many", "_law_top"] := fun _ _ _ _ _ _ us hl => match us, hl with | [_, _, _], _ => rfl
theorem ok_L_word_of (T : TX w K mg) : CalE P w K mg base 1 "_law_word_of" [] spWordOf := by
  refine cal_of T.fd_L_word_of T.g_L_word_of sc_L_word_of b_L_word_of (fun vs H Q E h => ?_) (fun cdv A outer s H vs Q E hr h => ?_)
  · obtain ⟨z, lo, hi, rfl, _⟩ := h
    rfl
  obtain ⟨z, lo, hi, rfl, hz, k⟩ := h
  have nd := sc_L_word_of.nd
  refine ⟨_, (pss_cons (ps_set (i := 3) nd rfl (Or.inr rfl) pe_str)
      (pss_one (ps_ret (pe_and (pe_chain op_le op_le (pv 1) (pe_callB call_len_str (by rfl) T.f_len PySem.boot_len (pa_cons (pv 0) pa_nil)) (pv 2)) (pe_one (pe_callB (cr_all rfl) (by rfl) T.f_all (by decide +kernel) (pa_cons (pe_lc (own := [("_law_sign", 4)]) (by rfl) nd (pi_str (pv 0)) (blkOk_by (N := N_L_word_of) (sc := defScope s_L_word_of) (by decide +kernel)) (fun _ _ _ _ _ => (pg_name (i := 4) nd rfl (Or.inl rfl))) (fun _ _ _ _ _ => pts_nil) (fun _ _ _ _ _ => (pe_cmpR op_in_sign (pv 4) (pv 3) (by rfl)))) pa_nil))))))), ?_⟩
  refine ⟨_, rfl, _, rfl, _, rfl, by rw [sizeLine_eq]; omega, _, _, rfl, rfl, _, rfl, ?_⟩
  unfold wordOf at k
  by_cases h1 : lo ≤ (z.length : Int)
  · rw [if_pos (by simpa using h1)]
    refine ⟨_, rfl, _, _, rfl, rfl, _, rfl, ?_⟩
    by_cases h2 : (z.length : Int) ≤ hi
    · rw [if_pos (by simpa using h2)]
      refine ⟨_, rfl, _, rfl, fun L hL => ?_⟩
      refine all_low (Q := fun H' _ => _) hz hL (fun _ => rfl) (fun c H1 R r => ⟨_, rfl, _, rfl, _, _, rfl, rfl, r⟩) fun H1 s1 hl => ?_
      refine ⟨L, _, rfl, SqL.of hl, ?_⟩
      rw [all_low_id]
      have k1 := k _ s1
      rw [decide_eq_true h1, decide_eq_true h2] at k1
      exact k1
    · rw [if_neg (by simpa using h2)]
      have k1 := k H (Same.refl H)
      rw [decide_eq_true h1, decide_eq_false h2] at k1
      exact k1
  · rw [if_neg (by simpa using h1)]
    have k1 := k H (Same.refl H)
    rw [decide_eq_false h1] at k1
    exact ⟨_, rfl, k1⟩
abbrev N_need_name : List Str := ["text"]
theorem sc_need_name : FnScope N_need_name ["text"] (defScope s_need_name) := ⟨rfl, rfl, rfl, by decide +kernel, rfl, by decide +kernel, by decide +kernel⟩
theorem b_need_name : Bnd0 d_need_name.name d_need_name.qual d_need_name.params d_need_name.body d_need_name.scope ["text"] := fun _ _ _ _ _ _ us hl => match us, hl with | [_], _ => rfl
theorem ok_need_name (T : TX w K mg) : CalE P w K mg base 4 "need_name" [] (spNeedName K) := by
  refine cal_of T.fd_need_name T.g_need_name sc_need_name b_need_name (fun vs H Q E h => ?_) (fun cdv A outer s H vs Q E hr h => ?_)
  · obtain ⟨z, rfl, _⟩ := h
    rfl
  obtain ⟨z, rfl, hz, k⟩ := h
  have nd := sc_need_name.nd
  refine ⟨_, (pss_one (ps_if (pt_not (pt_val (pe_cal (ok_is_name T) (hr.mono (by decide)) rfl passL (pa_cons (pv 0) pa_nil))))
      (pss_one (ps_raise rfl (takes_of rfl rfl rfl rfl) (pmk_err (ok_BadName_init T) (hr.mono (by decide)) rfl)))
      pss_nil)), ?_⟩
  refine ⟨_, rfl, z, rfl, hz, fun H1 s1 => ⟨_, rfl, ?_⟩⟩
  unfold okIf at k
  cases hb : isName z with
  | true =>
    rw [hb] at k
    exact iteF (k H1 s1)
  | false =>
    rw [hb] at k
    exact iteT ((Refuse.mono k s1).go T.ie_BadName)
abbrev N_need_fresh : List Str := ["text", "names"]
theorem sc_need_fresh : FnScope N_need_fresh ["text", "names"] (defScope s_need_fresh) := ⟨rfl, rfl, rfl, by decide +kernel, rfl, by decide +kernel, by decide +kernel⟩
theorem b_need_fresh : Bnd0 d_need_fresh.name d_need_fresh.qual d_need_fresh.params d_need_fresh.body d_need_fresh.scope ["text", "names"] := fun _ _ _ _ _ _ us hl => match us, hl with | [_, _], _ => rfl
theorem ok_need_fresh (T : TX w K mg) : CalE P w K mg base 4 "need_fresh" [] (spNeedFresh K) := by
  refine cal_of T.fd_need_fresh T.g_need_fresh sc_need_fresh b_need_fresh (fun vs H Q E h => ?_) (fun cdv A outer s H vs Q E hr h => ?_)
  · obtain ⟨z, d, kvs, rfl, _⟩ := h
    rfl
  obtain ⟨z, d, kvs, rfl, hd, k⟩ := h
  have nd := sc_need_fresh.nd
  have hu := hu_of hr
  refine ⟨_, (pss_one (ps_if (pt_cmp (pc_din hu (pv 0) (pv 1)))
      (pss_one (ps_raise rfl (takes_of rfl rfl rfl rfl) (pmk_err (ok_Taken_init T) (hr.mono (by decide)) rfl)))
      pss_nil)), ?_⟩
  refine ⟨_, rfl, _, rfl, d, _, rfl, DGet.k (k := Sum.inr z) hd, _, rfl, ?_⟩
  unfold okIf keyIn at k
  cases hb : (valV kvs (Sum.inr z)).isSome with
  | true =>
    rw [hb] at k
    exact iteT (Refuse.go k T.ie_Taken)
  | false =>
    rw [hb] at k
    exact iteF k
abbrev N_need_short : List Str := ["word"]
theorem sc_need_short : FnScope N_need_short ["word"] (defScope s_need_short) := ⟨rfl, rfl, rfl, by decide +kernel, rfl, by decide +kernel, by decide +kernel⟩
theorem b_need_short : Bnd0 d_need_short.name d_need_short.qual d_need_short.params d_need_short.body d_need_short.scope ["word"] := fun _ _ _ _ _ _ us hl => match us, hl with | [_], _ => rfl
theorem ok_need_short (T : TX w K mg) : CalE P w K mg base 4 "need_short" [] (spNeedShort K) := by
  refine cal_of T.fd_need_short T.g_need_short sc_need_short b_need_short (fun vs H Q E h => ?_) (fun cdv A outer s H vs Q E hr h => ?_)
  · obtain ⟨z, rfl, _⟩ := h
    rfl
  obtain ⟨z, rfl, hz, k⟩ := h
  have nd := sc_need_short.nd
  refine ⟨_, (pss_one (ps_if (PW.pt (pw_or (pt_not (pt_val (pe_cal (ok_is_word T) (hr.mono (by decide)) rfl passL (pa_cons (pv 0) pa_nil)))) (pw_or1 (pt_cmpR op_gt (pe_callB call_len_str (by rfl) T.f_len PySem.boot_len (pa_cons (pv 0) pa_nil)) (pe_kint rfl T.i_LONGEST_WORD) (nomark _)))))
      (pss_one (ps_raise rfl (takes_of rfl rfl rfl rfl) (pmk_err (ok_BadWord_init T) (hr.mono (by decide)) rfl)))
      pss_nil)), ?_⟩
  refine ⟨_, rfl, z, rfl, hz, fun H1 s1 => ⟨_, rfl, ?_⟩⟩
  have e0 : wordOf z 0 8 = (decide ((z.length : Int) ≤ 8) && isWord z) := by
    unfold wordOf
    rw [decide_eq_true (show (0 : Int) ≤ (z.length : Int) by omega)]
    rfl
  rw [e0] at k
  unfold okIf at k
  cases hb : isWord z with
  | false =>
    rw [hb, Bool.and_false] at k
    exact iteT (iteT ((Refuse.mono k s1).go T.ie_BadWord))
  | true =>
    rw [hb, Bool.and_true] at k
    refine iteF ⟨_, rfl, _, rfl, by rw [sizeLine_eq]; omega, _, _, rfl, rfl, _, rfl, ?_⟩
    by_cases h2 : (z.length : Int) ≤ 8
    · rw [decide_eq_true h2] at k
      rw [if_neg (by simpa using h2)]
      exact k H1 s1
    · rw [decide_eq_false h2] at k
      rw [if_pos (by simpa using h2)]
      exact (Refuse.mono k s1).go T.ie_BadWord
end
end K51


set_option Elab.async false
set_option linter.all false
set_option maxRecDepth 100000
set_option maxHeartbeats 4000000
namespace PySem.W
open PySem PySem.Spec PySem.Calls PyProof.Rows
section
variable {prog : Program} {w : World} {A : Around} {E : Value → Shared → Prop} {s : Shared}
/-- first, *rest out of a tuple: the rest is a new list -/
theorem k51_star {l : Addr} {x : Value} {xs : List Value} {Q : List Value → Shared → Prop} (hl : IsTup s.heap l (x :: xs).toArray) (hh : A.handled = none) (hz : xs.length ≤ 1000)
    (h : ∀ (h' : Heap) (tk : Nat), (∀ b o, s.heap.get? b = some o → h'.get? b = some o) → Q [x, .ref h'.objs.size] { s with heap := h'.push { cls := .type "list", data := .seq xs.toArray }, toks := tk }) :
    wpAny (model prog w) A (unpackItems (.ref l) 2 (some 1)) Q E s := by
  have hsz : (x :: xs).toArray.size = xs.length + 1 := by simp
  have hlt : l ≠ s.heap.objs.size := by obtain ⟨o, ho, _⟩ := hl; exact Nat.ne_of_lt (Heap.lt_size ho)
  unfold unpackItems notIterableAtAll
  refine wpAny_bind ?_
  refine wpAny_bind (wpAny_specialOf hl.typeIs slot_tuple_iter.lookup ?_)
  refine wpAny_pure ?_
  simp only [Bool.false_eq_true, if_false]
  refine wpAny_bind (wpAny_holding (iter_tuple hl ?_))
  refine wpAny_bind (wpAny_holding (draw_tuple hlt 1 0 _ _ ⟨_, Heap.get?_push_size _ rfl, rfl, rfl⟩ (hl.push _) (by omega) fun h₁ hit hs₁ => ?_))
  have hl₁ : IsTup h₁ l (x :: xs).toArray := (hl.push _).extBut hs₁.extBut hlt
  obtain ⟨oi, hoi, _⟩ := id hit
  obtain ⟨ol, hol, _⟩ := id hl₁
  show wpAny _ _ (if [x].length < 1 then _ else _) _ _ _
  rw [if_neg (by simp)]
  refine wpAny_bind (wpAny_holding (kun_collect (s := { s with heap := h₁ }) (T := "tuple_iterator") (.inr (.inr (.inr rfl))) (Walks.tuple (A := A.in1) hh s.heap.objs.size l hlt (x :: xs).toArray) (fun j u st => st.1.typeIs) (k := 1) (by omega) ⟨hit, hl₁⟩ (Heap.lt_size hoi) (Heap.lt_size hol) (fun h₂ tk hk => ?_) (by rw [sizeLine_eq]; omega)))
  show wpAny _ _ (if xs.length < 2 - 1 - 1 then _ else _) _ _ _
  rw [if_neg (by omega)]
  have e1 : xs.take (xs.length - 0) = xs := by simp
  have e2 : xs.drop (xs.length - 0) = [] := by simp
  show wpAny _ _ (newList (xs.take (xs.length - 0)) >>= fun d => pure ([x] ++ [d] ++ xs.drop (xs.length - 0))) _ _ _
  rw [e1, e2]
  have old : ∀ b o, s.heap.get? b = some o → h₂.get? b = some o := fun b o e => by
    have nb : b ≠ s.heap.objs.size := Nat.ne_of_lt (Heap.lt_size e)
    exact hk b o nb (hs₁.extBut b o nb (Heap.get?_push_of_some _ e))
  exact wpAny_bind (wpAny_newObj_type (wpAny_pure (h h₂ tk old)) (by show xs.toArray.size ≤ sizeLine; rw [List.size_toArray, sizeLine_eq]; omega))
end
end PySem.W

namespace K51
open PySem PySem.Spec PyProof.Rows L2
section
variable {X : Cx} {pos : Pos}
/-- first, *rest = a tuple: two names -/
def gStar (K : PySem.W.Frag) (i j : Nat) : TG := fun v σ H Q => ∃ a x xs, v = .ref a ∧ SqT K H a (x :: xs) ∧ xs.length ≤ 1000 ∧ ∀ p, H p = none → Q ((σ.set i (some x)).set j (some (.ref p))) (upd H p (.lst xs))
theorem pg_star {i j : Nat} {x y : Str} {px py ps : Pos} {k : Nat} (hN : X.N.Nodup) (hi : X.N[i]? = some x) (hj : X.N[j]? = some y) (hc : X.calm = true := by rfl)
    (hx : Loc X.env.scope x := by exact Or.inl rfl) (hy : Loc X.env.scope y := by exact Or.inl rfl) (hfx : X.fn x = true ∨ X.env.scope.names.lookup x = some .local := by first | exact .inl rfl | exact .inr rfl) (hfy : X.fn y = true ∨ X.env.scope.names.lookup y = some .local := by first | exact .inl rfl | exact .inr rfl) :
    PG X (.Tuple [.Name x px, .Starred (.Name y py) ps] k pos) (gStar X.K i j) := by
  refine ⟨fun pins s σ H v u Q I r h => ?_⟩
  obtain ⟨a, z, zs, rfl, hq, hz, h⟩ := h
  cases r
  obtain ⟨its, rv, ht, _⟩ := I.tuple hq
  cases rv with
  | @cons _ u0 _ us r0 rs =>
    rw [assign_Tuple]
    refine wpAny_bind (wpAny_standAt ?_)
    unfold unpack
    refine wpAny_bind (wpAny_holding ?_)
    show wpAny _ _ (unpackItems (.ref a) 2 (some 1)) _ _ s
    refine PySem.W.k51_star ht (I.ok.hd hc) (by have := rs.length; omega) fun h' tk old => ?_
    have I1 : Inv X pins σ H { s with heap := h', toks := tk } := I.kept old
    have I2 : Inv X pins σ (upd H h'.objs.size (.lst zs)) { s with heap := h'.push { cls := .type "list", data := .seq us.toArray }, toks := tk } :=
      I1.laid (t' := tk) (a := h'.objs.size) (o := .lst zs) (fun b o e => Heap.get?_push_of_some _ e) (Nat.le_refl _) ⟨by rw [sizeLine_eq]; omega, us, 0, rs, Heap.get?_push_size _ rfl⟩
    have np : H h'.objs.size = none := I1.hok.fresh (Nat.le_refl _)
    show wpAny _ _ (assignInOrder [assign (.Name x px) X.env, assign (.Name y py) X.env] [u0, .ref h'.objs.size]) _ _ _
    refine assignInOrder_cons (wpAny_assign_Name (store_ok I2 hN hi hx r0 (fun s3 I3 => ?_) hfx))
    refine assignInOrder_cons (wpAny_assign_Name (store_ok (v := .ref h'.objs.size) I3 hN hj hy rfl (fun s4 I4 => ?_) hfy))
    exact assignInOrder_nil ⟨_, _, I4, h _ np⟩
/-- l[i], for l[i] += e -/
def rGetL (K : PySem.W.Frag) : V → V → Hp → VK → Prop := fun o i H Q => ∃ p xs k v, o = .ref p ∧ i = .int k ∧ SqL K H p xs ∧ 0 ≤ k ∧ xs[k.toNat]? = some v ∧ Q v H
theorem get_list : PGet X (rGetL X.K) := by
  intro pins s σ H o i ov iv Q I ro ri h
  obtain ⟨p, xs, k, v, rfl, rfl, hq, h0, hv, q⟩ := h
  cases ro
  obtain ⟨t, rfl⟩ := ri
  obtain ⟨its, r, pl, hz⟩ := I.list hq
  obtain ⟨u, eu, ru⟩ := r.get hv
  have hk : k.toNat < xs.length := (List.getElem?_eq_some_iff.mp hv).1
  have hn := line63
  exact wpAny_getItem_list pl.isList h0 (by omega) (by simpa using eu) ⟨v, H, I, ru, q⟩
/-- d[k] = v as a target -/
def rSetDct : TSet := fun o i v H R => ∃ a H', o = .ref a ∧ DPut H a i v H' ∧ R H'
theorem set_dict (hu : X.A.units + 1 < cLine) : PSet X rSetDct := by
  intro pins s σ H o i v ov iv u Q I ro ri rv h
  obtain ⟨a, H', rfl, g, q⟩ := h
  cases ro
  exact d_setItem hu I g ri rv fun s' I' => ⟨H', I', q⟩
end
end K51

set_option Elab.async false
set_option linter.all false
set_option maxRecDepth 100000
set_option maxHeartbeats 4000000
/-! ### len(set(xs)), xs a list of texts (turned from the rule for ints) -/
namespace K51
open PySem PySem.Spec PyProof.Rows L2
/-- the first of each -/
def ins (l : List Str) (x : Str) : List Str := if l.any (· == x) then l else l ++ [x]
def uniq (xs : List Str) : List Str := xs.foldl ins []
def uq (ns : List Str) : Nat → List Str
  | 0 => []
  | i + 1 => ins (uq ns i) (ns.getD i Str.empty)
theorem uq_succ (ns : List Str) (i : Nat) : uq ns (i + 1) = ins (uq ns i) (ns.getD i Str.empty) := rfl
theorem ins_any (l : List Str) (x k : Str) : (ins l x).any (· == k) = (l.any (· == k) || decide (k = x)) := by
  unfold ins
  split
  · rename_i h
    by_cases e : k = x
    · subst e
      simp [h]
    · simp [e]
  · rw [List.any_append]
    simp only [List.any_cons, List.any_nil, Bool.or_false]
    congr 1
    by_cases e : k = x
    · subst e
      simp
    · rw [decide_eq_false e]
      simpa using fun z => e z.symm
theorem ins_len (l : List Str) (x : Str) : (ins l x).length = if l.any (· == x) then l.length else l.length + 1 := by
  unfold ins
  split <;> simp
theorem uq_le (ns : List Str) : ∀ i, (uq ns i).length ≤ i
  | 0 => Nat.le_refl _
  | i + 1 => by
    rw [uq_succ, ins_len]
    have := uq_le ns i
    split <;> omega
theorem uq_take (ns : List Str) : ∀ i, i ≤ ns.length → uq ns i = uniq (ns.take i)
  | 0, _ => rfl
  | i + 1, h => by
    have hi : i < ns.length := by omega
    rw [uq_succ, uq_take ns i (by omega), List.take_succ, List.getElem?_eq_getElem hi, List.getD_eq_getElem?_getD, List.getElem?_eq_getElem hi]
    show _ = List.foldl ins [] (ns.take i ++ [ns[i]])
    rw [List.foldl_append]
    rfl
theorem uq_all (ns : List Str) : uq ns ns.length = uniq ns := by rw [uq_take ns _ (Nat.le_refl _), List.take_length]
section
variable {prog : Program} {w : World} {A : Around} {R : Result → Shared → Prop} {I : Addr} {fp wr : List Addr} {G : Array GenState → Array GenState → Prop} {n : Nat} {P : Nat → Value → Prop} {St : Nat → Shared → Prop}
theorem k51_set_loop (W : WalksS prog w A.in1 I fp wr G n P St) (S : Addr) (hSf : S ∉ fp)
    (ns : List Str) (hval : ∀ i v, P i v → ∃ t, v = .str (ns.getD i Str.empty) t) (hb : n + 1 < scanBound) :
    ∀ (k i : Nat) (s : Shared), n - i = k → i ≤ n → St i s →
      s.heap.SetOf (PySem.strKind prog w) S (fun k' => (uq ns i).any (· == k')) (uq ns i).length →
      (∀ s', Moved (S :: wr) G s s' → s'.heap.SetOf (PySem.strKind prog w) S (fun k' => (uq ns n).any (· == k')) (uq ns n).length → R (.ok (.ret .none)) s') →
      codeAny (model prog w) A (.builtin "set.update.loop" ⟨[.ref S, .ref I], []⟩) R s := by
  have hSw : S ∉ wr := fun h => hSf (W.sub _ h)
  have hsub : ∀ b ∈ wr, b ∈ S :: wr := fun b hb => List.mem_cons_of_mem _ hb
  intro k
  induction k with
  | zero =>
    intro i s hk hi hst hS hR
    have hin : i = n := by omega
    subst hin
    refine codeAny_builtin PyProof.Rows.F.entry_set_update_loop ?_
    rw [Around.under_plainId PyProof.Rows.F.plain_set_update_loop _]
    show wpAny _ A.in1 (pyNext (.ref I) >>= _) _ _ s
    refine wpAny_bind (W.done s _ _ hst fun s' hm => ?_)
    show wpAny _ A.in1 (ret Value.none) _ _ s'
    exact wpAny_pure (hR s' (hm.mono hsub) (by
      obtain ⟨o, es, ep, t, ho, rest⟩ := hS
      exact ⟨o, es, ep, t, hm.heap S _ hSw ho, rest⟩))
  | succ k ih =>
    intro i s hk hi hst hS hR
    have hlt : i < n := by omega
    refine codeAny_builtin PyProof.Rows.F.entry_set_update_loop ?_
    rw [Around.under_plainId PyProof.Rows.F.plain_set_update_loop _]
    show wpAny _ A.in1 (pyNext (.ref I) >>= _) _ _ s
    refine wpAny_bind (W.item i s _ _ hlt hst fun v s' hP hst' hm => ?_)
    obtain ⟨t, rfl⟩ := hval i v hP
    have hS' : s'.heap.SetOf (PySem.strKind prog w) S (fun k' => (uq ns i).any (· == k')) (uq ns i).length := by
      obtain ⟨o, es, ep, tb, ho, rest⟩ := hS
      exact ⟨o, es, ep, tb, hm.heap S _ hSw ho, rest⟩
    show wpAny _ A.in1 (holding [Value.str (ns.getD i Str.empty) t] (setAdd S (.str (ns.getD i Str.empty) t)) >>= _) _ _ s'
    refine wpAny_bind (wpAny_holding ?_)
    unfold setAdd
    refine wpAny_holding ?_
    refine wpAny_bind ((PySem.strKind prog w).pyHash (k := ns.getD i Str.empty) (strKind_is _ _ _ _) ?_)
    have hroom : (uq ns i).length + 1 < scanBound := by have := uq_le ns i; omega
    refine wpAny_setAddHashed_of (knd := PySem.strKind prog w) (s := { s' with toks := s'.toks + 1 }) (strKind_is _ _ _ _) rfl hS' hroom fun h' hsb hS2 => ?_

    have hSi : h'.SetOf (PySem.strKind prog w) S (fun k' => (uq ns (i + 1)).any (· == k')) (uq ns (i + 1)).length :=
      SetOf_congr hS2 (fun k' => by rw [uq_succ, ins_any]) (by rw [uq_succ, ins_len])
    refine wpAny_pure ⟨plainId_quiet PyProof.Rows.F.plain_set_update_loop _, ih (i + 1) _ (by omega) hlt (W.frame _ s' _ _ hst' (Nat.le_succ _) fun b hb o e => ?_) hSi fun s'' hm'' hS'' => ?_⟩
    · rw [hsb.2 b (fun h : b = S => hSf (by rw [← h]; exact hb))]; exact e
    · refine hR s'' (Moved.trans W.gtrans ((hm.mono hsub).then_heap (Nat.le_succ _) fun b o hb e => ?_) hm'') hS''
      rw [hsb.2 b (fun h : b = S => hb (by rw [h]; exact List.mem_cons_self))]; exact e
end
section
variable {prog : Program} {w : World} {A : Around} {E : Value → Shared → Prop} {s : Shared}
theorem k51_set_list {l : Addr} {items : Array Value} {ns : List Str} {Q : Value → Shared → Prop}
    (hh : A.handled = none) (hl : s.heap.IsList l items) (hi : PyProof.Rows.StrsAre items.toList ns) (hb : items.size + 1 < scanBound)
    (h : ∀ (h' : Heap) (tk : Nat), h'.SetOf (PySem.strKind prog w) s.heap.objs.size (fun k' => (uq ns items.size).any (· == k')) (uq ns items.size).length →
      (∀ b o, b < s.heap.objs.size → s.heap.get? b = some o → h'.get? b = some o) → Q (.ref s.heap.objs.size) { s with heap := h', toks := tk }) :
    wpAny (model prog w) A (call (.type "set") [.ref l]) Q E s := by
  obtain ⟨c, tl, hmro⟩ := PySem.F.called_set.mro
  have hmade := PySem.F.called_set.made
  have hsub := PySem.F.called_set.sub
  refine wpAny_call (codeAny_of_tree ?_)
  show wpAny _ _ (callAny (.type "set") _) _ _ _
  refine wpAny_pure ⟨Code.quiet_builtin _ (by decide +kernel), codeAny_builtin PySem.F.entry_type_call ?_⟩
  rw [Around.under_plain (weight_type_call_type "set" [.ref l] []) rfl]
  have h1 := PySem.F.called_set.notType
  have h2 := PySem.F.called_set.canCreate
  have hct := PySem.F.typeCall_set_1 (.ref l)
  repeat (any_goals (first | assumption | wp_step))

  refine codeAny_mono (code_set_new_1 (.ref l) (E := E) (Q₁ := fun obj s₁ => ∃ led : Bool, obj = .ref s.heap.objs.size ∧ s₁ = { s with heap := s.heap.push { cls := .type "set", dict := none, data := .set #[] 0 (.fresh 0 0 led) } }) fun led => ⟨led, rfl, rfl⟩) fun r s₁ hr => ?_
  cases r with
  | error e => exact hr
  | ok fl =>
    cases fl with
    | ret obj =>
      obtain ⟨led, rfl, rfl⟩ := hr
      have hS : (s.heap.push { cls := .type "set", dict := none, data := .set #[] 0 (.fresh 0 0 led) }).get? s.heap.objs.size = some { cls := .type "set", dict := none, data := .set #[] 0 (.fresh 0 0 led) } := Heap.get?_push_size _ rfl
      have hT : Shared.TypeIs { s with heap := s.heap.push { cls := .type "set", dict := none, data := .set #[] 0 (.fresh 0 0 led) } } (.ref s.heap.objs.size) "set" := ⟨_, hS, rfl⟩
      have hli := PySem.F.called_set.init.lookup
      have hbi := PySem.F.called_set.init.bind (.ref s.heap.objs.size)
      repeat (any_goals (first | assumption | wp_step))

      refine codeAny_mono (codeAny_call_builtin (R := wants (fun r s₂ => r = .none ∧ ∃ h' tk, s₂ = { s with heap := h', toks := tk } ∧
          h'.SetOf (PySem.strKind prog w) s.heap.objs.size (fun k' => (uq ns items.size).any (· == k')) (uq ns items.size).length ∧
          (∀ b o, b < s.heap.objs.size → s.heap.get? b = some o → h'.get? b = some o)) E) PySem.F.called_set.init.plain PySem.F.entry_set_init (check_set_init_1 hT ?_)) fun r₂ s₂ hr₂ => ?_
      · obtain ⟨ol, hol, hcl, nl, hdl⟩ := hl
        obtain ⟨ocls, odict, odata, oslots⟩ := ol
        simp only at hcl hdl
        subst hcl; subst hdl
        have hol' : (s.heap.push { cls := .type "set", dict := none, data := .set #[] 0 (.fresh 0 0 led) }).get? l = some { cls := .type "list", dict := odict, data := .seq items nl, slots := oslots } := Heap.get?_push_of_some _ hol
        have hsls := PySem.F.sub_list_set
        have hslf := PySem.F.sub_list_frozenset
        have hne : (Value.type "list" == Value.type "dict") = false := by decide
        have hl1 : (s.heap.push { cls := .type "set", dict := none, data := .set #[] 0 (.fresh 0 0 led) }).IsList l items := ⟨_, hol', rfl, nl, rfl⟩
        unfold Builtin.«set.__init__» noKeywords Builtin.Frozenset.updateFrom
        generalize hPI : pyIter = PI
        wp_walk
        subst hPI

        refine wpAny_pyIter_list hl1 ?_
        refine wpAny_bind (wpAny_runValue ?_)
        have hlS : l < s.heap.objs.size := Heap.lt_size hol
        have hh3 : A.in1.in1.in1.handled = none := by simp [hh]
        have hneI : l ≠ (s.heap.push { cls := .type "set", dict := none, data := .set #[] 0 (.fresh 0 0 led) }).objs.size := by
          rw [Heap.size_push]; exact Nat.ne_of_lt (Nat.lt_succ_of_lt hlS)
        have hSf : s.heap.objs.size ∉ [(s.heap.push { cls := .type "set", dict := none, data := .set #[] 0 (.fresh 0 0 led) }).objs.size, l] := by
          rw [Heap.size_push]; simp only [List.mem_cons, List.mem_singleton, List.not_mem_nil, or_false, not_or]
          exact ⟨Nat.ne_of_lt (Nat.lt_succ_self _), Nat.ne_of_gt hlS⟩
        have hval : ∀ (i : Nat) (v : Value), items[i]? = some v → ∃ t, v = .str (ns.getD i Str.empty) t := fun i v hv =>
          SS.strs_at hi i v (by rw [Array.getElem?_toList]; exact hv)
        refine k51_set_loop ((Walks.list hh3 _ l hneI items).toS) s.heap.objs.size
          hSf ns hval hb (items.size - 0) 0 _ (by omega) (Nat.zero_le _)
          ⟨⟨_, Heap.get?_push_size _ rfl, rfl, rfl⟩, (hl1.push _)⟩ ?hS0 ?hR
        case hS0 =>
          have hget : ((s.heap.push { cls := .type "set", dict := none, data := .set #[] 0 (.fresh 0 0 led) }).push { cls := .type "list_iterator", data := .fields #[.ref l, .int 0 0] }).get? s.heap.objs.size
              = some { cls := .type "set", dict := none, data := .set #[] 0 (.fresh 0 0 led) } := Heap.get?_push_of_some _ hS
          exact PyProof.Rows.SetOf_congr ((PyProof.Rows.setObjOf_fresh (knd := PySem.strKind prog w) led).setOf hget (by unfold scanBound; omega)) (fun _ => rfl) rfl
        case hR =>
          intro s' hm hS'
          obtain ⟨h', g', d', tk', os'⟩ := s'
          have eg : g' = s.gens := hm.gens
          have ed : d' = s.drawn := hm.drawn
          have eo : os' = s.os := hm.os
          subst eg; subst ed; subst eo
          show wpAny _ _ _ _ _ _
          refine wpAny_pure ?_
          show wpAny _ _ (ret Value.none) _ _ _
          refine wpAny_pure ⟨rfl, h', tk', rfl, hS', fun b o hb e => ?_⟩
          have hb1 : b ≠ s.heap.objs.size := Nat.ne_of_lt hb
          have hb2 : b ≠ (s.heap.push { cls := .type "set", dict := none, data := .set #[] 0 (.fresh 0 0 led) }).objs.size := by
            rw [Heap.size_push]; exact Nat.ne_of_lt (Nat.lt_succ_of_lt hb)
          exact hm.heap b o (by simp only [List.mem_cons, List.mem_singleton, List.not_mem_nil, or_false, not_or]; exact ⟨hb1, hb2⟩) (Heap.get?_push_of_some _ (Heap.get?_push_of_some _ e))

      · cases r₂ with
        | error e => exact hr₂
        | ok fl₂ =>
          cases fl₂ with
          | ret r =>
            obtain ⟨rfl, h', tk, rfl, hS', hk'⟩ := hr₂
            repeat (any_goals (first | assumption | wp_step))
            exact h _ _ hS' hk'
          | _ => exact hr₂.elim
    | _ => exact hr.elim
end
section
variable {X : Cx}
def tLenSetS (K : PySem.W.Frag) (ta : TE) : TE := fun σ H Q => ta σ H fun x H1 => ∃ (l : Addr) (xs : List Str), x = V.ref l ∧ SqL K H1 l (xs.map V.str) ∧ xs.length < 4000 ∧ Q (.int (uniq xs).length) H1
theorem pe_lenSetS {a : Expr} {ta : TE} {p p2 q pos : Pos} (hc : X.calm = true) (hg : Gl X "len") (hm : X.mg "len" = none) (hg2 : Gl X "set") (hm2 : X.mg "set" = none) (ha : PE X a ta)
    (na : starEach [a] X.env = (false, eval a X.env) :: starEach [] X.env := by rfl) : PE X (.Call (.Name "len" p) [.Call (.Name "set" p2) [a] [] q] [] pos) (tLenSetS X.K ta) := by
  refine ⟨fun pins s σ H Q I h => ?_⟩
  refine Call_ (ld_blt I hg hm boot_len ?_)
  refine PyProof.Rows.callWith_builtin1 (PyProof.Rows.args_cons ?_ rfl) rfl rfl
  refine Call_ (ld_blt I hg2 hm2 boot_set ?_)
  refine PyProof.Rows.callWith_type1 (PyProof.Rows.args_cons (thn (ha.run pins s σ H _ I h) fun v s1 ⟨x, H1, I1, r1, q1⟩ => PyProof.Rows.args_nil ?_) na) na rfl
  obtain ⟨l, xs, rfl, hq, h1, q1⟩ := q1
  cases r1
  obtain ⟨its, r, pl, hz⟩ := I1.list hq
  have hl : its.toArray.size = xs.length := by rw [List.size_toArray, ← r.length, List.length_map]
  refine k51_set_list (ns := xs) (I1.ok.hd hc) pl.isList (by simpa using strsAre_of r) (by rw [hl]; unfold scanBound; omega) fun h' tk hS hk => ?_
  refine PyProof.Rows.args_nil ?_
  rw [hl, uq_all] at hS
  have hu : (uniq xs).length ≤ xs.length := by rw [← uq_all]; exact uq_le xs _
  obtain ⟨o, es, ep, t, ho, hex, hd, _, _, _, hf, hn⟩ := hS
  have I2 : Inv X pins σ H1 { s1 with heap := h', toks := tk } := I1.kept fun b o e => hk b o (Heap.lt_size e) e
  exact call_len_set ho hex hd hf (by rw [hn]; omega) ⟨.int (uniq xs).length, H1, I2.tok _, ⟨_, by rw [hn]⟩, q1⟩
end
end K51

set_option Elab.async false
set_option linter.all false
set_option maxRecDepth 100000
set_option maxHeartbeats 4000000
namespace K51
open PySem PySem.Spec PyProof.Rows L2
theorem pe_gref {X : Cx} {x : Str} {a : Addr} {pos : Pos} (hg : Gl X x) (hm : X.mg x = some (.ref a)) (hd : (x == ("__debug__" : Str)) = false := by decide) : PE X (.Name x pos) (tC (.ref a)) := pe_glob (v := .ref a) hg hm rfl hd
section
variable {CX : CXT} {P : Program} {w : World} {K : PySem.W.Frag} {mg : Str → Option Value} {base : Heap} {N : List Str} {q : Str} {sc : Scope} {f : Addr} {cd : Value} {A : Around} {outer : List Env} {s : Shared} {H : Hp} {E : XK}
theorem kV_inr {z : Str} : kV (Sum.inr z) = V.str z := rfl
theorem cxK : (cxOf CX P w K mg base N q sc f cd A outer s H E).K = K := rfl
theorem cxW : (cxOf CX P w K mg base N q sc f cd A outer s H E).w = w := rfl
end
/-! ### the same rules, K told from without (within a comprehension) -/
section
variable {X : Cx} {K : PySem.W.Frag}
theorem call_len_seqK (h : X.K = K) : CallR X (.builtin "len") (fun xs H Q => ∃ p ys, xs = [.ref p] ∧ (SqL K H p ys ∨ SqT K H p ys) ∧ Q (.int ys.length) H) := by subst h; exact call_len_seq
theorem op_in_seqK (h : X.K = K) : OpR X (compareOp .In) (rIn K false) := by subst h; exact op_in_seq
theorem op_notIn_seqK (h : X.K = K) : OpR X (compareOp .NotIn) (rIn K true) := by subst h; exact op_notIn_seq
theorem ix_listK (h : X.K = K) : IxR X (rIxL K) := by subst h; exact ix_list
theorem ix_tupK (h : X.K = K) : IxR X (rIxT K) := by subst h; exact ix_tup
theorem pe_fldK (h : X.K = K) {e : Expr} {f : Str} {pos : Pos} {ta : TE} (he : PE X e ta) (hb : attributeBase e f X.env (eval e X.env) = eval e X.env) : PE X (.Attribute e f pos) (tFld K ta f) := by subst h; exact pe_fld he hb
theorem pg_tupK (h : X.K = K) {es : List Expr} {k : Nat} {t : TGs} {n : Nat} {pos : Pos} (hc : X.calm = true) (h1 : PGs X es t)
    (hn : (assignEach es X.env).length = n := by rfl) (hst : (assignEach es X.env).findIdx? (·.1) = none := by rfl) : PG X (.Tuple es k pos) (gTup K n t) := by subst h; exact pg_tup hc h1 hn hst
theorem pi_listK (h : X.K = K) {tg l : Expr} {tl : TE} (hl : PE X l tl) : PI X tg l (iList K tl) := by subst h; exact pi_list hl
theorem pi_tupK (h : X.K = K) {tg l : Expr} {tl : TE} (hl : PE X l tl) : PI X tg l (iTup K tl) := by subst h; exact pi_tup hl
end
/-! ### labs and states, in plain words -/
structure Mv where
  m : Str
  s : Str
  a : Act
  e : Str
structure Lab where
  ms : List (Str × Str)
  rs : List (Str × Str)
  mv : List Mv
structure Wish where
  lab : Str
  st : List (Str × Str)
  wd : List (Str × Str)
structure St where
  labs : List (Str × Lab)
  wishes : List (Str × Wish)
/-- the first refusal -/
def thn1 (a b : Option Str) : Option Str := match a with
  | none => b
  | some w => some w
def hasK {α : Type} (z : Str) (l : List (Str × α)) : Bool := l.any fun p => decide (p.1 = z)
def getK {α : Type} (z : Str) (l : List (Str × α)) : Option α := (l.find? fun p => decide (p.1 = z)).map (·.2)
def setK {α : Type} (z : Str) (v : α) (l : List (Str × α)) : List (Str × α) := if hasK z l then l.map fun p => if p.1 = z then (p.1, v) else p else l ++ [(z, v)]
def delK {α : Type} (z : Str) (l : List (Str × α)) : List (Str × α) := l.filter fun p => decide (p.1 ≠ z)
def chkM (d : List (Str × Str)) (p : Str × Str) : Option Str := thn1 (okIf (isName p.1) "badname") (thn1 (okIf (isName p.2) "badname") (okIf (!hasK p.1 d) "taken"))
def chkR (d : List (Str × Str)) (p : Str × Str) : Option Str := thn1 (okIf (isName p.1) "badname") (thn1 (okIf (!hasK p.1 d) "taken") (okIf (wordOf p.2 0 8) "badword"))
def Act.row? : Act → Option Str
  | .idle => none
  | .bare r => some r
  | .send r _ => some r
  | .take r _ => some r
def Act.let? : Act → Option Str
  | .send _ l => some l
  | .take _ l => some l
  | _ => none
def chkA (rs : List (Str × Str)) (a : Act) : Option Str :=
  thn1 (match a.row? with
    | some r => okIf (hasK r rs) "norow"
    | none => none)
  (match a.let? with
    | some l => okIf (isLetter l) "badword"
    | none => none)
def chkV (ms rs : List (Str × Str)) (v : Mv) : Option Str := thn1 (okIf (hasK v.m ms) "nomachine") (thn1 (okIf (isName v.s) "badname") (thn1 (okIf (isName v.e) "badname") (chkA rs v.a)))
def chkMs (d : List (Str × Str)) : List (Str × Str) → Option Str
  | [] => none
  | p :: r => thn1 (chkM d p) (chkMs (d ++ [p]) r)
def chkRs (d : List (Str × Str)) : List (Str × Str) → Option Str
  | [] => none
  | p :: r => thn1 (chkR d p) (chkRs (d ++ [p]) r)
def chkVs (ms rs : List (Str × Str)) : List Mv → Option Str
  | [] => none
  | v :: r => thn1 (chkV ms rs v) (chkVs ms rs r)
/-- the stands of a machine: its first one, then those of its moves -/
def held (f : Str) (mv : List Mv) (n : Str) : List Str := f :: (mv.filter fun v => decide (v.m = n)).flatMap fun v => [v.s, v.e]
def crowded (ms : List (Str × Str)) (mv : List Mv) : Bool := ms.any fun p => decide (6 < (uniq (held p.2 mv p.1)).length)
def chkFull (l : Lab) : Option Str := thn1 (okIf (!(decide (3 < l.ms.length) || (decide (3 < l.rs.length) || decide (24 < l.mv.length)))) "full") (okIf (!crowded l.ms l.mv) "full")
def chkLab (l : Lab) : Option Str := thn1 (chkMs [] l.ms) (thn1 (chkRs [] l.rs) (thn1 (chkVs l.ms l.rs l.mv) (chkFull l)))
/-! ### the same as data -/
def pairD (p : Str × Str) : D := .tup [.str p.1, .str p.2]
def Mv.d (v : Mv) : D := .tup [.str v.m, .str v.s, v.a.d, .str v.e]
def Lab.d (l : Lab) : D := .tup [.lst (l.ms.map pairD), .lst (l.rs.map pairD), .lst (l.mv.map Mv.d)]
def Wish.d (w : Wish) : D := .tup [.str w.lab, .tup [.tup (w.st.map pairD), .tup (w.wd.map pairD)]]
/-- no text is long, no list -/
def Short (z : Str) : Prop := z.length ≤ 1000
def ShortP (l : List (Str × Str)) : Prop := l.length ≤ 900 ∧ ∀ p ∈ l, Short p.1 ∧ Short p.2
def Act.Short (a : Act) : Prop := ∀ z ∈ a.ss, K51.Short z
def Mv.Short (v : Mv) : Prop := K51.Short v.m ∧ K51.Short v.s ∧ v.a.Short ∧ K51.Short v.e
def ShortV (l : List Mv) : Prop := l.length ≤ 900 ∧ ∀ v ∈ l, v.Short
/-! ### dicts of texts -/
def kvS (l : List (Str × Str)) : List (Key × V) := l.map fun p => (.inr p.1, .str p.2)
theorem kvS_snoc (l : List (Str × Str)) (p : Str × Str) : kvS (l ++ [p]) = kvS l ++ [(.inr p.1, .str p.2)] := by unfold kvS; rw [List.map_append]; rfl
theorem valV_kvS (z : Str) : ∀ l : List (Str × Str), valV (kvS l) (.inr z) = (getK z l).map V.str
  | [] => rfl
  | p :: r => by
    have ih := valV_kvS z r
    by_cases e : p.1 = z
    · subst e
      rw [show kvS (p :: r) = (.inr p.1, .str p.2) :: kvS r from rfl, valV_pos rfl]
      unfold getK
      rw [List.find?_cons_of_pos (by simp)]
      rfl
    · rw [show kvS (p :: r) = (.inr p.1, .str p.2) :: kvS r from rfl, valV_neg (fun h => e (Sum.inr.inj h)), ih]
      unfold getK
      rw [List.find?_cons_of_neg (by simpa using e)]
theorem hasK_get {α : Type} (z : Str) : ∀ l : List (Str × α), hasK z l = (getK z l).isSome
  | [] => rfl
  | p :: r => by
    have ih := hasK_get z r
    unfold hasK getK at *
    by_cases e : p.1 = z
    · rw [List.find?_cons_of_pos (by simpa using e), List.any_cons, decide_eq_true e]
      rfl
    · rw [List.find?_cons_of_neg (by simpa using e), List.any_cons, decide_eq_false e, ← ih]
      rfl
theorem keyIn_kvS (z : Str) (l : List (Str × Str)) : keyIn z (kvS l) = hasK z l := by
  unfold keyIn
  rw [valV_kvS, hasK_get]
  cases getK z l <;> rfl
theorem putK_kvS {z y : Str} {l : List (Str × Str)} (h : hasK z l = false) : putK (kvS l) (.inr z) (.str y) = kvS (l ++ [(z, y)]) := by
  rw [putK_new _ (by
    have e := keyIn_kvS z l
    rw [h] at e
    unfold keyIn at e
    cases e1 : valV (kvS l) (Sum.inr z) with
    | none => rfl
    | some v => rw [e1] at e; cases e), kvS_snoc]
theorem kvS_len (l : List (Str × Str)) : (kvS l).length = l.length := List.length_map _
/-! ### lists and tuples outside M stay -/
def KeepD (M : List Addr) (H H' : Hp) : Prop := (∀ a xs, a ∉ M → H a = some (.lst xs) → H' a = some (.lst xs)) ∧ ∀ a xs, a ∉ M → H a = some (.tup xs) → H' a = some (.tup xs)
theorem Keep.d {M : List Addr} {H H' : Hp} (k : Keep M H H') : KeepD M H H' := ⟨fun a xs n e => k a _ n e, fun a xs n e => k a _ n e⟩
section
variable {M M' : List Addr} {H H' : Hp}
mutual
theorem DA.keepD (k : KeepD M H H') : ∀ {v : V} {d : D}, DA M H v d → DA M H' v d
  | v, .non, h => by unfold DA at h ⊢; exact h
  | v, .bl b, h => by unfold DA at h ⊢; exact h
  | v, .int i, h => by unfold DA at h ⊢; exact h
  | v, .str s, h => by unfold DA at h ⊢; exact h
  | v, .lst ds, h => by
    unfold DA at h ⊢
    obtain ⟨a, xs, e, n, ha, hs⟩ := h
    exact ⟨a, xs, e, n, k.1 a _ n ha, DAs.keepD k hs⟩
  | v, .tup ds, h => by
    unfold DA at h ⊢
    obtain ⟨a, xs, e, n, ha, hs⟩ := h
    exact ⟨a, xs, e, n, k.2 a _ n ha, DAs.keepD k hs⟩
theorem DAs.keepD (k : KeepD M H H') : ∀ {xs : List V} {ds : List D}, DAs M H xs ds → DAs M H' xs ds
  | [], [], _ => by unfold DAs; trivial
  | x :: xs, d :: ds, h => by
    unfold DAs at h ⊢
    exact ⟨DA.keepD k h.1, DAs.keepD k h.2⟩
  | [], _ :: _, h => by unfold DAs at h; exact h.elim
  | _ :: _, [], h => by unfold DAs at h; exact h.elim
end
theorem KeepD.frz {d : Addr} {kvs : List (Key × V)} {od : Obj} (e : H d = some (.dK kvs)) : KeepD M H (upd H d (.frz od (.dK kvs))) :=
  ⟨fun a xs _ h => by rw [upd_ne (fun z => by rw [z, e] at h; cases h)]; exact h, fun a xs _ h => by rw [upd_ne (fun z => by rw [z, e] at h; cases h)]; exact h⟩
theorem KeepD.unfrz {d : Addr} {kvs : List (Key × V)} {od : Obj} (e : H d = some (.frz od (.dK kvs))) : KeepD M H (upd H d (.dK kvs)) :=
  ⟨fun a xs _ h => by rw [upd_ne (fun z => by rw [z, e] at h; cases h)]; exact h, fun a xs _ h => by rw [upd_ne (fun z => by rw [z, e] at h; cases h)]; exact h⟩
/-- a dict was locked, then unlocked -/
theorem Same.unlock {d : Addr} {u : HO} {od : Obj} (e : H d = some u) (s : Same (upd H d (.frz od u)) H') : Same H (upd H' d u) := fun a o h => by
  by_cases z : a = d
  · subst z
    rw [upd_same, ← e]
    exact h
  · rw [upd_ne z]
    exact s a o (by rw [upd_ne z]; exact h)
/-! ### tuples of texts -/
theorem DA.tup2 {v : V} {a b : Str} (h : DA M H v (.tup [.str a, .str b])) : ∃ p, v = .ref p ∧ p ∉ M ∧ H p = some (.tup [.str a, .str b]) := by
  obtain ⟨p, xs, e, n, hp, hs⟩ := DA.tup_iff.mp h
  obtain ⟨x, r, e1, h1, hs⟩ := DAs.cons_inv hs
  obtain ⟨y, r', e2, h2, hs⟩ := DAs.cons_inv hs
  rw [DAs.nil_inv hs] at e2
  rw [e2] at e1
  rw [e1, DA.str_iff.mp h1, DA.str_iff.mp h2] at hp
  exact ⟨p, e, n, hp⟩
theorem DA.tup2' {p : Addr} {a b : Str} (n : p ∉ M) (h : H p = some (.tup [.str a, .str b])) : DA M H (.ref p) (.tup [.str a, .str b]) :=
  DA.tup_iff.mpr ⟨p, _, rfl, n, h, DAs.cons (DA.str' a) (DAs.cons (DA.str' b) DAs.nil)⟩
theorem DA.mv {v : V} {m : Mv} (h : DA M H v m.d) : ∃ p av, v = .ref p ∧ p ∉ M ∧ H p = some (.tup [.str m.m, .str m.s, av, .str m.e]) ∧ DA M H av m.a.d := by
  obtain ⟨p, xs, e, n, hp, hs⟩ := DA.tup_iff.mp h
  obtain ⟨x, r, e1, h1, hs⟩ := DAs.cons_inv hs
  obtain ⟨y, r', e2, h2, hs⟩ := DAs.cons_inv hs
  obtain ⟨z, r3, e3, h3, hs⟩ := DAs.cons_inv hs
  obtain ⟨u, r4, e4, h4, hs⟩ := DAs.cons_inv hs
  rw [DAs.nil_inv hs] at e4
  rw [e4] at e3
  rw [e3] at e2
  rw [e2] at e1
  rw [e1, DA.str_iff.mp h1, DA.str_iff.mp h2, DA.str_iff.mp h4] at hp
  exact ⟨p, z, e, n, hp, h3⟩
theorem DA.mv' {p : Addr} {av : V} {m : Mv} (n : p ∉ M) (h : H p = some (.tup [.str m.m, .str m.s, av, .str m.e])) (ha : DA M H av m.a.d) : DA M H (.ref p) m.d :=
  DA.tup_iff.mpr ⟨p, _, rfl, n, h, DAs.cons (DA.str' _) (DAs.cons (DA.str' _) (DAs.cons ha (DAs.cons (DA.str' _) DAs.nil)))⟩
theorem DA.act {v : V} {a : Act} (h : DA M H v a.d) : ∃ p, v = .ref p ∧ p ∉ M ∧ H p = some (.tup (a.ss.map V.str)) := by
  obtain ⟨p, xs, e, n, hp, hs⟩ := DA.tup_iff.mp h
  rw [DAs.strs hs] at hp
  exact ⟨p, e, n, hp⟩
end
end K51

set_option Elab.async false
set_option linter.all false
set_option maxRecDepth 100000
set_option maxHeartbeats 4000000
set_option pp.deepTerms true
set_option pp.maxSteps 100000
namespace K51
open PySem PySem.Spec PyProof.Rows L2
/-- a refusal; all but M stands -/
def RefuseM (M : List Addr) (K : PySem.W.Frag) (wd : Str) (H : Hp) (E : XK) : Prop := ∀ (C d : Addr) (H' : Hp), IsErr K C → H' d = some (.xd (errFs wd (.int (-1)))) → Keep M H H' → E (.ref C) (some d) H'
theorem RefuseM.refuse {M : List Addr} {K : PySem.W.Frag} {wd : Str} {H H1 : Hp} {E : XK} (k : RefuseM M K wd H E) (s : Keep M H H1) : Refuse K wd H1 E := fun C d H' ie h s' => k C d H' ie h (s.trans (Keep.of s'))
/-- first a, then b: told one after the other -/
theorem Res.split {K : PySem.W.Frag} {a b : Option Str} {ok : Prop} {H : Hp} {E : XK} (k : Res K (thn1 a b) ok H E) : (a = none → Res K b ok H E) ∧ ∀ wd, a = some wd → Refuse K wd H E := by
  cases a with
  | none => exact ⟨fun _ => k, fun wd e => (by cases e)⟩
  | some wd => exact ⟨fun e => (by cases e), fun wd' e => (by cases e; exact k)⟩
theorem Res.if_ {K : PySem.W.Frag} {b : Bool} {wd : Str} {ok : Prop} {H : Hp} {E : XK} (k : Res K (okIf b wd) ok H E) : (b = true → ok) ∧ (b = false → Refuse K wd H E) := by
  cases b with
  | false => exact ⟨fun e => (by cases e), fun _ => k⟩
  | true => exact ⟨fun _ => k, fun e => (by cases e)⟩
theorem Res.mk {K : PySem.W.Frag} {r : Option Str} {ok : Prop} {H : Hp} {E : XK} (h1 : r = none → ok) (h2 : ∀ wd, r = some wd → Refuse K wd H E) : Res K r ok H E := by
  cases r with
  | none => exact h1 rfl
  | some wd => exact h2 wd rfl
theorem Res.no {K : PySem.W.Frag} {r : Option Str} {ok : Prop} {H : Hp} {E : XK} {wd : Str} (k : Res K r ok H E) (e : r = some wd) : Refuse K wd H E := by
  rw [e] at k
  exact k
theorem Res.yes {K : PySem.W.Frag} {r : Option Str} {ok : Prop} {H : Hp} {E : XK} (k : Res K r ok H E) (e : r = none) : ok := by
  rw [e] at k
  exact k
theorem okIf_some {b : Bool} {wd z : Str} (h : okIf b wd = some z) : b = false ∧ z = wd := by
  cases b with
  | true => cases h
  | false => exact ⟨rfl, (Option.some.inj h).symm⟩
theorem okIf_none {b : Bool} {wd : Str} (h : okIf b wd = none) : b = true := by
  cases b with
  | true => rfl
  | false => cases h
theorem okIf_t {wd : Str} : okIf true wd = none := rfl
/-! ### what is promised of a lab in the making -/
def fs3 (d1 d2 l : Addr) : List (Str × V) := [("firsts", .ref d1), ("words", .ref d2), ("steps", .ref l)]
def spTakeMachine (K : PySem.W.Frag) : Sp := fun vs H Q E => ∃ (a dx d1 d2 l : Addr) (n f : Str) (ms : List (Str × Str)), vs = [.ref a, .str n, .str f] ∧ H a = some (.ins (He.ga K "Lab") dx (fs3 d1 d2 l)) ∧ H d1 = some (.dK (kvS ms)) ∧ ms.length ≤ 1000 ∧ Short n ∧ Short f ∧
  Res K (chkM ms (n, f)) (∀ H', Keep [d1] H H' → H' d1 = some (.dK (kvS (ms ++ [(n, f)]))) → Q .non H') H E
def spTakeRow (K : PySem.W.Frag) : Sp := fun vs H Q E => ∃ (a dx d1 d2 l : Addr) (n f : Str) (rs : List (Str × Str)), vs = [.ref a, .str n, .str f] ∧ H a = some (.ins (He.ga K "Lab") dx (fs3 d1 d2 l)) ∧ H d2 = some (.dK (kvS rs)) ∧ rs.length ≤ 1000 ∧ Short n ∧ Short f ∧
  Res K (chkR rs (n, f)) (∀ H', Keep [d2] H H' → H' d2 = some (.dK (kvS (rs ++ [(n, f)]))) → Q .non H') H E
def spTakeMove (K : PySem.W.Frag) : Sp := fun vs H Q E => ∃ (M : List Addr) (a dx d1 d2 l : Addr) (v : V) (m : Mv) (ms rs : List (Str × Str)) (xs : List V), vs = [.ref a, v] ∧ H a = some (.ins (He.ga K "Lab") dx (fs3 d1 d2 l)) ∧ H d1 = some (.dK (kvS ms)) ∧ H d2 = some (.dK (kvS rs)) ∧
  H l = some (.lst xs) ∧ l ∈ M ∧ xs.length ≤ 1000 ∧ Trk M H ∧ DA M H v m.d ∧ m.Short ∧ Res K (chkV ms rs m) (∀ H' x, Keep [l] H H' → H' l = some (.lst (xs ++ [x])) → DA M H' x m.d → Q .non H') H E
section
variable {P : Program} {w : World} {K : PySem.W.Frag} {mg : Str → Option Value} {base : Heap}
theorem TX.sizes (T : TX w K mg) (a : Act) : ∃ z r n, a.ss = z :: r ∧ KDct K w (He.ga K "SIZES_lab") z (.int n) ∧ n = (a.ss.length : Int) := by
  have k := fun q h => kdct_of T.tabs.2.1 T.k_SIZES_lab (q := q) h
  cases a with
  | idle => exact ⟨_, _, 1, rfl, k ("idle", .int 1) (by simp), rfl⟩
  | bare r => exact ⟨_, _, 2, rfl, k ("bare", .int 2) (by simp), rfl⟩
  | send r l => exact ⟨_, _, 3, rfl, k ("send", .int 3) (by simp), rfl⟩
  | take r l => exact ⟨_, _, 3, rfl, k ("take", .int 3) (by simp), rfl⟩
theorem Act.len_le (a : Act) : a.ss.length ≤ 3 := by cases a <;> simp [Act.ss]
abbrev N_need_act : List Str := ["act", "word", "things"]
theorem sc_need_act : FnScope N_need_act ["act"] (defScope s_need_act) := ⟨rfl, rfl, rfl, by decide +kernel, rfl, by decide +kernel, by decide +kernel⟩
theorem b_need_act : Bnd0 d_need_act.name d_need_act.qual d_need_act.params d_need_act.body d_need_act.scope ["act"] := fun _ _ _ _ _ _ us hl => match us, hl with | [_], _ => rfl
theorem ok_need_act (T : TX w K mg) : CalE P w K mg base 4 "need_act" [] spNeedAct := by
  refine cal_of T.fd_need_act T.g_need_act sc_need_act b_need_act (fun vs H Q E h => ?_) (fun cdv A outer s H vs Q E hr h => ?_)
  · obtain ⟨M, v, a, rfl, _⟩ := h
    rfl
  obtain ⟨M, v, a, rfl, hv, k⟩ := h
  obtain ⟨p, rfl, np, hp⟩ := DA.act hv
  obtain ⟨z, r, n, ea, kd, en⟩ := T.sizes a
  obtain ⟨u, eu⟩ := KDct.in_ kd
  have nd := sc_need_act.nd
  have hl := a.len_le
  rw [ea] at hp en hl
  have hl : r.length + 1 ≤ 3 := hl
  refine ⟨_, (pss_cons (ps_asg (pv 0) (pg_star (i := 1) (j := 2) nd rfl rfl))
      (pss_one (ps_if (PW.pt (pw_or (pt_cmpR (op_notInK T.k_SIZES_lab) (pv 1) (pe_gref rfl T.g_SIZES_lab) (by rfl)) (pw_or1 (pt_cmpR op_ne (pe_callB call_len_seq (by rfl) T.f_len PySem.boot_len (pa_cons (pv 0) pa_nil)) (pe_ix ix_kdict (pe_gref rfl T.g_SIZES_lab) (pv 1) (fun _ _ => rfl)) (nomark _)))))
      (pss_one (ps_raise rfl (takes_of rfl rfl rfl rfl) (pmk_err (ok_BadAct_init T) (hr.mono (by decide)) rfl)))
      pss_nil))), ?_⟩
  simp only [tSeq, tDrop, tVar, tC, tCall, tCons, tNil, tFld, sFld, sDPut, tDGet, tRet, tRetN, tIfS, tTest, tB, tNot, tAnd, tOr, tOp, tUn, rI0, rI, tNext, tDIn, tDNotIn, tDNewK, tIf, tAndV, tOrV, tNotV, tAsg, gName, gCons, gNil, gTup, tPar, tTup, tLst, tMeth, tCB, rEq, rNe, tBM, rAppend, tBM0, tChain, rIxL, rIxT, rIxS, rIx, L2.start, cxK, cxW, kV_inr, List.map_cons, List.map_nil, List.length_cons, List.length_nil, List.replicate, List.cons_append, List.nil_append, List.append_nil, List.getElem?_cons_zero, List.getElem?_cons_succ, List.set_cons_zero, List.set_cons_succ, Option.some.injEq, V.ref.injEq, V.str.injEq, V.int.injEq, V.bl.injEq, exists_eq, exists_eq', exists_eq_left, exists_eq_left', exists_and_left, exists_and_right, List.cons.injEq, and_true, true_and, and_assoc, gStar]
  refine ⟨.str z, r.map V.str, .inl (.inl hp), by rw [List.length_map]; omega, fun q hq => ⟨z, rfl, some u, eu, iteF ?_⟩⟩
  have hp' : (upd H q (.lst (r.map V.str))) p = some (.tup ((z :: r).map V.str)) := by
    rw [upd_ne (ne_of_none hp hq)]
    exact hp
  refine ⟨(z :: r).map V.str, .inr (.inl (.inl hp')), _, _, _, rfl, rfl, kd, rfl, ?_⟩
  rw [en, List.length_map, decide_eq_true rfl]
  exact iteF (k _ (Same.up hq))
abbrev N_Lab_take_machine : List Str := ["self", "name", "first"]
theorem sc_Lab_take_machine : FnScope N_Lab_take_machine ["self", "name", "first"] (defScope s_Lab_take_machine) := ⟨rfl, rfl, rfl, by decide +kernel, rfl, by decide +kernel, by decide +kernel⟩
theorem b_Lab_take_machine : Bnd0 d_Lab_take_machine.name d_Lab_take_machine.qual d_Lab_take_machine.params d_Lab_take_machine.body d_Lab_take_machine.scope ["self", "name", "first"] := fun _ _ _ _ _ _ us hl => match us, hl with | [_, _, _], _ => rfl
theorem ok_Lab_take_machine (T : TX w K mg) : MetE P w K mg base 5 (He.ga K "Lab") "take_machine" [] (spTakeMachine K) := by
  refine met_of T.fd_Lab_take_machine T.m_Lab_take_machine sc_Lab_take_machine b_Lab_take_machine (fun vs H Q E h => ?_) (fun cdv A outer s H vs Q E hr h => ?_)
  · obtain ⟨a, dx, d1, d2, l, n, f, ms, rfl, _⟩ := h
    rfl
  obtain ⟨a, dx, d1, d2, l, n, f, ms, rfl, ha, h1, hl, hn, hf, k⟩ := h
  have nd := sc_Lab_take_machine.nd
  have hu := hu_of hr
  refine ⟨_, (pss_cons (ps_expr (pe_cal (ok_need_name T) (hr.mono (by decide)) rfl px (pa_cons (pv 1) pa_nil)))
      (pss_cons (ps_expr (pe_cal (ok_need_name T) (hr.mono (by decide)) rfl px (pa_cons (pv 2) pa_nil)))
      (pss_cons (ps_expr (pe_cal (ok_need_fresh T) (hr.mono (by decide)) rfl px (pa_cons (pv 1) (pa_cons (pe_fld (pv 0) rfl) pa_nil))))
      (pss_one (ps_dput hu (pe_fld (pv 0) rfl) (pv 1) (pv 2) rfl))))), ?_⟩
  simp only [tSeq, tDrop, tVar, tC, tCall, tCons, tNil, tFld, sFld, sDPut, tDGet, tRet, tRetN, tIfS, tTest, tB, tNot, tAnd, tOr, tOp, tUn, rI0, rI, tNext, tDIn, tDNotIn, tDNewK, tIf, tAndV, tOrV, tNotV, tAsg, gName, gCons, gNil, gTup, tPar, tTup, tLst, tMeth, tCB, rEq, rNe, tBM, rAppend, tBM0, tChain, rIxL, rIxT, rIxS, rIx, L2.start, cxK, cxW, kV_inr, List.map_cons, List.map_nil, List.length_cons, List.length_nil, List.replicate, List.cons_append, List.nil_append, List.append_nil, List.getElem?_cons_zero, List.getElem?_cons_succ, List.set_cons_zero, List.set_cons_succ, Option.some.injEq, V.ref.injEq, V.str.injEq, V.int.injEq, V.bl.injEq, exists_eq, exists_eq', exists_eq_left, exists_eq_left', exists_and_left, exists_and_right, List.cons.injEq, and_true, true_and, and_assoc, spNeedName]
  obtain ⟨k0, r1⟩ := Res.split k
  refine ⟨hn, Res.mk (fun e1 H1 s1 => ?_) r1⟩
  obtain ⟨k0, r2⟩ := Res.split (k0 e1)
  refine ⟨hf, Res.mk (fun e2 H2 s2 => ?_) fun wd e => (r2 wd e).mono s1⟩
  have s12 := s1.trans s2
  refine ⟨_, _, _, s12 _ _ ha, T.c_Lab, T.n_Lab_firsts, _, rfl, n, d1, kvS ms, rfl, s12 _ _ h1, ?_⟩
  rw [keyIn_kvS]
  have k1 := k0 e2
  refine Res.mk (fun e3 => ?_) fun wd e => (k1.no e).mono s12
  refine ⟨_, _, _, s12 _ _ ha, T.c_Lab, T.n_Lab_firsts, _, rfl, d1, rfl, _, DPut.k (k := .inr n) (s12 _ _ h1) (by rw [kvS_len, sizeLine_eq]; omega), ?_⟩
  have hh : hasK n ms = false := by simpa using okIf_none e3
  refine k1.yes e3 _ ((Keep.of s12).trans (Keep.at (by simp))) ?_
  rw [upd_same, putK_kvS hh]
abbrev N_Lab_take_row : List Str := ["self", "name", "word"]
theorem sc_Lab_take_row : FnScope N_Lab_take_row ["self", "name", "word"] (defScope s_Lab_take_row) := ⟨rfl, rfl, rfl, by decide +kernel, rfl, by decide +kernel, by decide +kernel⟩
theorem b_Lab_take_row : Bnd0 d_Lab_take_row.name d_Lab_take_row.qual d_Lab_take_row.params d_Lab_take_row.body d_Lab_take_row.scope ["self", "name", "word"] := fun _ _ _ _ _ _ us hl => match us, hl with | [_, _, _], _ => rfl
theorem ok_Lab_take_row (T : TX w K mg) : MetE P w K mg base 5 (He.ga K "Lab") "take_row" [] (spTakeRow K) := by
  refine met_of T.fd_Lab_take_row T.m_Lab_take_row sc_Lab_take_row b_Lab_take_row (fun vs H Q E h => ?_) (fun cdv A outer s H vs Q E hr h => ?_)
  · obtain ⟨a, dx, d1, d2, l, n, f, ms, rfl, _⟩ := h
    rfl
  obtain ⟨a, dx, d1, d2, l, n, f, ms, rfl, ha, h1, hl, hn, hf, k⟩ := h
  have nd := sc_Lab_take_row.nd
  have hu := hu_of hr
  refine ⟨_, (pss_cons (ps_expr (pe_cal (ok_need_name T) (hr.mono (by decide)) rfl px (pa_cons (pv 1) pa_nil)))
      (pss_cons (ps_expr (pe_cal (ok_need_fresh T) (hr.mono (by decide)) rfl px (pa_cons (pv 1) (pa_cons (pe_fld (pv 0) rfl) pa_nil))))
      (pss_cons (ps_expr (pe_cal (ok_need_short T) (hr.mono (by decide)) rfl px (pa_cons (pv 2) pa_nil)))
      (pss_one (ps_dput hu (pe_fld (pv 0) rfl) (pv 1) (pv 2) rfl))))), ?_⟩
  simp only [tSeq, tDrop, tVar, tC, tCall, tCons, tNil, tFld, sFld, sDPut, tDGet, tRet, tRetN, tIfS, tTest, tB, tNot, tAnd, tOr, tOp, tUn, rI0, rI, tNext, tDIn, tDNotIn, tDNewK, tIf, tAndV, tOrV, tNotV, tAsg, gName, gCons, gNil, gTup, tPar, tTup, tLst, tMeth, tCB, rEq, rNe, tBM, rAppend, tBM0, tChain, rIxL, rIxT, rIxS, rIx, L2.start, cxK, cxW, kV_inr, List.map_cons, List.map_nil, List.length_cons, List.length_nil, List.replicate, List.cons_append, List.nil_append, List.append_nil, List.getElem?_cons_zero, List.getElem?_cons_succ, List.set_cons_zero, List.set_cons_succ, Option.some.injEq, V.ref.injEq, V.str.injEq, V.int.injEq, V.bl.injEq, exists_eq, exists_eq', exists_eq_left, exists_eq_left', exists_and_left, exists_and_right, List.cons.injEq, and_true, true_and, and_assoc, spNeedName, spNeedShort]
  obtain ⟨k0, r1⟩ := Res.split k
  refine ⟨hn, Res.mk (fun e1 H1 s1 => ?_) r1⟩
  refine ⟨_, _, _, s1 _ _ ha, T.c_Lab, T.n_Lab_words, _, rfl, n, d2, kvS ms, rfl, s1 _ _ h1, ?_⟩
  rw [keyIn_kvS]
  obtain ⟨k0, r2⟩ := Res.split (k0 e1)
  refine Res.mk (fun e2 => ?_) fun wd e => (r2 wd e).mono s1
  have k1 := k0 e2
  refine ⟨hf, Res.mk (fun e3 H2 s2 => ?_) fun wd e => (k1.no e).mono s1⟩
  have s12 := s1.trans s2
  refine ⟨_, _, _, s12 _ _ ha, T.c_Lab, T.n_Lab_words, _, rfl, d2, rfl, _, DPut.k (k := .inr n) (s12 _ _ h1) (by rw [kvS_len, sizeLine_eq]; omega), ?_⟩
  have hh : hasK n ms = false := by simpa using okIf_none e2
  refine k1.yes e3 _ ((Keep.of s12).trans (Keep.at (by simp))) ?_
  rw [upd_same, putK_kvS hh]
abbrev N_Lab_take_move : List Str := ["self", "move", "machine", "start", "act", "end"]
theorem sc_Lab_take_move : FnScope N_Lab_take_move ["self", "move"] (defScope s_Lab_take_move) := ⟨rfl, rfl, rfl, by decide +kernel, rfl, by decide +kernel, by decide +kernel⟩
theorem b_Lab_take_move : Bnd0 d_Lab_take_move.name d_Lab_take_move.qual d_Lab_take_move.params d_Lab_take_move.body d_Lab_take_move.scope ["self", "move"] := fun _ _ _ _ _ _ us hl => match us, hl with | [_, _], _ => rfl
theorem ok_Lab_take_move (T : TX w K mg) : MetE P w K mg base 5 (He.ga K "Lab") "take_move" [] (spTakeMove K) := by
  refine met_of T.fd_Lab_take_move T.m_Lab_take_move sc_Lab_take_move b_Lab_take_move (fun vs H Q E h => ?_) (fun cdv A outer s H vs Q E hr h => ?_)
  · obtain ⟨M, a, dx, d1, d2, l, v, m, ms, rs, xs, rfl, _⟩ := h
    rfl
  obtain ⟨M, a, dx, d1, d2, l, v, m, ms, rs, xs, rfl, ha, h1, h2, hl, lM, hx, tM, hv, ⟨hm1, hm2, hm3, hm4⟩, k⟩ := h
  obtain ⟨p, av, rfl, np, hp, hav⟩ := DA.mv hv
  obtain ⟨q, rfl, nq, hq⟩ := DA.act hav
  have nd := sc_Lab_take_move.nd
  have hu := hu_of hr
  refine ⟨_, (pss_cons (ps_asg (pv 1) (pg_tup (n := 4) (by rfl) (pgs_cons (pg_name (i := 2) nd rfl (Or.inl rfl)) (pgs_cons (pg_name (i := 3) nd rfl (Or.inl rfl)) (pgs_cons (pg_name (i := 4) nd rfl (Or.inl rfl)) (pgs_cons (pg_name (i := 5) nd rfl (Or.inl rfl)) pgs_nil))))))
      (pss_cons (ps_if (pt_cmp (pc_dnotin hu (pv 2) (pe_fld (pv 0) rfl)))
      (pss_one (ps_raise rfl (takes_of rfl rfl rfl rfl) (pmk_err (ok_NoMachine_init T) (hr.mono (by decide)) rfl)))
      pss_nil)
      (pss_cons (ps_expr (pe_cal (ok_need_name T) (hr.mono (by decide)) rfl px (pa_cons (pv 3) pa_nil)))
      (pss_cons (ps_expr (pe_cal (ok_need_name T) (hr.mono (by decide)) rfl px (pa_cons (pv 5) pa_nil)))
      (pss_cons (ps_expr (pe_cal (ok_need_act T) (hr.mono (by decide)) rfl px (pa_cons (pv 4) pa_nil)))
      (pss_cons (ps_if (PW.pt (pw_and (pt_cmpR op_gt (pe_callB call_len_seq (by rfl) T.f_len PySem.boot_len (pa_cons (pv 4) pa_nil)) pe_int (nomark _)) (pw_and1 (pt_cmp (pc_dnotin hu (pe_ix ix_tup (pv 4) pe_int (fun _ _ => rfl)) (pe_fld (pv 0) rfl))))))
      (pss_one (ps_raise rfl (takes_of rfl rfl rfl rfl) (pmk_err (ok_NoRow_init T) (hr.mono (by decide)) rfl)))
      pss_nil)
      (pss_cons (ps_if (PW.pt (pw_and (pt_cmpR op_gt (pe_callB call_len_seq (by rfl) T.f_len PySem.boot_len (pa_cons (pv 4) pa_nil)) pe_int (nomark _)) (pw_and1 (pt_not (pt_val (pe_cal (ok_is_letter T) (hr.mono (by decide)) rfl passL (pa_cons (pe_ix ix_tup (pv 4) pe_int (fun _ _ => rfl)) pa_nil)))))))
      (pss_one (ps_raise rfl (takes_of rfl rfl rfl rfl) (pmk_err (ok_BadWord_init T) (hr.mono (by decide)) rfl)))
      pss_nil)
      (pss_one (ps_expr (pe_bm PySem.F.plainAttrs_list PySem.F.slot_list_append PySem.F.type_list_append mt_append (pe_fld (pv 0) rfl) (pa_cons (pe_tup (pa_cons (pv 2) (pa_cons (pv 3) (pa_cons (pe_callTy call_tuple_of (by rfl) T.f_tuple (by decide +kernel) (pa_cons (pv 4) pa_nil)) (pa_cons (pv 5) pa_nil))))) pa_nil))))))))))), ?_⟩
  simp only [tSeq, tDrop, tVar, tC, tCall, tCons, tNil, tFld, sFld, sDPut, tDGet, tRet, tRetN, tIfS, tTest, tB, tNot, tAnd, tOr, tOp, tUn, rI0, rI, tNext, tDIn, tDNotIn, tDNewK, tIf, tAndV, tOrV, tNotV, tAsg, gName, gCons, gNil, gTup, tPar, tTup, tLst, tMeth, tCB, rEq, rNe, tBM, rAppend, tBM0, tChain, rIxL, rIxT, rIxS, rIx, L2.start, cxK, cxW, kV_inr, List.map_cons, List.map_nil, List.length_cons, List.length_nil, List.replicate, List.cons_append, List.nil_append, List.append_nil, List.getElem?_cons_zero, List.getElem?_cons_succ, List.set_cons_zero, List.set_cons_succ, Option.some.injEq, V.ref.injEq, V.str.injEq, V.int.injEq, V.bl.injEq, exists_eq, exists_eq', exists_eq_left, exists_eq_left', exists_and_left, exists_and_right, List.cons.injEq, and_true, true_and, and_assoc, spNeedName, spNeedAct, spIsLetter]
  refine ⟨_, .inl (.inl hp), rfl, _, _, rfl, _, _, rfl, _, _, rfl, _, _, rfl, rfl, _, _, _, ha, T.c_Lab, T.n_Lab_firsts, _, rfl, _, rfl, _, DGet.k (k := .inr m.m) h1, ?_⟩
  obtain ⟨k0, r1⟩ := Res.split k
  have e0 : (valV (kvS ms) (Sum.inr m.m)).isSome = hasK m.m ms := keyIn_kvS _ _
  rw [e0]
  cases hh : hasK m.m ms with
  | false =>
    rw [hh] at r1
    exact iteT ((r1 _ rfl).go T.ie_NoMachine)
  | true =>
  rw [hh] at k0
  refine iteF ⟨_, rfl, hm2, ?_⟩
  obtain ⟨k0, r1⟩ := Res.split (k0 rfl)
  refine Res.mk (fun e1 H1 s1 => ?_) r1
  obtain ⟨k0, r2⟩ := Res.split (k0 e1)
  refine ⟨_, rfl, hm4, Res.mk (fun e2 H2 s2 => ?_) fun wd e => (r2 wd e).mono s1⟩
  have s12 := s1.trans s2
  refine ⟨⟨M, m.a, hav.keep (Keep.of s12)⟩, fun H3 s3 => ⟨q, rfl, m.a.ss.map V.str, .inr (.inl (.inl (s12.trans s3 _ _ hq))), ?_⟩⟩
  have s13 := s12.trans s3
  have k3 := k0 e2
  clear k0 k r1 r2
  have fin : chkA rs m.a = none → ∀ H4 p1, Same H H4 → H4 p1 = none → Q .non (upd (upd H4 p1 (.tup [.str m.m, .str m.s, .ref q, .str m.e])) l (.lst (xs ++ [.ref p1]))) := fun e4 H4 p1 s4 np1 => by
    have nl : l ≠ p1 := ne_of_none (s4 _ _ hl) np1
    refine k3.yes e4 _ (.ref p1) ((Keep.of (s4.trans (Same.up np1))).trans (Keep.at (by simp))) upd_same ?_
    have t4 : Trk M H4 := tM.same s4
    have h4 : DA M H4 (.ref q) m.a.d := hav.keep (Keep.of s4)
    refine DA.keep (Keep.at lM) (DA.mv' (t4.new np1) upd_same (h4.keep (Keep.of (Same.up np1))))
  have tl : chkA rs m.a = none → ∀ H4, Same H H4 → tyV K "list" (.ref l) H4 ∧ ∃ p, V.ref q = V.ref p ∧ ∃ x, (SqL K H4 p x ∧ (∀ l1 : Addr, H4 l1 = none → 0 + 1 + 1 + 1 + 1 ≤ sizeLine ∧ ∀ p : Addr, upd H4 l1 (.tup x) p = none → ∃ l2, V.ref l = V.ref l2 ∧ ∃ x1, upd (upd H4 l1 (.tup x)) p (.tup [.str m.m, .str m.s, .ref l1, .str m.e]) l2 = some (.lst x1) ∧ x1.length < sizeLine ∧
      Q .non (upd (upd (upd H4 l1 (.tup x)) p (.tup [.str m.m, .str m.s, .ref l1, .str m.e])) l2 (.lst (x1 ++ [.ref p]))))) ∨ (SqT K H4 p x ∧ 0 + 1 + 1 + 1 + 1 ≤ sizeLine ∧ ∀ p1 : Addr, H4 p1 = none → ∃ l1, V.ref l = V.ref l1 ∧ ∃ x, upd H4 p1 (.tup [.str m.m, .str m.s, .ref p, .str m.e]) l1 = some (.lst x) ∧ x.length < sizeLine ∧
      Q .non (upd (upd H4 p1 (.tup [.str m.m, .str m.s, .ref p, .str m.e])) l1 (.lst (x ++ [.ref p1])))) := fun e4 H4 s4 =>
    ⟨.inl ⟨rfl, xs, .inl (.inl (s4 _ _ hl))⟩, q, rfl, _, .inr ⟨.inl (.inl (s4 _ _ hq)), by rw [sizeLine_eq]; omega, fun p1 np1 => ⟨l, rfl, xs, by rw [upd_ne (ne_of_none (s4 _ _ hl) np1)]; exact s4 _ _ hl, by rw [sizeLine_eq]; omega, fin e4 _ p1 s4 np1⟩⟩⟩
  clear fin
  have row : ∀ r, (valV (kvS rs) (Sum.inr r)).isSome = hasK r rs := fun r => keyIn_kvS _ _
  obtain ⟨mm, mst, ma, me⟩ := m
  have k4 : Res K (chkA rs ma) (chkA rs ma = none) H E := Res.mk (fun e => e) fun wd e => k3.no e
  cases ma with
  | idle => exact iteF ⟨_, rfl, _, .inr (.inl (.inl (s13 _ _ hq))), iteF ⟨_, _, _, s13 _ _ ha, T.c_Lab, T.n_Lab_steps, _, rfl, tl rfl H3 s13⟩⟩
  | bare r =>
    refine iteT ⟨_, rfl, _, .inl (.inl (s13 _ _ hq)), _, rfl, _, _, _, s13 _ _ ha, T.c_Lab, T.n_Lab_words, _, rfl, _, rfl, _, DGet.k (k := .inr r) (s13 _ _ h2), ?_⟩
    rw [row]
    have e5 : chkA rs (.bare r) = thn1 (okIf (hasK r rs) "norow") none := rfl
    cases hh : hasK r rs with
    | false =>
      rw [e5, hh] at k4
      exact iteT ((k4.no rfl).mono s13 |>.go T.ie_NoRow)
    | true =>
      rw [e5, hh] at k4
      exact iteF ⟨_, rfl, _, .inr (.inl (.inl (s13 _ _ hq))), iteF ⟨_, _, _, s13 _ _ ha, T.c_Lab, T.n_Lab_steps, _, rfl, tl (by rw [e5, hh]; rfl) H3 s13⟩⟩
  | send r z =>
    refine iteT ⟨_, rfl, _, .inl (.inl (s13 _ _ hq)), _, rfl, _, _, _, s13 _ _ ha, T.c_Lab, T.n_Lab_words, _, rfl, _, rfl, _, DGet.k (k := .inr r) (s13 _ _ h2), ?_⟩
    rw [row]
    have e5 : chkA rs (.send r z) = thn1 (okIf (hasK r rs) "norow") (okIf (isLetter z) "badword") := rfl
    have hz : z.length ≤ 1000 := hm3 z (by simp [Act.ss])
    cases hh : hasK r rs with
    | false =>
      rw [e5, hh] at k4
      exact iteT ((k4.no rfl).mono s13 |>.go T.ie_NoRow)
    | true =>
      refine iteF ⟨_, rfl, _, .inr (.inl (.inl (s13 _ _ hq))), iteT ⟨_, rfl, _, .inl (.inl (s13 _ _ hq)), _, rfl, z, rfl, hz, fun H4 s4 => ?_⟩⟩
      have s14 := s13.trans s4
      cases hl2 : isLetter z with
      | false =>
        rw [e5, hh, hl2] at k4
        exact iteT ((k4.no rfl).mono s14 |>.go T.ie_BadWord)
      | true => exact iteF ⟨_, _, _, s14 _ _ ha, T.c_Lab, T.n_Lab_steps, _, rfl, tl (by rw [e5, hh, hl2]; rfl) H4 s14⟩
  | take r z =>
    refine iteT ⟨_, rfl, _, .inl (.inl (s13 _ _ hq)), _, rfl, _, _, _, s13 _ _ ha, T.c_Lab, T.n_Lab_words, _, rfl, _, rfl, _, DGet.k (k := .inr r) (s13 _ _ h2), ?_⟩
    rw [row]
    have e5 : chkA rs (.take r z) = thn1 (okIf (hasK r rs) "norow") (okIf (isLetter z) "badword") := rfl
    have hz : z.length ≤ 1000 := hm3 z (by simp [Act.ss])
    cases hh : hasK r rs with
    | false =>
      rw [e5, hh] at k4
      exact iteT ((k4.no rfl).mono s13 |>.go T.ie_NoRow)
    | true =>
      refine iteF ⟨_, rfl, _, .inr (.inl (.inl (s13 _ _ hq))), iteT ⟨_, rfl, _, .inl (.inl (s13 _ _ hq)), _, rfl, z, rfl, hz, fun H4 s4 => ?_⟩⟩
      have s14 := s13.trans s4
      cases hl2 : isLetter z with
      | false =>
        rw [e5, hh, hl2] at k4
        exact iteT ((k4.no rfl).mono s14 |>.go T.ie_BadWord)
      | true => exact iteF ⟨_, _, _, s14 _ _ ha, T.c_Lab, T.n_Lab_steps, _, rfl, tl (by rw [e5, hh, hl2]; rfl) H4 s14⟩
end
end K51


set_option Elab.async false
set_option linter.all false
set_option maxRecDepth 100000
set_option maxHeartbeats 4000000
set_option pp.deepTerms true
set_option pp.maxSteps 100000
namespace K51
open PySem PySem.Spec PyProof.Rows L2
theorem uniq_app (xs ys : List Str) : uniq (xs ++ ys) = ys.foldl ins (uniq xs) := List.foldl_append
theorem keys_put {kvs : List (Key × V)} {l : List Str} {z : Str} {v : V} (h : kvs.map (·.1) = l.map Sum.inr) : (putK kvs (.inr z) v).map (·.1) = (ins l z).map Sum.inr := by
  have e : (kvs.any fun kv => decide (kv.1 = (Sum.inr z : Key))) = l.any (· == z) := by
    have e1 : (kvs.any fun kv => decide (kv.1 = (Sum.inr z : Key))) = (kvs.map (·.1)).any (fun k => decide (k = (Sum.inr z : Key))) := by rw [List.any_map]; rfl
    rw [e1, h, List.any_map]
    congr 1
    funext y
    show decide ((Sum.inr y : Key) = Sum.inr z) = (y == z)
    by_cases q : y = z
    · subst q
      simp
    · have q2 : ¬ (Sum.inr y : Key) = Sum.inr z := fun w => q (Sum.inr.inj w)
      rw [decide_eq_false q2]
      exact (beq_eq_false_iff_ne.mpr q).symm
  unfold putK ins
  rw [e]
  by_cases q : l.any (· == z) = true
  · rw [if_pos q, if_pos q, ← h, List.map_map]
    congr 1
    funext kv
    show (if kv.1 = Sum.inr z then (kv.1, v) else kv).1 = kv.1
    split <;> rfl
  · rw [if_neg q, if_neg q, List.map_append, List.map_append, h]
    rfl
theorem len_put {kvs : List (Key × V)} {k : Key} {v : V} {n : Nat} (h : kvs.length ≤ n) : (putK kvs k v).length ≤ n + 1 := by have := length_putK kvs k v; omega
theorem held_snoc (f : Str) (mv : List Mv) (m : Mv) (n : Str) : held f (mv ++ [m]) n = held f mv n ++ (if m.m = n then [m.s, m.e] else []) := by
  unfold held
  rw [List.filter_append, List.flatMap_append]
  by_cases e : m.m = n
  · rw [if_pos e, List.filter_cons_of_pos (by simpa using e)]
    simp
  · rw [if_neg e, List.filter_cons_of_neg (by simpa using e)]
    simp
theorem DAs.getMv {M : List Addr} {H : Hp} {xs : List V} {mv : List Mv} {i : Nat} {x : V} (h : DAs M H xs (mv.map Mv.d)) (e : xs[i]? = some x) : ∃ m, mv[i]? = some m ∧ DA M H x m.d := by
  obtain ⟨d, h1, h2⟩ := h.get e
  rw [List.getElem?_map] at h1
  cases e2 : mv[i]? with
  | none => rw [e2] at h1; cases h1
  | some m =>
    rw [e2] at h1
    have h1 : m.d = d := Option.some.inj h1
    subst h1
    exact ⟨m, rfl, h2⟩
theorem iteY {A B : Prop} (h : A) : if True then A else B := by
  rw [if_pos trivial]
  exact h
def spStandsOf (K : PySem.W.Frag) : Sp := fun vs H Q _ => ∃ (a dx d1 d2 l : Addr) (n f : Str) (ms : List (Str × Str)) (mv : List Mv) (xs : List V), vs = [.ref a, .str n] ∧ H a = some (.ins (He.ga K "Lab") dx (fs3 d1 d2 l)) ∧ Rd H d1 (.dK (kvS ms)) ∧
  H l = some (.lst xs) ∧ DAs [] H xs (mv.map Mv.d) ∧ getK n ms = some f ∧ mv.length ≤ 25 ∧ ∀ p ys H', Same H H' → H' p = some (.lst ys) → ys.length = (uniq (held f mv n)).length → Q (.ref p) H'
def spLookFull (K : PySem.W.Frag) : Sp := fun vs H Q E => ∃ (a dx d1 d2 l : Addr) (ms rs : List (Str × Str)) (mv : List Mv) (xs : List V), vs = [.ref a] ∧ H a = some (.ins (He.ga K "Lab") dx (fs3 d1 d2 l)) ∧ H d1 = some (.dK (kvS ms)) ∧ H d2 = some (.dK (kvS rs)) ∧
  H l = some (.lst xs) ∧ DAs [] H xs (mv.map Mv.d) ∧ (∀ p ∈ ms, getK p.1 ms = some p.2) ∧ Res K (chkFull ⟨ms, rs, mv⟩) (∀ H', Same H H' → Q .non H') H E
theorem Rd.same {H H' : Hp} {a : Addr} {u : HO} (r : Rd H a u) (s : Same H H') : Rd H' a u := r.elim (fun e => .inl (s _ _ e)) fun ⟨o, e⟩ => .inr ⟨o, s _ _ e⟩
section
variable {P : Program} {w : World} {K : PySem.W.Frag} {mg : Str → Option Value} {base : Heap}
abbrev N_Lab_stands_of : List Str := ["self", "machine", "found", "name", "start", "act", "end"]
theorem sc_Lab_stands_of : FnScope N_Lab_stands_of ["self", "machine"] (defScope s_Lab_stands_of) := ⟨rfl, rfl, rfl, by decide +kernel, rfl, by decide +kernel, by decide +kernel⟩
theorem b_Lab_stands_of : Bnd0 d_Lab_stands_of.name d_Lab_stands_of.qual d_Lab_stands_of.params d_Lab_stands_of.body d_Lab_stands_of.scope ["self", "machine"] := fun _ _ _ _ _ _ us hl => match us, hl with | [_, _], _ => rfl
theorem ok_Lab_stands_of (T : TX w K mg) : MetE P w K mg base 1 (He.ga K "Lab") "stands_of" [] (spStandsOf K) := by
  refine met_of T.fd_Lab_stands_of T.m_Lab_stands_of sc_Lab_stands_of b_Lab_stands_of (fun vs H Q E h => ?_) (fun cdv A outer s H vs Q E hr h => ?_)
  · obtain ⟨a, dx, d1, d2, l, n, f, ms, mv, xs, rfl, _⟩ := h
    rfl
  obtain ⟨a, dx, d1, d2, l, n, f, ms, mv, xs, rfl, ha, h1, hl, hx, hf, hm, k⟩ := h
  have nd := sc_Lab_stands_of.nd
  have hu := hu_of hr
  refine ⟨_, (pss_cons (ps_set (i := 2) nd rfl (Or.inl rfl) (pe_disp (pps_cons (pe_dget hu (pe_fld (pv 0) rfl) (pv 1) (fun _ _ => rfl)) pe_bl pps_nil) (by rfl) (by rfl) (fun z => by cases z) (by decide)))
      (pss_cons (ps_for (passes_of rfl) rfl (pi_list (pe_fld (pv 0) rfl)) (pg_tup (n := 4) (by rfl) (pgs_cons (pg_name (i := 3) nd rfl (Or.inl rfl)) (pgs_cons (pg_name (i := 4) nd rfl (Or.inl rfl)) (pgs_cons (pg_name (i := 5) nd rfl (Or.inl rfl)) (pgs_cons (pg_name (i := 6) nd rfl (Or.inl rfl)) pgs_nil)))))
      (pss_one (ps_if (pt_cmpR op_eq (pv 3) (pv 1) (nomark _))
      (pss_one (ps_asg2 pe_bl (pg_sub (pv 2) (pv 4) (set_dict hu)) (pg_sub (pv 2) (pv 6) (set_dict hu))))
      pss_nil)))
      (pss_one (ps_ret (pe_callB cr_sortedS (by rfl) T.f_sorted (by decide +kernel) (pa_cons (pe_callTy (call_listD rfl) (by rfl) T.f_list (by decide +kernel) (pa_cons (pv 2) pa_nil)) pa_nil)))))), ?_⟩
  simp only [tSeq, tDrop, tVar, tC, tCall, tCons, tNil, tFld, sFld, sDPut, tDGet, tRet, tRetN, tIfS, tTest, tB, tNot, tAnd, tOr, tOp, tUn, rI0, rI, tNext, tDIn, tDNotIn, tDNewK, tIf, tAndV, tOrV, tNotV, tAsg, gName, gCons, gNil, gTup, tPar, tTup, tLst, tMeth, tCB, rEq, rNe, tBM, rAppend, tBM0, tChain, rIxL, rIxT, rIxS, rIx, L2.start, cxK, cxW, kV_inr, List.map_cons, List.map_nil, List.length_cons, List.length_nil, List.replicate, List.cons_append, List.nil_append, List.append_nil, List.getElem?_cons_zero, List.getElem?_cons_succ, List.set_cons_zero, List.set_cons_succ, Option.some.injEq, V.ref.injEq, V.str.injEq, V.int.injEq, V.bl.injEq, exists_eq, exists_eq', exists_eq_left, exists_eq_left', exists_and_left, exists_and_right, List.cons.injEq, and_true, true_and, and_assoc, tDisp, tPairs, rSortedS]
  intro d hd
  have s1 : Same H (upd H d (.dK [])) := Same.up hd
  refine ⟨_, _, _, s1 _ _ ha, T.c_Lab, T.n_Lab_firsts, _, rfl, d1, rfl, .str f, ?_, upd_same, [((Sum.inr f : Key), V.bl true)], rfl, by simp, ?_⟩
  · have r1 := Rd.same h1 s1
    have e : valV (kvS ms) (Sum.inr n) = some (.str f) := by rw [valV_kvS, hf]; rfl
    exact .inl ⟨kvS ms, .inr n, r1, rfl, e.symm⟩
  simp only [tFor, iList, tFld, tVar, List.getElem?_cons_zero, Option.some.injEq, exists_eq_left', and_assoc, exists_and_left, V.ref.injEq, exists_eq_left]
  have s2 : Same H (upd (upd H d (.dK [])) d (.dK (mergeK [] [((Sum.inr f : Key), V.bl true)]))) := fun b o e => by
    have nb := ne_of_none e hd
    rw [upd_ne nb, upd_ne nb]
    exact e
  refine ⟨_, _, _, s2 _ _ ha, T.c_Lab, T.n_Lab_steps, _, rfl, l, rfl, ⟨xs, .inl (.inl (s2 _ _ hl))⟩, ?_⟩
  have hxl : xs.length = mv.length := by rw [hx.length, List.length_map]
  refine for_it (D := ⟨_, _, fun _ _ => False, fun _ _ => False⟩) (walk_list (xs := xs)) (fun i σ H' => Same H H' ∧ (∃ kvs, H' d = some (.dK kvs) ∧ kvs.length ≤ 1 + 2 * i ∧ kvs.map (·.1) = (uniq (held f (mv.take i) n)).map Sum.inr) ∧ ∃ o3 o4 o5 o6, σ = [some (.ref a), some (.str n), some (.ref d), o3, o4, o5, o6])
    ⟨s2, ⟨_, upd_same, by simp [mergeK, putK], by simp [mergeK, putK, uniq, held, ins]⟩, _, _, _, _, rfl⟩ (fun i σ H' _ p => .inl (.inl (p.1 _ _ hl))) (fun i x σ H' H'' hi p y => ?_) (fun σ H' p => ?_)
  · obtain ⟨s3, ⟨kvs, hk1, hk2, hk3⟩, o3, o4, o5, o6, rfl⟩ := p
    obtain ⟨rfl, hxi⟩ := y
    obtain ⟨m, hm1, hmd⟩ := hx.getMv hxi
    obtain ⟨p, av, rfl, _, hp, _⟩ := (hmd.keep (Keep.of s3)).mv
    have e1 : mv.take (i + 1) = mv.take i ++ [m] := take_succ_get hm1
    simp only [tSeq, tDrop, tVar, tC, tCall, tCons, tNil, tFld, sFld, sDPut, tDGet, tRet, tRetN, tIfS, tTest, tB, tNot, tAnd, tOr, tOp, tUn, rI0, rI, tNext, tDIn, tDNotIn, tDNewK, tIf, tAndV, tOrV, tNotV, tAsg, gName, gCons, gNil, gTup, tPar, tTup, tLst, tMeth, tCB, rEq, rNe, tBM, rAppend, tBM0, tChain, rIxL, rIxT, rIxS, rIx, L2.start, cxK, cxW, kV_inr, List.map_cons, List.map_nil, List.length_cons, List.length_nil, List.replicate, List.cons_append, List.nil_append, List.append_nil, List.getElem?_cons_zero, List.getElem?_cons_succ, List.set_cons_zero, List.set_cons_succ, Option.some.injEq, V.ref.injEq, V.str.injEq, V.int.injEq, V.bl.injEq, exists_eq, exists_eq', exists_eq_left, exists_eq_left', exists_and_left, exists_and_right, List.cons.injEq, and_true, true_and, and_assoc, tAsg2, gSub, rSetDct]
    refine ⟨_, .inl (.inl hp), rfl, _, _, rfl, _, _, rfl, _, _, rfl, _, _, rfl, rfl, rfl, ?_⟩
    by_cases e : m.m = n
    · rw [e, decide_eq_true rfl]
      refine iteT ⟨_, DPut.k (k := .inr m.s) hk1 (by rw [sizeLine_eq]; omega), _, DPut.k (k := .inr m.e) upd_same (by have := len_put (k := (Sum.inr m.s : Key)) (v := V.bl true) hk2; rw [sizeLine_eq]; omega), ?_⟩
      refine ⟨fun b o eb => ?_, _, upd_same, ?_, ?_⟩
      · have nb := ne_of_none eb hd
        rw [upd_ne nb, upd_ne nb]
        exact s3 _ _ eb
      · have := len_put (k := (Sum.inr m.e : Key)) (v := V.bl true) (len_put (k := (Sum.inr m.s : Key)) (v := V.bl true) hk2)
        omega
      · rw [keys_put (keys_put hk3), e1, held_snoc, if_pos e, uniq_app]
        rfl
    · have e2 : ¬ V.str m.m = V.str n := fun z => e (V.str.inj z)
      rw [decide_eq_false e2]
      refine iteF ⟨s3, kvs, hk1, by omega, ?_⟩
      rw [e1, held_snoc, if_neg e, List.append_nil]
      exact hk3
  · obtain ⟨s3, ⟨kvs, hk1, hk2, hk3⟩, o3, o4, o5, o6, rfl⟩ := p
    rw [hxl, List.take_length] at hk3
    simp only [tSeq, tDrop, tVar, tC, tCall, tCons, tNil, tFld, sFld, sDPut, tDGet, tRet, tRetN, tIfS, tTest, tB, tNot, tAnd, tOr, tOp, tUn, rI0, rI, tNext, tDIn, tDNotIn, tDNewK, tIf, tAndV, tOrV, tNotV, tAsg, gName, gCons, gNil, gTup, tPar, tTup, tLst, tMeth, tCB, rEq, rNe, tBM, rAppend, tBM0, tChain, rIxL, rIxT, rIxS, rIx, L2.start, cxK, cxW, kV_inr, List.map_cons, List.map_nil, List.length_cons, List.length_nil, List.replicate, List.cons_append, List.nil_append, List.append_nil, List.getElem?_cons_zero, List.getElem?_cons_succ, List.set_cons_zero, List.set_cons_succ, Option.some.injEq, V.ref.injEq, V.str.injEq, V.int.injEq, V.bl.injEq, exists_eq, exists_eq', exists_eq_left, exists_eq_left', exists_and_left, exists_and_right, List.cons.injEq, and_true, true_and, and_assoc, rSortedS]
    refine ⟨kvs, .inl hk1, fun q hq => ?_⟩
    have e1 : kvs.map (fun kv => kV kv.1) = (uniq (held f mv n)).map V.str := by
      have e2 : kvs.map (fun kv => kV kv.1) = (kvs.map (·.1)).map kV := by rw [List.map_map]; rfl
      rw [e2, hk3, List.map_map]
      rfl
    have e3 : kvs.length = (uniq (held f mv n)).length := by
      have e4 := congrArg List.length hk3
      rw [List.length_map, List.length_map] at e4
      exact e4
    rw [e1]
    refine ⟨uniq (held f mv n), .inl (.inl upd_same), by omega, fun ys p hperm _ hp => ?_⟩
    refine k p _ _ (s3.trans ((Same.up hq).trans (Same.up hp))) upd_same ?_
    rw [List.length_map]
    exact hperm.length_eq
abbrev N_Lab_look_full : List Str := ["self", "name"]
theorem sc_Lab_look_full : FnScope N_Lab_look_full ["self"] (defScope s_Lab_look_full) := ⟨rfl, rfl, rfl, by decide +kernel, rfl, by decide +kernel, by decide +kernel⟩
theorem b_Lab_look_full : Bnd0 d_Lab_look_full.name d_Lab_look_full.qual d_Lab_look_full.params d_Lab_look_full.body d_Lab_look_full.scope ["self"] := fun _ _ _ _ _ _ us hl => match us, hl with | [_], _ => rfl
theorem ok_Lab_look_full (T : TX w K mg) : MetE P w K mg base 4 (He.ga K "Lab") "look_full" [] (spLookFull K) := by
  refine met_of T.fd_Lab_look_full T.m_Lab_look_full sc_Lab_look_full b_Lab_look_full (fun vs H Q E h => ?_) (fun cdv A outer s H vs Q E hr h => ?_)
  · obtain ⟨a, dx, d1, d2, l, ms, rs, mv, xs, rfl, _⟩ := h
    rfl
  obtain ⟨a, dx, d1, d2, l, ms, rs, mv, xs, rfl, ha, h1, h2, hl, hx, hg, k⟩ := h
  have nd := sc_Lab_look_full.nd
  have hu := hu_of hr
  refine ⟨_, (pss_cons (ps_if (PW.pt (pw_or (pt_cmpR op_gt (pe_callB call_lenD (by rfl) T.f_len PySem.boot_len (pa_cons (pe_fld (pv 0) rfl) pa_nil)) (pe_kint rfl T.i_MOST_MACHINES) (nomark _)) (pw_or (pt_cmpR op_gt (pe_callB call_lenD (by rfl) T.f_len PySem.boot_len (pa_cons (pe_fld (pv 0) rfl) pa_nil)) (pe_kint rfl T.i_MOST_ROWS) (nomark _)) (pw_or1 (pt_cmpR op_gt (pe_callB call_len_seq (by rfl) T.f_len PySem.boot_len (pa_cons (pe_fld (pv 0) rfl) pa_nil)) (pe_kint rfl T.i_MOST_MOVES) (nomark _))))))
      (pss_one (ps_raise rfl (takes_of rfl rfl rfl rfl) (pmk_err (ok_Full_init T) (hr.mono (by decide)) rfl)))
      pss_nil)
      (pss_one (ps_if (pt_val (pe_callB (cr_any rfl) (by rfl) T.f_any (by decide +kernel) (pa_cons (pe_lock (pe_lc (own := [("name", 1)]) (by rfl) nd (pi_keys (pe_fld (pv 0) rfl)) (blkOk_by (N := N_Lab_look_full) (sc := defScope s_Lab_look_full) (by decide +kernel)) (fun _ _ _ _ _ => (pg_name (i := 1) nd rfl (Or.inl rfl))) (fun _ _ _ _ _ => pts_nil) (fun _ _ _ _ _ => (pe_cmpR op_gt (pe_callB (call_len_seqK (K := K) rfl) (by rfl) T.f_len PySem.boot_len (pa_cons (pe_metE T.c_Lab (ok_Lab_stands_of T) (hr.mono (by decide)) passL (pv 0) (pa_cons (pv 1) pa_nil)) pa_nil)) (pe_kint rfl T.i_MOST_STANDS) (nomark _))))) pa_nil)))
      (pss_one (ps_raise rfl (takes_of rfl rfl rfl rfl) (pmk_err (ok_Full_init T) (hr.mono (by decide)) rfl)))
      pss_nil))), ?_⟩
  obtain ⟨k0, r1⟩ := Res.split k
  have hxl : xs.length = mv.length := by rw [hx.length, List.length_map]
  simp only [tSeq, tDrop, tVar, tC, tCall, tCons, tNil, tFld, sFld, sDPut, tDGet, tRet, tRetN, tIfS, tTest, tB, tNot, tAnd, tOr, tOp, tUn, rI0, rI, tNext, tDIn, tDNotIn, tDNewK, tIf, tAndV, tOrV, tNotV, tAsg, gName, gCons, gNil, gTup, tPar, tTup, tLst, tMeth, tCB, rEq, rNe, tBM, rAppend, tBM0, tChain, rIxL, rIxT, rIxS, rIx, L2.start, cxK, cxW, kV_inr, List.map_cons, List.map_nil, List.length_cons, List.length_nil, List.replicate, List.cons_append, List.nil_append, List.append_nil, List.getElem?_cons_zero, List.getElem?_cons_succ, List.set_cons_zero, List.set_cons_succ, Option.some.injEq, V.ref.injEq, V.str.injEq, V.int.injEq, V.bl.injEq, exists_eq, exists_eq', exists_eq_left, exists_eq_left', exists_and_left, exists_and_right, List.cons.injEq, and_true, true_and, and_assoc]
  have kf : ∀ b, (!(decide (3 < ms.length) || (decide (3 < rs.length) || decide (24 < mv.length)))) = b → (b = false → Refuse K "full" H E) := fun b e eb => r1 _ (by show okIf (!(decide (3 < ms.length) || (decide (3 < rs.length) || decide (24 < mv.length)))) "full" = _; rw [e, eb]; rfl)
  refine ⟨_, _, _, ha, T.c_Lab, T.n_Lab_firsts, _, rfl, d1, rfl, kvS ms, h1, ?_⟩
  rw [kvS_len]
  by_cases c1 : 3 < ms.length
  · rw [if_pos (decide_eq_true (show (3 : Int) < (ms.length : Int) by omega))]
    exact iteY ((kf _ (by rw [decide_eq_true c1]; rfl) rfl).go T.ie_Full)
  rw [if_neg (fun z => c1 (by have := of_decide_eq_true z; omega))]
  refine ⟨_, _, _, ha, T.c_Lab, T.n_Lab_words, _, rfl, d2, rfl, kvS rs, h2, ?_⟩
  rw [kvS_len]
  by_cases c2 : 3 < rs.length
  · rw [if_pos (decide_eq_true (show (3 : Int) < (rs.length : Int) by omega))]
    exact iteY ((kf _ (by rw [decide_eq_false c1, decide_eq_true c2]; rfl) rfl).go T.ie_Full)
  rw [if_neg (fun z => c2 (by have := of_decide_eq_true z; omega))]
  refine ⟨_, _, _, ha, T.c_Lab, T.n_Lab_steps, _, rfl, l, rfl, xs, .inl (.inl (.inl hl)), ?_⟩
  rw [hxl]
  by_cases c3 : 24 < mv.length
  · rw [if_pos (decide_eq_true (show (24 : Int) < (mv.length : Int) by omega))]
    exact (kf _ (by rw [decide_eq_false c1, decide_eq_false c2, decide_eq_true c3]; rfl) rfl).go T.ie_Full
  rw [if_neg (fun z => c3 (by have := of_decide_eq_true z; omega))]
  have k1 : Res K (okIf (!crowded ms mv) "full") (∀ H', Same H H' → Q .non H') H E := k0 (by show okIf (!(decide (3 < ms.length) || (decide (3 < rs.length) || decide (24 < mv.length)))) "full" = _; rw [decide_eq_false c1, decide_eq_false c2, decide_eq_false c3]; rfl)
  have keep : ∀ {od : Obj} {b : Addr} {o : HO}, b ≠ d1 → H b = some o → (upd H d1 (.frz od (.dK (kvS ms)))) b = some o := fun n e => by rw [upd_ne n]; exact e
  have na : a ≠ d1 := fun z => by rw [z, h1] at ha; cases ha
  have nl : l ≠ d1 := fun z => by rw [z, h1] at hl; cases hl
  refine ⟨d1, _, h1, trivial, fun od => ?_⟩
  refine ⟨_, rfl, a, _, dx, _, _, rfl, keep na ha, T.c_Lab, T.n_Lab_firsts, rfl, d1, od, rfl, .inl ⟨kvS ms, upd_same, fun L hL => ?_⟩⟩
  refine lc_acc0 (Qd := fun H' => _) walk_keys (fun i acc H' => Same (upd H d1 (.frz od (.dK (kvS ms)))) H' ∧ acc = (ms.take i).map fun p => V.bl (decide (6 < (uniq (held p.2 mv p.1)).length))) (by rw [kvS_len]; omega) hL ⟨Same.up hL, rfl⟩
    (fun i acc H' _ p => p.1 _ _ upd_same) (fun i acc H' p => by rw [p.2, List.length_map, List.length_take]; exact Nat.min_le_left _ _) (fun i acc H' H'' p kk => ⟨Same.keepL hL p.1 kk, p.2⟩) gName_mono (fun i x acc H1 H2 Kk hi p _ y kk => ?_) (fun acc H1 p hacc => ?_)
  · obtain ⟨rfl, q, v, hq, rfl⟩ := y
    obtain ⟨s1, hac⟩ := p
    rw [kvS_len] at hi
    have hq1 : (kvS ms)[i]? = some (.inr (ms[i]).1, .str (ms[i]).2) := by
      unfold kvS
      rw [List.getElem?_map, List.getElem?_eq_getElem hi]
      rfl
    rw [hq1] at hq
    cases hq
    refine ⟨rfl, ?_⟩
    simp only [tSeq, tDrop, tVar, tC, tCall, tCons, tNil, tFld, sFld, sDPut, tDGet, tRet, tRetN, tIfS, tTest, tB, tNot, tAnd, tOr, tOp, tUn, rI0, rI, tNext, tDIn, tDNotIn, tDNewK, tIf, tAndV, tOrV, tNotV, tAsg, gName, gCons, gNil, gTup, tPar, tTup, tLst, tMeth, tCB, rEq, rNe, tBM, rAppend, tBM0, tChain, rIxL, rIxT, rIxS, rIx, L2.start, cxK, cxW, kV_inr, List.map_cons, List.map_nil, List.length_cons, List.length_nil, List.replicate, List.cons_append, List.nil_append, List.append_nil, List.getElem?_cons_zero, List.getElem?_cons_succ, List.set_cons_zero, List.set_cons_succ, Option.some.injEq, V.ref.injEq, V.str.injEq, V.int.injEq, V.bl.injEq, exists_eq, exists_eq', exists_eq_left, exists_eq_left', exists_and_left, exists_and_right, List.cons.injEq, and_true, true_and, and_assoc, wipe]
    have hm : ms[i] ∈ ms := List.getElem_mem hi
    have ha' := s1 _ _ (keep (od := od) na ha)
    have hl' := s1 _ _ (keep (od := od) nl hl)
    have h1' := s1 _ _ (upd_same (H := H) (a := d1) (o := HO.frz od (.dK (kvS ms))))
    have hx' : DAs [] H2 xs (mv.map Mv.d) := (hx.keepD (KeepD.frz h1)).keep (Keep.of s1)
    refine ⟨dx, _, ha', rfl, a, dx, d1, d2, l, (ms[i]).1, (ms[i]).2, ms, mv, xs, rfl, ha', .inr ⟨od, h1'⟩, hl', hx', hg _ hm, by omega, fun p ys H3 s3 hp hy => ⟨p, rfl, ys, .inl (.inl (.inl hp)), ?_⟩⟩
    refine kk _ _ (Keep.of s3) ⟨s1.trans s3, ?_⟩
    rw [take_succ_get (List.getElem?_eq_getElem hi), List.map_append, hac, hy]
    show _ ++ [V.bl (decide ((6 : Int) < ((uniq (held ms[i].2 mv ms[i].1)).length : Int)))] = _
    congr 3
    exact decide_eq_decide.mpr (by omega)
  · have e : (kvS ms).length = ms.length := kvS_len ms
    rw [e, List.take_length] at p
    refine ⟨p.1 _ _ upd_same, L, ms.map (fun p => decide (6 < (uniq (held p.2 mv p.1)).length)), rfl, ?_, _, rfl, ?_⟩
    · refine .inl (.inl ?_)
      rw [upd_ne (fun z => by rw [z] at hacc; rw [p.1 _ _ upd_same] at hacc; cases hacc), hacc, p.2, List.map_map]
      rfl
    · have e2 : (ms.map (fun p => decide (6 < (uniq (held p.2 mv p.1)).length))).any id = crowded ms mv := by rw [List.any_map]; rfl
      rw [e2]
      have sN : Same H (upd H1 d1 (.dK (kvS ms))) := Same.unlock h1 p.1
      cases hc : crowded ms mv with
      | true =>
        rw [hc] at k1
        exact iteT ((k1.no rfl).mono sN |>.go T.ie_Full)
      | false =>
        rw [hc] at k1
        exact iteF (k1.yes rfl _ sN)
end
end K51


set_option Elab.async false
set_option linter.all false
set_option maxRecDepth 100000
set_option maxHeartbeats 4000000
set_option pp.deepTerms true
set_option pp.maxSteps 100000
namespace K51
open PySem PySem.Spec PyProof.Rows L2
/-! ### a lab that is made -/
def fs5 (d1 d2 l n1 n2 : Addr) : List (Str × V) := [("firsts", .ref d1), ("words", .ref d2), ("steps", .ref l), ("names", .ref n1), ("row_names", .ref n2)]
structure PLabA (K : PySem.W.Frag) (M : List Addr) (H : Hp) (a dx d1 d2 l n1 n2 : Addr) (xs : List V) (L : Lab) : Prop where
  ins : H a = some (.ins (He.ga K "Lab") dx (fs5 d1 d2 l n1 n2))
  h1 : H d1 = some (.dK (kvS L.ms))
  h2 : H d2 = some (.dK (kvS L.rs))
  hl : H l = some (.lst xs)
  hx : DAs M H xs (L.mv.map Mv.d)
  hn1 : H n1 = some (.lst (L.ms.map fun p => V.str p.1))
  hn2 : H n2 = some (.lst (L.rs.map fun p => V.str p.1))
  m0 : a ∉ M
  m1 : d1 ∉ M
  m2 : d2 ∉ M
  m3 : l ∉ M
  m4 : n1 ∉ M
  m5 : n2 ∉ M
def PLab (K : PySem.W.Frag) (M : List Addr) (H : Hp) (v : V) (L : Lab) : Prop := ∃ a dx d1 d2 l n1 n2 xs, v = .ref a ∧ PLabA K M H a dx d1 d2 l n1 n2 xs L
theorem PLabA.keep {K : PySem.W.Frag} {M : List Addr} {H H' : Hp} {a dx d1 d2 l n1 n2 : Addr} {xs : List V} {L : Lab} (h : PLabA K M H a dx d1 d2 l n1 n2 xs L) (k : Keep M H H') : PLabA K M H' a dx d1 d2 l n1 n2 xs L :=
  ⟨k _ _ h.m0 h.ins, k _ _ h.m1 h.h1, k _ _ h.m2 h.h2, k _ _ h.m3 h.hl, h.hx.keep k, k _ _ h.m4 h.hn1, k _ _ h.m5 h.hn2, h.m0, h.m1, h.m2, h.m3, h.m4, h.m5⟩
theorem PLab.keep {K : PySem.W.Frag} {M : List Addr} {H H' : Hp} {v : V} {L : Lab} (h : PLab K M H v L) (k : Keep M H H') : PLab K M H' v L := by
  obtain ⟨a, dx, d1, d2, l, n1, n2, xs, e, h⟩ := h
  exact ⟨a, dx, d1, d2, l, n1, n2, xs, e, h.keep k⟩
/-- each name stands once -/
def OnceK {α : Type} (l : List (Str × α)) : Prop := ∀ p ∈ l, getK p.1 l = some p.2
def spMachines (K : PySem.W.Frag) (f : Lab → List (Str × Str)) : Sp := fun vs H Q _ => ∃ (M : List Addr) (v : V) (L : Lab), vs = [v] ∧ PLab K M H v L ∧ OnceK (f L) ∧ (f L).length ≤ 900 ∧ Trk M H ∧
  ∀ H' p xs, Same H H' → p ∉ M → H' p = some (.lst xs) → DAs M H' xs ((f L).map pairD) → Q (.ref p) H'
def spMoves (K : PySem.W.Frag) : Sp := fun vs H Q _ => ∃ (M : List Addr) (v : V) (L : Lab), vs = [v] ∧ PLab K M H v L ∧ L.mv.length ≤ 900 ∧ Trk M H ∧
  ∀ H' p xs, Same H H' → H p = none → H' p = some (.lst xs) → DAs M H xs (L.mv.map Mv.d) → Q (.ref p) H'
def inB (i : Int) (n : Nat) : Bool := decide (0 ≤ i) && decide (i < (n : Int))
def spMoveAt (K : PySem.W.Frag) : Sp := fun vs H Q E => ∃ (M : List Addr) (v : V) (L : Lab) (i : Int), vs = [v, .int i] ∧ PLab K M H v L ∧ L.mv.length ≤ 900 ∧ Res K (okIf (inB i L.mv.length) "nomove") (∀ v, Q v H) H E
section
variable {P : Program} {w : World} {K : PySem.W.Frag} {mg : Str → Option Value} {base : Heap}
abbrev N_Lab_machines : List Str := ["self", "name"]
theorem sc_Lab_machines : FnScope N_Lab_machines ["self"] (defScope s_Lab_machines) := ⟨rfl, rfl, rfl, by decide +kernel, rfl, by decide +kernel, by decide +kernel⟩
theorem b_Lab_machines : Bnd0 d_Lab_machines.name d_Lab_machines.qual d_Lab_machines.params d_Lab_machines.body d_Lab_machines.scope ["self"] := fun _ _ _ _ _ _ us hl => match us, hl with | [_], _ => rfl
theorem ok_Lab_machines (T : TX w K mg) : MetE P w K mg base 1 (He.ga K "Lab") "machines" [] (spMachines K Lab.ms) := by
  refine met_of T.fd_Lab_machines T.m_Lab_machines sc_Lab_machines b_Lab_machines (fun vs H Q E h => ?_) (fun cdv A outer s H vs Q E hr h => ?_)
  · obtain ⟨M, v, L, rfl, _⟩ := h
    rfl
  obtain ⟨M, v, L, rfl, ⟨a, dx, d1, d2, l, n1, n2, xs, rfl, p⟩, hg, hn, tM, k⟩ := h
  have nd := sc_Lab_machines.nd
  have hu := hu_of hr
  refine ⟨_, (pss_one (ps_ret (pe_lc (own := [("name", 1)]) (by rfl) nd (pi_list (pe_fld (pv 0) rfl)) (blkOk_by (N := N_Lab_machines) (sc := defScope s_Lab_machines) (by decide +kernel)) (fun _ _ _ _ _ => (pg_name (i := 1) nd rfl (Or.inl rfl))) (fun _ _ _ _ _ => pts_nil) (fun _ _ _ _ _ => (pe_tup (pa_cons (pv 1) (pa_cons (pe_dget hu (pe_fldK (K := K) rfl (pv 0) rfl) (pv 1) (fun _ _ => rfl)) pa_nil))))))), ?_⟩
  refine ⟨_, rfl, a, _, dx, _, _, rfl, p.ins, T.c_Lab, T.n_Lab_names, rfl, n1, rfl, ⟨_, .inl (.inl p.hn1)⟩, fun D hD => ?_⟩
  refine lc_acc0 (Qd := fun H' => _) (walk_list (xs := L.ms.map fun p => V.str p.1)) (fun i acc H' => Same H H' ∧ DAs (D :: M) H' acc ((L.ms.take i).map pairD)) (by rw [List.length_map]; omega) hD ⟨Same.up hD, DAs.nil⟩
    (fun i acc H' _ q => .inl (.inl (q.1 _ _ p.hn1))) (fun i acc H' q => by rw [q.2.length, List.length_map, List.length_take]; exact Nat.min_le_left _ _) (fun i acc H' H'' q kk => ⟨Same.keepL hD q.1 kk, q.2.keep (kk.sub (by simp))⟩) gName_mono (fun i x acc H1 H2 Kk hi q eD y kk => ?_) (fun acc H1 q hacc => ?_)
  · obtain ⟨rfl, hy⟩ := y
    obtain ⟨s1, hacc⟩ := q
    rw [List.getElem?_map] at hy
    rw [List.length_map] at hi
    rw [List.getElem?_eq_getElem hi] at hy
    have hy : V.str (L.ms[i]).1 = x := Option.some.inj hy
    subst hy
    have hm : L.ms[i] ∈ L.ms := List.getElem_mem hi
    refine ⟨rfl, ?_⟩
    simp only [tSeq, tDrop, tVar, tC, tCall, tCons, tNil, tFld, sFld, sDPut, tDGet, tRet, tRetN, tIfS, tTest, tB, tNot, tAnd, tOr, tOp, tUn, rI0, rI, tNext, tDIn, tDNotIn, tDNewK, tIf, tAndV, tOrV, tNotV, tAsg, gName, gCons, gNil, gTup, tPar, tTup, tLst, tMeth, tCB, rEq, rNe, tBM, rAppend, tBM0, tChain, rIxL, rIxT, rIxS, rIx, L2.start, cxK, cxW, kV_inr, List.map_cons, List.map_nil, List.length_cons, List.length_nil, List.replicate, List.cons_append, List.nil_append, List.append_nil, List.getElem?_cons_zero, List.getElem?_cons_succ, List.set_cons_zero, List.set_cons_succ, Option.some.injEq, V.ref.injEq, V.str.injEq, V.int.injEq, V.bl.injEq, exists_eq, exists_eq', exists_eq_left, exists_eq_left', exists_and_left, exists_and_right, List.cons.injEq, and_true, true_and, and_assoc, wipe]
    refine ⟨_, _, _, s1 _ _ p.ins, T.c_Lab, T.n_Lab_firsts, _, rfl, d1, rfl, .str (L.ms[i]).2, ?_, by rw [sizeLine_eq]; omega, fun t ht => ?_⟩
    · have e : valV (kvS L.ms) (Sum.inr (L.ms[i]).1) = some (.str (L.ms[i]).2) := by rw [valV_kvS, hg _ hm]; rfl
      rw [← e]
      exact DGet.k (k := .inr (L.ms[i]).1) (s1 _ _ p.h1)
    · have tD : Trk (D :: M) H2 := fun b hb => (List.mem_cons.mp hb).elim (fun e => by rw [e]; exact eD) fun e => tM.same s1 b e
      have s2 := Same.up (o := .tup [.str (L.ms[i]).1, .str (L.ms[i]).2]) ht
      refine kk _ _ (Keep.of s2) ⟨s1.trans s2, ?_⟩
      rw [take_succ_get (List.getElem?_eq_getElem hi), List.map_append]
      exact (hacc.keep (Keep.of s2)).append (DAs.cons (DA.tup2' (tD.new ht) upd_same) DAs.nil)
  · obtain ⟨s1, ha⟩ := q
    rw [List.length_map, List.take_length] at ha
    exact k _ _ _ s1 (tM.new hD) hacc (ha.sub fun _ h => List.mem_cons_of_mem _ h)
abbrev N_Lab_rows : List Str := ["self", "name"]
theorem sc_Lab_rows : FnScope N_Lab_rows ["self"] (defScope s_Lab_rows) := ⟨rfl, rfl, rfl, by decide +kernel, rfl, by decide +kernel, by decide +kernel⟩
theorem b_Lab_rows : Bnd0 d_Lab_rows.name d_Lab_rows.qual d_Lab_rows.params d_Lab_rows.body d_Lab_rows.scope ["self"] := fun _ _ _ _ _ _ us hl => match us, hl with | [_], _ => rfl
theorem ok_Lab_rows (T : TX w K mg) : MetE P w K mg base 1 (He.ga K "Lab") "rows" [] (spMachines K Lab.rs) := by
  refine met_of T.fd_Lab_rows T.m_Lab_rows sc_Lab_rows b_Lab_rows (fun vs H Q E h => ?_) (fun cdv A outer s H vs Q E hr h => ?_)
  · obtain ⟨M, v, L, rfl, _⟩ := h
    rfl
  obtain ⟨M, v, L, rfl, ⟨a, dx, d1, d2, l, n1, n2, xs, rfl, p⟩, hg, hn, tM, k⟩ := h
  have nd := sc_Lab_rows.nd
  have hu := hu_of hr
  refine ⟨_, (pss_one (ps_ret (pe_lc (own := [("name", 1)]) (by rfl) nd (pi_list (pe_fld (pv 0) rfl)) (blkOk_by (N := N_Lab_rows) (sc := defScope s_Lab_rows) (by decide +kernel)) (fun _ _ _ _ _ => (pg_name (i := 1) nd rfl (Or.inl rfl))) (fun _ _ _ _ _ => pts_nil) (fun _ _ _ _ _ => (pe_tup (pa_cons (pv 1) (pa_cons (pe_dget hu (pe_fldK (K := K) rfl (pv 0) rfl) (pv 1) (fun _ _ => rfl)) pa_nil))))))), ?_⟩
  refine ⟨_, rfl, a, _, dx, _, _, rfl, p.ins, T.c_Lab, T.n_Lab_row_names, rfl, n2, rfl, ⟨_, .inl (.inl p.hn2)⟩, fun D hD => ?_⟩
  refine lc_acc0 (Qd := fun H' => _) (walk_list (xs := L.rs.map fun p => V.str p.1)) (fun i acc H' => Same H H' ∧ DAs (D :: M) H' acc ((L.rs.take i).map pairD)) (by rw [List.length_map]; omega) hD ⟨Same.up hD, DAs.nil⟩
    (fun i acc H' _ q => .inl (.inl (q.1 _ _ p.hn2))) (fun i acc H' q => by rw [q.2.length, List.length_map, List.length_take]; exact Nat.min_le_left _ _) (fun i acc H' H'' q kk => ⟨Same.keepL hD q.1 kk, q.2.keep (kk.sub (by simp))⟩) gName_mono (fun i x acc H1 H2 Kk hi q eD y kk => ?_) (fun acc H1 q hacc => ?_)
  · obtain ⟨rfl, hy⟩ := y
    obtain ⟨s1, hacc⟩ := q
    rw [List.getElem?_map] at hy
    rw [List.length_map] at hi
    rw [List.getElem?_eq_getElem hi] at hy
    have hy : V.str (L.rs[i]).1 = x := Option.some.inj hy
    subst hy
    have hm : L.rs[i] ∈ L.rs := List.getElem_mem hi
    refine ⟨rfl, ?_⟩
    simp only [tSeq, tDrop, tVar, tC, tCall, tCons, tNil, tFld, sFld, sDPut, tDGet, tRet, tRetN, tIfS, tTest, tB, tNot, tAnd, tOr, tOp, tUn, rI0, rI, tNext, tDIn, tDNotIn, tDNewK, tIf, tAndV, tOrV, tNotV, tAsg, gName, gCons, gNil, gTup, tPar, tTup, tLst, tMeth, tCB, rEq, rNe, tBM, rAppend, tBM0, tChain, rIxL, rIxT, rIxS, rIx, L2.start, cxK, cxW, kV_inr, List.map_cons, List.map_nil, List.length_cons, List.length_nil, List.replicate, List.cons_append, List.nil_append, List.append_nil, List.getElem?_cons_zero, List.getElem?_cons_succ, List.set_cons_zero, List.set_cons_succ, Option.some.injEq, V.ref.injEq, V.str.injEq, V.int.injEq, V.bl.injEq, exists_eq, exists_eq', exists_eq_left, exists_eq_left', exists_and_left, exists_and_right, List.cons.injEq, and_true, true_and, and_assoc, wipe]
    refine ⟨_, _, _, s1 _ _ p.ins, T.c_Lab, T.n_Lab_words, _, rfl, d2, rfl, .str (L.rs[i]).2, ?_, by rw [sizeLine_eq]; omega, fun t ht => ?_⟩
    · have e : valV (kvS L.rs) (Sum.inr (L.rs[i]).1) = some (.str (L.rs[i]).2) := by rw [valV_kvS, hg _ hm]; rfl
      rw [← e]
      exact DGet.k (k := .inr (L.rs[i]).1) (s1 _ _ p.h2)
    · have tD : Trk (D :: M) H2 := fun b hb => (List.mem_cons.mp hb).elim (fun e => by rw [e]; exact eD) fun e => tM.same s1 b e
      have s2 := Same.up (o := .tup [.str (L.rs[i]).1, .str (L.rs[i]).2]) ht
      refine kk _ _ (Keep.of s2) ⟨s1.trans s2, ?_⟩
      rw [take_succ_get (List.getElem?_eq_getElem hi), List.map_append]
      exact (hacc.keep (Keep.of s2)).append (DAs.cons (DA.tup2' (tD.new ht) upd_same) DAs.nil)
  · obtain ⟨s1, ha⟩ := q
    rw [List.length_map, List.take_length] at ha
    exact k _ _ _ s1 (tM.new hD) hacc (ha.sub fun _ h => List.mem_cons_of_mem _ h)
abbrev N_Lab_moves : List Str := ["self"]
theorem sc_Lab_moves : FnScope N_Lab_moves ["self"] (defScope s_Lab_moves) := ⟨rfl, rfl, rfl, by decide +kernel, rfl, by decide +kernel, by decide +kernel⟩
theorem b_Lab_moves : Bnd0 d_Lab_moves.name d_Lab_moves.qual d_Lab_moves.params d_Lab_moves.body d_Lab_moves.scope ["self"] := fun _ _ _ _ _ _ us hl => match us, hl with | [_], _ => rfl
theorem ok_Lab_moves (T : TX w K mg) : MetE P w K mg base 1 (He.ga K "Lab") "moves" [] (spMoves K) := by
  refine met_of T.fd_Lab_moves T.m_Lab_moves sc_Lab_moves b_Lab_moves (fun vs H Q E h => ?_) (fun cdv A outer s H vs Q E hr h => ?_)
  · obtain ⟨M, v, L, rfl, _⟩ := h
    rfl
  obtain ⟨M, v, L, rfl, ⟨a, dx, d1, d2, l, n1, n2, xs, rfl, p⟩, hn, tM, k⟩ := h
  have nd := sc_Lab_moves.nd
  refine ⟨_, (pss_one (ps_ret (pe_callTy call_list_of (by rfl) T.f_list (by decide +kernel) (pa_cons (pe_fld (pv 0) rfl) pa_nil)))), ?_⟩
  simp only [tSeq, tDrop, tVar, tC, tCall, tCons, tNil, tFld, sFld, sDPut, tDGet, tRet, tRetN, tIfS, tTest, tB, tNot, tAnd, tOr, tOp, tUn, rI0, rI, tNext, tDIn, tDNotIn, tDNewK, tIf, tAndV, tOrV, tNotV, tAsg, gName, gCons, gNil, gTup, tPar, tTup, tLst, tMeth, tCB, rEq, rNe, tBM, rAppend, tBM0, tChain, rIxL, rIxT, rIxS, rIx, L2.start, cxK, cxW, kV_inr, List.map_cons, List.map_nil, List.length_cons, List.length_nil, List.replicate, List.cons_append, List.nil_append, List.append_nil, List.getElem?_cons_zero, List.getElem?_cons_succ, List.set_cons_zero, List.set_cons_succ, Option.some.injEq, V.ref.injEq, V.str.injEq, V.int.injEq, V.bl.injEq, exists_eq, exists_eq', exists_eq_left, exists_eq_left', exists_and_left, exists_and_right, List.cons.injEq, and_true, true_and, and_assoc]
  refine ⟨_, _, _, p.ins, T.c_Lab, T.n_Lab_steps, _, rfl, l, rfl, xs, .inl (.inl (.inl p.hl)), fun q hq => ?_⟩
  have s1 := Same.up (o := .lst xs) hq
  exact k _ _ _ s1 hq upd_same p.hx
abbrev N_Lab_move_at : List Str := ["self", "place"]
theorem sc_Lab_move_at : FnScope N_Lab_move_at ["self", "place"] (defScope s_Lab_move_at) := ⟨rfl, rfl, rfl, by decide +kernel, rfl, by decide +kernel, by decide +kernel⟩
theorem b_Lab_move_at : Bnd0 d_Lab_move_at.name d_Lab_move_at.qual d_Lab_move_at.params d_Lab_move_at.body d_Lab_move_at.scope ["self", "place"] := fun _ _ _ _ _ _ us hl => match us, hl with | [_, _], _ => rfl
theorem ok_Lab_move_at (T : TX w K mg) : MetE P w K mg base 4 (He.ga K "Lab") "move_at" [] (spMoveAt K) := by
  refine met_of T.fd_Lab_move_at T.m_Lab_move_at sc_Lab_move_at b_Lab_move_at (fun vs H Q E h => ?_) (fun cdv A outer s H vs Q E hr h => ?_)
  · obtain ⟨M, v, L, i, rfl, _⟩ := h
    rfl
  obtain ⟨M, v, L, i, rfl, ⟨a, dx, d1, d2, l, n1, n2, xs, rfl, p⟩, hn, k⟩ := h
  have nd := sc_Lab_move_at.nd
  have hxl : xs.length = L.mv.length := by rw [p.hx.length, List.length_map]
  refine ⟨_, (pss_cons (ps_if (pt_not (pt_chain op_le op_lt pe_int (pv 1) (pe_callB call_len_seq (by rfl) T.f_len PySem.boot_len (pa_cons (pe_fld (pv 0) rfl) pa_nil))))
      (pss_one (ps_raise rfl (takes_of rfl rfl rfl rfl) (pmk_err (ok_NoMove_init T) (hr.mono (by decide)) rfl)))
      pss_nil)
      (pss_one (ps_ret (pe_ix ix_list (pe_fld (pv 0) rfl) (pv 1) (fun _ _ => rfl))))), ?_⟩
  simp only [tSeq, tDrop, tVar, tC, tCall, tCons, tNil, tFld, sFld, sDPut, tDGet, tRet, tRetN, tIfS, tTest, tB, tNot, tAnd, tOr, tOp, tUn, rI0, rI, tNext, tDIn, tDNotIn, tDNewK, tIf, tAndV, tOrV, tNotV, tAsg, gName, gCons, gNil, gTup, tPar, tTup, tLst, tMeth, tCB, rEq, rNe, tBM, rAppend, tBM0, tChain, rIxL, rIxT, rIxS, rIx, L2.start, cxK, cxW, kV_inr, List.map_cons, List.map_nil, List.length_cons, List.length_nil, List.replicate, List.cons_append, List.nil_append, List.append_nil, List.getElem?_cons_zero, List.getElem?_cons_succ, List.set_cons_zero, List.set_cons_succ, Option.some.injEq, V.ref.injEq, V.str.injEq, V.int.injEq, V.bl.injEq, exists_eq, exists_eq', exists_eq_left, exists_eq_left', exists_and_left, exists_and_right, List.cons.injEq, and_true, true_and, and_assoc]
  by_cases c1 : 0 ≤ i
  · rw [if_pos (decide_eq_true c1)]
    refine ⟨_, _, _, p.ins, T.c_Lab, T.n_Lab_steps, _, rfl, l, rfl, xs, .inl (.inl (.inl p.hl)), ?_⟩
    by_cases c2 : i < (L.mv.length : Int)
    · have e : inB i L.mv.length = true := by unfold inB; rw [decide_eq_true c1, decide_eq_true c2]; rfl
      rw [e] at k
      rw [hxl, decide_eq_true c2]
      have hv : i.toNat < xs.length := by omega
      refine iteF ⟨_, _, _, p.ins, T.c_Lab, T.n_Lab_steps, _, rfl, l, rfl, xs, .inl (.inl p.hl), xs[i.toNat], ?_, k _⟩
      exact at_of (j := i.toNat) (by omega) (List.getElem?_eq_getElem hv)
    · have e : inB i L.mv.length = false := by unfold inB; rw [decide_eq_true c1, decide_eq_false c2]; rfl
      rw [e] at k
      rw [hxl, decide_eq_false c2]
      exact iteT (Refuse.go k T.ie_NoMove)
  · have e : inB i L.mv.length = false := by unfold inB; rw [decide_eq_false c1]; rfl
    rw [e] at k
    rw [if_neg (fun z => c1 (of_decide_eq_true z))]
    exact iteT (Refuse.go k T.ie_NoMove)
end
end K51


set_option Elab.async false
set_option linter.all false
set_option maxRecDepth 100000
set_option maxHeartbeats 4000000
set_option pp.deepTerms true
set_option pp.maxSteps 100000
namespace K51
open PySem PySem.Spec PyProof.Rows L2
/-! ### Lab(..) -/
theorem Keep.new {M : List Addr} {H H1 H2 : Hp} {d : Addr} (k : Keep M H H1) (n : H d = none) (k2 : Keep [d] H1 H2) : Keep M H H2 := fun b o nb e => k2 b o (by simp; exact ne_of_none e n) (k b o nb e)
theorem DAs.getP {M : List Addr} {H : Hp} {xs : List V} {l : List (Str × Str)} {i : Nat} {x : V} (h : DAs M H xs (l.map pairD)) (e : xs[i]? = some x) : ∃ q p, l[i]? = some q ∧ x = .ref p ∧ p ∉ M ∧ H p = some (.tup [.str q.1, .str q.2]) := by
  obtain ⟨d, h1, h2⟩ := h.get e
  rw [List.getElem?_map] at h1
  cases e2 : l[i]? with
  | none => rw [e2] at h1; cases h1
  | some q =>
    rw [e2] at h1
    have h1 : pairD q = d := Option.some.inj h1
    subst h1
    obtain ⟨p, hp⟩ := h2.tup2
    exact ⟨q, p, rfl, hp⟩
theorem drop_get {α : Type} {l : List α} {i : Nat} {x : α} (h : l[i]? = some x) : l.drop i = x :: l.drop (i + 1) := by
  obtain ⟨hi, e⟩ := List.getElem?_eq_some_iff.mp h
  rw [List.drop_eq_getElem_cons hi, e]
theorem chkMs_at {l : List (Str × Str)} {i : Nat} {x : Str × Str} (h : l[i]? = some x) : chkMs (l.take i) (l.drop i) = thn1 (chkM (l.take i) x) (chkMs (l.take (i + 1)) (l.drop (i + 1))) := by
  rw [drop_get h, take_succ_get h]
  rfl
theorem chkRs_at {l : List (Str × Str)} {i : Nat} {x : Str × Str} (h : l[i]? = some x) : chkRs (l.take i) (l.drop i) = thn1 (chkR (l.take i) x) (chkRs (l.take (i + 1)) (l.drop (i + 1))) := by
  rw [drop_get h, take_succ_get h]
  rfl
theorem chkVs_at {ms rs : List (Str × Str)} {l : List Mv} {i : Nat} {x : Mv} (h : l[i]? = some x) : chkVs ms rs (l.drop i) = thn1 (chkV ms rs x) (chkVs ms rs (l.drop (i + 1))) := by
  rw [drop_get h]
  rfl
theorem thn1_l {a b : Option Str} {wd : Str} (h : a = some wd) : thn1 a b = some wd := by rw [h]; rfl
theorem thn1_r {a b : Option Str} (h : a = none) : thn1 a b = b := by rw [h]; rfl
theorem once_of : ∀ {l d : List (Str × Str)}, chkMs d l = none → OnceK d → OnceK (d ++ l) := by
  intro l
  induction l with
  | nil => intro d _ o; rw [List.append_nil]; exact o
  | cons x r ih =>
    intro d h o
    have h : thn1 (chkM d x) (chkMs (d ++ [x]) r) = none := h
    cases hc : chkM d x with
    | some wd => rw [hc] at h; cases h
    | none =>
      rw [hc] at h
      have hx : hasK x.1 d = false := by
        unfold chkM at hc
        cases h1 : okIf (isName x.1) "badname" with
        | some _ => rw [h1] at hc; cases hc
        | none =>
          rw [h1] at hc
          cases h2 : okIf (isName x.2) "badname" with
          | some _ => rw [h2] at hc; cases hc
          | none =>
            rw [h2] at hc
            have := okIf_none (show okIf (!hasK x.1 d) "taken" = none from hc)
            simpa using this
      have e : d ++ x :: r = (d ++ [x]) ++ r := by simp
      rw [e]
      refine ih h fun p hp => ?_
      unfold getK at *
      rw [List.find?_append]
      rcases List.mem_append.mp hp with hp | hp
      · have o1 := o p hp
        unfold getK at o1
        cases hf : d.find? fun q => decide (q.1 = p.1) with
        | none => rw [hf] at o1; cases o1
        | some q => rw [hf] at o1; exact o1
      · have hp : p = x := by simpa using hp
        subst hp
        have hn : d.find? (fun q => decide (q.1 = p.1)) = none := by
          rw [List.find?_eq_none]
          intro q hq hd
          have : hasK p.1 d = true := List.any_eq_true.mpr ⟨q, hq, hd⟩
          rw [hx] at this
          cases this
        rw [hn]
        simp
theorem up_none {H : Hp} {a b : Addr} {o : HO} (e : upd H a o b = none) : H b = none ∧ b ≠ a := by
  by_cases z : b = a
  · subst z
    rw [upd_same] at e
    cases e
  · rw [upd_ne z] at e
    exact ⟨e, z⟩
theorem kvS_names (l : List (Str × Str)) : (kvS l).map (fun kv => kV kv.1) = l.map fun p => V.str p.1 := by
  unfold kvS
  rw [List.map_map]
  rfl
section
variable {M : List Addr} {H : Hp} {l : Addr}
mutual
theorem DA.fresh (n : H l = none) : ∀ {v : V} {d : D}, DA M H v d → DA (l :: M) H v d
  | v, .non, h => by unfold DA at h ⊢; exact h
  | v, .bl b, h => by unfold DA at h ⊢; exact h
  | v, .int i, h => by unfold DA at h ⊢; exact h
  | v, .str s, h => by unfold DA at h ⊢; exact h
  | v, .lst ds, h => by
    unfold DA at h ⊢
    obtain ⟨a, xs, e, na, ha, hs⟩ := h
    exact ⟨a, xs, e, by simp; exact ⟨ne_of_none ha n, na⟩, ha, DAs.fresh n hs⟩
  | v, .tup ds, h => by
    unfold DA at h ⊢
    obtain ⟨a, xs, e, na, ha, hs⟩ := h
    exact ⟨a, xs, e, by simp; exact ⟨ne_of_none ha n, na⟩, ha, DAs.fresh n hs⟩
theorem DAs.fresh (n : H l = none) : ∀ {xs : List V} {ds : List D}, DAs M H xs ds → DAs (l :: M) H xs ds
  | [], [], _ => by unfold DAs; trivial
  | x :: xs, d :: ds, h => by
    unfold DAs at h ⊢
    exact ⟨DA.fresh n h.1, DAs.fresh n h.2⟩
  | [], _ :: _, h => by unfold DAs at h; exact h.elim
  | _ :: _, [], h => by unfold DAs at h; exact h.elim
end
end
theorem Keep.insD {M : List Addr} {H H' : Hp} {a C dx : Addr} {fs : List (Str × V)} (k : Keep [a] H H') (e : H a = some (.ins C dx fs)) : KeepD M H H' :=
  ⟨fun b xs _ h => k b _ (by simp; intro z; rw [z, e] at h; cases h) h, fun b xs _ h => k b _ (by simp; intro z; rw [z, e] at h; cases h) h⟩
def spLabInitX (K : PySem.W.Frag) (Sq : PySem.W.Frag → Hp → Addr → List V → Prop) : Sp := fun vs H Q E => ∃ (M : List Addr) (a dx mp rp vp : Addr) (mxs rxs vxs : List V) (L : Lab), vs = [.ref a, .ref mp, .ref rp, .ref vp] ∧ a ∉ M ∧ Trk M H ∧ H a = some (.ins (He.ga K "Lab") dx []) ∧
  (∀ H' l, H l = none → KeepD (a :: l :: M) H H' → Sq K H' mp mxs ∧ Sq K H' rp rxs ∧ Sq K H' vp vxs) ∧ DAs M H mxs (L.ms.map pairD) ∧ DAs M H rxs (L.rs.map pairD) ∧ DAs M H vxs (L.mv.map Mv.d) ∧ ShortP L.ms ∧ ShortP L.rs ∧ ShortV L.mv ∧
  (chkLab L = none → ∀ H', Keep [a] H H' → PLab K M H' (.ref a) L → Q .non H') ∧ (∀ wd, chkLab L = some wd → RefuseM [a] K wd H E)
section
variable {P : Program} {w : World} {K : PySem.W.Frag} {mg : Str → Option Value} {base : Heap}
abbrev N_Lab_init : List Str := ["self", "machines", "rows", "moves", "name", "first", "word", "move"]
theorem sc_Lab_init : FnScope N_Lab_init ["self", "machines", "rows", "moves"] (defScope s_Lab_init) := ⟨rfl, rfl, rfl, by decide +kernel, rfl, by decide +kernel, by decide +kernel⟩
theorem b_Lab_init : Bnd0 d_Lab_init.name d_Lab_init.qual d_Lab_init.params d_Lab_init.body d_Lab_init.scope ["self", "machines", "rows", "moves"] := fun _ _ _ _ _ _ us hl => match us, hl with | [_, _, _, _], _ => rfl
theorem body_Lab_initL (T : TX w K mg) (f : Addr) : Body P w K mg base 6 N_Lab_init d_Lab_init.qual d_Lab_init.body d_Lab_init.scope f (spLabInitX K SqL) := by
  intro cdv A outer s H vs Q E hr h
  obtain ⟨M, a, dx, mp, rp, vp, mxs, rxs, vxs, L, rfl, na, tM, ha, hq, hm, hw, hv, lm, lr, lv, kY, kN⟩ := h
  have nd := sc_Lab_init.nd
  refine ⟨_, (pss_cons (ps_fld (pv 0) pe_dnewK rfl)
      (pss_cons (ps_fld (pv 0) pe_dnewK rfl)
      (pss_cons (ps_fld (pv 0) (pe_lst pa_nil) rfl)
      (pss_cons (ps_for (passes_of rfl) rfl (pi_list (pv 1)) (pg_tup (n := 2) (by rfl) (pgs_cons (pg_name (i := 4) nd rfl (Or.inl rfl)) (pgs_cons (pg_name (i := 5) nd rfl (Or.inl rfl)) pgs_nil)))
      (pss_one (ps_expr (pe_metE T.c_Lab (ok_Lab_take_machine T) (hr.mono (by decide)) px (pv 0) (pa_cons (pv 4) (pa_cons (pv 5) pa_nil))))))
      (pss_cons (ps_for (passes_of rfl) rfl (pi_list (pv 2)) (pg_tup (n := 2) (by rfl) (pgs_cons (pg_name (i := 4) nd rfl (Or.inl rfl)) (pgs_cons (pg_name (i := 6) nd rfl (Or.inl rfl)) pgs_nil)))
      (pss_one (ps_expr (pe_metE T.c_Lab (ok_Lab_take_row T) (hr.mono (by decide)) px (pv 0) (pa_cons (pv 4) (pa_cons (pv 6) pa_nil))))))
      (pss_cons (ps_for (passes_of rfl) rfl (pi_list (pv 3)) (pg_name (i := 7) nd rfl (Or.inl rfl))
      (pss_one (ps_expr (pe_metE T.c_Lab (ok_Lab_take_move T) (hr.mono (by decide)) px (pv 0) (pa_cons (pv 7) pa_nil)))))
      (pss_cons (ps_expr (pe_metE0 T.c_Lab (ok_Lab_look_full T) (hr.mono (by decide)) px (pv 0)))
      (pss_cons (ps_fld (pv 0) (pe_callTy (call_listD rfl) (by rfl) T.f_list (by decide +kernel) (pa_cons (pe_fld (pv 0) rfl) pa_nil)) rfl)
      (pss_one (ps_fld (pv 0) (pe_callTy (call_listD rfl) (by rfl) T.f_list (by decide +kernel) (pa_cons (pe_fld (pv 0) rfl) pa_nil)) rfl)))))))))), ?_⟩
  simp only [tSeq, tDrop, tVar, tC, tCall, tCons, tNil, tFld, sFld, sDPut, tDGet, tRet, tRetN, tIfS, tTest, tB, tNot, tAnd, tOr, tOp, tUn, rI0, rI, tNext, tDIn, tDNotIn, tDNewK, tIf, tAndV, tOrV, tNotV, tAsg, gName, gCons, gNil, gTup, tPar, tTup, tLst, tMeth, tCB, rEq, rNe, tBM, rAppend, tBM0, tChain, rIxL, rIxT, rIxS, rIx, L2.start, cxK, cxW, kV_inr, List.map_cons, List.map_nil, List.length_cons, List.length_nil, List.replicate, List.cons_append, List.nil_append, List.append_nil, List.getElem?_cons_zero, List.getElem?_cons_succ, List.set_cons_zero, List.set_cons_succ, Option.some.injEq, V.ref.injEq, V.str.injEq, V.int.injEq, V.bl.injEq, exists_eq, exists_eq', exists_eq_left, exists_eq_left', exists_and_left, exists_and_right, List.cons.injEq, and_true, true_and, and_assoc]
  intro d1 hd1
  have a1 : a ≠ d1 := ne_of_none ha hd1
  refine ⟨_, _, _, (upd_ne a1).trans ha, T.c_Lab, T.n_Lab_firsts, by simp, ?_⟩
  intro d2 hd2
  obtain ⟨n2a, a2⟩ := up_none hd2
  obtain ⟨n2, d21⟩ := up_none n2a
  refine ⟨_, _, _, (upd_ne a2.symm).trans upd_same, T.c_Lab, T.n_Lab_words, by simp [putF], by omega, fun l hl => ?_⟩
  obtain ⟨nlb, al⟩ := up_none hl
  obtain ⟨nla, l2⟩ := up_none nlb
  obtain ⟨nlc, _⟩ := up_none nla
  obtain ⟨nl, l1⟩ := up_none nlc
  refine ⟨_, _, _, (upd_ne al.symm).trans upd_same, T.c_Lab, T.n_Lab_steps, (show (2 : Nat) < 1000 by omega), ?_⟩
  generalize e3 : upd (upd _ l (HO.lst [])) a _ = H3
  have fa : H3 a = some (.ins (He.ga K "Lab") dx (fs3 d1 d2 l)) := by rw [← e3, upd_same]; rfl
  have f1 : H3 d1 = some (.dK []) := by rw [← e3, upd_ne a1.symm, upd_ne l1.symm, upd_ne a1.symm, upd_ne d21.symm, upd_ne a1.symm, upd_same]
  have f2 : H3 d2 = some (.dK []) := by rw [← e3, upd_ne a2, upd_ne l2.symm, upd_ne a2, upd_same]
  have fl : H3 l = some (.lst []) := by rw [← e3, upd_ne al, upd_same]
  have s3 : Keep [a] H H3 := fun b o nb e => by
    have nb : b ≠ a := by simpa using nb
    rw [← e3, upd_ne nb, upd_ne (ne_of_none e nl), upd_ne nb, upd_ne (ne_of_none e n2), upd_ne nb, upd_ne (ne_of_none e hd1)]
    exact e
  clear e3
  have hq : ∀ H', KeepD (a :: l :: M) H H' → SqL K H' mp mxs ∧ SqL K H' rp rxs ∧ SqL K H' vp vxs := fun H' kk => hq H' l nl kk
  have tM3 : Trk M H3 := fun b hb => by
    obtain ⟨o, e⟩ := tM b hb
    exact ⟨o, s3 b o (by simp; intro z; rw [z] at hb; exact na hb) e⟩
  have ml : l ∉ M := tM.new nl
  have m1 : d1 ∉ M := tM.new hd1
  have m2 : d2 ∉ M := tM.new n2
  have mL : mxs.length = L.ms.length := by rw [hm.length, List.length_map]
  have rL : rxs.length = L.rs.length := by rw [hw.length, List.length_map]
  have vL : vxs.length = L.mv.length := by rw [hv.length, List.length_map]
  simp only [tFor, iList, tVar, List.getElem?_cons_zero, List.getElem?_cons_succ, Option.some.injEq, exists_eq_left', V.ref.injEq, exists_eq_left]
  refine ⟨⟨mxs, (hq H3 (s3.sub (by simp)).d).1⟩, ?_⟩
  -- the machines
  refine for_it (D := ⟨_, _, fun _ _ => False, fun _ _ => False⟩) (walk_list (xs := mxs)) (fun i σ H' => Keep [d1] H3 H' ∧ H' d1 = some (.dK (kvS (L.ms.take i))) ∧ chkMs (L.ms.take i) (L.ms.drop i) = chkMs [] L.ms ∧
      ∃ o4 o5 o6 o7, σ = [some (.ref a), some (.ref mp), some (.ref rp), some (.ref vp), o4, o5, o6, o7])
    ⟨Keep.refl _, f1, rfl, _, _, _, _, rfl⟩ (fun i σ H' _ p => (hq H' (Keep.sub (Keep.new s3 hd1 p.1) (by simp)).d).1) (fun i x σ H' H'' hi p y => ?_) (fun σ H' p => ?_)
  · obtain ⟨s4, g1, gc, o4, o5, o6, o7, rfl⟩ := p
    obtain ⟨rfl, hx⟩ := y
    have s4H := Keep.new s3 hd1 s4
    obtain ⟨q, p, hqi, rfl, np, hp⟩ := hm.getP hx
    have hp' := s4H _ _ (by simp; intro z; rw [z, ha] at hp; cases hp) hp
    have lq := lm.2 q (List.mem_of_getElem? hqi)
    have lt : (L.ms.take i).length ≤ 1000 := by rw [List.length_take]; have := lm.1; omega
    have ea := chkMs_at hqi
    simp only [tSeq, tDrop, tVar, tC, tCall, tCons, tNil, tFld, sFld, sDPut, tDGet, tRet, tRetN, tIfS, tTest, tB, tNot, tAnd, tOr, tOp, tUn, rI0, rI, tNext, tDIn, tDNotIn, tDNewK, tIf, tAndV, tOrV, tNotV, tAsg, gName, gCons, gNil, gTup, tPar, tTup, tLst, tMeth, tCB, rEq, rNe, tBM, rAppend, tBM0, tChain, rIxL, rIxT, rIxS, rIx, L2.start, cxK, cxW, kV_inr, List.map_cons, List.map_nil, List.length_cons, List.length_nil, List.replicate, List.cons_append, List.nil_append, List.append_nil, List.getElem?_cons_zero, List.getElem?_cons_succ, List.set_cons_zero, List.set_cons_succ, Option.some.injEq, V.ref.injEq, V.str.injEq, V.int.injEq, V.bl.injEq, exists_eq, exists_eq', exists_eq_left, exists_eq_left', exists_and_left, exists_and_right, List.cons.injEq, and_true, true_and, and_assoc]
    refine ⟨_, .inl (.inl hp'), rfl, _, _, rfl, _, _, rfl, rfl, dx, _, s4 _ _ (by simp; exact a1) fa, rfl, a, dx, d1, d2, l, q.1, q.2, L.ms.take i, rfl, s4 _ _ (by simp; exact a1) fa, g1, lt, lq.1, lq.2, Res.mk (fun ec H5 s5 g5 => ?_) fun wd ec => ?_⟩
    · refine ⟨s4.trans s5, by rw [take_succ_get hqi]; exact g5, ?_⟩
      rw [← gc, ea, thn1_r ec]
    · exact (kN wd (thn1_l (by rw [← gc, ea]; exact thn1_l ec))).refuse s4H
  obtain ⟨s4, g1, gc, o4, o5, o6, o7, rfl⟩ := p
  rw [mL, List.take_length] at g1 gc
  rw [List.drop_length] at gc
  have gc : chkMs [] L.ms = none := gc.symm
  have s4H := Keep.new s3 hd1 s4
  have fa4 := s4 _ _ (by simp; exact a1) fa
  have f24 := s4 _ _ (by simp; exact d21) f2
  have fl4 := s4 _ _ (by simp; exact l1) fl
  have kN : ∀ wd, thn1 (chkRs [] L.rs) (thn1 (chkVs L.ms L.rs L.mv) (chkFull L)) = some wd → RefuseM [a] K wd H E := fun wd e => kN wd ((thn1_r gc).trans e)
  clear f1 f2 fl fa
  simp only [tFor, iList, tVar, List.getElem?_cons_zero, List.getElem?_cons_succ, Option.some.injEq, exists_eq_left', V.ref.injEq, exists_eq_left]
  refine ⟨⟨rxs, (hq H' (s4H.sub (by simp)).d).2.1⟩, ?_⟩
  -- the rows
  rename Hp => H4
  refine for_it (D := ⟨_, _, fun _ _ => False, fun _ _ => False⟩) (walk_list (xs := rxs)) (fun i σ H' => Keep [d2] H4 H' ∧ H' d2 = some (.dK (kvS (L.rs.take i))) ∧ chkRs (L.rs.take i) (L.rs.drop i) = chkRs [] L.rs ∧
      ∃ o4 o5 o6 o7, σ = [some (.ref a), some (.ref mp), some (.ref rp), some (.ref vp), o4, o5, o6, o7])
    ⟨Keep.refl _, f24, rfl, _, _, _, _, rfl⟩ (fun i σ H' _ p => (hq H' (Keep.sub (Keep.new s4H n2 p.1) (by simp)).d).2.1) (fun i x σ H' H'' hi p y => ?_) (fun σ H' p => ?_)
  · obtain ⟨s5, g2, gd, o4, o5, o6, o7, rfl⟩ := p
    obtain ⟨rfl, hx⟩ := y
    have s5H := Keep.new s4H n2 s5
    obtain ⟨q, p, hqi, rfl, np, hp⟩ := hw.getP hx
    have hp' := s5H _ _ (by simp; intro z; rw [z, ha] at hp; cases hp) hp
    have lq := lr.2 q (List.mem_of_getElem? hqi)
    have lt : (L.rs.take i).length ≤ 1000 := by rw [List.length_take]; have := lr.1; omega
    have ea := chkRs_at hqi
    simp only [tSeq, tDrop, tVar, tC, tCall, tCons, tNil, tFld, sFld, sDPut, tDGet, tRet, tRetN, tIfS, tTest, tB, tNot, tAnd, tOr, tOp, tUn, rI0, rI, tNext, tDIn, tDNotIn, tDNewK, tIf, tAndV, tOrV, tNotV, tAsg, gName, gCons, gNil, gTup, tPar, tTup, tLst, tMeth, tCB, rEq, rNe, tBM, rAppend, tBM0, tChain, rIxL, rIxT, rIxS, rIx, L2.start, cxK, cxW, kV_inr, List.map_cons, List.map_nil, List.length_cons, List.length_nil, List.replicate, List.cons_append, List.nil_append, List.append_nil, List.getElem?_cons_zero, List.getElem?_cons_succ, List.set_cons_zero, List.set_cons_succ, Option.some.injEq, V.ref.injEq, V.str.injEq, V.int.injEq, V.bl.injEq, exists_eq, exists_eq', exists_eq_left, exists_eq_left', exists_and_left, exists_and_right, List.cons.injEq, and_true, true_and, and_assoc]
    refine ⟨_, .inl (.inl hp'), rfl, _, _, rfl, _, _, rfl, rfl, dx, _, s5 _ _ (by simp; exact a2.symm) fa4, rfl, a, dx, d1, d2, l, q.1, q.2, L.rs.take i, rfl, s5 _ _ (by simp; exact a2.symm) fa4, g2, lt, lq.1, lq.2, Res.mk (fun ec H5 s6 g5 => ?_) fun wd ec => ?_⟩
    · refine ⟨s5.trans s6, by rw [take_succ_get hqi]; exact g5, ?_⟩
      rw [← gd, ea, thn1_r ec]
    · exact (kN wd (thn1_l (by rw [← gd, ea]; exact thn1_l ec))).refuse s5H
  obtain ⟨s5, g2, gd, o4, o5, o6, o7, rfl⟩ := p
  rw [rL, List.take_length] at g2 gd
  rw [List.drop_length] at gd
  have gd : chkRs [] L.rs = none := gd.symm
  have s5H := Keep.new s4H n2 s5
  have fa5 := s5 _ _ (by simp; exact a2.symm) fa4
  have f15 := s5 _ _ (by simp; exact d21.symm) g1
  have fl5 := s5 _ _ (by simp; exact l2) fl4
  have kN : ∀ wd, thn1 (chkVs L.ms L.rs L.mv) (chkFull L) = some wd → RefuseM [a] K wd H E := fun wd e => kN wd ((thn1_r gd).trans e)
  clear f24 fl4 fa4 g1
  simp only [tFor, iList, tVar, List.getElem?_cons_zero, List.getElem?_cons_succ, Option.some.injEq, exists_eq_left', V.ref.injEq, exists_eq_left]
  have hvl : DAs (l :: M) H vxs (L.mv.map Mv.d) := hv.fresh nl
  -- the moves
  rename Hp => H5
  refine ⟨⟨vxs, (hq H5 (s5H.sub (by simp)).d).2.2⟩, ?_⟩
  refine for_it (D := ⟨_, _, fun _ _ => False, fun _ _ => False⟩) (walk_list (xs := vxs)) (fun i σ H' => Keep [l] H5 H' ∧ (∃ ys, H' l = some (.lst ys) ∧ DAs (l :: M) H' ys ((L.mv.take i).map Mv.d)) ∧ chkVs L.ms L.rs (L.mv.drop i) = chkVs L.ms L.rs L.mv ∧
      ∃ o4 o5 o6 o7, σ = [some (.ref a), some (.ref mp), some (.ref rp), some (.ref vp), o4, o5, o6, o7])
    ⟨Keep.refl _, ⟨[], fl5, DAs.nil⟩, rfl, _, _, _, _, rfl⟩ (fun i σ H' _ p => (hq H' (Keep.sub (Keep.new s5H nl p.1) (by simp)).d).2.2) (fun i x σ H' H'' hi p y => ?_) (fun σ H' p => ?_)
  · obtain ⟨s6, ⟨ys, gl, gy⟩, gv, o4, o5, o6, o7, rfl⟩ := p
    obtain ⟨rfl, hx⟩ := y
    have s6H := Keep.new s5H nl s6
    obtain ⟨m, hmi, _⟩ := hv.getMv hx
    obtain ⟨d0, e0, hmd⟩ := (hvl.keepD (s6H.insD ha)).get hx
    have ed : d0 = m.d := by
      rw [List.getElem?_map, hmi] at e0
      exact (Option.some.inj e0).symm
    subst ed
    have lq := lv.2 m (List.mem_of_getElem? hmi)
    have lt : ys.length ≤ 1000 := by rw [gy.length, List.length_map, List.length_take]; have := lv.1; omega
    have ea := chkVs_at (ms := L.ms) (rs := L.rs) hmi
    have t6 : Trk (l :: M) H'' := fun b hb => (List.mem_cons.mp hb).elim (fun e => by rw [e]; exact ⟨_, gl⟩) fun e => by
      obtain ⟨o, eo⟩ := tM b e
      exact ⟨o, s6H b o (by simp; intro z; rw [z] at e; exact na e) eo⟩
    simp only [tSeq, tDrop, tVar, tC, tCall, tCons, tNil, tFld, sFld, sDPut, tDGet, tRet, tRetN, tIfS, tTest, tB, tNot, tAnd, tOr, tOp, tUn, rI0, rI, tNext, tDIn, tDNotIn, tDNewK, tIf, tAndV, tOrV, tNotV, tAsg, gName, gCons, gNil, gTup, tPar, tTup, tLst, tMeth, tCB, rEq, rNe, tBM, rAppend, tBM0, tChain, rIxL, rIxT, rIxS, rIx, L2.start, cxK, cxW, kV_inr, List.map_cons, List.map_nil, List.length_cons, List.length_nil, List.replicate, List.cons_append, List.nil_append, List.append_nil, List.getElem?_cons_zero, List.getElem?_cons_succ, List.set_cons_zero, List.set_cons_succ, Option.some.injEq, V.ref.injEq, V.str.injEq, V.int.injEq, V.bl.injEq, exists_eq, exists_eq', exists_eq_left, exists_eq_left', exists_and_left, exists_and_right, List.cons.injEq, and_true, true_and, and_assoc]
    refine ⟨dx, _, s6 _ _ (by simp; exact al.symm) fa5, rfl, l :: M, a, dx, d1, d2, l, x, m, L.ms, L.rs, ys, rfl, s6 _ _ (by simp; exact al.symm) fa5, s6 _ _ (by simp; exact l1.symm) f15, s6 _ _ (by simp; exact l2.symm) g2, gl, by simp, lt, t6, hmd, lq, Res.mk (fun ec H7 x7 s7 g7 h7 => ?_) fun wd ec => ?_⟩
    · refine ⟨s6.trans s7, ⟨_, g7, ?_⟩, ?_⟩
      · rw [take_succ_get hmi, List.map_append]
        exact (gy.keep (s7.sub (by simp))).append (DAs.cons h7 DAs.nil)
      · rw [← gv, ea, thn1_r ec]
    · exact (kN wd (thn1_l (by rw [← gv, ea]; exact thn1_l ec))).refuse s6H
  obtain ⟨s6, ⟨ys, gl, gy⟩, gv, o4, o5, o6, o7, rfl⟩ := p
  rw [vL, List.take_length] at gy
  rw [vL, List.drop_length] at gv
  have gv : chkVs L.ms L.rs L.mv = none := gv.symm
  have s6H := Keep.new s5H nl s6
  have fa6 := s6 _ _ (by simp; exact al.symm) fa5
  have f16 := s6 _ _ (by simp; exact l1.symm) f15
  have f26 := s6 _ _ (by simp; exact l2.symm) g2
  have kN : ∀ wd, chkFull L = some wd → RefuseM [a] K wd H E := fun wd e => kN wd ((thn1_r gv).trans e)
  clear f15 fl5 fa5 g2
  simp only [tSeq, tDrop, tVar, tC, tCall, tCons, tNil, tFld, sFld, sDPut, tDGet, tRet, tRetN, tIfS, tTest, tB, tNot, tAnd, tOr, tOp, tUn, rI0, rI, tNext, tDIn, tDNotIn, tDNewK, tIf, tAndV, tOrV, tNotV, tAsg, gName, gCons, gNil, gTup, tPar, tTup, tLst, tMeth, tCB, rEq, rNe, tBM, rAppend, tBM0, tChain, rIxL, rIxT, rIxS, rIx, L2.start, cxK, cxW, kV_inr, List.map_cons, List.map_nil, List.length_cons, List.length_nil, List.replicate, List.cons_append, List.nil_append, List.append_nil, List.getElem?_cons_zero, List.getElem?_cons_succ, List.set_cons_zero, List.set_cons_succ, Option.some.injEq, V.ref.injEq, V.str.injEq, V.int.injEq, V.bl.injEq, exists_eq, exists_eq', exists_eq_left, exists_eq_left', exists_and_left, exists_and_right, List.cons.injEq, and_true, true_and, and_assoc]
  refine ⟨dx, _, fa6, rfl, a, dx, d1, d2, l, L.ms, L.rs, L.mv, ys, rfl, fa6, f16, f26, gl, gy.sub (by simp), once_of gc (fun p hp => by cases hp), Res.mk (fun ef H7 s7 => ?_) fun wd ec => (kN wd ec).refuse s6H⟩
  have fa7 := s7 _ _ fa6
  refine ⟨_, _, _, fa7, T.c_Lab, T.n_Lab_firsts, _, rfl, d1, rfl, _, .inl (s7 _ _ f16), ?_⟩
  intro p hp
  have f17 := s7 _ _ f16
  have f27 := s7 _ _ f26
  have fl7 := s7 _ _ gl
  have gy7 : DAs M H7 ys (L.mv.map Mv.d) := (gy.keep (Keep.of s7)).sub fun _ h => List.mem_cons_of_mem _ h
  have s7H : Keep [a] H H7 := s6H.trans (Keep.of s7)
  refine ⟨_, _, _, (upd_ne (ne_of_none fa7 hp)).trans fa7, T.c_Lab, T.n_Lab_names, (show (3 : Nat) < 1000 by omega), _, _, _, upd_same, T.c_Lab, T.n_Lab_words, _, rfl, d2, rfl, _, .inl ((upd_ne a2).trans ((upd_ne (ne_of_none f27 hp)).trans f27)), fun q hq' => ?_⟩
  obtain ⟨nq1, aq⟩ := up_none hq'
  obtain ⟨nq, pq⟩ := up_none nq1
  refine ⟨_, _, _, (upd_ne aq.symm).trans upd_same, T.c_Lab, T.n_Lab_row_names, (show (4 : Nat) < 1000 by omega), ?_⟩
  have t7 : Trk M H7 := fun b hb => by
    obtain ⟨o, eo⟩ := tM b hb
    exact ⟨o, s7H b o (by simp; intro z; rw [z] at hb; exact na hb) eo⟩
  have np : p ∉ M := t7.new hp
  have nq' : q ∉ M := t7.new nq
  refine kY (by unfold chkLab; rw [gc, gd, gv, ef]; rfl) _ ?_ ?_
  · refine s7H.trans fun b o nb e => ?_
    have nb : b ≠ a := by simpa using nb
    rw [upd_ne nb, upd_ne (ne_of_none e nq), upd_ne nb, upd_ne (ne_of_none e hp)]
    exact e
  · have at_ : ∀ {b : Addr} {o : HO} {u v : HO}, b ≠ a → H7 b = some o → (upd (upd (upd (upd H7 p (.lst ((kvS L.ms).map fun kv => kV kv.1))) a u) q (.lst ((kvS L.rs).map fun kv => kV kv.1))) a v) b = some o := fun nb e => by
      rw [upd_ne nb, upd_ne (ne_of_none e nq), upd_ne nb, upd_ne (ne_of_none e hp)]
      exact e
    have kD : ∀ {u v : HO}, KeepD M H7 (upd (upd (upd (upd H7 p (.lst ((kvS L.ms).map fun kv => kV kv.1))) a u) q (.lst ((kvS L.rs).map fun kv => kV kv.1))) a v) :=
      ⟨fun b xs _ e => at_ (fun z => by rw [z, fa7] at e; cases e) e, fun b xs _ e => at_ (fun z => by rw [z, fa7] at e; cases e) e⟩
    refine ⟨a, dx, d1, d2, l, p, q, ys, rfl, upd_same, at_ a1.symm f17, at_ a2 f27, at_ al fl7, gy7.keepD kD, ?_, ?_, na, m1, m2, ml, np, nq'⟩
    · have pa : p ≠ a := (ne_of_none fa7 hp).symm
      rw [upd_ne pa, upd_ne pq.symm, upd_ne pa, upd_same, kvS_names]
    · rw [upd_ne aq, upd_same, kvS_names]
end
end K51


set_option Elab.async false
set_option linter.all false
set_option maxRecDepth 100000
set_option maxHeartbeats 4000000
set_option pp.deepTerms true
set_option pp.maxSteps 100000
namespace K51
open PySem PySem.Spec PyProof.Rows L2
section
variable {P : Program} {w : World} {K : PySem.W.Frag} {mg : Str → Option Value} {base : Heap}
theorem body_Lab_initT (T : TX w K mg) (f : Addr) : Body P w K mg base 6 N_Lab_init d_Lab_init.qual d_Lab_init.body d_Lab_init.scope f (spLabInitX K SqT) := by
  intro cdv A outer s H vs Q E hr h
  obtain ⟨M, a, dx, mp, rp, vp, mxs, rxs, vxs, L, rfl, na, tM, ha, hq, hm, hw, hv, lm, lr, lv, kY, kN⟩ := h
  have nd := sc_Lab_init.nd
  refine ⟨_, (pss_cons (ps_fld (pv 0) pe_dnewK rfl)
      (pss_cons (ps_fld (pv 0) pe_dnewK rfl)
      (pss_cons (ps_fld (pv 0) (pe_lst pa_nil) rfl)
      (pss_cons (ps_for (passes_of rfl) rfl (pi_tup (pv 1)) (pg_tup (n := 2) (by rfl) (pgs_cons (pg_name (i := 4) nd rfl (Or.inl rfl)) (pgs_cons (pg_name (i := 5) nd rfl (Or.inl rfl)) pgs_nil)))
      (pss_one (ps_expr (pe_metE T.c_Lab (ok_Lab_take_machine T) (hr.mono (by decide)) px (pv 0) (pa_cons (pv 4) (pa_cons (pv 5) pa_nil))))))
      (pss_cons (ps_for (passes_of rfl) rfl (pi_tup (pv 2)) (pg_tup (n := 2) (by rfl) (pgs_cons (pg_name (i := 4) nd rfl (Or.inl rfl)) (pgs_cons (pg_name (i := 6) nd rfl (Or.inl rfl)) pgs_nil)))
      (pss_one (ps_expr (pe_metE T.c_Lab (ok_Lab_take_row T) (hr.mono (by decide)) px (pv 0) (pa_cons (pv 4) (pa_cons (pv 6) pa_nil))))))
      (pss_cons (ps_for (passes_of rfl) rfl (pi_tup (pv 3)) (pg_name (i := 7) nd rfl (Or.inl rfl))
      (pss_one (ps_expr (pe_metE T.c_Lab (ok_Lab_take_move T) (hr.mono (by decide)) px (pv 0) (pa_cons (pv 7) pa_nil)))))
      (pss_cons (ps_expr (pe_metE0 T.c_Lab (ok_Lab_look_full T) (hr.mono (by decide)) px (pv 0)))
      (pss_cons (ps_fld (pv 0) (pe_callTy (call_listD rfl) (by rfl) T.f_list (by decide +kernel) (pa_cons (pe_fld (pv 0) rfl) pa_nil)) rfl)
      (pss_one (ps_fld (pv 0) (pe_callTy (call_listD rfl) (by rfl) T.f_list (by decide +kernel) (pa_cons (pe_fld (pv 0) rfl) pa_nil)) rfl)))))))))), ?_⟩
  simp only [tSeq, tDrop, tVar, tC, tCall, tCons, tNil, tFld, sFld, sDPut, tDGet, tRet, tRetN, tIfS, tTest, tB, tNot, tAnd, tOr, tOp, tUn, rI0, rI, tNext, tDIn, tDNotIn, tDNewK, tIf, tAndV, tOrV, tNotV, tAsg, gName, gCons, gNil, gTup, tPar, tTup, tLst, tMeth, tCB, rEq, rNe, tBM, rAppend, tBM0, tChain, rIxL, rIxT, rIxS, rIx, L2.start, cxK, cxW, kV_inr, List.map_cons, List.map_nil, List.length_cons, List.length_nil, List.replicate, List.cons_append, List.nil_append, List.append_nil, List.getElem?_cons_zero, List.getElem?_cons_succ, List.set_cons_zero, List.set_cons_succ, Option.some.injEq, V.ref.injEq, V.str.injEq, V.int.injEq, V.bl.injEq, exists_eq, exists_eq', exists_eq_left, exists_eq_left', exists_and_left, exists_and_right, List.cons.injEq, and_true, true_and, and_assoc]
  intro d1 hd1
  have a1 : a ≠ d1 := ne_of_none ha hd1
  refine ⟨_, _, _, (upd_ne a1).trans ha, T.c_Lab, T.n_Lab_firsts, by simp, ?_⟩
  intro d2 hd2
  obtain ⟨n2a, a2⟩ := up_none hd2
  obtain ⟨n2, d21⟩ := up_none n2a
  refine ⟨_, _, _, (upd_ne a2.symm).trans upd_same, T.c_Lab, T.n_Lab_words, by simp [putF], by omega, fun l hl => ?_⟩
  obtain ⟨nlb, al⟩ := up_none hl
  obtain ⟨nla, l2⟩ := up_none nlb
  obtain ⟨nlc, _⟩ := up_none nla
  obtain ⟨nl, l1⟩ := up_none nlc
  refine ⟨_, _, _, (upd_ne al.symm).trans upd_same, T.c_Lab, T.n_Lab_steps, (show (2 : Nat) < 1000 by omega), ?_⟩
  generalize e3 : upd (upd _ l (HO.lst [])) a _ = H3
  have fa : H3 a = some (.ins (He.ga K "Lab") dx (fs3 d1 d2 l)) := by rw [← e3, upd_same]; rfl
  have f1 : H3 d1 = some (.dK []) := by rw [← e3, upd_ne a1.symm, upd_ne l1.symm, upd_ne a1.symm, upd_ne d21.symm, upd_ne a1.symm, upd_same]
  have f2 : H3 d2 = some (.dK []) := by rw [← e3, upd_ne a2, upd_ne l2.symm, upd_ne a2, upd_same]
  have fl : H3 l = some (.lst []) := by rw [← e3, upd_ne al, upd_same]
  have s3 : Keep [a] H H3 := fun b o nb e => by
    have nb : b ≠ a := by simpa using nb
    rw [← e3, upd_ne nb, upd_ne (ne_of_none e nl), upd_ne nb, upd_ne (ne_of_none e n2), upd_ne nb, upd_ne (ne_of_none e hd1)]
    exact e
  clear e3
  have hq : ∀ H', KeepD (a :: l :: M) H H' → SqT K H' mp mxs ∧ SqT K H' rp rxs ∧ SqT K H' vp vxs := fun H' kk => hq H' l nl kk
  have tM3 : Trk M H3 := fun b hb => by
    obtain ⟨o, e⟩ := tM b hb
    exact ⟨o, s3 b o (by simp; intro z; rw [z] at hb; exact na hb) e⟩
  have ml : l ∉ M := tM.new nl
  have m1 : d1 ∉ M := tM.new hd1
  have m2 : d2 ∉ M := tM.new n2
  have mL : mxs.length = L.ms.length := by rw [hm.length, List.length_map]
  have rL : rxs.length = L.rs.length := by rw [hw.length, List.length_map]
  have vL : vxs.length = L.mv.length := by rw [hv.length, List.length_map]
  simp only [tFor, iTup, tVar, List.getElem?_cons_zero, List.getElem?_cons_succ, Option.some.injEq, exists_eq_left', V.ref.injEq, exists_eq_left]
  refine ⟨⟨mxs, (hq H3 (s3.sub (by simp)).d).1⟩, ?_⟩
  -- the machines
  refine for_it (D := ⟨_, _, fun _ _ => False, fun _ _ => False⟩) (walk_tup (xs := mxs)) (fun i σ H' => Keep [d1] H3 H' ∧ H' d1 = some (.dK (kvS (L.ms.take i))) ∧ chkMs (L.ms.take i) (L.ms.drop i) = chkMs [] L.ms ∧
      ∃ o4 o5 o6 o7, σ = [some (.ref a), some (.ref mp), some (.ref rp), some (.ref vp), o4, o5, o6, o7])
    ⟨Keep.refl _, f1, rfl, _, _, _, _, rfl⟩ (fun i σ H' _ p => (hq H' (Keep.sub (Keep.new s3 hd1 p.1) (by simp)).d).1) (fun i x σ H' H'' hi p y => ?_) (fun σ H' p => ?_)
  · obtain ⟨s4, g1, gc, o4, o5, o6, o7, rfl⟩ := p
    obtain ⟨rfl, hx⟩ := y
    have s4H := Keep.new s3 hd1 s4
    obtain ⟨q, p, hqi, rfl, np, hp⟩ := hm.getP hx
    have hp' := s4H _ _ (by simp; intro z; rw [z, ha] at hp; cases hp) hp
    have lq := lm.2 q (List.mem_of_getElem? hqi)
    have lt : (L.ms.take i).length ≤ 1000 := by rw [List.length_take]; have := lm.1; omega
    have ea := chkMs_at hqi
    simp only [tSeq, tDrop, tVar, tC, tCall, tCons, tNil, tFld, sFld, sDPut, tDGet, tRet, tRetN, tIfS, tTest, tB, tNot, tAnd, tOr, tOp, tUn, rI0, rI, tNext, tDIn, tDNotIn, tDNewK, tIf, tAndV, tOrV, tNotV, tAsg, gName, gCons, gNil, gTup, tPar, tTup, tLst, tMeth, tCB, rEq, rNe, tBM, rAppend, tBM0, tChain, rIxL, rIxT, rIxS, rIx, L2.start, cxK, cxW, kV_inr, List.map_cons, List.map_nil, List.length_cons, List.length_nil, List.replicate, List.cons_append, List.nil_append, List.append_nil, List.getElem?_cons_zero, List.getElem?_cons_succ, List.set_cons_zero, List.set_cons_succ, Option.some.injEq, V.ref.injEq, V.str.injEq, V.int.injEq, V.bl.injEq, exists_eq, exists_eq', exists_eq_left, exists_eq_left', exists_and_left, exists_and_right, List.cons.injEq, and_true, true_and, and_assoc]
    refine ⟨_, .inl (.inl hp'), rfl, _, _, rfl, _, _, rfl, rfl, dx, _, s4 _ _ (by simp; exact a1) fa, rfl, a, dx, d1, d2, l, q.1, q.2, L.ms.take i, rfl, s4 _ _ (by simp; exact a1) fa, g1, lt, lq.1, lq.2, Res.mk (fun ec H5 s5 g5 => ?_) fun wd ec => ?_⟩
    · refine ⟨s4.trans s5, by rw [take_succ_get hqi]; exact g5, ?_⟩
      rw [← gc, ea, thn1_r ec]
    · exact (kN wd (thn1_l (by rw [← gc, ea]; exact thn1_l ec))).refuse s4H
  obtain ⟨s4, g1, gc, o4, o5, o6, o7, rfl⟩ := p
  rw [mL, List.take_length] at g1 gc
  rw [List.drop_length] at gc
  have gc : chkMs [] L.ms = none := gc.symm
  have s4H := Keep.new s3 hd1 s4
  have fa4 := s4 _ _ (by simp; exact a1) fa
  have f24 := s4 _ _ (by simp; exact d21) f2
  have fl4 := s4 _ _ (by simp; exact l1) fl
  have kN : ∀ wd, thn1 (chkRs [] L.rs) (thn1 (chkVs L.ms L.rs L.mv) (chkFull L)) = some wd → RefuseM [a] K wd H E := fun wd e => kN wd ((thn1_r gc).trans e)
  clear f1 f2 fl fa
  simp only [tFor, iTup, tVar, List.getElem?_cons_zero, List.getElem?_cons_succ, Option.some.injEq, exists_eq_left', V.ref.injEq, exists_eq_left]
  refine ⟨⟨rxs, (hq H' (s4H.sub (by simp)).d).2.1⟩, ?_⟩
  -- the rows
  rename Hp => H4
  refine for_it (D := ⟨_, _, fun _ _ => False, fun _ _ => False⟩) (walk_tup (xs := rxs)) (fun i σ H' => Keep [d2] H4 H' ∧ H' d2 = some (.dK (kvS (L.rs.take i))) ∧ chkRs (L.rs.take i) (L.rs.drop i) = chkRs [] L.rs ∧
      ∃ o4 o5 o6 o7, σ = [some (.ref a), some (.ref mp), some (.ref rp), some (.ref vp), o4, o5, o6, o7])
    ⟨Keep.refl _, f24, rfl, _, _, _, _, rfl⟩ (fun i σ H' _ p => (hq H' (Keep.sub (Keep.new s4H n2 p.1) (by simp)).d).2.1) (fun i x σ H' H'' hi p y => ?_) (fun σ H' p => ?_)
  · obtain ⟨s5, g2, gd, o4, o5, o6, o7, rfl⟩ := p
    obtain ⟨rfl, hx⟩ := y
    have s5H := Keep.new s4H n2 s5
    obtain ⟨q, p, hqi, rfl, np, hp⟩ := hw.getP hx
    have hp' := s5H _ _ (by simp; intro z; rw [z, ha] at hp; cases hp) hp
    have lq := lr.2 q (List.mem_of_getElem? hqi)
    have lt : (L.rs.take i).length ≤ 1000 := by rw [List.length_take]; have := lr.1; omega
    have ea := chkRs_at hqi
    simp only [tSeq, tDrop, tVar, tC, tCall, tCons, tNil, tFld, sFld, sDPut, tDGet, tRet, tRetN, tIfS, tTest, tB, tNot, tAnd, tOr, tOp, tUn, rI0, rI, tNext, tDIn, tDNotIn, tDNewK, tIf, tAndV, tOrV, tNotV, tAsg, gName, gCons, gNil, gTup, tPar, tTup, tLst, tMeth, tCB, rEq, rNe, tBM, rAppend, tBM0, tChain, rIxL, rIxT, rIxS, rIx, L2.start, cxK, cxW, kV_inr, List.map_cons, List.map_nil, List.length_cons, List.length_nil, List.replicate, List.cons_append, List.nil_append, List.append_nil, List.getElem?_cons_zero, List.getElem?_cons_succ, List.set_cons_zero, List.set_cons_succ, Option.some.injEq, V.ref.injEq, V.str.injEq, V.int.injEq, V.bl.injEq, exists_eq, exists_eq', exists_eq_left, exists_eq_left', exists_and_left, exists_and_right, List.cons.injEq, and_true, true_and, and_assoc]
    refine ⟨_, .inl (.inl hp'), rfl, _, _, rfl, _, _, rfl, rfl, dx, _, s5 _ _ (by simp; exact a2.symm) fa4, rfl, a, dx, d1, d2, l, q.1, q.2, L.rs.take i, rfl, s5 _ _ (by simp; exact a2.symm) fa4, g2, lt, lq.1, lq.2, Res.mk (fun ec H5 s6 g5 => ?_) fun wd ec => ?_⟩
    · refine ⟨s5.trans s6, by rw [take_succ_get hqi]; exact g5, ?_⟩
      rw [← gd, ea, thn1_r ec]
    · exact (kN wd (thn1_l (by rw [← gd, ea]; exact thn1_l ec))).refuse s5H
  obtain ⟨s5, g2, gd, o4, o5, o6, o7, rfl⟩ := p
  rw [rL, List.take_length] at g2 gd
  rw [List.drop_length] at gd
  have gd : chkRs [] L.rs = none := gd.symm
  have s5H := Keep.new s4H n2 s5
  have fa5 := s5 _ _ (by simp; exact a2.symm) fa4
  have f15 := s5 _ _ (by simp; exact d21.symm) g1
  have fl5 := s5 _ _ (by simp; exact l2) fl4
  have kN : ∀ wd, thn1 (chkVs L.ms L.rs L.mv) (chkFull L) = some wd → RefuseM [a] K wd H E := fun wd e => kN wd ((thn1_r gd).trans e)
  clear f24 fl4 fa4 g1
  simp only [tFor, iTup, tVar, List.getElem?_cons_zero, List.getElem?_cons_succ, Option.some.injEq, exists_eq_left', V.ref.injEq, exists_eq_left]
  have hvl : DAs (l :: M) H vxs (L.mv.map Mv.d) := hv.fresh nl
  -- the moves
  rename Hp => H5
  refine ⟨⟨vxs, (hq H5 (s5H.sub (by simp)).d).2.2⟩, ?_⟩
  refine for_it (D := ⟨_, _, fun _ _ => False, fun _ _ => False⟩) (walk_tup (xs := vxs)) (fun i σ H' => Keep [l] H5 H' ∧ (∃ ys, H' l = some (.lst ys) ∧ DAs (l :: M) H' ys ((L.mv.take i).map Mv.d)) ∧ chkVs L.ms L.rs (L.mv.drop i) = chkVs L.ms L.rs L.mv ∧
      ∃ o4 o5 o6 o7, σ = [some (.ref a), some (.ref mp), some (.ref rp), some (.ref vp), o4, o5, o6, o7])
    ⟨Keep.refl _, ⟨[], fl5, DAs.nil⟩, rfl, _, _, _, _, rfl⟩ (fun i σ H' _ p => (hq H' (Keep.sub (Keep.new s5H nl p.1) (by simp)).d).2.2) (fun i x σ H' H'' hi p y => ?_) (fun σ H' p => ?_)
  · obtain ⟨s6, ⟨ys, gl, gy⟩, gv, o4, o5, o6, o7, rfl⟩ := p
    obtain ⟨rfl, hx⟩ := y
    have s6H := Keep.new s5H nl s6
    obtain ⟨m, hmi, _⟩ := hv.getMv hx
    obtain ⟨d0, e0, hmd⟩ := (hvl.keepD (s6H.insD ha)).get hx
    have ed : d0 = m.d := by
      rw [List.getElem?_map, hmi] at e0
      exact (Option.some.inj e0).symm
    subst ed
    have lq := lv.2 m (List.mem_of_getElem? hmi)
    have lt : ys.length ≤ 1000 := by rw [gy.length, List.length_map, List.length_take]; have := lv.1; omega
    have ea := chkVs_at (ms := L.ms) (rs := L.rs) hmi
    have t6 : Trk (l :: M) H'' := fun b hb => (List.mem_cons.mp hb).elim (fun e => by rw [e]; exact ⟨_, gl⟩) fun e => by
      obtain ⟨o, eo⟩ := tM b e
      exact ⟨o, s6H b o (by simp; intro z; rw [z] at e; exact na e) eo⟩
    simp only [tSeq, tDrop, tVar, tC, tCall, tCons, tNil, tFld, sFld, sDPut, tDGet, tRet, tRetN, tIfS, tTest, tB, tNot, tAnd, tOr, tOp, tUn, rI0, rI, tNext, tDIn, tDNotIn, tDNewK, tIf, tAndV, tOrV, tNotV, tAsg, gName, gCons, gNil, gTup, tPar, tTup, tLst, tMeth, tCB, rEq, rNe, tBM, rAppend, tBM0, tChain, rIxL, rIxT, rIxS, rIx, L2.start, cxK, cxW, kV_inr, List.map_cons, List.map_nil, List.length_cons, List.length_nil, List.replicate, List.cons_append, List.nil_append, List.append_nil, List.getElem?_cons_zero, List.getElem?_cons_succ, List.set_cons_zero, List.set_cons_succ, Option.some.injEq, V.ref.injEq, V.str.injEq, V.int.injEq, V.bl.injEq, exists_eq, exists_eq', exists_eq_left, exists_eq_left', exists_and_left, exists_and_right, List.cons.injEq, and_true, true_and, and_assoc]
    refine ⟨dx, _, s6 _ _ (by simp; exact al.symm) fa5, rfl, l :: M, a, dx, d1, d2, l, x, m, L.ms, L.rs, ys, rfl, s6 _ _ (by simp; exact al.symm) fa5, s6 _ _ (by simp; exact l1.symm) f15, s6 _ _ (by simp; exact l2.symm) g2, gl, by simp, lt, t6, hmd, lq, Res.mk (fun ec H7 x7 s7 g7 h7 => ?_) fun wd ec => ?_⟩
    · refine ⟨s6.trans s7, ⟨_, g7, ?_⟩, ?_⟩
      · rw [take_succ_get hmi, List.map_append]
        exact (gy.keep (s7.sub (by simp))).append (DAs.cons h7 DAs.nil)
      · rw [← gv, ea, thn1_r ec]
    · exact (kN wd (thn1_l (by rw [← gv, ea]; exact thn1_l ec))).refuse s6H
  obtain ⟨s6, ⟨ys, gl, gy⟩, gv, o4, o5, o6, o7, rfl⟩ := p
  rw [vL, List.take_length] at gy
  rw [vL, List.drop_length] at gv
  have gv : chkVs L.ms L.rs L.mv = none := gv.symm
  have s6H := Keep.new s5H nl s6
  have fa6 := s6 _ _ (by simp; exact al.symm) fa5
  have f16 := s6 _ _ (by simp; exact l1.symm) f15
  have f26 := s6 _ _ (by simp; exact l2.symm) g2
  have kN : ∀ wd, chkFull L = some wd → RefuseM [a] K wd H E := fun wd e => kN wd ((thn1_r gv).trans e)
  clear f15 fl5 fa5 g2
  simp only [tSeq, tDrop, tVar, tC, tCall, tCons, tNil, tFld, sFld, sDPut, tDGet, tRet, tRetN, tIfS, tTest, tB, tNot, tAnd, tOr, tOp, tUn, rI0, rI, tNext, tDIn, tDNotIn, tDNewK, tIf, tAndV, tOrV, tNotV, tAsg, gName, gCons, gNil, gTup, tPar, tTup, tLst, tMeth, tCB, rEq, rNe, tBM, rAppend, tBM0, tChain, rIxL, rIxT, rIxS, rIx, L2.start, cxK, cxW, kV_inr, List.map_cons, List.map_nil, List.length_cons, List.length_nil, List.replicate, List.cons_append, List.nil_append, List.append_nil, List.getElem?_cons_zero, List.getElem?_cons_succ, List.set_cons_zero, List.set_cons_succ, Option.some.injEq, V.ref.injEq, V.str.injEq, V.int.injEq, V.bl.injEq, exists_eq, exists_eq', exists_eq_left, exists_eq_left', exists_and_left, exists_and_right, List.cons.injEq, and_true, true_and, and_assoc]
  refine ⟨dx, _, fa6, rfl, a, dx, d1, d2, l, L.ms, L.rs, L.mv, ys, rfl, fa6, f16, f26, gl, gy.sub (by simp), once_of gc (fun p hp => by cases hp), Res.mk (fun ef H7 s7 => ?_) fun wd ec => (kN wd ec).refuse s6H⟩
  have fa7 := s7 _ _ fa6
  refine ⟨_, _, _, fa7, T.c_Lab, T.n_Lab_firsts, _, rfl, d1, rfl, _, .inl (s7 _ _ f16), ?_⟩
  intro p hp
  have f17 := s7 _ _ f16
  have f27 := s7 _ _ f26
  have fl7 := s7 _ _ gl
  have gy7 : DAs M H7 ys (L.mv.map Mv.d) := (gy.keep (Keep.of s7)).sub fun _ h => List.mem_cons_of_mem _ h
  have s7H : Keep [a] H H7 := s6H.trans (Keep.of s7)
  refine ⟨_, _, _, (upd_ne (ne_of_none fa7 hp)).trans fa7, T.c_Lab, T.n_Lab_names, (show (3 : Nat) < 1000 by omega), _, _, _, upd_same, T.c_Lab, T.n_Lab_words, _, rfl, d2, rfl, _, .inl ((upd_ne a2).trans ((upd_ne (ne_of_none f27 hp)).trans f27)), fun q hq' => ?_⟩
  obtain ⟨nq1, aq⟩ := up_none hq'
  obtain ⟨nq, pq⟩ := up_none nq1
  refine ⟨_, _, _, (upd_ne aq.symm).trans upd_same, T.c_Lab, T.n_Lab_row_names, (show (4 : Nat) < 1000 by omega), ?_⟩
  have t7 : Trk M H7 := fun b hb => by
    obtain ⟨o, eo⟩ := tM b hb
    exact ⟨o, s7H b o (by simp; intro z; rw [z] at hb; exact na hb) eo⟩
  have np : p ∉ M := t7.new hp
  have nq' : q ∉ M := t7.new nq
  refine kY (by unfold chkLab; rw [gc, gd, gv, ef]; rfl) _ ?_ ?_
  · refine s7H.trans fun b o nb e => ?_
    have nb : b ≠ a := by simpa using nb
    rw [upd_ne nb, upd_ne (ne_of_none e nq), upd_ne nb, upd_ne (ne_of_none e hp)]
    exact e
  · have at_ : ∀ {b : Addr} {o : HO} {u v : HO}, b ≠ a → H7 b = some o → (upd (upd (upd (upd H7 p (.lst ((kvS L.ms).map fun kv => kV kv.1))) a u) q (.lst ((kvS L.rs).map fun kv => kV kv.1))) a v) b = some o := fun nb e => by
      rw [upd_ne nb, upd_ne (ne_of_none e nq), upd_ne nb, upd_ne (ne_of_none e hp)]
      exact e
    have kD : ∀ {u v : HO}, KeepD M H7 (upd (upd (upd (upd H7 p (.lst ((kvS L.ms).map fun kv => kV kv.1))) a u) q (.lst ((kvS L.rs).map fun kv => kV kv.1))) a v) :=
      ⟨fun b xs _ e => at_ (fun z => by rw [z, fa7] at e; cases e) e, fun b xs _ e => at_ (fun z => by rw [z, fa7] at e; cases e) e⟩
    refine ⟨a, dx, d1, d2, l, p, q, ys, rfl, upd_same, at_ a1.symm f17, at_ a2 f27, at_ al fl7, gy7.keepD kD, ?_, ?_, na, m1, m2, ml, np, nq'⟩
    · have pa : p ≠ a := (ne_of_none fa7 hp).symm
      rw [upd_ne pa, upd_ne pq.symm, upd_ne pa, upd_same, kvS_names]
    · rw [upd_ne aq, upd_same, kvS_names]

theorem initX_len {Sq : PySem.W.Frag → Hp → Addr → List V → Prop} : ∀ vs H Q E, spLabInitX K Sq vs H Q E → vs.length = 4 := fun vs H Q E h => by
  obtain ⟨M, a, dx, mp, rp, vp, mxs, rxs, vxs, L, rfl, _⟩ := h
  rfl
theorem ok_Lab_init (T : TX w K mg) : MakE P w K mg base 7 "Lab" (He.ga K "Lab") [] (spLabInitX K SqL) := by
  obtain ⟨fd, F⟩ := T.fd_Lab_init
  obtain ⟨ds, vd, b⟩ := F.binds1 (ps := ["self", "machines", "rows", "moves"]) 4 3 (List.cons_ne_nil _ _) rfl (fun _ _ _ _ _ _ _ us its h1 h2 => match us, its, h1, h2 with | [_, _, _, _], [_, _, _], _, _ => ⟨_, rfl, rfl⟩)
  exact ⟨_, fd, _, ds, F.ok sc_Lab_init initX_len (body_Lab_initL T _), T.mk_Lab, T.g_Lab, b, vd⟩
/-- the empty tuples that fill up -/
abbrev dfl3 (K : PySem.W.Frag) : List V := [.ref (He.dflAt ("Lab", some "__init__") 0 K), .ref (He.dflAt ("Lab", some "__init__") 1 K), .ref (He.dflAt ("Lab", some "__init__") 2 K)]
theorem ok_Lab_init0 (T : TX w K mg) : MakE P w K mg base 7 "Lab" (He.ga K "Lab") (dfl3 K) (spLabInitX K SqT) := by
  obtain ⟨fd, F⟩ := T.fd_Lab_init
  obtain ⟨ds, vd, b⟩ := F.binds1 (ps := ["self", "machines", "rows", "moves"]) 1 0 (List.cons_ne_nil _ _) rfl (fun _ _ _ _ _ _ _ us its h1 h2 => match us, its, h1, h2 with | [_], [_, _, _], _, _ => ⟨_, rfl, rfl⟩)
  exact ⟨_, fd, _, ds, F.ok sc_Lab_init initX_len (body_Lab_initT T _), T.mk_Lab, T.g_Lab, b, vd⟩
end
theorem sqL_of {M : List Addr} {K : PySem.W.Frag} {H : Hp} {a p : Addr} {xs : List V} (h : H p = some (.lst xs)) (n : p ∉ M) (na : p ≠ a) : ∀ H' l, H l = none → KeepD (a :: l :: M) H H' → SqL K H' p xs := fun H' l hl kk =>
  .inl (.inl (kk.1 _ _ (by simp; exact ⟨na, ne_of_none h hl, n⟩) h))
/-! ### deeds -/
inductive Deed where
  | lab (n : Str) | drop (n : Str) | machine (n m f : Str) | row (n r w : Str) | move (n : Str) (v : Mv) | strike (n : Str) (i : Int) | wish (n : Str) (w : Wish) | unwish (n : Str)
def onLab (st : St) (n : Str) (g : Lab → Option Str) : Option Str := match getK n st.labs with
  | none => some "nolab"
  | some L => g L
def editL (st : St) (n : Str) (g : Lab → Lab) : St := match getK n st.labs with
  | none => st
  | some L => ⟨setK n (g L) st.labs, st.wishes⟩
def wishOk (L : Lab) (w : Wish) : Bool :=
  !(decide ((uniq (w.st.map (·.1))).length < w.st.length) || decide ((uniq (w.wd.map (·.1))).length < w.wd.length)) && ((w.st.all fun p => hasK p.1 L.ms && isName p.2) && w.wd.all fun p => hasK p.1 L.rs && wordOf p.2 0 8)
/-- why the program refuses the deed -/
def dueP (st : St) : Deed → Option Str
  | .lab n => thn1 (okIf (isName n) "badname") (thn1 (okIf (!hasK n st.labs) "taken") (okIf (decide (st.labs.length < 6)) "full"))
  | .drop n => onLab st n fun _ => none
  | .machine n m f => onLab st n fun L => chkLab ⟨L.ms ++ [(m, f)], L.rs, L.mv⟩
  | .row n r z => onLab st n fun L => chkLab ⟨L.ms, L.rs ++ [(r, z)], L.mv⟩
  | .move n v => onLab st n fun L => chkLab ⟨L.ms, L.rs, L.mv ++ [v]⟩
  | .strike n i => onLab st n fun L => thn1 (okIf (inB i L.mv.length) "nomove") (chkLab ⟨L.ms, L.rs, L.mv.eraseIdx i.toNat⟩)
  | .wish n w => thn1 (okIf (isName n) "badname") (thn1 (okIf (!hasK n st.wishes) "taken") (onLab st w.lab fun L => thn1 (okIf (wishOk L w) "badwish") (okIf (decide (st.wishes.length < 12)) "full")))
  | .unwish n => okIf (hasK n st.wishes) "nowish"
def after (st : St) : Deed → St
  | .lab n => ⟨setK n ⟨[], [], []⟩ st.labs, st.wishes⟩
  | .drop n => ⟨delK n st.labs, st.wishes.filter fun p => decide (p.2.lab ≠ n)⟩
  | .machine n m f => editL st n fun L => ⟨L.ms ++ [(m, f)], L.rs, L.mv⟩
  | .row n r z => editL st n fun L => ⟨L.ms, L.rs ++ [(r, z)], L.mv⟩
  | .move n v => editL st n fun L => ⟨L.ms, L.rs, L.mv ++ [v]⟩
  | .strike n i => editL st n fun L => ⟨L.ms, L.rs, L.mv.eraseIdx i.toNat⟩
  | .wish n w => ⟨st.labs, setK n w st.wishes⟩
  | .unwish n => ⟨st.labs, delK n st.wishes⟩
/-! ### dicts of names -/
inductive KR {α : Type} (R : V → α → Prop) : List (Key × V) → List (Str × α) → Prop
  | nil : KR R [] []
  | cons {z : Str} {v : V} {a : α} {r : List (Key × V)} {t : List (Str × α)} : R v a → KR R r t → KR R ((.inr z, v) :: r) ((z, a) :: t)
section
variable {α : Type} {R R' : V → α → Prop} {kvs : List (Key × V)} {l : List (Str × α)}
theorem KR.imp (h : KR R kvs l) (f : ∀ v a, R v a → R' v a) : KR R' kvs l := by
  induction h with
  | nil => exact .nil
  | cons r _ ih => exact .cons (f _ _ r) ih
theorem KR.length (h : KR R kvs l) : kvs.length = l.length := by
  induction h with
  | nil => rfl
  | cons r _ ih => exact congrArg Nat.succ ih
theorem KR.val (h : KR R kvs l) (z : Str) : (∀ a, getK z l = some a → ∃ v, valV kvs (.inr z) = some v ∧ R v a) ∧ (getK z l = none → valV kvs (.inr z) = none) := by
  induction h with
  | nil => exact ⟨fun a e => (by cases e), fun _ => rfl⟩
  | @cons y v a r t ra _ ih =>
    by_cases e : y = z
    · subst e
      have e1 : getK y ((y, a) :: t) = some a := by unfold getK; rw [List.find?_cons_of_pos (by simp)]; rfl
      rw [e1, valV_pos rfl]
      exact ⟨fun b eb => (by cases eb; exact ⟨v, rfl, ra⟩), fun z => (by cases z)⟩
    · have e1 : getK z ((y, a) :: t) = getK z t := by unfold getK; rw [List.find?_cons_of_neg (by simpa using e)]
      rw [e1, valV_neg (fun h => e (Sum.inr.inj h))]
      exact ih
theorem KR.isSome (h : KR R kvs l) (z : Str) : (valV kvs (.inr z)).isSome = hasK z l := by
  rw [hasK_get]
  cases e : getK z l with
  | none => rw [(h.val z).2 e]; rfl
  | some a =>
    obtain ⟨v, e2, _⟩ := (h.val z).1 a e
    rw [e2]
    rfl
theorem KR.names (h : KR R kvs l) : kvs.map (fun kv => kV kv.1) = l.map fun p => V.str p.1 := by
  induction h with
  | nil => rfl
  | cons _ _ ih => rw [List.map_cons, ih]; rfl
theorem KR.at (h : KR R kvs l) : ∀ {i : Nat} {k : Key} {v : V}, kvs[i]? = some (k, v) → ∃ z a, k = .inr z ∧ l[i]? = some (z, a) ∧ R v a := by
  induction h with
  | nil => intro i k v e; simp at e
  | @cons y v a r t ra _ ih =>
    intro i k u e
    cases i with
    | zero =>
      cases (show (Sum.inr y, v) = (k, u) from by simpa using e)
      exact ⟨y, a, rfl, rfl, ra⟩
    | succ i => exact ih (i := i) (by simpa using e)
theorem KR.app {kvs' : List (Key × V)} {l' : List (Str × α)} (h : KR R kvs l) (h' : KR R kvs' l') : KR R (kvs ++ kvs') (l ++ l') := by
  induction h with
  | nil => exact h'
  | cons r _ ih => exact .cons r ih
theorem KR.any (h : KR R kvs l) (z : Str) : (kvs.any fun kv => decide (kv.1 = (Sum.inr z : Key))) = hasK z l := by rw [valV_any, h.isSome]
theorem KR.putMap (h : KR R kvs l) (z : Str) {v : V} {a : α} (r : R v a) : KR R (kvs.map fun kv => if kv.1 = .inr z then (kv.1, v) else kv) (l.map fun p => if p.1 = z then (p.1, a) else p) := by
  induction h with
  | nil => exact .nil
  | @cons y u b r' t ra _ ih =>
    rw [List.map_cons, List.map_cons]
    by_cases e : y = z
    · subst e
      rw [if_pos rfl, if_pos rfl]
      exact .cons r ih
    · rw [if_neg (fun q => e (Sum.inr.inj q)), if_neg (show ¬ (y, b).1 = z from e)]
      exact .cons ra ih
theorem KR.put (h : KR R kvs l) (z : Str) {v : V} {a : α} (r : R v a) : KR R (putK kvs (.inr z) v) (setK z a l) := by
  unfold putK setK
  rw [h.any]
  by_cases e : hasK z l = true
  · rw [if_pos e, if_pos e]
    exact h.putMap z r
  · rw [if_neg e, if_neg e]
    exact h.app (.cons r .nil)
theorem KR.drop (h : KR R kvs l) (z : Str) : KR R (dropK kvs (.inr z)) (delK z l) := by
  unfold dropK delK
  induction h with
  | nil => exact .nil
  | @cons y u b r' t ra _ ih =>
    by_cases e : y = z
    · subst e
      rw [List.filter_cons_of_neg (by simp), List.filter_cons_of_neg (by simp)]
      exact ih
    · rw [List.filter_cons_of_pos (by simpa using e), List.filter_cons_of_pos (by simpa using e)]
      exact .cons ra ih
end
/-! ### the program's state -/
structure PStA (K : PySem.W.Frag) (M : List Addr) (H : Hp) (p d1 d2 : Addr) (k1 k2 : List (Key × V)) (st : St) : Prop where
  np : p ∉ M
  n1 : d1 ∉ M
  n2 : d2 ∉ M
  hp : H p = some (.tup [.ref d1, .ref d2])
  h1 : H d1 = some (.dK k1)
  h2 : H d2 = some (.dK k2)
  r1 : KR (PLab K M H) k1 st.labs
  r2 : KR (fun v w => DA M H v (Wish.d w)) k2 st.wishes
def PState (K : PySem.W.Frag) (M : List Addr) (H : Hp) (v : V) (st : St) : Prop := ∃ p d1 d2 k1 k2, v = .ref p ∧ PStA K M H p d1 d2 k1 k2 st
theorem PStA.keep {K : PySem.W.Frag} {M : List Addr} {H H' : Hp} {p d1 d2 : Addr} {k1 k2 : List (Key × V)} {st : St} (h : PStA K M H p d1 d2 k1 k2 st) (k : Keep M H H') : PStA K M H' p d1 d2 k1 k2 st :=
  ⟨h.np, h.n1, h.n2, k _ _ h.np h.hp, k _ _ h.n1 h.h1, k _ _ h.n2 h.h2, h.r1.imp fun v a r => PLab.keep r k, h.r2.imp fun v a r => DA.keep k r⟩
theorem PState.keep {K : PySem.W.Frag} {M : List Addr} {H H' : Hp} {v : V} {st : St} (h : PState K M H v st) (k : Keep M H H') : PState K M H' v st := by
  obtain ⟨p, d1, d2, k1, k2, e, h⟩ := h
  exact ⟨p, d1, d2, k1, k2, e, h.keep k⟩
end K51


set_option Elab.async false
set_option linter.all false
set_option maxRecDepth 100000
set_option maxHeartbeats 4000000
set_option pp.deepTerms true
set_option pp.maxSteps 100000
namespace K51
open PySem PySem.Spec PyProof.Rows L2
structure FineL (L : Lab) : Prop where
  o1 : OnceK L.ms
  o2 : OnceK L.rs
  s1 : ShortP L.ms
  s2 : ShortP L.rs
  s3 : ShortV L.mv
  l1 : L.ms.length ≤ 100
  l2 : L.rs.length ≤ 100
  l3 : L.mv.length ≤ 100
structure Fine (st : St) : Prop where
  l1 : st.labs.length ≤ 100
  l2 : st.wishes.length ≤ 100
  ok : ∀ n L, getK n st.labs = some L → FineL L
theorem DAs.erase {M : List Addr} {H : Hp} : ∀ {xs : List V} {ds : List D} (i : Nat), DAs M H xs ds → DAs M H (xs.eraseIdx i) (ds.eraseIdx i)
  | [], [], _, _ => by simp; exact DAs.nil
  | x :: xs, d :: ds, 0, h => (DAs.cons_iff.mp h).2
  | x :: xs, d :: ds, i + 1, h => DAs.cons (DAs.cons_iff.mp h).1 (DAs.erase i (DAs.cons_iff.mp h).2)
  | [], _ :: _, _, h => by unfold DAs at h; exact h.elim
  | _ :: _, [], _, h => by unfold DAs at h; exact h.elim
theorem erase_map {α β : Type} (f : α → β) : ∀ (l : List α) (i : Nat), (l.map f).eraseIdx i = (l.eraseIdx i).map f
  | [], _ => rfl
  | _ :: _, 0 => rfl
  | x :: r, i + 1 => by
    show f x :: (r.map f).eraseIdx i = f x :: (r.eraseIdx i).map f
    rw [erase_map f r i]
theorem mk_same {H : Hp} {x dx : Addr} {u v : HO} (h1 : H x = none) (h2 : H dx = none) : Same H (upd (upd H dx u) x v) := fun b o e => by
  rw [upd_ne (ne_of_none e h1), upd_ne (ne_of_none e h2)]
  exact e
theorem lab_make {K : PySem.W.Frag} {M : List Addr} {H : Hp} {x dx mp rp vp : Addr} {mxs rxs vxs : List V} {L : Lab} {Q : VK} {E : XK} (tM : Trk M H) (nx : H x = none) (nd : H dx = none) (hm : H mp = some (.lst mxs)) (hr : H rp = some (.lst rxs)) (hv : H vp = some (.lst vxs)) (m1 : mp ∉ M) (m2 : rp ∉ M) (m3 : vp ∉ M)
    (dm : DAs M H mxs (L.ms.map pairD)) (dr : DAs M H rxs (L.rs.map pairD)) (dv : DAs M H vxs (L.mv.map Mv.d)) (s1 : ShortP L.ms) (s2 : ShortP L.rs) (s3 : ShortV L.mv) (kY : chkLab L = none → ∀ H', Same H H' → PLab K M H' (.ref x) L → Q (.ref x) H') (kN : ∀ wd, chkLab L = some wd → Refuse K wd H E) :
    spLabInitX K SqL [.ref x, .ref mp, .ref rp, .ref vp] (upd (upd H dx (.own x)) x (.ins (He.ga K "Lab") dx [])) (fun v H2 => v = .non ∧ Q (.ref x) H2) E := by
  have sm : Same H (upd (upd H dx (.own x)) x (.ins (He.ga K "Lab") dx [])) := mk_same nx nd
  refine ⟨M, x, dx, mp, rp, vp, mxs, rxs, vxs, L, rfl, tM.new nx, tM.same sm, upd_same, fun H' l hl kk => ?_, dm.keep (Keep.of sm), dr.keep (Keep.of sm), dv.keep (Keep.of sm), s1, s2, s3, fun e H' k p => ⟨rfl, kY e H' (Same.keepL nx sm k) p⟩, fun wd e C d H' ie h k => kN wd e C d H' ie h (Same.keepL nx sm k)⟩
  exact ⟨sqL_of (sm _ _ hm) m1 (ne_of_none hm nx) H' l hl kk, sqL_of (sm _ _ hr) m2 (ne_of_none hr nx) H' l hl kk, sqL_of (sm _ _ hv) m3 (ne_of_none hv nx) H' l hl kk⟩
def spLabAt (K : PySem.W.Frag) : Sp := fun vs H Q E => ∃ (M : List Addr) (v : V) (st : St) (n : Str), vs = [v, .str n] ∧ PState K M H v st ∧ (∀ L lv, getK n st.labs = some L → PLab K M H lv L → Q lv H) ∧ (getK n st.labs = none → Refuse K "nolab" H E)
def spWithLab (K : PySem.W.Frag) : Sp := fun vs H Q _ => ∃ (M : List Addr) (v lv : V) (st : St) (n : Str) (L : Lab), vs = [v, .str n, lv] ∧ PState K M H v st ∧ Trk M H ∧ PLab K M H lv L ∧ st.labs.length ≤ 100 ∧ ∀ H' v', Same H H' → PState K M H' v' ⟨setK n L st.labs, st.wishes⟩ → Q v' H'
def DoRes (K : PySem.W.Frag) (M : List Addr) (H : Hp) (v : V) (st : St) (d : Deed) (Q : VK) (E : XK) : Prop := PState K M H v st ∧ Trk M H ∧ Fine st ∧ Res K (dueP st d) (∀ H' v', Same H H' → PState K M H' v' (after st d) → Q v' H') H E
def spDoLab (K : PySem.W.Frag) : Sp := fun vs H Q E => ∃ (M : List Addr) (v : V) (st : St) (n : Str), vs = [v, .str n] ∧ Short n ∧ DoRes K M H v st (.lab n) Q E
def spDoMachine (K : PySem.W.Frag) : Sp := fun vs H Q E => ∃ (M : List Addr) (v : V) (st : St) (n m f : Str), vs = [v, .str n, .str m, .str f] ∧ Short m ∧ Short f ∧ DoRes K M H v st (.machine n m f) Q E
def spDoRow (K : PySem.W.Frag) : Sp := fun vs H Q E => ∃ (M : List Addr) (v : V) (st : St) (n m f : Str), vs = [v, .str n, .str m, .str f] ∧ Short m ∧ Short f ∧ DoRes K M H v st (.row n m f) Q E
def spDoMove (K : PySem.W.Frag) : Sp := fun vs H Q E => ∃ (M : List Addr) (v : V) (st : St) (n : Str) (m : Mv) (av : V), vs = [v, .str n, .str m.m, .str m.s, av, .str m.e] ∧ DA M H av m.a.d ∧ m.Short ∧ DoRes K M H v st (.move n m) Q E
def spDoStrike (K : PySem.W.Frag) : Sp := fun vs H Q E => ∃ (M : List Addr) (v : V) (st : St) (n : Str) (i : Int), vs = [v, .str n, .int i] ∧ DoRes K M H v st (.strike n i) Q E
theorem lab_put {K : PySem.W.Frag} {M : List Addr} {H H3 : Hp} {v : V} {st : St} {n : Str} {mp rp vp : Addr} {mxs rxs vxs : List V} {L : Lab} {Q : VK} {E : XK} (ps : PState K M H v st) (tM : Trk M H) (hl : st.labs.length ≤ 100) (s3 : Same H H3) (hm : H3 mp = some (.lst mxs)) (hr : H3 rp = some (.lst rxs)) (hv : H3 vp = some (.lst vxs))
    (m1 : mp ∉ M) (m2 : rp ∉ M) (m3 : vp ∉ M) (dm : DAs M H3 mxs (L.ms.map pairD)) (dr : DAs M H3 rxs (L.rs.map pairD)) (dv : DAs M H3 vxs (L.mv.map Mv.d)) (z1 : ShortP L.ms) (z2 : ShortP L.rs) (z3 : ShortV L.mv)
    (k : Res K (chkLab L) (∀ H' v', Same H H' → PState K M H' v' ⟨setK n L st.labs, st.wishes⟩ → Q v' H') H E) : ∀ x dx : Addr, H3 x = none → H3 dx = none → dx ≠ x →
      spLabInitX K SqL [.ref x, .ref mp, .ref rp, .ref vp] (upd (upd H3 dx (.own x)) x (.ins (He.ga K "Lab") dx [])) (fun v1 H2 => v1 = .non ∧ spWithLab K [v, .str n, .ref x] H2 Q E0) E := fun x dx nx ndx _ =>
  lab_make (Q := fun u H2 => spWithLab K [v, .str n, u] H2 Q E0) (tM.same s3) nx ndx hm hr hv m1 m2 m3 dm dr dv z1 z2 z3 (fun e H' s4 pl => ⟨M, v, .ref x, st, n, L, rfl, ps.keep (Keep.of (s3.trans s4)), tM.same (s3.trans s4), pl, hl, fun H2 v2 s5 p2 => k.yes e H2 v2 ((s3.trans s4).trans s5) p2⟩) fun wd e => (k.no e).mono s3
theorem editL_some {st : St} {n : Str} {L : Lab} {g : Lab → Lab} (h : getK n st.labs = some L) : editL st n g = ⟨setK n (g L) st.labs, st.wishes⟩ := by
  unfold editL
  rw [h]
theorem ShortP.app {l : List (Str × Str)} {m f : Str} (h : ShortP l) (hl : l.length ≤ 100) (h1 : Short m) (h2 : Short f) : ShortP (l ++ [(m, f)]) :=
  ⟨by rw [List.length_append]; simp; omega, fun p hp => (List.mem_append.mp hp).elim (h.2 p) fun e => by
    have e : p = (m, f) := by simpa using e
    rw [e]
    exact ⟨h1, h2⟩⟩
theorem ShortV.app {l : List Mv} {m : Mv} (h : ShortV l) (hl : l.length ≤ 100) (h1 : m.Short) : ShortV (l ++ [m]) :=
  ⟨by rw [List.length_append]; simp; omega, fun p hp => (List.mem_append.mp hp).elim (h.2 p) fun e => by
    have e : p = m := by simpa using e
    rw [e]
    exact h1⟩
section
variable {P : Program} {w : World} {K : PySem.W.Frag} {mg : Str → Option Value} {base : Heap}
abbrev N_lab_at : List Str := ["state", "name", "labs", "wishes"]
theorem sc_lab_at : FnScope N_lab_at ["state", "name"] (defScope s_lab_at) := ⟨rfl, rfl, rfl, by decide +kernel, rfl, by decide +kernel, by decide +kernel⟩
theorem b_lab_at : Bnd0 d_lab_at.name d_lab_at.qual d_lab_at.params d_lab_at.body d_lab_at.scope ["state", "name"] := fun _ _ _ _ _ _ us hl => match us, hl with | [_, _], _ => rfl
theorem ok_lab_at (T : TX w K mg) : CalE P w K mg base 4 "lab_at" [] (spLabAt K) := by
  refine cal_of T.fd_lab_at T.g_lab_at sc_lab_at b_lab_at (fun vs H Q E h => ?_) (fun cdv A outer s H vs Q E hr h => ?_)
  · obtain ⟨M, v, st, n, rfl, _⟩ := h
    rfl
  obtain ⟨M, v, st, n, rfl, ⟨p, d1, d2, k1, k2, rfl, h⟩, kY, kN⟩ := h
  have nd := sc_lab_at.nd
  have hu := hu_of hr
  refine ⟨_, (pss_cons (ps_asg (pv 0) (pg_tup (n := 2) (by rfl) (pgs_cons (pg_name (i := 2) nd rfl (Or.inl rfl)) (pgs_cons (pg_name (i := 3) nd rfl (Or.inl rfl)) pgs_nil))))
      (pss_cons (ps_if (pt_cmp (pc_dnotin hu (pv 1) (pv 2)))
      (pss_one (ps_raise rfl (takes_of rfl rfl rfl rfl) (pmk_err (ok_NoLab_init T) (hr.mono (by decide)) rfl)))
      pss_nil)
      (pss_one (ps_ret (pe_dget hu (pv 2) (pv 1) (fun _ _ => rfl)))))), ?_⟩
  simp only [tSeq, tDrop, tVar, tC, tCall, tCons, tNil, tFld, sFld, sDPut, tDGet, tRet, tRetN, tIfS, tTest, tB, tNot, tAnd, tOr, tOp, tUn, rI0, rI, tNext, tDIn, tDNotIn, tDNewK, tIf, tAndV, tOrV, tNotV, tAsg, gName, gCons, gNil, gTup, tPar, tTup, tLst, tMeth, tCB, rEq, rNe, tBM, rAppend, tBM0, tChain, rIxL, rIxT, rIxS, rIx, L2.start, cxK, cxW, kV_inr, List.map_cons, List.map_nil, List.length_cons, List.length_nil, List.replicate, List.cons_append, List.nil_append, List.append_nil, List.getElem?_cons_zero, List.getElem?_cons_succ, List.set_cons_zero, List.set_cons_succ, Option.some.injEq, V.ref.injEq, V.str.injEq, V.int.injEq, V.bl.injEq, exists_eq, exists_eq', exists_eq_left, exists_eq_left', exists_and_left, exists_and_right, List.cons.injEq, and_true, true_and, and_assoc]
  refine ⟨_, .inl (.inl h.hp), rfl, _, _, rfl, _, _, rfl, rfl, d1, rfl, _, DGet.k (k := .inr n) h.h1, ?_⟩
  cases hc : getK n st.labs with
  | none =>
    rw [(h.r1.val n).2 hc]
    exact iteT ((kN hc).go T.ie_NoLab)
  | some L =>
    obtain ⟨lv, e, pl⟩ := (h.r1.val n).1 L hc
    rw [e]
    exact iteF ⟨d1, rfl, lv, by rw [← e]; exact DGet.k (k := .inr n) h.h1, kY L lv hc pl⟩
abbrev N_with_lab : List Str := ["state", "name", "lab", "labs", "wishes", "later"]
theorem sc_with_lab : FnScope N_with_lab ["state", "name", "lab"] (defScope s_with_lab) := ⟨rfl, rfl, rfl, by decide +kernel, rfl, by decide +kernel, by decide +kernel⟩
theorem b_with_lab : Bnd0 d_with_lab.name d_with_lab.qual d_with_lab.params d_with_lab.body d_with_lab.scope ["state", "name", "lab"] := fun _ _ _ _ _ _ us hl => match us, hl with | [_, _, _], _ => rfl
theorem ok_with_lab (T : TX w K mg) : CalE P w K mg base 1 "with_lab" [] (spWithLab K) := by
  refine cal_of T.fd_with_lab T.g_with_lab sc_with_lab b_with_lab (fun vs H Q E h => ?_) (fun cdv A outer s H vs Q E hr h => ?_)
  · obtain ⟨M, v, lv, st, n, L, rfl, _⟩ := h
    rfl
  obtain ⟨M, v, lv, st, n, L, rfl, ⟨p, d1, d2, k1, k2, rfl, h⟩, tM, hl, hlen, k⟩ := h
  have nd := sc_with_lab.nd
  have hu := hu_of hr
  refine ⟨_, (pss_cons (ps_asg (pv 0) (pg_tup (n := 2) (by rfl) (pgs_cons (pg_name (i := 3) nd rfl (Or.inl rfl)) (pgs_cons (pg_name (i := 4) nd rfl (Or.inl rfl)) pgs_nil))))
      (pss_cons (ps_set (i := 5) nd rfl (Or.inl rfl) (pe_callTy call_dictD (by rfl) T.f_dict (by decide +kernel) (pa_cons (pv 3) pa_nil)))
      (pss_cons (ps_dput hu (pv 5) (pv 1) (pv 2) rfl)
      (pss_one (ps_ret (pe_tup (pa_cons (pv 5) (pa_cons (pv 4) pa_nil)))))))), ?_⟩
  simp only [tSeq, tDrop, tVar, tC, tCall, tCons, tNil, tFld, sFld, sDPut, tDGet, tRet, tRetN, tIfS, tTest, tB, tNot, tAnd, tOr, tOp, tUn, rI0, rI, tNext, tDIn, tDNotIn, tDNewK, tIf, tAndV, tOrV, tNotV, tAsg, gName, gCons, gNil, gTup, tPar, tTup, tLst, tMeth, tCB, rEq, rNe, tBM, rAppend, tBM0, tChain, rIxL, rIxT, rIxS, rIx, L2.start, cxK, cxW, kV_inr, List.map_cons, List.map_nil, List.length_cons, List.length_nil, List.replicate, List.cons_append, List.nil_append, List.append_nil, List.getElem?_cons_zero, List.getElem?_cons_succ, List.set_cons_zero, List.set_cons_succ, Option.some.injEq, V.ref.injEq, V.str.injEq, V.int.injEq, V.bl.injEq, exists_eq, exists_eq', exists_eq_left, exists_eq_left', exists_and_left, exists_and_right, List.cons.injEq, and_true, true_and, and_assoc]
  refine ⟨_, .inl (.inl h.hp), rfl, _, _, rfl, _, _, rfl, rfl, d1, rfl, k1, .inl h.h1, fun d hd => ⟨_, DPut.k (k := .inr n) upd_same (by rw [h.r1.length, sizeLine_eq]; omega), by rw [sizeLine_eq]; omega, fun q hq => ?_⟩⟩
  have s1 : Same H (upd (upd H d (.dK k1)) d (.dK (putK k1 (.inr n) lv))) := fun b o e => by
    have nb := ne_of_none e hd
    rw [upd_ne nb, upd_ne nb]
    exact e
  have s2 := s1.trans (Same.up (o := .tup [.ref d, .ref d2]) hq)
  have nq := (tM.same s1).new hq
  have dq : d ≠ q := fun z => by rw [z, upd_same] at hq; cases hq
  refine k _ _ s2 ⟨q, d, d2, _, k2, rfl, nq, tM.new hd, h.n2, upd_same, (upd_ne dq).trans upd_same, s2 _ _ h.h2, ?_, h.r2.imp fun v a r => DA.keep (Keep.of s2) r⟩
  exact (h.r1.imp fun v a r => PLab.keep r (Keep.of s2)).put n (hl.keep (Keep.of s2))
abbrev N_do_lab : List Str := ["state", "name"]
theorem sc_do_lab : FnScope N_do_lab ["state", "name"] (defScope s_do_lab) := ⟨rfl, rfl, rfl, by decide +kernel, rfl, by decide +kernel, by decide +kernel⟩
theorem b_do_lab : Bnd0 d_do_lab.name d_do_lab.qual d_do_lab.params d_do_lab.body d_do_lab.scope ["state", "name"] := fun _ _ _ _ _ _ us hl => match us, hl with | [_, _], _ => rfl
theorem ok_do_lab (T : TX w K mg) : CalE P w K mg base 9 "do_lab" [] (spDoLab K) := by
  refine cal_of T.fd_do_lab T.g_do_lab sc_do_lab b_do_lab (fun vs H Q E h => ?_) (fun cdv A outer s H vs Q E hr h => ?_)
  · obtain ⟨M, v, st, n, rfl, _⟩ := h
    rfl
  obtain ⟨M, v, st, n, rfl, hn, ⟨p, d1, d2, k1, k2, rfl, h⟩, tM, fi, k⟩ := h
  have nd := sc_do_lab.nd
  refine ⟨_, (pss_cons (ps_expr (pe_cal (ok_need_name T) (hr.mono (by decide)) rfl px (pa_cons (pv 1) pa_nil)))
      (pss_cons (ps_expr (pe_cal (ok_need_fresh T) (hr.mono (by decide)) rfl px (pa_cons (pv 1) (pa_cons (pe_ix ix_tup (pv 0) pe_int (fun _ _ => rfl)) pa_nil))))
      (pss_cons (ps_if (pt_cmpR op_ge (pe_callB call_lenD (by rfl) T.f_len PySem.boot_len (pa_cons (pe_ix ix_tup (pv 0) pe_int (fun _ _ => rfl)) pa_nil)) (pe_kint rfl T.i_MOST_LABS) (nomark _))
      (pss_one (ps_raise rfl (takes_of rfl rfl rfl rfl) (pmk_err (ok_Full_init T) (hr.mono (by decide)) rfl)))
      pss_nil)
      (pss_one (ps_ret (pe_cal (ok_with_lab T) (hr.mono (by decide)) rfl passL (pa_cons (pv 0) (pa_cons (pv 1) (pa_cons (pe_makE0 (ok_Lab_init0 T) (hr.mono (by decide)) rfl px) pa_nil))))))))), ?_⟩
  simp only [tSeq, tDrop, tVar, tC, tCall, tCons, tNil, tFld, sFld, sDPut, tDGet, tRet, tRetN, tIfS, tTest, tB, tNot, tAnd, tOr, tOp, tUn, rI0, rI, tNext, tDIn, tDNotIn, tDNewK, tIf, tAndV, tOrV, tNotV, tAsg, gName, gCons, gNil, gTup, tPar, tTup, tLst, tMeth, tCB, rEq, rNe, tBM, rAppend, tBM0, tChain, rIxL, rIxT, rIxS, rIx, L2.start, cxK, cxW, kV_inr, List.map_cons, List.map_nil, List.length_cons, List.length_nil, List.replicate, List.cons_append, List.nil_append, List.append_nil, List.getElem?_cons_zero, List.getElem?_cons_succ, List.set_cons_zero, List.set_cons_succ, Option.some.injEq, V.ref.injEq, V.str.injEq, V.int.injEq, V.bl.injEq, exists_eq, exists_eq', exists_eq_left, exists_eq_left', exists_and_left, exists_and_right, List.cons.injEq, and_true, true_and, and_assoc, spNeedName, tMake]
  obtain ⟨k0, r1⟩ := Res.split k
  refine ⟨hn, Res.mk (fun e1 H1 s1 => ?_) r1⟩
  refine ⟨_, .inl (.inl (s1 _ _ h.hp)), .ref d1, rfl, n, d1, k1, rfl, s1 _ _ h.h1, ?_⟩
  have ek : keyIn n k1 = hasK n st.labs := h.r1.isSome n
  rw [ek]
  obtain ⟨k0, r2⟩ := Res.split (k0 e1)
  refine Res.mk (fun e2 => ?_) fun wd e => (r2 wd e).mono s1
  refine ⟨_, .inl (.inl (s1 _ _ h.hp)), .ref d1, rfl, d1, rfl, k1, s1 _ _ h.h1, ?_⟩
  have k3 := k0 e2
  rw [h.r1.length]
  by_cases c : st.labs.length < 6
  · rw [if_neg (fun z => by have := of_decide_eq_true z; omega)]
    intro x dx nx ndx dxx
    have sm := mk_same (u := .own x) (v := .ins (He.ga K "Lab") dx []) nx ndx
    have t1 := tM.same s1
    refine ⟨M, x, dx, _, _, _, [], [], [], ⟨[], [], []⟩, rfl, t1.new nx, t1.same sm, upd_same, fun H' l _ _ => T.tup0 H', DAs.nil, DAs.nil, DAs.nil, ⟨by simp, by simp⟩, ⟨by simp, by simp⟩, ⟨by simp, by simp⟩, fun _ H' kk pl => ⟨rfl, ?_⟩, fun wd e => by cases e⟩
    have s2 : Same H1 H' := Same.keepL nx sm kk
    have s12 := s1.trans s2
    refine ⟨M, _, _, st, n, ⟨[], [], []⟩, rfl, PState.keep ⟨p, d1, d2, k1, k2, rfl, h⟩ (Keep.of s12), tM.same s12, pl, fi.l1, fun H2 v2 s3 ps => k3.yes (by rw [decide_eq_true c]; rfl) H2 v2 (s12.trans s3) ps⟩
  · rw [if_pos (decide_eq_true (by omega))]
    exact ((k3.no (by rw [decide_eq_false c]; rfl)).mono s1).go T.ie_Full
abbrev N_do_machine : List Str := ["state", "name", "machine", "first", "lab"]
theorem sc_do_machine : FnScope N_do_machine ["state", "name", "machine", "first"] (defScope s_do_machine) := ⟨rfl, rfl, rfl, by decide +kernel, rfl, by decide +kernel, by decide +kernel⟩
theorem b_do_machine : Bnd0 d_do_machine.name d_do_machine.qual d_do_machine.params d_do_machine.body d_do_machine.scope ["state", "name", "machine", "first"] := fun _ _ _ _ _ _ us hl => match us, hl with | [_, _, _, _], _ => rfl
theorem ok_do_machine (T : TX w K mg) : CalE P w K mg base 9 "do_machine" [] (spDoMachine K) := by
  refine cal_of T.fd_do_machine T.g_do_machine sc_do_machine b_do_machine (fun vs H Q E h => ?_) (fun cdv A outer s H vs Q E hr h => ?_)
  · obtain ⟨M, v, st, n, m, f, rfl, _⟩ := h
    rfl
  obtain ⟨M, v, st, n, m, f, rfl, hm, hf, ps, tM, fi, k⟩ := h
  have nd := sc_do_machine.nd
  refine ⟨_, (pss_cons (ps_set (i := 4) nd rfl (Or.inl rfl) (pe_cal (ok_lab_at T) (hr.mono (by decide)) rfl px (pa_cons (pv 0) (pa_cons (pv 1) pa_nil))))
      (pss_one (ps_ret (pe_cal (ok_with_lab T) (hr.mono (by decide)) rfl passL (pa_cons (pv 0) (pa_cons (pv 1) (pa_cons (pe_makE (ok_Lab_init T) (hr.mono (by decide)) rfl px (pa_cons (pe_op op_cat (pe_metE0 T.c_Lab (ok_Lab_machines T) (hr.mono (by decide)) passL (pv 4)) (pe_lst (pa_cons (pe_tup (pa_cons (pv 2) (pa_cons (pv 3) pa_nil))) pa_nil))) (pa_cons (pe_metE0 T.c_Lab (ok_Lab_rows T) (hr.mono (by decide)) passL (pv 4)) (pa_cons (pe_metE0 T.c_Lab (ok_Lab_moves T) (hr.mono (by decide)) passL (pv 4)) pa_nil)))) pa_nil))))))), ?_⟩
  simp only [tSeq, tDrop, tVar, tC, tCall, tCons, tNil, tFld, sFld, sDPut, tDGet, tRet, tRetN, tIfS, tTest, tB, tNot, tAnd, tOr, tOp, tUn, rI0, rI, tNext, tDIn, tDNotIn, tDNewK, tIf, tAndV, tOrV, tNotV, tAsg, gName, gCons, gNil, gTup, tPar, tTup, tLst, tMeth, tCB, rEq, rNe, tBM, rAppend, tBM0, tChain, rIxL, rIxT, rIxS, rIx, L2.start, cxK, cxW, kV_inr, List.map_cons, List.map_nil, List.length_cons, List.length_nil, List.replicate, List.cons_append, List.nil_append, List.append_nil, List.getElem?_cons_zero, List.getElem?_cons_succ, List.set_cons_zero, List.set_cons_succ, Option.some.injEq, V.ref.injEq, V.str.injEq, V.int.injEq, V.bl.injEq, exists_eq, exists_eq', exists_eq_left, exists_eq_left', exists_and_left, exists_and_right, List.cons.injEq, and_true, true_and, and_assoc, rCat, tMake]
  have k : Res K (onLab st n fun L => chkLab ⟨L.ms ++ [(m, f)], L.rs, L.mv⟩) _ H E := k
  refine ⟨M, v, st, n, rfl, ps, fun L lv hL pl => ?_, fun e => ?_⟩
  · unfold onLab at k
    rw [hL] at k
    have fl := fi.ok n L hL
    obtain ⟨a, dx, d1, d2, l, n1, n2, xs, rfl, pa⟩ := id pl
    refine ⟨a, rfl, dx, _, pa.ins, rfl, M, .ref a, L, rfl, pl, fl.o1, by have := fl.l1; omega, tM, fun H1 p1 x1 s1 np1 hp1 dp1 => ⟨by rw [sizeLine_eq]; omega, fun t ht => ⟨by rw [sizeLine_eq]; omega, fun q hq => ⟨p1, rfl, x1, ?_, [.ref t], upd_same, ?_, fun r hr' => ?_⟩⟩⟩⟩
    · obtain ⟨hq1, _⟩ := up_none hq
      rw [upd_ne (ne_of_none hp1 hq1), upd_ne (ne_of_none hp1 ht)]
      exact hp1
    · rw [dp1.length, List.length_map, sizeLine_eq]
      have := fl.l1
      simp
      omega
    · have s2 : Same H1 (upd H1 t (.tup [.str m, .str f])) := Same.up ht
      have s3 := (s2.trans (Same.up (o := .lst [.ref t]) hq)).trans (Same.up (o := .lst (x1 ++ [.ref t])) hr')
      have t1 := tM.same s1
      have nr : r ∉ M := (((t1.same s2).same (Same.up (o := .lst [.ref t]) hq))).new hr'
      have d3 : DAs M (upd (upd (upd H1 t (.tup [.str m, .str f])) q (.lst [.ref t])) r (.lst (x1 ++ [.ref t]))) (x1 ++ [.ref t]) ((L.ms ++ [(m, f)]).map pairD) := by
        rw [List.map_append]
        refine (dp1.keep (Keep.of s3)).append (DAs.cons (DA.tup2' (t1.new ht) ?_) DAs.nil)
        have e := (Same.up (o := .lst [.ref t]) hq) t _ (upd_same (H := H1) (a := t) (o := .tup [.str m, .str f]))
        exact (Same.up (o := .lst (x1 ++ [.ref t])) hr') t _ e
      have hr2 : (upd (upd (upd H1 t (.tup [.str m, .str f])) q (.lst [.ref t])) r (.lst (x1 ++ [.ref t]))) r = some (.lst (x1 ++ [.ref t])) := upd_same
      have s13 := s1.trans s3
      generalize upd (upd (upd H1 t (.tup [.str m, .str f])) q (.lst [.ref t])) r (.lst (x1 ++ [.ref t])) = H3 at *
      refine ⟨a, rfl, dx, _, s13 _ _ pa.ins, rfl, M, .ref a, L, rfl, pl.keep (Keep.of s13), fl.o2, by have := fl.l2; omega, tM.same s13, fun H4 p4 x4 s4 np4 hp4 dp4 => ?_⟩
      have s14 := s13.trans s4
      refine ⟨a, rfl, dx, _, s14 _ _ pa.ins, rfl, M, .ref a, L, rfl, pl.keep (Keep.of s14), by have := fl.l3; omega, tM.same s14, fun H5 p5 x5 s5 np5 hp5 dp5 => ?_⟩
      have np5 := (tM.same s14).new np5
      have dp5 := dp5.keep (Keep.of s5)
      have s15 := s14.trans s5
      refine lab_put (L := ⟨L.ms ++ [(m, f)], L.rs, L.mv⟩) ps tM fi.l1 s15 ((s4.trans s5) _ _ hr2) (s5 _ _ hp4) hp5 nr np4 np5 (d3.keep (Keep.of (s4.trans s5))) (dp4.keep (Keep.of s5)) dp5 (fl.s1.app fl.l1 hm hf) fl.s2 fl.s3 ?_
      have e : after st (.machine n m f) = ⟨setK n ⟨L.ms ++ [(m, f)], L.rs, L.mv⟩ st.labs, st.wishes⟩ := editL_some hL
      rw [e] at k
      exact k
  · unfold onLab at k
    rw [e] at k
    exact k
abbrev N_do_row : List Str := ["state", "name", "row", "word", "lab"]
theorem sc_do_row : FnScope N_do_row ["state", "name", "row", "word"] (defScope s_do_row) := ⟨rfl, rfl, rfl, by decide +kernel, rfl, by decide +kernel, by decide +kernel⟩
theorem b_do_row : Bnd0 d_do_row.name d_do_row.qual d_do_row.params d_do_row.body d_do_row.scope ["state", "name", "row", "word"] := fun _ _ _ _ _ _ us hl => match us, hl with | [_, _, _, _], _ => rfl
theorem ok_do_row (T : TX w K mg) : CalE P w K mg base 9 "do_row" [] (spDoRow K) := by
  refine cal_of T.fd_do_row T.g_do_row sc_do_row b_do_row (fun vs H Q E h => ?_) (fun cdv A outer s H vs Q E hr h => ?_)
  · obtain ⟨M, v, st, n, m, f, rfl, _⟩ := h
    rfl
  obtain ⟨M, v, st, n, m, f, rfl, hm, hf, ps, tM, fi, k⟩ := h
  have nd := sc_do_row.nd
  refine ⟨_, (pss_cons (ps_set (i := 4) nd rfl (Or.inl rfl) (pe_cal (ok_lab_at T) (hr.mono (by decide)) rfl px (pa_cons (pv 0) (pa_cons (pv 1) pa_nil))))
      (pss_one (ps_ret (pe_cal (ok_with_lab T) (hr.mono (by decide)) rfl passL (pa_cons (pv 0) (pa_cons (pv 1) (pa_cons (pe_makE (ok_Lab_init T) (hr.mono (by decide)) rfl px (pa_cons (pe_metE0 T.c_Lab (ok_Lab_machines T) (hr.mono (by decide)) passL (pv 4)) (pa_cons (pe_op op_cat (pe_metE0 T.c_Lab (ok_Lab_rows T) (hr.mono (by decide)) passL (pv 4)) (pe_lst (pa_cons (pe_tup (pa_cons (pv 2) (pa_cons (pv 3) pa_nil))) pa_nil))) (pa_cons (pe_metE0 T.c_Lab (ok_Lab_moves T) (hr.mono (by decide)) passL (pv 4)) pa_nil)))) pa_nil))))))), ?_⟩
  simp only [tSeq, tDrop, tVar, tC, tCall, tCons, tNil, tFld, sFld, sDPut, tDGet, tRet, tRetN, tIfS, tTest, tB, tNot, tAnd, tOr, tOp, tUn, rI0, rI, tNext, tDIn, tDNotIn, tDNewK, tIf, tAndV, tOrV, tNotV, tAsg, gName, gCons, gNil, gTup, tPar, tTup, tLst, tMeth, tCB, rEq, rNe, tBM, rAppend, tBM0, tChain, rIxL, rIxT, rIxS, rIx, L2.start, cxK, cxW, kV_inr, List.map_cons, List.map_nil, List.length_cons, List.length_nil, List.replicate, List.cons_append, List.nil_append, List.append_nil, List.getElem?_cons_zero, List.getElem?_cons_succ, List.set_cons_zero, List.set_cons_succ, Option.some.injEq, V.ref.injEq, V.str.injEq, V.int.injEq, V.bl.injEq, exists_eq, exists_eq', exists_eq_left, exists_eq_left', exists_and_left, exists_and_right, List.cons.injEq, and_true, true_and, and_assoc, rCat, tMake]
  have k : Res K (onLab st n fun L => chkLab ⟨L.ms, L.rs ++ [(m, f)], L.mv⟩) _ H E := k
  refine ⟨M, v, st, n, rfl, ps, fun L lv hL pl => ?_, fun e => ?_⟩
  · unfold onLab at k
    rw [hL] at k
    have fl := fi.ok n L hL
    obtain ⟨a, dx, d1, d2, l, n1, n2, xs, rfl, pa⟩ := id pl
    refine ⟨a, rfl, dx, _, pa.ins, rfl, M, .ref a, L, rfl, pl, fl.o1, by have := fl.l1; omega, tM, fun H0 p0 x0 s0 np0 hp0 dp0 => ?_⟩
    refine ⟨a, rfl, dx, _, s0 _ _ pa.ins, rfl, M, .ref a, L, rfl, pl.keep (Keep.of s0), fl.o2, by have := fl.l2; omega, tM.same s0, fun H1 p1 x1 s1 np1 hp1 dp1 => ⟨by rw [sizeLine_eq]; omega, fun t ht => ⟨by rw [sizeLine_eq]; omega, fun q hq => ⟨p1, rfl, x1, ?_, [.ref t], upd_same, ?_, fun r hr' => ?_⟩⟩⟩⟩
    · obtain ⟨hq1, _⟩ := up_none hq
      rw [upd_ne (ne_of_none hp1 hq1), upd_ne (ne_of_none hp1 ht)]
      exact hp1
    · rw [dp1.length, List.length_map, sizeLine_eq]
      have := fl.l2
      simp
      omega
    · have s2 : Same H1 (upd H1 t (.tup [.str m, .str f])) := Same.up ht
      have s3 := (s2.trans (Same.up (o := .lst [.ref t]) hq)).trans (Same.up (o := .lst (x1 ++ [.ref t])) hr')
      have t1 := (tM.same s0).same s1
      have nr : r ∉ M := (((t1.same s2).same (Same.up (o := .lst [.ref t]) hq))).new hr'
      have d3 : DAs M (upd (upd (upd H1 t (.tup [.str m, .str f])) q (.lst [.ref t])) r (.lst (x1 ++ [.ref t]))) (x1 ++ [.ref t]) ((L.rs ++ [(m, f)]).map pairD) := by
        rw [List.map_append]
        refine (dp1.keep (Keep.of s3)).append (DAs.cons (DA.tup2' (t1.new ht) ?_) DAs.nil)
        have e := (Same.up (o := .lst [.ref t]) hq) t _ (upd_same (H := H1) (a := t) (o := .tup [.str m, .str f]))
        exact (Same.up (o := .lst (x1 ++ [.ref t])) hr') t _ e
      have hr2 : (upd (upd (upd H1 t (.tup [.str m, .str f])) q (.lst [.ref t])) r (.lst (x1 ++ [.ref t]))) r = some (.lst (x1 ++ [.ref t])) := upd_same
      have s13 := (s0.trans s1).trans s3
      have s03 := s1.trans s3
      generalize upd (upd (upd H1 t (.tup [.str m, .str f])) q (.lst [.ref t])) r (.lst (x1 ++ [.ref t])) = H3 at *
      refine ⟨a, rfl, dx, _, s13 _ _ pa.ins, rfl, M, .ref a, L, rfl, pl.keep (Keep.of s13), by have := fl.l3; omega, tM.same s13, fun H5 p5 x5 s5 np5 hp5 dp5 => ?_⟩
      have np5 := (tM.same s13).new np5
      have dp5 := dp5.keep (Keep.of s5)
      have s15 := s13.trans s5
      refine lab_put (L := ⟨L.ms, L.rs ++ [(m, f)], L.mv⟩) ps tM fi.l1 s15 ((s03.trans s5) _ _ hp0) (s5 _ _ hr2) hp5 np0 nr np5 (dp0.keep (Keep.of (s03.trans s5))) (d3.keep (Keep.of s5)) dp5 fl.s1 (fl.s2.app fl.l2 hm hf) fl.s3 ?_
      have e : after st (.row n m f) = ⟨setK n ⟨L.ms, L.rs ++ [(m, f)], L.mv⟩ st.labs, st.wishes⟩ := editL_some hL
      rw [e] at k
      exact k
  · unfold onLab at k
    rw [e] at k
    exact k
abbrev N_do_move : List Str := ["state", "name", "machine", "start", "act", "end", "lab"]
theorem sc_do_move : FnScope N_do_move ["state", "name", "machine", "start", "act", "end"] (defScope s_do_move) := ⟨rfl, rfl, rfl, by decide +kernel, rfl, by decide +kernel, by decide +kernel⟩
theorem b_do_move : Bnd0 d_do_move.name d_do_move.qual d_do_move.params d_do_move.body d_do_move.scope ["state", "name", "machine", "start", "act", "end"] := fun _ _ _ _ _ _ us hl => match us, hl with | [_, _, _, _, _, _], _ => rfl
theorem ok_do_move (T : TX w K mg) : CalE P w K mg base 9 "do_move" [] (spDoMove K) := by
  refine cal_of T.fd_do_move T.g_do_move sc_do_move b_do_move (fun vs H Q E h => ?_) (fun cdv A outer s H vs Q E hr h => ?_)
  · obtain ⟨M, v, st, n, m, av, rfl, _⟩ := h
    rfl
  obtain ⟨M, v, st, n, m, av, rfl, hav, hm, ps, tM, fi, k⟩ := h
  have nd := sc_do_move.nd
  refine ⟨_, (pss_cons (ps_set (i := 6) nd rfl (Or.inl rfl) (pe_cal (ok_lab_at T) (hr.mono (by decide)) rfl px (pa_cons (pv 0) (pa_cons (pv 1) pa_nil))))
      (pss_one (ps_ret (pe_cal (ok_with_lab T) (hr.mono (by decide)) rfl passL (pa_cons (pv 0) (pa_cons (pv 1) (pa_cons (pe_makE (ok_Lab_init T) (hr.mono (by decide)) rfl px (pa_cons (pe_metE0 T.c_Lab (ok_Lab_machines T) (hr.mono (by decide)) passL (pv 6)) (pa_cons (pe_metE0 T.c_Lab (ok_Lab_rows T) (hr.mono (by decide)) passL (pv 6)) (pa_cons (pe_op op_cat (pe_metE0 T.c_Lab (ok_Lab_moves T) (hr.mono (by decide)) passL (pv 6)) (pe_lst (pa_cons (pe_tup (pa_cons (pv 2) (pa_cons (pv 3) (pa_cons (pv 4) (pa_cons (pv 5) pa_nil))))) pa_nil))) pa_nil)))) pa_nil))))))), ?_⟩
  simp only [tSeq, tDrop, tVar, tC, tCall, tCons, tNil, tFld, sFld, sDPut, tDGet, tRet, tRetN, tIfS, tTest, tB, tNot, tAnd, tOr, tOp, tUn, rI0, rI, tNext, tDIn, tDNotIn, tDNewK, tIf, tAndV, tOrV, tNotV, tAsg, gName, gCons, gNil, gTup, tPar, tTup, tLst, tMeth, tCB, rEq, rNe, tBM, rAppend, tBM0, tChain, rIxL, rIxT, rIxS, rIx, L2.start, cxK, cxW, kV_inr, List.map_cons, List.map_nil, List.length_cons, List.length_nil, List.replicate, List.cons_append, List.nil_append, List.append_nil, List.getElem?_cons_zero, List.getElem?_cons_succ, List.set_cons_zero, List.set_cons_succ, Option.some.injEq, V.ref.injEq, V.str.injEq, V.int.injEq, V.bl.injEq, exists_eq, exists_eq', exists_eq_left, exists_eq_left', exists_and_left, exists_and_right, List.cons.injEq, and_true, true_and, and_assoc, rCat, tMake]
  have k : Res K (onLab st n fun L => chkLab ⟨L.ms, L.rs, L.mv ++ [m]⟩) _ H E := k
  refine ⟨M, v, st, n, rfl, ps, fun L lv hL pl => ?_, fun e => ?_⟩
  · unfold onLab at k
    rw [hL] at k
    have fl := fi.ok n L hL
    obtain ⟨a, dx, d1, d2, l, n1, n2, xs, rfl, pa⟩ := id pl
    refine ⟨a, rfl, dx, _, pa.ins, rfl, M, .ref a, L, rfl, pl, fl.o1, by have := fl.l1; omega, tM, fun H0 p0 x0 s0 np0 hp0 dp0 => ?_⟩
    refine ⟨a, rfl, dx, _, s0 _ _ pa.ins, rfl, M, .ref a, L, rfl, pl.keep (Keep.of s0), fl.o2, by have := fl.l2; omega, tM.same s0, fun H5 p5 x5 s5 np5 hp5 dp5 => ?_⟩
    have s05 := s0.trans s5
    refine ⟨a, rfl, dx, _, s05 _ _ pa.ins, rfl, M, .ref a, L, rfl, pl.keep (Keep.of s05), by have := fl.l3; omega, tM.same s05, fun H1 p1 x1 s1 np1 hp1 dp1 => ⟨by rw [sizeLine_eq]; omega, fun t ht => ⟨by rw [sizeLine_eq]; omega, fun q hq => ⟨p1, rfl, x1, ?_, [.ref t], upd_same, ?_, fun r hr' => ?_⟩⟩⟩⟩
    · obtain ⟨hq1, _⟩ := up_none hq
      rw [upd_ne (ne_of_none hp1 hq1), upd_ne (ne_of_none hp1 ht)]
      exact hp1
    · rw [dp1.length, List.length_map, sizeLine_eq]
      have := fl.l3
      simp
      omega
    · have s2 : Same H1 (upd H1 t (.tup [.str m.m, .str m.s, av, .str m.e])) := Same.up ht
      have s3 := (s2.trans (Same.up (o := .lst [.ref t]) hq)).trans (Same.up (o := .lst (x1 ++ [.ref t])) hr')
      have t1 := (tM.same s05).same s1
      have nr : r ∉ M := (((t1.same s2).same (Same.up (o := .lst [.ref t]) hq))).new hr'
      have s13 := (s05.trans s1).trans s3
      have d3 : DAs M (upd (upd (upd H1 t (.tup [.str m.m, .str m.s, av, .str m.e])) q (.lst [.ref t])) r (.lst (x1 ++ [.ref t]))) (x1 ++ [.ref t]) ((L.mv ++ [m]).map Mv.d) := by
        rw [List.map_append]
        refine (dp1.keep (Keep.of (s1.trans s3))).append (DAs.cons (DA.mv' (t1.new ht) ?_ (hav.keep (Keep.of s13))) DAs.nil)
        have e := (Same.up (o := .lst [.ref t]) hq) t _ (upd_same (H := H1) (a := t) (o := .tup [.str m.m, .str m.s, av, .str m.e]))
        exact (Same.up (o := .lst (x1 ++ [.ref t])) hr') t _ e
      have hr2 : (upd (upd (upd H1 t (.tup [.str m.m, .str m.s, av, .str m.e])) q (.lst [.ref t])) r (.lst (x1 ++ [.ref t]))) r = some (.lst (x1 ++ [.ref t])) := upd_same
      have s03 := s5.trans (s1.trans s3)
      refine lab_put (L := ⟨L.ms, L.rs, L.mv ++ [m]⟩) ps tM fi.l1 s13 (s03 _ _ hp0) ((s1.trans s3) _ _ hp5) hr2 np0 np5 nr (dp0.keep (Keep.of s03)) (dp5.keep (Keep.of (s1.trans s3))) d3 fl.s1 fl.s2 (fl.s3.app fl.l3 hm) ?_
      have e : after st (.move n m) = ⟨setK n ⟨L.ms, L.rs, L.mv ++ [m]⟩ st.labs, st.wishes⟩ := editL_some hL
      rw [e] at k
      exact k
  · unfold onLab at k
    rw [e] at k
    exact k
abbrev N_do_strike : List Str := ["state", "name", "place", "lab", "moves"]
theorem sc_do_strike : FnScope N_do_strike ["state", "name", "place"] (defScope s_do_strike) := ⟨rfl, rfl, rfl, by decide +kernel, rfl, by decide +kernel, by decide +kernel⟩
theorem b_do_strike : Bnd0 d_do_strike.name d_do_strike.qual d_do_strike.params d_do_strike.body d_do_strike.scope ["state", "name", "place"] := fun _ _ _ _ _ _ us hl => match us, hl with | [_, _, _], _ => rfl
theorem ok_do_strike (T : TX w K mg) : CalE P w K mg base 9 "do_strike" [] (spDoStrike K) := by
  refine cal_of T.fd_do_strike T.g_do_strike sc_do_strike b_do_strike (fun vs H Q E h => ?_) (fun cdv A outer s H vs Q E hr h => ?_)
  · obtain ⟨M, v, st, n, i, rfl, _⟩ := h
    rfl
  obtain ⟨M, v, st, n, i, rfl, ps, tM, fi, k⟩ := h
  have nd := sc_do_strike.nd
  refine ⟨_, (pss_cons (ps_set (i := 3) nd rfl (Or.inl rfl) (pe_cal (ok_lab_at T) (hr.mono (by decide)) rfl px (pa_cons (pv 0) (pa_cons (pv 1) pa_nil))))
      (pss_cons (ps_expr (pe_metE T.c_Lab (ok_Lab_move_at T) (hr.mono (by decide)) px (pv 3) (pa_cons (pv 2) pa_nil)))
      (pss_cons (ps_set (i := 4) nd rfl (Or.inl rfl) (pe_metE0 T.c_Lab (ok_Lab_moves T) (hr.mono (by decide)) passL (pv 3)))
      (pss_cons (ps_delL (pv 4) (pv 2))
      (pss_one (ps_ret (pe_cal (ok_with_lab T) (hr.mono (by decide)) rfl passL (pa_cons (pv 0) (pa_cons (pv 1) (pa_cons (pe_makE (ok_Lab_init T) (hr.mono (by decide)) rfl px (pa_cons (pe_metE0 T.c_Lab (ok_Lab_machines T) (hr.mono (by decide)) passL (pv 3)) (pa_cons (pe_metE0 T.c_Lab (ok_Lab_rows T) (hr.mono (by decide)) passL (pv 3)) (pa_cons (pv 4) pa_nil)))) pa_nil)))))))))), ?_⟩
  simp only [tSeq, tDrop, tVar, tC, tCall, tCons, tNil, tFld, sFld, sDPut, tDGet, tRet, tRetN, tIfS, tTest, tB, tNot, tAnd, tOr, tOp, tUn, rI0, rI, tNext, tDIn, tDNotIn, tDNewK, tIf, tAndV, tOrV, tNotV, tAsg, gName, gCons, gNil, gTup, tPar, tTup, tLst, tMeth, tCB, rEq, rNe, tBM, rAppend, tBM0, tChain, rIxL, rIxT, rIxS, rIx, L2.start, cxK, cxW, kV_inr, List.map_cons, List.map_nil, List.length_cons, List.length_nil, List.replicate, List.cons_append, List.nil_append, List.append_nil, List.getElem?_cons_zero, List.getElem?_cons_succ, List.set_cons_zero, List.set_cons_succ, Option.some.injEq, V.ref.injEq, V.str.injEq, V.int.injEq, V.bl.injEq, exists_eq, exists_eq', exists_eq_left, exists_eq_left', exists_and_left, exists_and_right, List.cons.injEq, and_true, true_and, and_assoc, rCat, tMake, tDelL]
  have k : Res K (onLab st n fun L => thn1 (okIf (inB i L.mv.length) "nomove") (chkLab ⟨L.ms, L.rs, L.mv.eraseIdx i.toNat⟩)) _ H E := k
  refine ⟨M, v, st, n, rfl, ps, fun L lv hL pl => ?_, fun e => ?_⟩
  · unfold onLab at k
    rw [hL] at k
    obtain ⟨k0, r1⟩ := Res.split k
    have fl := fi.ok n L hL
    obtain ⟨a, dx, d1, d2, l, n1, n2, xs, rfl, pa⟩ := id pl
    refine ⟨a, rfl, dx, _, pa.ins, rfl, M, .ref a, L, i, rfl, pl, by have := fl.l3; omega, Res.mk (fun e u => ?_) r1⟩
    have hi : inB i L.mv.length = true := okIf_none e
    have hi1 : 0 ≤ i := by
      unfold inB at hi
      exact of_decide_eq_true (Bool.and_eq_true_iff.mp hi).1
    have hi2 : i < (L.mv.length : Int) := by
      unfold inB at hi
      exact of_decide_eq_true (Bool.and_eq_true_iff.mp hi).2
    have k1 := k0 e
    refine ⟨a, rfl, dx, _, pa.ins, rfl, M, .ref a, L, rfl, pl, by have := fl.l3; omega, tM, fun H1 p1 x1 s1 n1' hp1 dp1 => ?_⟩
    have hx1 : x1.length = L.mv.length := by rw [dp1.length, List.length_map]
    have l3 := fl.l3
    have si : seqIndex? i x1.length = some i.toNat := (ixN_seq (show ixN x1.length i = some i.toNat by unfold ixN; rw [if_pos hi1, if_pos (by omega)])).1
    refine ⟨p1, rfl, x1, hp1, by omega, by omega, i.toNat, si, ?_⟩
    have np1 : p1 ∉ M := tM.new n1'
    have s2 : Same H (upd H1 p1 (.lst (x1.eraseIdx i.toNat))) := fun b o e => by
      rw [upd_ne (ne_of_none e n1')]
      exact s1 _ _ e
    have d2 : DAs M (upd H1 p1 (.lst (x1.eraseIdx i.toNat))) (x1.eraseIdx i.toNat) ((L.mv.eraseIdx i.toNat).map Mv.d) := by
      have := DAs.erase i.toNat (dp1.keep (Keep.of s2))
      rw [erase_map] at this
      exact this
    have hp2 : (upd H1 p1 (.lst (x1.eraseIdx i.toNat))) p1 = some (.lst (x1.eraseIdx i.toNat)) := upd_same
    generalize upd H1 p1 (.lst (x1.eraseIdx i.toNat)) = H2 at *
    refine ⟨a, rfl, dx, _, s2 _ _ pa.ins, rfl, M, .ref a, L, rfl, pl.keep (Keep.of s2), fl.o1, by have := fl.l1; omega, tM.same s2, fun H3 p3 x3 s3 np3 hp3 dp3 => ?_⟩
    have s23 := s2.trans s3
    refine ⟨a, rfl, dx, _, s23 _ _ pa.ins, rfl, M, .ref a, L, rfl, pl.keep (Keep.of s23), fl.o2, by have := fl.l2; omega, tM.same s23, fun H4 p4 x4 s4 np4 hp4 dp4 => ?_⟩
    have s24 := s23.trans s4
    refine lab_put (L := ⟨L.ms, L.rs, L.mv.eraseIdx i.toNat⟩) ps tM fi.l1 s24 (s4 _ _ hp3) hp4 ((s3.trans s4) _ _ hp2) np3 np4 np1 (dp3.keep (Keep.of s4)) dp4 (d2.keep (Keep.of (s3.trans s4))) fl.s1 fl.s2 ⟨by rw [List.length_eraseIdx]; split <;> omega, fun m hm => fl.s3.2 m (List.mem_of_mem_eraseIdx hm)⟩ ?_
    have e : after st (.strike n i) = ⟨setK n ⟨L.ms, L.rs, L.mv.eraseIdx i.toNat⟩ st.labs, st.wishes⟩ := editL_some hL
    rw [e] at k1
    exact k1
  · unfold onLab at k
    rw [e] at k
    exact k
end
end K51


set_option Elab.async false
set_option linter.all false
set_option maxRecDepth 100000
set_option maxHeartbeats 4000000
namespace K51
open PySem PySem.Spec PyProof.Rows L2
/-! ### y = {k: v for ..} -/
section
variable {X : Cx}
theorem ps_setDc {i : Nat} {y : Str} {py : Pos} {kx vx tg iter : Expr} {ifs : List Expr} {scope : Scope} {own : List (Str × Nat)} {pos spos : Pos} {wi : TI} {g : TG} {tt : TT} {tk tv : TE} (hc : X.calm = true) (hN : X.N.Nodup) (hy : X.N[i]? = some y) (hyl : X.env.scope.names.lookup y = some .local)
    (hsw : swapsWith (.DictComp kx vx [⟨tg, iter, ifs, 0⟩] scope pos) (some (.Name y py)) spos.line X.env = pure true) (hi : PI X tg iter wi) (ok : BlkOk X.N X.env.scope scope own)
    (hg : ∀ (s : Shared) (H : Hp) (C : Addr) (cl : List (Str × Addr)) (fp : List Addr), PG (X.blk s H scope (compEnvC scope cl C X.env) fp) tg g) (ht : ∀ (s : Shared) (H : Hp) (C : Addr) (cl : List (Str × Addr)) (fp : List Addr), PTs (X.blk s H scope (compEnvC scope cl C X.env) fp) ifs tt)
    (hk : ∀ (s : Shared) (H : Hp) (C : Addr) (cl : List (Str × Addr)) (fp : List Addr), PE (X.blk s H scope (compEnvC scope cl C X.env) fp) kx tk)
    (he : ∀ (s : Shared) (H : Hp) (C : Addr) (cl : List (Str × Addr)) (fp : List Addr), PE (X.blk s H scope (compEnvC scope cl C X.env) fp) vx tv) (hs : ∀ x, foldedSetIterable iter X.env x = pure x := by intro _; rfl) :
    PS X (.Assign [.Name y py] (.DictComp kx vx [⟨tg, iter, ifs, 0⟩] scope pos) spos) (tAsg (tDc wi g tt tk tv (own.map (·.2))) (gName i)) := by
  refine ⟨fun pins s σ H D I h => ?_⟩
  rw [exec_Assign_Name_used _ _ _ _ hsw]
  refine wpAny_bind (wpAny_standAt (wpAny_bind ?_))
  show wpAny _ X.A (do let _ ← comprehension (.DictComp kx vx [⟨tg, iter, ifs, 0⟩] scope pos) scope X.env (firstIterPos [⟨tg, iter, ifs, 0⟩] pos) newDict false (eval iter X.env) (some (assign (.Name y py) X.env))) _ _ s
  have h : tDc wi g tt tk tv (own.map (·.2)) σ H (fun x H1 => gName i x σ H1 D.nx) := h
  refine wpAny_bind (thn (dc_core (Qf := fun _ s' => SP X pins D .next s') hc hN I hi ok hg ht hk he hs h fun L C s' m H' I' q hn f => ?_) fun _ s' hq => wpAny_pure (wpAny_pure hq))
  show wpAny _ _ (assign (.Name y py) X.env (.ref L)) _ _ _
  refine wpAny_assign_Name (store_ok2 (v := V.ref L) I' hN hy (.inl hyl) rfl (fun s2 I2 ⟨a, sb, ha⟩ => ?_) (.inr hyl))
  obtain ⟨f0, f1, f2, f3, f4, f5⟩ := f
  have haC : C ≠ a := by
    rcases ha with z | z
    · rw [z]; exact f1
    · exact fun e => f4 y a z e.symm
  refine ⟨m, hn.sameBut sb haC, fun h3 sb3 => ?_⟩
  exact ⟨_, H', I2.turned (t' := s2.toks) (fun b o hb e => (sb3.2 b hb).trans e) f0 f1 f3 f4 f5, q⟩
theorem swD_true {kx vx : Expr} {gs : List Comprehension} {scope : Scope} {pos py : Pos} {y : Str} {l : Nat} {env : Env} (hk : env.scope.kind = .function) (hy : env.scope.names.lookup y = some .local) (hl : (py.line == pos.line) = true)
    (ha : (scope.names.any fun (n, k) => n == y && (k == .local || k == .cell)) = false) : swapsWith (.DictComp kx vx gs scope pos) (some (.Name y py)) l env = pure true := by
  have ky : env.kindOf y = some .local := hy
  have hb : env.blockKind = .function := by unfold Env.blockKind; rw [hk]; rfl
  unfold swapsWith
  simp only [hb, ky, ha, Expr.pos, hl]
  rfl
end
/-! ### comprehensions whose values are known -/
section
variable {J : It} {n : Nat} {G : Hp → Prop} {Y : Nat → Hp → V → Hp → Prop}
theorem lc_vals (w : Walk J n G Y) {g : TG} {te : TE} {vs : List Nat} {σ : L2.St} {H : Hp} {L : Addr} {Qd : Hp → Prop} (ws : List V) (hl : ws.length = n) (hn : n < 100000) (hL : H L = none) (hG : ∀ H', Same H H' → G H') (hY : ∀ i H x H', Y i H x H' → Same H H')
    (hg : ∀ x σ H Q Q', (∀ σ' H', Q σ' H' → Q' σ' H') → g x σ H Q → g x σ H Q')
    (hs : ∀ i x y H' H'' (K : V → Hp → Prop), ws[i]? = some y → Same H H' → Y i H' x H'' → (∀ H3, Same H'' H3 → K y H3) → g x (wipe σ vs) H'' fun σ2 H2 => wipe σ2 vs = wipe σ vs ∧ te σ2 H2 K)
    (hd : ∀ H', Same H H' → H' L = some (.lst ws) → Qd H') :
    ∃ W : Nat → Nat → Hp → Prop, (∃ m, W 0 m (upd H L (.lst []))) ∧ ∀ i m H, W i m H →
      (J.stop i H ∧ Qd H) ∨ (J.go i H ∧ ∃ Nx : Hp → Prop, (∀ H', Nx H' → ∃ m', m' < m ∧ W (i + 1) m' H') ∧ ∀ x H', J.yld i H x H' → g x (wipe σ vs) H' fun σ2 H2 => wipe σ2 vs = wipe σ vs ∧ tYes σ2 H2 fun b H3 =>
        if b = true then te σ2 H3 fun y H4 => ∃ acc, H4 L = some (.lst acc) ∧ acc.length < sizeLine ∧ Nx (upd H4 L (.lst (acc ++ [y]))) else Nx H3) := by
  refine lc_acc0 (Qd := Qd) w (fun i acc H' => Same H H' ∧ acc = ws.take i) hn hL ⟨Same.up hL, rfl⟩ (fun i acc H' _ q => hG H' q.1) (fun i acc H' q => by rw [q.2, List.length_take]; exact Nat.min_le_left _ _) (fun i acc H' H'' q kk => ⟨Same.keepL hL q.1 kk, q.2⟩) hg (fun i x acc H1 H2 Kk hi q _ y kk => ?_) (fun acc H1 q hacc => ?_)
  · have hw : ws[i]? = some ws[i] := List.getElem?_eq_getElem (by omega)
    refine hs i x ws[i] H1 H2 Kk hw q.1 y fun H3 s3 => kk _ _ (Keep.of ((hY _ _ _ _ y).trans s3)) ⟨(q.1.trans (hY _ _ _ _ y)).trans s3, ?_⟩
    rw [take_succ_get hw, q.2]
  · have e : ws.take n = ws := List.take_of_length_le (by omega)
    refine hd H1 q.1 ?_
    rw [hacc, q.2, e]
/-- with a test: what is dropped is none -/
theorem lc_opts (w : Walk J n G Y) {g : TG} {tt : TT} {te : TE} {vs : List Nat} {σ : L2.St} {H : Hp} {L : Addr} {Qd : Hp → Prop} (ws : List (Option V)) (hl : ws.length = n) (hn : n < 100000) (hL : H L = none) (hG : ∀ H', Same H H' → G H') (hY : ∀ i H x H', Y i H x H' → Same H H')
    (hs : ∀ i x y H' H'' (K : Option V → Hp → Prop), ws[i]? = some y → Same H H' → Y i H' x H'' → (∀ H3, Same H'' H3 → K y H3) → g x (wipe σ vs) H'' fun σ2 H2 => wipe σ2 vs = wipe σ vs ∧ tt σ2 H2 fun b H3 => if b = true then te σ2 H3 fun y H4 => K (some y) H4 else K none H3)
    (hd : ∀ H', Same H H' → H' L = some (.lst (ws.filterMap id)) → Qd H') :
    ∃ W : Nat → Nat → Hp → Prop, (∃ m, W 0 m (upd H L (.lst []))) ∧ ∀ i m H, W i m H →
      (J.stop i H ∧ Qd H) ∨ (J.go i H ∧ ∃ Nx : Hp → Prop, (∀ H', Nx H' → ∃ m', m' < m ∧ W (i + 1) m' H') ∧ ∀ x H', J.yld i H x H' → g x (wipe σ vs) H' fun σ2 H2 => wipe σ2 vs = wipe σ vs ∧ tt σ2 H2 fun b H3 =>
        if b = true then te σ2 H3 fun y H4 => ∃ acc, H4 L = some (.lst acc) ∧ acc.length < sizeLine ∧ Nx (upd H4 L (.lst (acc ++ [y]))) else Nx H3) := by
  refine lc_acc (Qd := Qd) w (fun i acc H' => Same H H' ∧ acc = (ws.take i).filterMap id) hn hL ⟨Same.up hL, rfl⟩ (fun i acc H' _ q => hG H' q.1) (fun i acc H' q => by rw [q.2]; exact Nat.le_trans (List.length_filterMap_le _ _) (by rw [List.length_take]; exact Nat.min_le_left _ _))
    (fun i acc H' H'' q kk => ⟨Same.keepL hL q.1 kk, q.2⟩) (fun i x acc H1 H2 Kk hi q _ y k1 k2 => ?_) (fun acc H1 q hacc => ?_)
  · have hw : ws[i]? = some ws[i] := List.getElem?_eq_getElem (by omega)
    refine hs i x ws[i] H1 H2 Kk hw q.1 y fun H3 s3 => ?_
    have s13 := (q.1.trans (hY _ _ _ _ y)).trans s3
    cases e : ws[i] with
    | none =>
      refine k2 _ (Keep.of ((hY _ _ _ _ y).trans s3)) ⟨s13, ?_⟩
      rw [take_succ_get hw, List.filterMap_append, q.2, e]
      simp
    | some v =>
      refine k1 _ _ (Keep.of ((hY _ _ _ _ y).trans s3)) ⟨s13, ?_⟩
      rw [take_succ_get hw, List.filterMap_append, q.2, e]
      simp
  · have e : ws.take n = ws := List.take_of_length_le (by omega)
    refine hd H1 q.1 ?_
    rw [hacc, q.2, e]
end
theorem yAt_same {xs : List V} : ∀ i H x H', YAt xs i H x H' → Same H H' := fun i H x H' h => by rw [h.1]; exact Same.refl H
/-- the first names of pairs -/
theorem pairs_at {M : List Addr} {H : Hp} {xs : List V} {l : List (Str × Str)} (h : DAs M H xs (l.map pairD)) {i : Nat} {x : V} (e : xs[i]? = some x) {f : Str × Str → V} {y : V} (ey : (l.map f)[i]? = some y) : ∃ q p, l[i]? = some q ∧ y = f q ∧ x = .ref p ∧ H p = some (.tup [.str q.1, .str q.2]) := by
  obtain ⟨q, p, e1, e2, _, e3⟩ := h.getP e
  rw [List.getElem?_map, e1] at ey
  exact ⟨q, p, e1, (Option.some.inj ey).symm, e2, e3⟩
/-- members of a list of texts -/
theorem inV_strs (z : Str) : ∀ l : List Str, inV (.str z) (l.map V.str) = l.any fun y => decide (y = z)
  | [] => rfl
  | y :: r => by
    have ih := inV_strs z r
    unfold inV at *
    rw [List.map_cons, List.any_cons, List.any_cons, ih]
    congr 1
theorem inV_keys {α : Type} (z : Str) (l : List (Str × α)) : inV (.str z) (l.map fun p => V.str p.1) = hasK z l := by
  have e : (l.map fun p => V.str p.1) = (l.map (·.1)).map V.str := by rw [List.map_map]; rfl
  rw [e, inV_strs, List.any_map]
  rfl
theorem flat_keys {α : Type} (l : List (Str × α)) : (l.map fun p => V.str p.1).all flatV = true := by
  rw [List.all_map]
  exact List.all_eq_true.mpr fun _ _ => rfl
/-! ### names that stand once -/
def NodK {α : Type} (l : List (Str × α)) : Prop := (l.map (·.1)).Nodup
theorem hasK_mem {α : Type} {z : Str} {l : List (Str × α)} : hasK z l = true ↔ z ∈ l.map (·.1) := by
  unfold hasK
  rw [List.any_eq_true]
  constructor
  · rintro ⟨p, hp, e⟩
    exact List.mem_map.mpr ⟨p, hp, of_decide_eq_true e⟩
  · intro h
    obtain ⟨p, hp, e⟩ := List.mem_map.mp h
    exact ⟨p, hp, decide_eq_true e⟩
theorem NodK.tail {α : Type} {p : Str × α} {l : List (Str × α)} (h : NodK (p :: l)) : NodK l := (List.nodup_cons.mp (show (p.1 :: l.map (·.1)).Nodup from h)).2
theorem NodK.head {α : Type} {p : Str × α} {l : List (Str × α)} (h : NodK (p :: l)) : hasK p.1 l = false := by
  have := (List.nodup_cons.mp (show (p.1 :: l.map (·.1)).Nodup from h)).1
  cases e : hasK p.1 l with
  | false => rfl
  | true => exact absurd (hasK_mem.mp e) this
theorem NodK.once {α : Type} : ∀ {l : List (Str × α)}, NodK l → OnceK l
  | [], _ => fun p hp => by cases hp
  | q :: l, h => fun p hp => by
    unfold getK
    rcases List.mem_cons.mp hp with e | e
    · subst e
      rw [List.find?_cons_of_pos (by simp)]
      rfl
    · have hn : ¬ q.1 = p.1 := fun z => by
        have h1 := h.head
        rw [z] at h1
        have h2 : hasK p.1 l = true := hasK_mem.mpr (List.mem_map.mpr ⟨p, e, rfl⟩)
        rw [h1] at h2
        cases h2
      rw [List.find?_cons_of_neg (by simpa using hn)]
      exact NodK.once h.tail p e
theorem NodK.at {α : Type} {l : List (Str × α)} {i : Nat} {p : Str × α} (h : NodK l) (e : l[i]? = some p) : hasK p.1 (l.take i) = false := by
  cases ec : hasK p.1 (l.take i) with
  | false => rfl
  | true =>
    exfalso
    have hm := hasK_mem.mp ec
    obtain ⟨j, hj⟩ := List.mem_iff_getElem?.mp hm
    rw [List.getElem?_map] at hj
    have hi : i < l.length := (List.getElem?_eq_some_iff.mp e).1
    cases e2 : (l.take i)[j]? with
    | none => rw [e2] at hj; cases hj
    | some q =>
      rw [e2] at hj
      have hq : q.1 = p.1 := Option.some.inj hj
      have hji : j < i := by
        have := (List.getElem?_eq_some_iff.mp e2).1
        rw [List.length_take] at this
        omega
      rw [List.getElem?_take_of_lt hji] at e2
      have a1 : (l.map (·.1))[j]? = some p.1 := by rw [List.getElem?_map, e2]; exact congrArg some hq
      have a2 : (l.map (·.1))[i]? = some p.1 := by rw [List.getElem?_map, e]; rfl
      have := (List.getElem?_inj (by rw [List.length_map]; omega) h).mp (a1.trans a2.symm)
      omega
theorem hasK_filter {α : Type} {z : Str} {l : List (Str × α)} {f : Str × α → Bool} (h : hasK z l = false) : hasK z (l.filter f) = false := by
  cases e : hasK z (l.filter f) with
  | false => rfl
  | true =>
    obtain ⟨p, hp, e2⟩ := List.mem_map.mp (hasK_mem.mp e)
    rw [← e2] at h
    rw [hasK_mem.mpr (List.mem_map.mpr ⟨p, (List.mem_filter.mp hp).1, rfl⟩)] at h
    cases h
/-! ### comprehensions of dicts -/
section
variable {J : It} {n : Nat} {G : Hp → Prop} {Y : Nat → Hp → V → Hp → Prop}
/-- A tells by the turn and the heap what the new dict holds so far -/
theorem dc_acc (w : Walk J n G Y) {g : TG} {tt : TT} {tk tv : TE} {vs : List Nat} {σ : L2.St} {H1 : Hp} {L : Addr} {Qd : Hp → Prop} (A : Nat → List (Key × V) → Hp → Prop) (hn : n < 100000)
    (h0 : A 0 [] (upd H1 L (.dK []))) (hG : ∀ i acc H, i ≤ n → A i acc H → G H) (hlen : ∀ i acc H, A i acc H → acc.length ≤ i)
    (keep : ∀ i acc H H', A i acc H → Keep [L] H H' → A i acc H')
    (hs : ∀ i x acc H H' (K : List (Key × V) → Key → V → Hp → Prop) (K0 : Hp → Prop), i < n → A i acc H → (∃ o, H L = some o) → Y i H x H' →
      (∀ k y H'', Keep [] H H'' → A (i + 1) (putK acc k y) H'' → K acc k y H'') → (∀ H'', Keep [] H H'' → A (i + 1) acc H'' → K0 H'') →
      g x (wipe σ vs) H' fun σ2 H2 => wipe σ2 vs = wipe σ vs ∧ tt σ2 H2 fun b H3 => if b = true then tk σ2 H3 fun y H4 => tv σ2 H4 fun z H5 => ∃ kvs k, y = kV k ∧ K kvs k z H5 else K0 H3)
    (hd : ∀ acc H, A n acc H → H L = some (.dK acc) → Qd H) :
    ∃ W : Nat → Nat → Hp → Prop, (∃ m, W 0 m (upd H1 L (.dK []))) ∧ ∀ i m H, W i m H →
      (J.stop i H ∧ Qd H) ∨ (J.go i H ∧ ∃ Nx : Hp → Prop, (∀ H', Nx H' → ∃ m', m' < m ∧ W (i + 1) m' H') ∧ ∀ x H', J.yld i H x H' → g x (wipe σ vs) H' fun σ2 H2 => wipe σ2 vs = wipe σ vs ∧ tt σ2 H2 fun b H3 =>
        if b = true then tk σ2 H3 fun y H4 => tv σ2 H4 fun z H5 => ∃ kvs k, y = kV k ∧ H5 L = some (.dK kvs) ∧ kvs.length < sizeLine ∧ Nx (upd H5 L (.dK (putK kvs k z))) else Nx H3) := by
  refine ⟨fun i m H => m = n - i ∧ i ≤ n ∧ ∃ acc, H L = some (.dK acc) ∧ A i acc H, ⟨n, by simp, Nat.zero_le _, [], upd_same, h0⟩, ?_⟩
  rintro i m H ⟨rfl, hi, acc, hl, a⟩
  have q := hG i acc H hi a
  by_cases hlt : i < n
  · refine .inr ⟨w.goes i H hlt q, fun H' => ∃ acc, H' L = some (.dK acc) ∧ A (i + 1) acc H', fun H' ⟨acc', p1, p2⟩ => ⟨n - (i + 1), by omega, rfl, hlt, acc', p1, p2⟩, fun x H' y => ?_⟩
    have hy := w.yields i H x H' hlt q y
    have hz := hlen i acc H a
    refine hs i x acc H H' (fun kvs k z H5 => H5 L = some (.dK kvs) ∧ kvs.length < sizeLine ∧ ∃ acc, (upd H5 L (.dK (putK kvs k z))) L = some (.dK acc) ∧ A (i + 1) acc (upd H5 L (.dK (putK kvs k z)))) (fun H' => ∃ acc, H' L = some (.dK acc) ∧ A (i + 1) acc H') hlt a ⟨_, hl⟩ hy
      (fun k z H'' kk a' => ⟨kk L _ (by simp) hl, by rw [sizeLine_eq]; omega, _, upd_same, keep _ _ _ _ a' (Keep.at (by simp))⟩) (fun H'' kk a' => ⟨acc, kk L _ (by simp) hl, a'⟩)
  · have e : i = n := by omega
    subst e
    exact .inl ⟨w.stops H q, hd acc H a hl⟩
end
theorem KR.valAt {α : Type} {R : V → α → Prop} {kvs : List (Key × V)} {l : List (Str × α)} (h : KR R kvs l) : NodK l → ∀ {i : Nat} {z : Str} {v : V}, kvs[i]? = some (.inr z, v) → valV kvs (.inr z) = some v := by
  induction h with
  | nil => intro _ i z v e; simp at e
  | @cons y u b r' t ra hr ih =>
    intro nd i z v e
    cases i with
    | zero =>
      have e : ((Sum.inr y : Key), u) = (Sum.inr z, v) := by simpa using e
      cases e
      exact valV_pos rfl
    | succ i =>
      have e : r'[i]? = some (.inr z, v) := by simpa using e
      have hn : ¬ y = z := fun q => by
        have h1 := nd.head
        obtain ⟨z', a, e1, e2, _⟩ := hr.at e
        cases e1
        rw [show ((y, b) : Str × α).1 = z from q] at h1
        rw [hasK_mem.mpr (List.mem_map.mpr ⟨(z, a), List.mem_of_getElem? e2, rfl⟩)] at h1
        cases h1
      rw [valV_neg (fun q => hn (Sum.inr.inj q))]
      exact ih nd.tail e
section
variable {α : Type} {R : V → α → Prop}
/-- {k: d[k] for k in d if ..}, the names stand once -/
theorem dc_filter {Hf : Hp} {d : Addr} {od : Obj} {kvs : List (Key × V)} {l : List (Str × α)} {g : TG} {tt : TT} {tk tv : TE} {vs : List Nat} {σ : L2.St} {D : Addr} {Qd : Hp → Prop} (f : Str × α → Bool) (hf : Hf d = some (.frz od (.dK kvs))) (r : KR R kvs l) (nd : NodK l) (hl : l.length ≤ 1000) (hD : Hf D = none)
    (step : ∀ z a v H' (K : List (Key × V) → Key → V → Hp → Prop) (K0 : Hp → Prop), (z, a) ∈ l → R v a → Same Hf H' → valV kvs (.inr z) = some v → (f (z, a) = true → ∃ acc, K acc (.inr z) v H') → (f (z, a) = false → K0 H') →
      g (.str z) (wipe σ vs) H' fun σ2 H2 => wipe σ2 vs = wipe σ vs ∧ tt σ2 H2 fun b H3 => if b = true then tk σ2 H3 fun y H4 => tv σ2 H4 fun z H5 => ∃ kvs k, y = kV k ∧ K kvs k z H5 else K0 H3)
    (hd : ∀ acc H', Same Hf H' → H' D = some (.dK acc) → KR R acc (l.filter f) → Qd H') :
    ∃ W : Nat → Nat → Hp → Prop, (∃ m, W 0 m (upd Hf D (.dK []))) ∧ ∀ i m H, W i m H →
      ((Itk d od kvs).stop i H ∧ Qd H) ∨ ((Itk d od kvs).go i H ∧ ∃ Nx : Hp → Prop, (∀ H', Nx H' → ∃ m', m' < m ∧ W (i + 1) m' H') ∧ ∀ x H', (Itk d od kvs).yld i H x H' → g x (wipe σ vs) H' fun σ2 H2 => wipe σ2 vs = wipe σ vs ∧ tt σ2 H2 fun b H3 =>
        if b = true then tk σ2 H3 fun y H4 => tv σ2 H4 fun z H5 => ∃ kvs k, y = kV k ∧ H5 D = some (.dK kvs) ∧ kvs.length < sizeLine ∧ Nx (upd H5 D (.dK (putK kvs k z))) else Nx H3) := by
  have kL := r.length
  refine dc_acc (Qd := Qd) walk_keys (fun i acc H' => Same Hf H' ∧ KR R acc ((l.take i).filter f)) (by omega) ⟨Same.up hD, .nil⟩
    (fun i acc H' _ q => q.1 _ _ hf) (fun i acc H' q => by rw [q.2.length]; exact Nat.le_trans (List.length_filter_le _ _) (by rw [List.length_take]; exact Nat.min_le_left _ _)) (fun i acc H' H'' q kk => ⟨Same.keepL hD q.1 kk, q.2⟩) (fun i x acc H1 H2 Kk K0 hi q _ y c1 c0 => ?_) (fun acc H1 q hacc => ?_)
  · obtain ⟨rfl, kk, v, hk, rfl⟩ := y
    obtain ⟨z, a, rfl, hz, ra⟩ := r.at hk
    obtain ⟨s1, hq⟩ := q
    have et := take_succ_get hz
    refine step z a v H2 Kk K0 (List.mem_of_getElem? hz) ra s1 (r.valAt nd hk) (fun hf1 => ⟨acc, c1 _ _ _ (Keep.refl _) ⟨s1, ?_⟩⟩) (fun hf1 => c0 _ (Keep.refl _) ⟨s1, ?_⟩)
    · have e3 : hasK z ((l.take i).filter f) = false := hasK_filter (nd.at hz)
      have e4 := hq.put z ra
      unfold setK at e4
      rw [e3] at e4
      rw [et, List.filter_append, List.filter_cons_of_pos hf1]
      exact e4
    · rw [et, List.filter_append, List.filter_cons_of_neg (by rw [hf1]; simp), List.filter_nil, List.append_nil]
      exact hq
  · obtain ⟨s1, hq⟩ := q
    rw [kL, List.take_length] at hq
    exact hd acc H1 s1 hacc hq
end
end K51

set_option Elab.async false
set_option linter.all false
set_option maxRecDepth 100000
set_option maxHeartbeats 4000000
set_option pp.deepTerms true
set_option pp.maxSteps 100000
namespace K51
open PySem PySem.Spec PyProof.Rows L2
def spDoDrop (K : PySem.W.Frag) : Sp := fun vs H Q E => ∃ (M : List Addr) (v : V) (st : St) (n : Str), vs = [v, .str n] ∧ NodK st.labs ∧ NodK st.wishes ∧ DoRes K M H v st (.drop n) Q E
def spDoUnwish (K : PySem.W.Frag) : Sp := fun vs H Q E => ∃ (M : List Addr) (v : V) (st : St) (n : Str), vs = [v, .str n] ∧ NodK st.wishes ∧ DoRes K M H v st (.unwish n) Q E
def spNeedWish (K : PySem.W.Frag) : Sp := fun vs H Q E => ∃ (M : List Addr) (lv wv : V) (L : Lab) (w : Wish), vs = [lv, wv] ∧ PLab K M H lv L ∧ Trk M H ∧ DA M H wv (.tup [.tup (w.st.map pairD), .tup (w.wd.map pairD)]) ∧ ShortP w.st ∧ ShortP w.wd ∧ Res K (okIf (wishOk L w) "badwish") (∀ H', Same H H' → Q .non H') H E
def spDoWish (K : PySem.W.Frag) : Sp := fun vs H Q E => ∃ (M : List Addr) (v sv wv : V) (st : St) (n : Str) (w : Wish), vs = [v, .str n, .str w.lab, sv, wv] ∧ Short n ∧ DA M H sv (.tup (w.st.map pairD)) ∧ DA M H wv (.tup (w.wd.map pairD)) ∧ ShortP w.st ∧ ShortP w.wd ∧ DoRes K M H v st (.wish n w) Q E
theorem gTup2_mono {K : PySem.W.Frag} {i j : Nat} : ∀ (x : V) (σ : L2.St) (H : Hp) (Q Q' : L2.St → Hp → Prop), (∀ σ' H', Q σ' H' → Q' σ' H') → gTup K 2 (gCons (gName i) (gCons (gName j) gNil)) x σ H Q → gTup K 2 (gCons (gName i) (gCons (gName j) gNil)) x σ H Q' := by
  intro x σ H Q Q' h q
  obtain ⟨a, xs, e, hq, hl, v, r, e1, v2, r2, e2, e3, q⟩ := q
  exact ⟨a, xs, e, hq, hl, v, r, e1, v2, r2, e2, e3, h _ _ q⟩
theorem Trk.nodK {M : List Addr} {H : Hp} {d : Addr} {o : HO} (t : Trk M H) (n : d ∉ M) : Trk M (upd H d o) := t.at
section
variable {P : Program} {w : World} {K : PySem.W.Frag} {mg : Str → Option Value} {base : Heap}
abbrev N_do_unwish : List Str := ["state", "name", "labs", "wishes", "other"]
theorem sc_do_unwish : FnScope N_do_unwish ["state", "name"] (defScope s_do_unwish) := ⟨rfl, rfl, rfl, by decide +kernel, rfl, by decide +kernel, by decide +kernel⟩
theorem b_do_unwish : Bnd0 d_do_unwish.name d_do_unwish.qual d_do_unwish.params d_do_unwish.body d_do_unwish.scope ["state", "name"] := fun _ _ _ _ _ _ us hl => match us, hl with | [_, _], _ => rfl
theorem ok_do_unwish (T : TX w K mg) : CalE P w K mg base 9 "do_unwish" [] (spDoUnwish K) := by
  refine cal_of T.fd_do_unwish T.g_do_unwish sc_do_unwish b_do_unwish (fun vs H Q E h => ?_) (fun cdv A outer s H vs Q E hr h => ?_)
  · obtain ⟨M, v, st, n, rfl, _⟩ := h
    rfl
  obtain ⟨M, v, st, n, rfl, ow, ⟨p, d1, d2, k1, k2, rfl, h⟩, tM, fi, k⟩ := h
  have nd := sc_do_unwish.nd
  have hu := hu_of hr
  refine ⟨_, (pss_cons (ps_asg (pv 0) (pg_tup (n := 2) (by rfl) (pgs_cons (pg_name (i := 2) nd rfl (Or.inl rfl)) (pgs_cons (pg_name (i := 3) nd rfl (Or.inr rfl)) pgs_nil))))
      (pss_cons (ps_if (pt_cmp (pc_dnotin hu (pv 1) (pv 3)))
      (pss_one (ps_raise rfl (takes_of rfl rfl rfl rfl) (pmk_err (ok_NoWish_init T) (hr.mono (by decide)) rfl)))
      pss_nil)
      (pss_one (ps_ret (pe_tup (pa_cons (pv 2) (pa_cons (pe_lock (pe_dc (own := [("other", 4)]) (by rfl) nd (pi_keys (pv 3)) (blkOk_by (N := N_do_unwish) (sc := defScope s_do_unwish) (by decide +kernel)) (fun _ _ _ _ _ => (pg_name (i := 4) nd rfl (Or.inl rfl))) (fun _ _ _ _ _ => (pts_one (pt_cmpR op_ne (pv 4) (pv 1) (nomark _)))) (fun _ _ _ _ _ => (pv 4)) (fun _ _ _ _ _ => (pe_dget hu (pv 3) (pv 4) (fun _ _ => rfl))))) pa_nil))))))), ?_⟩
  simp only [tSeq, tDrop, tVar, tC, tCall, tCons, tNil, tFld, sFld, sDPut, tDGet, tRet, tRetN, tIfS, tTest, tB, tNot, tAnd, tOr, tOp, tUn, rI0, rI, tNext, tDIn, tDNotIn, tDNewK, tIf, tAndV, tOrV, tNotV, tAsg, gName, gCons, gNil, gTup, tPar, tTup, tLst, tMeth, tCB, rEq, rNe, tBM, rAppend, tBM0, tChain, rIxL, rIxT, rIxS, rIx, L2.start, cxK, cxW, kV_inr, List.map_cons, List.map_nil, List.length_cons, List.length_nil, List.replicate, List.cons_append, List.nil_append, List.append_nil, List.getElem?_cons_zero, List.getElem?_cons_succ, List.set_cons_zero, List.set_cons_succ, Option.some.injEq, V.ref.injEq, V.str.injEq, V.int.injEq, V.bl.injEq, exists_eq, exists_eq', exists_eq_left, exists_eq_left', exists_and_left, exists_and_right, List.cons.injEq, and_true, true_and, and_assoc]
  refine ⟨_, .inl (.inl h.hp), rfl, _, _, rfl, _, _, rfl, rfl, d2, rfl, _, DGet.k (k := .inr n) h.h2, ?_⟩
  rw [h.r2.isSome]
  cases hh : hasK n st.wishes with
  | false =>
    have e : dueP st (.unwish n) = some "nowish" := by show okIf (hasK n st.wishes) "nowish" = _; rw [hh]; rfl
    exact iteT ((k.no e).go T.ie_NoWish)
  | true =>
  have e : dueP st (.unwish n) = none := by show okIf (hasK n st.wishes) "nowish" = _; rw [hh]; rfl
  refine iteF ⟨d2, _, h.h2, trivial, fun od => ?_⟩
  refine ⟨_, rfl, d2, od, rfl, .inl ⟨k2, upd_same, fun D hD => ?_⟩⟩
  have hl2 := fi.l2
  have kL := h.r2.length
  have r2' : KR (fun v w => DA M (upd H d2 (.frz od (.dK k2))) v (Wish.d w)) k2 st.wishes := h.r2.imp fun v a r => DA.keepD (KeepD.frz h.h2) r
  refine dc_acc (Qd := fun H' => _) walk_keys (fun i acc H' => Same (upd H d2 (.frz od (.dK k2))) H' ∧ KR (fun v w => DA M (upd H d2 (.frz od (.dK k2))) v (Wish.d w)) acc ((st.wishes.take i).filter fun p => decide (p.1 ≠ n))) (by omega) ⟨Same.up hD, .nil⟩
    (fun i acc H' _ q => q.1 _ _ upd_same) (fun i acc H' q => by rw [q.2.length]; exact Nat.le_trans (List.length_filter_le _ _) (by rw [List.length_take]; exact Nat.min_le_left _ _)) (fun i acc H' H'' q kk => ⟨Same.keepL hD q.1 kk, q.2⟩) (fun i x acc H1 H2 Kk K0 hi q _ y c1 c0 => ?_) (fun acc H1 q hacc => ?_)
  · obtain ⟨rfl, kk, v, hk, rfl⟩ := y
    obtain ⟨z, a, rfl, hz, ra⟩ := r2'.at hk
    obtain ⟨s1, hq⟩ := q
    have et := take_succ_get hz
    refine ⟨rfl, ?_⟩
    simp only [tSeq, tDrop, tVar, tC, tCall, tCons, tNil, tFld, sFld, sDPut, tDGet, tRet, tRetN, tIfS, tTest, tB, tNot, tAnd, tOr, tOp, tUn, rI0, rI, tNext, tDIn, tDNotIn, tDNewK, tIf, tAndV, tOrV, tNotV, tAsg, gName, gCons, gNil, gTup, tPar, tTup, tLst, tMeth, tCB, rEq, rNe, tBM, rAppend, tBM0, tChain, rIxL, rIxT, rIxS, rIx, L2.start, cxK, cxW, kV_inr, List.map_cons, List.map_nil, List.length_cons, List.length_nil, List.replicate, List.cons_append, List.nil_append, List.append_nil, List.getElem?_cons_zero, List.getElem?_cons_succ, List.set_cons_zero, List.set_cons_succ, Option.some.injEq, V.ref.injEq, V.str.injEq, V.int.injEq, V.bl.injEq, exists_eq, exists_eq', exists_eq_left, exists_eq_left', exists_and_left, exists_and_right, List.cons.injEq, and_true, true_and, and_assoc, wipe]
    refine ⟨rfl, ?_⟩
    by_cases ez : z = n
    · subst ez
      rw [decide_eq_true rfl]
      refine iteF (c0 _ (Keep.refl _) ⟨s1, ?_⟩)
      rw [et, List.filter_append, List.filter_cons_of_neg (by simp), List.filter_nil, List.append_nil]
      exact hq
    · rw [decide_eq_false ez]
      refine iteT ⟨v, .inl ⟨k2, .inr z, .inr ⟨od, s1 _ _ upd_same⟩, rfl, ?_⟩, acc, .inr z, rfl, c1 _ _ _ (Keep.refl _) ⟨s1, ?_⟩⟩
      · obtain ⟨v', e1, _⟩ := (h.r2.val z).1 a (ow.once (z, a) (List.mem_of_getElem? hz))
        have e2 := KR.valAt h.r2 ow hk
        exact e2.symm
      · have e3 : hasK z ((st.wishes.take i).filter fun p => decide (p.1 ≠ n)) = false := hasK_filter (ow.at hz)
        have e4 := hq.put z ra
        unfold setK at e4
        rw [e3] at e4
        rw [et, List.filter_append, List.filter_cons_of_pos (by simpa using ez)]
        exact e4
  · obtain ⟨s1, hq⟩ := q
    rw [kL, List.take_length] at hq
    refine ⟨s1 _ _ upd_same, by rw [sizeLine_eq]; omega, fun t ht => ?_⟩
    have s2 : Same H (upd H1 d2 (.dK k2)) := Same.unlock h.h2 s1
    have s3 := s2.trans (Same.up (o := .tup [.ref d1, .ref D]) ht)
    have nD : D ∉ M := by
      refine (Trk.nodK tM h.n2).new hD
    have nDd : D ≠ d2 := fun z => by rw [z, upd_same] at hD; cases hD
    have hD2 : (upd (upd H1 d2 (.dK k2)) t (.tup [.ref d1, .ref D])) D = some (.dK acc) := by
      have e1 : (upd H1 d2 (.dK k2)) D = some (.dK acc) := by rw [upd_ne nDd]; exact hacc
      exact Same.up ht D _ e1
    refine k.yes e _ _ s3 ⟨t, d1, D, k1, acc, rfl, (tM.same s2).new ht, h.n1, nD, upd_same, s3 _ _ h.h1, hD2, h.r1.imp fun v a r => PLab.keep r (Keep.of s3), hq.imp fun v a r => ?_⟩
    have r0 : DA M (upd H1 d2 (.dK k2)) v (Wish.d a) := (DA.keep (Keep.of s1) r).keepD (KeepD.unfrz (s1 _ _ upd_same))
    exact r0.keep (Keep.of (Same.up ht))
abbrev N_need_wish : List Str := ["lab", "wish", "stands", "words", "name", "machines", "word", "rows", "stand"]
theorem sc_need_wish : FnScope N_need_wish ["lab", "wish"] (defScope s_need_wish) := ⟨rfl, rfl, rfl, by decide +kernel, rfl, by decide +kernel, by decide +kernel⟩
theorem b_need_wish : Bnd0 d_need_wish.name d_need_wish.qual d_need_wish.params d_need_wish.body d_need_wish.scope ["lab", "wish"] := fun _ _ _ _ _ _ us hl => match us, hl with | [_, _], _ => rfl
theorem ok_need_wish (T : TX w K mg) : CalE P w K mg base 4 "need_wish" [] (spNeedWish K) := by
  refine cal_of T.fd_need_wish T.g_need_wish sc_need_wish b_need_wish (fun vs H Q E h => ?_) (fun cdv A outer s H vs Q E hr h => ?_)
  · obtain ⟨M, lv, wv, L, w, rfl, _⟩ := h
    rfl
  obtain ⟨M, lv, wv, L, wi, rfl, pl, tM, dw, z1, z2, k⟩ := h
  have nd := sc_need_wish.nd
  obtain ⟨p, ys, rfl, np, hp, dy⟩ := DA.tup_iff.mp dw
  obtain ⟨sv, r1, e1, dsv, dy⟩ := DAs.cons_inv dy
  obtain ⟨wv, r2, e2, dwv, dy⟩ := DAs.cons_inv dy
  rw [DAs.nil_inv dy] at e2
  rw [e2] at e1
  subst e1
  obtain ⟨sp, sx, rfl, nsp, hsp, dsx⟩ := DA.tup_iff.mp dsv
  obtain ⟨wp, wx, rfl, nwp, hwp, dwx⟩ := DA.tup_iff.mp dwv
  have lsx : sx.length = wi.st.length := by rw [dsx.length, List.length_map]
  have lwx : wx.length = wi.wd.length := by rw [dwx.length, List.length_map]
  have l1 := z1.1
  have l2 := z2.1
  obtain ⟨a, dx, d1, d2, l, n1, n2, xs, rfl, pa⟩ := pl
  refine ⟨_, (pss_cons (ps_asg (pv 1) (pg_tup (n := 2) (by rfl) (pgs_cons (pg_name (i := 2) nd rfl (Or.inl rfl)) (pgs_cons (pg_name (i := 3) nd rfl (Or.inl rfl)) pgs_nil))))
      (pss_cons (ps_setLc (i := 5) (own := [("name", 4), ("stand", 8)]) (by rfl) nd rfl rfl (sw_true rfl rfl rfl (by decide +kernel)) (pi_tup (pv 2)) (blkOk_by (N := N_need_wish) (sc := defScope s_need_wish) (by decide +kernel)) (fun _ _ _ _ _ => (pg_tupK (K := K) rfl (n := 2) (by rfl) (pgs_cons (pg_name (i := 4) nd rfl (Or.inl rfl)) (pgs_cons (pg_name (i := 8) nd rfl (Or.inl rfl)) pgs_nil)))) (fun _ _ _ _ _ => pts_nil) (fun _ _ _ _ _ => (pv 4)))
      (pss_cons (ps_setLc (i := 7) (own := [("name", 4), ("word", 6)]) (by rfl) nd rfl rfl (sw_true rfl rfl rfl (by decide +kernel)) (pi_tup (pv 3)) (blkOk_by (N := N_need_wish) (sc := defScope s_need_wish) (by decide +kernel)) (fun _ _ _ _ _ => (pg_tupK (K := K) rfl (n := 2) (by rfl) (pgs_cons (pg_name (i := 4) nd rfl (Or.inl rfl)) (pgs_cons (pg_name (i := 6) nd rfl (Or.inl rfl)) pgs_nil)))) (fun _ _ _ _ _ => pts_nil) (fun _ _ _ _ _ => (pv 4)))
      (pss_cons (ps_if (PW.pt (pw_or (pt_cmpR op_lt (pe_lenSetS rfl rfl T.f_len rfl T.f_set (pv 5)) (pe_callB call_len_seq (by rfl) T.f_len PySem.boot_len (pa_cons (pv 5) pa_nil)) (nomark _)) (pw_or1 (pt_cmpR op_lt (pe_lenSetS rfl rfl T.f_len rfl T.f_set (pv 7)) (pe_callB call_len_seq (by rfl) T.f_len PySem.boot_len (pa_cons (pv 7) pa_nil)) (nomark _)))))
      (pss_one (ps_raise rfl (takes_of rfl rfl rfl rfl) (pmk_err (ok_BadWish_init T) (hr.mono (by decide)) rfl)))
      pss_nil)
      (pss_cons (ps_if (pt_not (pt_val (pe_callB (cr_all rfl) (by rfl) T.f_all (by decide +kernel) (pa_cons (pe_lc (own := [("name", 4), ("stand", 8)]) (by rfl) nd (pi_tup (pv 2)) (blkOk_by (N := N_need_wish) (sc := defScope s_need_wish) (by decide +kernel)) (fun _ _ _ _ _ => (pg_tupK (K := K) rfl (n := 2) (by rfl) (pgs_cons (pg_name (i := 4) nd rfl (Or.inl rfl)) (pgs_cons (pg_name (i := 8) nd rfl (Or.inl rfl)) pgs_nil)))) (fun _ _ _ _ _ => pts_nil) (fun _ _ _ _ _ => (pe_and (pe_cmpR (op_in_seqK (K := K) rfl) (pv 4) (pe_fldK (K := K) rfl (pv 0) rfl) (by rfl)) (pe_one (pe_cal (ok_is_name T) (hr.mono (by decide)) rfl passL (pa_cons (pv 8) pa_nil)))))) pa_nil))))
      (pss_one (ps_raise rfl (takes_of rfl rfl rfl rfl) (pmk_err (ok_BadWish_init T) (hr.mono (by decide)) rfl)))
      pss_nil)
      (pss_one (ps_for (passes_of rfl) rfl (pi_tup (pv 3)) (pg_tup (n := 2) (by rfl) (pgs_cons (pg_name (i := 4) nd rfl (Or.inl rfl)) (pgs_cons (pg_name (i := 6) nd rfl (Or.inl rfl)) pgs_nil)))
      (pss_one (ps_if (PW.pt (pw_or (pt_cmpR op_notIn_seq (pv 4) (pe_fld (pv 0) rfl) (by rfl)) (pw_or (pt_not (pt_val (pe_cal (ok_is_word T) (hr.mono (by decide)) rfl passL (pa_cons (pv 6) pa_nil)))) (pw_or1 (pt_cmpR op_gt (pe_callB call_len_str (by rfl) T.f_len PySem.boot_len (pa_cons (pv 6) pa_nil)) (pe_kint rfl T.i_LONGEST_WORD) (nomark _))))))
      (pss_one (ps_raise rfl (takes_of rfl rfl rfl rfl) (pmk_err (ok_BadWish_init T) (hr.mono (by decide)) rfl)))
      pss_nil))))))))), ?_⟩
  simp only [tSeq, tDrop, tVar, tC, tCall, tCons, tNil, tFld, sFld, sDPut, tDGet, tRet, tRetN, tIfS, tTest, tB, tNot, tAnd, tOr, tOp, tUn, rI0, rI, tNext, tDIn, tDNotIn, tDNewK, tIf, tAndV, tOrV, tNotV, tAsg, gName, gCons, gNil, gTup, tPar, tTup, tLst, tMeth, tCB, rEq, rNe, tBM, rAppend, tBM0, tChain, rIxL, rIxT, rIxS, rIx, L2.start, cxK, cxW, kV_inr, List.map_cons, List.map_nil, List.length_cons, List.length_nil, List.replicate, List.cons_append, List.nil_append, List.append_nil, List.getElem?_cons_zero, List.getElem?_cons_succ, List.set_cons_zero, List.set_cons_succ, Option.some.injEq, V.ref.injEq, V.str.injEq, V.int.injEq, V.bl.injEq, exists_eq, exists_eq', exists_eq_left, exists_eq_left', exists_and_left, exists_and_right, List.cons.injEq, and_true, true_and, and_assoc]
  refine ⟨_, .inl (.inl hp), rfl, _, _, rfl, _, _, rfl, rfl, ?_⟩
  refine ⟨_, rfl, sp, rfl, ⟨sx, .inl (.inl hsp)⟩, fun D1 hD1 => ?_⟩
  refine lc_vals (Qd := fun H' => _) (walk_tup (xs := sx)) (wi.st.map fun q => V.str q.1) (by rw [List.length_map, lsx]) (by omega) hD1 (fun H' s' => .inl (.inl (s' _ _ hsp))) yAt_same gTup2_mono (fun i x y H1 H2 Kk hy s1 hx kk => ?_) (fun H1 s1 hl1 => ?_)
  · obtain ⟨rfl, hx⟩ := hx
    obtain ⟨q, t, hq, rfl, rfl, ht⟩ := pairs_at dsx hx hy
    simp only [tSeq, tDrop, tVar, tC, tCall, tCons, tNil, tFld, sFld, sDPut, tDGet, tRet, tRetN, tIfS, tTest, tB, tNot, tAnd, tOr, tOp, tUn, rI0, rI, tNext, tDIn, tDNotIn, tDNewK, tIf, tAndV, tOrV, tNotV, tAsg, gName, gCons, gNil, gTup, tPar, tTup, tLst, tMeth, tCB, rEq, rNe, tBM, rAppend, tBM0, tChain, rIxL, rIxT, rIxS, rIx, L2.start, cxK, cxW, kV_inr, List.map_cons, List.map_nil, List.length_cons, List.length_nil, List.replicate, List.cons_append, List.nil_append, List.append_nil, List.getElem?_cons_zero, List.getElem?_cons_succ, List.set_cons_zero, List.set_cons_succ, Option.some.injEq, V.ref.injEq, V.str.injEq, V.int.injEq, V.bl.injEq, exists_eq, exists_eq', exists_eq_left, exists_eq_left', exists_and_left, exists_and_right, List.cons.injEq, and_true, true_and, and_assoc, wipe]
    exact ⟨_, .inl (.inl (s1 _ _ ht)), rfl, _, _, rfl, _, _, rfl, rfl, kk _ (Same.refl _)⟩
  refine ⟨_, rfl, wp, rfl, ⟨wx, .inl (.inl (s1 _ _ hwp))⟩, fun D2 hD2 => ?_⟩
  refine lc_vals (Qd := fun H' => _) (walk_tup (xs := wx)) (wi.wd.map fun q => V.str q.1) (by rw [List.length_map, lwx]) (by omega) hD2 (fun H' s' => .inl (.inl ((s1.trans s') _ _ hwp))) yAt_same gTup2_mono (fun i x y H2 H3 Kk hy s2 hx kk => ?_) (fun H2 s2 hl2 => ?_)
  · obtain ⟨rfl, hx⟩ := hx
    obtain ⟨q, t, hq, rfl, rfl, ht⟩ := pairs_at dwx hx hy
    simp only [tSeq, tDrop, tVar, tC, tCall, tCons, tNil, tFld, sFld, sDPut, tDGet, tRet, tRetN, tIfS, tTest, tB, tNot, tAnd, tOr, tOp, tUn, rI0, rI, tNext, tDIn, tDNotIn, tDNewK, tIf, tAndV, tOrV, tNotV, tAsg, gName, gCons, gNil, gTup, tPar, tTup, tLst, tMeth, tCB, rEq, rNe, tBM, rAppend, tBM0, tChain, rIxL, rIxT, rIxS, rIx, L2.start, cxK, cxW, kV_inr, List.map_cons, List.map_nil, List.length_cons, List.length_nil, List.replicate, List.cons_append, List.nil_append, List.append_nil, List.getElem?_cons_zero, List.getElem?_cons_succ, List.set_cons_zero, List.set_cons_succ, Option.some.injEq, V.ref.injEq, V.str.injEq, V.int.injEq, V.bl.injEq, exists_eq, exists_eq', exists_eq_left, exists_eq_left', exists_and_left, exists_and_right, List.cons.injEq, and_true, true_and, and_assoc, wipe]
    exact ⟨_, .inl (.inl ((s1.trans s2) _ _ ht)), rfl, _, _, rfl, _, _, rfl, rfl, kk _ (Same.refl _)⟩
  have s12 := s1.trans s2
  have hl1' := s2 _ _ hl1
  have e1 : (wi.st.map fun q => V.str q.1) = (wi.st.map (·.1)).map V.str := by rw [List.map_map]; rfl
  have e2 : (wi.wd.map fun q => V.str q.1) = (wi.wd.map (·.1)).map V.str := by rw [List.map_map]; rfl
  have no : wishOk L wi = false → Refuse K "badwish" H E := fun e => k.no (by rw [e]; rfl)
  rw [e1] at hl1'
  rw [e2] at hl2
  have m1 : ((wi.st.map (·.1)).map V.str).length = wi.st.length := by rw [List.length_map, List.length_map]
  have m2 : ((wi.wd.map (·.1)).map V.str).length = wi.wd.length := by rw [List.length_map, List.length_map]
  simp only [tSeq, tDrop, tVar, tC, tCall, tCons, tNil, tFld, sFld, sDPut, tDGet, tRet, tRetN, tIfS, tTest, tB, tNot, tAnd, tOr, tOp, tUn, rI0, rI, tNext, tDIn, tDNotIn, tDNewK, tIf, tAndV, tOrV, tNotV, tAsg, gName, gCons, gNil, gTup, tPar, tTup, tLst, tMeth, tCB, rEq, rNe, tBM, rAppend, tBM0, tChain, rIxL, rIxT, rIxS, rIx, L2.start, cxK, cxW, kV_inr, List.map_cons, List.map_nil, List.length_cons, List.length_nil, List.replicate, List.cons_append, List.nil_append, List.append_nil, List.getElem?_cons_zero, List.getElem?_cons_succ, List.set_cons_zero, List.set_cons_succ, Option.some.injEq, V.ref.injEq, V.str.injEq, V.int.injEq, V.bl.injEq, exists_eq, exists_eq', exists_eq_left, exists_eq_left', exists_and_left, exists_and_right, List.cons.injEq, and_true, true_and, and_assoc, tLenSetS]
  refine ⟨wi.st.map (·.1), .inl (.inl hl1'), by rw [List.length_map]; omega, _, .inl (.inl (.inl hl1')), ?_⟩
  rw [m1]
  by_cases c1 : (uniq (wi.st.map (·.1))).length < wi.st.length
  · rw [if_pos (decide_eq_true (by omega))]
    refine iteY (((no ?_).mono s12).go T.ie_BadWish)
    unfold wishOk
    rw [decide_eq_true c1]
    rfl
  rw [if_neg (fun z => c1 (by have := of_decide_eq_true z; omega))]
  refine ⟨wi.wd.map (·.1), .inl (.inl hl2), by rw [List.length_map]; omega, _, .inl (.inl (.inl hl2)), ?_⟩
  rw [m2]
  by_cases c2 : (uniq (wi.wd.map (·.1))).length < wi.wd.length
  · rw [if_pos (decide_eq_true (by omega))]
    refine ((no ?_).mono s12).go T.ie_BadWish
    unfold wishOk
    rw [decide_eq_false c1, decide_eq_true c2]
    rfl
  rw [if_neg (fun z => c2 (by have := of_decide_eq_true z; omega))]
  have wo : wishOk L wi = ((wi.st.all fun p => hasK p.1 L.ms && isName p.2) && wi.wd.all fun p => hasK p.1 L.rs && wordOf p.2 0 8) := by
    unfold wishOk
    rw [decide_eq_false c1, decide_eq_false c2]
    rfl
  refine ⟨_, rfl, sp, rfl, ⟨sx, .inl (.inl (s12 _ _ hsp))⟩, fun D3 hD3 => ?_⟩
  refine lc_vals (Qd := fun H' => _) (walk_tup (xs := sx)) (wi.st.map fun q => V.bl (hasK q.1 L.ms && isName q.2)) (by rw [List.length_map, lsx]) (by omega) hD3 (fun H' s' => .inl (.inl ((s12.trans s') _ _ hsp))) yAt_same gTup2_mono (fun i x y H3 H4 Kk hy s3 hx kk => ?_) (fun H3 s3 hl3 => ?_)
  · obtain ⟨rfl, hx⟩ := hx
    obtain ⟨q, t, hq, rfl, rfl, ht⟩ := pairs_at dsx hx hy
    have s13 := s12.trans s3
    have hz : q.2.length ≤ 1000 := (z1.2 q (List.mem_of_getElem? hq)).2
    simp only [tSeq, tDrop, tVar, tC, tCall, tCons, tNil, tFld, sFld, sDPut, tDGet, tRet, tRetN, tIfS, tTest, tB, tNot, tAnd, tOr, tOp, tUn, rI0, rI, tNext, tDIn, tDNotIn, tDNewK, tIf, tAndV, tOrV, tNotV, tAsg, gName, gCons, gNil, gTup, tPar, tTup, tLst, tMeth, tCB, rEq, rNe, tBM, rAppend, tBM0, tChain, rIxL, rIxT, rIxS, rIx, L2.start, cxK, cxW, kV_inr, List.map_cons, List.map_nil, List.length_cons, List.length_nil, List.replicate, List.cons_append, List.nil_append, List.append_nil, List.getElem?_cons_zero, List.getElem?_cons_succ, List.set_cons_zero, List.set_cons_succ, Option.some.injEq, V.ref.injEq, V.str.injEq, V.int.injEq, V.bl.injEq, exists_eq, exists_eq', exists_eq_left, exists_eq_left', exists_and_left, exists_and_right, List.cons.injEq, and_true, true_and, and_assoc, wipe, rIn, Bool.false_eq_true, if_false]
    refine ⟨_, .inl (.inl (s13 _ _ ht)), rfl, _, _, rfl, _, _, rfl, rfl, _, _, _, s13 _ _ pa.ins, T.c_Lab, T.n_Lab_names, _, rfl, n1, rfl, _, .inl (.inl (.inl (s13 _ _ pa.hn1))), rfl, flat_keys _, ?_⟩
    rw [inV_keys]
    cases hk : hasK q.1 L.ms with
    | false =>
      rw [hk] at kk
      exact kk _ (Same.refl _)
    | true =>
      rw [hk] at kk
      exact ⟨q.2, rfl, hz, fun H5 s5 => kk _ s5⟩
  have s13 := s12.trans s3
  refine ⟨D3, wi.st.map (fun q => hasK q.1 L.ms && isName q.2), rfl, .inl (.inl (by rw [hl3, List.map_map]; rfl)), _, rfl, ?_⟩
  have e5 : (wi.st.map (fun q => hasK q.1 L.ms && isName q.2)).all id = (wi.st.all fun p => hasK p.1 L.ms && isName p.2) := by rw [List.all_map]; rfl
  rw [e5]
  cases hc : wi.st.all fun p => hasK p.1 L.ms && isName p.2 with
  | false =>
    rw [hc] at wo
    exact iteT (((no wo).mono s13).go T.ie_BadWish)
  | true =>
  rw [hc] at wo
  have wo : wishOk L wi = (wi.wd.all fun p => hasK p.1 L.rs && wordOf p.2 0 8) := wo
  refine iteF ⟨_, rfl, wp, rfl, ⟨wx, .inl (.inl (s13 _ _ hwp))⟩, ?_⟩
  refine for_it (D := ⟨_, _, fun _ _ => False, fun _ _ => False⟩) (walk_tup (xs := wx)) (fun i σ H' => Same H H' ∧ ((wi.wd.take i).all fun p => hasK p.1 L.rs && wordOf p.2 0 8) = true ∧ ∃ o2 o4 o5 o6 o7 o8, σ = [some (.ref a), some (.ref p), o2, some (.ref wp), o4, o5, o6, o7, o8])
    ⟨s13, rfl, _, _, _, _, _, _, rfl⟩ (fun i σ H' _ q => .inl (.inl (q.1 _ _ hwp))) (fun i x σ H' H'' hi q y => ?_) (fun σ H' q => ?_)
  · obtain ⟨s4, ga, o2, o4, o5, o6, o7, o8, rfl⟩ := q
    obtain ⟨rfl, hx⟩ := y
    obtain ⟨q, t, hq, rfl, _, ht⟩ := dwx.getP hx
    have hz : q.2.length ≤ 1000 := (z2.2 q (List.mem_of_getElem? hq)).2
    have et := take_succ_get hq
    have bad : (hasK q.1 L.rs && wordOf q.2 0 8) = false → Refuse K "badwish" H E := fun e => no (by
      rw [wo]
      cases ea : wi.wd.all fun p => hasK p.1 L.rs && wordOf p.2 0 8 with
      | false => rfl
      | true =>
        have := List.all_eq_true.mp ea q (List.mem_of_getElem? hq)
        rw [e] at this
        cases this)
    simp only [tSeq, tDrop, tVar, tC, tCall, tCons, tNil, tFld, sFld, sDPut, tDGet, tRet, tRetN, tIfS, tTest, tB, tNot, tAnd, tOr, tOp, tUn, rI0, rI, tNext, tDIn, tDNotIn, tDNewK, tIf, tAndV, tOrV, tNotV, tAsg, gName, gCons, gNil, gTup, tPar, tTup, tLst, tMeth, tCB, rEq, rNe, tBM, rAppend, tBM0, tChain, rIxL, rIxT, rIxS, rIx, L2.start, cxK, cxW, kV_inr, List.map_cons, List.map_nil, List.length_cons, List.length_nil, List.replicate, List.cons_append, List.nil_append, List.append_nil, List.getElem?_cons_zero, List.getElem?_cons_succ, List.set_cons_zero, List.set_cons_succ, Option.some.injEq, V.ref.injEq, V.str.injEq, V.int.injEq, V.bl.injEq, exists_eq, exists_eq', exists_eq_left, exists_eq_left', exists_and_left, exists_and_right, List.cons.injEq, and_true, true_and, and_assoc, rIn, if_true]
    refine ⟨_, .inl (.inl (s4 _ _ ht)), rfl, _, _, rfl, _, _, rfl, rfl, _, _, _, s4 _ _ pa.ins, T.c_Lab, T.n_Lab_row_names, _, rfl, n2, rfl, _, .inl (.inl (.inl (s4 _ _ pa.hn2))), rfl, flat_keys _, ?_⟩
    rw [inV_keys]
    cases hk : hasK q.1 L.rs with
    | false => exact iteT (((bad (by rw [hk]; rfl)).mono s4).go T.ie_BadWish)
    | true =>
    refine iteF ⟨q.2, rfl, hz, fun H5 s5 => ⟨_, rfl, ?_⟩⟩
    have s45 := s4.trans s5
    have ew : wordOf q.2 0 8 = (decide ((q.2.length : Int) ≤ 8) && isWord q.2) := by
      unfold wordOf
      rw [decide_eq_true (show (0 : Int) ≤ (q.2.length : Int) by omega)]
      rfl
    cases hw : isWord q.2 with
    | false => exact iteT (((bad (by rw [hk, ew, hw, Bool.and_false]; rfl)).mono s45).go T.ie_BadWish)
    | true =>
    refine iteF ⟨q.2, rfl, by rw [sizeLine_eq]; omega, ?_⟩
    by_cases h8 : (q.2.length : Int) ≤ 8
    · rw [if_neg (by simpa using h8)]
      refine ⟨s45, ?_⟩
      rw [et, List.all_append, ga]
      simp [hk, ew, hw, h8]
    · rw [if_pos (by simpa using h8)]
      exact ((bad (by rw [hk, ew, decide_eq_false h8]; rfl)).mono s45).go T.ie_BadWish
  · obtain ⟨s4, ga, o2, o4, o5, o6, o7, o8, rfl⟩ := q
    rw [lwx, List.take_length] at ga
    rw [ga] at wo
    exact k.yes (by rw [wo]; rfl) H' s4
abbrev N_do_wish : List Str := ["state", "name", "lab_name", "stands", "words", "labs", "wishes", "later"]
theorem sc_do_wish : FnScope N_do_wish ["state", "name", "lab_name", "stands", "words"] (defScope s_do_wish) := ⟨rfl, rfl, rfl, by decide +kernel, rfl, by decide +kernel, by decide +kernel⟩
theorem b_do_wish : Bnd0 d_do_wish.name d_do_wish.qual d_do_wish.params d_do_wish.body d_do_wish.scope ["state", "name", "lab_name", "stands", "words"] := fun _ _ _ _ _ _ us hl => match us, hl with | [_, _, _, _, _], _ => rfl
theorem ok_do_wish (T : TX w K mg) : CalE P w K mg base 9 "do_wish" [] (spDoWish K) := by
  refine cal_of T.fd_do_wish T.g_do_wish sc_do_wish b_do_wish (fun vs H Q E h => ?_) (fun cdv A outer s H vs Q E hr h => ?_)
  · obtain ⟨M, v, sv, wv, st, n, w, rfl, _⟩ := h
    rfl
  obtain ⟨M, v, sv, wv, st, n, wi, rfl, hn, dsv, dwv, z1, z2, ⟨p, d1, d2, k1, k2, rfl, h⟩, tM, fi, k⟩ := h
  have nd := sc_do_wish.nd
  have hu := hu_of hr
  refine ⟨_, (pss_cons (ps_expr (pe_cal (ok_need_name T) (hr.mono (by decide)) rfl px (pa_cons (pv 1) pa_nil)))
      (pss_cons (ps_expr (pe_cal (ok_need_fresh T) (hr.mono (by decide)) rfl px (pa_cons (pv 1) (pa_cons (pe_ix ix_tup (pv 0) pe_int (fun _ _ => rfl)) pa_nil))))
      (pss_cons (ps_expr (pe_cal (ok_need_wish T) (hr.mono (by decide)) rfl px (pa_cons (pe_cal (ok_lab_at T) (hr.mono (by decide)) rfl px (pa_cons (pv 0) (pa_cons (pv 2) pa_nil))) (pa_cons (pe_tup (pa_cons (pv 3) (pa_cons (pv 4) pa_nil))) pa_nil))))
      (pss_cons (ps_asg (pv 0) (pg_tup (n := 2) (by rfl) (pgs_cons (pg_name (i := 5) nd rfl (Or.inl rfl)) (pgs_cons (pg_name (i := 6) nd rfl (Or.inl rfl)) pgs_nil))))
      (pss_cons (ps_if (pt_cmpR op_ge (pe_callB call_lenD (by rfl) T.f_len PySem.boot_len (pa_cons (pv 6) pa_nil)) (pe_kint rfl T.i_MOST_WISHES) (nomark _))
      (pss_one (ps_raise rfl (takes_of rfl rfl rfl rfl) (pmk_err (ok_Full_init T) (hr.mono (by decide)) rfl)))
      pss_nil)
      (pss_cons (ps_set (i := 7) nd rfl (Or.inl rfl) (pe_callTy call_dictD (by rfl) T.f_dict (by decide +kernel) (pa_cons (pv 6) pa_nil)))
      (pss_cons (ps_dput hu (pv 7) (pv 1) (pe_tup (pa_cons (pv 2) (pa_cons (pe_tup (pa_cons (pv 3) (pa_cons (pv 4) pa_nil))) pa_nil))) rfl)
      (pss_one (ps_ret (pe_tup (pa_cons (pv 5) (pa_cons (pv 7) pa_nil)))))))))))), ?_⟩
  simp only [tSeq, tDrop, tVar, tC, tCall, tCons, tNil, tFld, sFld, sDPut, tDGet, tRet, tRetN, tIfS, tTest, tB, tNot, tAnd, tOr, tOp, tUn, rI0, rI, tNext, tDIn, tDNotIn, tDNewK, tIf, tAndV, tOrV, tNotV, tAsg, gName, gCons, gNil, gTup, tPar, tTup, tLst, tMeth, tCB, rEq, rNe, tBM, rAppend, tBM0, tChain, rIxL, rIxT, rIxS, rIx, L2.start, cxK, cxW, kV_inr, List.map_cons, List.map_nil, List.length_cons, List.length_nil, List.replicate, List.cons_append, List.nil_append, List.append_nil, List.getElem?_cons_zero, List.getElem?_cons_succ, List.set_cons_zero, List.set_cons_succ, Option.some.injEq, V.ref.injEq, V.str.injEq, V.int.injEq, V.bl.injEq, exists_eq, exists_eq', exists_eq_left, exists_eq_left', exists_and_left, exists_and_right, List.cons.injEq, and_true, true_and, and_assoc, spNeedName]
  obtain ⟨k0, r1⟩ := Res.split k
  refine ⟨hn, Res.mk (fun e1 H1 s1 => ?_) r1⟩
  refine ⟨_, .inl (.inl (s1 _ _ h.hp)), .ref d2, rfl, n, d2, k2, rfl, s1 _ _ h.h2, ?_⟩
  have ek : keyIn n k2 = hasK n st.wishes := h.r2.isSome n
  rw [ek]
  obtain ⟨k0, r2⟩ := Res.split (k0 e1)
  refine Res.mk (fun e2 => ?_) fun wd e => (r2 wd e).mono s1
  have k0 := k0 e2
  have ps : PState K M H (.ref p) st := ⟨p, d1, d2, k1, k2, rfl, h⟩
  refine ⟨M, _, st, wi.lab, rfl, ps.keep (Keep.of s1), fun L lv hL pl => ⟨by rw [sizeLine_eq]; omega, fun t ht => ?_⟩, fun e => ?_⟩
  · unfold onLab at k0
    rw [hL] at k0
    obtain ⟨k0, r3⟩ := Res.split k0
    have st1 : Same H1 (upd H1 t (.tup [sv, wv])) := Same.up ht
    have s2 := s1.trans st1
    have t1 := tM.same s1
    have dw : DA M (upd H1 t (.tup [sv, wv])) (.ref t) (.tup [.tup (wi.st.map pairD), .tup (wi.wd.map pairD)]) :=
      DA.newT t1 ht (DAs.cons (dsv.keep (Keep.of s1)) (DAs.cons (dwv.keep (Keep.of s1)) DAs.nil))
    refine ⟨M, lv, _, L, wi, rfl, pl.keep (Keep.of st1), t1.same st1, dw, z1, z2, Res.mk (fun e3 H3 s3 => ?_) fun wd e => (r3 wd e).mono s2⟩
    have s23 := s2.trans s3
    have k4 := k0 e3
    refine ⟨_, .inl (.inl (s23 _ _ h.hp)), rfl, _, _, rfl, _, _, rfl, rfl, d2, rfl, k2, s23 _ _ h.h2, ?_⟩
    rw [h.r2.length]
    by_cases c : st.wishes.length < 12
    · rw [if_neg (fun z => by have := of_decide_eq_true z; omega)]
      refine ⟨d2, rfl, k2, .inl (s23 _ _ h.h2), fun d hd => ⟨by rw [sizeLine_eq]; omega, fun u hu' => ⟨by rw [sizeLine_eq]; omega, fun x hx => ?_⟩⟩⟩
      have sA : Same H3 (upd H3 d (.dK k2)) := Same.up hd
      have sB : Same H3 (upd (upd H3 d (.dK k2)) u (.tup [sv, wv])) := sA.trans (Same.up hu')
      have sC : Same H3 (upd (upd (upd H3 d (.dK k2)) u (.tup [sv, wv])) x (.tup [.str wi.lab, .ref u])) := sB.trans (Same.up hx)
      have du : (upd (upd (upd H3 d (.dK k2)) u (.tup [sv, wv])) x (.tup [.str wi.lab, .ref u])) d = some (.dK k2) := Same.up hx _ _ (Same.up hu' _ _ upd_same)
      refine ⟨_, DPut.k (k := .inr n) du (by rw [h.r2.length, sizeLine_eq]; omega), by rw [sizeLine_eq]; omega, fun y hy => ?_⟩
      have t3 := tM.same s23
      have nd : d ∉ M := t3.new hd
      have nu : u ∉ M := (t3.same sA).new hu'
      have nx : x ∉ M := (t3.same sB).new hx
      have hu2 : (upd (upd (upd H3 d (.dK k2)) u (.tup [sv, wv])) x (.tup [.str wi.lab, .ref u])) u = some (.tup [sv, wv]) := Same.up hx _ _ upd_same
      have hx2 : (upd (upd (upd H3 d (.dK k2)) u (.tup [sv, wv])) x (.tup [.str wi.lab, .ref u])) x = some (.tup [.str wi.lab, .ref u]) := upd_same
      generalize upd (upd (upd H3 d (.dK k2)) u (.tup [sv, wv])) x (.tup [.str wi.lab, .ref u]) = H4 at *
      obtain ⟨hy1, yd⟩ := up_none hy
      have sD : ∀ b o, b ≠ d → H4 b = some o → (upd (upd H4 d (.dK (putK k2 (.inr n) (.ref x)))) y (.tup [.ref d1, .ref d])) b = some o := fun b o nb e => by
        rw [upd_ne (ne_of_none e hy1), upd_ne nb]
        exact e
      have sE : Same H (upd (upd H4 d (.dK (putK k2 (.inr n) (.ref x)))) y (.tup [.ref d1, .ref d])) := fun b o e => sD b o (ne_of_none (s23 _ _ e) hd) (sC _ _ (s23 _ _ e))
      have ud : u ≠ d := fun z => by rw [z, du] at hu2; cases hu2
      have xd : x ≠ d := fun z => by rw [z, du] at hx2; cases hx2
      have hR : DA M (upd (upd H4 d (.dK (putK k2 (.inr n) (.ref x)))) y (.tup [.ref d1, .ref d])) (.ref x) wi.d :=
        DA.tup_iff.mpr ⟨x, _, rfl, nx, sD _ _ xd hx2, DAs.cons (DA.str' _) (DAs.cons (DA.tup_iff.mpr ⟨u, _, rfl, nu, sD _ _ ud hu2, DAs.cons (dsv.keep (Keep.of sE)) (DAs.cons (dwv.keep (Keep.of sE)) DAs.nil)⟩) DAs.nil)⟩
      refine k4.yes (by rw [decide_eq_true c]; rfl) _ _ sE ⟨y, d1, d, k1, putK k2 (.inr n) (.ref x), rfl, ?_, h.n1, nd, upd_same, sE _ _ h.h1, ?_, h.r1.imp fun v a r => PLab.keep r (Keep.of sE), ?_⟩
      · exact (tM.same (s23.trans sC)).new hy1
      · rw [upd_ne yd.symm, upd_same]
      · exact (h.r2.imp fun v a r => DA.keep (Keep.of sE) r).put n hR
    · rw [if_pos (decide_eq_true (by omega))]
      exact ((k4.no (by rw [decide_eq_false c]; rfl)).mono s23).go T.ie_Full
  · unfold onLab at k0
    rw [e] at k0
    exact Refuse.mono k0 s1
abbrev N_do_drop : List Str := ["state", "name", "labs", "wishes", "left", "wish", "other"]
theorem sc_do_drop : FnScope N_do_drop ["state", "name"] (defScope s_do_drop) := ⟨rfl, rfl, rfl, by decide +kernel, rfl, by decide +kernel, by decide +kernel⟩
theorem b_do_drop : Bnd0 d_do_drop.name d_do_drop.qual d_do_drop.params d_do_drop.body d_do_drop.scope ["state", "name"] := fun _ _ _ _ _ _ us hl => match us, hl with | [_, _], _ => rfl
theorem ok_do_drop (T : TX w K mg) : CalE P w K mg base 9 "do_drop" [] (spDoDrop K) := by
  refine cal_of T.fd_do_drop T.g_do_drop sc_do_drop b_do_drop (fun vs H Q E h => ?_) (fun cdv A outer s H vs Q E hr h => ?_)
  · obtain ⟨M, v, st, n, rfl, _⟩ := h
    rfl
  obtain ⟨M, v, st, n, rfl, ol, ow, ⟨p, d1, d2, k1, k2, rfl, h⟩, tM, fi, k⟩ := h
  have nd := sc_do_drop.nd
  have hu := hu_of hr
  refine ⟨_, (pss_cons (ps_expr (pe_cal (ok_lab_at T) (hr.mono (by decide)) rfl px (pa_cons (pv 0) (pa_cons (pv 1) pa_nil))))
      (pss_cons (ps_asg (pv 0) (pg_tup (n := 2) (by rfl) (pgs_cons (pg_name (i := 2) nd rfl (Or.inr rfl)) (pgs_cons (pg_name (i := 3) nd rfl (Or.inr rfl)) pgs_nil))))
      (pss_cons (ps_lock (ps_setDc (i := 4) (own := [("wish", 5)]) (by rfl) nd rfl rfl (swD_true rfl rfl rfl (by decide +kernel)) (pi_keys (pv 3)) (blkOk_by (N := N_do_drop) (sc := defScope s_do_drop) (by decide +kernel)) (fun _ _ _ _ _ => (pg_name (i := 5) nd rfl (Or.inl rfl))) (fun _ _ _ _ _ => (pts_one (pt_cmpR op_ne (pe_ix (ix_tupK (K := K) rfl) (pe_dget hu (pv 3) (pv 5) (fun _ _ => rfl)) pe_int (fun _ _ => rfl)) (pv 1) (nomark _)))) (fun _ _ _ _ _ => (pv 5)) (fun _ _ _ _ _ => (pe_dget hu (pv 3) (pv 5) (fun _ _ => rfl)))))
      (pss_one (ps_ret (pe_tup (pa_cons (pe_lock (pe_dc (own := [("other", 6)]) (by rfl) nd (pi_keys (pv 2)) (blkOk_by (N := N_do_drop) (sc := defScope s_do_drop) (by decide +kernel)) (fun _ _ _ _ _ => (pg_name (i := 6) nd rfl (Or.inl rfl))) (fun _ _ _ _ _ => (pts_one (pt_cmpR op_ne (pv 6) (pv 1) (nomark _)))) (fun _ _ _ _ _ => (pv 6)) (fun _ _ _ _ _ => (pe_dget hu (pv 2) (pv 6) (fun _ _ => rfl))))) (pa_cons (pv 4) pa_nil)))))))), ?_⟩
  simp only [tSeq, tDrop, tVar, tC, tCall, tCons, tNil, tFld, sFld, sDPut, tDGet, tRet, tRetN, tIfS, tTest, tB, tNot, tAnd, tOr, tOp, tUn, rI0, rI, tNext, tDIn, tDNotIn, tDNewK, tIf, tAndV, tOrV, tNotV, tAsg, gName, gCons, gNil, gTup, tPar, tTup, tLst, tMeth, tCB, rEq, rNe, tBM, rAppend, tBM0, tChain, rIxL, rIxT, rIxS, rIx, L2.start, cxK, cxW, kV_inr, List.map_cons, List.map_nil, List.length_cons, List.length_nil, List.replicate, List.cons_append, List.nil_append, List.append_nil, List.getElem?_cons_zero, List.getElem?_cons_succ, List.set_cons_zero, List.set_cons_succ, Option.some.injEq, V.ref.injEq, V.str.injEq, V.int.injEq, V.bl.injEq, exists_eq, exists_eq', exists_eq_left, exists_eq_left', exists_and_left, exists_and_right, List.cons.injEq, and_true, true_and, and_assoc]
  have k : Res K (onLab st n fun _ => none) _ H E := k
  refine ⟨M, _, st, n, rfl, ⟨p, d1, d2, k1, k2, rfl, h⟩, fun L lv hL pl => ?_, fun e => ?_⟩
  · have e : onLab st n (fun _ => none) = none := by unfold onLab; rw [hL]
    have l1 := fi.l1
    have l2 := fi.l2
    refine ⟨_, .inl (.inl h.hp), rfl, _, _, rfl, _, _, rfl, rfl, d2, _, h.h2, trivial, fun od => ?_⟩
    refine ⟨_, rfl, d2, od, rfl, .inl ⟨k2, upd_same, fun D hD => ?_⟩⟩
    have r2' : KR (fun v w => DA M (upd H d2 (.frz od (.dK k2))) v (Wish.d w)) k2 st.wishes := h.r2.imp fun v a r => DA.keepD (KeepD.frz h.h2) r
    refine dc_filter (Qd := fun H' => _) (fun p => decide (p.2.lab ≠ n)) upd_same r2' ow (by omega) hD (fun z a v H1 Kk K0 hm ra s1 ev c1 c0 => ?_) (fun acc H1 s1 hacc hq => ?_)
    · refine ⟨rfl, ?_⟩
      obtain ⟨pw, xs, rfl, nw, hw, dx⟩ := DA.tup_iff.mp ra
      obtain ⟨x0, xr, rfl, e0, dx⟩ := DAs.cons_inv dx
      have e0 := DA.str_iff.mp e0
      subst e0
      have gd : DGet H1 d2 (.str z) (some (.ref pw)) := .inl ⟨k2, .inr z, .inr ⟨od, s1 _ _ upd_same⟩, rfl, ev.symm⟩
      simp only [tSeq, tDrop, tVar, tC, tCall, tCons, tNil, tFld, sFld, sDPut, tDGet, tRet, tRetN, tIfS, tTest, tB, tNot, tAnd, tOr, tOp, tUn, rI0, rI, tNext, tDIn, tDNotIn, tDNewK, tIf, tAndV, tOrV, tNotV, tAsg, gName, gCons, gNil, gTup, tPar, tTup, tLst, tMeth, tCB, rEq, rNe, tBM, rAppend, tBM0, tChain, rIxL, rIxT, rIxS, rIx, L2.start, cxK, cxW, kV_inr, List.map_cons, List.map_nil, List.length_cons, List.length_nil, List.replicate, List.cons_append, List.nil_append, List.append_nil, List.getElem?_cons_zero, List.getElem?_cons_succ, List.set_cons_zero, List.set_cons_succ, Option.some.injEq, V.ref.injEq, V.str.injEq, V.int.injEq, V.bl.injEq, exists_eq, exists_eq', exists_eq_left, exists_eq_left', exists_and_left, exists_and_right, List.cons.injEq, and_true, true_and, and_assoc, wipe]
      refine ⟨.ref pw, gd, pw, rfl, _, .inl (.inl (s1 _ _ hw)), .str a.lab, at_of (j := 0) rfl rfl, rfl, ?_⟩
      by_cases el : a.lab = n
      · rw [decide_eq_true (show V.str a.lab = V.str n by rw [el])]
        exact iteF (c0 (by simpa using el))
      · rw [decide_eq_false (show ¬ V.str a.lab = V.str n from fun e => el (V.str.inj e))]
        obtain ⟨acc, c1⟩ := c1 (by simpa using el)
        exact iteT ⟨.ref pw, gd, acc, .inr z, rfl, c1⟩
    have s2 : Same H (upd H1 d2 (.dK k2)) := Same.unlock h.h2 s1
    have nDd : D ≠ d2 := fun z => by rw [z, upd_same] at hD; cases hD
    have nD : D ∉ M := (Trk.nodK tM h.n2).new hD
    have hD1 : (upd H1 d2 (.dK k2)) D = some (.dK acc) := by rw [upd_ne nDd]; exact hacc
    have hq1 : KR (fun v w => DA M (upd H1 d2 (.dK k2)) v (Wish.d w)) acc (st.wishes.filter fun p => decide (p.2.lab ≠ n)) := hq.imp fun v a r => (DA.keep (Keep.of s1) r).keepD (KeepD.unfrz (s1 _ _ upd_same))
    refine ⟨s1 _ _ upd_same, ?_⟩
    clear hacc hq r2'
    generalize upd H1 d2 (.dK k2) = H2 at *
    simp only [tSeq, tDrop, tVar, tC, tCall, tCons, tNil, tFld, sFld, sDPut, tDGet, tRet, tRetN, tIfS, tTest, tB, tNot, tAnd, tOr, tOp, tUn, rI0, rI, tNext, tDIn, tDNotIn, tDNewK, tIf, tAndV, tOrV, tNotV, tAsg, gName, gCons, gNil, gTup, tPar, tTup, tLst, tMeth, tCB, rEq, rNe, tBM, rAppend, tBM0, tChain, rIxL, rIxT, rIxS, rIx, L2.start, cxK, cxW, kV_inr, List.map_cons, List.map_nil, List.length_cons, List.length_nil, List.replicate, List.cons_append, List.nil_append, List.append_nil, List.getElem?_cons_zero, List.getElem?_cons_succ, List.set_cons_zero, List.set_cons_succ, Option.some.injEq, V.ref.injEq, V.str.injEq, V.int.injEq, V.bl.injEq, exists_eq, exists_eq', exists_eq_left, exists_eq_left', exists_and_left, exists_and_right, List.cons.injEq, and_true, true_and, and_assoc, gName]
    refine ⟨d1, _, s2 _ _ h.h1, trivial, fun od2 => ?_⟩
    refine ⟨_, rfl, d1, od2, rfl, .inl ⟨k1, upd_same, fun D2 hD2 => ?_⟩⟩
    have r1' : KR (fun v L => PLab K M H v L) k1 st.labs := h.r1
    refine dc_filter (Qd := fun H' => _) (fun p => decide (p.1 ≠ n)) upd_same r1' ol (by omega) hD2 (fun z a v H3 Kk K0 hm ra s3 ev c1 c0 => ?_) (fun acc2 H3 s3 hacc2 hq2 => ?_)
    · refine ⟨rfl, ?_⟩
      simp only [tSeq, tDrop, tVar, tC, tCall, tCons, tNil, tFld, sFld, sDPut, tDGet, tRet, tRetN, tIfS, tTest, tB, tNot, tAnd, tOr, tOp, tUn, rI0, rI, tNext, tDIn, tDNotIn, tDNewK, tIf, tAndV, tOrV, tNotV, tAsg, gName, gCons, gNil, gTup, tPar, tTup, tLst, tMeth, tCB, rEq, rNe, tBM, rAppend, tBM0, tChain, rIxL, rIxT, rIxS, rIx, L2.start, cxK, cxW, kV_inr, List.map_cons, List.map_nil, List.length_cons, List.length_nil, List.replicate, List.cons_append, List.nil_append, List.append_nil, List.getElem?_cons_zero, List.getElem?_cons_succ, List.set_cons_zero, List.set_cons_succ, Option.some.injEq, V.ref.injEq, V.str.injEq, V.int.injEq, V.bl.injEq, exists_eq, exists_eq', exists_eq_left, exists_eq_left', exists_and_left, exists_and_right, List.cons.injEq, and_true, true_and, and_assoc, wipe]
      refine ⟨rfl, ?_⟩
      by_cases el : z = n
      · rw [decide_eq_true el]
        exact iteF (c0 (by simpa using el))
      · rw [decide_eq_false el]
        obtain ⟨acc, c1⟩ := c1 (by simpa using el)
        exact iteT ⟨v, .inl ⟨k1, .inr z, .inr ⟨od2, s3 _ _ upd_same⟩, rfl, ev.symm⟩, acc, .inr z, rfl, c1⟩
    have s4 : Same H2 (upd H3 d1 (.dK k1)) := Same.unlock (s2 _ _ h.h1) s3
    refine ⟨s3 _ _ upd_same, by rw [sizeLine_eq]; omega, fun t ht => ?_⟩
    have s24 := s2.trans s4
    have sT : Same (upd H3 d1 (.dK k1)) (upd (upd H3 d1 (.dK k1)) t (.tup [.ref D2, .ref D])) := Same.up ht
    have sF := s24.trans sT
    have nD2 : D2 ∉ M := ((tM.same s2).nodK h.n1).new hD2
    have nDd2 : D2 ≠ d1 := fun z => by rw [z, upd_same] at hD2; cases hD2
    refine k.yes e _ _ sF ⟨t, D2, D, acc2, acc, rfl, (tM.same s24).new ht, nD2, nD, upd_same, ?_, (s4.trans sT) _ _ hD1, hq2.imp fun v a r => PLab.keep r (Keep.of sF), hq1.imp fun v a r => DA.keep (Keep.of (s4.trans sT)) r⟩
    exact sT _ _ (by rw [upd_ne nDd2]; exact hacc2)
  · unfold onLab at k
    rw [e] at k
    exact k
end
end K51


set_option Elab.async false
set_option linter.all false
set_option maxRecDepth 100000
set_option maxHeartbeats 4000000
namespace K51
open PySem PySem.Spec PyProof.Rows L2
def Deed.word : Deed → Str
  | .lab _ => "lab" | .drop _ => "drop" | .machine _ _ _ => "machine" | .row _ _ _ => "row" | .move _ _ => "move" | .strike _ _ => "strike" | .wish _ _ => "wish" | .unwish _ => "unwish"
def Deed.rest : Deed → List D
  | .lab n => [.str n]
  | .drop n => [.str n]
  | .machine n m f => [.str n, .str m, .str f]
  | .row n m f => [.str n, .str m, .str f]
  | .move n v => [.str n, .str v.m, .str v.s, v.a.d, .str v.e]
  | .strike n i => [.str n, .int i]
  | .wish n w => [.str n, .str w.lab, .tup (w.st.map pairD), .tup (w.wd.map pairD)]
  | .unwish n => [.str n]
def Deed.d (d : Deed) : D := .tup (.str d.word :: d.rest)
def Deed.Short : Deed → Prop
  | .lab n => K51.Short n
  | .drop n => K51.Short n
  | .machine n m f => K51.Short n ∧ K51.Short m ∧ K51.Short f
  | .row n m f => K51.Short n ∧ K51.Short m ∧ K51.Short f
  | .move n v => K51.Short n ∧ v.Short
  | .strike n _ => K51.Short n
  | .wish n w => K51.Short n ∧ K51.Short w.lab ∧ ShortP w.st ∧ ShortP w.wd
  | .unwish n => K51.Short n
theorem DoRes.mono {K : PySem.W.Frag} {M : List Addr} {H H1 : Hp} {v : V} {st : St} {d : Deed} {Q : VK} {E : XK} (h : DoRes K M H v st d Q E) (s : Same H H1) : DoRes K M H1 v st d Q E :=
  ⟨h.1.keep (Keep.of s), h.2.1.same s, h.2.2.1, Res.mk (fun e H' v' s' p => h.2.2.2.yes e H' v' (s.trans s') p) fun wd e => (h.2.2.2.no e).mono s⟩
def spDone (K : PySem.W.Frag) : Sp := fun vs H Q E => ∃ (M : List Addr) (v dv : V) (st : St) (d : Deed), vs = [v, dv] ∧ DA M H dv d.d ∧ d.Short ∧ NodK st.labs ∧ NodK st.wishes ∧ DoRes K M H v st d Q E
section
variable {P : Program} {w : World} {K : PySem.W.Frag} {mg : Str → Option Value} {base : Heap}
theorem TX.sizesB (T : TX w K mg) (d : Deed) : KDct K w (He.ga K "SIZES_bench") d.word (.int d.rest.length) := by
  have k := fun q h => kdct_of T.tabs.2.2.1 T.k_SIZES_bench (q := q) h
  cases d with
  | lab _ => exact k ("lab", .int 1) (by simp)
  | drop _ => exact k ("drop", .int 1) (by simp)
  | machine _ _ _ => exact k ("machine", .int 3) (by simp)
  | row _ _ _ => exact k ("row", .int 3) (by simp)
  | move _ _ => exact k ("move", .int 5) (by simp)
  | strike _ _ => exact k ("strike", .int 2) (by simp)
  | wish _ _ => exact k ("wish", .int 4) (by simp)
  | unwish _ => exact k ("unwish", .int 1) (by simp)
theorem Deed.rest_len (d : Deed) : d.rest.length ≤ 5 := by cases d <;> simp [Deed.rest]
abbrev N_plain_done : List Str := ["state", "deed", "word", "things", "doer"]
theorem sc_plain_done : FnScope N_plain_done ["state", "deed"] (defScope s_plain_done) := ⟨rfl, rfl, rfl, by decide +kernel, rfl, by decide +kernel, by decide +kernel⟩
theorem b_plain_done : Bnd0 d_plain_done.name d_plain_done.qual d_plain_done.params d_plain_done.body d_plain_done.scope ["state", "deed"] := fun _ _ _ _ _ _ us hl => match us, hl with | [_, _], _ => rfl
theorem ok_plain_done (T : TX w K mg) : CalE P w K mg base 10 "plain_done" [] (spDone K) := by
  refine cal_of T.fd_plain_done T.g_plain_done sc_plain_done b_plain_done (fun vs H Q E h => ?_) (fun cdv A outer s H vs Q E hr h => ?_)
  · obtain ⟨M, v, dv, st, d, rfl, _⟩ := h
    rfl
  obtain ⟨M, v, dv, st, d, rfl, hd, sh, nl, nw, dr⟩ := h
  have nd := sc_plain_done.nd
  have kd := T.sizesB d
  obtain ⟨u, eu⟩ := KDct.in_ kd
  obtain ⟨p, xs, rfl, np, hp, dx0⟩ := DA.tup_iff.mp hd
  obtain ⟨x0, r, rfl, h0, dx⟩ := DAs.cons_inv dx0
  clear dx0
  have h0 := DA.str_iff.mp h0
  subst h0
  have lr : r.length = d.rest.length := by have := dx.length; simpa using this
  have l5 := d.rest_len
  cases d with
  | lab n =>
    obtain ⟨f1, fd1, ps1, ds1, F1, hm1, hk1, hb1, hd1⟩ := ok_do_lab (P := P) (base := base) T
    have ef : f1 = He.ga K "do_lab" := by
      have e := hm1.symm.trans T.g_do_lab
      simpa using e
    have kd1 : KDct K w (He.ga K "ONES") "lab" (.ref f1) := by rw [ef]; exact kdct_of T.tabs.2.2.2.1 T.k_ONES (q := ("lab", .glo "do_lab")) (by simp)
    refine ⟨_, (pss_cons (ps_asg (pv 1) (pg_star (i := 2) (j := 3) nd rfl rfl))
      (pss_cons (ps_if (PW.pt (pw_or (pt_cmpR (op_notInK T.k_SIZES_bench) (pv 2) (pe_gref rfl T.g_SIZES_bench) (by rfl)) (pw_or1 (pt_cmpR op_ne (pe_callB call_len_seq (by rfl) T.f_len PySem.boot_len (pa_cons (pv 3) pa_nil)) (pe_ix ix_kdict (pe_gref rfl T.g_SIZES_bench) (pv 2) (fun _ _ => rfl)) (nomark _)))))
      (pss_one (ps_raise rfl (takes_of rfl rfl rfl rfl) (pmk_err (ok_BadDeed_init T) (hr.mono (by decide)) rfl)))
      pss_nil)
      (pss_cons (ps_if (pt_cmpR op_in_seq (pv 2) (pe_tup (pa_cons pe_str (pa_cons pe_str (pa_cons pe_str pa_nil)))) (by rfl))
      (pss_cons (ps_set (i := 4) nd rfl (Or.inl rfl) (pe_ix ix_kdict (pe_gref rfl T.g_ONES) (pv 2) (fun _ _ => rfl)))
      (pss_one (ps_ret (pe_callL (i := 4) F1 (hr.mono (by decide)) rfl (Or.inl rfl) hk1 hb1 hd1 px (pa_cons (pv 0) (pa_cons (pe_ix ix_list (pv 3) pe_int (fun _ _ => rfl)) pa_nil))))))
      pss_nil)
      (pss_cons (ps_if (pt_cmpR op_in_seq (pv 2) (pe_tup (pa_cons pe_str (pa_cons pe_str (pa_cons pe_str pa_nil)))) (by rfl))
      (pss_cons (ps_set (i := 4) nd rfl (Or.inl rfl) (pe_ix ix_kdict (pe_gref rfl T.g_THREES) (pv 2) (fun _ _ => rfl)))
      (pss_one ps_never))
      pss_nil)
      (pss_cons (ps_if (pt_cmpR op_eq (pv 2) pe_str (nomark _))
      (pss_one (ps_ret (pe_cal (ok_do_strike T) (hr.mono (by decide)) rfl px (pa_cons (pv 0) (pa_cons (pe_ix ix_list (pv 3) pe_int (fun _ _ => rfl)) (pa_cons (pe_ix ix_list (pv 3) pe_int (fun _ _ => rfl)) pa_nil))))))
      pss_nil)
      (pss_cons (ps_if (pt_cmpR op_eq (pv 2) pe_str (nomark _))
      (pss_one (ps_ret (pe_cal (ok_do_wish T) (hr.mono (by decide)) rfl px (pa_cons (pv 0) (pa_cons (pe_ix ix_list (pv 3) pe_int (fun _ _ => rfl)) (pa_cons (pe_ix ix_list (pv 3) pe_int (fun _ _ => rfl)) (pa_cons (pe_ix ix_list (pv 3) pe_int (fun _ _ => rfl)) (pa_cons (pe_ix ix_list (pv 3) pe_int (fun _ _ => rfl)) pa_nil))))))))
      pss_nil)
      (pss_one (ps_ret (pe_cal (ok_do_move T) (hr.mono (by decide)) rfl px (pa_cons (pv 0) (pa_cons (pe_ix ix_list (pv 3) pe_int (fun _ _ => rfl)) (pa_cons (pe_ix ix_list (pv 3) pe_int (fun _ _ => rfl)) (pa_cons (pe_ix ix_list (pv 3) pe_int (fun _ _ => rfl)) (pa_cons (pe_ix ix_list (pv 3) pe_int (fun _ _ => rfl)) (pa_cons (pe_ix ix_list (pv 3) pe_int (fun _ _ => rfl)) pa_nil))))))))))))))), ?_⟩
    simp only [tSeq, tDrop, tVar, tC, tCall, tCons, tNil, tFld, sFld, sDPut, tDGet, tRet, tRetN, tIfS, tTest, tB, tNot, tAnd, tOr, tOp, tUn, rI0, rI, tNext, tDIn, tDNotIn, tDNewK, tIf, tAndV, tOrV, tNotV, tAsg, gName, gCons, gNil, gTup, tPar, tTup, tLst, tMeth, tCB, rEq, rNe, tBM, rAppend, tBM0, tChain, rIxL, rIxT, rIxS, rIx, L2.start, cxK, cxW, kV_inr, List.map_cons, List.map_nil, List.length_cons, List.length_nil, List.replicate, List.cons_append, List.nil_append, List.append_nil, List.getElem?_cons_zero, List.getElem?_cons_succ, List.set_cons_zero, List.set_cons_succ, Option.some.injEq, V.ref.injEq, V.str.injEq, V.int.injEq, V.bl.injEq, exists_eq, exists_eq', exists_eq_left, exists_eq_left', exists_and_left, exists_and_right, List.cons.injEq, and_true, true_and, and_assoc, gStar, rIn, tCallL, Bool.false_eq_true, if_false]
    refine ⟨.str "lab", r, .inl (.inl hp), by omega, fun L hL => ⟨_, rfl, some u, eu, iteF ⟨r, .inl (.inl (.inl upd_same)), _, _, _, rfl, rfl, kd, rfl, ?_⟩⟩⟩
    rw [lr, decide_eq_true rfl]
    refine iteF ⟨by rw [sizeLine_eq]; omega, fun p1 hp1 => ⟨_, .inr (.inl (.inl upd_same)), rfl, rfl, ?_⟩⟩
    have s1 : Same H (upd H L (.lst r)) := Same.up hL
    have hL1 : (upd H L (.lst r)) L = some (.lst r) := upd_same
    have s2 := s1.trans (Same.up (o := .tup [.str "lab", .str "drop", .str "unwish"]) hp1)
    have hL2 := (Same.up (o := .tup [.str "lab", .str "drop", .str "unwish"]) hp1) _ _ hL1
    rw [show inV (V.str "lab") [V.str "lab", V.str "drop", V.str "unwish"] = true from by decide]
    obtain ⟨x1, r1, rfl, g1, dy1⟩ := DAs.cons_inv dx
    have g1 := DA.str_iff.mp g1
    subst g1
    obtain rfl := DAs.nil_inv dy1
    generalize upd (upd H L (.lst [.str n])) p1 (.tup [V.str "lab", V.str "drop", V.str "unwish"]) = H2 at *
    exact iteT ⟨_, _, .ref f1, rfl, rfl, kd1, rfl, _, .inl (.inl hL2), _, rfl, ⟨M, v, st, n, rfl, sh, dr.mono s2⟩⟩
  | drop n =>
    obtain ⟨f1, fd1, ps1, ds1, F1, hm1, hk1, hb1, hd1⟩ := ok_do_drop (P := P) (base := base) T
    have ef : f1 = He.ga K "do_drop" := by
      have e := hm1.symm.trans T.g_do_drop
      simpa using e
    have kd1 : KDct K w (He.ga K "ONES") "drop" (.ref f1) := by rw [ef]; exact kdct_of T.tabs.2.2.2.1 T.k_ONES (q := ("drop", .glo "do_drop")) (by simp)
    refine ⟨_, (pss_cons (ps_asg (pv 1) (pg_star (i := 2) (j := 3) nd rfl rfl))
      (pss_cons (ps_if (PW.pt (pw_or (pt_cmpR (op_notInK T.k_SIZES_bench) (pv 2) (pe_gref rfl T.g_SIZES_bench) (by rfl)) (pw_or1 (pt_cmpR op_ne (pe_callB call_len_seq (by rfl) T.f_len PySem.boot_len (pa_cons (pv 3) pa_nil)) (pe_ix ix_kdict (pe_gref rfl T.g_SIZES_bench) (pv 2) (fun _ _ => rfl)) (nomark _)))))
      (pss_one (ps_raise rfl (takes_of rfl rfl rfl rfl) (pmk_err (ok_BadDeed_init T) (hr.mono (by decide)) rfl)))
      pss_nil)
      (pss_cons (ps_if (pt_cmpR op_in_seq (pv 2) (pe_tup (pa_cons pe_str (pa_cons pe_str (pa_cons pe_str pa_nil)))) (by rfl))
      (pss_cons (ps_set (i := 4) nd rfl (Or.inl rfl) (pe_ix ix_kdict (pe_gref rfl T.g_ONES) (pv 2) (fun _ _ => rfl)))
      (pss_one (ps_ret (pe_callL (i := 4) F1 (hr.mono (by decide)) rfl (Or.inl rfl) hk1 hb1 hd1 px (pa_cons (pv 0) (pa_cons (pe_ix ix_list (pv 3) pe_int (fun _ _ => rfl)) pa_nil))))))
      pss_nil)
      (pss_cons (ps_if (pt_cmpR op_in_seq (pv 2) (pe_tup (pa_cons pe_str (pa_cons pe_str (pa_cons pe_str pa_nil)))) (by rfl))
      (pss_cons (ps_set (i := 4) nd rfl (Or.inl rfl) (pe_ix ix_kdict (pe_gref rfl T.g_THREES) (pv 2) (fun _ _ => rfl)))
      (pss_one ps_never))
      pss_nil)
      (pss_cons (ps_if (pt_cmpR op_eq (pv 2) pe_str (nomark _))
      (pss_one (ps_ret (pe_cal (ok_do_strike T) (hr.mono (by decide)) rfl px (pa_cons (pv 0) (pa_cons (pe_ix ix_list (pv 3) pe_int (fun _ _ => rfl)) (pa_cons (pe_ix ix_list (pv 3) pe_int (fun _ _ => rfl)) pa_nil))))))
      pss_nil)
      (pss_cons (ps_if (pt_cmpR op_eq (pv 2) pe_str (nomark _))
      (pss_one (ps_ret (pe_cal (ok_do_wish T) (hr.mono (by decide)) rfl px (pa_cons (pv 0) (pa_cons (pe_ix ix_list (pv 3) pe_int (fun _ _ => rfl)) (pa_cons (pe_ix ix_list (pv 3) pe_int (fun _ _ => rfl)) (pa_cons (pe_ix ix_list (pv 3) pe_int (fun _ _ => rfl)) (pa_cons (pe_ix ix_list (pv 3) pe_int (fun _ _ => rfl)) pa_nil))))))))
      pss_nil)
      (pss_one (ps_ret (pe_cal (ok_do_move T) (hr.mono (by decide)) rfl px (pa_cons (pv 0) (pa_cons (pe_ix ix_list (pv 3) pe_int (fun _ _ => rfl)) (pa_cons (pe_ix ix_list (pv 3) pe_int (fun _ _ => rfl)) (pa_cons (pe_ix ix_list (pv 3) pe_int (fun _ _ => rfl)) (pa_cons (pe_ix ix_list (pv 3) pe_int (fun _ _ => rfl)) (pa_cons (pe_ix ix_list (pv 3) pe_int (fun _ _ => rfl)) pa_nil))))))))))))))), ?_⟩
    simp only [tSeq, tDrop, tVar, tC, tCall, tCons, tNil, tFld, sFld, sDPut, tDGet, tRet, tRetN, tIfS, tTest, tB, tNot, tAnd, tOr, tOp, tUn, rI0, rI, tNext, tDIn, tDNotIn, tDNewK, tIf, tAndV, tOrV, tNotV, tAsg, gName, gCons, gNil, gTup, tPar, tTup, tLst, tMeth, tCB, rEq, rNe, tBM, rAppend, tBM0, tChain, rIxL, rIxT, rIxS, rIx, L2.start, cxK, cxW, kV_inr, List.map_cons, List.map_nil, List.length_cons, List.length_nil, List.replicate, List.cons_append, List.nil_append, List.append_nil, List.getElem?_cons_zero, List.getElem?_cons_succ, List.set_cons_zero, List.set_cons_succ, Option.some.injEq, V.ref.injEq, V.str.injEq, V.int.injEq, V.bl.injEq, exists_eq, exists_eq', exists_eq_left, exists_eq_left', exists_and_left, exists_and_right, List.cons.injEq, and_true, true_and, and_assoc, gStar, rIn, tCallL, Bool.false_eq_true, if_false]
    refine ⟨.str "drop", r, .inl (.inl hp), by omega, fun L hL => ⟨_, rfl, some u, eu, iteF ⟨r, .inl (.inl (.inl upd_same)), _, _, _, rfl, rfl, kd, rfl, ?_⟩⟩⟩
    rw [lr, decide_eq_true rfl]
    refine iteF ⟨by rw [sizeLine_eq]; omega, fun p1 hp1 => ⟨_, .inr (.inl (.inl upd_same)), rfl, rfl, ?_⟩⟩
    have s1 : Same H (upd H L (.lst r)) := Same.up hL
    have hL1 : (upd H L (.lst r)) L = some (.lst r) := upd_same
    have s2 := s1.trans (Same.up (o := .tup [.str "lab", .str "drop", .str "unwish"]) hp1)
    have hL2 := (Same.up (o := .tup [.str "lab", .str "drop", .str "unwish"]) hp1) _ _ hL1
    rw [show inV (V.str "drop") [V.str "lab", V.str "drop", V.str "unwish"] = true from by decide]
    obtain ⟨x1, r1, rfl, g1, dy1⟩ := DAs.cons_inv dx
    have g1 := DA.str_iff.mp g1
    subst g1
    obtain rfl := DAs.nil_inv dy1
    generalize upd (upd H L (.lst [.str n])) p1 (.tup [V.str "lab", V.str "drop", V.str "unwish"]) = H2 at *
    exact iteT ⟨_, _, .ref f1, rfl, rfl, kd1, rfl, _, .inl (.inl hL2), _, rfl, ⟨M, v, st, n, rfl, nl, nw, dr.mono s2⟩⟩
  | machine n m f =>
    obtain ⟨f1, fd1, ps1, ds1, F1, hm1, hk1, hb1, hd1⟩ := ok_do_machine (P := P) (base := base) T
    have ef : f1 = He.ga K "do_machine" := by
      have e := hm1.symm.trans T.g_do_machine
      simpa using e
    have kd1 : KDct K w (He.ga K "THREES") "machine" (.ref f1) := by rw [ef]; exact kdct_of T.tabs.2.2.2.2 T.k_THREES (q := ("machine", .glo "do_machine")) (by simp)
    refine ⟨_, (pss_cons (ps_asg (pv 1) (pg_star (i := 2) (j := 3) nd rfl rfl))
      (pss_cons (ps_if (PW.pt (pw_or (pt_cmpR (op_notInK T.k_SIZES_bench) (pv 2) (pe_gref rfl T.g_SIZES_bench) (by rfl)) (pw_or1 (pt_cmpR op_ne (pe_callB call_len_seq (by rfl) T.f_len PySem.boot_len (pa_cons (pv 3) pa_nil)) (pe_ix ix_kdict (pe_gref rfl T.g_SIZES_bench) (pv 2) (fun _ _ => rfl)) (nomark _)))))
      (pss_one (ps_raise rfl (takes_of rfl rfl rfl rfl) (pmk_err (ok_BadDeed_init T) (hr.mono (by decide)) rfl)))
      pss_nil)
      (pss_cons (ps_if (pt_cmpR op_in_seq (pv 2) (pe_tup (pa_cons pe_str (pa_cons pe_str (pa_cons pe_str pa_nil)))) (by rfl))
      (pss_cons (ps_set (i := 4) nd rfl (Or.inl rfl) (pe_ix ix_kdict (pe_gref rfl T.g_ONES) (pv 2) (fun _ _ => rfl)))
      (pss_one ps_never))
      pss_nil)
      (pss_cons (ps_if (pt_cmpR op_in_seq (pv 2) (pe_tup (pa_cons pe_str (pa_cons pe_str (pa_cons pe_str pa_nil)))) (by rfl))
      (pss_cons (ps_set (i := 4) nd rfl (Or.inl rfl) (pe_ix ix_kdict (pe_gref rfl T.g_THREES) (pv 2) (fun _ _ => rfl)))
      (pss_one (ps_ret (pe_callL (i := 4) F1 (hr.mono (by decide)) rfl (Or.inl rfl) hk1 hb1 hd1 px (pa_cons (pv 0) (pa_cons (pe_ix ix_list (pv 3) pe_int (fun _ _ => rfl)) (pa_cons (pe_ix ix_list (pv 3) pe_int (fun _ _ => rfl)) (pa_cons (pe_ix ix_list (pv 3) pe_int (fun _ _ => rfl)) pa_nil))))))))
      pss_nil)
      (pss_cons (ps_if (pt_cmpR op_eq (pv 2) pe_str (nomark _))
      (pss_one (ps_ret (pe_cal (ok_do_strike T) (hr.mono (by decide)) rfl px (pa_cons (pv 0) (pa_cons (pe_ix ix_list (pv 3) pe_int (fun _ _ => rfl)) (pa_cons (pe_ix ix_list (pv 3) pe_int (fun _ _ => rfl)) pa_nil))))))
      pss_nil)
      (pss_cons (ps_if (pt_cmpR op_eq (pv 2) pe_str (nomark _))
      (pss_one (ps_ret (pe_cal (ok_do_wish T) (hr.mono (by decide)) rfl px (pa_cons (pv 0) (pa_cons (pe_ix ix_list (pv 3) pe_int (fun _ _ => rfl)) (pa_cons (pe_ix ix_list (pv 3) pe_int (fun _ _ => rfl)) (pa_cons (pe_ix ix_list (pv 3) pe_int (fun _ _ => rfl)) (pa_cons (pe_ix ix_list (pv 3) pe_int (fun _ _ => rfl)) pa_nil))))))))
      pss_nil)
      (pss_one (ps_ret (pe_cal (ok_do_move T) (hr.mono (by decide)) rfl px (pa_cons (pv 0) (pa_cons (pe_ix ix_list (pv 3) pe_int (fun _ _ => rfl)) (pa_cons (pe_ix ix_list (pv 3) pe_int (fun _ _ => rfl)) (pa_cons (pe_ix ix_list (pv 3) pe_int (fun _ _ => rfl)) (pa_cons (pe_ix ix_list (pv 3) pe_int (fun _ _ => rfl)) (pa_cons (pe_ix ix_list (pv 3) pe_int (fun _ _ => rfl)) pa_nil))))))))))))))), ?_⟩
    simp only [tSeq, tDrop, tVar, tC, tCall, tCons, tNil, tFld, sFld, sDPut, tDGet, tRet, tRetN, tIfS, tTest, tB, tNot, tAnd, tOr, tOp, tUn, rI0, rI, tNext, tDIn, tDNotIn, tDNewK, tIf, tAndV, tOrV, tNotV, tAsg, gName, gCons, gNil, gTup, tPar, tTup, tLst, tMeth, tCB, rEq, rNe, tBM, rAppend, tBM0, tChain, rIxL, rIxT, rIxS, rIx, L2.start, cxK, cxW, kV_inr, List.map_cons, List.map_nil, List.length_cons, List.length_nil, List.replicate, List.cons_append, List.nil_append, List.append_nil, List.getElem?_cons_zero, List.getElem?_cons_succ, List.set_cons_zero, List.set_cons_succ, Option.some.injEq, V.ref.injEq, V.str.injEq, V.int.injEq, V.bl.injEq, exists_eq, exists_eq', exists_eq_left, exists_eq_left', exists_and_left, exists_and_right, List.cons.injEq, and_true, true_and, and_assoc, gStar, rIn, tCallL, Bool.false_eq_true, if_false]
    refine ⟨.str "machine", r, .inl (.inl hp), by omega, fun L hL => ⟨_, rfl, some u, eu, iteF ⟨r, .inl (.inl (.inl upd_same)), _, _, _, rfl, rfl, kd, rfl, ?_⟩⟩⟩
    rw [lr, decide_eq_true rfl]
    refine iteF ⟨by rw [sizeLine_eq]; omega, fun p1 hp1 => ⟨_, .inr (.inl (.inl upd_same)), rfl, rfl, ?_⟩⟩
    have s1 : Same H (upd H L (.lst r)) := Same.up hL
    have hL1 : (upd H L (.lst r)) L = some (.lst r) := upd_same
    have s2 := s1.trans (Same.up (o := .tup [.str "lab", .str "drop", .str "unwish"]) hp1)
    have hL2 := (Same.up (o := .tup [.str "lab", .str "drop", .str "unwish"]) hp1) _ _ hL1
    rw [show inV (V.str "machine") [V.str "lab", V.str "drop", V.str "unwish"] = false from by decide]
    refine iteF ⟨by rw [sizeLine_eq]; omega, fun p2 hp2 => ⟨_, .inr (.inl (.inl upd_same)), rfl, rfl, ?_⟩⟩
    have s3 := s2.trans (Same.up (o := .tup [V.str "machine", V.str "row", V.str "load"]) hp2)
    have hL3 := (Same.up (o := .tup [V.str "machine", V.str "row", V.str "load"]) hp2) _ _ hL2
    rw [show inV (V.str "machine") [V.str "machine", V.str "row", V.str "load"] = true from by decide]
    obtain ⟨x1, r1, rfl, g1, dy1⟩ := DAs.cons_inv dx
    obtain ⟨x2, r2, rfl, g2, dy2⟩ := DAs.cons_inv dy1
    obtain ⟨x3, r3, rfl, g3, dy3⟩ := DAs.cons_inv dy2
    obtain rfl := DAs.nil_inv dy3
    have g1 := DA.str_iff.mp g1
    subst g1
    have g2 := DA.str_iff.mp g2
    subst g2
    have g3 := DA.str_iff.mp g3
    subst g3
    generalize upd (upd (upd H L _) p1 _) p2 _ = H3 at *
    exact iteT ⟨_, _, .ref f1, rfl, rfl, kd1, rfl, _, .inl (.inl hL3), _, rfl, _, .inl (.inl hL3), _, rfl, _, .inl (.inl hL3), _, rfl, ⟨M, v, st, n, m, f, rfl, sh.2.1, sh.2.2, dr.mono s3⟩⟩
  | row n m f =>
    obtain ⟨f1, fd1, ps1, ds1, F1, hm1, hk1, hb1, hd1⟩ := ok_do_row (P := P) (base := base) T
    have ef : f1 = He.ga K "do_row" := by
      have e := hm1.symm.trans T.g_do_row
      simpa using e
    have kd1 : KDct K w (He.ga K "THREES") "row" (.ref f1) := by rw [ef]; exact kdct_of T.tabs.2.2.2.2 T.k_THREES (q := ("row", .glo "do_row")) (by simp)
    refine ⟨_, (pss_cons (ps_asg (pv 1) (pg_star (i := 2) (j := 3) nd rfl rfl))
      (pss_cons (ps_if (PW.pt (pw_or (pt_cmpR (op_notInK T.k_SIZES_bench) (pv 2) (pe_gref rfl T.g_SIZES_bench) (by rfl)) (pw_or1 (pt_cmpR op_ne (pe_callB call_len_seq (by rfl) T.f_len PySem.boot_len (pa_cons (pv 3) pa_nil)) (pe_ix ix_kdict (pe_gref rfl T.g_SIZES_bench) (pv 2) (fun _ _ => rfl)) (nomark _)))))
      (pss_one (ps_raise rfl (takes_of rfl rfl rfl rfl) (pmk_err (ok_BadDeed_init T) (hr.mono (by decide)) rfl)))
      pss_nil)
      (pss_cons (ps_if (pt_cmpR op_in_seq (pv 2) (pe_tup (pa_cons pe_str (pa_cons pe_str (pa_cons pe_str pa_nil)))) (by rfl))
      (pss_cons (ps_set (i := 4) nd rfl (Or.inl rfl) (pe_ix ix_kdict (pe_gref rfl T.g_ONES) (pv 2) (fun _ _ => rfl)))
      (pss_one ps_never))
      pss_nil)
      (pss_cons (ps_if (pt_cmpR op_in_seq (pv 2) (pe_tup (pa_cons pe_str (pa_cons pe_str (pa_cons pe_str pa_nil)))) (by rfl))
      (pss_cons (ps_set (i := 4) nd rfl (Or.inl rfl) (pe_ix ix_kdict (pe_gref rfl T.g_THREES) (pv 2) (fun _ _ => rfl)))
      (pss_one (ps_ret (pe_callL (i := 4) F1 (hr.mono (by decide)) rfl (Or.inl rfl) hk1 hb1 hd1 px (pa_cons (pv 0) (pa_cons (pe_ix ix_list (pv 3) pe_int (fun _ _ => rfl)) (pa_cons (pe_ix ix_list (pv 3) pe_int (fun _ _ => rfl)) (pa_cons (pe_ix ix_list (pv 3) pe_int (fun _ _ => rfl)) pa_nil))))))))
      pss_nil)
      (pss_cons (ps_if (pt_cmpR op_eq (pv 2) pe_str (nomark _))
      (pss_one (ps_ret (pe_cal (ok_do_strike T) (hr.mono (by decide)) rfl px (pa_cons (pv 0) (pa_cons (pe_ix ix_list (pv 3) pe_int (fun _ _ => rfl)) (pa_cons (pe_ix ix_list (pv 3) pe_int (fun _ _ => rfl)) pa_nil))))))
      pss_nil)
      (pss_cons (ps_if (pt_cmpR op_eq (pv 2) pe_str (nomark _))
      (pss_one (ps_ret (pe_cal (ok_do_wish T) (hr.mono (by decide)) rfl px (pa_cons (pv 0) (pa_cons (pe_ix ix_list (pv 3) pe_int (fun _ _ => rfl)) (pa_cons (pe_ix ix_list (pv 3) pe_int (fun _ _ => rfl)) (pa_cons (pe_ix ix_list (pv 3) pe_int (fun _ _ => rfl)) (pa_cons (pe_ix ix_list (pv 3) pe_int (fun _ _ => rfl)) pa_nil))))))))
      pss_nil)
      (pss_one (ps_ret (pe_cal (ok_do_move T) (hr.mono (by decide)) rfl px (pa_cons (pv 0) (pa_cons (pe_ix ix_list (pv 3) pe_int (fun _ _ => rfl)) (pa_cons (pe_ix ix_list (pv 3) pe_int (fun _ _ => rfl)) (pa_cons (pe_ix ix_list (pv 3) pe_int (fun _ _ => rfl)) (pa_cons (pe_ix ix_list (pv 3) pe_int (fun _ _ => rfl)) (pa_cons (pe_ix ix_list (pv 3) pe_int (fun _ _ => rfl)) pa_nil))))))))))))))), ?_⟩
    simp only [tSeq, tDrop, tVar, tC, tCall, tCons, tNil, tFld, sFld, sDPut, tDGet, tRet, tRetN, tIfS, tTest, tB, tNot, tAnd, tOr, tOp, tUn, rI0, rI, tNext, tDIn, tDNotIn, tDNewK, tIf, tAndV, tOrV, tNotV, tAsg, gName, gCons, gNil, gTup, tPar, tTup, tLst, tMeth, tCB, rEq, rNe, tBM, rAppend, tBM0, tChain, rIxL, rIxT, rIxS, rIx, L2.start, cxK, cxW, kV_inr, List.map_cons, List.map_nil, List.length_cons, List.length_nil, List.replicate, List.cons_append, List.nil_append, List.append_nil, List.getElem?_cons_zero, List.getElem?_cons_succ, List.set_cons_zero, List.set_cons_succ, Option.some.injEq, V.ref.injEq, V.str.injEq, V.int.injEq, V.bl.injEq, exists_eq, exists_eq', exists_eq_left, exists_eq_left', exists_and_left, exists_and_right, List.cons.injEq, and_true, true_and, and_assoc, gStar, rIn, tCallL, Bool.false_eq_true, if_false]
    refine ⟨.str "row", r, .inl (.inl hp), by omega, fun L hL => ⟨_, rfl, some u, eu, iteF ⟨r, .inl (.inl (.inl upd_same)), _, _, _, rfl, rfl, kd, rfl, ?_⟩⟩⟩
    rw [lr, decide_eq_true rfl]
    refine iteF ⟨by rw [sizeLine_eq]; omega, fun p1 hp1 => ⟨_, .inr (.inl (.inl upd_same)), rfl, rfl, ?_⟩⟩
    have s1 : Same H (upd H L (.lst r)) := Same.up hL
    have hL1 : (upd H L (.lst r)) L = some (.lst r) := upd_same
    have s2 := s1.trans (Same.up (o := .tup [.str "lab", .str "drop", .str "unwish"]) hp1)
    have hL2 := (Same.up (o := .tup [.str "lab", .str "drop", .str "unwish"]) hp1) _ _ hL1
    rw [show inV (V.str "row") [V.str "lab", V.str "drop", V.str "unwish"] = false from by decide]
    refine iteF ⟨by rw [sizeLine_eq]; omega, fun p2 hp2 => ⟨_, .inr (.inl (.inl upd_same)), rfl, rfl, ?_⟩⟩
    have s3 := s2.trans (Same.up (o := .tup [V.str "machine", V.str "row", V.str "load"]) hp2)
    have hL3 := (Same.up (o := .tup [V.str "machine", V.str "row", V.str "load"]) hp2) _ _ hL2
    rw [show inV (V.str "row") [V.str "machine", V.str "row", V.str "load"] = true from by decide]
    obtain ⟨x1, r1, rfl, g1, dy1⟩ := DAs.cons_inv dx
    obtain ⟨x2, r2, rfl, g2, dy2⟩ := DAs.cons_inv dy1
    obtain ⟨x3, r3, rfl, g3, dy3⟩ := DAs.cons_inv dy2
    obtain rfl := DAs.nil_inv dy3
    have g1 := DA.str_iff.mp g1
    subst g1
    have g2 := DA.str_iff.mp g2
    subst g2
    have g3 := DA.str_iff.mp g3
    subst g3
    generalize upd (upd (upd H L _) p1 _) p2 _ = H3 at *
    exact iteT ⟨_, _, .ref f1, rfl, rfl, kd1, rfl, _, .inl (.inl hL3), _, rfl, _, .inl (.inl hL3), _, rfl, _, .inl (.inl hL3), _, rfl, ⟨M, v, st, n, m, f, rfl, sh.2.1, sh.2.2, dr.mono s3⟩⟩
  | move n v =>
    refine ⟨_, (pss_cons (ps_asg (pv 1) (pg_star (i := 2) (j := 3) nd rfl rfl))
      (pss_cons (ps_if (PW.pt (pw_or (pt_cmpR (op_notInK T.k_SIZES_bench) (pv 2) (pe_gref rfl T.g_SIZES_bench) (by rfl)) (pw_or1 (pt_cmpR op_ne (pe_callB call_len_seq (by rfl) T.f_len PySem.boot_len (pa_cons (pv 3) pa_nil)) (pe_ix ix_kdict (pe_gref rfl T.g_SIZES_bench) (pv 2) (fun _ _ => rfl)) (nomark _)))))
      (pss_one (ps_raise rfl (takes_of rfl rfl rfl rfl) (pmk_err (ok_BadDeed_init T) (hr.mono (by decide)) rfl)))
      pss_nil)
      (pss_cons (ps_if (pt_cmpR op_in_seq (pv 2) (pe_tup (pa_cons pe_str (pa_cons pe_str (pa_cons pe_str pa_nil)))) (by rfl))
      (pss_cons (ps_set (i := 4) nd rfl (Or.inl rfl) (pe_ix ix_kdict (pe_gref rfl T.g_ONES) (pv 2) (fun _ _ => rfl)))
      (pss_one ps_never))
      pss_nil)
      (pss_cons (ps_if (pt_cmpR op_in_seq (pv 2) (pe_tup (pa_cons pe_str (pa_cons pe_str (pa_cons pe_str pa_nil)))) (by rfl))
      (pss_cons (ps_set (i := 4) nd rfl (Or.inl rfl) (pe_ix ix_kdict (pe_gref rfl T.g_THREES) (pv 2) (fun _ _ => rfl)))
      (pss_one ps_never))
      pss_nil)
      (pss_cons (ps_if (pt_cmpR op_eq (pv 2) pe_str (nomark _))
      (pss_one (ps_ret (pe_cal (ok_do_strike T) (hr.mono (by decide)) rfl px (pa_cons (pv 0) (pa_cons (pe_ix ix_list (pv 3) pe_int (fun _ _ => rfl)) (pa_cons (pe_ix ix_list (pv 3) pe_int (fun _ _ => rfl)) pa_nil))))))
      pss_nil)
      (pss_cons (ps_if (pt_cmpR op_eq (pv 2) pe_str (nomark _))
      (pss_one (ps_ret (pe_cal (ok_do_wish T) (hr.mono (by decide)) rfl px (pa_cons (pv 0) (pa_cons (pe_ix ix_list (pv 3) pe_int (fun _ _ => rfl)) (pa_cons (pe_ix ix_list (pv 3) pe_int (fun _ _ => rfl)) (pa_cons (pe_ix ix_list (pv 3) pe_int (fun _ _ => rfl)) (pa_cons (pe_ix ix_list (pv 3) pe_int (fun _ _ => rfl)) pa_nil))))))))
      pss_nil)
      (pss_one (ps_ret (pe_cal (ok_do_move T) (hr.mono (by decide)) rfl px (pa_cons (pv 0) (pa_cons (pe_ix ix_list (pv 3) pe_int (fun _ _ => rfl)) (pa_cons (pe_ix ix_list (pv 3) pe_int (fun _ _ => rfl)) (pa_cons (pe_ix ix_list (pv 3) pe_int (fun _ _ => rfl)) (pa_cons (pe_ix ix_list (pv 3) pe_int (fun _ _ => rfl)) (pa_cons (pe_ix ix_list (pv 3) pe_int (fun _ _ => rfl)) pa_nil))))))))))))))), ?_⟩
    simp only [tSeq, tDrop, tVar, tC, tCall, tCons, tNil, tFld, sFld, sDPut, tDGet, tRet, tRetN, tIfS, tTest, tB, tNot, tAnd, tOr, tOp, tUn, rI0, rI, tNext, tDIn, tDNotIn, tDNewK, tIf, tAndV, tOrV, tNotV, tAsg, gName, gCons, gNil, gTup, tPar, tTup, tLst, tMeth, tCB, rEq, rNe, tBM, rAppend, tBM0, tChain, rIxL, rIxT, rIxS, rIx, L2.start, cxK, cxW, kV_inr, List.map_cons, List.map_nil, List.length_cons, List.length_nil, List.replicate, List.cons_append, List.nil_append, List.append_nil, List.getElem?_cons_zero, List.getElem?_cons_succ, List.set_cons_zero, List.set_cons_succ, Option.some.injEq, V.ref.injEq, V.str.injEq, V.int.injEq, V.bl.injEq, exists_eq, exists_eq', exists_eq_left, exists_eq_left', exists_and_left, exists_and_right, List.cons.injEq, and_true, true_and, and_assoc, gStar, rIn, tCallL, tNever, Bool.false_eq_true, if_false]
    refine ⟨.str "move", r, .inl (.inl hp), by omega, fun L hL => ⟨_, rfl, some u, eu, iteF ⟨r, .inl (.inl (.inl upd_same)), _, _, _, rfl, rfl, kd, rfl, ?_⟩⟩⟩
    rw [lr, decide_eq_true rfl]
    refine iteF ⟨by rw [sizeLine_eq]; omega, fun p1 hp1 => ⟨_, .inr (.inl (.inl upd_same)), rfl, rfl, ?_⟩⟩
    have s1 : Same H (upd H L (.lst r)) := Same.up hL
    have hL1 : (upd H L (.lst r)) L = some (.lst r) := upd_same
    have s2 := s1.trans (Same.up (o := .tup [.str "lab", .str "drop", .str "unwish"]) hp1)
    have hL2 := (Same.up (o := .tup [.str "lab", .str "drop", .str "unwish"]) hp1) _ _ hL1
    rw [show inV (V.str "move") [V.str "lab", V.str "drop", V.str "unwish"] = false from by decide]
    refine iteF ⟨by rw [sizeLine_eq]; omega, fun p2 hp2 => ⟨_, .inr (.inl (.inl upd_same)), rfl, rfl, ?_⟩⟩
    have s3 := s2.trans (Same.up (o := .tup [V.str "machine", V.str "row", V.str "load"]) hp2)
    have hL3 := (Same.up (o := .tup [V.str "machine", V.str "row", V.str "load"]) hp2) _ _ hL2
    rw [show inV (V.str "move") [V.str "machine", V.str "row", V.str "load"] = false from by decide]
    obtain ⟨x1, r1, rfl, g1, dy1⟩ := DAs.cons_inv dx
    obtain ⟨x2, r2, rfl, g2, dy2⟩ := DAs.cons_inv dy1
    obtain ⟨x3, r3, rfl, g3, dy3⟩ := DAs.cons_inv dy2
    obtain ⟨x4, r4, rfl, g4, dy4⟩ := DAs.cons_inv dy3
    obtain ⟨x5, r5, rfl, g5, dy5⟩ := DAs.cons_inv dy4
    obtain rfl := DAs.nil_inv dy5
    have g1 := DA.str_iff.mp g1
    subst g1
    have g2 := DA.str_iff.mp g2
    subst g2
    have g3 := DA.str_iff.mp g3
    subst g3
    have g5 := DA.str_iff.mp g5
    subst g5
    generalize upd (upd (upd H L _) p1 _) p2 _ = H3 at *
    refine iteF ⟨rfl, ?_⟩
    rw [show decide (V.str "move" = V.str "strike") = false from by decide]
    refine iteF ⟨rfl, ?_⟩
    rw [show decide (V.str "move" = V.str "wish") = false from by decide]
    exact iteF ⟨_, .inl (.inl hL3), _, rfl, _, .inl (.inl hL3), _, rfl, _, .inl (.inl hL3), _, rfl, _, .inl (.inl hL3), _, rfl, _, .inl (.inl hL3), _, rfl, M, _, st, n, v, x4, rfl, g4.keep (Keep.of s3), sh.2, dr.mono s3⟩
  | strike n i =>
    refine ⟨_, (pss_cons (ps_asg (pv 1) (pg_star (i := 2) (j := 3) nd rfl rfl))
      (pss_cons (ps_if (PW.pt (pw_or (pt_cmpR (op_notInK T.k_SIZES_bench) (pv 2) (pe_gref rfl T.g_SIZES_bench) (by rfl)) (pw_or1 (pt_cmpR op_ne (pe_callB call_len_seq (by rfl) T.f_len PySem.boot_len (pa_cons (pv 3) pa_nil)) (pe_ix ix_kdict (pe_gref rfl T.g_SIZES_bench) (pv 2) (fun _ _ => rfl)) (nomark _)))))
      (pss_one (ps_raise rfl (takes_of rfl rfl rfl rfl) (pmk_err (ok_BadDeed_init T) (hr.mono (by decide)) rfl)))
      pss_nil)
      (pss_cons (ps_if (pt_cmpR op_in_seq (pv 2) (pe_tup (pa_cons pe_str (pa_cons pe_str (pa_cons pe_str pa_nil)))) (by rfl))
      (pss_cons (ps_set (i := 4) nd rfl (Or.inl rfl) (pe_ix ix_kdict (pe_gref rfl T.g_ONES) (pv 2) (fun _ _ => rfl)))
      (pss_one ps_never))
      pss_nil)
      (pss_cons (ps_if (pt_cmpR op_in_seq (pv 2) (pe_tup (pa_cons pe_str (pa_cons pe_str (pa_cons pe_str pa_nil)))) (by rfl))
      (pss_cons (ps_set (i := 4) nd rfl (Or.inl rfl) (pe_ix ix_kdict (pe_gref rfl T.g_THREES) (pv 2) (fun _ _ => rfl)))
      (pss_one ps_never))
      pss_nil)
      (pss_cons (ps_if (pt_cmpR op_eq (pv 2) pe_str (nomark _))
      (pss_one (ps_ret (pe_cal (ok_do_strike T) (hr.mono (by decide)) rfl px (pa_cons (pv 0) (pa_cons (pe_ix ix_list (pv 3) pe_int (fun _ _ => rfl)) (pa_cons (pe_ix ix_list (pv 3) pe_int (fun _ _ => rfl)) pa_nil))))))
      pss_nil)
      (pss_cons (ps_if (pt_cmpR op_eq (pv 2) pe_str (nomark _))
      (pss_one (ps_ret (pe_cal (ok_do_wish T) (hr.mono (by decide)) rfl px (pa_cons (pv 0) (pa_cons (pe_ix ix_list (pv 3) pe_int (fun _ _ => rfl)) (pa_cons (pe_ix ix_list (pv 3) pe_int (fun _ _ => rfl)) (pa_cons (pe_ix ix_list (pv 3) pe_int (fun _ _ => rfl)) (pa_cons (pe_ix ix_list (pv 3) pe_int (fun _ _ => rfl)) pa_nil))))))))
      pss_nil)
      (pss_one (ps_ret (pe_cal (ok_do_move T) (hr.mono (by decide)) rfl px (pa_cons (pv 0) (pa_cons (pe_ix ix_list (pv 3) pe_int (fun _ _ => rfl)) (pa_cons (pe_ix ix_list (pv 3) pe_int (fun _ _ => rfl)) (pa_cons (pe_ix ix_list (pv 3) pe_int (fun _ _ => rfl)) (pa_cons (pe_ix ix_list (pv 3) pe_int (fun _ _ => rfl)) (pa_cons (pe_ix ix_list (pv 3) pe_int (fun _ _ => rfl)) pa_nil))))))))))))))), ?_⟩
    simp only [tSeq, tDrop, tVar, tC, tCall, tCons, tNil, tFld, sFld, sDPut, tDGet, tRet, tRetN, tIfS, tTest, tB, tNot, tAnd, tOr, tOp, tUn, rI0, rI, tNext, tDIn, tDNotIn, tDNewK, tIf, tAndV, tOrV, tNotV, tAsg, gName, gCons, gNil, gTup, tPar, tTup, tLst, tMeth, tCB, rEq, rNe, tBM, rAppend, tBM0, tChain, rIxL, rIxT, rIxS, rIx, L2.start, cxK, cxW, kV_inr, List.map_cons, List.map_nil, List.length_cons, List.length_nil, List.replicate, List.cons_append, List.nil_append, List.append_nil, List.getElem?_cons_zero, List.getElem?_cons_succ, List.set_cons_zero, List.set_cons_succ, Option.some.injEq, V.ref.injEq, V.str.injEq, V.int.injEq, V.bl.injEq, exists_eq, exists_eq', exists_eq_left, exists_eq_left', exists_and_left, exists_and_right, List.cons.injEq, and_true, true_and, and_assoc, gStar, rIn, tCallL, tNever, Bool.false_eq_true, if_false]
    refine ⟨.str "strike", r, .inl (.inl hp), by omega, fun L hL => ⟨_, rfl, some u, eu, iteF ⟨r, .inl (.inl (.inl upd_same)), _, _, _, rfl, rfl, kd, rfl, ?_⟩⟩⟩
    rw [lr, decide_eq_true rfl]
    refine iteF ⟨by rw [sizeLine_eq]; omega, fun p1 hp1 => ⟨_, .inr (.inl (.inl upd_same)), rfl, rfl, ?_⟩⟩
    have s1 : Same H (upd H L (.lst r)) := Same.up hL
    have hL1 : (upd H L (.lst r)) L = some (.lst r) := upd_same
    have s2 := s1.trans (Same.up (o := .tup [.str "lab", .str "drop", .str "unwish"]) hp1)
    have hL2 := (Same.up (o := .tup [.str "lab", .str "drop", .str "unwish"]) hp1) _ _ hL1
    rw [show inV (V.str "strike") [V.str "lab", V.str "drop", V.str "unwish"] = false from by decide]
    refine iteF ⟨by rw [sizeLine_eq]; omega, fun p2 hp2 => ⟨_, .inr (.inl (.inl upd_same)), rfl, rfl, ?_⟩⟩
    have s3 := s2.trans (Same.up (o := .tup [V.str "machine", V.str "row", V.str "load"]) hp2)
    have hL3 := (Same.up (o := .tup [V.str "machine", V.str "row", V.str "load"]) hp2) _ _ hL2
    rw [show inV (V.str "strike") [V.str "machine", V.str "row", V.str "load"] = false from by decide]
    obtain ⟨x1, r1, rfl, g1, dy1⟩ := DAs.cons_inv dx
    obtain ⟨x2, r2, rfl, g2, dy2⟩ := DAs.cons_inv dy1
    obtain rfl := DAs.nil_inv dy2
    have g1 := DA.str_iff.mp g1
    subst g1
    have g2 := DA.int_iff.mp g2
    subst g2
    generalize upd (upd (upd H L _) p1 _) p2 _ = H3 at *
    refine iteF ⟨rfl, ?_⟩
    rw [show decide (V.str "strike" = V.str "strike") = true from by decide]
    exact iteT ⟨_, .inl (.inl hL3), _, rfl, _, .inl (.inl hL3), _, rfl, M, v, st, n, i, rfl, dr.mono s3⟩
  | wish n w =>
    refine ⟨_, (pss_cons (ps_asg (pv 1) (pg_star (i := 2) (j := 3) nd rfl rfl))
      (pss_cons (ps_if (PW.pt (pw_or (pt_cmpR (op_notInK T.k_SIZES_bench) (pv 2) (pe_gref rfl T.g_SIZES_bench) (by rfl)) (pw_or1 (pt_cmpR op_ne (pe_callB call_len_seq (by rfl) T.f_len PySem.boot_len (pa_cons (pv 3) pa_nil)) (pe_ix ix_kdict (pe_gref rfl T.g_SIZES_bench) (pv 2) (fun _ _ => rfl)) (nomark _)))))
      (pss_one (ps_raise rfl (takes_of rfl rfl rfl rfl) (pmk_err (ok_BadDeed_init T) (hr.mono (by decide)) rfl)))
      pss_nil)
      (pss_cons (ps_if (pt_cmpR op_in_seq (pv 2) (pe_tup (pa_cons pe_str (pa_cons pe_str (pa_cons pe_str pa_nil)))) (by rfl))
      (pss_cons (ps_set (i := 4) nd rfl (Or.inl rfl) (pe_ix ix_kdict (pe_gref rfl T.g_ONES) (pv 2) (fun _ _ => rfl)))
      (pss_one ps_never))
      pss_nil)
      (pss_cons (ps_if (pt_cmpR op_in_seq (pv 2) (pe_tup (pa_cons pe_str (pa_cons pe_str (pa_cons pe_str pa_nil)))) (by rfl))
      (pss_cons (ps_set (i := 4) nd rfl (Or.inl rfl) (pe_ix ix_kdict (pe_gref rfl T.g_THREES) (pv 2) (fun _ _ => rfl)))
      (pss_one ps_never))
      pss_nil)
      (pss_cons (ps_if (pt_cmpR op_eq (pv 2) pe_str (nomark _))
      (pss_one (ps_ret (pe_cal (ok_do_strike T) (hr.mono (by decide)) rfl px (pa_cons (pv 0) (pa_cons (pe_ix ix_list (pv 3) pe_int (fun _ _ => rfl)) (pa_cons (pe_ix ix_list (pv 3) pe_int (fun _ _ => rfl)) pa_nil))))))
      pss_nil)
      (pss_cons (ps_if (pt_cmpR op_eq (pv 2) pe_str (nomark _))
      (pss_one (ps_ret (pe_cal (ok_do_wish T) (hr.mono (by decide)) rfl px (pa_cons (pv 0) (pa_cons (pe_ix ix_list (pv 3) pe_int (fun _ _ => rfl)) (pa_cons (pe_ix ix_list (pv 3) pe_int (fun _ _ => rfl)) (pa_cons (pe_ix ix_list (pv 3) pe_int (fun _ _ => rfl)) (pa_cons (pe_ix ix_list (pv 3) pe_int (fun _ _ => rfl)) pa_nil))))))))
      pss_nil)
      (pss_one (ps_ret (pe_cal (ok_do_move T) (hr.mono (by decide)) rfl px (pa_cons (pv 0) (pa_cons (pe_ix ix_list (pv 3) pe_int (fun _ _ => rfl)) (pa_cons (pe_ix ix_list (pv 3) pe_int (fun _ _ => rfl)) (pa_cons (pe_ix ix_list (pv 3) pe_int (fun _ _ => rfl)) (pa_cons (pe_ix ix_list (pv 3) pe_int (fun _ _ => rfl)) (pa_cons (pe_ix ix_list (pv 3) pe_int (fun _ _ => rfl)) pa_nil))))))))))))))), ?_⟩
    simp only [tSeq, tDrop, tVar, tC, tCall, tCons, tNil, tFld, sFld, sDPut, tDGet, tRet, tRetN, tIfS, tTest, tB, tNot, tAnd, tOr, tOp, tUn, rI0, rI, tNext, tDIn, tDNotIn, tDNewK, tIf, tAndV, tOrV, tNotV, tAsg, gName, gCons, gNil, gTup, tPar, tTup, tLst, tMeth, tCB, rEq, rNe, tBM, rAppend, tBM0, tChain, rIxL, rIxT, rIxS, rIx, L2.start, cxK, cxW, kV_inr, List.map_cons, List.map_nil, List.length_cons, List.length_nil, List.replicate, List.cons_append, List.nil_append, List.append_nil, List.getElem?_cons_zero, List.getElem?_cons_succ, List.set_cons_zero, List.set_cons_succ, Option.some.injEq, V.ref.injEq, V.str.injEq, V.int.injEq, V.bl.injEq, exists_eq, exists_eq', exists_eq_left, exists_eq_left', exists_and_left, exists_and_right, List.cons.injEq, and_true, true_and, and_assoc, gStar, rIn, tCallL, tNever, Bool.false_eq_true, if_false]
    refine ⟨.str "wish", r, .inl (.inl hp), by omega, fun L hL => ⟨_, rfl, some u, eu, iteF ⟨r, .inl (.inl (.inl upd_same)), _, _, _, rfl, rfl, kd, rfl, ?_⟩⟩⟩
    rw [lr, decide_eq_true rfl]
    refine iteF ⟨by rw [sizeLine_eq]; omega, fun p1 hp1 => ⟨_, .inr (.inl (.inl upd_same)), rfl, rfl, ?_⟩⟩
    have s1 : Same H (upd H L (.lst r)) := Same.up hL
    have hL1 : (upd H L (.lst r)) L = some (.lst r) := upd_same
    have s2 := s1.trans (Same.up (o := .tup [.str "lab", .str "drop", .str "unwish"]) hp1)
    have hL2 := (Same.up (o := .tup [.str "lab", .str "drop", .str "unwish"]) hp1) _ _ hL1
    rw [show inV (V.str "wish") [V.str "lab", V.str "drop", V.str "unwish"] = false from by decide]
    refine iteF ⟨by rw [sizeLine_eq]; omega, fun p2 hp2 => ⟨_, .inr (.inl (.inl upd_same)), rfl, rfl, ?_⟩⟩
    have s3 := s2.trans (Same.up (o := .tup [V.str "machine", V.str "row", V.str "load"]) hp2)
    have hL3 := (Same.up (o := .tup [V.str "machine", V.str "row", V.str "load"]) hp2) _ _ hL2
    rw [show inV (V.str "wish") [V.str "machine", V.str "row", V.str "load"] = false from by decide]
    obtain ⟨x1, r1, rfl, g1, dy1⟩ := DAs.cons_inv dx
    obtain ⟨x2, r2, rfl, g2, dy2⟩ := DAs.cons_inv dy1
    obtain ⟨x3, r3, rfl, g3, dy3⟩ := DAs.cons_inv dy2
    obtain ⟨x4, r4, rfl, g4, dy4⟩ := DAs.cons_inv dy3
    obtain rfl := DAs.nil_inv dy4
    have g1 := DA.str_iff.mp g1
    subst g1
    have g2 := DA.str_iff.mp g2
    subst g2
    generalize upd (upd (upd H L _) p1 _) p2 _ = H3 at *
    refine iteF ⟨rfl, ?_⟩
    rw [show decide (V.str "wish" = V.str "strike") = false from by decide]
    refine iteF ⟨rfl, ?_⟩
    rw [show decide (V.str "wish" = V.str "wish") = true from by decide]
    exact iteT ⟨_, .inl (.inl hL3), _, rfl, _, .inl (.inl hL3), _, rfl, _, .inl (.inl hL3), _, rfl, _, .inl (.inl hL3), _, rfl, M, v, x3, x4, st, n, w, rfl, sh.1, g3.keep (Keep.of s3), g4.keep (Keep.of s3), sh.2.2.1, sh.2.2.2, dr.mono s3⟩
  | unwish n =>
    obtain ⟨f1, fd1, ps1, ds1, F1, hm1, hk1, hb1, hd1⟩ := ok_do_unwish (P := P) (base := base) T
    have ef : f1 = He.ga K "do_unwish" := by
      have e := hm1.symm.trans T.g_do_unwish
      simpa using e
    have kd1 : KDct K w (He.ga K "ONES") "unwish" (.ref f1) := by rw [ef]; exact kdct_of T.tabs.2.2.2.1 T.k_ONES (q := ("unwish", .glo "do_unwish")) (by simp)
    refine ⟨_, (pss_cons (ps_asg (pv 1) (pg_star (i := 2) (j := 3) nd rfl rfl))
      (pss_cons (ps_if (PW.pt (pw_or (pt_cmpR (op_notInK T.k_SIZES_bench) (pv 2) (pe_gref rfl T.g_SIZES_bench) (by rfl)) (pw_or1 (pt_cmpR op_ne (pe_callB call_len_seq (by rfl) T.f_len PySem.boot_len (pa_cons (pv 3) pa_nil)) (pe_ix ix_kdict (pe_gref rfl T.g_SIZES_bench) (pv 2) (fun _ _ => rfl)) (nomark _)))))
      (pss_one (ps_raise rfl (takes_of rfl rfl rfl rfl) (pmk_err (ok_BadDeed_init T) (hr.mono (by decide)) rfl)))
      pss_nil)
      (pss_cons (ps_if (pt_cmpR op_in_seq (pv 2) (pe_tup (pa_cons pe_str (pa_cons pe_str (pa_cons pe_str pa_nil)))) (by rfl))
      (pss_cons (ps_set (i := 4) nd rfl (Or.inl rfl) (pe_ix ix_kdict (pe_gref rfl T.g_ONES) (pv 2) (fun _ _ => rfl)))
      (pss_one (ps_ret (pe_callL (i := 4) F1 (hr.mono (by decide)) rfl (Or.inl rfl) hk1 hb1 hd1 px (pa_cons (pv 0) (pa_cons (pe_ix ix_list (pv 3) pe_int (fun _ _ => rfl)) pa_nil))))))
      pss_nil)
      (pss_cons (ps_if (pt_cmpR op_in_seq (pv 2) (pe_tup (pa_cons pe_str (pa_cons pe_str (pa_cons pe_str pa_nil)))) (by rfl))
      (pss_cons (ps_set (i := 4) nd rfl (Or.inl rfl) (pe_ix ix_kdict (pe_gref rfl T.g_THREES) (pv 2) (fun _ _ => rfl)))
      (pss_one ps_never))
      pss_nil)
      (pss_cons (ps_if (pt_cmpR op_eq (pv 2) pe_str (nomark _))
      (pss_one (ps_ret (pe_cal (ok_do_strike T) (hr.mono (by decide)) rfl px (pa_cons (pv 0) (pa_cons (pe_ix ix_list (pv 3) pe_int (fun _ _ => rfl)) (pa_cons (pe_ix ix_list (pv 3) pe_int (fun _ _ => rfl)) pa_nil))))))
      pss_nil)
      (pss_cons (ps_if (pt_cmpR op_eq (pv 2) pe_str (nomark _))
      (pss_one (ps_ret (pe_cal (ok_do_wish T) (hr.mono (by decide)) rfl px (pa_cons (pv 0) (pa_cons (pe_ix ix_list (pv 3) pe_int (fun _ _ => rfl)) (pa_cons (pe_ix ix_list (pv 3) pe_int (fun _ _ => rfl)) (pa_cons (pe_ix ix_list (pv 3) pe_int (fun _ _ => rfl)) (pa_cons (pe_ix ix_list (pv 3) pe_int (fun _ _ => rfl)) pa_nil))))))))
      pss_nil)
      (pss_one (ps_ret (pe_cal (ok_do_move T) (hr.mono (by decide)) rfl px (pa_cons (pv 0) (pa_cons (pe_ix ix_list (pv 3) pe_int (fun _ _ => rfl)) (pa_cons (pe_ix ix_list (pv 3) pe_int (fun _ _ => rfl)) (pa_cons (pe_ix ix_list (pv 3) pe_int (fun _ _ => rfl)) (pa_cons (pe_ix ix_list (pv 3) pe_int (fun _ _ => rfl)) (pa_cons (pe_ix ix_list (pv 3) pe_int (fun _ _ => rfl)) pa_nil))))))))))))))), ?_⟩
    simp only [tSeq, tDrop, tVar, tC, tCall, tCons, tNil, tFld, sFld, sDPut, tDGet, tRet, tRetN, tIfS, tTest, tB, tNot, tAnd, tOr, tOp, tUn, rI0, rI, tNext, tDIn, tDNotIn, tDNewK, tIf, tAndV, tOrV, tNotV, tAsg, gName, gCons, gNil, gTup, tPar, tTup, tLst, tMeth, tCB, rEq, rNe, tBM, rAppend, tBM0, tChain, rIxL, rIxT, rIxS, rIx, L2.start, cxK, cxW, kV_inr, List.map_cons, List.map_nil, List.length_cons, List.length_nil, List.replicate, List.cons_append, List.nil_append, List.append_nil, List.getElem?_cons_zero, List.getElem?_cons_succ, List.set_cons_zero, List.set_cons_succ, Option.some.injEq, V.ref.injEq, V.str.injEq, V.int.injEq, V.bl.injEq, exists_eq, exists_eq', exists_eq_left, exists_eq_left', exists_and_left, exists_and_right, List.cons.injEq, and_true, true_and, and_assoc, gStar, rIn, tCallL, Bool.false_eq_true, if_false]
    refine ⟨.str "unwish", r, .inl (.inl hp), by omega, fun L hL => ⟨_, rfl, some u, eu, iteF ⟨r, .inl (.inl (.inl upd_same)), _, _, _, rfl, rfl, kd, rfl, ?_⟩⟩⟩
    rw [lr, decide_eq_true rfl]
    refine iteF ⟨by rw [sizeLine_eq]; omega, fun p1 hp1 => ⟨_, .inr (.inl (.inl upd_same)), rfl, rfl, ?_⟩⟩
    have s1 : Same H (upd H L (.lst r)) := Same.up hL
    have hL1 : (upd H L (.lst r)) L = some (.lst r) := upd_same
    have s2 := s1.trans (Same.up (o := .tup [.str "lab", .str "drop", .str "unwish"]) hp1)
    have hL2 := (Same.up (o := .tup [.str "lab", .str "drop", .str "unwish"]) hp1) _ _ hL1
    rw [show inV (V.str "unwish") [V.str "lab", V.str "drop", V.str "unwish"] = true from by decide]
    obtain ⟨x1, r1, rfl, g1, dy1⟩ := DAs.cons_inv dx
    have g1 := DA.str_iff.mp g1
    subst g1
    obtain rfl := DAs.nil_inv dy1
    generalize upd (upd H L (.lst [.str n])) p1 (.tup [V.str "lab", V.str "drop", V.str "unwish"]) = H2 at *
    exact iteT ⟨_, _, .ref f1, rfl, rfl, kd1, rfl, _, .inl (.inl hL2), _, rfl, ⟨M, v, st, n, rfl, nw, dr.mono s2⟩⟩

end
end K51


set_option Elab.async false
set_option linter.all false
set_option maxRecDepth 100000
set_option maxHeartbeats 4000000
namespace K51
open PySem PySem.Spec PyProof.Rows L2 PySem.W
/-! ### len(x), repr(x) of an instance by its own method -/
section
variable {X : Cx} {k : Nat} {C f : Addr} {fd : FuncData} {ps : List Str} {sp : Sp}
theorem own_run {pins : List (Addr × Obj)} {σ : L2.St} {H : Hp} {s : Shared} {Q : VK} {a : Addr} {E' : Value → Shared → Prop} (F : FnOk X.prog X.w X.K X.mg X.base (L2.CX X.prog X.w) k f fd ps sp) (hr : Room (k + 1) X.A) (hb : Binds X.K fd ps []) (I : L2.Inv X pins σ H s) (h : sp [.ref a] H Q E0) :
    wpAny (model X.prog X.w) X.A.in1 (call (.ref f) [.ref a]) (EP X pins σ Q) E' s := by
  have hl : ([Value.ref a] ++ []).length = ps.length := by rw [← F.len _ _ _ _ h]; rfl
  refine wpAny_call (codeAny_mono (F.run X.A.in1 X.stack s H ⟨[.ref a], []⟩ [Value.ref a] [V.ref a] Q E0 hr.in1 I.env0.in1 (hb s [Value.ref a] I.kIn hl) (show L2.Vals [V.ref a] [Value.ref a] from .cons rfl .nil) h) fun r s' hq => ?_)
  cases r with
  | error er =>
    obtain ⟨_, _, _, _, _, _, _, _, _, _, _, _, z⟩ := (show L2.CX X.prog X.w X.stack H s E0 er s' from hq)
    exact z.elim
  | ok fl =>
    cases fl with
    | ret u => exact I.after hq
    | next => exact False.elim hq
    | brk => exact False.elim hq
    | cont => exact False.elim hq
def rLenO (C : Addr) (sp : Sp) : List V → Hp → VK → Prop := fun xs H Q => ∃ a dx fs, xs = [.ref a] ∧ H a = some (.ins C dx fs) ∧ sp [.ref a] H (fun v H' => ∃ n : Int, v = .int n ∧ 0 ≤ n ∧ n < 2 ^ 63 ∧ Q (.int n) H') E0
theorem call_lenO (F : FnOk X.prog X.w X.K X.mg X.base (L2.CX X.prog X.w) k f fd ps sp) (m : Meth X.K C "__len__" f) (hr : Room (k + 1) X.A) (hb : Binds X.K fd ps []) : CallR X (.builtin "len") (rLenO C sp) := by
  intro pins s σ H xs us Q I r h
  obtain ⟨a, dx, fs, rfl, ea, h⟩ := h
  rw [Vals.ref1 r]
  obtain ⟨mA, O, _, _, _, _⟩ := ins_get I.hok ea
  obtain ⟨od, J, _⟩ := O.look
  refine Calls.call_function_entry PySem.kind_len PySem.plain_len PySem.entry_len (PySem.args_len1 _) ?_
  unfold Builtin.«len»
  refine wpAny_bind (m := oneArg "len" _) (wpAny_pure ?_)
  refine wpAny_bind (m := callSpecial? (.ref a) (Str.ofString "__len__")) (special_fn I.kIn J m.at_ (beq_iff_eq.mp m.fn) (wpAny_mono (own_run F hr hb I h) (fun r s' hr => ?_) fun _ _ y => y))
  obtain ⟨v, H', I', rv, n, rfl, h0, h1, q⟩ := hr
  obtain ⟨t, rfl⟩ := rv
  refine wpAny_bind (wpAny_holding (wpAny_pure ?_))
  refine wpAny_bind (wpAny_letGo ?_)
  show wpAny _ _ (if n < 0 then _ else _) _ _ _
  rw [if_neg (by omega)]
  show wpAny _ _ (if n ≥ 2 ^ 63 then _ else _) _ _ _
  rw [if_neg (by omega)]
  exact wpAny_bind (wpAny_mkInt (wpAny_pure ⟨_, rfl, .int n, H', I'.tok _, ⟨_, rfl⟩, q⟩))
def rReprO (C : Addr) (sp : Sp) : List V → Hp → VK → Prop := fun xs H Q => ∃ a dx fs, xs = [.ref a] ∧ H a = some (.ins C dx fs) ∧ sp [.ref a] H (fun v H' => ∃ z : Str, v = .str z ∧ Q (.str z) H') E0
theorem call_reprO (F : FnOk X.prog X.w X.K X.mg X.base (L2.CX X.prog X.w) k f fd ps sp) (m : Meth X.K C "__repr__" f) (hr : Room (k + 1) X.A) (hu : X.A.in1.units < cLine) (hb : Binds X.K fd ps []) : CallR X (.builtin "repr") (rReprO C sp) := by
  intro pins s σ H xs us Q I r h
  obtain ⟨a, dx, fs, rfl, ea, h⟩ := h
  rw [Vals.ref1 r]
  obtain ⟨mA, O, _, _, _, _⟩ := ins_get I.hok ea
  obtain ⟨od, J, _⟩ := O.look
  refine Calls.call_function_entry PySem.F.kind_repr PySem.F.plain_repr PySem.F.entry_repr (PySem.F.args_repr1 _) ?_
  unfold Builtin.«repr»
  refine wpAny_bind (m := oneArg "repr" _) (wpAny_pure ?_)
  refine wpAny_bind (wpAny_cRoomFor hu ?_)
  refine wpAny_bind (wpAny_bind (J.type.here ((looks_findIn I.kIn m.at_).here ?_)))
  show wpAny _ _ (if (some (Value.ref f)).isNone = true then _ else _) _ _ _
  rw [if_neg (by simp)]
  refine wpAny_bind (m := callSpecialIfBound? (.ref a) (Str.ofString "__repr__") _) (ifBound_K I.kIn J m.at_ m.fn (wpAny_mono (own_run F hr hb I h) (fun r s' hr => ?_) fun _ _ y => y))
  obtain ⟨v, H', I', rv, z, rfl, q⟩ := hr
  obtain ⟨t, rfl⟩ := rv
  refine wpAny_bind (wpAny_isInstance (typeIs_str _ _ _) isSubtype_str_str ?_)
  first
    | exact wpAny_pure ⟨_, rfl, .str z, H', I', ⟨_, rfl⟩, q⟩
    | (rw [if_pos rfl]; exact wpAny_pure ⟨_, rfl, .str z, H', I', ⟨_, rfl⟩, q⟩)
    | (simp only [if_true]; exact wpAny_pure ⟨_, rfl, .str z, H', I', ⟨_, rfl⟩, q⟩)
end
end K51

set_option Elab.async false
set_option linter.all false
set_option maxRecDepth 100000
set_option maxHeartbeats 4000000
namespace K51
open PySem PySem.Spec PyProof.Rows L2
def fsB (v : V) (pl ah pp : Addr) : List (Str × V) := [("now", v), ("past", .ref pl), ("ahead", .ref ah), ("papers", .ref pp), ("searches", .int 0)]
/-- the bench at b: its list of past at pl (of n members), its state -/
def PB (K : PySem.W.Frag) (M : List Addr) (H : Hp) (b pl : Addr) (n : Nat) (st : St) : Prop := ∃ (dx ah pp : Addr) (v : V) (xs : List V), H b = some (.ins (He.ga K "Bench") dx (fsB v pl ah pp)) ∧ H pl = some (.lst xs) ∧ xs.length = n ∧ PState K M H v st
def benchText (a b : Nat) : Str := Str.empty ++ "Bench(" ++ toString (a : Int) ++ " labs, " ++ toString (b : Int) ++ " wishes)"
def spBLabs (K : PySem.W.Frag) (f : St → List Str) : Sp := fun vs H Q _ => ∃ (M : List Addr) (b pl : Addr) (n : Nat) (st : St), vs = [.ref b] ∧ PB K M H b pl n st ∧ ∀ H' p, Same H H' → H p = none → H' p = some (.lst ((f st).map V.str)) → Q (.ref p) H'
def spBLen (K : PySem.W.Frag) : Sp := fun vs H Q _ => ∃ (M : List Addr) (b pl : Addr) (n : Nat) (st : St), vs = [.ref b] ∧ PB K M H b pl n st ∧ Q (.int st.labs.length) H
def spBRepr (K : PySem.W.Frag) : Sp := fun vs H Q _ => ∃ (M : List Addr) (b pl : Addr) (n : Nat) (st : St), vs = [.ref b] ∧ PB K M H b pl n st ∧ st.labs.length ≤ 100 ∧ st.wishes.length ≤ 100 ∧ Q (.str (benchText st.labs.length st.wishes.length)) H
def spBLabOf (K : PySem.W.Frag) : Sp := fun vs H Q E => ∃ (M : List Addr) (b pl : Addr) (n : Nat) (st : St) (z : Str), vs = [.ref b, .str z] ∧ PB K M H b pl n st ∧ (∀ L lv, getK z st.labs = some L → PLab K M H lv L → Q lv H) ∧ (getK z st.labs = none → Refuse K "nolab" H E)
def spBWishOf (K : PySem.W.Frag) : Sp := fun vs H Q E => ∃ (M : List Addr) (b pl : Addr) (n : Nat) (st : St) (z : Str), vs = [.ref b, .str z] ∧ PB K M H b pl n st ∧ (∀ w wv, getK z st.wishes = some w → DA M H wv (Wish.d w) → Q wv H) ∧ (getK z st.wishes = none → Refuse K "nowish" H E)
def spBDo (K : PySem.W.Frag) : Sp := fun vs H Q E => ∃ (M : List Addr) (b pl : Addr) (n : Nat) (dv : V) (st : St) (d : Deed), vs = [.ref b, dv] ∧ PB K M H b pl n st ∧ b ∈ M ∧ pl ∈ M ∧ n ≤ 1000 ∧ Trk M H ∧ DA M H dv d.d ∧ d.Short ∧ NodK st.labs ∧ NodK st.wishes ∧ Fine st ∧
  (dueP st d = none → ∀ H', Keep [b, pl] H H' → PB K M H' b pl (n + 1) (after st d) → Q .non H') ∧ (∀ wd, dueP st d = some wd → Refuse K wd H E)
def spBInit (K : PySem.W.Frag) : Sp := fun vs H Q _ => ∃ (M : List Addr) (b dx : Addr), vs = [.ref b] ∧ Trk M H ∧ H b = some (.ins (He.ga K "Bench") dx []) ∧ ∀ H' pl, Keep [b] H H' → H pl = none → (∃ o, H' pl = some o) → PB K M H' b pl 0 ⟨[], []⟩ → Q .non H'
theorem Deed.word_ne (d : Deed) : ¬ d.word = "many" := by
  cases d with
  | lab _ => exact show ¬ ("lab" : Str) = "many" by decide
  | drop _ => exact show ¬ ("drop" : Str) = "many" by decide
  | machine _ _ _ => exact show ¬ ("machine" : Str) = "many" by decide
  | row _ _ _ => exact show ¬ ("row" : Str) = "many" by decide
  | move _ _ => exact show ¬ ("move" : Str) = "many" by decide
  | strike _ _ => exact show ¬ ("strike" : Str) = "many" by decide
  | wish _ _ => exact show ¬ ("wish" : Str) = "many" by decide
  | unwish _ => exact show ¬ ("unwish" : Str) = "many" by decide
theorem strLen (a b : Str) : (a ++ b).length = a.length + b.length := Array.size_append
theorem small_txt : ∀ n : Fin 101, (Str.ofString (toString ((n.1 : Nat) : Int))).length ≤ 10 := by decide +kernel
theorem small_txt' {n : Nat} (h : n ≤ 100) : (Str.ofString (toString (n : Int))).length ≤ 10 := small_txt ⟨n, by omega⟩
theorem small_log {n : Nat} (h : n ≤ 100) : (n : Int).natAbs.log2 < 1920 := by
  have := Nat.log2_le_self n
  rw [Int.natAbs_natCast]
  omega
theorem bench_len {a b : Nat} (ha : a ≤ 100) (hb : b ≤ 100) : (benchText a b).length ≤ 100 := by
  unfold benchText
  simp only [strLen]
  have := small_txt' ha
  have := small_txt' hb
  have e1 : Str.empty.length = 0 := rfl
  have e2 : (Str.ofString "Bench(").length = 6 := by decide
  have e3 : (Str.ofString " labs, ").length = 7 := by decide
  have e4 : (Str.ofString " wishes)").length = 8 := by decide
  omega
section
variable {P : Program} {w : World} {K : PySem.W.Frag} {mg : Str → Option Value} {base : Heap}
abbrev N_state_behind : List Str := ["state", "deed", "one"]
theorem sc_state_behind : FnScope N_state_behind ["state", "deed"] (defScope s_state_behind) := ⟨rfl, rfl, rfl, by decide +kernel, rfl, by decide +kernel, by decide +kernel⟩
theorem b_state_behind : Bnd0 d_state_behind.name d_state_behind.qual d_state_behind.params d_state_behind.body d_state_behind.scope ["state", "deed"] := fun _ _ _ _ _ _ us hl => match us, hl with | [_, _], _ => rfl
theorem ok_state_behind (T : TX w K mg) : CalE P w K mg base 11 "state_behind" [] (spDone K) := by
  refine cal_of T.fd_state_behind T.g_state_behind sc_state_behind b_state_behind (fun vs H Q E h => ?_) (fun cdv A outer s H vs Q E hr h => ?_)
  · obtain ⟨M, v, dv, st, d, rfl, _⟩ := h
    rfl
  obtain ⟨M, v, dv, st, d, rfl, hd, rest⟩ := h
  have nd := sc_state_behind.nd
  obtain ⟨p, xs, rfl, np, hp, dx0⟩ := DA.tup_iff.mp hd
  obtain ⟨x0, r, rfl, h0, dx⟩ := DAs.cons_inv dx0
  have h0 := DA.str_iff.mp h0
  subst h0
  refine ⟨_, (pss_cons (ps_if (pt_cmpR op_ne (pe_ix ix_tup (pv 1) pe_int (fun _ _ => rfl)) pe_str (nomark _))
      (pss_one (ps_ret (pe_cal (ok_plain_done T) (hr.mono (by decide)) rfl px (pa_cons (pv 0) (pa_cons (pv 1) pa_nil)))))
      pss_nil)
      (pss_cons (ps_if (PW.pt (pw_or (pt_cmpR op_ne (pe_callB call_len_seq (by rfl) T.f_len PySem.boot_len (pa_cons (pv 1) pa_nil)) pe_int (nomark _)) (pw_or1 (pt_val (pe_callB (cr_any rfl) (by rfl) T.f_any (by decide +kernel) (pa_cons (pe_lc (own := [("one", 2)]) (by rfl) nd (pi_tup (pe_ix ix_tup (pv 1) pe_int (fun _ _ => rfl))) (blkOk_by (N := N_state_behind) (sc := defScope s_state_behind) (by decide +kernel)) (fun _ _ _ _ _ => (pg_name (i := 2) nd rfl (Or.inl rfl))) (fun _ _ _ _ _ => pts_nil) (fun _ _ _ _ _ => (pe_cmpR op_eq (pe_ix (ix_tupK (K := K) rfl) (pv 2) pe_int (fun _ _ => rfl)) pe_str (nomark _)))) pa_nil))))))
      (pss_one (ps_raise rfl (takes_of rfl rfl rfl rfl) (pmk_err (ok_BadDeed_init T) (hr.mono (by decide)) rfl)))
      pss_nil)
      (pss_cons (ps_for (passes_of rfl) rfl (pi_tup (pe_ix ix_tup (pv 1) pe_int (fun _ _ => rfl))) (pg_name (i := 2) nd rfl (Or.inl rfl))
      (pss_one (ps_set (i := 0) nd rfl (Or.inl rfl) (pe_cal (ok_plain_done T) (hr.mono (by decide)) rfl px (pa_cons (pv 0) (pa_cons (pv 2) pa_nil))))))
      (pss_one (ps_ret (pv 0)))))), ?_⟩
  simp only [tSeq, tDrop, tVar, tC, tCall, tCons, tNil, tFld, sFld, sDPut, tDGet, tRet, tRetN, tIfS, tTest, tB, tNot, tAnd, tOr, tOp, tUn, rI0, rI, tNext, tDIn, tDNotIn, tDNewK, tIf, tAndV, tOrV, tNotV, tAsg, gName, gCons, gNil, gTup, tPar, tTup, tLst, tMeth, tCB, rEq, rNe, tBM, rAppend, tBM0, tChain, rIxL, rIxT, rIxS, rIx, L2.start, cxK, cxW, kV_inr, List.map_cons, List.map_nil, List.length_cons, List.length_nil, List.replicate, List.cons_append, List.nil_append, List.append_nil, List.getElem?_cons_zero, List.getElem?_cons_succ, List.set_cons_zero, List.set_cons_succ, Option.some.injEq, V.ref.injEq, V.str.injEq, V.int.injEq, V.bl.injEq, exists_eq, exists_eq', exists_eq_left, exists_eq_left', exists_and_left, exists_and_right, List.cons.injEq, and_true, true_and, and_assoc]
  refine ⟨_, .inl (.inl hp), _, at_of (j := 0) rfl rfl, rfl, ?_⟩
  rw [decide_eq_false (fun e => d.word_ne (V.str.inj e))]
  exact iteT ⟨M, v, _, st, d, rfl, hd, rest⟩
abbrev N_Bench_labs : List Str := ["self"]
theorem sc_Bench_labs : FnScope N_Bench_labs ["self"] (defScope s_Bench_labs) := ⟨rfl, rfl, rfl, by decide +kernel, rfl, by decide +kernel, by decide +kernel⟩
theorem b_Bench_labs : Bnd0 d_Bench_labs.name d_Bench_labs.qual d_Bench_labs.params d_Bench_labs.body d_Bench_labs.scope ["self"] := fun _ _ _ _ _ _ us hl => match us, hl with | [_], _ => rfl
theorem ok_Bench_labs (T : TX w K mg) : MetE P w K mg base 1 (He.ga K "Bench") "labs" [] (spBLabs K fun st => st.labs.map (·.1)) := by
  refine met_of T.fd_Bench_labs T.m_Bench_labs sc_Bench_labs b_Bench_labs (fun vs H Q E h => ?_) (fun cdv A outer s H vs Q E hr h => ?_)
  · obtain ⟨M, b, pl, n, st, rfl, _⟩ := h
    rfl
  obtain ⟨M, b, pl, n, st, rfl, ⟨dx, ah, pp, v, xs, hb, hp, hn, ⟨p, d1, d2, k1, k2, rfl, h⟩⟩, k⟩ := h
  have nd := sc_Bench_labs.nd
  refine ⟨_, (pss_one (ps_ret (pe_callTy (call_listD rfl) (by rfl) T.f_list (by decide +kernel) (pa_cons (pe_ix ix_tup (pe_fld (pv 0) rfl) pe_int (fun _ _ => rfl)) pa_nil)))), ?_⟩
  simp only [tSeq, tDrop, tVar, tC, tCall, tCons, tNil, tFld, sFld, sDPut, tDGet, tRet, tRetN, tIfS, tTest, tB, tNot, tAnd, tOr, tOp, tUn, rI0, rI, tNext, tDIn, tDNotIn, tDNewK, tIf, tAndV, tOrV, tNotV, tAsg, gName, gCons, gNil, gTup, tPar, tTup, tLst, tMeth, tCB, rEq, rNe, tBM, rAppend, tBM0, tChain, rIxL, rIxT, rIxS, rIx, L2.start, cxK, cxW, kV_inr, List.map_cons, List.map_nil, List.length_cons, List.length_nil, List.replicate, List.cons_append, List.nil_append, List.append_nil, List.getElem?_cons_zero, List.getElem?_cons_succ, List.set_cons_zero, List.set_cons_succ, Option.some.injEq, V.ref.injEq, V.str.injEq, V.int.injEq, V.bl.injEq, exists_eq, exists_eq', exists_eq_left, exists_eq_left', exists_and_left, exists_and_right, List.cons.injEq, and_true, true_and, and_assoc]
  refine ⟨_, _, _, hb, T.c_Bench, T.n_Bench_now, _, rfl, p, rfl, _, .inl (.inl h.hp), .ref d1, at_of (j := 0) rfl rfl, d1, rfl, k1, .inl h.h1, fun q hq => ?_⟩
  refine k _ _ (Same.up hq) hq ?_
  rw [upd_same, h.r1.names, List.map_map]
  rfl
abbrev N_Bench_wishes : List Str := ["self"]
theorem sc_Bench_wishes : FnScope N_Bench_wishes ["self"] (defScope s_Bench_wishes) := ⟨rfl, rfl, rfl, by decide +kernel, rfl, by decide +kernel, by decide +kernel⟩
theorem b_Bench_wishes : Bnd0 d_Bench_wishes.name d_Bench_wishes.qual d_Bench_wishes.params d_Bench_wishes.body d_Bench_wishes.scope ["self"] := fun _ _ _ _ _ _ us hl => match us, hl with | [_], _ => rfl
theorem ok_Bench_wishes (T : TX w K mg) : MetE P w K mg base 1 (He.ga K "Bench") "wishes" [] (spBLabs K fun st => st.wishes.map (·.1)) := by
  refine met_of T.fd_Bench_wishes T.m_Bench_wishes sc_Bench_wishes b_Bench_wishes (fun vs H Q E h => ?_) (fun cdv A outer s H vs Q E hr h => ?_)
  · obtain ⟨M, b, pl, n, st, rfl, _⟩ := h
    rfl
  obtain ⟨M, b, pl, n, st, rfl, ⟨dx, ah, pp, v, xs, hb, hp, hn, ⟨p, d1, d2, k1, k2, rfl, h⟩⟩, k⟩ := h
  have nd := sc_Bench_wishes.nd
  refine ⟨_, (pss_one (ps_ret (pe_callTy (call_listD rfl) (by rfl) T.f_list (by decide +kernel) (pa_cons (pe_ix ix_tup (pe_fld (pv 0) rfl) pe_int (fun _ _ => rfl)) pa_nil)))), ?_⟩
  simp only [tSeq, tDrop, tVar, tC, tCall, tCons, tNil, tFld, sFld, sDPut, tDGet, tRet, tRetN, tIfS, tTest, tB, tNot, tAnd, tOr, tOp, tUn, rI0, rI, tNext, tDIn, tDNotIn, tDNewK, tIf, tAndV, tOrV, tNotV, tAsg, gName, gCons, gNil, gTup, tPar, tTup, tLst, tMeth, tCB, rEq, rNe, tBM, rAppend, tBM0, tChain, rIxL, rIxT, rIxS, rIx, L2.start, cxK, cxW, kV_inr, List.map_cons, List.map_nil, List.length_cons, List.length_nil, List.replicate, List.cons_append, List.nil_append, List.append_nil, List.getElem?_cons_zero, List.getElem?_cons_succ, List.set_cons_zero, List.set_cons_succ, Option.some.injEq, V.ref.injEq, V.str.injEq, V.int.injEq, V.bl.injEq, exists_eq, exists_eq', exists_eq_left, exists_eq_left', exists_and_left, exists_and_right, List.cons.injEq, and_true, true_and, and_assoc]
  refine ⟨_, _, _, hb, T.c_Bench, T.n_Bench_now, _, rfl, p, rfl, _, .inl (.inl h.hp), .ref d2, at_of (j := 1) rfl rfl, d2, rfl, k2, .inl h.h2, fun q hq => ?_⟩
  refine k _ _ (Same.up hq) hq ?_
  rw [upd_same, h.r2.names, List.map_map]
  rfl
abbrev N_Bench_len : List Str := ["self"]
theorem sc_Bench_len : FnScope N_Bench_len ["self"] (defScope s_Bench_len) := ⟨rfl, rfl, rfl, by decide +kernel, rfl, by decide +kernel, by decide +kernel⟩
theorem b_Bench_len : Bnd0 d_Bench_len.name d_Bench_len.qual d_Bench_len.params d_Bench_len.body d_Bench_len.scope ["self"] := fun _ _ _ _ _ _ us hl => match us, hl with | [_], _ => rfl
theorem ok_Bench_len (T : TX w K mg) : MetE P w K mg base 1 (He.ga K "Bench") "__len__" [] (spBLen K) := by
  refine met_of T.fd_Bench_len T.m_Bench_len sc_Bench_len b_Bench_len (fun vs H Q E h => ?_) (fun cdv A outer s H vs Q E hr h => ?_)
  · obtain ⟨M, b, pl, n, st, rfl, _⟩ := h
    rfl
  obtain ⟨M, b, pl, n, st, rfl, ⟨dx, ah, pp, v, xs, hb, hp, hn, ⟨p, d1, d2, k1, k2, rfl, h⟩⟩, k⟩ := h
  have nd := sc_Bench_len.nd
  refine ⟨_, (pss_one (ps_ret (pe_callB call_lenD (by rfl) T.f_len PySem.boot_len (pa_cons (pe_ix ix_tup (pe_fld (pv 0) rfl) pe_int (fun _ _ => rfl)) pa_nil)))), ?_⟩
  simp only [tSeq, tDrop, tVar, tC, tCall, tCons, tNil, tFld, sFld, sDPut, tDGet, tRet, tRetN, tIfS, tTest, tB, tNot, tAnd, tOr, tOp, tUn, rI0, rI, tNext, tDIn, tDNotIn, tDNewK, tIf, tAndV, tOrV, tNotV, tAsg, gName, gCons, gNil, gTup, tPar, tTup, tLst, tMeth, tCB, rEq, rNe, tBM, rAppend, tBM0, tChain, rIxL, rIxT, rIxS, rIx, L2.start, cxK, cxW, kV_inr, List.map_cons, List.map_nil, List.length_cons, List.length_nil, List.replicate, List.cons_append, List.nil_append, List.append_nil, List.getElem?_cons_zero, List.getElem?_cons_succ, List.set_cons_zero, List.set_cons_succ, Option.some.injEq, V.ref.injEq, V.str.injEq, V.int.injEq, V.bl.injEq, exists_eq, exists_eq', exists_eq_left, exists_eq_left', exists_and_left, exists_and_right, List.cons.injEq, and_true, true_and, and_assoc]
  refine ⟨_, _, _, hb, T.c_Bench, T.n_Bench_now, _, rfl, p, rfl, _, .inl (.inl h.hp), .ref d1, at_of (j := 0) rfl rfl, d1, rfl, k1, h.h1, ?_⟩
  rw [h.r1.length]
  exact k
abbrev N_Bench_repr : List Str := ["self"]
theorem sc_Bench_repr : FnScope N_Bench_repr ["self"] (defScope s_Bench_repr) := ⟨rfl, rfl, rfl, by decide +kernel, rfl, by decide +kernel, by decide +kernel⟩
theorem b_Bench_repr : Bnd0 d_Bench_repr.name d_Bench_repr.qual d_Bench_repr.params d_Bench_repr.body d_Bench_repr.scope ["self"] := fun _ _ _ _ _ _ us hl => match us, hl with | [_], _ => rfl
theorem ok_Bench_repr (T : TX w K mg) : MetE P w K mg base 1 (He.ga K "Bench") "__repr__" [] (spBRepr K) := by
  refine met_of T.fd_Bench_repr T.m_Bench_repr sc_Bench_repr b_Bench_repr (fun vs H Q E h => ?_) (fun cdv A outer s H vs Q E hr h => ?_)
  · obtain ⟨M, b, pl, n, st, rfl, _⟩ := h
    rfl
  obtain ⟨M, b, pl, n, st, rfl, ⟨dx, ah, pp, v, xs, hb, hp, hn, ⟨p, d1, d2, k1, k2, rfl, h⟩⟩, l1, l2, k⟩ := h
  have nd := sc_Bench_repr.nd
  refine ⟨_, (pss_one (ps_ret (pe_joined (.cons pe_str (.cons (pe_fmt (pe_callB call_lenD (by rfl) T.f_len PySem.boot_len (pa_cons (pe_ix ix_tup (pe_fld (pv 0) rfl) pe_int (fun _ _ => rfl)) pa_nil))) (.cons pe_str (.cons (pe_fmt (pe_callB call_lenD (by rfl) T.f_len PySem.boot_len (pa_cons (pe_ix ix_tup (pe_fld (pv 0) rfl) pe_int (fun _ _ => rfl)) pa_nil))) (.cons pe_str .nil)))))))), ?_⟩
  have bl := bench_len l1 l2
  unfold benchText at bl
  simp only [strLen] at bl
  simp only [tSeq, tDrop, tVar, tC, tCall, tCons, tNil, tFld, sFld, sDPut, tDGet, tRet, tRetN, tIfS, tTest, tB, tNot, tAnd, tOr, tOp, tUn, rI0, rI, tNext, tDIn, tDNotIn, tDNewK, tIf, tAndV, tOrV, tNotV, tAsg, gName, gCons, gNil, gTup, tPar, tTup, tLst, tMeth, tCB, rEq, rNe, tBM, rAppend, tBM0, tChain, rIxL, rIxT, rIxS, rIx, L2.start, cxK, cxW, kV_inr, List.map_cons, List.map_nil, List.length_cons, List.length_nil, List.replicate, List.cons_append, List.nil_append, List.append_nil, List.getElem?_cons_zero, List.getElem?_cons_succ, List.set_cons_zero, List.set_cons_succ, Option.some.injEq, V.ref.injEq, V.str.injEq, V.int.injEq, V.bl.injEq, exists_eq, exists_eq', exists_eq_left, exists_eq_left', exists_and_left, exists_and_right, List.cons.injEq, and_true, true_and, and_assoc, tJs, tFmt, strLen]
  refine ⟨by rw [sizeLine_eq]; omega, _, _, _, hb, T.c_Bench, T.n_Bench_now, _, rfl, p, rfl, _, .inl (.inl h.hp), .ref d1, at_of (j := 0) rfl rfl, d1, rfl, k1, h.h1, .inr ?_⟩
  rw [h.r1.length]
  refine ⟨small_log l1, by rw [sizeLine_eq]; omega, by rw [sizeLine_eq]; omega, _, _, _, hb, T.c_Bench, T.n_Bench_now, _, rfl, p, rfl, _, .inl (.inl h.hp), .ref d2, at_of (j := 1) rfl rfl, d2, rfl, k2, h.h2, .inr ?_⟩
  rw [h.r2.length]
  exact ⟨small_log l2, by rw [sizeLine_eq]; omega, by rw [sizeLine_eq]; omega, k⟩
abbrev N_Bench_lab_of : List Str := ["self", "name"]
theorem sc_Bench_lab_of : FnScope N_Bench_lab_of ["self", "name"] (defScope s_Bench_lab_of) := ⟨rfl, rfl, rfl, by decide +kernel, rfl, by decide +kernel, by decide +kernel⟩
theorem b_Bench_lab_of : Bnd0 d_Bench_lab_of.name d_Bench_lab_of.qual d_Bench_lab_of.params d_Bench_lab_of.body d_Bench_lab_of.scope ["self", "name"] := fun _ _ _ _ _ _ us hl => match us, hl with | [_, _], _ => rfl
theorem ok_Bench_lab_of (T : TX w K mg) : MetE P w K mg base 5 (He.ga K "Bench") "lab_of" [] (spBLabOf K) := by
  refine met_of T.fd_Bench_lab_of T.m_Bench_lab_of sc_Bench_lab_of b_Bench_lab_of (fun vs H Q E h => ?_) (fun cdv A outer s H vs Q E hr h => ?_)
  · obtain ⟨M, b, pl, n, st, z, rfl, _⟩ := h
    rfl
  obtain ⟨M, b, pl, n, st, z, rfl, ⟨dx, ah, pp, v, xs, hb, hp, hn, ps⟩, kY, kN⟩ := h
  have nd := sc_Bench_lab_of.nd
  refine ⟨_, (pss_one (ps_ret (pe_cal (ok_lab_at T) (hr.mono (by decide)) rfl px (pa_cons (pe_fld (pv 0) rfl) (pa_cons (pv 1) pa_nil))))), ?_⟩
  simp only [tSeq, tDrop, tVar, tC, tCall, tCons, tNil, tFld, sFld, sDPut, tDGet, tRet, tRetN, tIfS, tTest, tB, tNot, tAnd, tOr, tOp, tUn, rI0, rI, tNext, tDIn, tDNotIn, tDNewK, tIf, tAndV, tOrV, tNotV, tAsg, gName, gCons, gNil, gTup, tPar, tTup, tLst, tMeth, tCB, rEq, rNe, tBM, rAppend, tBM0, tChain, rIxL, rIxT, rIxS, rIx, L2.start, cxK, cxW, kV_inr, List.map_cons, List.map_nil, List.length_cons, List.length_nil, List.replicate, List.cons_append, List.nil_append, List.append_nil, List.getElem?_cons_zero, List.getElem?_cons_succ, List.set_cons_zero, List.set_cons_succ, Option.some.injEq, V.ref.injEq, V.str.injEq, V.int.injEq, V.bl.injEq, exists_eq, exists_eq', exists_eq_left, exists_eq_left', exists_and_left, exists_and_right, List.cons.injEq, and_true, true_and, and_assoc]
  exact ⟨_, _, _, hb, T.c_Bench, T.n_Bench_now, _, rfl, M, v, st, z, rfl, ps, kY, kN⟩
abbrev N_Bench_wish_of : List Str := ["self", "name"]
theorem sc_Bench_wish_of : FnScope N_Bench_wish_of ["self", "name"] (defScope s_Bench_wish_of) := ⟨rfl, rfl, rfl, by decide +kernel, rfl, by decide +kernel, by decide +kernel⟩
theorem b_Bench_wish_of : Bnd0 d_Bench_wish_of.name d_Bench_wish_of.qual d_Bench_wish_of.params d_Bench_wish_of.body d_Bench_wish_of.scope ["self", "name"] := fun _ _ _ _ _ _ us hl => match us, hl with | [_, _], _ => rfl
theorem ok_Bench_wish_of (T : TX w K mg) : MetE P w K mg base 4 (He.ga K "Bench") "wish_of" [] (spBWishOf K) := by
  refine met_of T.fd_Bench_wish_of T.m_Bench_wish_of sc_Bench_wish_of b_Bench_wish_of (fun vs H Q E h => ?_) (fun cdv A outer s H vs Q E hr h => ?_)
  · obtain ⟨M, b, pl, n, st, z, rfl, _⟩ := h
    rfl
  obtain ⟨M, b, pl, n, st, z, rfl, ⟨dx, ah, pp, v, xs, hb, hp, hn, ⟨p, d1, d2, k1, k2, rfl, h⟩⟩, kY, kN⟩ := h
  have nd := sc_Bench_wish_of.nd
  have hu := hu_of hr
  refine ⟨_, (pss_cons (ps_if (pt_cmp (pc_dnotin hu (pv 1) (pe_ix ix_tup (pe_fld (pv 0) rfl) pe_int (fun _ _ => rfl))))
      (pss_one (ps_raise rfl (takes_of rfl rfl rfl rfl) (pmk_err (ok_NoWish_init T) (hr.mono (by decide)) rfl)))
      pss_nil)
      (pss_one (ps_ret (pe_dget hu (pe_ix ix_tup (pe_fld (pv 0) rfl) pe_int (fun _ _ => rfl)) (pv 1) (fun _ _ => rfl))))), ?_⟩
  simp only [tSeq, tDrop, tVar, tC, tCall, tCons, tNil, tFld, sFld, sDPut, tDGet, tRet, tRetN, tIfS, tTest, tB, tNot, tAnd, tOr, tOp, tUn, rI0, rI, tNext, tDIn, tDNotIn, tDNewK, tIf, tAndV, tOrV, tNotV, tAsg, gName, gCons, gNil, gTup, tPar, tTup, tLst, tMeth, tCB, rEq, rNe, tBM, rAppend, tBM0, tChain, rIxL, rIxT, rIxS, rIx, L2.start, cxK, cxW, kV_inr, List.map_cons, List.map_nil, List.length_cons, List.length_nil, List.replicate, List.cons_append, List.nil_append, List.append_nil, List.getElem?_cons_zero, List.getElem?_cons_succ, List.set_cons_zero, List.set_cons_succ, Option.some.injEq, V.ref.injEq, V.str.injEq, V.int.injEq, V.bl.injEq, exists_eq, exists_eq', exists_eq_left, exists_eq_left', exists_and_left, exists_and_right, List.cons.injEq, and_true, true_and, and_assoc]
  refine ⟨_, _, _, hb, T.c_Bench, T.n_Bench_now, _, rfl, p, rfl, _, .inl (.inl h.hp), .ref d2, at_of (j := 1) rfl rfl, d2, rfl, _, DGet.k (k := .inr z) h.h2, ?_⟩
  cases hc : getK z st.wishes with
  | none =>
    rw [(h.r2.val z).2 hc]
    exact iteT ((kN hc).go T.ie_NoWish)
  | some a =>
    obtain ⟨wv, e, r⟩ := (h.r2.val z).1 a hc
    rw [e]
    exact iteF ⟨_, _, _, hb, T.c_Bench, T.n_Bench_now, _, rfl, p, rfl, _, .inl (.inl h.hp), .ref d2, at_of (j := 1) rfl rfl, d2, rfl, wv, by rw [← e]; exact DGet.k (k := .inr z) h.h2, kY a wv hc r⟩
abbrev N_Bench_do : List Str := ["self", "deed", "later", "kept"]
theorem sc_Bench_do : FnScope N_Bench_do ["self", "deed"] (defScope s_Bench_do) := ⟨rfl, rfl, rfl, by decide +kernel, rfl, by decide +kernel, by decide +kernel⟩
theorem b_Bench_do : Bnd0 d_Bench_do.name d_Bench_do.qual d_Bench_do.params d_Bench_do.body d_Bench_do.scope ["self", "deed"] := fun _ _ _ _ _ _ us hl => match us, hl with | [_, _], _ => rfl
theorem ok_Bench_do (T : TX w K mg) : MetE P w K mg base 12 (He.ga K "Bench") "do" [] (spBDo K) := by
  refine met_of T.fd_Bench_do T.m_Bench_do sc_Bench_do b_Bench_do (fun vs H Q E h => ?_) (fun cdv A outer s H vs Q E hr h => ?_)
  · obtain ⟨M, b, pl, n, dv, st, d, rfl, _⟩ := h
    rfl
  obtain ⟨M, b, pl, n, dv, st, d, rfl, ⟨dx, ah, pp, v, xs, hb, hp, hn, ps⟩, mb, mp, n1, tM, hd, sh, nl, nw, fi, kY, kN⟩ := h
  have nd := sc_Bench_do.nd
  refine ⟨_, (pss_cons (ps_set (i := 2) nd rfl (Or.inl rfl) (pe_cal (ok_state_behind T) (hr.mono (by decide)) rfl px (pa_cons (pe_fld (pv 0) rfl) (pa_cons (pv 1) pa_nil))))
      (pss_cons (ps_set (i := 3) nd rfl (Or.inl rfl) (pe_ifExp (pt_cmpR op_eq (pe_ix ix_tup (pv 1) pe_int (fun _ _ => rfl)) pe_str (nomark _)) (pe_tup (pa_cons pe_str (pa_cons (pe_callTy call_tuple_of (by rfl) T.f_tuple (by decide +kernel) (pa_cons (pe_ix ix_tup (pv 1) pe_int (fun _ _ => rfl)) pa_nil)) pa_nil))) (pe_callTy call_tuple_of (by rfl) T.f_tuple (by decide +kernel) (pa_cons (pv 1) pa_nil))))
      (pss_cons (ps_expr (pe_bm PySem.F.plainAttrs_list PySem.F.slot_list_append PySem.F.type_list_append mt_append (pe_fld (pv 0) rfl) (pa_cons (pe_tup (pa_cons (pv 3) (pa_cons (pe_fld (pv 0) rfl) pa_nil))) pa_nil)))
      (pss_cons (ps_fld (pv 0) (pe_lst pa_nil) rfl)
      (pss_one (ps_fld (pv 0) (pv 2) rfl)))))), ?_⟩
  simp only [tSeq, tDrop, tVar, tC, tCall, tCons, tNil, tFld, sFld, sDPut, tDGet, tRet, tRetN, tIfS, tTest, tB, tNot, tAnd, tOr, tOp, tUn, rI0, rI, tNext, tDIn, tDNotIn, tDNewK, tIf, tAndV, tOrV, tNotV, tAsg, gName, gCons, gNil, gTup, tPar, tTup, tLst, tMeth, tCB, rEq, rNe, tBM, rAppend, tBM0, tChain, rIxL, rIxT, rIxS, rIx, L2.start, cxK, cxW, kV_inr, List.map_cons, List.map_nil, List.length_cons, List.length_nil, List.replicate, List.cons_append, List.nil_append, List.append_nil, List.getElem?_cons_zero, List.getElem?_cons_succ, List.set_cons_zero, List.set_cons_succ, Option.some.injEq, V.ref.injEq, V.str.injEq, V.int.injEq, V.bl.injEq, exists_eq, exists_eq', exists_eq_left, exists_eq_left', exists_and_left, exists_and_right, List.cons.injEq, and_true, true_and, and_assoc]
  refine ⟨_, _, _, hb, T.c_Bench, T.n_Bench_now, _, rfl, M, v, dv, st, d, rfl, hd, sh, nl, nw, ps, tM, fi, Res.mk (fun e H1 v1 s1 ps1 => ?_) kN⟩
  obtain ⟨p, ds, rfl, np, hpd, dd0⟩ := DA.tup_iff.mp hd
  obtain ⟨x0, r, rfl, h0, dd⟩ := DAs.cons_inv dd0
  have h0 := DA.str_iff.mp h0
  subst h0
  have hb1 := s1 _ _ hb
  have hp1 := s1 _ _ hp
  refine ⟨p, rfl, _, .inl (.inl (s1 _ _ hpd)), _, at_of (j := 0) rfl rfl, rfl, ?_⟩
  rw [decide_eq_false (fun e => d.word_ne (V.str.inj e))]
  refine iteF ⟨p, rfl, _, .inr ⟨.inl (.inl (s1 _ _ hpd)), ?_⟩⟩
  refine ⟨_, _, _, hb1, T.c_Bench, T.n_Bench_past, _, rfl, .inl ⟨rfl, xs, .inl (.inl hp1)⟩, _, _, _, hb1, T.c_Bench, T.n_Bench_now, _, rfl, by rw [sizeLine_eq]; omega, fun t ht => ?_⟩
  have bp : b ≠ pl := fun z => by rw [z, hp1] at hb1; cases hb1
  have bt : b ≠ t := ne_of_none hb1 ht
  have pt : pl ≠ t := ne_of_none hp1 ht
  refine ⟨pl, rfl, xs, (upd_ne pt).trans hp1, by rw [sizeLine_eq]; omega, by omega, fun q hq => ?_⟩
  obtain ⟨hq1, qp⟩ := up_none hq
  obtain ⟨hq0, qt⟩ := up_none hq1
  have bq : b ≠ q := ne_of_none hb1 hq0
  refine ⟨_, _, _, (upd_ne bq).trans ((upd_ne bp).trans ((upd_ne bt).trans hb1)), T.c_Bench, T.n_Bench_ahead, (show (5 : Nat) < 1000 by omega), _, _, _, upd_same, T.c_Bench, T.n_Bench_now, (show (5 : Nat) < 1000 by omega), ?_⟩
  generalize eF : upd (upd (upd (upd (upd H1 t _) pl _) q _) b _) b _ = HF
  have kF : Keep [b, pl] H1 HF := fun c o nc ec => by
    have nb : c ≠ b := fun z => nc (by rw [z]; simp)
    have np' : c ≠ pl := fun z => nc (by rw [z]; simp)
    rw [← eF, upd_ne nb, upd_ne nb, upd_ne (ne_of_none ec hq0), upd_ne np', upd_ne (ne_of_none ec ht)]
    exact ec
  refine kY e HF ((Keep.of s1).trans kF) ⟨dx, q, pp, v1, xs ++ [.ref t], ?_, ?_, by rw [List.length_append, hn]; rfl, ps1.keep (kF.sub fun a ha => ?_)⟩
  · rw [← eF, upd_same]
    rfl
  · rw [← eF, upd_ne bp.symm, upd_ne bp.symm, upd_ne qp.symm, upd_same]
  · rcases List.mem_cons.mp ha with z | z
    · rw [z]; exact mb
    · rw [List.mem_singleton.mp z]; exact mp
abbrev N_Bench_init : List Str := ["self"]
theorem sc_Bench_init : FnScope N_Bench_init ["self"] (defScope s_Bench_init) := ⟨rfl, rfl, rfl, by decide +kernel, rfl, by decide +kernel, by decide +kernel⟩
theorem b_Bench_init : Bnd0 d_Bench_init.name d_Bench_init.qual d_Bench_init.params d_Bench_init.body d_Bench_init.scope ["self"] := fun _ _ _ _ _ _ us hl => match us, hl with | [_], _ => rfl
theorem ok_Bench_init0 (T : TX w K mg) : MakE P w K mg base 1 "Bench" (He.ga K "Bench") [] (spBInit K) := by
  obtain ⟨fd, F⟩ := T.fd_Bench_init
  refine ⟨_, fd, _, [], F.ok sc_Bench_init (fun vs H Q E h => ?_) (fun cdv A outer s H vs Q E hr h => ?_), T.mk_Bench, T.g_Bench, F.bindsN b_Bench_init, .nil⟩
  · obtain ⟨M, b, dx, rfl, _⟩ := h
    rfl
  obtain ⟨M, b, dx, rfl, tM, hb, k⟩ := h
  have nd := sc_Bench_init.nd
  refine ⟨_, (pss_cons (ps_fld (pv 0) (pe_tup (pa_cons pe_dnewK (pa_cons pe_dnewK pa_nil))) rfl)
      (pss_cons (ps_fld (pv 0) (pe_lst pa_nil) rfl)
      (pss_cons (ps_fld (pv 0) (pe_lst pa_nil) rfl)
      (pss_cons (ps_fld (pv 0) pe_dnewK rfl)
      (pss_one (ps_fld (pv 0) pe_int rfl)))))), ?_⟩
  simp only [tSeq, tDrop, tVar, tC, tCall, tCons, tNil, tFld, sFld, sDPut, tDGet, tRet, tRetN, tIfS, tTest, tB, tNot, tAnd, tOr, tOp, tUn, rI0, rI, tNext, tDIn, tDNotIn, tDNewK, tIf, tAndV, tOrV, tNotV, tAsg, gName, gCons, gNil, gTup, tPar, tTup, tLst, tMeth, tCB, rEq, rNe, tBM, rAppend, tBM0, tChain, rIxL, rIxT, rIxS, rIx, L2.start, cxK, cxW, kV_inr, List.map_cons, List.map_nil, List.length_cons, List.length_nil, List.replicate, List.cons_append, List.nil_append, List.append_nil, List.getElem?_cons_zero, List.getElem?_cons_succ, List.set_cons_zero, List.set_cons_succ, Option.some.injEq, V.ref.injEq, V.str.injEq, V.int.injEq, V.bl.injEq, exists_eq, exists_eq', exists_eq_left, exists_eq_left', exists_and_left, exists_and_right, List.cons.injEq, and_true, true_and, and_assoc]
  intro d1 hd1 d2 hd2
  obtain ⟨n2, d21⟩ := up_none hd2
  refine ⟨by rw [sizeLine_eq]; omega, fun t ht => ?_⟩
  obtain ⟨nt1, t2⟩ := up_none ht
  obtain ⟨nt, t1⟩ := up_none nt1
  have b1 : b ≠ d1 := ne_of_none hb hd1
  have b2 : b ≠ d2 := ne_of_none hb n2
  have bt : b ≠ t := ne_of_none hb nt
  refine ⟨_, _, _, (upd_ne bt).trans ((upd_ne b2).trans ((upd_ne b1).trans hb)), T.c_Bench, T.n_Bench_now, (show (0 : Nat) < 1000 by omega), by omega, fun pl hp => ?_⟩
  obtain ⟨np3, pb⟩ := up_none hp
  obtain ⟨np2, pt⟩ := up_none np3
  obtain ⟨np1, p2⟩ := up_none np2
  obtain ⟨np, p1⟩ := up_none np1
  refine ⟨_, _, _, (upd_ne pb.symm).trans upd_same, T.c_Bench, T.n_Bench_past, (show (1 : Nat) < 1000 by omega), by omega, fun ah hah => ?_⟩
  obtain ⟨na5, ab⟩ := up_none hah
  obtain ⟨na4, ap⟩ := up_none na5
  obtain ⟨na3, _⟩ := up_none na4
  obtain ⟨na2, at'⟩ := up_none na3
  obtain ⟨na1, a2⟩ := up_none na2
  obtain ⟨na, a1⟩ := up_none na1
  refine ⟨_, _, _, (upd_ne ab.symm).trans upd_same, T.c_Bench, T.n_Bench_ahead, (show (2 : Nat) < 1000 by omega), fun pp hpp => ?_⟩
  obtain ⟨nq7, qb⟩ := up_none hpp
  obtain ⟨nq6, qa⟩ := up_none nq7
  obtain ⟨nq5, _⟩ := up_none nq6
  obtain ⟨nq4, qp⟩ := up_none nq5
  obtain ⟨nq3, _⟩ := up_none nq4
  obtain ⟨nq2, qt⟩ := up_none nq3
  obtain ⟨nq1, q2⟩ := up_none nq2
  obtain ⟨nq, q1⟩ := up_none nq1
  refine ⟨_, _, _, (upd_ne qb.symm).trans upd_same, T.c_Bench, T.n_Bench_papers, (show (3 : Nat) < 1000 by omega), _, _, _, upd_same, T.c_Bench, T.n_Bench_searches, (show (4 : Nat) < 1000 by omega), ?_⟩
  generalize eF : upd (upd (upd _ pp _) b _) b _ = HF
  have fb : HF b = some (.ins (He.ga K "Bench") dx (fsB (.ref t) pl ah pp)) := by rw [← eF, upd_same]; rfl
  have fp : HF pl = some (.lst []) := by rw [← eF, upd_ne pb, upd_ne pb, upd_ne qp.symm, upd_ne pb, upd_ne ap.symm, upd_ne pb, upd_same]
  have ft : HF t = some (.tup [.ref d1, .ref d2]) := by rw [← eF, upd_ne bt.symm, upd_ne bt.symm, upd_ne qt.symm, upd_ne bt.symm, upd_ne at'.symm, upd_ne bt.symm, upd_ne pt.symm, upd_ne bt.symm, upd_same]
  have f2 : HF d2 = some (.dK []) := by rw [← eF, upd_ne b2.symm, upd_ne b2.symm, upd_ne q2.symm, upd_ne b2.symm, upd_ne a2.symm, upd_ne b2.symm, upd_ne p2.symm, upd_ne b2.symm, upd_ne t2.symm, upd_same]
  have f1 : HF d1 = some (.dK []) := by rw [← eF, upd_ne b1.symm, upd_ne b1.symm, upd_ne q1.symm, upd_ne b1.symm, upd_ne a1.symm, upd_ne b1.symm, upd_ne p1.symm, upd_ne b1.symm, upd_ne t1.symm, upd_ne d21.symm, upd_same]
  have kF : Keep [b] H HF := fun c o nc ec => by
    have nb : c ≠ b := by simpa using nc
    rw [← eF, upd_ne nb, upd_ne nb, upd_ne (ne_of_none ec nq), upd_ne nb, upd_ne (ne_of_none ec na), upd_ne nb, upd_ne (ne_of_none ec np), upd_ne nb, upd_ne (ne_of_none ec nt), upd_ne (ne_of_none ec n2), upd_ne (ne_of_none ec hd1)]
    exact ec
  exact k HF pl kF np ⟨_, fp⟩ ⟨dx, ah, pp, .ref t, [], fb, fp, rfl, t, d1, d2, [], [], rfl, tM.new nt, tM.new hd1, tM.new n2, ft, f1, f2, .nil, .nil⟩
end
end K51


set_option Elab.async false
set_option linter.all false
set_option maxRecDepth 100000
set_option maxHeartbeats 4000000
namespace K51
open PySem PySem.Spec PyProof.Rows L2
/-! ### the bag of draws: only that it is one is kept -/
structure Bag (M : List Addr) (b L : Addr) (H : Hp) : Prop where
  mb : b ∈ M
  nL : L ∉ M
  tr : Trk M H
  ex : ∃ (cs : List Int) (pos pend seed cnt : Int), H b = some (.lst [.ref L, .int pos, .int pend, .int seed, .int cnt]) ∧ H L = some (.lst (cs.map V.int)) ∧ 0 ≤ pos ∧ cs.length ≤ 63
/-- draws were made -/
structure Dr (M : List Addr) (b L : Addr) (H H' : Hp) : Prop where
  k : Keep [b] H H'
  g : Bag M b L H'
theorem Bag.same {M : List Addr} {b L : Addr} {H H' : Hp} (g : Bag M b L H) (s : Same H H') : Bag M b L H' := by
  obtain ⟨cs, pos, pend, seed, cnt, h1, h2, h3⟩ := g.ex
  exact ⟨g.mb, g.nL, g.tr.same s, cs, pos, pend, seed, cnt, s _ _ h1, s _ _ h2, h3⟩
theorem Dr.refl {M : List Addr} {b L : Addr} {H : Hp} (g : Bag M b L H) : Dr M b L H H := ⟨Keep.refl _, g⟩
theorem Dr.trans {M : List Addr} {b L : Addr} {H H1 H2 : Hp} (a : Dr M b L H H1) (c : Dr M b L H1 H2) : Dr M b L H H2 := ⟨a.k.trans c.k, c.g⟩
theorem Dr.same {M : List Addr} {b L : Addr} {H H1 H2 : Hp} (a : Dr M b L H H1) (s : Same H1 H2) : Dr M b L H H2 := ⟨a.k.trans (Keep.of s), a.g.same s⟩
theorem Dr.keep {M : List Addr} {b L : Addr} {H H1 : Hp} (a : Dr M b L H H1) : Keep M H H1 := a.k.sub fun c h => by rw [List.mem_singleton.mp h]; exact a.g.mb
theorem Dr.trk {M : List Addr} {b L : Addr} {H H1 : Hp} (a : Dr M b L H H1) : Trk M H1 := a.g.tr
theorem Keep.self {H : Hp} {b : Addr} {o : HO} : Keep [b] H (upd H b o) := Keep.at (by simp)
theorem Keep.trk {M N : List Addr} {H H1 : Hp} (k : Keep N H H1) (t : Trk M H) (h : ∀ a ∈ N, ∃ o, H1 a = some o) : Trk M H1 := fun a ha => by
  by_cases e : a ∈ N
  · exact h a e
  · obtain ⟨o, eo⟩ := t a ha
    exact ⟨o, k a o e eo⟩
def spPull : Sp := fun vs H Q _ => ∃ (M : List Addr) (b L : Addr) (n : Int), vs = [.ref b, .int n] ∧ Bag M b L H ∧ 0 < n ∧ n < 1000000 ∧ ∀ k H', 0 ≤ k → k < n → Dr M b L H H' → Q (.int k) H'
section
variable {P : Program} {w : World} {K : PySem.W.Frag} {mg : Str → Option Value} {base : Heap}
abbrev N_L_pull : List Str := ["_law_bag_here", "_law_many", "_law_rest", "_law_cell", "_law_one", "_law_two"]
theorem sc_L_pull : FnScope N_L_pull ["_law_bag_here", "_law_many"] (defScope s_L_pull) := ⟨rfl, rfl, rfl, by decide +kernel, rfl, by decide +kernel, by decide +kernel⟩
theorem b_L_pull : Bnd0 d_L_pull.name d_L_pull.qual d_L_pull.params d_L_pull.body d_L_pull.scope ["_law_bag_here", "_law_many"] := fun _ _ _ _ _ _ us hl => match us, hl with | [_, _], _ => rfl
theorem ok_L_pull (T : TX w K mg) : CalE P w K mg base 1 "_law_pull" [] spPull := by
  refine cal_of T.fd_L_pull T.g_L_pull sc_L_pull b_L_pull (fun vs H Q E h => ?_) (fun cdv A outer s H vs Q E hr h => ?_)
  · obtain ⟨M, b, L, n, rfl, _⟩ := h
    rfl
  obtain ⟨M, b, L, n, rfl, g, n0, n1, k⟩ := h
  obtain ⟨cs, pos, pend, seed, cnt, hb, hL, hp, hc⟩ := id g.ex
  have nd := sc_L_pull.nd
  refine ⟨_, (pss_cons (ps_augS (pv 0) pe_int get_list pe_int ip_add set_list)
      (pss_cons (ps_if (pt_cmpR op_gt (pe_ix ix_list (pv 0) pe_int (fun _ _ => rfl)) pe_int (nomark _))
      (pss_cons (ps_set (i := 2) nd rfl (Or.inl rfl) (pe_ix ix_list (pv 0) pe_int (fun _ _ => rfl)))
      (pss_cons (ps_asg (pe_op op_fdivN (pv 2) (pv 1)) (pg_sub (pv 0) pe_int set_list))
      (pss_one (ps_ret (pe_op op_mod (pv 2) (pv 1))))))
      pss_nil)
      (pss_cons (ps_set (i := 3) nd rfl (Or.inl rfl) (pe_ix ix_list (pv 0) pe_int (fun _ _ => rfl)))
      (pss_cons (ps_if (pt_cmpR op_lt (pe_ix ix_list (pv 0) pe_int (fun _ _ => rfl)) (pe_callB call_len_seq (by rfl) T.f_len PySem.boot_len (pa_cons (pe_ix ix_list (pv 0) pe_int (fun _ _ => rfl)) pa_nil)) (nomark _))
      (pss_cons (ps_set (i := 3) nd rfl (Or.inl rfl) (pe_ix ix_list (pe_ix ix_list (pv 0) pe_int (fun _ _ => rfl)) (pe_ix ix_list (pv 0) pe_int (fun _ _ => rfl)) (fun _ _ => rfl)))
      (pss_one (ps_augS (pv 0) pe_int get_list pe_int ip_add set_list)))
      pss_nil)
      (pss_cons (ps_if (pt_cmpR op_ge (pv 3) (pe_op op_pow pe_int pe_int) (nomark _))
      (pss_cons (ps_asg (pe_op op_fdivN (pv 3) (pv 1)) (pg_sub (pv 0) pe_int set_list))
      (pss_one (ps_ret (pe_op op_mod (pv 3) (pv 1)))))
      pss_nil)
      (pss_cons (ps_set (i := 4) nd rfl (Or.inl rfl) (pe_op op_mod (pe_op op_add (pe_op op_add (pe_op op_add (pe_op op_mul (pv 3) pe_int) (pe_op op_mul (pe_ix ix_list (pv 0) pe_int (fun _ _ => rfl)) pe_int)) (pe_op op_mul (pe_ix ix_list (pv 0) pe_int (fun _ _ => rfl)) pe_int)) pe_int) pe_int))
      (pss_cons (ps_set (i := 5) nd rfl (Or.inl rfl) (pe_op op_mod (pe_op op_add (pe_op op_add (pe_op op_mul (pv 4) (pe_op op_add (pe_op op_mod (pv 4) pe_int) pe_int)) (pe_op op_mul (pe_ix ix_list (pv 0) pe_int (fun _ _ => rfl)) pe_int)) (pe_op op_mod (pe_ix ix_list (pv 0) pe_int (fun _ _ => rfl)) pe_int)) pe_int))
      (pss_cons (ps_asg (pe_op op_mod (pe_op op_add (pe_op op_mul (pe_ix ix_list (pv 0) pe_int (fun _ _ => rfl)) pe_int) (pv 5)) pe_int) (pg_sub (pv 0) pe_int set_list))
      (pss_one (ps_ret (pe_op op_mod (pe_op op_fdivN (pv 5) pe_int) (pv 1)))))))))))), ?_⟩
  simp only [tSeq, tDrop, tVar, tC, tCall, tCons, tNil, tFld, sFld, sDPut, tDGet, tRet, tRetN, tIfS, tTest, tB, tNot, tAnd, tOr, tOp, tUn, rI0, rI, tNext, tDIn, tDNotIn, tDNewK, tIf, tAndV, tOrV, tNotV, tAsg, gName, gCons, gNil, gTup, tPar, tTup, tLst, tMeth, tCB, rEq, rNe, tBM, rAppend, tBM0, tChain, rIxL, rIxT, rIxS, rIx, L2.start, cxK, cxW, kV_inr, List.map_cons, List.map_nil, List.length_cons, List.length_nil, List.replicate, List.cons_append, List.nil_append, List.append_nil, List.getElem?_cons_zero, List.getElem?_cons_succ, List.set_cons_zero, List.set_cons_succ, Option.some.injEq, V.ref.injEq, V.str.injEq, V.int.injEq, V.bl.injEq, exists_eq, exists_eq', exists_eq_left, exists_eq_left', exists_and_left, exists_and_right, List.cons.injEq, and_true, true_and, and_assoc, tAugS, rGetL, rSetL, ipI, gSub]
  have bL : b ≠ L := fun z => g.nL (by rw [← z]; exact g.mb)
  have fin : ∀ (H' : Hp) (p1 p2 p3 p4 : Int), Keep [b] H H' → H' b = some (.lst [.ref L, .int p1, .int p2, .int p3, .int p4]) → 0 ≤ p1 → Dr M b L H H' := fun H' p1 p2 p3 p4 kk e z =>
    ⟨kk, g.mb, g.nL, kk.trk g.tr (fun a ha => by rw [List.mem_singleton.mp ha]; exact ⟨_, e⟩), cs, p1, p2, p3, p4, e, kk L _ (by simp; exact bL.symm) hL, z, hc⟩
  refine ⟨_, .inl (.inl hb), by omega, _, rfl, cnt, rfl, _, hb, 4, rfl, _, .inl (.inl upd_same), _, at_of (j := 2) rfl rfl, pend, rfl, ?_⟩
  by_cases c : 0 < pend
  · rw [if_pos (decide_eq_true c)]
    exact ⟨_, .inl (.inl upd_same), _, at_of (j := 2) rfl rfl, pend, rfl, ⟨by omega, by omega⟩, _, upd_same, 2, rfl, pend, rfl, n0, k _ _ (Int.emod_nonneg _ (by omega)) (Int.emod_lt_of_pos _ n0) (fin _ pos _ seed (cnt + 1) (Keep.self.trans Keep.self) upd_same hp)⟩
  rw [if_neg (fun z => c (of_decide_eq_true z))]
  have kA : Keep [b] H (upd H b (.lst [.ref L, .int pos, .int pend, .int seed, .int (cnt + 1)])) := Keep.at (by simp)
  have hA : (upd H b (.lst [.ref L, .int pos, .int pend, .int seed, .int (cnt + 1)])) b = some (.lst [.ref L, .int pos, .int pend, .int seed, .int (cnt + 1)]) := upd_same
  have hLA := kA L _ (by simp; exact bL.symm) hL
  generalize eA : upd H b (.lst [.ref L, .int pos, .int pend, .int seed, .int (cnt + 1)]) = HA at kA hA hLA
  have eA' : upd H b (.lst ([V.ref L, .int pos, .int pend, .int seed, .int cnt].set 4 (.int (cnt + 1)))) = HA := eA
  rw [eA']
  clear eA eA'
  refine ⟨_, .inl (.inl hA), _, at_of (j := 3) rfl rfl, _, .inl (.inl hA), _, at_of (j := 1) rfl rfl, _, .inl (.inl hA), _, at_of (j := 0) rfl rfl, L, rfl, _, .inl (.inl (.inl hLA)), pos, rfl, ?_⟩
  have cm : ∀ {i j : Int}, (-(2 ^ 64) < j ∧ j < 2 ^ 64) → CMul i j := fun h => .inr h
  have cd : ∀ i : Int, CDivN i n := fun i => ⟨by omega, by omega⟩
  have cd7 : ∀ {i : Int}, CDivN i 7 := fun {i} => ⟨by decide, by decide⟩
  have cp : CPow 10 18 := ⟨by decide, by decide, by decide⟩
  have lc : (cs.map V.int).length = cs.length := List.length_map _
  by_cases c2 : pos < (cs.length : Int)
  · rw [lc, if_pos (decide_eq_true c2)]
    have hcell : (cs.map V.int)[pos.toNat]? = some (.int cs[pos.toNat]) := by rw [List.getElem?_map, List.getElem?_eq_getElem (by omega)]; rfl
    refine ⟨_, .inl (.inl hA), _, at_of (j := 0) rfl rfl, _, .inl (.inl hA), _, at_of (j := 1) rfl rfl, L, rfl, _, pos, rfl, .inl (.inl hLA), _, at_of (j := pos.toNat) (by omega) hcell, _, .inl (.inl hA), by omega, _, rfl, pos, rfl, _, hA, 1, rfl, cp, cs[pos.toNat], rfl, ?_⟩
    have kB := kA.trans (Keep.self (b := b) (H := HA) (o := .lst [.ref L, .int (pos + 1), .int pend, .int seed, .int (cnt + 1)]))
    have hB : (upd HA b (.lst [.ref L, .int (pos + 1), .int pend, .int seed, .int (cnt + 1)])) b = some (.lst [.ref L, .int (pos + 1), .int pend, .int seed, .int (cnt + 1)]) := upd_same
    generalize eB : upd HA b (.lst [.ref L, .int (pos + 1), .int pend, .int seed, .int (cnt + 1)]) = HB at kB hB
    have eB' : upd HA b (.lst ([V.ref L, .int pos, .int pend, .int seed, .int (cnt + 1)].set 1 (.int (pos + 1)))) = HB := eB
    show if decide ((10 : Int) ^ 18 ≤ cs[pos.toNat]) = true then _ else _
    simp only [List.set_cons_succ, List.set_cons_zero, eB]
    by_cases c3 : (10 : Int) ^ 18 ≤ cs[pos.toNat]
    · rw [if_pos (decide_eq_true c3)]
      exact ⟨cs[pos.toNat], rfl, cd _, _, hB, 2, rfl, cs[pos.toNat], rfl, n0, k _ _ (Int.emod_nonneg _ (by omega)) (Int.emod_lt_of_pos _ n0) (fin _ (pos + 1) _ seed (cnt + 1) (kB.trans Keep.self) upd_same (by omega))⟩
    · rw [if_neg (fun z => c3 (of_decide_eq_true z))]
      refine ⟨cs[pos.toNat], rfl, cm (by decide), _, .inl (.inl hB), _, at_of (j := 3) rfl rfl, seed, rfl, cm (by decide), _, .inl (.inl hB), _, at_of (j := 4) rfl rfl, cnt + 1, rfl, cm (by decide), by omega, by omega, .inr ⟨by omega, by omega⟩, _, .inl (.inl hB), _, at_of (j := 4) rfl rfl, cnt + 1, rfl, cm (by decide), _, .inl (.inl hB), _, at_of (j := 3) rfl rfl, seed, rfl, by omega, by omega, ?_⟩
      refine ⟨_, .inl (.inl hB), _, at_of (j := 3) rfl rfl, seed, rfl, cm (by decide), by omega, _, hB, 3, rfl, cd7, n0, ?_⟩
      exact k _ _ (Int.emod_nonneg _ (by omega)) (Int.emod_lt_of_pos _ n0) (fin _ (pos + 1) _ _ (cnt + 1) (kB.trans Keep.self) upd_same (by omega))
  rw [lc, if_neg (fun z => c2 (of_decide_eq_true z))]
  refine ⟨cp, seed, rfl, ?_⟩
  show if decide ((10 : Int) ^ 18 ≤ seed) = true then _ else _
  by_cases c3 : (10 : Int) ^ 18 ≤ seed
  · rw [if_pos (decide_eq_true c3)]
    exact ⟨seed, rfl, cd _, _, hA, 2, rfl, seed, rfl, n0, k _ _ (Int.emod_nonneg _ (by omega)) (Int.emod_lt_of_pos _ n0) (fin _ pos _ seed (cnt + 1) (kA.trans Keep.self) upd_same hp)⟩
  · rw [if_neg (fun z => c3 (of_decide_eq_true z))]
    refine ⟨seed, rfl, cm (by decide), _, .inl (.inl hA), _, at_of (j := 3) rfl rfl, seed, rfl, cm (by decide), _, .inl (.inl hA), _, at_of (j := 4) rfl rfl, cnt + 1, rfl, cm (by decide), by omega, by omega, .inr ⟨by omega, by omega⟩, _, .inl (.inl hA), _, at_of (j := 4) rfl rfl, cnt + 1, rfl, cm (by decide), _, .inl (.inl hA), _, at_of (j := 3) rfl rfl, seed, rfl, by omega, by omega, ?_⟩
    refine ⟨_, .inl (.inl hA), _, at_of (j := 3) rfl rfl, seed, rfl, cm (by decide), by omega, _, hA, 3, rfl, cd7, n0, ?_⟩
    exact k _ _ (Int.emod_nonneg _ (by omega)) (Int.emod_lt_of_pos _ n0) (fin _ pos _ _ (cnt + 1) (kA.trans Keep.self) upd_same hp)
end
end K51


set_option Elab.async false
set_option linter.all false
set_option maxRecDepth 100000
set_option maxHeartbeats 4000000
namespace K51
open PySem PySem.Spec PyProof.Rows L2
/-! ### comprehensions that draw -/
section
variable {J : It} {n : Nat} {G : Hp → Prop} {Y : Nat → Hp → V → Hp → Prop}
/-- as lc_acc; the addresses of N may change -/
theorem lc_accN (w : Walk J n G Y) {g : TG} {tt : TT} {te : TE} {vs : List Nat} {σ : L2.St} {H1 : Hp} {D : Addr} {Qd : Hp → Prop} (N : List Addr) (A : Nat → List V → Hp → Prop) (hn : n < 100000) (nD : D ∉ N)
    (h0 : A 0 [] (upd H1 D (.lst []))) (hG : ∀ i acc H, i ≤ n → A i acc H → G H) (hlen : ∀ i acc H, A i acc H → acc.length ≤ i)
    (keep : ∀ i acc H H', A i acc H → Keep [D] H H' → (∃ o, H' D = some o) → A i acc H')
    (hs : ∀ i x acc H H' (K : Option V → Hp → Prop), i < n → A i acc H → (∃ o, H D = some o) → Y i H x H' →
      (∀ y H'', Keep N H H'' → A (i + 1) (acc ++ [y]) H'' → K (some y) H'') → (∀ H'', Keep N H H'' → A (i + 1) acc H'' → K none H'') →
      g x (wipe σ vs) H' fun σ2 H2 => wipe σ2 vs = wipe σ vs ∧ tt σ2 H2 fun b H3 => if b = true then te σ2 H3 fun y H4 => K (some y) H4 else K none H3)
    (hd : ∀ acc H, A n acc H → H D = some (.lst acc) → Qd H) :
    ∃ W : Nat → Nat → Hp → Prop, (∃ m, W 0 m (upd H1 D (.lst []))) ∧ ∀ i m H, W i m H →
      (J.stop i H ∧ Qd H) ∨ (J.go i H ∧ ∃ Nx : Hp → Prop, (∀ H', Nx H' → ∃ m', m' < m ∧ W (i + 1) m' H') ∧ ∀ x H', J.yld i H x H' → g x (wipe σ vs) H' fun σ2 H2 => wipe σ2 vs = wipe σ vs ∧ tt σ2 H2 fun b H3 =>
        if b = true then te σ2 H3 fun y H4 => ∃ acc, H4 D = some (.lst acc) ∧ acc.length < sizeLine ∧ Nx (upd H4 D (.lst (acc ++ [y]))) else Nx H3) := by
  refine lc_it w (fun i H => ∃ acc, H D = some (.lst acc) ∧ A i acc H) ⟨[], upd_same, h0⟩ (fun i H hi ⟨acc, _, a⟩ => hG i acc H hi a) (fun i x H H' hi ⟨acc, hl, a⟩ y => ?_) (fun H ⟨acc, hl, a⟩ => hd acc H a hl)
  refine hs i x acc H H' (fun o H'' => match o with
    | some y => ∃ acc, H'' D = some (.lst acc) ∧ acc.length < sizeLine ∧ ∃ acc', (upd H'' D (.lst (acc ++ [y]))) D = some (.lst acc') ∧ A (i + 1) acc' (upd H'' D (.lst (acc ++ [y])))
    | none => ∃ acc, H'' D = some (.lst acc) ∧ A (i + 1) acc H'') hi a ⟨_, hl⟩ y (fun z H'' k a' => ?_) (fun H'' k a' => ?_)
  · have hz := hlen i acc H a
    refine ⟨acc, k D _ nD hl, by rw [sizeLine_eq]; omega, acc ++ [z], upd_same, keep _ _ _ _ a' (Keep.at (by simp)) ⟨_, upd_same⟩⟩
  · exact ⟨acc, k D _ nD hl, a'⟩
end
theorem Dr.fresh {M : List Addr} {b L D : Addr} {H H1 H2 : Hp} (d : Dr M b L H H1) (n : H D = none) (nb : D ∉ M) (nL : D ≠ L) (k : Keep [D] H1 H2) : Dr M b L H H2 := by
  obtain ⟨cs, pos, pend, seed, cnt, h1, h2, h3⟩ := d.g.ex
  have bD : b ≠ D := fun z => nb (by rw [← z]; exact d.g.mb)
  refine ⟨fun c o nc e => k c o (by simp; exact ne_of_none e n) (d.k c o nc e), d.g.mb, d.g.nL, fun a ha => ?_, cs, pos, pend, seed, cnt, k _ _ (by simp; exact bD) h1, k _ _ (by simp; exact nL.symm) h2, h3⟩
  obtain ⟨o, eo⟩ := d.g.tr a ha
  exact ⟨o, k a o (by simp; intro z; rw [z] at ha; exact nb ha) eo⟩
section
variable {J : It} {n : Nat} {G : Hp → Prop} {Y : Nat → Hp → V → Hp → Prop}
/-- each element is drawn: Pe tells of it; some may be dropped -/
theorem lc_drawT (w : Walk J n G Y) {M : List Addr} {b L : Addr} {g : TG} {tt : TT} {te : TE} {vs : List Nat} {σ : L2.St} {H : Hp} {D : Addr} {Qd : Hp → Prop} (Pe : Nat → V → Hp → Prop) (hn : n < 100000) (hD : H D = none) (bg : Bag M b L H)
    (hG : ∀ H', Dr M b L H H' → G H') (hY : ∀ i H x H', Y i H x H' → Same H H') (hP : ∀ i y H H', Pe i y H → Keep (D :: M) H H' → Pe i y H')
    (hs : ∀ i x H' H'' (K : Option V → Hp → Prop), i < n → Dr M b L H H' → Y i H' x H'' → Bag M b L H'' → (∃ o, H'' D = some o) → (∀ y H3, Dr M b L H'' H3 → Pe i y H3 → K (some y) H3) → (∀ H3, Dr M b L H'' H3 → K none H3) →
      g x (wipe σ vs) H'' fun σ2 H2 => wipe σ2 vs = wipe σ vs ∧ tt σ2 H2 fun b H3 => if b = true then te σ2 H3 fun y H4 => K (some y) H4 else K none H3)
    (hd : ∀ H' acc, Dr M b L H H' → H' D = some (.lst acc) → acc.length ≤ n → (∀ y ∈ acc, ∃ i, i < n ∧ Pe i y H') → D ∉ M → Qd H') :
    ∃ W : Nat → Nat → Hp → Prop, (∃ m, W 0 m (upd H D (.lst []))) ∧ ∀ i m H, W i m H →
      (J.stop i H ∧ Qd H) ∨ (J.go i H ∧ ∃ Nx : Hp → Prop, (∀ H', Nx H' → ∃ m', m' < m ∧ W (i + 1) m' H') ∧ ∀ x H', J.yld i H x H' → g x (wipe σ vs) H' fun σ2 H2 => wipe σ2 vs = wipe σ vs ∧ tt σ2 H2 fun b H3 =>
        if b = true then te σ2 H3 fun y H4 => ∃ acc, H4 D = some (.lst acc) ∧ acc.length < sizeLine ∧ Nx (upd H4 D (.lst (acc ++ [y]))) else Nx H3) := by
  have nM : D ∉ M := bg.tr.new hD
  have nb : D ≠ b := fun z => nM (by rw [z]; exact bg.mb)
  have nL : D ≠ L := fun z => by
    obtain ⟨cs, pos, pend, seed, cnt, h1, h2, h3⟩ := bg.ex
    rw [z, h2] at hD
    cases hD
  refine lc_accN (Qd := Qd) w [b] (fun i acc H' => Dr M b L H H' ∧ acc.length ≤ i ∧ ∀ y ∈ acc, ∃ j, j < n ∧ Pe j y H') hn (by simp; exact nb) ⟨(Dr.refl bg).same (Same.up hD), Nat.le_refl _, fun y hy => by cases hy⟩ (fun i acc H' _ q => hG H' q.1) (fun i acc H' q => q.2.1)
    (fun i acc H' H'' q kk _ => ⟨q.1.fresh hD nM nL kk, q.2.1, fun y hy => ?_⟩) (fun i x acc H1 H2 Kk hi q eD y k1 k2 => ?_) (fun acc H1 q hacc => hd H1 acc q.1 hacc q.2.1 q.2.2 nM)
  · obtain ⟨j, hj, pj⟩ := q.2.2 y hy
    exact ⟨j, hj, hP _ _ _ _ pj (kk.sub (by simp))⟩
  · have s2 := hY _ _ _ _ y
    obtain ⟨o, eo⟩ := eD
    have mono : ∀ {H3 : Hp}, Dr M b L H2 H3 → ∀ z, (∃ j, j < n ∧ Pe j z H1) → ∃ j, j < n ∧ Pe j z H3 := fun d z ⟨j, hj, pj⟩ => ⟨j, hj, hP _ _ _ _ pj ((Keep.of s2).trans (d.keep.sub fun a h => List.mem_cons_of_mem _ h))⟩
    refine hs i x H1 H2 Kk hi q.1 y (q.1.g.same s2) ⟨o, s2 _ _ eo⟩ (fun z H3 d p => k1 z H3 ((Keep.of s2).trans d.k) ⟨(q.1.same s2).trans d, by rw [List.length_append]; have := q.2.1; simp; omega, fun u hu => ?_⟩) (fun H3 d => k2 H3 ((Keep.of s2).trans d.k) ⟨(q.1.same s2).trans d, Nat.le_succ_of_le q.2.1, fun u hu => mono d u (q.2.2 u hu)⟩)
    rcases List.mem_append.mp hu with h | h
    · exact mono d u (q.2.2 u h)
    · rw [List.mem_singleton.mp h]
      exact ⟨i, hi, p⟩
/-- none is dropped -/
theorem lc_draw (w : Walk J n G Y) {M : List Addr} {b L : Addr} {g : TG} {te : TE} {vs : List Nat} {σ : L2.St} {H : Hp} {D : Addr} {Qd : Hp → Prop} (Pe : V → Prop) (hn : n < 100000) (hD : H D = none) (bg : Bag M b L H)
    (hG : ∀ H', Dr M b L H H' → G H') (hY : ∀ i H x H', Y i H x H' → Same H H') (hg : ∀ x σ H Q Q', (∀ σ' H', Q σ' H' → Q' σ' H') → g x σ H Q → g x σ H Q')
    (hs : ∀ i x H' H'' (K : V → Hp → Prop), i < n → Dr M b L H H' → Y i H' x H'' → Bag M b L H'' → (∀ y H3, Dr M b L H'' H3 → Pe y → K y H3) → g x (wipe σ vs) H'' fun σ2 H2 => wipe σ2 vs = wipe σ vs ∧ te σ2 H2 K)
    (hd : ∀ H' acc, Dr M b L H H' → H' D = some (.lst acc) → acc.length = n → (∀ y ∈ acc, Pe y) → D ∉ M → Qd H') :
    ∃ W : Nat → Nat → Hp → Prop, (∃ m, W 0 m (upd H D (.lst []))) ∧ ∀ i m H, W i m H →
      (J.stop i H ∧ Qd H) ∨ (J.go i H ∧ ∃ Nx : Hp → Prop, (∀ H', Nx H' → ∃ m', m' < m ∧ W (i + 1) m' H') ∧ ∀ x H', J.yld i H x H' → g x (wipe σ vs) H' fun σ2 H2 => wipe σ2 vs = wipe σ vs ∧ tYes σ2 H2 fun b H3 =>
        if b = true then te σ2 H3 fun y H4 => ∃ acc, H4 D = some (.lst acc) ∧ acc.length < sizeLine ∧ Nx (upd H4 D (.lst (acc ++ [y]))) else Nx H3) := by
  have nM : D ∉ M := bg.tr.new hD
  have nb : D ≠ b := fun z => nM (by rw [z]; exact bg.mb)
  have nL : D ≠ L := fun z => by
    obtain ⟨cs, pos, pend, seed, cnt, h1, h2, h3⟩ := bg.ex
    rw [z, h2] at hD
    cases hD
  refine lc_accN (Qd := Qd) w [b] (fun i acc H' => Dr M b L H H' ∧ acc.length = i ∧ ∀ y ∈ acc, Pe y) hn (by simp; exact nb) ⟨(Dr.refl bg).same (Same.up hD), rfl, fun y hy => by cases hy⟩ (fun i acc H' _ q => hG H' q.1) (fun i acc H' q => Nat.le_of_eq q.2.1)
    (fun i acc H' H'' q kk _ => ⟨q.1.fresh hD nM nL kk, q.2⟩) (fun i x acc H1 H2 Kk hi q eD y k1 k2 => ?_) (fun acc H1 q hacc => hd H1 acc q.1 hacc q.2.1 q.2.2 nM)
  have s2 := hY _ _ _ _ y
  refine hg x _ _ _ _ (fun σ2 H2 q => ⟨q.1, ?_⟩) (hs i x H1 H2 (fun y H4 => Kk (some y) H4) hi q.1 y (q.1.g.same s2) (fun z H3 d p => k1 z H3 ((Keep.of s2).trans d.k) ⟨(q.1.same s2).trans d, by rw [List.length_append, q.2.1]; rfl, fun u hu => ?_⟩))
  · show if true = true then te σ2 H2 fun y H4 => Kk (some y) H4 else Kk none H2
    rw [if_pos rfl]
    exact q.2
  · rcases List.mem_append.mp hu with h | h
    · exact q.2.2 u h
    · rw [List.mem_singleton.mp h]
      exact p
end
/-! ### the small drawing defs -/
def spOf : Sp := fun vs H Q _ => ∃ (M : List Addr) (b L p : Addr) (xs : List V), vs = [.ref b, .ref p] ∧ Bag M b L H ∧ p ∉ M ∧ H p = some (.lst xs) ∧ 0 < xs.length ∧ xs.length < 1000 ∧ ∀ x H', x ∈ xs → Dr M b L H H' → Q x H'
def spOfS : Sp := fun vs H Q _ => ∃ (M : List Addr) (b L : Addr) (z : Str), vs = [.ref b, .str z] ∧ Bag M b L H ∧ 0 < z.length ∧ z.length < 1000 ∧ ∀ c H', Dr M b L H H' → Q (.str ⟨#[c]⟩) H'
def spWild : Sp := fun vs H Q _ => ∃ (M : List Addr) (b L : Addr), vs = [.ref b] ∧ Bag M b L H ∧ ∀ i H', Dr M b L H H' → Q (.int i) H'
/-- a list of so many short texts -/
def Txts (M : List Addr) (H : Hp) (p : Addr) (n : Nat) : Prop := p ∉ M ∧ ∃ zs : List Str, H p = some (.lst (zs.map V.str)) ∧ zs.length = n ∧ ∀ z ∈ zs, z.length ≤ 20
theorem Txts.keep {M : List Addr} {H H' : Hp} {p : Addr} {n : Nat} (t : Txts M H p n) (k : Keep M H H') : Txts M H' p n := ⟨t.1, let ⟨zs, h, r⟩ := t.2; ⟨zs, k _ _ t.1 h, r⟩⟩
def spLetters : Sp := fun vs H Q _ => ∃ (M : List Addr) (b L : Addr), vs = [.ref b] ∧ Bag M b L H ∧ ∀ p H', Dr M b L H H' → Txts M H' p 3 → Q (.ref p) H'
def spNames : Sp := fun vs H Q _ => ∃ (M : List Addr) (b L : Addr), vs = [.ref b, .int 12] ∧ Bag M b L H ∧ ∀ p H', Dr M b L H H' → Txts M H' p 12 → Q (.ref p) H'
def spWord : Sp := fun vs H Q _ => ∃ (M : List Addr) (b L p : Addr) (n : Nat), vs = [.ref b, .ref p, .int 2] ∧ Bag M b L H ∧ Txts M H p n ∧ 0 < n ∧ n < 100 ∧ ∀ z H', Dr M b L H H' → z.length ≤ 200 → Q (.str z) H'
theorem strs_of : ∀ {acc : List V}, (∀ y ∈ acc, ∃ c : Nat, y = .str ⟨#[c]⟩) → ∃ zs : List Str, acc = zs.map V.str ∧ ∀ z ∈ zs, z.length = 1
  | [], _ => ⟨[], rfl, fun z h => by cases h⟩
  | y :: r, h => by
    obtain ⟨c, rfl⟩ := h y (by simp)
    obtain ⟨zs, rfl, hz⟩ := strs_of (acc := r) fun u hu => h u (by simp [hu])
    refine ⟨⟨#[c]⟩ :: zs, rfl, fun z h => ?_⟩
    rcases List.mem_cons.mp h with e | e
    · rw [e]
      rfl
    · exact hz z e
/-- a text out of there or out of the names -/
def spPick : Sp := fun vs H Q _ => ∃ (M : List Addr) (b L p q : Addr) (zs ws : List Str), vs = [.ref b, .ref p, .ref q] ∧ Bag M b L H ∧ p ∉ M ∧ q ∉ M ∧ H p = some (.lst (zs.map V.str)) ∧ H q = some (.lst (ws.map V.str)) ∧ zs.length < 900 ∧ ws.length < 900 ∧ 0 < ws.length ∧ (∀ z ∈ zs, z.length ≤ 300) ∧ (∀ z ∈ ws, z.length ≤ 300) ∧
  ∀ z H', z.length ≤ 300 → Dr M b L H H' → Q (.str z) H'
def spBag (K : PySem.W.Frag) : Sp := fun vs H Q _ => ∃ (p : Addr) (ns : List Int), vs = [.ref p] ∧ SqL K H p (ns.map V.int) ∧ ∀ (b L : Addr) (cs : List Int) (seed : Int) (H' : Hp), Same H H' → H b = none → H L = none → b ≠ L → H' b = some (.lst [.ref L, .int 0, .int 0, .int seed, .int 0]) → H' L = some (.lst (cs.map V.int)) → cs.length ≤ 63 → Q (.ref b) H'
/-- a list against the empty one -/
def rNeNil (K : PySem.W.Frag) : R2 := fun x y H Q => ∃ a b xs, x = .ref a ∧ y = .ref b ∧ SqL K H a xs ∧ SqL K H b [] ∧ Q (.bl (!xs.isEmpty)) H
theorem op_neNil {X : Cx} (hu : X.A.units + 64 < cLine) : OpR X (compareOp .NotEq) (rNeNil X.K) := by
  intro pins s σ H x y v u Q I rx ry h
  obtain ⟨a, b, xs, rfl, rfl, ha, hb, q⟩ := h
  cases rx
  cases ry
  obtain ⟨its, rv, pl, _⟩ := I.list ha
  obtain ⟨its2, rv2, pl2, _⟩ := I.list hb
  cases rv2
  have hu1 : X.A.units < cLine := by omega
  cases xs with
  | nil =>
    cases rv
    have r := SeqAt.RcNeAt.lists (e := fun _ => true) pl.isList pl2.isList rfl hu1 (fun j h1 h2 => absurd h1 (by simp))
    exact r X.prog X.w X.xe _ ⟨.bl false, H, I.tok _, rfl, q⟩
  | cons x r' =>
    have hl := rv.length
    have r := SeqAt.RcNeAt.lists_lengths pl.isList pl2.isList (by simp at hl ⊢; intro e; rw [e] at hl; simp at hl) hu1
    exact r X.prog X.w X.xe _ ⟨.bl true, H, I.tok _, rfl, q⟩
theorem SqL.same {K : PySem.W.Frag} {H H' : Hp} {a : Addr} {xs : List V} (h : SqL K H a xs) (s : Same H H') : SqL K H' a xs := h.elim (fun r => .inl (Rd.same r s)) fun r => .inr r
theorem strs_of2 {c : Nat} : ∀ {acc : List V}, (∀ y ∈ acc, ∃ z : Str, y = .str z ∧ z.length ≤ c) → ∃ zs : List Str, acc = zs.map V.str ∧ ∀ z ∈ zs, z.length ≤ c
  | [], _ => ⟨[], rfl, fun z h => by cases h⟩
  | y :: r, h => by
    obtain ⟨z0, rfl, hz0⟩ := h y (by simp)
    obtain ⟨zs, rfl, hz⟩ := strs_of2 (acc := r) fun u hu => h u (by simp [hu])
    refine ⟨z0 :: zs, rfl, fun z h => ?_⟩
    rcases List.mem_cons.mp h with e | e
    · rw [e]
      exact hz0
    · exact hz z e
theorem sum_le {c : Nat} : ∀ {zs : List Str}, (∀ z ∈ zs, z.length ≤ c) → (zs.map (·.length)).sum ≤ zs.length * c
  | [], _ => by simp
  | z :: r, h => by
    have h1 := h z (by simp)
    have h2 := sum_le (zs := r) fun u hu => h u (by simp [hu])
    simp only [List.map_cons, List.sum_cons, List.length_cons, Nat.add_mul, Nat.one_mul]
    omega
theorem strLen2 (a b : Str) : (a ++ b).length = a.length + b.length := Array.size_append
theorem join_le {c : Nat} : ∀ {zs : List Str}, (∀ z ∈ zs, z.length ≤ c) → (Txt.join "" zs).length ≤ zs.length * c := by
  intro zs
  rw [TL.join_eq]
  induction zs with
  | nil => intro _; exact Nat.zero_le _
  | cons z r ih =>
    intro h
    cases r with
    | nil =>
      have := h z (by simp)
      show z.length ≤ _
      simp only [List.length_cons, List.length_nil]
      omega
    | cons y r =>
      have h1 := h z (by simp)
      have h2 := ih fun u hu => h u (by simp only [List.mem_cons] at *; exact .inr hu)
      show (z ++ ("" : Str) ++ Str.join "" (y :: r)).length ≤ _
      rw [strLen2, strLen2]
      have e0 : (Str.ofString "").length = 0 := by decide
      simp only [List.length_cons, Nat.add_mul, Nat.one_mul] at *
      omega
theorem cutS_le (z : Str) (lo hi : Option Int) : (cutS z lo hi).length ≤ z.length := by
  unfold cutS
  show (List.toArray _).size ≤ z.cps.size
  rw [List.size_toArray, List.length_take, List.length_drop, Array.length_toList]
  omega
theorem atI_any {α : Type} {xs : List α} {k : Int} (h0 : 0 ≤ k) (h1 : k < (xs.length : Int)) : ∃ x, x ∈ xs ∧ atI xs k = some x := by
  have hk : k.toNat < xs.length := by omega
  refine ⟨xs[k.toNat], List.getElem_mem hk, ?_⟩
  unfold atI ixN
  rw [if_pos h0, if_pos h1]
  show xs[k.toNat]? = _
  exact List.getElem?_eq_getElem hk
section
variable {P : Program} {w : World} {K : PySem.W.Frag} {mg : Str → Option Value} {base : Heap}
abbrev N_L_of : List Str := ["_law_bag_here", "_law_some"]
theorem sc_L_of : FnScope N_L_of ["_law_bag_here", "_law_some"] (defScope s_L_of) := ⟨rfl, rfl, rfl, by decide +kernel, rfl, by decide +kernel, by decide +kernel⟩
theorem b_L_of : Bnd0 d_L_of.name d_L_of.qual d_L_of.params d_L_of.body d_L_of.scope ["_law_bag_here", "_law_some"] := fun _ _ _ _ _ _ us hl => match us, hl with | [_, _], _ => rfl
theorem ok_L_of (T : TX w K mg) : CalE P w K mg base 2 "_law_of" [] spOf := by
  refine cal_of T.fd_L_of T.g_L_of sc_L_of b_L_of (fun vs H Q E h => ?_) (fun cdv A outer s H vs Q E hr h => ?_)
  · obtain ⟨M, b, L, p, xs, rfl, _⟩ := h
    rfl
  obtain ⟨M, b, L, p, xs, rfl, g, np, hp, l0, l1, k⟩ := h
  have nd := sc_L_of.nd
  refine ⟨_, (pss_one (ps_ret (pe_ix ix_list (pv 1) (pe_cal (ok_L_pull T) (hr.mono (by decide)) rfl passL (pa_cons (pv 0) (pa_cons (pe_callB call_len_seq (by rfl) T.f_len PySem.boot_len (pa_cons (pv 1) pa_nil)) pa_nil))) (fun _ _ => rfl)))), ?_⟩
  simp only [tSeq, tDrop, tVar, tC, tCall, tCons, tNil, tFld, sFld, sDPut, tDGet, tRet, tRetN, tIfS, tTest, tB, tNot, tAnd, tOr, tOp, tUn, rI0, rI, tNext, tDIn, tDNotIn, tDNewK, tIf, tAndV, tOrV, tNotV, tAsg, gName, gCons, gNil, gTup, tPar, tTup, tLst, tMeth, tCB, rEq, rNe, tBM, rAppend, tBM0, tChain, rIxL, rIxT, rIxS, rIx, L2.start, cxK, cxW, kV_inr, List.map_cons, List.map_nil, List.length_cons, List.length_nil, List.replicate, List.cons_append, List.nil_append, List.append_nil, List.getElem?_cons_zero, List.getElem?_cons_succ, List.set_cons_zero, List.set_cons_succ, Option.some.injEq, V.ref.injEq, V.str.injEq, V.int.injEq, V.bl.injEq, exists_eq, exists_eq', exists_eq_left, exists_eq_left', exists_and_left, exists_and_right, List.cons.injEq, and_true, true_and, and_assoc]
  have pb : p ≠ b := fun z => np (by rw [z]; exact g.mb)
  refine ⟨xs, .inl (.inl (.inl hp)), M, b, L, _, rfl, g, by omega, by omega, fun i H' i0 i1 d => ?_⟩
  obtain ⟨x, hx, e⟩ := atI_any i0 i1
  exact ⟨xs, i, rfl, .inl (.inl (d.k _ _ (by simp; exact pb) hp)), x, e, k x H' hx d⟩
theorem ok_L_ofS (T : TX w K mg) : CalE P w K mg base 2 "_law_of" [] spOfS := by
  refine cal_of T.fd_L_of T.g_L_of sc_L_of b_L_of (fun vs H Q E h => ?_) (fun cdv A outer s H vs Q E hr h => ?_)
  · obtain ⟨M, b, L, z, rfl, _⟩ := h
    rfl
  obtain ⟨M, b, L, z, rfl, g, l0, l1, k⟩ := h
  have nd := sc_L_of.nd
  refine ⟨_, (pss_one (ps_ret (pe_ix ix_str (pv 1) (pe_cal (ok_L_pull T) (hr.mono (by decide)) rfl passL (pa_cons (pv 0) (pa_cons (pe_callB call_len_str (by rfl) T.f_len PySem.boot_len (pa_cons (pv 1) pa_nil)) pa_nil))) (fun _ _ => rfl)))), ?_⟩
  simp only [tSeq, tDrop, tVar, tC, tCall, tCons, tNil, tFld, sFld, sDPut, tDGet, tRet, tRetN, tIfS, tTest, tB, tNot, tAnd, tOr, tOp, tUn, rI0, rI, tNext, tDIn, tDNotIn, tDNewK, tIf, tAndV, tOrV, tNotV, tAsg, gName, gCons, gNil, gTup, tPar, tTup, tLst, tMeth, tCB, rEq, rNe, tBM, rAppend, tBM0, tChain, rIxL, rIxT, rIxS, rIx, L2.start, cxK, cxW, kV_inr, List.map_cons, List.map_nil, List.length_cons, List.length_nil, List.replicate, List.cons_append, List.nil_append, List.append_nil, List.getElem?_cons_zero, List.getElem?_cons_succ, List.set_cons_zero, List.set_cons_succ, Option.some.injEq, V.ref.injEq, V.str.injEq, V.int.injEq, V.bl.injEq, exists_eq, exists_eq', exists_eq_left, exists_eq_left', exists_and_left, exists_and_right, List.cons.injEq, and_true, true_and, and_assoc, rIxS]
  refine ⟨by rw [sizeLine_eq]; omega, M, b, L, _, rfl, g, by omega, by omega, fun i H' i0 i1 d => ?_⟩
  obtain ⟨x, hx, e⟩ := atI_any (xs := z.cps.toList) i0 (by rw [Array.length_toList]; exact i1)
  exact ⟨i, rfl, by rw [sizeLine_eq]; omega, x, e, k x H' d⟩
theorem Bag.txt {M : List Addr} {b L : Addr} {H : Hp} (g : Bag M b L H) {p : Addr} {xs : List V} (hp : H p = none) : Bag M b L (upd H p (.lst xs)) ∧ p ∉ M ∧ Dr M b L H (upd H p (.lst xs)) :=
  ⟨g.same (Same.up hp), g.tr.new hp, (Dr.refl g).same (Same.up hp)⟩
theorem low_at {k : Int} (h0 : 0 ≤ k) (h1 : k < 26) : ∃ c, atI low26.cps.toList k = some c := by
  obtain ⟨c, _, e⟩ := atI_any (xs := low26.cps.toList) h0 (by rw [Array.length_toList]; exact h1)
  exact ⟨c, e⟩
abbrev N_L_wild : List Str := ["_law_bag_here"]
theorem sc_L_wild : FnScope N_L_wild ["_law_bag_here"] (defScope s_L_wild) := ⟨rfl, rfl, rfl, by decide +kernel, rfl, by decide +kernel, by decide +kernel⟩
theorem b_L_wild : Bnd0 d_L_wild.name d_L_wild.qual d_L_wild.params d_L_wild.body d_L_wild.scope ["_law_bag_here"] := fun _ _ _ _ _ _ us hl => match us, hl with | [_], _ => rfl
theorem ok_L_wild (T : TX w K mg) : CalE P w K mg base 3 "_law_wild" [] spWild := by
  refine cal_of T.fd_L_wild T.g_L_wild sc_L_wild b_L_wild (fun vs H Q E h => ?_) (fun cdv A outer s H vs Q E hr h => ?_)
  · obtain ⟨M, b, L, rfl, _⟩ := h
    rfl
  obtain ⟨M, b, L, rfl, g, k⟩ := h
  have nd := sc_L_wild.nd
  refine ⟨_, (pss_one (ps_ret (pe_cal (ok_L_of T) (hr.mono (by decide)) rfl passL (pa_cons (pv 0) (pa_cons (pe_lst (pa_cons (pe_un un_neg pe_int) (pa_cons pe_int (pa_cons pe_int (pa_cons pe_int (pa_cons (pe_op op_pow pe_int pe_int) (pa_cons (pe_un un_neg (pe_op op_pow pe_int pe_int)) pa_nil))))))) pa_nil))))), ?_⟩
  simp only [tSeq, tDrop, tVar, tC, tCall, tCons, tNil, tFld, sFld, sDPut, tDGet, tRet, tRetN, tIfS, tTest, tB, tNot, tAnd, tOr, tOp, tUn, rI0, rI, tNext, tDIn, tDNotIn, tDNewK, tIf, tAndV, tOrV, tNotV, tAsg, gName, gCons, gNil, gTup, tPar, tTup, tLst, tMeth, tCB, rEq, rNe, tBM, rAppend, tBM0, tChain, rIxL, rIxT, rIxS, rIx, L2.start, cxK, cxW, kV_inr, List.map_cons, List.map_nil, List.length_cons, List.length_nil, List.replicate, List.cons_append, List.nil_append, List.append_nil, List.getElem?_cons_zero, List.getElem?_cons_succ, List.set_cons_zero, List.set_cons_succ, Option.some.injEq, V.ref.injEq, V.str.injEq, V.int.injEq, V.bl.injEq, exists_eq, exists_eq', exists_eq_left, exists_eq_left', exists_and_left, exists_and_right, List.cons.injEq, and_true, true_and, and_assoc, rU]
  refine ⟨⟨by decide, by decide, by decide⟩, ⟨by decide, by decide, by decide⟩, by rw [sizeLine_eq]; omega, fun p hp => ?_⟩
  obtain ⟨g2, np, d2⟩ := g.txt (xs := [.int (-1), .int 24, .int 60, .int 401, .int (10 ^ Int.toNat 20), .int (-10 ^ Int.toNat 29)]) hp
  refine ⟨M, b, L, p, _, rfl, g2, np, upd_same, by simp, by simp, fun x H3 hx d3 => ?_⟩
  obtain ⟨i, rfl⟩ : ∃ i : Int, x = .int i := by
    simp at hx
    rcases hx with rfl | rfl | rfl | rfl | rfl | rfl <;> exact ⟨_, rfl⟩
  exact k i H3 (d2.trans d3)
abbrev N_L_letters : List Str := ["_law_bag_here", "_law_alphabet", "_law_first", "_law_by", "_law_k"]
theorem sc_L_letters : FnScope N_L_letters ["_law_bag_here"] (defScope s_L_letters) := ⟨rfl, rfl, rfl, by decide +kernel, rfl, by decide +kernel, by decide +kernel⟩
theorem b_L_letters : Bnd0 d_L_letters.name d_L_letters.qual d_L_letters.params d_L_letters.body d_L_letters.scope ["_law_bag_here"] := fun _ _ _ _ _ _ us hl => match us, hl with | [_], _ => rfl
theorem ok_L_letters (T : TX w K mg) : CalE P w K mg base 3 "_law_letters" [] spLetters := by
  refine cal_of T.fd_L_letters T.g_L_letters sc_L_letters b_L_letters (fun vs H Q E h => ?_) (fun cdv A outer s H vs Q E hr h => ?_)
  · obtain ⟨M, b, L, rfl, _⟩ := h
    rfl
  obtain ⟨M, b, L, rfl, g, k⟩ := h
  have nd := sc_L_letters.nd
  refine ⟨_, (pss_cons (ps_set (i := 1) nd rfl (Or.inr rfl) pe_str)
      (pss_cons (ps_set (i := 2) nd rfl (Or.inr rfl) (pe_cal (ok_L_pull T) (hr.mono (by decide)) rfl passL (pa_cons (pv 0) (pa_cons pe_int pa_nil))))
      (pss_cons (ps_set (i := 3) nd rfl (Or.inr rfl) (pe_cal (ok_L_of T) (hr.mono (by decide)) rfl passL (pa_cons (pv 0) (pa_cons (pe_lst (pa_cons pe_int (pa_cons pe_int (pa_cons pe_int (pa_cons pe_int (pa_cons pe_int (pa_cons pe_int pa_nil))))))) pa_nil))))
      (pss_one (ps_ret (pe_lc (own := [("_law_k", 4)]) (by rfl) nd (pi_range1 rfl T.f_range (pa_cons pe_int pa_nil)) (blkOk_by (N := N_L_letters) (sc := defScope s_L_letters) (by decide +kernel)) (fun _ _ _ _ _ => (pg_name (i := 4) nd rfl (Or.inl rfl))) (fun _ _ _ _ _ => pts_nil) (fun _ _ _ _ _ => (pe_ix ix_str (pv 1) (pe_op op_mod (pe_op op_add (pv 2) (pe_op op_mul (pv 3) (pv 4))) pe_int) (fun _ _ => rfl))))))))), ?_⟩
  simp only [tSeq, tDrop, tVar, tC, tCall, tCons, tNil, tFld, sFld, sDPut, tDGet, tRet, tRetN, tIfS, tTest, tB, tNot, tAnd, tOr, tOp, tUn, rI0, rI, tNext, tDIn, tDNotIn, tDNewK, tIf, tAndV, tOrV, tNotV, tAsg, gName, gCons, gNil, gTup, tPar, tTup, tLst, tMeth, tCB, rEq, rNe, tBM, rAppend, tBM0, tChain, rIxL, rIxT, rIxS, rIx, L2.start, cxK, cxW, kV_inr, List.map_cons, List.map_nil, List.length_cons, List.length_nil, List.replicate, List.cons_append, List.nil_append, List.append_nil, List.getElem?_cons_zero, List.getElem?_cons_succ, List.set_cons_zero, List.set_cons_succ, Option.some.injEq, V.ref.injEq, V.str.injEq, V.int.injEq, V.bl.injEq, exists_eq, exists_eq', exists_eq_left, exists_eq_left', exists_and_left, exists_and_right, List.cons.injEq, and_true, true_and, and_assoc]
  refine ⟨M, b, L, _, rfl, g, by omega, by omega, fun k1 H1 a0 a1 d1 => ⟨by rw [sizeLine_eq]; omega, fun p hp => ?_⟩⟩
  obtain ⟨g2, np, d2⟩ := d1.g.txt (xs := [.int 1, .int 3, .int 5, .int 7, .int 9, .int 11]) hp
  refine ⟨M, b, L, p, _, rfl, g2, np, upd_same, by simp, by simp, fun x H3 hx d3 => ?_⟩
  have d13 := d1.trans (d2.trans d3)
  obtain ⟨k2, rfl, b0, b1⟩ : ∃ k2 : Int, x = .int k2 ∧ 0 ≤ k2 ∧ k2 ≤ 11 := by
    simp at hx
    rcases hx with rfl | rfl | rfl | rfl | rfl | rfl <;> exact ⟨_, rfl, by omega, by omega⟩
  have g3 := d3.g
  refine ⟨3, rfl, by decide, by decide, fun D hD => ?_⟩
  refine lc_draw (Qd := fun H' => _) (walk_range (lo := 0) (n := 3)) (M := M) (b := b) (L := L) (fun y => ∃ c : Nat, y = .str ⟨#[c]⟩) (by omega) hD g3 (fun _ _ => trivial) (fun i H x H' y => by rw [y.1]; exact Same.refl _) gName_mono (fun i x H4 H5 Kk hi d4 y g5 kk => ?_) (fun H4 acc d4 hacc hl ha nD => ?_)
  · obtain ⟨rfl, rfl⟩ := y
    refine ⟨rfl, ?_⟩
    obtain ⟨c, ec⟩ := low_at (k := (k1 + k2 * (0 + (i : Int))) % 26) (Int.emod_nonneg _ (by omega)) (Int.emod_lt_of_pos _ (by omega))
    simp only [tSeq, tDrop, tVar, tC, tCall, tCons, tNil, tFld, sFld, sDPut, tDGet, tRet, tRetN, tIfS, tTest, tB, tNot, tAnd, tOr, tOp, tUn, rI0, rI, tNext, tDIn, tDNotIn, tDNewK, tIf, tAndV, tOrV, tNotV, tAsg, gName, gCons, gNil, gTup, tPar, tTup, tLst, tMeth, tCB, rEq, rNe, tBM, rAppend, tBM0, tChain, rIxL, rIxT, rIxS, rIx, L2.start, cxK, cxW, kV_inr, List.map_cons, List.map_nil, List.length_cons, List.length_nil, List.replicate, List.cons_append, List.nil_append, List.append_nil, List.getElem?_cons_zero, List.getElem?_cons_succ, List.set_cons_zero, List.set_cons_succ, Option.some.injEq, V.ref.injEq, V.str.injEq, V.int.injEq, V.bl.injEq, exists_eq, exists_eq', exists_eq_left, exists_eq_left', exists_and_left, exists_and_right, List.cons.injEq, and_true, true_and, and_assoc, wipe, rIxS]
    exact ⟨.inl ⟨by omega, by omega⟩, by omega, by rw [sizeLine_eq]; decide, c, ec, kk _ _ (Dr.refl g5) ⟨c, rfl⟩⟩
  · obtain ⟨zs, rfl, hz⟩ := strs_of ha
    exact k D H4 (d13.trans d4) ⟨nD, zs, hacc, by rw [← hl, List.length_map], fun z h => by rw [hz z h]; omega⟩
abbrev N_L_names : List Str := ["_law_bag_here", "_law_many", "_law_alphabet", "_law_tail", "_law_at", "_law_first", "_law_by", "_law_k"]
theorem sc_L_names : FnScope N_L_names ["_law_bag_here", "_law_many"] (defScope s_L_names) := ⟨rfl, rfl, rfl, by decide +kernel, rfl, by decide +kernel, by decide +kernel⟩
theorem b_L_names : Bnd0 d_L_names.name d_L_names.qual d_L_names.params d_L_names.body d_L_names.scope ["_law_bag_here", "_law_many"] := fun _ _ _ _ _ _ us hl => match us, hl with | [_, _], _ => rfl
theorem ok_L_names (T : TX w K mg) : CalE P w K mg base 3 "_law_names" [] spNames := by
  refine cal_of T.fd_L_names T.g_L_names sc_L_names b_L_names (fun vs H Q E h => ?_) (fun cdv A outer s H vs Q E hr h => ?_)
  · obtain ⟨M, b, L, rfl, _⟩ := h
    rfl
  obtain ⟨M, b, L, rfl, g, k⟩ := h
  have nd := sc_L_names.nd
  refine ⟨_, (pss_cons (ps_set (i := 2) nd rfl (Or.inr rfl) pe_str)
      (pss_cons (ps_set (i := 3) nd rfl (Or.inr rfl) (pe_join pe_str (pe_lc (own := [("_law_k", 7)]) (by rfl) nd (pi_range1 rfl T.f_range (pa_cons (pe_cal (ok_L_pull T) (hr.mono (by decide)) rfl passL (pa_cons (pv 0) (pa_cons pe_int pa_nil))) pa_nil)) (blkOk_by (N := N_L_names) (sc := defScope s_L_names) (by decide +kernel)) (fun _ _ _ _ _ => (pg_name (i := 7) nd rfl (Or.inl rfl))) (fun _ _ _ _ _ => pts_nil) (fun _ _ _ _ _ => (pe_cal (ok_L_ofS T) (hr.mono (by decide)) rfl passL (pa_cons (pv 0) (pa_cons (pv 2) pa_nil)))))))
      (pss_cons (ps_set (i := 4) nd rfl (Or.inr rfl) (pe_cal (ok_L_pull T) (hr.mono (by decide)) rfl passL (pa_cons (pv 0) (pa_cons (pe_op op_add (pe_callB call_len_str (by rfl) T.f_len PySem.boot_len (pa_cons (pv 3) pa_nil)) pe_int) pa_nil))))
      (pss_cons (ps_set (i := 5) nd rfl (Or.inr rfl) (pe_cal (ok_L_pull T) (hr.mono (by decide)) rfl passL (pa_cons (pv 0) (pa_cons pe_int pa_nil))))
      (pss_cons (ps_set (i := 6) nd rfl (Or.inr rfl) (pe_cal (ok_L_of T) (hr.mono (by decide)) rfl passL (pa_cons (pv 0) (pa_cons (pe_lst (pa_cons pe_int (pa_cons pe_int (pa_cons pe_int (pa_cons pe_int (pa_cons pe_int (pa_cons pe_int pa_nil))))))) pa_nil))))
      (pss_one (ps_ret (pe_lc (own := [("_law_k", 7)]) (by rfl) nd (pi_range1 rfl T.f_range (pa_cons (pv 1) pa_nil)) (blkOk_by (N := N_L_names) (sc := defScope s_L_names) (by decide +kernel)) (fun _ _ _ _ _ => (pg_name (i := 7) nd rfl (Or.inl rfl))) (fun _ _ _ _ _ => pts_nil) (fun _ _ _ _ _ => (pe_op op_add_str (pe_op op_add_str (pe_slice sl_str (pv 3) po_none (po_some (pv 4))) (pe_ix ix_str (pv 2) (pe_op op_mod (pe_op op_add (pv 5) (pe_op op_mul (pv 6) (pv 7))) pe_int) (fun _ _ => rfl))) (pe_slice sl_str (pv 3) (po_some (pv 4)) po_none))))))))))), ?_⟩
  simp only [tSeq, tDrop, tVar, tC, tCall, tCons, tNil, tFld, sFld, sDPut, tDGet, tRet, tRetN, tIfS, tTest, tB, tNot, tAnd, tOr, tOp, tUn, rI0, rI, tNext, tDIn, tDNotIn, tDNewK, tIf, tAndV, tOrV, tNotV, tAsg, gName, gCons, gNil, gTup, tPar, tTup, tLst, tMeth, tCB, rEq, rNe, tBM, rAppend, tBM0, tChain, rIxL, rIxT, rIxS, rIx, L2.start, cxK, cxW, kV_inr, List.map_cons, List.map_nil, List.length_cons, List.length_nil, List.replicate, List.cons_append, List.nil_append, List.append_nil, List.getElem?_cons_zero, List.getElem?_cons_succ, List.set_cons_zero, List.set_cons_succ, Option.some.injEq, V.ref.injEq, V.str.injEq, V.int.injEq, V.bl.injEq, exists_eq, exists_eq', exists_eq_left, exists_eq_left', exists_and_left, exists_and_right, List.cons.injEq, and_true, true_and, and_assoc, tM1]
  refine ⟨_, rfl, M, b, L, 8, rfl, g, by omega, by omega, fun n H1 n0 n1 d1 => ⟨n, rfl, by omega, by omega, fun D hD => ?_⟩⟩
  refine lc_draw (Qd := fun H' => _) (walk_range (lo := 0) (n := n.toNat)) (M := M) (b := b) (L := L) (fun y => ∃ c : Nat, y = .str ⟨#[c]⟩) (by omega) hD d1.g (fun _ _ => trivial) (fun i H x H' y => by rw [y.1]; exact Same.refl _) gName_mono (fun i x H4 H5 Kk hi d4 y g5 kk => ?_) (fun H4 acc d4 hacc hl ha nD => ?_)
  · obtain ⟨rfl, rfl⟩ := y
    refine ⟨rfl, ?_⟩
    simp only [tSeq, tDrop, tVar, tC, tCall, tCons, tNil, tFld, sFld, sDPut, tDGet, tRet, tRetN, tIfS, tTest, tB, tNot, tAnd, tOr, tOp, tUn, rI0, rI, tNext, tDIn, tDNotIn, tDNewK, tIf, tAndV, tOrV, tNotV, tAsg, gName, gCons, gNil, gTup, tPar, tTup, tLst, tMeth, tCB, rEq, rNe, tBM, rAppend, tBM0, tChain, rIxL, rIxT, rIxS, rIx, L2.start, cxK, cxW, kV_inr, List.map_cons, List.map_nil, List.length_cons, List.length_nil, List.replicate, List.cons_append, List.nil_append, List.append_nil, List.getElem?_cons_zero, List.getElem?_cons_succ, List.set_cons_zero, List.set_cons_succ, Option.some.injEq, V.ref.injEq, V.str.injEq, V.int.injEq, V.bl.injEq, exists_eq, exists_eq', exists_eq_left, exists_eq_left', exists_and_left, exists_and_right, List.cons.injEq, and_true, true_and, and_assoc, wipe]
    exact ⟨M, b, L, _, rfl, g5, by decide, by decide, fun c H6 d6 => kk _ _ d6 ⟨c, rfl⟩⟩
  obtain ⟨zs, rfl, hz⟩ := strs_of ha
  have hz1 : ∀ z ∈ zs, z.length ≤ 1 := fun z h => Nat.le_of_eq (hz z h)
  rw [List.length_map] at hl
  have jl := join_le hz1
  have sl := sum_le hz1
  have e0 : (Str.ofString "").length = 0 := by decide
  have d14 := d1.trans d4
  refine ⟨D, rfl, zs, .inl (.inl (.inl hacc)), by rw [e0]; omega, by rw [sizeLine_eq]; omega, M, b, L, _, rfl, d4.g, by omega, by omega, fun at_ H5 a0 a1 d5 => ?_⟩
  have d15 := d14.trans d5
  refine ⟨M, b, L, _, rfl, d5.g, by omega, by omega, fun k1 H6 b0 b1 d6 => ⟨by rw [sizeLine_eq]; omega, fun p hp => ?_⟩⟩
  obtain ⟨g2, np, d2⟩ := d6.g.txt (xs := [.int 1, .int 3, .int 5, .int 7, .int 9, .int 11]) hp
  refine ⟨M, b, L, p, _, rfl, g2, np, upd_same, by simp, by simp, fun x H7 hx d7 => ?_⟩
  have d17 := (d15.trans d6).trans (d2.trans d7)
  obtain ⟨k2, rfl, c0, c1⟩ : ∃ k2 : Int, x = .int k2 ∧ 0 ≤ k2 ∧ k2 ≤ 11 := by
    simp at hx
    rcases hx with rfl | rfl | rfl | rfl | rfl | rfl <;> exact ⟨_, rfl, by omega, by omega⟩
  have g7 := d7.g
  generalize Txt.join "" zs = tl at *
  refine ⟨_, rfl, 12, rfl, by decide, by decide, fun D2 hD2 => ?_⟩
  refine lc_draw (Qd := fun H' => _) (walk_range (lo := 0) (n := 12)) (M := M) (b := b) (L := L) (fun y => ∃ z : Str, y = .str z ∧ z.length ≤ 20) (by omega) hD2 g7 (fun _ _ => trivial) (fun i H x H' y => by rw [y.1]; exact Same.refl _) gName_mono (fun i x H8 H9 Kk hi d8 y g9 kk => ?_) (fun H8 acc d8 hacc hl2 ha2 nD2 => ?_)
  · obtain ⟨rfl, rfl⟩ := y
    refine ⟨rfl, ?_⟩
    obtain ⟨c, ec⟩ := low_at (k := (k1 + k2 * (0 + (i : Int))) % 26) (Int.emod_nonneg _ (by omega)) (Int.emod_lt_of_pos _ (by omega))
    have q1 := cutS_le tl none (some at_)
    have q2 := cutS_le tl (some at_) none
    have q3 : (⟨#[c]⟩ : Str).length = 1 := rfl
    simp only [tSeq, tDrop, tVar, tC, tCall, tCons, tNil, tFld, sFld, sDPut, tDGet, tRet, tRetN, tIfS, tTest, tB, tNot, tAnd, tOr, tOp, tUn, rI0, rI, tNext, tDIn, tDNotIn, tDNewK, tIf, tAndV, tOrV, tNotV, tAsg, gName, gCons, gNil, gTup, tPar, tTup, tLst, tMeth, tCB, rEq, rNe, tBM, rAppend, tBM0, tChain, rIxL, rIxT, rIxS, rIx, L2.start, cxK, cxW, kV_inr, List.map_cons, List.map_nil, List.length_cons, List.length_nil, List.replicate, List.cons_append, List.nil_append, List.append_nil, List.getElem?_cons_zero, List.getElem?_cons_succ, List.set_cons_zero, List.set_cons_succ, Option.some.injEq, V.ref.injEq, V.str.injEq, V.int.injEq, V.bl.injEq, exists_eq, exists_eq', exists_eq_left, exists_eq_left', exists_and_left, exists_and_right, List.cons.injEq, and_true, true_and, and_assoc, wipe, rIxS, tSl, rSlS, tPart, tNoPart, strLen2]
    refine ⟨by rw [sizeLine_eq]; omega, .inl ⟨by omega, by omega⟩, by omega, by rw [sizeLine_eq]; decide, c, ec, by rw [sizeLine_eq]; omega, by rw [sizeLine_eq]; omega, by rw [sizeLine_eq]; omega, kk _ _ (Dr.refl g9) ⟨_, rfl, ?_⟩⟩
    rw [strLen2, strLen2]
    omega
  · obtain ⟨zs2, rfl, hz2⟩ := strs_of2 ha2
    exact k D2 H8 (d17.trans d8) ⟨nD2, zs2, hacc, by rw [← hl2, List.length_map], hz2⟩
abbrev N_L_word : List Str := ["_law_bag_here", "_law_letters_here", "_law_top", "_law_k"]
theorem sc_L_word : FnScope N_L_word ["_law_bag_here", "_law_letters_here", "_law_top"] (defScope s_L_word) := ⟨rfl, rfl, rfl, by decide +kernel, rfl, by decide +kernel, by decide +kernel⟩
theorem b_L_word : Bnd0 d_L_word.name d_L_word.qual d_L_word.params d_L_word.body d_L_word.scope ["_law_bag_here", "_law_letters_here", "_law_top"] := fun _ _ _ _ _ _ us hl => match us, hl with | [_, _, _], _ => rfl
theorem ok_L_word (T : TX w K mg) : CalE P w K mg base 3 "_law_word" [] spWord := by
  refine cal_of T.fd_L_word T.g_L_word sc_L_word b_L_word (fun vs H Q E h => ?_) (fun cdv A outer s H vs Q E hr h => ?_)
  · obtain ⟨M, b, L, p, n, rfl, _⟩ := h
    rfl
  obtain ⟨M, b, L, p, n, rfl, g, tx, n0, n1, k⟩ := h
  have nd := sc_L_word.nd
  refine ⟨_, (pss_one (ps_ret (pe_join pe_str (pe_lc (own := [("_law_k", 3)]) (by rfl) nd (pi_range1 rfl T.f_range (pa_cons (pe_cal (ok_L_pull T) (hr.mono (by decide)) rfl passL (pa_cons (pv 0) (pa_cons (pe_op op_add (pv 2) pe_int) pa_nil))) pa_nil)) (blkOk_by (N := N_L_word) (sc := defScope s_L_word) (by decide +kernel)) (fun _ _ _ _ _ => (pg_name (i := 3) nd rfl (Or.inl rfl))) (fun _ _ _ _ _ => pts_nil) (fun _ _ _ _ _ => (pe_cal (ok_L_of T) (hr.mono (by decide)) rfl passL (pa_cons (pv 0) (pa_cons (pv 1) pa_nil)))))))), ?_⟩
  simp only [tSeq, tDrop, tVar, tC, tCall, tCons, tNil, tFld, sFld, sDPut, tDGet, tRet, tRetN, tIfS, tTest, tB, tNot, tAnd, tOr, tOp, tUn, rI0, rI, tNext, tDIn, tDNotIn, tDNewK, tIf, tAndV, tOrV, tNotV, tAsg, gName, gCons, gNil, gTup, tPar, tTup, tLst, tMeth, tCB, rEq, rNe, tBM, rAppend, tBM0, tChain, rIxL, rIxT, rIxS, rIx, L2.start, cxK, cxW, kV_inr, List.map_cons, List.map_nil, List.length_cons, List.length_nil, List.replicate, List.cons_append, List.nil_append, List.append_nil, List.getElem?_cons_zero, List.getElem?_cons_succ, List.set_cons_zero, List.set_cons_succ, Option.some.injEq, V.ref.injEq, V.str.injEq, V.int.injEq, V.bl.injEq, exists_eq, exists_eq', exists_eq_left, exists_eq_left', exists_and_left, exists_and_right, List.cons.injEq, and_true, true_and, and_assoc, tM1]
  refine ⟨_, rfl, _, rfl, 2, 1, rfl, rfl, M, b, L, 3, rfl, g, by omega, by omega, fun m H1 m0 m1 d1 => ⟨m, rfl, by omega, by omega, fun D hD => ?_⟩⟩
  refine lc_draw (Qd := fun H' => _) (walk_range (lo := 0) (n := m.toNat)) (M := M) (b := b) (L := L) (fun y => ∃ z : Str, y = .str z ∧ z.length ≤ 20) (by omega) hD d1.g (fun _ _ => trivial) (fun i H x H' y => by rw [y.1]; exact Same.refl _) gName_mono (fun i x H4 H5 Kk hi d4 y g5 kk => ?_) (fun H4 acc d4 hacc hl ha nD => ?_)
  · obtain ⟨rfl, rfl⟩ := y
    obtain ⟨np, zs, hz, hzl, hz2⟩ := tx.keep ((d1.trans d4).keep)
    refine ⟨rfl, ?_⟩
    simp only [tSeq, tDrop, tVar, tC, tCall, tCons, tNil, tFld, sFld, sDPut, tDGet, tRet, tRetN, tIfS, tTest, tB, tNot, tAnd, tOr, tOp, tUn, rI0, rI, tNext, tDIn, tDNotIn, tDNewK, tIf, tAndV, tOrV, tNotV, tAsg, gName, gCons, gNil, gTup, tPar, tTup, tLst, tMeth, tCB, rEq, rNe, tBM, rAppend, tBM0, tChain, rIxL, rIxT, rIxS, rIx, L2.start, cxK, cxW, kV_inr, List.map_cons, List.map_nil, List.length_cons, List.length_nil, List.replicate, List.cons_append, List.nil_append, List.append_nil, List.getElem?_cons_zero, List.getElem?_cons_succ, List.set_cons_zero, List.set_cons_succ, Option.some.injEq, V.ref.injEq, V.str.injEq, V.int.injEq, V.bl.injEq, exists_eq, exists_eq', exists_eq_left, exists_eq_left', exists_and_left, exists_and_right, List.cons.injEq, and_true, true_and, and_assoc, wipe]
    refine ⟨M, b, L, p, _, rfl, g5, np, hz, by rw [List.length_map]; omega, by rw [List.length_map]; omega, fun x H6 hx d6 => ?_⟩
    obtain ⟨z, hzz, rfl⟩ := List.mem_map.mp hx
    exact kk _ _ d6 ⟨z, rfl, hz2 z hzz⟩
  obtain ⟨zs, rfl, hz⟩ := strs_of2 ha
  rw [List.length_map] at hl
  have jl := join_le hz
  have sl := sum_le hz
  have e0 : (Str.ofString "").length = 0 := by decide
  exact ⟨D, rfl, zs, .inl (.inl (.inl hacc)), by rw [e0]; omega, k _ H4 (d1.trans d4) (by omega)⟩
abbrev N_L_bag : List Str := ["_law_script", "_law_seed", "_law_cell"]
theorem sc_L_bag : FnScope N_L_bag ["_law_script"] (defScope s_L_bag) := ⟨rfl, rfl, rfl, by decide +kernel, rfl, by decide +kernel, by decide +kernel⟩
theorem b_L_bag : Bnd0 d_L_bag.name d_L_bag.qual d_L_bag.params d_L_bag.body d_L_bag.scope ["_law_script"] := fun _ _ _ _ _ _ us hl => match us, hl with | [_], _ => rfl
theorem ok_L_bag (T : TX w K mg) : CalE P w K mg base 1 "_law_bag" [] (spBag K) := by
  refine cal_of T.fd_L_bag T.g_L_bag sc_L_bag b_L_bag (fun vs H Q E h => ?_) (fun cdv A outer s H vs Q E hr h => ?_)
  · obtain ⟨p, ns, rfl, _⟩ := h
    rfl
  obtain ⟨p, ns, rfl, hp, k⟩ := h
  have nd := sc_L_bag.nd
  refine ⟨_, (pss_cons (ps_set (i := 1) nd rfl (Or.inl rfl) pe_int)
      (pss_cons (ps_for (passes_of rfl) rfl (pi_list (pe_slice sl_list (pv 0) po_none (po_some pe_int))) (pg_name (i := 2) nd rfl (Or.inl rfl))
      (pss_one (ps_set (i := 1) nd rfl (Or.inl rfl) (pe_op op_mod (pe_op op_add (pe_op op_add (pe_op op_mul (pv 1) pe_int) (pv 2)) pe_int) pe_int))))
      (pss_one (ps_ret (pe_lst (pa_cons (pe_callTy call_list_of (by rfl) T.f_list (by decide +kernel) (pa_cons (pe_slice sl_list (pv 0) po_none (po_some pe_int)) pa_nil)) (pa_cons pe_int (pa_cons pe_int (pa_cons (pv 1) (pa_cons pe_int pa_nil)))))))))), ?_⟩
  simp only [tSeq, tDrop, tVar, tC, tCall, tCons, tNil, tFld, sFld, sDPut, tDGet, tRet, tRetN, tIfS, tTest, tB, tNot, tAnd, tOr, tOp, tUn, rI0, rI, tNext, tDIn, tDNotIn, tDNewK, tIf, tAndV, tOrV, tNotV, tAsg, gName, gCons, gNil, gTup, tPar, tTup, tLst, tMeth, tCB, rEq, rNe, tBM, rAppend, tBM0, tChain, rIxL, rIxT, rIxS, rIx, L2.start, cxK, cxW, kV_inr, List.map_cons, List.map_nil, List.length_cons, List.length_nil, List.replicate, List.cons_append, List.nil_append, List.append_nil, List.getElem?_cons_zero, List.getElem?_cons_succ, List.set_cons_zero, List.set_cons_succ, Option.some.injEq, V.ref.injEq, V.str.injEq, V.int.injEq, V.bl.injEq, exists_eq, exists_eq', exists_eq_left, exists_eq_left', exists_and_left, exists_and_right, List.cons.injEq, and_true, true_and, and_assoc]
  obtain ⟨cs, ec, lc⟩ : ∃ cs : List Int, cutV (ns.map V.int) none (some 63) = cs.map V.int ∧ cs.length ≤ 63 := by
    unfold cutV
    refine ⟨(ns.drop (HT.sIx (ns.map V.int).length 0 none)).take (HT.sIx (ns.map V.int).length (ns.map V.int).length (some 63) - HT.sIx (ns.map V.int).length 0 none), by rw [List.map_take, List.map_drop], ?_⟩
    rw [List.length_take]
    have h1 : HT.sIx (ns.map V.int).length (ns.map V.int).length (some 63) ≤ 63 := by
      unfold HT.sIx
      simp
      omega
    omega
  refine ⟨_, rfl, 63, rfl, p, _, rfl, hp, fun q hq => ?_⟩
  rw [ec]
  have s1 : Same H (upd H q (.lst (cs.map V.int))) := Same.up hq
  have hq1 : (upd H q (.lst (cs.map V.int))) q = some (.lst (cs.map V.int)) := upd_same
  generalize upd H q (.lst (cs.map V.int)) = H1 at *
  refine ⟨q, rfl, ⟨_, .inl (.inl hq1)⟩, ?_⟩
  refine for_it (D := ⟨_, _, fun _ _ => False, fun _ _ => False⟩) (walk_list (xs := cs.map V.int)) (fun i σ H' => H' = H1 ∧ ∃ (x : Int) (o : Option V), σ = [some (.ref p), some (.int x), o])
    ⟨rfl, 41, none, rfl⟩ (fun i σ H' _ z => by rw [z.1]; exact .inl (.inl hq1)) (fun i x σ H' H'' hi z y => ?_) (fun σ H' z => ?_)
  · obtain ⟨rfl, a, o, rfl⟩ := z
    obtain ⟨rfl, hx⟩ := y
    rw [List.getElem?_map] at hx
    rw [List.length_map] at hi
    rw [List.getElem?_eq_getElem hi] at hx
    have hx : V.int cs[i] = x := Option.some.inj hx
    subst hx
    simp only [tSeq, tDrop, tVar, tC, tCall, tCons, tNil, tFld, sFld, sDPut, tDGet, tRet, tRetN, tIfS, tTest, tB, tNot, tAnd, tOr, tOp, tUn, rI0, rI, tNext, tDIn, tDNotIn, tDNewK, tIf, tAndV, tOrV, tNotV, tAsg, gName, gCons, gNil, gTup, tPar, tTup, tLst, tMeth, tCB, rEq, rNe, tBM, rAppend, tBM0, tChain, rIxL, rIxT, rIxS, rIx, L2.start, cxK, cxW, kV_inr, List.map_cons, List.map_nil, List.length_cons, List.length_nil, List.replicate, List.cons_append, List.nil_append, List.append_nil, List.getElem?_cons_zero, List.getElem?_cons_succ, List.set_cons_zero, List.set_cons_succ, Option.some.injEq, V.ref.injEq, V.str.injEq, V.int.injEq, V.bl.injEq, exists_eq, exists_eq', exists_eq_left, exists_eq_left', exists_and_left, exists_and_right, List.cons.injEq, and_true, true_and, and_assoc]
    refine ⟨.inr ⟨by decide, by decide⟩, by omega⟩
  · obtain ⟨rfl, a, o, rfl⟩ := z
    simp only [tSeq, tDrop, tVar, tC, tCall, tCons, tNil, tFld, sFld, sDPut, tDGet, tRet, tRetN, tIfS, tTest, tB, tNot, tAnd, tOr, tOp, tUn, rI0, rI, tNext, tDIn, tDNotIn, tDNewK, tIf, tAndV, tOrV, tNotV, tAsg, gName, gCons, gNil, gTup, tPar, tTup, tLst, tMeth, tCB, rEq, rNe, tBM, rAppend, tBM0, tChain, rIxL, rIxT, rIxS, rIx, L2.start, cxK, cxW, kV_inr, List.map_cons, List.map_nil, List.length_cons, List.length_nil, List.replicate, List.cons_append, List.nil_append, List.append_nil, List.getElem?_cons_zero, List.getElem?_cons_succ, List.set_cons_zero, List.set_cons_succ, Option.some.injEq, V.ref.injEq, V.str.injEq, V.int.injEq, V.bl.injEq, exists_eq, exists_eq', exists_eq_left, exists_eq_left', exists_and_left, exists_and_right, List.cons.injEq, and_true, true_and, and_assoc, tSl, rSlL, tPart, tNoPart]
    refine ⟨_, SqL.same hp s1, fun r hr => ⟨_, .inl (.inl (.inl upd_same)), fun l hl => ⟨by rw [sizeLine_eq]; omega, fun b hb => ?_⟩⟩⟩
    rw [ec] at *
    obtain ⟨nl, lr⟩ := up_none hl
    obtain ⟨nb1, bl⟩ := up_none hb
    obtain ⟨nb, br⟩ := up_none nb1
    have s2 := Same.up (o := .lst (cs.map V.int)) hr
    have s3 := s2.trans (Same.up (o := .lst (cs.map V.int)) hl)
    have s4 := s3.trans (Same.up (o := .lst [.ref l, .int 0, .int 0, .int a, .int 0]) hb)
    have nn : ∀ {c : Addr}, H' c = none → H c = none := fun {c} e => by
      cases ec : H c with
      | none => rfl
      | some o => rw [s1 _ _ ec] at e; cases e
    refine k b l cs a _ (s1.trans s4) (nn nb) (nn nl) bl upd_same ?_ lc
    rw [upd_ne bl.symm, upd_same]
abbrev N_L_pick : List Str := ["_law_bag_here", "_law_there", "_law_names_here"]
theorem sc_L_pick : FnScope N_L_pick ["_law_bag_here", "_law_there", "_law_names_here"] (defScope s_L_pick) := ⟨rfl, rfl, rfl, by decide +kernel, rfl, by decide +kernel, by decide +kernel⟩
theorem b_L_pick : Bnd0 d_L_pick.name d_L_pick.qual d_L_pick.params d_L_pick.body d_L_pick.scope ["_law_bag_here", "_law_there", "_law_names_here"] := fun _ _ _ _ _ _ us hl => match us, hl with | [_, _, _], _ => rfl
theorem ok_L_pick (T : TX w K mg) : CalE P w K mg base 3 "_law_pick" [] spPick := by
  refine cal_of T.fd_L_pick T.g_L_pick sc_L_pick b_L_pick (fun vs H Q E h => ?_) (fun cdv A outer s H vs Q E hr h => ?_)
  · obtain ⟨M, b, L, p, q, zs, ws, rfl, _⟩ := h
    rfl
  obtain ⟨M, b, L, p, q, zs, ws, rfl, g, np, nq, hp, hq, lz, lw, l1, sz, sw, k⟩ := h
  have nd := sc_L_pick.nd
  refine ⟨_, (pss_cons (ps_if (pt_cmpR op_eq (pe_cal (ok_L_pull T) (hr.mono (by decide)) rfl passL (pa_cons (pv 0) (pa_cons pe_int pa_nil))) pe_int (nomark _))
      (pss_one (ps_ret (pe_cal (ok_L_of T) (hr.mono (by decide)) rfl passL (pa_cons (pv 0) (pa_cons (pe_lst (pa_cons pe_str (pa_cons pe_str (pa_cons pe_str (pa_cons pe_str (pa_cons pe_str pa_nil)))))) pa_nil)))))
      pss_nil)
      (pss_one (ps_ret (pe_ifExp (PW.pt (pw_and (pt_cmpR (op_neNil hr.units) (pv 1) (pe_lst pa_nil) (nomark _)) (pw_and1 (pt_cmpR op_gt (pe_cal (ok_L_pull T) (hr.mono (by decide)) rfl passL (pa_cons (pv 0) (pa_cons pe_int pa_nil))) pe_int (nomark _))))) (pe_cal (ok_L_of T) (hr.mono (by decide)) rfl passL (pa_cons (pv 0) (pa_cons (pv 1) pa_nil))) (pe_cal (ok_L_of T) (hr.mono (by decide)) rfl passL (pa_cons (pv 0) (pa_cons (pv 2) pa_nil))))))), ?_⟩
  simp only [tSeq, tDrop, tVar, tC, tCall, tCons, tNil, tFld, sFld, sDPut, tDGet, tRet, tRetN, tIfS, tTest, tB, tNot, tAnd, tOr, tOp, tUn, rI0, rI, tNext, tDIn, tDNotIn, tDNewK, tIf, tAndV, tOrV, tNotV, tAsg, gName, gCons, gNil, gTup, tPar, tTup, tLst, tMeth, tCB, rEq, rNe, tBM, rAppend, tBM0, tChain, rIxL, rIxT, rIxS, rIx, L2.start, cxK, cxW, kV_inr, List.map_cons, List.map_nil, List.length_cons, List.length_nil, List.replicate, List.cons_append, List.nil_append, List.append_nil, List.getElem?_cons_zero, List.getElem?_cons_succ, List.set_cons_zero, List.set_cons_succ, Option.some.injEq, V.ref.injEq, V.str.injEq, V.int.injEq, V.bl.injEq, exists_eq, exists_eq', exists_eq_left, exists_eq_left', exists_and_left, exists_and_right, List.cons.injEq, and_true, true_and, and_assoc, rNeNil]
  refine ⟨M, b, L, 14, rfl, g, by omega, by omega, fun i H1 i0 i1 d1 => ⟨rfl, ?_⟩⟩
  have fromL : ∀ (r : Addr) (us : List Str) (H2 : Hp), Dr M b L H H2 → r ∉ M → H2 r = some (.lst (us.map V.str)) → 0 < us.length → us.length < 900 → (∀ z ∈ us, z.length ≤ 300) → spOf [.ref b, .ref r] H2 Q E0 := fun r us H2 d nr hr l0 l1 su =>
    ⟨M, b, L, r, _, rfl, d.g, nr, hr, by rw [List.length_map]; exact l0, by rw [List.length_map]; omega, fun x H3 hx d3 => by
      obtain ⟨z, hz, rfl⟩ := List.mem_map.mp hx
      exact k z H3 (su z hz) (d.trans d3)⟩
  by_cases c : i = 0
  · rw [c, decide_eq_true rfl]
    refine iteT ⟨by rw [sizeLine_eq]; omega, fun r hr => ?_⟩
    obtain ⟨g2, nr, d2⟩ := d1.g.txt (xs := [V.str "", V.str "A", V.str "abcdefghi", V.str "a1", V.str "a b"]) hr
    exact fromL r ["", "A", "abcdefghi", "a1", "a b"] _ (d1.trans d2) nr upd_same (by simp) (by simp) (by decide)
  · rw [decide_eq_false (fun e => c (V.int.inj e))]
    refine iteF ⟨by rw [sizeLine_eq]; omega, fun r hr => ?_⟩
    have s1 : Same H1 (upd H1 r (.lst [])) := Same.up hr
    have d2 := d1.same s1
    have hp2 := d2.keep _ _ np hp
    have hq2 := d2.keep _ _ nq hq
    refine ⟨zs.map V.str, .inl (.inl hp2), .inl (.inl upd_same), ?_⟩
    generalize upd H1 r (.lst []) = H2 at *
    cases zs with
    | nil => exact iteF (iteF (fromL q ws H2 d2 nq hq2 l1 lw sw))
    | cons z r' =>
      refine iteT ⟨M, b, L, 8, rfl, d2.g, by omega, by omega, fun j H3 j0 j1 d3 => ⟨j, rfl, ?_⟩⟩
      have d4 := d2.trans d3
      exact ite2 (fun _ => fromL p (z :: r') H3 d4 np (d3.keep _ _ np hp2) (by simp) lz sz) fun _ => fromL q ws H3 d4 nq (d3.keep _ _ nq hq2) l1 lw sw
end
end K51


set_option Elab.async false
set_option linter.all false
set_option maxRecDepth 100000
set_option maxHeartbeats 4000000
namespace K51
open PySem PySem.Spec PyProof.Rows L2
/-! ### the law's state -/
structure LStA (M : List Addr) (H : Hp) (p d1 d2 : Addr) (k1 k2 : List (Key × V)) (st : St) : Prop where
  np : p ∉ M
  n1 : d1 ∉ M
  n2 : d2 ∉ M
  hp : H p = some (.tup [.ref d1, .ref d2])
  h1 : H d1 = some (.dK k1)
  h2 : H d2 = some (.dK k2)
  r1 : KR (fun v L => DA M H v (Lab.d L)) k1 st.labs
  r2 : KR (fun v w => DA M H v (Wish.d w)) k2 st.wishes
def LSt (M : List Addr) (H : Hp) (v : V) (st : St) : Prop := ∃ p d1 d2 k1 k2, v = .ref p ∧ LStA M H p d1 d2 k1 k2 st
theorem LStA.keep {M : List Addr} {H H' : Hp} {p d1 d2 : Addr} {k1 k2 : List (Key × V)} {st : St} (h : LStA M H p d1 d2 k1 k2 st) (k : Keep M H H') : LStA M H' p d1 d2 k1 k2 st :=
  ⟨h.np, h.n1, h.n2, k _ _ h.np h.hp, k _ _ h.n1 h.h1, k _ _ h.n2 h.h2, h.r1.imp fun v a r => DA.keep k r, h.r2.imp fun v a r => DA.keep k r⟩
theorem LSt.keep {M : List Addr} {H H' : Hp} {v : V} {st : St} (h : LSt M H v st) (k : Keep M H H') : LSt M H' v st := by
  obtain ⟨p, d1, d2, k1, k2, e, h⟩ := h
  exact ⟨p, d1, d2, k1, k2, e, h.keep k⟩
/-- no text in it is long -/
def T3 (z : Str) : Prop := z.length ≤ 300
def T3P (l : List (Str × Str)) : Prop := l.length ≤ 100 ∧ ∀ p ∈ l, T3 p.1 ∧ T3 p.2
structure T3L (L : Lab) : Prop where
  m : T3P L.ms
  r : T3P L.rs
  v : L.mv.length ≤ 100 ∧ ∀ v ∈ L.mv, T3 v.e
structure T3S (st : St) : Prop where
  l1 : st.labs.length ≤ 100
  l2 : st.wishes.length ≤ 100
  n1 : ∀ p ∈ st.labs, T3 p.1
  n2 : ∀ p ∈ st.wishes, T3 p.1
  ok : ∀ n L, getK n st.labs = some L → T3L L
theorem T3.short {z : Str} (h : T3 z) : Short z := Nat.le_trans h (by decide)
/-- a list of short texts at p, not empty -/
def TxL (M : List Addr) (H : Hp) (p : Addr) (ws : List Str) : Prop := p ∉ M ∧ H p = some (.lst (ws.map V.str)) ∧ ws.length < 900 ∧ ∀ z ∈ ws, z.length ≤ 300
theorem TxL.keep {M : List Addr} {H H' : Hp} {p : Addr} {ws : List Str} (t : TxL M H p ws) (k : Keep M H H') : TxL M H' p ws := ⟨t.1, k _ _ t.1 t.2.1, t.2.2⟩
theorem TxL.of {M : List Addr} {H : Hp} {p : Addr} {n : Nat} (t : Txts M H p n) (hn : n < 900) : ∃ ws, TxL M H p ws ∧ ws.length = n := by
  obtain ⟨np, zs, hz, hl, h⟩ := t
  exact ⟨zs, ⟨np, hz, by omega, fun z m => Nat.le_trans (h z m) (by decide)⟩, hl⟩
theorem pick_go {M : List Addr} {b L p q : Addr} {H : Hp} {zs ws : List Str} {Q : VK} {E : XK} (g : Bag M b L H) (t1 : TxL M H p zs) (t2 : TxL M H q ws) (h0 : 0 < ws.length) (k : ∀ z H', T3 z → Dr M b L H H' → Q (.str z) H') : spPick [.ref b, .ref p, .ref q] H Q E :=
  ⟨M, b, L, p, q, zs, ws, rfl, g, t1.1, t2.1, t1.2.1, t2.2.1, t1.2.2.1, t2.2.2.1, h0, t1.2.2.2, t2.2.2.2, fun z H' h d => k z H' h d⟩
def spDrawnAct : Sp := fun vs H Q _ => ∃ (M : List Addr) (b L q l : Addr) (rv : V) (rs : List (Str × Str)) (ws ls : List Str), vs = [.ref b, rv, .ref q, .ref l] ∧ Bag M b L H ∧ DA M H rv (.lst (rs.map pairD)) ∧ T3P rs ∧ TxL M H q ws ∧ 0 < ws.length ∧ TxL M H l ls ∧ 0 < ls.length ∧
  ∀ v (a : Act) H', Dr M b L H H' → DA M H' v a.d → a.Short → Q v H'
section
variable {P : Program} {w : World} {K : PySem.W.Frag} {mg : Str → Option Value} {base : Heap}
/-- [x for x, y in pairs] is a list of short texts -/
theorem pairs_txl {M : List Addr} {H H' : Hp} {D : Addr} {l : List (Str × Str)} {f : Str × Str → Str} (tM : Trk M H) (hD : H D = none) (h : H' D = some (.lst (l.map fun q => V.str (f q)))) (hl : l.length ≤ 100) (hf : ∀ q ∈ l, T3 (f q)) : TxL M H' D (l.map f) :=
  ⟨tM.new hD, by rw [h, List.map_map]; rfl, by rw [List.length_map]; omega, fun z hz => by
    obtain ⟨q, hq, rfl⟩ := List.mem_map.mp hz
    exact hf q hq⟩
abbrev N_L_drawn_act : List Str := ["_law_bag_here", "_law_rows", "_law_names_here", "_law_letters_here", "_law_kind", "_law_row", "_law_letter", "_law_name", "_law_word_here"]
theorem sc_L_drawn_act : FnScope N_L_drawn_act ["_law_bag_here", "_law_rows", "_law_names_here", "_law_letters_here"] (defScope s_L_drawn_act) := ⟨rfl, rfl, rfl, by decide +kernel, rfl, by decide +kernel, by decide +kernel⟩
theorem b_L_drawn_act : Bnd0 d_L_drawn_act.name d_L_drawn_act.qual d_L_drawn_act.params d_L_drawn_act.body d_L_drawn_act.scope ["_law_bag_here", "_law_rows", "_law_names_here", "_law_letters_here"] := fun _ _ _ _ _ _ us hl => match us, hl with | [_, _, _, _], _ => rfl
theorem ok_L_drawn_act (T : TX w K mg) : CalE P w K mg base 4 "_law_drawn_act" [] spDrawnAct := by
  refine cal_of T.fd_L_drawn_act T.g_L_drawn_act sc_L_drawn_act b_L_drawn_act (fun vs H Q E h => ?_) (fun cdv A outer s H vs Q E hr h => ?_)
  · obtain ⟨M, b, L, q, l, rv, rs, ws, ls, rfl, _⟩ := h
    rfl
  obtain ⟨M, b, L, q, l, rv, rs, ws, ls, rfl, g, dr, tr, tw, w0, tl, l0, k⟩ := h
  obtain ⟨rp, rx, rfl, nrp, hrp, drx⟩ := DA.lst_iff.mp dr
  have lrx : rx.length = rs.length := by rw [drx.length, List.length_map]
  have hr1 := tr.1
  have nd := sc_L_drawn_act.nd
  refine ⟨_, (pss_cons (ps_set (i := 4) nd rfl (Or.inl rfl) (pe_cal (ok_L_pull T) (hr.mono (by decide)) rfl passL (pa_cons (pv 0) (pa_cons pe_int pa_nil))))
      (pss_cons (ps_set (i := 5) nd rfl (Or.inl rfl) (pe_cal (ok_L_pick T) (hr.mono (by decide)) rfl passL (pa_cons (pv 0) (pa_cons (pe_lc (own := [("_law_name", 7), ("_law_word_here", 8)]) (by rfl) nd (pi_list (pv 1)) (blkOk_by (N := N_L_drawn_act) (sc := defScope s_L_drawn_act) (by decide +kernel)) (fun _ _ _ _ _ => (pg_tupK (K := K) rfl (n := 2) (by rfl) (pgs_cons (pg_name (i := 7) nd rfl (Or.inl rfl)) (pgs_cons (pg_name (i := 8) nd rfl (Or.inl rfl)) pgs_nil)))) (fun _ _ _ _ _ => pts_nil) (fun _ _ _ _ _ => (pv 7))) (pa_cons (pv 2) pa_nil)))))
      (pss_cons (ps_if (pt_cmpR op_eq (pv 4) pe_int (nomark _))
      (pss_one (ps_ret (pe_tup (pa_cons pe_str pa_nil))))
      pss_nil)
      (pss_cons (ps_if (pt_cmpR op_eq (pv 4) pe_int (nomark _))
      (pss_one (ps_ret (pe_tup (pa_cons pe_str (pa_cons (pv 5) pa_nil)))))
      pss_nil)
      (pss_cons (ps_set (i := 6) nd rfl (Or.inl rfl) (pe_ifExp (pt_cmpR op_gt (pe_cal (ok_L_pull T) (hr.mono (by decide)) rfl passL (pa_cons (pv 0) (pa_cons pe_int pa_nil))) pe_int (nomark _)) (pe_cal (ok_L_of T) (hr.mono (by decide)) rfl passL (pa_cons (pv 0) (pa_cons (pv 3) pa_nil))) (pe_cal (ok_L_of T) (hr.mono (by decide)) rfl passL (pa_cons (pv 0) (pa_cons (pe_lst (pa_cons pe_str (pa_cons pe_str (pa_cons pe_str pa_nil)))) pa_nil)))))
      (pss_one (ps_ret (pe_tup (pa_cons (pe_ix ix_list (pe_lst (pa_cons pe_str (pa_cons pe_str pa_nil))) (pe_op op_mod (pv 4) pe_int) (fun _ _ => rfl)) (pa_cons (pv 5) (pa_cons (pv 6) pa_nil))))))))))), ?_⟩
  simp only [tSeq, tDrop, tVar, tC, tCall, tCons, tNil, tFld, sFld, sDPut, tDGet, tRet, tRetN, tIfS, tTest, tB, tNot, tAnd, tOr, tOp, tUn, rI0, rI, tNext, tDIn, tDNotIn, tDNewK, tIf, tAndV, tOrV, tNotV, tAsg, gName, gCons, gNil, gTup, tPar, tTup, tLst, tMeth, tCB, rEq, rNe, tBM, rAppend, tBM0, tChain, rIxL, rIxT, rIxS, rIx, L2.start, cxK, cxW, kV_inr, List.map_cons, List.map_nil, List.length_cons, List.length_nil, List.replicate, List.cons_append, List.nil_append, List.append_nil, List.getElem?_cons_zero, List.getElem?_cons_succ, List.set_cons_zero, List.set_cons_succ, Option.some.injEq, V.ref.injEq, V.str.injEq, V.int.injEq, V.bl.injEq, exists_eq, exists_eq', exists_eq_left, exists_eq_left', exists_and_left, exists_and_right, List.cons.injEq, and_true, true_and, and_assoc]
  refine ⟨M, b, L, 10, rfl, g, by omega, by omega, fun kd H1 k0 k1 d1 => ?_⟩
  refine ⟨_, rfl, rp, rfl, ⟨rx, .inl (.inl (d1.keep _ _ nrp hrp))⟩, fun D1 hD1 => ?_⟩
  refine lc_vals (Qd := fun H' => _) (walk_list (xs := rx)) (rs.map fun q => V.str q.1) (by rw [List.length_map, lrx]) (by omega) hD1 (fun H' s' => .inl (.inl (s' _ _ (d1.keep _ _ nrp hrp)))) yAt_same gTup2_mono (fun i x y H2 H3 Kk hy s2 hx kk => ?_) (fun H2 s2 hl2 => ?_)
  · obtain ⟨rfl, hx⟩ := hx
    obtain ⟨q, t, hq, rfl, rfl, ht⟩ := pairs_at (drx.keep d1.keep) hx hy
    simp only [tSeq, tDrop, tVar, tC, tCall, tCons, tNil, tFld, sFld, sDPut, tDGet, tRet, tRetN, tIfS, tTest, tB, tNot, tAnd, tOr, tOp, tUn, rI0, rI, tNext, tDIn, tDNotIn, tDNewK, tIf, tAndV, tOrV, tNotV, tAsg, gName, gCons, gNil, gTup, tPar, tTup, tLst, tMeth, tCB, rEq, rNe, tBM, rAppend, tBM0, tChain, rIxL, rIxT, rIxS, rIx, L2.start, cxK, cxW, kV_inr, List.map_cons, List.map_nil, List.length_cons, List.length_nil, List.replicate, List.cons_append, List.nil_append, List.append_nil, List.getElem?_cons_zero, List.getElem?_cons_succ, List.set_cons_zero, List.set_cons_succ, Option.some.injEq, V.ref.injEq, V.str.injEq, V.int.injEq, V.bl.injEq, exists_eq, exists_eq', exists_eq_left, exists_eq_left', exists_and_left, exists_and_right, List.cons.injEq, and_true, true_and, and_assoc, wipe]
    exact ⟨_, .inl (.inl (s2 _ _ ht)), rfl, _, _, rfl, _, _, rfl, rfl, kk _ (Same.refl _)⟩
  have d2 := d1.same s2
  refine pick_go d2.g (pairs_txl d1.g.tr hD1 hl2 hr1 fun q hq => (tr.2 q hq).1) (tw.keep d2.keep) w0 fun z H3 hz d3 => ?_
  have d13 := d2.trans d3
  have last : ∀ (y : Str) (H5 : Hp), Dr M b L H H5 → T3 y → (0 + 1 + 1 ≤ sizeLine ∧ ∀ p : Addr, H5 p = none → ∃ i, V.int kd = V.int i ∧ (0 : Int) < 2 ∧ ∃ x1, SqL K (upd H5 p (.lst [.str "send", .str "take"])) p x1 ∧ ∃ x2, atI x1 (i % 2) = some x2 ∧ 0 + 1 + 1 + 1 ≤ sizeLine ∧
      ∀ p1 : Addr, upd H5 p (.lst [.str "send", .str "take"]) p1 = none → Q (.ref p1) (upd (upd H5 p (.lst [.str "send", .str "take"])) p1 (.tup [x2, .str z, .str y]))) := fun y H5 d5 hy => by
    refine ⟨by rw [sizeLine_eq]; omega, fun p hp => ⟨kd, rfl, by omega, _, .inl (.inl upd_same), ?_⟩⟩
    have dp := d5.same (Same.up (o := .lst [.str "send", .str "take"]) hp)
    have hz' : Short z := hz.short
    have hy' : Short y := hy.short
    have sh : ∀ {w : Str}, Short w → ∀ u ∈ [w, z, y], Short u := fun hw u hu => by
      simp at hu
      rcases hu with rfl | rfl | rfl
      · exact hw
      · exact hz'
      · exact hy'
    rcases (show kd % 2 = 0 ∨ kd % 2 = 1 by omega) with e | e
    · refine ⟨.str "send", by rw [e]; exact at_of (j := 0) rfl rfl, by rw [sizeLine_eq]; omega, fun p1 hp1 => k _ (.send z y) _ (dp.same (Same.up hp1)) ?_ (sh (show ("send" : Str).length ≤ 1000 by decide))⟩
      exact DA.tup_iff.mpr ⟨p1, _, rfl, dp.g.tr.new hp1, upd_same, DAs.of_strs ["send", z, y]⟩
    · refine ⟨.str "take", by rw [e]; exact at_of (j := 1) rfl rfl, by rw [sizeLine_eq]; omega, fun p1 hp1 => k _ (.take z y) _ (dp.same (Same.up hp1)) ?_ (sh (show ("take" : Str).length ≤ 1000 by decide))⟩
      exact DA.tup_iff.mpr ⟨p1, _, rfl, dp.g.tr.new hp1, upd_same, DAs.of_strs ["take", z, y]⟩
  refine ⟨rfl, ?_⟩
  by_cases c0 : kd = 0
  · rw [decide_eq_true (by rw [c0])]
    refine iteT ⟨by rw [sizeLine_eq]; omega, fun p hp => k _ .idle _ (d13.same (Same.up hp)) (DA.tup_iff.mpr ⟨p, _, rfl, d13.g.tr.new hp, upd_same, DAs.of_strs ["idle"]⟩) (fun u hu => ?_)⟩
    have e : u = "idle" := by simpa [Act.ss] using hu
    rw [e]
    exact show ("idle" : Str).length ≤ 1000 by decide
  rw [decide_eq_false (fun e => c0 (V.int.inj e))]
  refine iteF ⟨rfl, ?_⟩
  by_cases c1 : kd = 1
  · rw [decide_eq_true (by rw [c1])]
    refine iteT ⟨by rw [sizeLine_eq]; omega, fun p hp => k _ (.bare z) _ (d13.same (Same.up hp)) (DA.tup_iff.mpr ⟨p, _, rfl, d13.g.tr.new hp, upd_same, DAs.of_strs ["bare", z]⟩) (fun u hu => ?_)⟩
    have e : u = "bare" ∨ u = z := by simpa [Act.ss] using hu
    rcases e with e | e
    · rw [e]
      exact show ("bare" : Str).length ≤ 1000 by decide
    · rw [e]
      exact hz.short
  rw [decide_eq_false (fun e => c1 (V.int.inj e))]
  refine iteF ⟨M, b, L, 14, rfl, d13.g, by omega, by omega, fun j H4 j0 j1 d4 => ⟨j, rfl, ?_⟩⟩
  have d14 := d13.trans d4
  refine ite2 (fun _ => ?_) fun _ => ?_
  · have tl4 := tl.keep d14.keep
    refine ⟨M, b, L, l, _, rfl, d4.g, tl4.1, tl4.2.1, by rw [List.length_map]; exact l0, by rw [List.length_map]; have := tl.2.2.1; omega, fun x H5 hx d5 => ?_⟩
    obtain ⟨y, hy, rfl⟩ := List.mem_map.mp hx
    exact last y H5 (d14.trans d5) (tl.2.2.2 y hy)
  · refine ⟨by rw [sizeLine_eq]; omega, fun p hp => ?_⟩
    obtain ⟨g2, np, d2⟩ := d4.g.txt (xs := [V.str "", V.str "ab", V.str "A"]) hp
    refine ⟨M, b, L, p, _, rfl, g2, np, upd_same, by simp, by simp, fun x H5 hx d5 => ?_⟩
    obtain ⟨y, rfl, hy⟩ : ∃ y : Str, x = .str y ∧ T3 y := by
      simp at hx
      rcases hx with rfl | rfl | rfl
      · exact ⟨_, rfl, show ("" : Str).length ≤ 300 by decide⟩
      · exact ⟨_, rfl, show ("ab" : Str).length ≤ 300 by decide⟩
      · exact ⟨_, rfl, show ("A" : Str).length ≤ 300 by decide⟩
    exact last y H5 (d14.trans (d2.trans d5)) hy
end
end K51


set_option Elab.async false
set_option linter.all false
set_option maxRecDepth 100000
set_option maxHeartbeats 4000000
namespace K51
open PySem PySem.Spec PyProof.Rows L2
def cutL {α : Type} (xs : List α) (lo hi : Option Int) : List α := (xs.drop (HT.sIx xs.length 0 lo)).take (HT.sIx xs.length xs.length hi - HT.sIx xs.length 0 lo)
theorem cutV_strs (ws : List Str) (lo hi : Option Int) : cutV (ws.map V.str) lo hi = (cutL ws lo hi).map V.str := by
  unfold cutV cutL
  rw [List.length_map, List.map_take, List.map_drop]
theorem cutL_len {α : Type} (xs : List α) (lo hi : Option Int) : (cutL xs lo hi).length = min (HT.sIx xs.length xs.length hi - HT.sIx xs.length 0 lo) (xs.length - HT.sIx xs.length 0 lo) := by
  unfold cutL
  rw [List.length_take, List.length_drop]
theorem cutL_mem {α : Type} {xs : List α} {lo hi : Option Int} {x : α} (h : x ∈ cutL xs lo hi) : x ∈ xs := List.mem_of_mem_drop (List.mem_of_mem_take h)
theorem cut_txl {M : List Addr} {H : Hp} {q D : Addr} {ws : List Str} {lo hi : Option Int} (t : TxL M H q ws) (tM : Trk M H) (hD : H D = none) : TxL M (upd H D (.lst (cutV (ws.map V.str) lo hi))) D (cutL ws lo hi) := by
  refine ⟨tM.new hD, by rw [upd_same, cutV_strs], ?_, fun z hz => t.2.2.2 z (cutL_mem hz)⟩
  rw [cutL_len]
  have := t.2.2.1
  omega
theorem DA.lab3 {M : List Addr} {H : Hp} {v : V} {L : Lab} (h : DA M H v L.d) : ∃ p a b c xa xb xc, v = .ref p ∧ p ∉ M ∧ H p = some (.tup [.ref a, .ref b, .ref c]) ∧ a ∉ M ∧ b ∉ M ∧ c ∉ M ∧ H a = some (.lst xa) ∧ H b = some (.lst xb) ∧ H c = some (.lst xc) ∧ DAs M H xa (L.ms.map pairD) ∧ DAs M H xb (L.rs.map pairD) ∧ DAs M H xc (L.mv.map Mv.d) := by
  obtain ⟨p, xs, rfl, np, hp, d0⟩ := DA.tup_iff.mp h
  obtain ⟨x1, r1, rfl, g1, d1⟩ := DAs.cons_inv d0
  obtain ⟨x2, r2, rfl, g2, d2⟩ := DAs.cons_inv d1
  obtain ⟨x3, r3, rfl, g3, d3⟩ := DAs.cons_inv d2
  obtain rfl := DAs.nil_inv d3
  obtain ⟨a, xa, rfl, na, ha, da⟩ := DA.lst_iff.mp g1
  obtain ⟨b, xb, rfl, nb, hb, db⟩ := DA.lst_iff.mp g2
  obtain ⟨c, xc, rfl, nc, hc, dc⟩ := DA.lst_iff.mp g3
  exact ⟨p, a, b, c, xa, xb, xc, rfl, np, hp, na, nb, nc, ha, hb, hc, da, db, dc⟩
def spMoveDeed : Sp := fun vs H Q _ => ∃ (M : List Addr) (b L q l : Addr) (lv : V) (n : Str) (Lb : Lab) (ws ls : List Str), vs = [.ref b, .str n, lv, .ref q, .ref l] ∧ Bag M b L H ∧ DA M H lv Lb.d ∧ T3L Lb ∧ TxL M H q ws ∧ ws.length = 12 ∧ TxL M H l ls ∧ 0 < ls.length ∧
  ∀ v (m : Mv) H', Dr M b L H H' → DA M H' v (Deed.move n m).d → m.Short → Q v H'
section
variable {P : Program} {w : World} {K : PySem.W.Frag} {mg : Str → Option Value} {base : Heap}
abbrev N_L_move_deed : List Str := ["_law_bag_here", "_law_name", "_law_lists", "_law_names_here", "_law_letters_here", "_law_machine", "_law_some", "_law_start", "_law_end", "_law_pair"]
theorem sc_L_move_deed : FnScope N_L_move_deed ["_law_bag_here", "_law_name", "_law_lists", "_law_names_here", "_law_letters_here"] (defScope s_L_move_deed) := ⟨rfl, rfl, rfl, by decide +kernel, rfl, by decide +kernel, by decide +kernel⟩
theorem b_L_move_deed : Bnd0 d_L_move_deed.name d_L_move_deed.qual d_L_move_deed.params d_L_move_deed.body d_L_move_deed.scope ["_law_bag_here", "_law_name", "_law_lists", "_law_names_here", "_law_letters_here"] := fun _ _ _ _ _ _ us hl => match us, hl with | [_, _, _, _, _], _ => rfl
theorem ok_L_move_deed (T : TX w K mg) : CalE P w K mg base 5 "_law_move_deed" [] spMoveDeed := by
  refine cal_of T.fd_L_move_deed T.g_L_move_deed sc_L_move_deed b_L_move_deed (fun vs H Q E h => ?_) (fun cdv A outer s H vs Q E hr h => ?_)
  · obtain ⟨M, b, L, q, l, lv, n, Lb, ws, ls, rfl, _⟩ := h
    rfl
  obtain ⟨M, b, L, q, l, lv, n, Lb, ws, ls, rfl, g, dl, tl3, tw, w12, tl, l0, k⟩ := h
  obtain ⟨lp, la, lb, lc, xa, xb, xc, rfl, nlp, hlp, na, nb, nc, ha, hb, hc, da, db, dc⟩ := dl.lab3
  have lxa : xa.length = Lb.ms.length := by rw [da.length, List.length_map]
  have lm := tl3.m.1
  have nd := sc_L_move_deed.nd
  refine ⟨_, (pss_cons (ps_set (i := 5) nd rfl (Or.inl rfl) (pe_cal (ok_L_pick T) (hr.mono (by decide)) rfl passL (pa_cons (pv 0) (pa_cons (pe_lc (own := [("_law_pair", 9)]) (by rfl) nd (pi_list (pe_ix ix_tup (pv 2) pe_int (fun _ _ => rfl))) (blkOk_by (N := N_L_move_deed) (sc := defScope s_L_move_deed) (by decide +kernel)) (fun _ _ _ _ _ => (pg_name (i := 9) nd rfl (Or.inl rfl))) (fun _ _ _ _ _ => pts_nil) (fun _ _ _ _ _ => (pe_ix (ix_tupK (K := K) rfl) (pv 9) pe_int (fun _ _ => rfl)))) (pa_cons (pe_slice sl_list (pv 3) (po_some pe_int) (po_some pe_int)) pa_nil)))))
      (pss_cons (ps_set (i := 6) nd rfl (Or.inl rfl) (pe_op op_cat (pe_slice sl_list (pv 3) (po_some pe_int) po_none) (pe_lc (own := [("_law_pair", 9)]) (by rfl) nd (pi_list (pe_ix ix_tup (pv 2) pe_int (fun _ _ => rfl))) (blkOk_by (N := N_L_move_deed) (sc := defScope s_L_move_deed) (by decide +kernel)) (fun _ _ _ _ _ => (pg_name (i := 9) nd rfl (Or.inl rfl))) (fun _ _ _ _ _ => pts_nil) (fun _ _ _ _ _ => (pe_ix (ix_tupK (K := K) rfl) (pv 9) pe_int (fun _ _ => rfl))))))
      (pss_cons (ps_par (i := 7) (j := 8) (by rfl) nd rfl rfl (by decide) rfl rfl (pa_cons (pe_cal (ok_L_pick T) (hr.mono (by decide)) rfl passL (pa_cons (pv 0) (pa_cons (pv 6) (pa_cons (pv 3) pa_nil)))) (pa_cons (pe_cal (ok_L_pick T) (hr.mono (by decide)) rfl passL (pa_cons (pv 0) (pa_cons (pv 6) (pa_cons (pe_slice sl_list (pv 3) po_none (po_some pe_int)) pa_nil)))) pa_nil)) (by rfl))
      (pss_one (ps_ret (pe_tup (pa_cons pe_str (pa_cons (pv 1) (pa_cons (pv 5) (pa_cons (pv 7) (pa_cons (pe_cal (ok_L_drawn_act T) (hr.mono (by decide)) rfl passL (pa_cons (pv 0) (pa_cons (pe_ix ix_tup (pv 2) pe_int (fun _ _ => rfl)) (pa_cons (pe_slice sl_list (pv 3) (po_some pe_int) (po_some pe_int)) (pa_cons (pv 4) pa_nil))))) (pa_cons (pv 8) pa_nil)))))))))))), ?_⟩
  simp only [tSeq, tDrop, tVar, tC, tCall, tCons, tNil, tFld, sFld, sDPut, tDGet, tRet, tRetN, tIfS, tTest, tB, tNot, tAnd, tOr, tOp, tUn, rI0, rI, tNext, tDIn, tDNotIn, tDNewK, tIf, tAndV, tOrV, tNotV, tAsg, gName, gCons, gNil, gTup, tPar, tTup, tLst, tMeth, tCB, rEq, rNe, tBM, rAppend, tBM0, tChain, rIxL, rIxT, rIxS, rIx, L2.start, cxK, cxW, kV_inr, List.map_cons, List.map_nil, List.length_cons, List.length_nil, List.replicate, List.cons_append, List.nil_append, List.append_nil, List.getElem?_cons_zero, List.getElem?_cons_succ, List.set_cons_zero, List.set_cons_succ, Option.some.injEq, V.ref.injEq, V.str.injEq, V.int.injEq, V.bl.injEq, exists_eq, exists_eq', exists_eq_left, exists_eq_left', exists_and_left, exists_and_right, List.cons.injEq, and_true, true_and, and_assoc, tSl, rSlL, tPart, tNoPart, rCat]
  refine ⟨_, rfl, lp, _, 0, .ref la, rfl, rfl, .inl (.inl hlp), at_of (j := 0) rfl rfl, la, rfl, ⟨xa, .inl (.inl ha)⟩, fun D1 hD1 => ?_⟩
  refine lc_vals (Qd := fun H' => _) (walk_list (xs := xa)) (Lb.ms.map fun q => V.str q.1) (by rw [List.length_map, lxa]) (by omega) hD1 (fun H' s' => .inl (.inl (s' _ _ ha))) yAt_same gName_mono (fun i x y H2 H3 Kk hy s2 hx kk => ?_) (fun H2 s2 hl2 => ?_)
  · obtain ⟨rfl, hx⟩ := hx
    obtain ⟨q, t, hq, rfl, rfl, ht⟩ := pairs_at da hx hy
    simp only [tSeq, tDrop, tVar, tC, tCall, tCons, tNil, tFld, sFld, sDPut, tDGet, tRet, tRetN, tIfS, tTest, tB, tNot, tAnd, tOr, tOp, tUn, rI0, rI, tNext, tDIn, tDNotIn, tDNewK, tIf, tAndV, tOrV, tNotV, tAsg, gName, gCons, gNil, gTup, tPar, tTup, tLst, tMeth, tCB, rEq, rNe, tBM, rAppend, tBM0, tChain, rIxL, rIxT, rIxS, rIx, L2.start, cxK, cxW, kV_inr, List.map_cons, List.map_nil, List.length_cons, List.length_nil, List.replicate, List.cons_append, List.nil_append, List.append_nil, List.getElem?_cons_zero, List.getElem?_cons_succ, List.set_cons_zero, List.set_cons_succ, Option.some.injEq, V.ref.injEq, V.str.injEq, V.int.injEq, V.bl.injEq, exists_eq, exists_eq', exists_eq_left, exists_eq_left', exists_and_left, exists_and_right, List.cons.injEq, and_true, true_and, and_assoc, wipe]
    exact ⟨_, .inl (.inl (s2 _ _ ht)), .str q.1, at_of (j := 0) rfl rfl, kk _ (Same.refl _)⟩
  have d2 := (Dr.refl g).same s2
  have t2 := pairs_txl g.tr hD1 hl2 lm fun q hq => (tl3.m.2 q hq).1
  have tw2 := tw.keep d2.keep
  refine ⟨_, .inl (.inl tw2.2.1), fun D2 hD2 => ?_⟩
  have t3 := cut_txl (lo := some 4) (hi := some 7) tw2 d2.g.tr hD2
  have s3 := Same.up (o := .lst (cutV (ws.map V.str) (some 4) (some 7))) hD2
  have d3 := d2.same s3
  refine pick_go d3.g (t2.keep (Keep.of s3)) t3 (by rw [cutL_len, w12]; decide) fun z1 H4 hz1 d4 => ?_
  have d14 := d3.trans d4
  clear t3
  have tw4 := tw.keep d14.keep
  refine ⟨_, .inl (.inl tw4.2.1), fun D3 hD3 => ?_⟩
  have t5 := cut_txl (lo := some 10) (hi := none) tw4 d4.g.tr hD3
  have s5 := Same.up (o := .lst (cutV (ws.map V.str) (some 10) none)) hD3
  have d5 := d14.same s5
  generalize upd H4 D3 (.lst (cutV (ws.map V.str) (some 10) none)) = H5 at *
  have hlp5 := d5.keep _ _ nlp hlp
  have ha5 := d5.keep _ _ na ha
  refine ⟨_, rfl, lp, _, 0, .ref la, rfl, rfl, .inl (.inl hlp5), at_of (j := 0) rfl rfl, la, rfl, ⟨xa, .inl (.inl ha5)⟩, fun D4 hD4 => ?_⟩
  refine lc_vals (Qd := fun H' => _) (walk_list (xs := xa)) (Lb.ms.map fun q => V.str q.2) (by rw [List.length_map, lxa]) (by omega) hD4 (fun H' s' => .inl (.inl (s' _ _ ha5))) yAt_same gName_mono (fun i x y H6 H7 Kk hy s6 hx kk => ?_) (fun H6 s6 hl6 => ?_)
  · obtain ⟨rfl, hx⟩ := hx
    obtain ⟨q, t, hq, rfl, rfl, ht⟩ := pairs_at (da.keep d5.keep) hx hy
    simp only [tSeq, tDrop, tVar, tC, tCall, tCons, tNil, tFld, sFld, sDPut, tDGet, tRet, tRetN, tIfS, tTest, tB, tNot, tAnd, tOr, tOp, tUn, rI0, rI, tNext, tDIn, tDNotIn, tDNewK, tIf, tAndV, tOrV, tNotV, tAsg, gName, gCons, gNil, gTup, tPar, tTup, tLst, tMeth, tCB, rEq, rNe, tBM, rAppend, tBM0, tChain, rIxL, rIxT, rIxS, rIx, L2.start, cxK, cxW, kV_inr, List.map_cons, List.map_nil, List.length_cons, List.length_nil, List.replicate, List.cons_append, List.nil_append, List.append_nil, List.getElem?_cons_zero, List.getElem?_cons_succ, List.set_cons_zero, List.set_cons_succ, Option.some.injEq, V.ref.injEq, V.str.injEq, V.int.injEq, V.bl.injEq, exists_eq, exists_eq', exists_eq_left, exists_eq_left', exists_and_left, exists_and_right, List.cons.injEq, and_true, true_and, and_assoc, wipe]
    exact ⟨_, .inl (.inl (s6 _ _ ht)), .str q.2, at_of (j := 1) rfl rfl, kk _ (Same.refl _)⟩
  have d6 := d5.same s6
  have t6 := pairs_txl (f := fun q => q.2) d5.g.tr hD4 hl6 lm fun q hq => (tl3.m.2 q hq).2
  have t56 := t5.keep (Keep.of s6)
  refine ⟨D4, rfl, _, t56.2.1, _, t6.2.1, ?_, fun D5 hD5 => ?_⟩
  · have h1 := t56.2.2.1
    have h2 := t6.2.2.1
    rw [List.length_map, List.length_map, sizeLine_eq]
    omega
  have s7 := Same.up (o := .lst ((cutL ws (some 10) none).map V.str ++ (Lb.ms.map fun q => q.2).map V.str)) hD5
  have d7 := d6.same s7
  have t7 : TxL M (upd H6 D5 (.lst ((cutL ws (some 10) none).map V.str ++ (Lb.ms.map fun q => q.2).map V.str))) D5 (cutL ws (some 10) none ++ Lb.ms.map fun q => q.2) := by
    refine ⟨d6.g.tr.new hD5, by rw [upd_same, List.map_append], ?_, fun z hz => (List.mem_append.mp hz).elim (t56.2.2.2 z) (t6.2.2.2 z)⟩
    rw [List.length_append, cutL_len, List.length_map, w12]
    omega
  generalize upd H6 D5 (.lst ((cutL ws (some 10) none).map V.str ++ (Lb.ms.map fun q => q.2).map V.str)) = H7 at *
  refine pick_go d7.g t7 (tw.keep d7.keep) (by omega) fun z2 H8 hz2 d8 => ?_
  have d18 := d7.trans d8
  have tw8 := tw.keep d18.keep
  refine ⟨_, .inl (.inl tw8.2.1), fun D6 hD6 => ?_⟩
  have t9 := cut_txl (lo := none) (hi := some 2) tw8 d8.g.tr hD6
  have d9 := d18.same (Same.up (o := .lst (cutV (ws.map V.str) none (some 2))) hD6)
  have t79 := (t7.keep d8.keep).keep (Keep.of (Same.up (o := .lst (cutV (ws.map V.str) none (some 2))) hD6))
  refine pick_go d9.g t79 t9 (by rw [cutL_len, w12]; decide) fun z3 H10 hz3 d10 => ?_
  have dA := d9.trans d10
  have twA := tw.keep dA.keep
  refine ⟨_, .inl (.inl (dA.keep _ _ nlp hlp)), .ref lb, at_of (j := 1) rfl rfl, _, .inl (.inl twA.2.1), fun D7 hD7 => ?_⟩
  have tB := cut_txl (lo := some 7) (hi := some 10) twA dA.g.tr hD7
  have dB := dA.same (Same.up (o := .lst (cutV (ws.map V.str) (some 7) (some 10))) hD7)
  refine ⟨M, b, L, D7, l, .ref lb, Lb.rs, _, ls, rfl, dB.g, (DA.lst_iff.mpr ⟨lb, xb, rfl, nb, hb, db⟩ : DA M H (.ref lb) (.lst (Lb.rs.map pairD))).keep dB.keep, tl3.r, tB, by rw [cutL_len, w12]; decide, tl.keep dB.keep, l0, fun av a H11 d11 hav sa => ⟨by rw [sizeLine_eq]; omega, fun p hp => ?_⟩⟩
  have dC := dB.trans d11
  have sp := Same.up (o := .tup [.str "move", .str n, .str z1, .str z2, av, .str z3]) hp
  refine k _ ⟨z1, z2, a, z3⟩ _ (dC.same sp) ?_ ⟨hz1.short, hz2.short, sa, hz3.short⟩
  exact DA.tup_iff.mpr ⟨p, _, rfl, dC.g.tr.new hp, upd_same, DAs.cons (DA.str' _) (DAs.cons (DA.str' _) (DAs.cons (DA.str' _) (DAs.cons (DA.str' _) (DAs.cons (hav.keep (Keep.of sp)) (DAs.cons (DA.str' _) DAs.nil)))))⟩
end
end K51


set_option Elab.async false
set_option linter.all false
set_option maxRecDepth 100000
namespace K51
open PySem PySem.Spec PyProof.Rows L2
theorem big_div {n : Int} (h0 : 0 < n) (h1 : n < 100) : ¬ (((Str.ofString "a").length : Int) > (2 ^ 63 - 1) / n) := by
  have e : (Str.ofString "a").length = 1 := by decide
  rw [e]
  intro h
  have h3 : (2 ^ 63 - 1) / n < 1 := h
  have h4 := (Int.ediv_lt_iff_lt_mul h0).mp h3
  omega
theorem big_no {n : Int} (h0 : 0 < n) (h1 : n < 100) : (decide (n < -(2 ^ 63 : Int)) || decide (n ≥ 2 ^ 63)) = false := by
  rw [decide_eq_false (by omega), decide_eq_false (by omega)]
  rfl
theorem mul_5 : MulOk (Str.ofString "a") 5 := ⟨big_no (by omega) (by omega), fun _ _ => big_div (by omega) (by omega), fun _ _ => by decide +kernel⟩
theorem mlen_5 : (Txt.mul (Str.ofString "a") 5).length ≤ 1000 := by decide +kernel
theorem mul_9 : MulOk (Str.ofString "a") 9 := ⟨big_no (by omega) (by omega), fun _ _ => big_div (by omega) (by omega), fun _ _ => by decide +kernel⟩
theorem mlen_9 : (Txt.mul (Str.ofString "a") 9).length ≤ 1000 := by decide +kernel
theorem mul_8 : MulOk (Str.ofString "a") 8 := ⟨big_no (by omega) (by omega), fun _ _ => big_div (by omega) (by omega), fun _ _ => by decide +kernel⟩
theorem mlen_8 : (Txt.mul (Str.ofString "a") 8).length ≤ 1000 := by decide +kernel
end K51

set_option Elab.async false
set_option linter.all false
set_option maxRecDepth 100000
set_option maxHeartbeats 4000000
namespace K51
open PySem PySem.Spec PyProof.Rows L2
/-- a text, n times -/
def rMulS : R2 := fun x y H Q => ∃ (z : Str) (n : Int), x = .str z ∧ y = .int n ∧ MulOk z n ∧ Q (.str (PySem.Txt.mul z n)) H
theorem op_strmul {X : Cx} : OpR X (binaryOp .Mult) rMulS := by
  intro pins s σ H x y v u Q I rx ry h
  obtain ⟨z, n, rfl, rfl, ok, q⟩ := h
  obtain ⟨t, rfl⟩ := rx
  obtain ⟨t2, rfl⟩ := ry
  exact SB.mul ok fun t' k => ⟨.str _, H, I.tok _, ⟨_, rfl⟩, q⟩
theorem Bag.cons {M : List Addr} {b L S : Addr} {H H1 : Hp} (g : Bag M b L H) (n : H S = none) (s : Same H H1) (hS : ∃ o, H1 S = some o) : Bag (S :: M) b L H1 := by
  obtain ⟨cs, pos, pend, seed, cnt, h1, h2, h3⟩ := g.ex
  refine ⟨List.mem_cons_of_mem _ g.mb, ?_, fun a ha => ?_, cs, pos, pend, seed, cnt, s _ _ h1, s _ _ h2, h3⟩
  · intro z
    rcases List.mem_cons.mp z with e | e
    · rw [e, n] at h2
      cases h2
    · exact g.nL e
  · rcases List.mem_cons.mp ha with e | e
    · rw [e]; exact hS
    · exact g.tr.same s a e
theorem Bag.put {M : List Addr} {b L S : Addr} {H : Hp} {o : HO} (g : Bag M b L H) (m : S ∈ M) (n : S ≠ b) : Bag M b L (upd H S o) := by
  obtain ⟨cs, pos, pend, seed, cnt, h1, h2, h3⟩ := g.ex
  exact ⟨g.mb, g.nL, g.tr.at, cs, pos, pend, seed, cnt, by rw [upd_ne n.symm]; exact h1, by rw [upd_ne (fun z => g.nL (by rw [z]; exact m))]; exact h2, h3⟩
theorem Bag.sub {M N : List Addr} {b L : Addr} {H : Hp} (g : Bag N b L H) (h : ∀ a ∈ M, a ∈ N) (mb : b ∈ M) : Bag M b L H := ⟨mb, fun z => g.nL (h _ z), fun a ha => g.tr a (h a ha), g.ex⟩
theorem TxL.fresh {M : List Addr} {H : Hp} {p S : Addr} {ws : List Str} (t : TxL M H p ws) (n : H S = none) : TxL (S :: M) H p ws := ⟨by simp; exact ⟨ne_of_none t.2.1 n, t.1⟩, t.2⟩
theorem Txts.fresh {M : List Addr} {H : Hp} {p S : Addr} {k : Nat} (t : Txts M H p k) (n : H S = none) : Txts (S :: M) H p k := by
  obtain ⟨np, zs, hz, r⟩ := t
  exact ⟨by simp; exact ⟨ne_of_none hz n, np⟩, zs, hz, r⟩
theorem T3P.short {l : List (Str × Str)} (h : T3P l) : ShortP l := ⟨by have := h.1; omega, fun p hp => ⟨(h.2 p hp).1.short, (h.2 p hp).2.short⟩⟩
/-- pairs of short texts -/
def PairsAt (M : List Addr) (H : Hp) (xs : List V) (n : Nat) : Prop := ∃ l : List (Str × Str), DAs M H xs (l.map pairD) ∧ l.length ≤ n ∧ ∀ p ∈ l, Short p.1 ∧ Short p.2
theorem PairsAt.keep {M : List Addr} {H H' : Hp} {xs : List V} {n : Nat} (h : PairsAt M H xs n) (k : Keep M H H') : PairsAt M H' xs n := let ⟨l, a, r⟩ := h; ⟨l, a.keep k, r⟩
theorem PairsAt.snoc {M : List Addr} {H : Hp} {xs : List V} {n : Nat} {p : Addr} {x y : Str} (h : PairsAt M H xs n) (np : p ∉ M) (hp : H p = some (.tup [.str x, .str y])) (hx : Short x) (hy : Short y) : PairsAt M H (xs ++ [.ref p]) (n + 1) := by
  obtain ⟨l, a, hl, hs⟩ := h
  refine ⟨l ++ [(x, y)], ?_, by rw [List.length_append]; simp; omega, fun q hq => ?_⟩
  · rw [List.map_append]
    exact a.append (DAs.cons (DA.tup2' np hp) DAs.nil)
  · rcases List.mem_append.mp hq with e | e
    · exact hs q e
    · have e : q = (x, y) := by simpa using e
      rw [e]
      exact ⟨hx, hy⟩
theorem pairs_all {N : List Addr} {H : Hp} : ∀ {acc : List V}, (∀ y ∈ acc, ∃ t : Str × Str, DA N H y (pairD t) ∧ Short t.1 ∧ Short t.2) → ∃ l : List (Str × Str), DAs N H acc (l.map pairD) ∧ l.length = acc.length ∧ ∀ p ∈ l, Short p.1 ∧ Short p.2
  | [], _ => ⟨[], DAs.nil, rfl, fun p h => by cases h⟩
  | y :: r, h => by
    obtain ⟨t, a, b⟩ := h y (by simp)
    obtain ⟨l, a', b', c'⟩ := pairs_all (acc := r) fun u hu => h u (by simp [hu])
    refine ⟨t :: l, DAs.cons a a', by simp [b'], fun p hp => ?_⟩
    rcases List.mem_cons.mp hp with e | e
    · rw [e]; exact b
    · exact c' p e
def spWishDeed : Sp := fun vs H Q _ => ∃ (M : List Addr) (b L q l : Addr) (sv : V) (st : St) (ws : List Str), vs = [.ref b, sv, .ref q, .ref l] ∧ Bag M b L H ∧ LSt M H sv st ∧ T3S st ∧ TxL M H q ws ∧ ws.length = 12 ∧ Txts M H l 3 ∧
  ∀ v (n : Str) (wi : Wish) H', Dr M b L H H' → DA M H' v (Deed.wish n wi).d → (Deed.wish n wi).Short → Q v H'
section
variable {P : Program} {w : World} {K : PySem.W.Frag} {mg : Str → Option Value} {base : Heap}
/-- labs.get(name, ([], [], [])) -/
theorem lab_get {M : List Addr} {b L : Addr} {H : Hp} {d : Addr} {kvs : List (Key × V)} {labs : List (Str × Lab)} {z : Str} (g : Bag M b L H) (hd : H d = some (.dK kvs)) (r : KR (fun v L => DA M H v (Lab.d L)) kvs labs) (ok : ∀ n L, getK n labs = some L → T3L L) :
    ∀ p1 : Addr, H p1 = none → ∀ p2 : Addr, (upd H p1 (.lst [])) p2 = none → ∀ p3 : Addr, (upd (upd H p1 (.lst [])) p2 (.lst [])) p3 = none → ∀ p4 : Addr, (upd (upd (upd H p1 (.lst [])) p2 (.lst [])) p3 (.lst [])) p4 = none →
      ∃ o Lb, DGet (upd (upd (upd (upd H p1 (.lst [])) p2 (.lst [])) p3 (.lst [])) p4 (.tup [.ref p1, .ref p2, .ref p3])) d (.str z) o ∧ DA M (upd (upd (upd (upd H p1 (.lst [])) p2 (.lst [])) p3 (.lst [])) p4 (.tup [.ref p1, .ref p2, .ref p3])) (o.getD (.ref p4)) (Lab.d Lb) ∧ T3L Lb ∧
        Same H (upd (upd (upd (upd H p1 (.lst [])) p2 (.lst [])) p3 (.lst [])) p4 (.tup [.ref p1, .ref p2, .ref p3])) := by
  intro p1 h1 p2 h2 p3 h3 p4 h4
  have s1 := Same.up (o := .lst []) h1
  have s2 := Same.up (o := .lst []) h2
  have s3 := Same.up (o := .lst []) h3
  have s4 := Same.up (o := .tup [.ref p1, .ref p2, .ref p3]) h4
  have sA := ((s1.trans s2).trans s3).trans s4
  cases e : getK z labs with
  | some Lb =>
    obtain ⟨v, ev, rv⟩ := (r.val z).1 Lb e
    exact ⟨some v, Lb, by rw [← ev]; exact DGet.k (k := .inr z) (sA _ _ hd), rv.keep (Keep.of sA), ok z Lb e, sA⟩
  | none =>
    have ev := (r.val z).2 e
    refine ⟨none, ⟨[], [], []⟩, by rw [← ev]; exact DGet.k (k := .inr z) (sA _ _ hd), ?_, ⟨⟨by simp, by simp⟩, ⟨by simp, by simp⟩, by simp, by simp⟩, sA⟩
    have t1 := g.tr
    have n1 := t1.new h1
    have n2 := (t1.same s1).new h2
    have n3 := ((t1.same s1).same s2).new h3
    have n4 := (((t1.same s1).same s2).same s3).new h4
    exact DA.tup_iff.mpr ⟨p4, _, rfl, n4, upd_same, DAs.cons (DA.lst_iff.mpr ⟨p1, [], rfl, n1, s4 _ _ (s3 _ _ (s2 _ _ upd_same)), DAs.nil⟩) (DAs.cons (DA.lst_iff.mpr ⟨p2, [], rfl, n2, s4 _ _ (s3 _ _ upd_same), DAs.nil⟩) (DAs.cons (DA.lst_iff.mpr ⟨p3, [], rfl, n3, s4 _ _ upd_same, DAs.nil⟩) DAs.nil))⟩
/-- while the stands' list S and the words' list W are filled (n: how many they may hold) -/
structure WS (N : List Addr) (b L S W q : Addr) (ws : List Str) (H0 H : Hp) (n : Nat) : Prop where
  k : Keep [b, S, W] H0 H
  g : Bag N b L H
  xs : ∃ xs, H S = some (.lst xs) ∧ PairsAt N H xs n
  ys : ∃ ys, H W = some (.lst ys) ∧ PairsAt N H ys n
  tw : TxL N H q ws
theorem WS.dr {N : List Addr} {b L S W q : Addr} {ws : List Str} {H0 H H1 : Hp} {n : Nat} (h : WS N b L S W q ws H0 H n) (d : Dr N b L H H1) (nS : S ≠ b) (nW : W ≠ b) : WS N b L S W q ws H0 H1 n := by
  obtain ⟨xs, h1, h2⟩ := h.xs
  obtain ⟨ys, h3, h4⟩ := h.ys
  exact ⟨h.k.trans (d.k.sub (by simp)), d.g, ⟨xs, d.k _ _ (by simp; exact nS) h1, h2.keep d.keep⟩, ⟨ys, d.k _ _ (by simp; exact nW) h3, h4.keep d.keep⟩, h.tw.keep d.keep⟩
theorem PairsAt.le {M : List Addr} {H : Hp} {xs : List V} {n m : Nat} (h : PairsAt M H xs n) (l : n ≤ m) : PairsAt M H xs m := let ⟨a, b, c, d⟩ := h; ⟨a, b, Nat.le_trans c l, d⟩
theorem PairsAt.len {M : List Addr} {H : Hp} {xs : List V} {n : Nat} (h : PairsAt M H xs n) : xs.length ≤ n := by
  obtain ⟨l, a, hl, _⟩ := h
  rw [a.length, List.length_map]
  exact hl
/-- one more pair for S -/
theorem WS.addS {N : List Addr} {b L S W q : Addr} {ws : List Str} {H0 H : Hp} {n : Nat} {p : Addr} {x y : Str} (h : WS N b L S W q ws H0 H n) (hp : H p = none) (hx : Short x) (hy : Short y) (mS : S ∈ N) (nS : S ≠ b) (nW : W ≠ S) :
    ∃ xs, (upd H p (.tup [.str x, .str y])) S = some (.lst xs) ∧ xs.length ≤ n ∧ WS N b L S W q ws H0 (upd (upd H p (.tup [.str x, .str y])) S (.lst (xs ++ [.ref p]))) (n + 1) := by
  obtain ⟨xs, h1, h2⟩ := h.xs
  obtain ⟨ys, h3, h4⟩ := h.ys
  have sp := Same.up (o := .tup [.str x, .str y]) hp
  have kS : Keep N (upd H p (.tup [.str x, .str y])) (upd (upd H p (.tup [.str x, .str y])) S (.lst (xs ++ [.ref p]))) := Keep.at mS
  have px := ((h2.keep (Keep.of sp)).snoc (h.g.tr.new hp) upd_same hx hy).keep kS
  exact ⟨xs, sp _ _ h1, h2.len, (h.k.trans (Keep.of sp)).trans (Keep.at (by simp)), (h.g.same sp).put mS nS, ⟨_, upd_same, px⟩, ⟨ys, by rw [upd_ne nW]; exact sp _ _ h3, ((h4.keep (Keep.of sp)).keep kS).le (Nat.le_succ n)⟩, (h.tw.keep (Keep.of sp)).keep kS⟩
theorem WS.addW {N : List Addr} {b L S W q : Addr} {ws : List Str} {H0 H : Hp} {n : Nat} {p : Addr} {x y : Str} (h : WS N b L S W q ws H0 H n) (hp : H p = none) (hx : Short x) (hy : Short y) (mW : W ∈ N) (nW : W ≠ b) (nS : S ≠ W) :
    ∃ xs, (upd H p (.tup [.str x, .str y])) W = some (.lst xs) ∧ xs.length ≤ n ∧ WS N b L S W q ws H0 (upd (upd H p (.tup [.str x, .str y])) W (.lst (xs ++ [.ref p]))) (n + 1) := by
  obtain ⟨xs, h1, h2⟩ := h.xs
  obtain ⟨ys, h3, h4⟩ := h.ys
  have sp := Same.up (o := .tup [.str x, .str y]) hp
  have kS : Keep N (upd H p (.tup [.str x, .str y])) (upd (upd H p (.tup [.str x, .str y])) W (.lst (ys ++ [.ref p]))) := Keep.at mW
  have px := ((h4.keep (Keep.of sp)).snoc (h.g.tr.new hp) upd_same hx hy).keep kS
  exact ⟨ys, sp _ _ h3, h4.len, (h.k.trans (Keep.of sp)).trans (Keep.at (by simp)), (h.g.same sp).put mW nW, ⟨xs, by rw [upd_ne nS]; exact sp _ _ h1, ((h2.keep (Keep.of sp)).keep kS).le (Nat.le_succ n)⟩, ⟨_, upd_same, px⟩, (h.tw.keep (Keep.of sp)).keep kS⟩
theorem stepS {K : PySem.W.Frag} {N : List Addr} {b L S W q : Addr} {ws : List Str} {H0 H : Hp} {n : Nat} {Nx bk ct : L2.St → Hp → Prop} {rt : VK} {σ : L2.St} (e0 : σ[0]? = some (some (.ref b))) (e2 : σ[2]? = some (some (.ref q))) (e8 : σ[8]? = some (some (.ref S)))
    (h : WS N b L S W q ws H0 H n) (mS : S ∈ N) (nS : S ≠ b) (nW : W ≠ b) (nWS : W ≠ S) (hn : n < 1000) (w0 : 0 < ws.length) (k : ∀ H', WS N b L S W q ws H0 H' (n + 1) → Nx σ H') :
    tIfS (tTest (tOp rEq (tCall spPull [] E0 (tCons (tVar 0) (tCons (tC (.int 9)) tNil))) (tC (.int 0)))) (tDrop (tBM K "list" rAppend (tVar 8) (tCons (tTup (tCons (tCall spOf [] E0 (tCons (tVar 0) (tCons (tVar 2) tNil))) (tCons (tC (.str "a")) tNil))) tNil))) tNext ⟨Nx, rt, bk, ct⟩ σ H := by
  simp only [tSeq, tDrop, tVar, tC, tCall, tCons, tNil, tFld, sFld, sDPut, tDGet, tRet, tRetN, tIfS, tTest, tB, tNot, tAnd, tOr, tOp, tUn, rI0, rI, tNext, tDIn, tDNotIn, tDNewK, tIf, tAndV, tOrV, tNotV, tAsg, gName, gCons, gNil, gTup, tPar, tTup, tLst, tMeth, tCB, rEq, rNe, tBM, rAppend, tBM0, tChain, rIxL, rIxT, rIxS, rIx, L2.start, cxK, cxW, kV_inr, List.map_cons, List.map_nil, List.length_cons, List.length_nil, List.replicate, List.cons_append, List.nil_append, List.append_nil, List.getElem?_cons_zero, List.getElem?_cons_succ, List.set_cons_zero, List.set_cons_succ, Option.some.injEq, V.ref.injEq, V.str.injEq, V.int.injEq, V.bl.injEq, exists_eq, exists_eq', exists_eq_left, exists_eq_left', exists_and_left, exists_and_right, List.cons.injEq, and_true, true_and, and_assoc, e0, e2, e8]
  refine ⟨N, b, L, 9, rfl, h.g, by omega, by omega, fun j H1 j0 j1 d1 => ⟨rfl, ?_⟩⟩
  have h1 := h.dr d1 nS nW
  obtain ⟨xs1, hx1, _⟩ := h1.xs
  by_cases c : j = 0
  · rw [decide_eq_true (by rw [c])]
    refine iteT ⟨.inl ⟨rfl, xs1, .inl (.inl hx1)⟩, N, b, L, q, _, rfl, h1.g, h1.tw.1, h1.tw.2.1, by rw [List.length_map]; exact w0, by rw [List.length_map]; have := h1.tw.2.2.1; omega, fun x H2 hx d2 => ⟨by rw [sizeLine_eq]; omega, fun p hp => ?_⟩⟩
    obtain ⟨z, hz, rfl⟩ := List.mem_map.mp hx
    have h2 := h1.dr d2 nS nW
    obtain ⟨xs, e1, e3, e4⟩ := h2.addS (x := z) (y := "a") hp (T3.short (h1.tw.2.2.2 z hz)) (show ("a" : Str).length ≤ 1000 by decide) mS nS nWS
    exact ⟨xs, e1, by rw [sizeLine_eq]; omega, k _ e4⟩
  · rw [decide_eq_false (fun e => c (V.int.inj e))]
    obtain ⟨xs, a1, a2⟩ := h1.xs
    obtain ⟨ys, a3, a4⟩ := h1.ys
    exact iteF (k _ ⟨h1.k, h1.g, ⟨xs, a1, a2.le (Nat.le_succ n)⟩, ⟨ys, a3, a4.le (Nat.le_succ n)⟩, h1.tw⟩)
theorem stepW {K : PySem.W.Frag} {N : List Addr} {b L S W q : Addr} {ws : List Str} {H0 H : Hp} {n : Nat} {Nx bk ct : L2.St → Hp → Prop} {rt : VK} {σ : L2.St} (e0 : σ[0]? = some (some (.ref b))) (e2 : σ[2]? = some (some (.ref q))) (e11 : σ[11]? = some (some (.ref W)))
    (h : WS N b L S W q ws H0 H n) (mW : W ∈ N) (nS : S ≠ b) (nW : W ≠ b) (nSW : S ≠ W) (hn : n < 1000) (w12 : ws.length = 12) (k : ∀ H', WS N b L S W q ws H0 H' (n + 1) → Nx σ H') :
    tIfS (tTest (tOp rEq (tCall spPull [] E0 (tCons (tVar 0) (tCons (tC (.int 9)) tNil))) (tC (.int 0)))) (tDrop (tBM K "list" rAppend (tVar 11) (tCons (tTup (tCons (tCall spOf [] E0 (tCons (tVar 0) (tCons (tSl (rSlL K) (tVar 2) (tPart (tC (.int 7))) (tPart (tC (.int 10)))) tNil)))
      (tCons (tCall spOf [] E0 (tCons (tVar 0) (tCons (tLst (tCons (tOp rMulS (tC (.str "a")) (tC (.int 5))) (tCons (tC (.str "A"))
        (tCons (tOp rMulS (tC (.str "a")) (tC (.int 9))) (tCons (tOp rMulS (tC (.str "a")) (tC (.int 8))) tNil))))) tNil))) tNil))) tNil))) tNext ⟨Nx, rt, bk, ct⟩ σ H := by
  simp only [tSeq, tDrop, tVar, tC, tCall, tCons, tNil, tFld, sFld, sDPut, tDGet, tRet, tRetN, tIfS, tTest, tB, tNot, tAnd, tOr, tOp, tUn, rI0, rI, tNext, tDIn, tDNotIn, tDNewK, tIf, tAndV, tOrV, tNotV, tAsg, gName, gCons, gNil, gTup, tPar, tTup, tLst, tMeth, tCB, rEq, rNe, tBM, rAppend, tBM0, tChain, rIxL, rIxT, rIxS, rIx, L2.start, cxK, cxW, kV_inr, List.map_cons, List.map_nil, List.length_cons, List.length_nil, List.replicate, List.cons_append, List.nil_append, List.append_nil, List.getElem?_cons_zero, List.getElem?_cons_succ, List.set_cons_zero, List.set_cons_succ, Option.some.injEq, V.ref.injEq, V.str.injEq, V.int.injEq, V.bl.injEq, exists_eq, exists_eq', exists_eq_left, exists_eq_left', exists_and_left, exists_and_right, List.cons.injEq, and_true, true_and, and_assoc, e0, e2, e11, tSl, rSlL, tPart, rMulS]
  refine ⟨N, b, L, 9, rfl, h.g, by omega, by omega, fun j H1 j0 j1 d1 => ⟨rfl, ?_⟩⟩
  have h1 := h.dr d1 nS nW
  by_cases c : j = 0
  · rw [decide_eq_true (by rw [c])]
    obtain ⟨ys1, hy1, _⟩ := h1.ys
    refine iteT ⟨.inl ⟨rfl, ys1, .inl (.inl hy1)⟩, _, .inl (.inl h1.tw.2.1), fun p hp => ?_⟩
    have tc := cut_txl (lo := some 7) (hi := some 10) h1.tw h1.g.tr hp
    have h2 := h1.dr ((Dr.refl h1.g).same (Same.up (o := .lst (cutV (ws.map V.str) (some 7) (some 10))) hp)) nS nW
    refine ⟨N, b, L, p, _, rfl, h2.g, tc.1, tc.2.1, by rw [List.length_map, cutL_len, w12]; decide, by rw [List.length_map]; have := tc.2.2.1; omega, fun x H3 hx d3 => ?_⟩
    obtain ⟨z, hz, rfl⟩ := List.mem_map.mp hx
    have h3 := h2.dr d3 nS nW
    have m5 : MulOk (Str.ofString "a") 5 := mul_5
    have m9 : MulOk (Str.ofString "a") 9 := mul_9
    have m8 : MulOk (Str.ofString "a") 8 := mul_8
    refine ⟨m5, m9, m8, by rw [sizeLine_eq]; omega, fun p2 hp2 => ?_⟩
    obtain ⟨g4, np4, d4⟩ := h3.g.txt (xs := [V.str (Txt.mul (Str.ofString "a") 5), V.str "A", V.str (Txt.mul (Str.ofString "a") 9), V.str (Txt.mul (Str.ofString "a") 8)]) hp2
    have h4 := h3.dr d4 nS nW
    refine ⟨N, b, L, p2, _, rfl, g4, np4, upd_same, by simp, by simp, fun x H5 hx d5 => ⟨by rw [sizeLine_eq]; omega, fun p3 hp3 => ?_⟩⟩
    have h5 := h4.dr d5 nS nW
    obtain ⟨y, rfl, hy⟩ : ∃ y : Str, x = .str y ∧ Short y := by
      simp at hx
      rcases hx with rfl | rfl | rfl | rfl
      · exact ⟨_, rfl, mlen_5⟩
      · exact ⟨_, rfl, show ("A" : Str).length ≤ 1000 by decide⟩
      · exact ⟨_, rfl, mlen_9⟩
      · exact ⟨_, rfl, mlen_8⟩
    obtain ⟨xs, e1, e3, e4⟩ := h5.addW (x := z) (y := y) hp3 (T3.short (tc.2.2.2 z hz)) hy mW nW nSW
    exact ⟨xs, e1, by rw [sizeLine_eq]; omega, k _ e4⟩
  · rw [decide_eq_false (fun e => c (V.int.inj e))]
    obtain ⟨xs, a1, a2⟩ := h1.xs
    obtain ⟨ys, a3, a4⟩ := h1.ys
    exact iteF (k _ ⟨h1.k, h1.g, ⟨xs, a1, a2.le (Nat.le_succ n)⟩, ⟨ys, a3, a4.le (Nat.le_succ n)⟩, h1.tw⟩)
abbrev N_L_wish_deed : List Str := ["_law_bag_here", "_law_state", "_law_names_here", "_law_letters_here", "_law_name", "_law_machines", "_law_rows", "_law_moves", "_law_stands", "_law_machine", "_law_first", "_law_words", "_law_fresh", "_law_move", "_law_row", "_law_word_here"]
theorem sc_L_wish_deed : FnScope N_L_wish_deed ["_law_bag_here", "_law_state", "_law_names_here", "_law_letters_here"] (defScope s_L_wish_deed) := ⟨rfl, rfl, rfl, by decide +kernel, rfl, by decide +kernel, by decide +kernel⟩
theorem b_L_wish_deed : Bnd0 d_L_wish_deed.name d_L_wish_deed.qual d_L_wish_deed.params d_L_wish_deed.body d_L_wish_deed.scope ["_law_bag_here", "_law_state", "_law_names_here", "_law_letters_here"] := fun _ _ _ _ _ _ us hl => match us, hl with | [_, _, _, _], _ => rfl
theorem ok_L_wish_deed (T : TX w K mg) : CalE P w K mg base 4 "_law_wish_deed" [] spWishDeed := by
  refine cal_of T.fd_L_wish_deed T.g_L_wish_deed sc_L_wish_deed b_L_wish_deed (fun vs H Q E h => ?_) (fun cdv A outer s H vs Q E hr h => ?_)
  · obtain ⟨M, b, L, q, l, sv, st, ws, rfl, _⟩ := h
    rfl
  obtain ⟨M, b, L, q, l, sv, st, ws, rfl, g, ⟨p, d1, d2, k1, k2, rfl, ls⟩, t3, tw, w12, tl, k⟩ := h
  have nd := sc_L_wish_deed.nd
  have hu := hu_of hr
  refine ⟨_, (pss_cons (ps_set (i := 4) nd rfl (Or.inl rfl) (pe_cal (ok_L_pick T) (hr.mono (by decide)) rfl passL (pa_cons (pv 0) (pa_cons (pe_callTy (call_listD rfl) (by rfl) T.f_list (by decide +kernel) (pa_cons (pe_ix ix_tup (pv 1) pe_int (fun _ _ => rfl)) pa_nil)) (pa_cons (pe_slice sl_list (pv 2) po_none (po_some pe_int)) pa_nil)))))
      (pss_cons (ps_asg (pe_dget2 hu (pe_ix ix_tup (pv 1) pe_int (fun _ _ => rfl)) (pv 4) (pe_tup (pa_cons (pe_lst pa_nil) (pa_cons (pe_lst pa_nil) (pa_cons (pe_lst pa_nil) pa_nil)))) ⟨rfl, rfl, rfl, rfl⟩) (pg_tup (n := 3) (by rfl) (pgs_cons (pg_name (i := 5) nd rfl (Or.inl rfl)) (pgs_cons (pg_name (i := 6) nd rfl (Or.inl rfl)) (pgs_cons (pg_name (i := 7) nd rfl (Or.inl rfl)) pgs_nil)))))
      (pss_cons (ps_set (i := 8) nd rfl (Or.inl rfl) (pe_lst pa_nil))
      (pss_cons (ps_for (passes_of rfl) rfl (pi_list (pv 5)) (pg_tup (n := 2) (by rfl) (pgs_cons (pg_name (i := 9) nd rfl (Or.inl rfl)) (pgs_cons (pg_name (i := 10) nd rfl (Or.inl rfl)) pgs_nil)))
      (pss_one (ps_if (pt_cmpR op_eq (pe_cal (ok_L_pull T) (hr.mono (by decide)) rfl passL (pa_cons (pv 0) (pa_cons pe_int pa_nil))) pe_int (nomark _))
      (pss_one (ps_expr (pe_bm PySem.F.plainAttrs_list PySem.F.slot_list_append PySem.F.type_list_append mt_append (pv 8) (pa_cons (pe_tup (pa_cons (pv 9) (pa_cons (pe_cal (ok_L_pick T) (hr.mono (by decide)) rfl passL (pa_cons (pv 0) (pa_cons (pe_op op_cat (pe_lst (pa_cons (pv 10) pa_nil)) (pe_lc (own := [("_law_move", 13)]) (by rfl) nd (pi_list (pv 7)) (blkOk_by (N := N_L_wish_deed) (sc := defScope s_L_wish_deed) (by decide +kernel)) (fun _ _ _ _ _ => (pg_name (i := 13) nd rfl (Or.inl rfl))) (fun _ _ _ _ _ => pts_nil) (fun _ _ _ _ _ => (pe_ix (ix_tupK (K := K) rfl) (pv 13) pe_int (fun _ _ => rfl))))) (pa_cons (pv 2) pa_nil)))) pa_nil))) pa_nil))))
      pss_nil)))
      (pss_cons (ps_setLc (i := 11) (own := [("_law_row", 14), ("_law_word_here", 15)]) (by rfl) nd rfl rfl (sw_true rfl rfl rfl (by decide +kernel)) (pi_list (pv 6)) (blkOk_by (N := N_L_wish_deed) (sc := defScope s_L_wish_deed) (by decide +kernel)) (fun _ _ _ _ _ => (pg_tupK (K := K) rfl (n := 2) (by rfl) (pgs_cons (pg_name (i := 14) nd rfl (Or.inl rfl)) (pgs_cons (pg_name (i := 15) nd rfl (Or.inl rfl)) pgs_nil)))) (fun _ _ _ _ _ => (pts_one (pt_cmpR op_gt (pe_cal (ok_L_pull T) (hr.mono (by decide)) rfl passL (pa_cons (pv 0) (pa_cons pe_int pa_nil))) pe_int (nomark _)))) (fun _ _ _ _ _ => (pe_tup (pa_cons (pv 14) (pa_cons (pe_cal (ok_L_word T) (hr.mono (by decide)) rfl passL (pa_cons (pv 0) (pa_cons (pv 3) (pa_cons pe_int pa_nil)))) pa_nil)))))
      (pss_cons (ps_if (pt_cmpR op_eq (pe_cal (ok_L_pull T) (hr.mono (by decide)) rfl passL (pa_cons (pv 0) (pa_cons pe_int pa_nil))) pe_int (nomark _))
      (pss_one (ps_expr (pe_bm PySem.F.plainAttrs_list PySem.F.slot_list_append PySem.F.type_list_append mt_append (pv 8) (pa_cons (pe_tup (pa_cons (pe_cal (ok_L_of T) (hr.mono (by decide)) rfl passL (pa_cons (pv 0) (pa_cons (pv 2) pa_nil))) (pa_cons pe_str pa_nil))) pa_nil))))
      pss_nil)
      (pss_cons (ps_if (pt_cmpR op_eq (pe_cal (ok_L_pull T) (hr.mono (by decide)) rfl passL (pa_cons (pv 0) (pa_cons pe_int pa_nil))) pe_int (nomark _))
      (pss_one (ps_expr (pe_bm PySem.F.plainAttrs_list PySem.F.slot_list_append PySem.F.type_list_append mt_append (pv 11) (pa_cons (pe_tup (pa_cons (pe_cal (ok_L_of T) (hr.mono (by decide)) rfl passL (pa_cons (pv 0) (pa_cons (pe_slice sl_list (pv 2) (po_some pe_int) (po_some pe_int)) pa_nil))) (pa_cons (pe_cal (ok_L_of T) (hr.mono (by decide)) rfl passL (pa_cons (pv 0) (pa_cons (pe_lst (pa_cons (pe_op op_strmul pe_str pe_int) (pa_cons pe_str (pa_cons (pe_op op_strmul pe_str pe_int) (pa_cons (pe_op op_strmul pe_str pe_int) pa_nil))))) pa_nil))) pa_nil))) pa_nil))))
      pss_nil)
      (pss_cons (ps_set (i := 12) nd rfl (Or.inl rfl) (pe_cal (ok_L_pick T) (hr.mono (by decide)) rfl passL (pa_cons (pv 0) (pa_cons (pe_lst pa_nil) (pa_cons (pv 2) pa_nil)))))
      (pss_one (ps_ret (pe_tup (pa_cons pe_str (pa_cons (pv 12) (pa_cons (pv 4) (pa_cons (pe_callTy call_tuple_of (by rfl) T.f_tuple (by decide +kernel) (pa_cons (pv 8) pa_nil)) (pa_cons (pe_callTy call_tuple_of (by rfl) T.f_tuple (by decide +kernel) (pa_cons (pv 11) pa_nil)) pa_nil)))))))))))))))), ?_⟩
  simp only [tSeq, tDrop, tVar, tC, tCall, tCons, tNil, tFld, sFld, sDPut, tDGet, tRet, tRetN, tIfS, tTest, tB, tNot, tAnd, tOr, tOp, tUn, rI0, rI, tNext, tDIn, tDNotIn, tDNewK, tIf, tAndV, tOrV, tNotV, tAsg, gName, gCons, gNil, gTup, tPar, tTup, tLst, tMeth, tCB, rEq, rNe, tBM, rAppend, tBM0, tChain, rIxL, rIxT, rIxS, rIx, L2.start, cxK, cxW, kV_inr, List.map_cons, List.map_nil, List.length_cons, List.length_nil, List.replicate, List.cons_append, List.nil_append, List.append_nil, List.getElem?_cons_zero, List.getElem?_cons_succ, List.set_cons_zero, List.set_cons_succ, Option.some.injEq, V.ref.injEq, V.str.injEq, V.int.injEq, V.bl.injEq, exists_eq, exists_eq', exists_eq_left, exists_eq_left', exists_and_left, exists_and_right, List.cons.injEq, and_true, true_and, and_assoc, tSl, rSlL, tPart, tNoPart, rCat, tDGet2]
  refine ⟨_, .inl (.inl ls.hp), .ref d1, at_of (j := 0) rfl rfl, d1, rfl, k1, .inl ls.h1, fun p1 hp1 => ?_⟩
  have s1 := Same.up (o := .lst (k1.map fun kv => kV kv.1)) hp1
  have e1 : (k1.map fun kv => kV kv.1) = (st.labs.map (·.1)).map V.str := by rw [ls.r1.names, List.map_map]; rfl
  have t1 : TxL M (upd H p1 (.lst (k1.map fun kv => kV kv.1))) p1 (st.labs.map (·.1)) := ⟨g.tr.new hp1, by rw [upd_same, e1], by rw [List.length_map]; have := t3.l1; omega, fun z hz => by
    obtain ⟨u, hu', rfl⟩ := List.mem_map.mp hz
    exact t3.n1 u hu'⟩
  have dd1 := (Dr.refl g).same s1
  generalize upd H p1 (.lst (k1.map fun kv => kV kv.1)) = H1 at *
  have tw1 := tw.keep dd1.keep
  refine ⟨_, .inl (.inl tw1.2.1), fun p2 hp2 => ?_⟩
  have t2 := cut_txl (lo := none) (hi := some 4) tw1 dd1.g.tr hp2
  have s2 := Same.up (o := .lst (cutV (ws.map V.str) none (some 4))) hp2
  refine pick_go (dd1.same s2).g (t1.keep (Keep.of s2)) t2 (by rw [cutL_len, w12]; decide) fun zn H3 hzn d3 => ?_
  have dd3 := (dd1.same s2).trans d3
  have ls3 := ls.keep dd3.keep
  refine ⟨_, .inl (.inl ls3.hp), .ref d1, at_of (j := 0) rfl rfl, d1, rfl, .inl ⟨k1, .inl ls3.h1⟩, Nat.zero_le _, fun a1 ha1 => ⟨Nat.zero_le _, fun a2 ha2 => ⟨Nat.zero_le _, fun a3 ha3 => ⟨by rw [sizeLine_eq]; omega, fun a4 ha4 => ?_⟩⟩⟩⟩
  obtain ⟨o, Lb, gd, dl, tl3, sA⟩ := lab_get dd3.g ls3.h1 ls3.r1 t3.ok a1 ha1 a2 ha2 a3 ha3 a4 ha4
  have dd4 := dd3.same sA
  generalize upd (upd (upd (upd H3 a1 (.lst [])) a2 (.lst [])) a3 (.lst [])) a4 (.tup [.ref a1, .ref a2, .ref a3]) = H4 at *
  obtain ⟨lp, la, lb, lc, xa, xb, xc, eo, nlp, hlp, na, nb, nc, ha, hb, hc, da, db, dc⟩ := dl.lab3
  refine ⟨o, gd, lp, eo, _, .inl (.inl hlp), rfl, _, _, rfl, _, _, rfl, _, _, rfl, rfl, Nat.zero_le _, fun S hS => ?_⟩
  have g5 : Bag (S :: M) b L (upd H4 S (.lst [])) := dd4.g.cons hS (Same.up hS) ⟨_, upd_same⟩
  have sS : Same H4 (upd H4 S (.lst [])) := Same.up hS
  have nS : S ∉ M := dd4.g.tr.new hS
  have bS : S ≠ b := fun z => nS (by rw [z]; exact g.mb)
  have da5 : DAs (S :: M) (upd H4 S (.lst [])) xa (Lb.ms.map pairD) := (da.fresh hS).keep (Keep.of sS)
  have db5 : DAs (S :: M) (upd H4 S (.lst [])) xb (Lb.rs.map pairD) := (db.fresh hS).keep (Keep.of sS)
  have dc5 : DAs (S :: M) (upd H4 S (.lst [])) xc (Lb.mv.map Mv.d) := (dc.fresh hS).keep (Keep.of sS)
  have tw5 : TxL (S :: M) (upd H4 S (.lst [])) q ws := ((tw.keep dd4.keep).fresh hS).keep (Keep.of sS)
  have tl5 : Txts (S :: M) (upd H4 S (.lst [])) l 3 := ((tl.keep dd4.keep).fresh hS).keep (Keep.of sS)
  have ha5 := sS _ _ ha
  have hb5 := sS _ _ hb
  have hc5 := sS _ _ hc
  have hS5 : (upd H4 S (.lst [])) S = some (.lst []) := upd_same
  have mA : la ∉ S :: M := by simp; exact ⟨ne_of_none ha hS, na⟩
  have mB : lb ∉ S :: M := by simp; exact ⟨ne_of_none hb hS, nb⟩
  have mC : lc ∉ S :: M := by simp; exact ⟨ne_of_none hc hS, nc⟩
  have k5 : Keep [b] H (upd H4 S (.lst [])) := dd4.k.trans (Keep.of sS)
  have old : ∀ a o, a ∉ [b] → H a = some o → a ≠ S := fun a o n e => ne_of_none (dd4.k a o n e) hS
  generalize upd H4 S (.lst []) = H5 at *
  have lxa : xa.length = Lb.ms.length := by rw [da.length, List.length_map]
  have lxb : xb.length = Lb.rs.length := by rw [db.length, List.length_map]
  have lxc : xc.length = Lb.mv.length := by rw [dc.length, List.length_map]
  have lm := tl3.m.1
  have lr := tl3.r.1
  have lv := tl3.v.1
  have kS : ∀ {H' : Hp}, Keep [b, S] H5 H' → Keep (S :: M) H5 H' := fun kk => kk.sub fun a h => by
    simp at h
    rcases h with rfl | rfl
    · exact List.mem_cons_of_mem _ g.mb
    · simp
  refine ⟨_, rfl, la, rfl, ⟨xa, .inl (.inl ha5)⟩, ?_⟩
  refine for_it (D := ⟨_, _, fun _ _ => False, fun _ _ => False⟩) (walk_list (xs := xa)) (fun i σ H' => Keep [b, S] H5 H' ∧ Bag (S :: M) b L H' ∧ (∃ xs, H' S = some (.lst xs) ∧ PairsAt (S :: M) H' xs i) ∧ ∃ o9 o10 o11 o12 o13 o14 o15,
      σ = [some (.ref b), some (.ref p), some (.ref q), some (.ref l), some (.str zn), some (.ref la), some (.ref lb), some (.ref lc), some (.ref S), o9, o10, o11, o12, o13, o14, o15])
    ⟨Keep.refl _, g5, ⟨[], hS5, [], DAs.nil, by simp, by simp⟩, _, _, _, _, _, _, _, rfl⟩ (fun i σ H' _ z => .inl (.inl (kS z.1 _ _ mA ha5))) (fun i x σ H' H'' hi z y => ?_) (fun σ H' z => ?_)
  · obtain ⟨kk, gg, ⟨xs, hxs, px⟩, o9, o10, o11, o12, o13, o14, o15, rfl⟩ := z
    obtain ⟨rfl, hx⟩ := y
    obtain ⟨u, t, hu, rfl, nt, ht⟩ := (da5.keep (kS kk)).getP hx
    have hu3 := tl3.m.2 u (List.mem_of_getElem? hu)
    simp only [tSeq, tDrop, tVar, tC, tCall, tCons, tNil, tFld, sFld, sDPut, tDGet, tRet, tRetN, tIfS, tTest, tB, tNot, tAnd, tOr, tOp, tUn, rI0, rI, tNext, tDIn, tDNotIn, tDNewK, tIf, tAndV, tOrV, tNotV, tAsg, gName, gCons, gNil, gTup, tPar, tTup, tLst, tMeth, tCB, rEq, rNe, tBM, rAppend, tBM0, tChain, rIxL, rIxT, rIxS, rIx, L2.start, cxK, cxW, kV_inr, List.map_cons, List.map_nil, List.length_cons, List.length_nil, List.replicate, List.cons_append, List.nil_append, List.append_nil, List.getElem?_cons_zero, List.getElem?_cons_succ, List.set_cons_zero, List.set_cons_succ, Option.some.injEq, V.ref.injEq, V.str.injEq, V.int.injEq, V.bl.injEq, exists_eq, exists_eq', exists_eq_left, exists_eq_left', exists_and_left, exists_and_right, List.cons.injEq, and_true, true_and, and_assoc, rCat]
    refine ⟨_, .inl (.inl ht), rfl, _, _, rfl, _, _, rfl, rfl, S :: M, b, L, 2, rfl, gg, by omega, by omega, fun j H6 j0 j1 d6 => ⟨rfl, ?_⟩⟩
    have k6 : Keep [b, S] H5 H6 := kk.trans (d6.k.sub (by simp))
    have hS6 := d6.k _ _ (by simp; exact bS) hxs
    have px6 := px.keep d6.keep
    by_cases c0 : j = 0
    · rw [decide_eq_true (by rw [c0])]
      refine iteT ⟨.inl ⟨rfl, xs, .inl (.inl hS6)⟩, by rw [sizeLine_eq]; omega, fun t1 ht1 => ?_⟩
      have nt1 : t1 ∉ S :: M := d6.g.tr.new ht1
      have s7 : Same H6 (upd H6 t1 (.lst [.str u.2])) := Same.up ht1
      have ht7 : (upd H6 t1 (.lst [.str u.2])) t1 = some (.lst [.str u.2]) := upd_same
      generalize upd H6 t1 (.lst [.str u.2]) = H7 at *
      have d7 := d6.same s7
      have k7 : Keep (S :: M) H5 H7 := (kS kk).trans d7.keep
      have hc7 := k7 _ _ mC hc5
      refine ⟨_, rfl, lc, rfl, ⟨xc, .inl (.inl hc7)⟩, fun D hD => ?_⟩
      refine lc_vals (Qd := fun H' => _) (walk_list (xs := xc)) (Lb.mv.map fun m => V.str m.e) (by rw [List.length_map, lxc]) (by omega) hD (fun H' s' => .inl (.inl (s' _ _ hc7))) yAt_same gName_mono (fun i x y H8 H9 Kk hy s8 hx kk => ?_) (fun H8 s8 hl8 => ?_)
      · obtain ⟨rfl, hx⟩ := hx
        obtain ⟨m, hm, hmd⟩ := (dc5.keep k7).getMv hx
        rw [List.getElem?_map, hm] at hy
        cases hy
        obtain ⟨mp, av, rfl, _, hmp, _⟩ := hmd.mv
        refine ⟨rfl, ?_⟩
        simp only [tSeq, tDrop, tVar, tC, tCall, tCons, tNil, tFld, sFld, sDPut, tDGet, tRet, tRetN, tIfS, tTest, tB, tNot, tAnd, tOr, tOp, tUn, rI0, rI, tNext, tDIn, tDNotIn, tDNewK, tIf, tAndV, tOrV, tNotV, tAsg, gName, gCons, gNil, gTup, tPar, tTup, tLst, tMeth, tCB, rEq, rNe, tBM, rAppend, tBM0, tChain, rIxL, rIxT, rIxS, rIx, L2.start, cxK, cxW, kV_inr, List.map_cons, List.map_nil, List.length_cons, List.length_nil, List.replicate, List.cons_append, List.nil_append, List.append_nil, List.getElem?_cons_zero, List.getElem?_cons_succ, List.set_cons_zero, List.set_cons_succ, Option.some.injEq, V.ref.injEq, V.str.injEq, V.int.injEq, V.bl.injEq, exists_eq, exists_eq', exists_eq_left, exists_eq_left', exists_and_left, exists_and_right, List.cons.injEq, and_true, true_and, and_assoc, wipe]
        exact ⟨_, .inl (.inl (s8 _ _ hmp)), .str m.e, at_of (j := 3) rfl rfl, kk _ (Same.refl _)⟩
      have d8 := d7.same s8
      refine ⟨D, rfl, _, s8 _ _ ht7, _, hl8, by rw [List.length_map, sizeLine_eq]; simp; omega, fun r hr => ?_⟩
      have sr := Same.up (o := .lst ([V.str u.2] ++ Lb.mv.map fun m => V.str m.e)) hr
      have d9 := d8.same sr
      have tr : TxL (S :: M) (upd H8 r (.lst ([V.str u.2] ++ Lb.mv.map fun m => V.str m.e))) r (u.2 :: Lb.mv.map fun m => m.e) := by
        refine ⟨d8.g.tr.new hr, by rw [upd_same, List.map_cons, List.map_map]; rfl, by rw [List.length_cons, List.length_map]; omega, fun z hz => ?_⟩
        rcases List.mem_cons.mp hz with e | e
        · rw [e]; exact hu3.2
        · obtain ⟨m, hm, rfl⟩ := List.mem_map.mp e
          exact tl3.v.2 m hm
      refine pick_go d9.g tr (tw5.keep ((kS kk).trans d9.keep)) (by omega) fun z HA hz dA => ⟨by rw [sizeLine_eq]; omega, fun t2 ht2 => ?_⟩
      have dB := d9.trans dA
      have st := Same.up (o := .tup [.str u.1, .str z]) ht2
      have dC := dB.same st
      have hSC := dC.k _ _ (by simp; exact bS) hxs
      have nt2 : t2 ∉ S :: M := dB.g.tr.new ht2
      have pxC : PairsAt (S :: M) (upd HA t2 (.tup [.str u.1, .str z])) (xs ++ [.ref t2]) (i + 1) := (px.keep dC.keep).snoc nt2 upd_same hu3.1.short hz.short
      generalize upd HA t2 (.tup [.str u.1, .str z]) = HC at *
      have hxl : xs.length ≤ i := by
        obtain ⟨l', a', hl', _⟩ := px
        rw [a'.length, List.length_map]
        exact hl'
      have kP : Keep [b, S] HC (upd HC S (.lst (xs ++ [.ref t2]))) := Keep.at (by simp)
      refine ⟨xs, hSC, by rw [sizeLine_eq]; omega, (kk.trans (dC.k.sub (by simp))).trans kP, dC.g.put (by simp) bS, _, upd_same, pxC.keep (Keep.at (by simp))⟩
    · rw [decide_eq_false (fun e => c0 (V.int.inj e))]
      obtain ⟨l', a', hl', hs'⟩ := px6
      exact iteF ⟨k6, d6.g, xs, hS6, l', a', by omega, hs'⟩
  · obtain ⟨kk, gg, ⟨xs, hxs, px⟩, o9, o10, o11, o12, o13, o14, o15, rfl⟩ := z
    rw [lxa] at px
    have ha6 := kS kk
    have hb6 := kS kk _ _ mB hb5
    refine ⟨_, rfl, lb, rfl, ⟨xb, .inl (.inl hb6)⟩, fun W hW => ?_⟩
    have nW : W ∉ S :: M := gg.tr.new hW
    refine lc_drawT (Qd := fun H' => _) (walk_list (xs := xb)) (M := S :: M) (b := b) (L := L) (fun i y H' => ∃ t : Str × Str, DA (W :: S :: M) H' y (pairD t) ∧ Short t.1 ∧ Short t.2) (by omega) hW gg (fun H' d => .inl (.inl (d.keep _ _ mB hb6))) yAt_same (fun i y H1 H2 h k => let ⟨t, a, r⟩ := h; ⟨t, a.keep k, r⟩) (fun i x H6 H7 Kk hi d6 hx g7 eW k1 k2 => ?_) (fun H6 acc d6 hacc hal hae nW2 => ?_)
    · obtain ⟨rfl, hx⟩ := hx
      obtain ⟨u, t, hu, rfl, nt, ht⟩ := (db5.keep (ha6.trans d6.keep)).getP hx
      have hu3 := tl3.r.2 u (List.mem_of_getElem? hu)
      simp only [tSeq, tDrop, tVar, tC, tCall, tCons, tNil, tFld, sFld, sDPut, tDGet, tRet, tRetN, tIfS, tTest, tB, tNot, tAnd, tOr, tOp, tUn, rI0, rI, tNext, tDIn, tDNotIn, tDNewK, tIf, tAndV, tOrV, tNotV, tAsg, gName, gCons, gNil, gTup, tPar, tTup, tLst, tMeth, tCB, rEq, rNe, tBM, rAppend, tBM0, tChain, rIxL, rIxT, rIxS, rIx, L2.start, cxK, cxW, kV_inr, List.map_cons, List.map_nil, List.length_cons, List.length_nil, List.replicate, List.cons_append, List.nil_append, List.append_nil, List.getElem?_cons_zero, List.getElem?_cons_succ, List.set_cons_zero, List.set_cons_succ, Option.some.injEq, V.ref.injEq, V.str.injEq, V.int.injEq, V.bl.injEq, exists_eq, exists_eq', exists_eq_left, exists_eq_left', exists_and_left, exists_and_right, List.cons.injEq, and_true, true_and, and_assoc, wipe]
      refine ⟨_, .inl (.inl ht), rfl, _, _, rfl, _, _, rfl, rfl, S :: M, b, L, 3, rfl, g7, by omega, by omega, fun j H8 j0 j1 d8 => ⟨j, rfl, ?_⟩⟩
      refine ite2 (fun _ => ?_) fun _ => k2 _ d8
      refine ⟨S :: M, b, L, l, 3, rfl, d8.g, (tl5.keep (ha6.trans d6.keep)).keep d8.keep, by omega, by omega, fun z H9 d9 hz => ⟨by rw [sizeLine_eq]; omega, fun r hr => ?_⟩⟩
      have dr := (d8.trans d9).same (Same.up (o := .tup [.str u.1, .str z]) hr)
      refine k1 _ _ dr ⟨(u.1, z), DA.tup2' ?_ upd_same, hu3.1.short, Nat.le_trans hz (by decide)⟩
      obtain ⟨ow, eow⟩ := eW
      have hW9 := (d8.trans d9).k W _ (by simp; intro e; rw [e] at nW; exact nW (List.mem_cons_of_mem _ g.mb)) eow
      intro hm
      rcases List.mem_cons.mp hm with e | e
      · rw [e, hW9] at hr
        cases hr
      · exact d9.g.tr.new hr e
    have nWb : W ≠ b := fun e => nW (by rw [e]; exact List.mem_cons_of_mem _ g.mb)
    have nWS : W ≠ S := fun e => nW (by rw [e]; simp)
    have gN : Bag (W :: S :: M) b L H6 := by
      obtain ⟨cs, pos, pend, seed, cnt, q1, q2, q3⟩ := d6.g.ex
      obtain ⟨cs', _, _, _, _, _, q2', _⟩ := gg.ex
      refine ⟨List.mem_cons_of_mem _ d6.g.mb, fun z => ?_, fun a hm => ?_, cs, pos, pend, seed, cnt, q1, q2, q3⟩
      · rcases List.mem_cons.mp z with e | e
        · rw [e, hW] at q2'
          cases q2'
        · exact d6.g.nL e
      · rcases List.mem_cons.mp hm with e | e
        · rw [e]
          exact ⟨_, hacc⟩
        · exact d6.g.tr a e
    have pW : PairsAt (W :: S :: M) H6 acc 100 := by
      obtain ⟨l', a', b', c'⟩ := pairs_all (acc := acc) fun y hy => (hae y hy).elim fun i h => h.2
      exact ⟨l', a', by rw [b']; omega, c'⟩
    have pS : PairsAt (W :: S :: M) H6 xs 100 := by
      obtain ⟨l', a', b', c'⟩ := px
      exact ⟨l', (a'.fresh hW).keep (d6.keep.sub fun a h => List.mem_cons_of_mem _ h), by omega, c'⟩
    have twN : TxL (W :: S :: M) H6 q ws := ((tw5.keep ha6).fresh hW).keep (d6.keep.sub fun a h => List.mem_cons_of_mem _ h)
    have w6 : WS (W :: S :: M) b L S W q ws H6 H6 100 := ⟨Keep.refl _, gN, ⟨xs, d6.k _ _ (by simp; exact bS) hxs, pS⟩, ⟨acc, hacc, pW⟩, twN⟩
    simp only [gName, List.set_cons_succ, List.set_cons_zero]
    show tIfS _ _ _ ⟨_, _, _, _⟩ _ _
    refine stepS (N := W :: S :: M) (b := b) (L := L) (S := S) (W := W) (q := q) (ws := ws) ?_ ?_ ?_ w6 (by simp) bS nWb nWS (by omega) (by omega) fun H7 w7 => ?_
    iterate 3 rfl
    show tIfS _ _ _ ⟨_, _, _, _⟩ _ _
    refine stepW (N := W :: S :: M) (b := b) (L := L) (S := S) (W := W) (q := q) (ws := ws) ?_ ?_ ?_ w7 (by simp) bS nWb nWS.symm (by omega) w12 fun H8 w8 => ?_
    iterate 3 rfl
    simp only [tSeq, tDrop, tVar, tC, tCall, tCons, tNil, tFld, sFld, sDPut, tDGet, tRet, tRetN, tIfS, tTest, tB, tNot, tAnd, tOr, tOp, tUn, rI0, rI, tNext, tDIn, tDNotIn, tDNewK, tIf, tAndV, tOrV, tNotV, tAsg, gName, gCons, gNil, gTup, tPar, tTup, tLst, tMeth, tCB, rEq, rNe, tBM, rAppend, tBM0, tChain, rIxL, rIxT, rIxS, rIx, L2.start, cxK, cxW, kV_inr, List.map_cons, List.map_nil, List.length_cons, List.length_nil, List.replicate, List.cons_append, List.nil_append, List.append_nil, List.getElem?_cons_zero, List.getElem?_cons_succ, List.set_cons_zero, List.set_cons_succ, Option.some.injEq, V.ref.injEq, V.str.injEq, V.int.injEq, V.bl.injEq, exists_eq, exists_eq', exists_eq_left, exists_eq_left', exists_and_left, exists_and_right, List.cons.injEq, and_true, true_and, and_assoc]
    refine ⟨Nat.zero_le _, fun r hr => ?_⟩
    have w9 := w8.dr ((Dr.refl w8.g).same (Same.up (o := .lst []) hr)) bS nWb
    refine pick_go (zs := []) w9.g ⟨w8.g.tr.new hr, upd_same, by simp, by simp⟩ w9.tw (by omega) fun zf HA hzf dA => ?_
    have wA := w9.dr dA bS nWb
    obtain ⟨xsA, a1', l1, da1, ll1, sh1⟩ := wA.xs
    obtain ⟨ysA, a2', l2, da2, ll2, sh2⟩ := wA.ys
    refine ⟨xsA, .inl ⟨.inl (.inl a1'), fun t1 ht1 => ⟨ysA, .inl ⟨.inl (.inl (Same.up ht1 _ _ a2')), fun t2 ht2 => ⟨by rw [sizeLine_eq]; omega, fun t3' ht3 => ?_⟩⟩⟩⟩⟩
    have sb1 := Same.up (o := .tup xsA) ht1
    have sb2 := Same.up (o := .tup ysA) ht2
    have sb3 := Same.up (o := .tup [.str "wish", .str zf, .str zn, .ref t1, .ref t2]) ht3
    have sF := (sb1.trans sb2).trans sb3
    have gA := wA.g
    have subN : ∀ a ∈ M, a ∈ W :: S :: M := fun a h => List.mem_cons_of_mem _ (List.mem_cons_of_mem _ h)
    have gM := gA.sub subN g.mb
    have kF : Keep [b] H HA := fun a o na e => by
      have na' : a ≠ b := by simpa using na
      have e5 := k5 a o na e
      have aS := old a o na e
      have e6 := kk a o (by simp; exact ⟨na', aS⟩) e5
      have aW : a ≠ W := ne_of_none e6 hW
      have e7 := d6.k a o na e6
      exact wA.k a o (by simp; exact ⟨na', aS, aW⟩) e7
    refine k _ zf ⟨zn, l1, l2⟩ _ ⟨kF.trans (Keep.of sF), gM.same sF⟩ ?_ ⟨hzf.short, hzn.short, ⟨by show l1.length ≤ 900; omega, sh1⟩, ⟨by show l2.length ≤ 900; omega, sh2⟩⟩
    refine DA.tup_iff.mpr ⟨t3', _, rfl, ((gM.tr.same sb1).same sb2).new ht3, upd_same, DAs.cons (DA.str' _) (DAs.cons (DA.str' _) (DAs.cons (DA.str' _) (DAs.cons ?_ (DAs.cons ?_ DAs.nil))))⟩
    · exact DA.tup_iff.mpr ⟨t1, xsA, rfl, gM.tr.new ht1, sb3 _ _ (sb2 _ _ upd_same), (da1.keep (Keep.of sF)).sub subN⟩
    · exact DA.tup_iff.mpr ⟨t2, ysA, rfl, (gM.tr.same sb1).new ht2, sb3 _ _ upd_same, (da2.keep (Keep.of sF)).sub subN⟩
end
end K51


set_option Elab.async false
set_option linter.all false
set_option maxRecDepth 100000
set_option maxHeartbeats 4000000
namespace K51
open PySem PySem.Spec PyProof.Rows L2
/-- a dict against the empty one -/
def rEqNilD : R2 := fun x y H Q => ∃ a b kvs, x = .ref a ∧ y = .ref b ∧ H a = some (.dK kvs) ∧ H b = some (.dK []) ∧ Q (.bl kvs.isEmpty) H
theorem op_eqNilD {X : Cx} (hu : X.A.units + 64 < cLine) : OpR X (compareOp .Eq) rEqNilD := by
  intro pins s σ H x y v u Q I rx ry h
  obtain ⟨a, b, kvs, rfl, rfl, ha, hb, q⟩ := h
  cases rx
  cases ry
  obtain ⟨z1, lo1, vs1, rel1, dd1⟩ := I.hok a _ ha
  obtain ⟨z2, lo2, vs2, rel2, dd2⟩ := I.hok b _ hb
  cases rel2
  refine PySem.W.rcP_dicts (r := true) lo1 lo2 dd1 dd2 (by omega) (fun e => ?_) _ _ ⟨.bl kvs.isEmpty, H, I, ?_, q⟩
  · have e : vs1 = [] := List.length_eq_zero_iff.mp e
    rw [e]
    exact .nil
  · have e := rel1.length
    show Value.bool (vs1.length == [].length && true) = Value.bool kvs.isEmpty
    cases kvs with
    | nil =>
      cases rel1
      rfl
    | cons p r =>
      rw [← e]
      rfl
def spDeed : Sp := fun vs H Q _ => ∃ (M : List Addr) (b L q l : Addr) (sv : V) (st : St) (ws : List Str), vs = [.ref b, sv, .ref q, .ref l] ∧ Bag M b L H ∧ LSt M H sv st ∧ T3S st ∧ TxL M H q ws ∧ ws.length = 12 ∧ Txts M H l 3 ∧
  ∀ v (d : Deed) H', Dr M b L H H' → DA M H' v d.d → d.Short → Q v H'
/-- a test whose outcome does not matter: G holds behind it -/
theorem seq_if {C : TT} {T R : TS} {D : Ends} {σ : L2.St} {H : Hp} {G : Hp → Prop} (hT : ∀ H', G H' → T { D with nx := R D } σ H') (hR : ∀ H', G H' → R D σ H') (hC : ∀ K : Bool → Hp → Prop, (∀ b H', G H' → K b H') → C σ H K) : tSeq (tIfS C T tNext) R D σ H :=
  hC _ fun b H' g => by
    cases b with
    | true => exact iteT (hT H' g)
    | false => exact iteF (hR H' g)
/-- an empty list and a part of the names, then a pick -/
theorem pick0 {K : PySem.W.Frag} {M : List Addr} {b L q : Addr} {H H2 : Hp} {ws : List Str} {lo hi : Option Int} {Qz : VK} {E : XK} (d : Dr M b L H H2) (tw : TxL M H q ws) (h0 : 0 < (cutL ws lo hi).length) (k : ∀ z H', T3 z → Dr M b L H H' → Qz (.str z) H') :
    0 ≤ sizeLine ∧ ∀ p : Addr, H2 p = none → ∃ x, SqL K (upd H2 p (.lst [])) q x ∧ ∀ p1 : Addr, upd H2 p (.lst []) p1 = none → spPick [.ref b, .ref p, .ref p1] (upd (upd H2 p (.lst [])) p1 (.lst (cutV x lo hi))) Qz E := by
  refine ⟨Nat.zero_le _, fun p hp => ?_⟩
  have s1 := Same.up (o := .lst []) hp
  have d1 := d.same s1
  have tw1 := tw.keep d1.keep
  have t1 : TxL M (upd H2 p (.lst [])) p [] := ⟨d.g.tr.new hp, upd_same, by simp, by simp⟩
  refine ⟨_, .inl (.inl tw1.2.1), fun p1 hp1 => ?_⟩
  have s2 := Same.up (o := .lst (cutV (ws.map V.str) lo hi)) hp1
  exact pick_go (d1.same s2).g (t1.keep (Keep.of s2)) (cut_txl tw1 d1.g.tr hp1) h0 fun z H' hz d' => k z H' hz ((d1.same s2).trans d')
theorem keys_txl {α : Type} {R : V → α → Prop} {M : List Addr} {H : Hp} {p : Addr} {kvs : List (Key × V)} {l : List (Str × α)} (r : KR R kvs l) (tM : Trk M H) (hp : H p = none) (hl : l.length ≤ 100) (h3 : ∀ u ∈ l, T3 u.1) :
    TxL M (upd H p (.lst (kvs.map fun kv => kV kv.1))) p (l.map (·.1)) := by
  have e1 : (kvs.map fun kv => kV kv.1) = (l.map (·.1)).map V.str := by rw [r.names, List.map_map]; rfl
  exact ⟨tM.new hp, by rw [upd_same, e1], by rw [List.length_map]; omega, fun z hz => by
    obtain ⟨u, hu', rfl⟩ := List.mem_map.mp hz
    exact h3 u hu'⟩
section
variable {P : Program} {w : World} {K : PySem.W.Frag} {mg : Str → Option Value} {base : Heap}
abbrev N_L_deed : List Str := ["_law_bag_here", "_law_state", "_law_names_here", "_law_letters_here", "_law_labs", "_law_wishes", "_law_kind", "_law_name", "_law_lists", "_law_word_here"]
theorem sc_L_deed : FnScope N_L_deed ["_law_bag_here", "_law_state", "_law_names_here", "_law_letters_here"] (defScope s_L_deed) := ⟨rfl, rfl, rfl, by decide +kernel, rfl, by decide +kernel, by decide +kernel⟩
theorem b_L_deed : Bnd0 d_L_deed.name d_L_deed.qual d_L_deed.params d_L_deed.body d_L_deed.scope ["_law_bag_here", "_law_state", "_law_names_here", "_law_letters_here"] := fun _ _ _ _ _ _ us hl => match us, hl with | [_, _, _, _], _ => rfl
theorem ok_L_deed (T : TX w K mg) : CalE P w K mg base 6 "_law_deed" [] spDeed := by
  refine cal_of T.fd_L_deed T.g_L_deed sc_L_deed b_L_deed (fun vs H Q E h => ?_) (fun cdv A outer s H vs Q E hr h => ?_)
  · obtain ⟨M, b, L, q, l, sv, st, ws, rfl, _⟩ := h
    rfl
  obtain ⟨M, b, L, q, l, sv, st, ws, rfl, g, ⟨p, d1, d2, k1, k2, rfl, ls⟩, t3, tw, w12, tl, k⟩ := h
  have nd := sc_L_deed.nd
  have hu := hu_of hr
  refine ⟨_, (pss_cons (ps_asg (pv 1) (pg_tup (n := 2) (by rfl) (pgs_cons (pg_name (i := 4) nd rfl (Or.inl rfl)) (pgs_cons (pg_name (i := 5) nd rfl (Or.inl rfl)) pgs_nil))))
      (pss_cons (ps_set (i := 6) nd rfl (Or.inl rfl) (pe_cal (ok_L_pull T) (hr.mono (by decide)) rfl passL (pa_cons (pv 0) (pa_cons pe_int pa_nil))))
      (pss_cons (ps_if (PW.pt (pw_or (pt_cmpR op_eq (pv 6) pe_int (nomark _)) (pw_or1 (PW.pt (pw_and (pt_cmpR (op_eqNilD hr.units) (pv 4) pe_dnewK (nomark _)) (pw_and1 (pt_cmpR op_gt (pe_cal (ok_L_pull T) (hr.mono (by decide)) rfl passL (pa_cons (pv 0) (pa_cons pe_int pa_nil))) pe_int (nomark _))))))))
      (pss_one (ps_ret (pe_tup (pa_cons pe_str (pa_cons (pe_cal (ok_L_pick T) (hr.mono (by decide)) rfl passL (pa_cons (pv 0) (pa_cons (pe_lst pa_nil) (pa_cons (pe_slice sl_list (pv 2) po_none (po_some pe_int)) pa_nil)))) pa_nil)))))
      pss_nil)
      (pss_cons (ps_set (i := 7) nd rfl (Or.inl rfl) (pe_cal (ok_L_pick T) (hr.mono (by decide)) rfl passL (pa_cons (pv 0) (pa_cons (pe_callTy (call_listD rfl) (by rfl) T.f_list (by decide +kernel) (pa_cons (pv 4) pa_nil)) (pa_cons (pe_slice sl_list (pv 2) po_none (po_some pe_int)) pa_nil)))))
      (pss_cons (ps_set (i := 8) nd rfl (Or.inl rfl) (pe_dget2 hu (pv 4) (pv 7) (pe_tup (pa_cons (pe_lst pa_nil) (pa_cons (pe_lst pa_nil) (pa_cons (pe_lst pa_nil) pa_nil)))) ⟨rfl, rfl, rfl, rfl⟩))
      (pss_cons (ps_if (PW.pt (pw_and (pt_cmpR op_eq (pv 6) pe_int (nomark _)) (pw_and1 (pt_cmpR op_eq (pe_cal (ok_L_pull T) (hr.mono (by decide)) rfl passL (pa_cons (pv 0) (pa_cons pe_int pa_nil))) pe_int (nomark _)))))
      (pss_one (ps_ret (pe_tup (pa_cons pe_str (pa_cons (pv 7) pa_nil)))))
      pss_nil)
      (pss_cons (ps_if (pt_cmpR op_lt (pv 6) pe_int (nomark _))
      (pss_one (ps_ret (pe_tup (pa_cons pe_str (pa_cons (pv 7) (pa_cons (pe_cal (ok_L_pick T) (hr.mono (by decide)) rfl passL (pa_cons (pv 0) (pa_cons (pe_lst pa_nil) (pa_cons (pe_slice sl_list (pv 2) (po_some pe_int) (po_some pe_int)) pa_nil)))) (pa_cons (pe_cal (ok_L_pick T) (hr.mono (by decide)) rfl passL (pa_cons (pv 0) (pa_cons (pe_slice sl_list (pv 2) (po_some pe_int) po_none) (pa_cons (pv 2) pa_nil)))) pa_nil)))))))
      pss_nil)
      (pss_cons (ps_if (pt_cmpR op_lt (pv 6) pe_int (nomark _))
      (pss_cons (ps_set (i := 9) nd rfl (Or.inl rfl) (pe_ifExp (pt_cmpR op_gt (pe_cal (ok_L_pull T) (hr.mono (by decide)) rfl passL (pa_cons (pv 0) (pa_cons pe_int pa_nil))) pe_int (nomark _)) (pe_cal (ok_L_word T) (hr.mono (by decide)) rfl passL (pa_cons (pv 0) (pa_cons (pv 3) (pa_cons pe_int pa_nil)))) (pe_cal (ok_L_of T) (hr.mono (by decide)) rfl passL (pa_cons (pv 0) (pa_cons (pe_lst (pa_cons pe_str (pa_cons (pe_op op_strmul pe_str pe_int) (pa_cons (pe_op op_strmul pe_str pe_int) pa_nil)))) pa_nil)))))
      (pss_one (ps_ret (pe_tup (pa_cons pe_str (pa_cons (pv 7) (pa_cons (pe_cal (ok_L_pick T) (hr.mono (by decide)) rfl passL (pa_cons (pv 0) (pa_cons (pe_lst pa_nil) (pa_cons (pe_slice sl_list (pv 2) (po_some pe_int) (po_some pe_int)) pa_nil)))) (pa_cons (pv 9) pa_nil))))))))
      pss_nil)
      (pss_cons (ps_if (pt_cmpR op_lt (pv 6) pe_int (nomark _))
      (pss_one (ps_ret (pe_cal (ok_L_move_deed T) (hr.mono (by decide)) rfl passL (pa_cons (pv 0) (pa_cons (pv 7) (pa_cons (pv 8) (pa_cons (pv 2) (pa_cons (pv 3) pa_nil))))))))
      pss_nil)
      (pss_cons (ps_if (pt_cmpR op_eq (pv 6) pe_int (nomark _))
      (pss_one (ps_ret (pe_tup (pa_cons pe_str (pa_cons (pv 7) (pa_cons (pe_cal (ok_L_of T) (hr.mono (by decide)) rfl passL (pa_cons (pv 0) (pa_cons (pe_lst (pa_cons pe_int (pa_cons (pe_op op_sub (pe_callB call_len_seq (by rfl) T.f_len PySem.boot_len (pa_cons (pe_ix ix_tup (pv 8) pe_int (fun _ _ => rfl)) pa_nil)) pe_int) (pa_cons (pe_callB call_len_seq (by rfl) T.f_len PySem.boot_len (pa_cons (pe_ix ix_tup (pv 8) pe_int (fun _ _ => rfl)) pa_nil)) (pa_cons (pe_un un_neg pe_int) (pa_cons (pe_cal (ok_L_wild T) (hr.mono (by decide)) rfl passL (pa_cons (pv 0) pa_nil)) pa_nil)))))) pa_nil))) pa_nil))))))
      pss_nil)
      (pss_cons (ps_if (pt_cmpR op_lt (pv 6) pe_int (nomark _))
      (pss_one (ps_ret (pe_cal (ok_L_wish_deed T) (hr.mono (by decide)) rfl passL (pa_cons (pv 0) (pa_cons (pv 1) (pa_cons (pv 2) (pa_cons (pv 3) pa_nil)))))))
      pss_nil)
      (pss_one (ps_ret (pe_tup (pa_cons pe_str (pa_cons (pe_cal (ok_L_pick T) (hr.mono (by decide)) rfl passL (pa_cons (pv 0) (pa_cons (pe_callTy (call_listD rfl) (by rfl) T.f_list (by decide +kernel) (pa_cons (pv 5) pa_nil)) (pa_cons (pv 2) pa_nil)))) pa_nil)))))))))))))))), ?_⟩
  have fin : ∀ (dd : Deed) (xs : List V) (H2 : Hp), Dr M b L H H2 → DAs M H2 xs (.str dd.word :: dd.rest) → dd.Short → ∀ p : Addr, H2 p = none → Q (.ref p) (upd H2 p (.tup xs)) := fun dd xs H2 d h sh p hp => k _ dd _ (d.same (Same.up hp)) (DA.newT d.g.tr hp h) sh
  refine ⟨_, rfl, _, _, rfl, .inl (.inl ls.hp), rfl, _, _, rfl, _, _, rfl, rfl, ?_⟩
  refine ⟨_, rfl, M, b, L, 14, rfl, g, by omega, by omega, fun kd H1 j0 j1 e1 => ?_⟩
  dsimp only [gName]
  refine seq_if (G := fun H2 => Dr M b L H H2) (fun H2 e2 => ?_) (fun H2 e2 => ?_) (fun K hK => ?_)
  · simp only [tSeq, tDrop, tVar, tC, tCall, tCons, tNil, tFld, sFld, sDPut, tDGet, tRet, tRetN, tIfS, tTest, tB, tNot, tAnd, tOr, tOp, tUn, rI0, rI, tNext, tDIn, tDNotIn, tDNewK, tIf, tAndV, tOrV, tNotV, tAsg, gName, gCons, gNil, gTup, tPar, tTup, tLst, tMeth, tCB, rEq, rNe, tBM, rAppend, tBM0, tChain, rIxL, rIxT, rIxS, rIx, L2.start, cxK, cxW, kV_inr, List.map_cons, List.map_nil, List.length_cons, List.length_nil, List.replicate, List.cons_append, List.nil_append, List.append_nil, List.getElem?_cons_zero, List.getElem?_cons_succ, List.set_cons_zero, List.set_cons_succ, Option.some.injEq, V.ref.injEq, V.str.injEq, V.int.injEq, V.bl.injEq, exists_eq, exists_eq', exists_eq_left, exists_eq_left', exists_and_left, exists_and_right, List.cons.injEq, and_true, true_and, and_assoc, tSl, rSlL, tPart, tNoPart]
    exact pick0 e2 tw (by rw [cutL_len, w12]; decide) fun z H3 hz e3 => ⟨by rw [sizeLine_eq]; omega, fin (.lab z) _ H3 e3 (DAs.cons (DA.str' _) (DAs.cons (DA.str' _) DAs.nil)) hz.short⟩
  rotate_left
  · simp only [tSeq, tDrop, tVar, tC, tCall, tCons, tNil, tFld, sFld, sDPut, tDGet, tRet, tRetN, tIfS, tTest, tB, tNot, tAnd, tOr, tOp, tUn, rI0, rI, tNext, tDIn, tDNotIn, tDNewK, tIf, tAndV, tOrV, tNotV, tAsg, gName, gCons, gNil, gTup, tPar, tTup, tLst, tMeth, tCB, rEq, rNe, tBM, rAppend, tBM0, tChain, rIxL, rIxT, rIxS, rIx, L2.start, cxK, cxW, kV_inr, List.map_cons, List.map_nil, List.length_cons, List.length_nil, List.replicate, List.cons_append, List.nil_append, List.append_nil, List.getElem?_cons_zero, List.getElem?_cons_succ, List.set_cons_zero, List.set_cons_succ, Option.some.injEq, V.ref.injEq, V.str.injEq, V.int.injEq, V.bl.injEq, exists_eq, exists_eq', exists_eq_left, exists_eq_left', exists_and_left, exists_and_right, List.cons.injEq, and_true, true_and, and_assoc, rEqNilD]
    refine ⟨rfl, ite2 (fun _ => hK _ _ e1) fun _ p0 hp0 => ⟨k1, Same.up hp0 _ _ (e1.keep _ _ ls.n1 ls.h1), upd_same, ?_⟩⟩
    have e2 := e1.same (Same.up (o := .dK []) hp0)
    exact ite2 (fun _ => ⟨M, b, L, 8, rfl, e2.g, by omega, by omega, fun j H3 a0 a1 e3 => ⟨j, rfl, hK _ _ (e2.trans e3)⟩⟩) fun _ => hK _ _ e2
  have tw2 := tw.keep e2.keep
  refine ⟨_, rfl, _, rfl, d1, k1, rfl, .inl (e2.keep _ _ ls.n1 ls.h1), fun p1 hp1 => ⟨_, rfl, 5, rfl, q, _, rfl, .inl (.inl (Same.up hp1 _ _ tw2.2.1)), fun p2 hp2 => ?_⟩⟩
  have s1 := Same.up (o := .lst (k1.map fun kv => kV kv.1)) hp1
  have t1 := keys_txl ls.r1 e2.g.tr hp1 t3.l1 t3.n1
  have f1 := e2.same s1
  have s2 := Same.up (o := .lst (cutV (ws.map V.str) none (some 5))) hp2
  dsimp only [tNil, List.cons_append, List.nil_append]
  refine pick_go (f1.same s2).g (t1.keep (Keep.of s2)) (cut_txl (tw.keep f1.keep) f1.g.tr hp2) (by rw [cutL_len, w12]; decide) fun zn H3 hzn e3 => ?_
  have f3 := (f1.same s2).trans e3
  dsimp only [gName]
  refine ⟨_, rfl, d1, rfl, .inl ⟨k1, .inl (f3.keep _ _ ls.n1 ls.h1)⟩, _, rfl, Nat.zero_le _, fun a1 ha1 => ⟨Nat.zero_le _, fun a2 ha2 => ⟨Nat.zero_le _, fun a3 ha3 => ⟨by show 3 ≤ sizeLine; rw [sizeLine_eq]; omega, fun a4 ha4 => ?_⟩⟩⟩⟩
  have ls3 := ls.keep f3.keep
  obtain ⟨o, Lb, gd, dl, tl3, sA⟩ := lab_get f3.g ls3.h1 ls3.r1 t3.ok a1 ha1 a2 ha2 a3 ha3 a4 ha4
  have f4 := f3.same sA
  refine ⟨o, gd, ?_⟩
  dsimp only [gName]
  change DA M _ (o.getD (.ref a4)) (Lab.d Lb) at dl
  generalize upd (upd (upd (upd H3 a1 (.lst [])) a2 (.lst [])) a3 (.lst [])) a4 (.tup [.ref a1, .ref a2, .ref a3]) = H4 at *
  generalize o.getD (.ref a4) = lv at *
  have sn : Short zn := hzn.short
  refine seq_if (G := fun H2 => Dr M b L H4 H2) (fun H5 e5 => ?_) (fun H5 e5 => ?_) (fun K hK => ?_)
  · simp only [tSeq, tDrop, tVar, tC, tCall, tCons, tNil, tFld, sFld, sDPut, tDGet, tRet, tRetN, tIfS, tTest, tB, tNot, tAnd, tOr, tOp, tUn, rI0, rI, tNext, tDIn, tDNotIn, tDNewK, tIf, tAndV, tOrV, tNotV, tAsg, gName, gCons, gNil, gTup, tPar, tTup, tLst, tMeth, tCB, rEq, rNe, tBM, rAppend, tBM0, tChain, rIxL, rIxT, rIxS, rIx, L2.start, cxK, cxW, kV_inr, List.map_cons, List.map_nil, List.length_cons, List.length_nil, List.replicate, List.cons_append, List.nil_append, List.append_nil, List.getElem?_cons_zero, List.getElem?_cons_succ, List.set_cons_zero, List.set_cons_succ, Option.some.injEq, V.ref.injEq, V.str.injEq, V.int.injEq, V.bl.injEq, exists_eq, exists_eq', exists_eq_left, exists_eq_left', exists_and_left, exists_and_right, List.cons.injEq, and_true, true_and, and_assoc]
    exact ⟨by rw [sizeLine_eq]; omega, fin (.drop zn) _ H5 (f4.trans e5) (DAs.cons (DA.str' _) (DAs.cons (DA.str' _) DAs.nil)) sn⟩
  rotate_left
  · simp only [tSeq, tDrop, tVar, tC, tCall, tCons, tNil, tFld, sFld, sDPut, tDGet, tRet, tRetN, tIfS, tTest, tB, tNot, tAnd, tOr, tOp, tUn, rI0, rI, tNext, tDIn, tDNotIn, tDNewK, tIf, tAndV, tOrV, tNotV, tAsg, gName, gCons, gNil, gTup, tPar, tTup, tLst, tMeth, tCB, rEq, rNe, tBM, rAppend, tBM0, tChain, rIxL, rIxT, rIxS, rIx, L2.start, cxK, cxW, kV_inr, List.map_cons, List.map_nil, List.length_cons, List.length_nil, List.replicate, List.cons_append, List.nil_append, List.append_nil, List.getElem?_cons_zero, List.getElem?_cons_succ, List.set_cons_zero, List.set_cons_succ, Option.some.injEq, V.ref.injEq, V.str.injEq, V.int.injEq, V.bl.injEq, exists_eq, exists_eq', exists_eq_left, exists_eq_left', exists_and_left, exists_and_right, List.cons.injEq, and_true, true_and, and_assoc]
    exact ⟨rfl, ite2 (fun _ => ⟨M, b, L, 3, rfl, f4.g, by omega, by omega, fun j H3 b0 b1 e3 => ⟨rfl, hK _ _ e3⟩⟩) fun _ => hK _ _ (Dr.refl f4.g)⟩
  refine seq_if (G := fun H2 => Dr M b L H4 H2) (fun H6 e6 => ?_) (fun H6 e6 => ?_) (fun K hK => ?_)
  · simp only [tSeq, tDrop, tVar, tC, tCall, tCons, tNil, tFld, sFld, sDPut, tDGet, tRet, tRetN, tIfS, tTest, tB, tNot, tAnd, tOr, tOp, tUn, rI0, rI, tNext, tDIn, tDNotIn, tDNewK, tIf, tAndV, tOrV, tNotV, tAsg, gName, gCons, gNil, gTup, tPar, tTup, tLst, tMeth, tCB, rEq, rNe, tBM, rAppend, tBM0, tChain, rIxL, rIxT, rIxS, rIx, L2.start, cxK, cxW, kV_inr, List.map_cons, List.map_nil, List.length_cons, List.length_nil, List.replicate, List.cons_append, List.nil_append, List.append_nil, List.getElem?_cons_zero, List.getElem?_cons_succ, List.set_cons_zero, List.set_cons_succ, Option.some.injEq, V.ref.injEq, V.str.injEq, V.int.injEq, V.bl.injEq, exists_eq, exists_eq', exists_eq_left, exists_eq_left', exists_and_left, exists_and_right, List.cons.injEq, and_true, true_and, and_assoc, tSl, rSlL, tPart, tNoPart]
    exact pick0 (f4.trans e6) tw (by rw [cutL_len, w12]; decide) fun z1 HB hz1 eB => by
      have twB := tw.keep eB.keep
      refine ⟨_, .inl (.inl twB.2.1), fun p3 hp3 => ?_⟩
      have eC := eB.same (Same.up (o := .lst (cutV (ws.map V.str) (some 10) none)) hp3)
      exact pick_go eC.g (cut_txl twB eB.g.tr hp3) (tw.keep eC.keep) (by omega) fun z2 HD hz2 eD => ⟨by rw [sizeLine_eq]; omega, fin (.machine zn z1 z2) _ HD (eC.trans eD) (DAs.cons (DA.str' _) (DAs.cons (DA.str' _) (DAs.cons (DA.str' _) (DAs.cons (DA.str' _) DAs.nil)))) ⟨sn, hz1.short, hz2.short⟩⟩
  rotate_left
  · simp only [tSeq, tDrop, tVar, tC, tCall, tCons, tNil, tFld, sFld, sDPut, tDGet, tRet, tRetN, tIfS, tTest, tB, tNot, tAnd, tOr, tOp, tUn, rI0, rI, tNext, tDIn, tDNotIn, tDNewK, tIf, tAndV, tOrV, tNotV, tAsg, gName, gCons, gNil, gTup, tPar, tTup, tLst, tMeth, tCB, rEq, rNe, tBM, rAppend, tBM0, tChain, rIxL, rIxT, rIxS, rIx, L2.start, cxK, cxW, kV_inr, List.map_cons, List.map_nil, List.length_cons, List.length_nil, List.replicate, List.cons_append, List.nil_append, List.append_nil, List.getElem?_cons_zero, List.getElem?_cons_succ, List.set_cons_zero, List.set_cons_succ, Option.some.injEq, V.ref.injEq, V.str.injEq, V.int.injEq, V.bl.injEq, exists_eq, exists_eq', exists_eq_left, exists_eq_left', exists_and_left, exists_and_right, List.cons.injEq, and_true, true_and, and_assoc]
    exact hK _ _ e5
  refine seq_if (G := fun H2 => Dr M b L H4 H2) (fun H7 e7 => ?_) (fun H7 e7 => ?_) (fun K hK => ?_)
  · simp only [tSeq, tDrop, tVar, tC, tCall, tCons, tNil, tFld, sFld, sDPut, tDGet, tRet, tRetN, tIfS, tTest, tB, tNot, tAnd, tOr, tOp, tUn, rI0, rI, tNext, tDIn, tDNotIn, tDNewK, tIf, tAndV, tOrV, tNotV, tAsg, gName, gCons, gNil, gTup, tPar, tTup, tLst, tMeth, tCB, rEq, rNe, tBM, rAppend, tBM0, tChain, rIxL, rIxT, rIxS, rIx, L2.start, cxK, cxW, kV_inr, List.map_cons, List.map_nil, List.length_cons, List.length_nil, List.replicate, List.cons_append, List.nil_append, List.append_nil, List.getElem?_cons_zero, List.getElem?_cons_succ, List.set_cons_zero, List.set_cons_succ, Option.some.injEq, V.ref.injEq, V.str.injEq, V.int.injEq, V.bl.injEq, exists_eq, exists_eq', exists_eq_left, exists_eq_left', exists_and_left, exists_and_right, List.cons.injEq, and_true, true_and, and_assoc, tSl, rSlL, tPart, tNoPart, rMulS]
    have last : ∀ (y : Str) (HB : Hp), Dr M b L H HB → Short y → (0 ≤ sizeLine ∧ ∀ p : Addr, HB p = none → ∃ x_1, SqL K (upd HB p (.lst [])) q x_1 ∧ ∀ p_1 : Addr, upd HB p (.lst []) p_1 = none → spPick [.ref b, .ref p, .ref p_1] (upd (upd HB p (.lst [])) p_1 (.lst (cutV x_1 (some 7) (some 11))))
        (fun x_2 H1 => 0 + 1 + 1 + 1 + 1 ≤ sizeLine ∧ ∀ p : Addr, H1 p = none → Q (.ref p) (upd H1 p (.tup [.str "row", .str zn, x_2, .str y]))) E0) := fun y HB eB hy =>
      pick0 eB tw (by rw [cutL_len, w12]; decide) fun z HC hz eC => ⟨by rw [sizeLine_eq]; omega, fin (.row zn z y) _ HC eC (DAs.cons (DA.str' _) (DAs.cons (DA.str' _) (DAs.cons (DA.str' _) (DAs.cons (DA.str' _) DAs.nil)))) ⟨sn, hz.short, hy⟩⟩
    have f7 := f4.trans e7
    refine ⟨M, b, L, 9, rfl, f7.g, by omega, by omega, fun j HB b0 b1 eB => ⟨j, rfl, ite2 (fun _ => ?_) fun _ => ?_⟩⟩
    · exact ⟨M, b, L, l, 3, rfl, eB.g, tl.keep (f7.trans eB).keep, by omega, by omega, fun z HC eC hz => last z HC ((f7.trans eB).trans eC) (Nat.le_trans hz (by decide))⟩
    · refine ⟨mul_9, mul_8, by rw [sizeLine_eq]; omega, fun p3 hp3 => ?_⟩
      obtain ⟨g2, np, e2'⟩ := eB.g.txt (xs := [V.str "A", V.str (Txt.mul (Str.ofString "a") 9), V.str (Txt.mul (Str.ofString "a") 8)]) hp3
      refine ⟨M, b, L, p3, _, rfl, g2, np, upd_same, by simp, by simp, fun x HC hx eC => ?_⟩
      obtain ⟨y, rfl, hy⟩ : ∃ y : Str, x = .str y ∧ Short y := by
        simp at hx
        rcases hx with rfl | rfl | rfl
        · exact ⟨_, rfl, show ("A" : Str).length ≤ 1000 by decide⟩
        · exact ⟨_, rfl, mlen_9⟩
        · exact ⟨_, rfl, mlen_8⟩
      exact last y HC ((f7.trans eB).trans (e2'.trans eC)) hy
  rotate_left
  · simp only [tSeq, tDrop, tVar, tC, tCall, tCons, tNil, tFld, sFld, sDPut, tDGet, tRet, tRetN, tIfS, tTest, tB, tNot, tAnd, tOr, tOp, tUn, rI0, rI, tNext, tDIn, tDNotIn, tDNewK, tIf, tAndV, tOrV, tNotV, tAsg, gName, gCons, gNil, gTup, tPar, tTup, tLst, tMeth, tCB, rEq, rNe, tBM, rAppend, tBM0, tChain, rIxL, rIxT, rIxS, rIx, L2.start, cxK, cxW, kV_inr, List.map_cons, List.map_nil, List.length_cons, List.length_nil, List.replicate, List.cons_append, List.nil_append, List.append_nil, List.getElem?_cons_zero, List.getElem?_cons_succ, List.set_cons_zero, List.set_cons_succ, Option.some.injEq, V.ref.injEq, V.str.injEq, V.int.injEq, V.bl.injEq, exists_eq, exists_eq', exists_eq_left, exists_eq_left', exists_and_left, exists_and_right, List.cons.injEq, and_true, true_and, and_assoc]
    exact hK _ _ e6
  refine seq_if (G := fun H2 => Dr M b L H4 H2) (fun H8 e8 => ?_) (fun H8 e8 => ?_) (fun K hK => ?_)
  · simp only [tSeq, tDrop, tVar, tC, tCall, tCons, tNil, tFld, sFld, sDPut, tDGet, tRet, tRetN, tIfS, tTest, tB, tNot, tAnd, tOr, tOp, tUn, rI0, rI, tNext, tDIn, tDNotIn, tDNewK, tIf, tAndV, tOrV, tNotV, tAsg, gName, gCons, gNil, gTup, tPar, tTup, tLst, tMeth, tCB, rEq, rNe, tBM, rAppend, tBM0, tChain, rIxL, rIxT, rIxS, rIx, L2.start, cxK, cxW, kV_inr, List.map_cons, List.map_nil, List.length_cons, List.length_nil, List.replicate, List.cons_append, List.nil_append, List.append_nil, List.getElem?_cons_zero, List.getElem?_cons_succ, List.set_cons_zero, List.set_cons_succ, Option.some.injEq, V.ref.injEq, V.str.injEq, V.int.injEq, V.bl.injEq, exists_eq, exists_eq', exists_eq_left, exists_eq_left', exists_and_left, exists_and_right, List.cons.injEq, and_true, true_and, and_assoc]
    have f8 := f4.trans e8
    obtain ⟨lz, tlz, llz⟩ := TxL.of (tl.keep f8.keep) (by omega)
    exact ⟨M, b, L, q, l, lv, zn, Lb, ws, lz, rfl, f8.g, dl.keep e8.keep, tl3, tw.keep f8.keep, w12, tlz, by omega, fun v m H' d da sh => k v (.move zn m) H' (f8.trans d) da ⟨sn, sh⟩⟩
  rotate_left
  · simp only [tSeq, tDrop, tVar, tC, tCall, tCons, tNil, tFld, sFld, sDPut, tDGet, tRet, tRetN, tIfS, tTest, tB, tNot, tAnd, tOr, tOp, tUn, rI0, rI, tNext, tDIn, tDNotIn, tDNewK, tIf, tAndV, tOrV, tNotV, tAsg, gName, gCons, gNil, gTup, tPar, tTup, tLst, tMeth, tCB, rEq, rNe, tBM, rAppend, tBM0, tChain, rIxL, rIxT, rIxS, rIx, L2.start, cxK, cxW, kV_inr, List.map_cons, List.map_nil, List.length_cons, List.length_nil, List.replicate, List.cons_append, List.nil_append, List.append_nil, List.getElem?_cons_zero, List.getElem?_cons_succ, List.set_cons_zero, List.set_cons_succ, Option.some.injEq, V.ref.injEq, V.str.injEq, V.int.injEq, V.bl.injEq, exists_eq, exists_eq', exists_eq_left, exists_eq_left', exists_and_left, exists_and_right, List.cons.injEq, and_true, true_and, and_assoc]
    exact hK _ _ e7
  refine seq_if (G := fun H2 => Dr M b L H4 H2) (fun H9 e9 => ?_) (fun H9 e9 => ?_) (fun K hK => ?_)
  · simp only [tSeq, tDrop, tVar, tC, tCall, tCons, tNil, tFld, sFld, sDPut, tDGet, tRet, tRetN, tIfS, tTest, tB, tNot, tAnd, tOr, tOp, tUn, rI0, rI, tNext, tDIn, tDNotIn, tDNewK, tIf, tAndV, tOrV, tNotV, tAsg, gName, gCons, gNil, gTup, tPar, tTup, tLst, tMeth, tCB, rEq, rNe, tBM, rAppend, tBM0, tChain, rIxL, rIxT, rIxS, rIx, L2.start, cxK, cxW, kV_inr, List.map_cons, List.map_nil, List.length_cons, List.length_nil, List.replicate, List.cons_append, List.nil_append, List.append_nil, List.getElem?_cons_zero, List.getElem?_cons_succ, List.set_cons_zero, List.set_cons_succ, Option.some.injEq, V.ref.injEq, V.str.injEq, V.int.injEq, V.bl.injEq, exists_eq, exists_eq', exists_eq_left, exists_eq_left', exists_and_left, exists_and_right, List.cons.injEq, and_true, true_and, and_assoc, rU]
    have f9 := f4.trans e9
    obtain ⟨lp, la, lb, lc, xa, xb, xc, eo, nlp, hlp, na, nb, nc, ha, hb, hc, da, db, dc⟩ := (dl.keep e9.keep).lab3
    refine ⟨lp, eo, _, .inl (.inl hlp), .ref lc, at_of (j := 2) rfl rfl, lc, rfl, xc, .inl (.inl (.inl hc)), lp, eo, _, .inl (.inl hlp), .ref lc, at_of (j := 2) rfl rfl, lc, rfl, xc, .inl (.inl (.inl hc)), ?_⟩
    refine ⟨M, b, L, rfl, f9.g, fun i HB eB => ⟨by rw [sizeLine_eq]; omega, fun p3 hp3 => ?_⟩⟩
    obtain ⟨g2, np, e2'⟩ := eB.g.txt (xs := [V.int 0, V.int (xc.length - 1), V.int xc.length, V.int (-1), V.int i]) hp3
    refine ⟨M, b, L, p3, _, rfl, g2, np, upd_same, by simp, by simp, fun x HC hx eC => ?_⟩
    obtain ⟨y, rfl⟩ : ∃ y : Int, x = .int y := by
      simp at hx
      rcases hx with rfl | rfl | rfl | rfl | rfl <;> exact ⟨_, rfl⟩
    exact ⟨by rw [sizeLine_eq]; omega, fin (.strike zn y) _ HC ((f9.trans eB).trans (e2'.trans eC)) (DAs.cons (DA.str' _) (DAs.cons (DA.str' _) (DAs.cons (DA.int' _) DAs.nil))) sn⟩
  rotate_left
  · simp only [tSeq, tDrop, tVar, tC, tCall, tCons, tNil, tFld, sFld, sDPut, tDGet, tRet, tRetN, tIfS, tTest, tB, tNot, tAnd, tOr, tOp, tUn, rI0, rI, tNext, tDIn, tDNotIn, tDNewK, tIf, tAndV, tOrV, tNotV, tAsg, gName, gCons, gNil, gTup, tPar, tTup, tLst, tMeth, tCB, rEq, rNe, tBM, rAppend, tBM0, tChain, rIxL, rIxT, rIxS, rIx, L2.start, cxK, cxW, kV_inr, List.map_cons, List.map_nil, List.length_cons, List.length_nil, List.replicate, List.cons_append, List.nil_append, List.append_nil, List.getElem?_cons_zero, List.getElem?_cons_succ, List.set_cons_zero, List.set_cons_succ, Option.some.injEq, V.ref.injEq, V.str.injEq, V.int.injEq, V.bl.injEq, exists_eq, exists_eq', exists_eq_left, exists_eq_left', exists_and_left, exists_and_right, List.cons.injEq, and_true, true_and, and_assoc]
    exact ⟨rfl, hK _ _ e8⟩
  refine seq_if (G := fun H2 => Dr M b L H4 H2) (fun HA eA => ?_) (fun HA eA => ?_) (fun K hK => ?_)
  · simp only [tSeq, tDrop, tVar, tC, tCall, tCons, tNil, tFld, sFld, sDPut, tDGet, tRet, tRetN, tIfS, tTest, tB, tNot, tAnd, tOr, tOp, tUn, rI0, rI, tNext, tDIn, tDNotIn, tDNewK, tIf, tAndV, tOrV, tNotV, tAsg, gName, gCons, gNil, gTup, tPar, tTup, tLst, tMeth, tCB, rEq, rNe, tBM, rAppend, tBM0, tChain, rIxL, rIxT, rIxS, rIx, L2.start, cxK, cxW, kV_inr, List.map_cons, List.map_nil, List.length_cons, List.length_nil, List.replicate, List.cons_append, List.nil_append, List.append_nil, List.getElem?_cons_zero, List.getElem?_cons_succ, List.set_cons_zero, List.set_cons_succ, Option.some.injEq, V.ref.injEq, V.str.injEq, V.int.injEq, V.bl.injEq, exists_eq, exists_eq', exists_eq_left, exists_eq_left', exists_and_left, exists_and_right, List.cons.injEq, and_true, true_and, and_assoc]
    have fA := f4.trans eA
    exact ⟨M, b, L, q, l, .ref p, st, ws, rfl, fA.g, ⟨p, d1, d2, k1, k2, rfl, ls.keep fA.keep⟩, t3, tw.keep fA.keep, w12, tl.keep fA.keep, fun v n wi H' d da sh => k v (.wish n wi) H' (fA.trans d) da sh⟩
  rotate_left
  · simp only [tSeq, tDrop, tVar, tC, tCall, tCons, tNil, tFld, sFld, sDPut, tDGet, tRet, tRetN, tIfS, tTest, tB, tNot, tAnd, tOr, tOp, tUn, rI0, rI, tNext, tDIn, tDNotIn, tDNewK, tIf, tAndV, tOrV, tNotV, tAsg, gName, gCons, gNil, gTup, tPar, tTup, tLst, tMeth, tCB, rEq, rNe, tBM, rAppend, tBM0, tChain, rIxL, rIxT, rIxS, rIx, L2.start, cxK, cxW, kV_inr, List.map_cons, List.map_nil, List.length_cons, List.length_nil, List.replicate, List.cons_append, List.nil_append, List.append_nil, List.getElem?_cons_zero, List.getElem?_cons_succ, List.set_cons_zero, List.set_cons_succ, Option.some.injEq, V.ref.injEq, V.str.injEq, V.int.injEq, V.bl.injEq, exists_eq, exists_eq', exists_eq_left, exists_eq_left', exists_and_left, exists_and_right, List.cons.injEq, and_true, true_and, and_assoc]
    exact hK _ _ e9
  simp only [tSeq, tDrop, tVar, tC, tCall, tCons, tNil, tFld, sFld, sDPut, tDGet, tRet, tRetN, tIfS, tTest, tB, tNot, tAnd, tOr, tOp, tUn, rI0, rI, tNext, tDIn, tDNotIn, tDNewK, tIf, tAndV, tOrV, tNotV, tAsg, gName, gCons, gNil, gTup, tPar, tTup, tLst, tMeth, tCB, rEq, rNe, tBM, rAppend, tBM0, tChain, rIxL, rIxT, rIxS, rIx, L2.start, cxK, cxW, kV_inr, List.map_cons, List.map_nil, List.length_cons, List.length_nil, List.replicate, List.cons_append, List.nil_append, List.append_nil, List.getElem?_cons_zero, List.getElem?_cons_succ, List.set_cons_zero, List.set_cons_succ, Option.some.injEq, V.ref.injEq, V.str.injEq, V.int.injEq, V.bl.injEq, exists_eq, exists_eq', exists_eq_left, exists_eq_left', exists_and_left, exists_and_right, List.cons.injEq, and_true, true_and, and_assoc]
  have fA := f4.trans eA
  refine ⟨k2, .inl (fA.keep _ _ ls.n2 ls.h2), fun p3 hp3 => ?_⟩
  have eB := fA.same (Same.up (o := .lst (k2.map fun kv => kV kv.1)) hp3)
  exact pick_go eB.g (keys_txl ls.r2 fA.g.tr hp3 t3.l2 t3.n2) (tw.keep eB.keep) (by omega) fun z HC hz eC => ⟨by rw [sizeLine_eq]; omega, fin (.unwish z) _ HC (eB.trans eC) (DAs.cons (DA.str' _) (DAs.cons (DA.str' _) DAs.nil)) hz.short⟩
end
end K51


set_option Elab.async false
set_option linter.all false
set_option maxRecDepth 100000
namespace K51
open PySem PySem.Spec PyProof.Rows L2
/-! ### the plain law: the refusal by the law's own book is the program's, on states that can come -/
theorem thn1_none {a b : Option Str} : thn1 a b = none ↔ a = none ∧ b = none := by
  cases a with
  | none => exact ⟨fun h => ⟨rfl, h⟩, fun h => h.2⟩
  | some w => exact ⟨fun h => (by cases h), fun h => (by cases h.1)⟩
theorem thn1_left {a b : Option Str} (h : a = none) : thn1 a b = b := by rw [h]; rfl
theorem thn1_right {a b : Option Str} (h : b = none) : thn1 a b = a := by rw [h]; cases a <;> rfl
theorem thn1_assoc (a b c : Option Str) : thn1 (thn1 a b) c = thn1 a (thn1 b c) := by cases a <;> rfl
theorem okI_none {b : Bool} {w : Str} : okIf b w = none ↔ b = true := by
  cases b with
  | true => exact ⟨fun _ => rfl, fun _ => rfl⟩
  | false => exact ⟨fun h => (by cases h), fun h => (by cases h)⟩
theorem okI_t {b : Bool} {w : Str} (h : b = true) : okIf b w = none := okI_none.mpr h
theorem okI_f {b : Bool} {w : Str} (h : b = false) : okIf b w = some w := by rw [h]; rfl
theorem chkMs_app (p : Str × Str) : ∀ (l d : List (Str × Str)), chkMs d (l ++ [p]) = thn1 (chkMs d l) (chkM (d ++ l) p)
  | [], d => by
    show thn1 (chkM d p) none = thn1 none (chkM (d ++ []) p)
    rw [thn1_right rfl, List.append_nil]
    rfl
  | q :: r, d => by
    show thn1 (chkM d q) (chkMs (d ++ [q]) (r ++ [p])) = thn1 (thn1 (chkM d q) (chkMs (d ++ [q]) r)) (chkM (d ++ q :: r) p)
    rw [chkMs_app p r (d ++ [q]), thn1_assoc, List.append_assoc]
    rfl
theorem chkRs_app (p : Str × Str) : ∀ (l d : List (Str × Str)), chkRs d (l ++ [p]) = thn1 (chkRs d l) (chkR (d ++ l) p)
  | [], d => by
    show thn1 (chkR d p) none = thn1 none (chkR (d ++ []) p)
    rw [thn1_right rfl, List.append_nil]
    rfl
  | q :: r, d => by
    show thn1 (chkR d q) (chkRs (d ++ [q]) (r ++ [p])) = thn1 (thn1 (chkR d q) (chkRs (d ++ [q]) r)) (chkR (d ++ q :: r) p)
    rw [chkRs_app p r (d ++ [q]), thn1_assoc, List.append_assoc]
    rfl
theorem chkVs_app (ms rs : List (Str × Str)) (v : Mv) : ∀ l : List Mv, chkVs ms rs (l ++ [v]) = thn1 (chkVs ms rs l) (chkV ms rs v)
  | [] => by
    show thn1 (chkV ms rs v) none = thn1 none (chkV ms rs v)
    rw [thn1_right rfl]
    rfl
  | q :: r => by
    show thn1 (chkV ms rs q) (chkVs ms rs (r ++ [v])) = thn1 (thn1 (chkV ms rs q) (chkVs ms rs r)) (chkV ms rs v)
    rw [chkVs_app ms rs v r, thn1_assoc]
theorem chkMs_ok : ∀ (l d : List (Str × Str)), chkMs d l = none → ∀ p ∈ l, isName p.1 = true ∧ isName p.2 = true
  | [], _, _ => fun p h => by cases h
  | q :: r, d, h => fun p hp => by
    obtain ⟨h1, h2⟩ := thn1_none.mp (show thn1 (chkM d q) (chkMs (d ++ [q]) r) = none from h)
    rcases List.mem_cons.mp hp with e | e
    · subst e
      obtain ⟨a1, a⟩ := thn1_none.mp (show thn1 (okIf (isName p.1) "badname") (thn1 (okIf (isName p.2) "badname") (okIf (!hasK p.1 d) "taken")) = none from h1)
      obtain ⟨a2, _⟩ := thn1_none.mp a
      exact ⟨okI_none.mp a1, okI_none.mp a2⟩
    · exact chkMs_ok r _ h2 p e
theorem chkRs_ok : ∀ (l d : List (Str × Str)), chkRs d l = none → ∀ p ∈ l, isName p.1 = true ∧ wordOf p.2 0 8 = true
  | [], _, _ => fun p h => by cases h
  | q :: r, d, h => fun p hp => by
    obtain ⟨h1, h2⟩ := thn1_none.mp (show thn1 (chkR d q) (chkRs (d ++ [q]) r) = none from h)
    rcases List.mem_cons.mp hp with e | e
    · subst e
      obtain ⟨a1, a⟩ := thn1_none.mp (show thn1 (okIf (isName p.1) "badname") (thn1 (okIf (!hasK p.1 d) "taken") (okIf (wordOf p.2 0 8) "badword")) = none from h1)
      obtain ⟨_, a2⟩ := thn1_none.mp a
      exact ⟨okI_none.mp a1, okI_none.mp a2⟩
    · exact chkRs_ok r _ h2 p e
theorem nodK_snoc {α : Type} {d : List (Str × α)} {q : Str × α} (h : NodK d) (n : hasK q.1 d = false) : NodK (d ++ [q]) := by
  unfold NodK
  rw [List.map_append]
  refine List.nodup_append.mpr ⟨h, by simp, fun a ha b hb => ?_⟩
  have e : b = q.1 := by simpa using hb
  intro z
  rw [z, e] at ha
  rw [hasK_mem.mpr ha] at n
  cases n
theorem chkMs_nod : ∀ (l d : List (Str × Str)), chkMs d l = none → NodK d → NodK (d ++ l)
  | [], d, _, n => by rw [List.append_nil]; exact n
  | q :: r, d, h, n => by
    obtain ⟨h1, h2⟩ := thn1_none.mp (show thn1 (chkM d q) (chkMs (d ++ [q]) r) = none from h)
    obtain ⟨_, a⟩ := thn1_none.mp (show thn1 (okIf (isName q.1) "badname") (thn1 (okIf (isName q.2) "badname") (okIf (!hasK q.1 d) "taken")) = none from h1)
    have a2 := okI_none.mp (thn1_none.mp a).2
    have e := chkMs_nod r (d ++ [q]) h2 (nodK_snoc n (by simpa using a2))
    rw [List.append_assoc] at e
    exact e
theorem chkRs_nod : ∀ (l d : List (Str × Str)), chkRs d l = none → NodK d → NodK (d ++ l)
  | [], d, _, n => by rw [List.append_nil]; exact n
  | q :: r, d, h, n => by
    obtain ⟨h1, h2⟩ := thn1_none.mp (show thn1 (chkR d q) (chkRs (d ++ [q]) r) = none from h)
    obtain ⟨_, a⟩ := thn1_none.mp (show thn1 (okIf (isName q.1) "badname") (thn1 (okIf (!hasK q.1 d) "taken") (okIf (wordOf q.2 0 8) "badword")) = none from h1)
    have a2 := okI_none.mp (thn1_none.mp a).1
    have e := chkRs_nod r (d ++ [q]) h2 (nodK_snoc n (by simpa using a2))
    rw [List.append_assoc] at e
    exact e
theorem chkVs_mem {ms rs : List (Str × Str)} : ∀ {l : List Mv}, chkVs ms rs l = none ↔ ∀ v ∈ l, chkV ms rs v = none
  | [] => ⟨fun _ v h => (by cases h), fun _ => rfl⟩
  | q :: r => by
    have ih := chkVs_mem (ms := ms) (rs := rs) (l := r)
    have e : chkVs ms rs (q :: r) = thn1 (chkV ms rs q) (chkVs ms rs r) := rfl
    rw [e, thn1_none, ih]
    constructor
    · intro h v hv
      rcases List.mem_cons.mp hv with z | z
      · rw [z]; exact h.1
      · exact h.2 v z
    · intro h
      exact ⟨h q (by simp), fun v hv => h v (by simp [hv])⟩
theorem chkA_mono {rs rs' : List (Str × Str)} (h : ∀ z, hasK z rs = true → hasK z rs' = true) {a : Act} (k : chkA rs a = none) : chkA rs' a = none := by
  unfold chkA at k ⊢
  obtain ⟨k1, k2⟩ := thn1_none.mp k
  refine thn1_none.mpr ⟨?_, k2⟩
  cases e : a.row? with
  | none => rfl
  | some r =>
    rw [e] at k1
    exact okI_t (h r (okI_none.mp k1))
theorem chkV_mono {ms rs ms' rs' : List (Str × Str)} (h1 : ∀ z, hasK z ms = true → hasK z ms' = true) (h2 : ∀ z, hasK z rs = true → hasK z rs' = true) {v : Mv} (k : chkV ms rs v = none) : chkV ms' rs' v = none := by
  unfold chkV at k ⊢
  obtain ⟨k1, k⟩ := thn1_none.mp k
  obtain ⟨k2, k⟩ := thn1_none.mp k
  obtain ⟨k3, k4⟩ := thn1_none.mp k
  exact thn1_none.mpr ⟨okI_t (h1 _ (okI_none.mp k1)), thn1_none.mpr ⟨k2, thn1_none.mpr ⟨k3, chkA_mono h2 k4⟩⟩⟩
theorem hasK_app {α : Type} {z : Str} {l r : List (Str × α)} (h : hasK z l = true) : hasK z (l ++ r) = true := by
  unfold hasK at h ⊢
  rw [List.any_append, h]
  rfl
/-- a lab that can come -/
structure GoodL (L : Lab) : Prop where
  ms : chkMs [] L.ms = none
  rs : chkRs [] L.rs = none
  mv : chkVs L.ms L.rs L.mv = none
  lm : L.ms.length ≤ 3
  lr : L.rs.length ≤ 3
  lv : L.mv.length ≤ 24
  cr : crowded L.ms L.mv = false
theorem GoodL.of {L : Lab} (h : chkLab L = none) : GoodL L := by
  unfold chkLab at h
  obtain ⟨h1, h⟩ := thn1_none.mp h
  obtain ⟨h2, h⟩ := thn1_none.mp h
  obtain ⟨h3, h⟩ := thn1_none.mp h
  unfold chkFull at h
  obtain ⟨h4, h5⟩ := thn1_none.mp h
  have h4 := okI_none.mp h4
  have h5 := okI_none.mp h5
  simp at h4 h5
  exact ⟨h1, h2, h3, by omega, by omega, by omega, h5⟩
theorem GoodL.nm {L : Lab} (g : GoodL L) : NodK L.ms := chkMs_nod L.ms [] g.ms (by unfold NodK; exact List.nodup_nil)
theorem GoodL.nr {L : Lab} (g : GoodL L) : NodK L.rs := chkRs_nod L.rs [] g.rs (by unfold NodK; exact List.nodup_nil)
theorem name_len {z : Str} (h : isName z = true) : z.length ≤ 8 := by
  unfold isName wordOf at h
  simp at h
  omega
theorem word_len {z : Str} (h : wordOf z 0 8 = true) : z.length ≤ 8 := by
  unfold wordOf at h
  simp at h
  omega
theorem GoodL.mshort {L : Lab} (g : GoodL L) : ∀ p ∈ L.ms, p.1.length ≤ 8 ∧ p.2.length ≤ 8 := fun p hp => ⟨name_len (chkMs_ok _ _ g.ms p hp).1, name_len (chkMs_ok _ _ g.ms p hp).2⟩
theorem GoodL.rshort {L : Lab} (g : GoodL L) : ∀ p ∈ L.rs, p.1.length ≤ 8 ∧ p.2.length ≤ 8 := fun p hp => ⟨name_len (chkRs_ok _ _ g.rs p hp).1, word_len (chkRs_ok _ _ g.rs p hp).2⟩
theorem hasK_short {z : Str} {l : List (Str × Str)} (h : hasK z l = true) (s : ∀ p ∈ l, p.1.length ≤ 8 ∧ p.2.length ≤ 8) : z.length ≤ 8 := by
  obtain ⟨p, hp, e⟩ := List.mem_map.mp (hasK_mem.mp h)
  rw [← e]
  exact (s p hp).1
theorem letter_len {z : Str} (h : isLetter z = true) : z.length ≤ 8 := by
  unfold isLetter at h
  simp at h
  omega
theorem GoodL.vshort {L : Lab} (g : GoodL L) : ∀ v ∈ L.mv, v.m.length ≤ 8 ∧ v.s.length ≤ 8 ∧ v.e.length ≤ 8 ∧ ∀ z ∈ v.a.ss, z.length ≤ 8 := fun v hv => by
  have k := chkVs_mem.mp g.mv v hv
  unfold chkV at k
  obtain ⟨k1, k⟩ := thn1_none.mp k
  obtain ⟨k2, k⟩ := thn1_none.mp k
  obtain ⟨k3, k4⟩ := thn1_none.mp k
  refine ⟨hasK_short (okI_none.mp k1) g.mshort, name_len (okI_none.mp k2), name_len (okI_none.mp k3), ?_⟩
  unfold chkA at k4
  obtain ⟨k5, k6⟩ := thn1_none.mp k4
  have w1 : ("idle" : Str).length ≤ 8 := by decide
  have w2 : ("bare" : Str).length ≤ 8 := by decide
  have w3 : ("send" : Str).length ≤ 8 := by decide
  have w4 : ("take" : Str).length ≤ 8 := by decide
  cases e : v.a with
  | idle =>
    intro z hz
    have : z = "idle" := by simpa [Act.ss] using hz
    rw [this]; exact w1
  | bare r =>
    rw [e] at k5
    intro z hz
    have : z = "bare" ∨ z = r := by simpa [Act.ss] using hz
    rcases this with q | q
    · rw [q]; exact w2
    · rw [q]; exact hasK_short (okI_none.mp k5) g.rshort
  | send r l =>
    rw [e] at k5 k6
    intro z hz
    have : z = "send" ∨ z = r ∨ z = l := by simpa [Act.ss] using hz
    rcases this with q | q | q
    · rw [q]; exact w3
    · rw [q]; exact hasK_short (okI_none.mp k5) g.rshort
    · rw [q]; exact letter_len (okI_none.mp k6)
  | take r l =>
    rw [e] at k5 k6
    intro z hz
    have : z = "take" ∨ z = r ∨ z = l := by simpa [Act.ss] using hz
    rcases this with q | q | q
    · rw [q]; exact w4
    · rw [q]; exact hasK_short (okI_none.mp k5) g.rshort
    · rw [q]; exact letter_len (okI_none.mp k6)
theorem GoodL.fine {L : Lab} (g : GoodL L) : FineL L := by
  have h1 := g.lm
  have h2 := g.lr
  have h3 := g.lv
  refine ⟨g.nm.once, g.nr.once, ⟨by omega, fun p hp => ?_⟩, ⟨by omega, fun p hp => ?_⟩, ⟨by omega, fun v hv => ?_⟩, by omega, by omega, by omega⟩
  · have := g.mshort p hp
    exact ⟨by show _ ≤ 1000; omega, by show _ ≤ 1000; omega⟩
  · have := g.rshort p hp
    exact ⟨by show _ ≤ 1000; omega, by show _ ≤ 1000; omega⟩
  · obtain ⟨a, b, c, d⟩ := g.vshort v hv
    exact ⟨by show _ ≤ 1000; omega, by show _ ≤ 1000; omega, fun z hz => by show _ ≤ 1000; have := d z hz; omega, by show _ ≤ 1000; omega⟩
theorem GoodL.t3 {L : Lab} (g : GoodL L) : T3L L := by
  have h1 := g.lm
  have h2 := g.lr
  have h3 := g.lv
  refine ⟨⟨by omega, fun p hp => ?_⟩, ⟨by omega, fun p hp => ?_⟩, by omega, fun v hv => ?_⟩
  · have := g.mshort p hp
    exact ⟨by show _ ≤ 300; omega, by show _ ≤ 300; omega⟩
  · have := g.rshort p hp
    exact ⟨by show _ ≤ 300; omega, by show _ ≤ 300; omega⟩
  · obtain ⟨a, b, c, d⟩ := g.vshort v hv
    show _ ≤ 300
    omega
/-- a state that can come -/
structure Good (st : St) : Prop where
  n1 : NodK st.labs
  n2 : NodK st.wishes
  l1 : st.labs.length ≤ 6
  l2 : st.wishes.length ≤ 12
  a1 : ∀ p ∈ st.labs, isName p.1 = true ∧ chkLab p.2 = none
  a2 : ∀ p ∈ st.wishes, isName p.1 = true
theorem getK_mem {α : Type} {z : Str} {l : List (Str × α)} {a : α} (h : getK z l = some a) : (z, a) ∈ l := by
  unfold getK at h
  cases e : l.find? fun p => decide (p.1 = z) with
  | none => rw [e] at h; cases h
  | some p =>
    rw [e] at h
    have h1 : p.2 = a := Option.some.inj h
    have h2 := List.find?_some e
    have h3 : p.1 = z := of_decide_eq_true h2
    have h4 := List.mem_of_find?_eq_some e
    rw [← h1, ← h3]
    exact h4
theorem Good.lab {st : St} (g : Good st) {n : Str} {L : Lab} (h : getK n st.labs = some L) : isName n = true ∧ GoodL L := ⟨(g.a1 _ (getK_mem h)).1, .of (g.a1 _ (getK_mem h)).2⟩
theorem Good.fine {st : St} (g : Good st) : Fine st := by
  have h1 := g.l1
  have h2 := g.l2
  exact ⟨by omega, by omega, fun n L h => (g.lab h).2.fine⟩
theorem Good.t3 {st : St} (g : Good st) : T3S st := by
  have h1 := g.l1
  have h2 := g.l2
  refine ⟨by omega, by omega, fun p hp => ?_, fun p hp => ?_, fun n L h => (g.lab h).2.t3⟩
  · have := name_len (g.a1 p hp).1
    show _ ≤ 300
    omega
  · have := name_len (g.a2 p hp)
    show _ ≤ 300
    omega
theorem good0 : Good ⟨[], []⟩ := ⟨List.nodup_nil, List.nodup_nil, by simp, by simp, fun p h => (by cases h), fun p h => (by cases h)⟩
/-! ### what setK, delK keep -/
theorem setK_keys {α : Type} {z : Str} {v : α} {l : List (Str × α)} (h : hasK z l = true) : (setK z v l).map (·.1) = l.map (·.1) := by
  unfold setK
  rw [if_pos h, List.map_map]
  refine List.map_congr_left fun p _ => ?_
  show (if p.1 = z then (p.1, v) else p).1 = p.1
  split <;> rfl
theorem setK_new {α : Type} {z : Str} {v : α} {l : List (Str × α)} (h : hasK z l = false) : setK z v l = l ++ [(z, v)] := by
  unfold setK
  rw [h]
  exact if_neg (by simp)
theorem setK_mem {α : Type} {z : Str} {v : α} {l : List (Str × α)} {p : Str × α} (h : p ∈ setK z v l) : p ∈ l ∨ p = (z, v) := by
  unfold setK at h
  split at h
  · obtain ⟨q, hq, e⟩ := List.mem_map.mp h
    by_cases c : q.1 = z
    · rw [if_pos c] at e
      rw [← e, c]
      exact .inr rfl
    · rw [if_neg c] at e
      rw [← e]
      exact .inl hq
  · rcases List.mem_append.mp h with e | e
    · exact .inl e
    · exact .inr (by simpa using e)
theorem setK_nod {α : Type} {z : Str} {v : α} {l : List (Str × α)} (h : NodK l) : NodK (setK z v l) := by
  cases e : hasK z l with
  | true =>
    unfold NodK
    rw [setK_keys e]
    exact h
  | false =>
    rw [setK_new e]
    exact nodK_snoc h e
theorem setK_len {α : Type} {z : Str} {v : α} {l : List (Str × α)} : (setK z v l).length = if hasK z l then l.length else l.length + 1 := by
  unfold setK
  split
  · rw [List.length_map]
  · rw [List.length_append]; rfl
theorem filter_nod {α : Type} {l : List (Str × α)} {f : Str × α → Bool} (h : NodK l) : NodK (l.filter f) := List.Nodup.sublist (List.Sublist.map _ List.filter_sublist) h
theorem onLab_none {st : St} {n : Str} {g : Lab → Option Str} (h : onLab st n g = none) : ∃ L, getK n st.labs = some L ∧ g L = none := by
  unfold onLab at h
  cases e : getK n st.labs with
  | none => rw [e] at h; cases h
  | some L => rw [e] at h; exact ⟨L, rfl, h⟩
theorem getK_has {α : Type} {z : Str} {l : List (Str × α)} {a : α} (h : getK z l = some a) : hasK z l = true := by rw [hasK_get, h]; rfl
theorem Good.edit {st : St} (g : Good st) {n : Str} {L : Lab} {f : Lab → Lab} (h : getK n st.labs = some L) (k : chkLab (f L) = none) : Good (editL st n f) := by
  rw [editL_some h]
  refine ⟨setK_nod g.n1, g.n2, ?_, g.l2, fun p hp => ?_, g.a2⟩
  · show (setK n (f L) st.labs).length ≤ 6
    rw [setK_len, getK_has h]
    exact g.l1
  · rcases setK_mem hp with e | e
    · exact g.a1 p e
    · rw [e]
      exact ⟨(g.lab h).1, k⟩
theorem Good.after {st : St} (g : Good st) {d : Deed} (h : dueP st d = none) : Good (after st d) := by
  cases d with
  | lab n =>
    obtain ⟨h1, h⟩ := thn1_none.mp (show thn1 _ (thn1 _ _) = none from h)
    obtain ⟨h2, h3⟩ := thn1_none.mp h
    have h1 := okI_none.mp h1
    have h2 : hasK n st.labs = false := by simpa using okI_none.mp h2
    have h3 : st.labs.length < 6 := of_decide_eq_true (okI_none.mp h3)
    refine ⟨setK_nod g.n1, g.n2, ?_, g.l2, fun p hp => ?_, g.a2⟩
    · show (setK n _ st.labs).length ≤ 6
      rw [setK_len, h2]
      show st.labs.length + 1 ≤ 6
      omega
    · rcases setK_mem hp with e | e
      · exact g.a1 p e
      · rw [e]
        exact ⟨h1, rfl⟩
  | drop n =>
    refine ⟨filter_nod g.n1, filter_nod g.n2, Nat.le_trans (List.length_filter_le _ _) g.l1, Nat.le_trans (List.length_filter_le _ _) g.l2, fun p hp => g.a1 p ((List.mem_filter.mp hp).1), fun p hp => g.a2 p ((List.mem_filter.mp hp).1)⟩
  | machine n m f =>
    obtain ⟨L, e, k⟩ := onLab_none h
    exact g.edit e k
  | row n m f =>
    obtain ⟨L, e, k⟩ := onLab_none h
    exact g.edit e k
  | move n v =>
    obtain ⟨L, e, k⟩ := onLab_none h
    exact g.edit e k
  | strike n i =>
    obtain ⟨L, e, k⟩ := onLab_none h
    exact g.edit e (thn1_none.mp k).2
  | wish n w =>
    obtain ⟨h1, h⟩ := thn1_none.mp (show thn1 _ (thn1 _ _) = none from h)
    obtain ⟨h2, h3⟩ := thn1_none.mp h
    have h1 := okI_none.mp h1
    have h2 : hasK n st.wishes = false := by simpa using okI_none.mp h2
    obtain ⟨L, e, k⟩ := onLab_none h3
    have h4 : st.wishes.length < 12 := of_decide_eq_true (okI_none.mp (thn1_none.mp k).2)
    refine ⟨g.n1, setK_nod g.n2, g.l1, ?_, g.a1, fun p hp => ?_⟩
    · show (setK n w st.wishes).length ≤ 12
      rw [setK_len, h2]
      show st.wishes.length + 1 ≤ 12
      omega
    · rcases setK_mem hp with e | e
      · exact g.a2 p e
      · rw [e]
        exact h1
  | unwish n =>
    refine ⟨g.n1, filter_nod g.n2, g.l1, Nat.le_trans (List.length_filter_le _ _) g.l2, g.a1, fun p hp => g.a2 p ((List.mem_filter.mp hp).1)⟩
end K51

set_option Elab.async false
set_option linter.all false
set_option maxRecDepth 100000
namespace K51
open PySem PySem.Spec PyProof.Rows L2
/-! ### unlike texts, counted -/
theorem ins_mem {l : List Str} {x y : Str} : y ∈ ins l x ↔ y ∈ l ∨ y = x := by
  unfold ins
  split
  · rename_i h
    have hx : x ∈ l := by simpa using h
    constructor
    · exact .inl
    · rintro (z | z)
      · exact z
      · rw [z]; exact hx
  · simp
theorem ins_nodup {l : List Str} {x : Str} (h : l.Nodup) : (ins l x).Nodup := by
  unfold ins
  split
  · exact h
  · rename_i hx
    have hx : x ∉ l := by simpa using hx
    refine List.nodup_append.mpr ⟨h, by simp, fun a ha b hb => ?_⟩
    have e : b = x := by simpa using hb
    intro z
    rw [z, e] at ha
    exact hx ha
theorem fold_ins : ∀ (xs l : List Str), l.Nodup → (xs.foldl ins l).Nodup ∧ ∀ y, y ∈ xs.foldl ins l ↔ y ∈ l ∨ y ∈ xs
  | [], l, h => ⟨h, fun y => by simp⟩
  | x :: xs, l, h => by
    obtain ⟨h1, h2⟩ := fold_ins xs (ins l x) (ins_nodup h)
    refine ⟨h1, fun y => ?_⟩
    show y ∈ xs.foldl ins (ins l x) ↔ _
    rw [h2 y, ins_mem, List.mem_cons, or_assoc]
theorem uniq_nodup (xs : List Str) : (uniq xs).Nodup := (fold_ins xs [] List.nodup_nil).1
theorem uniq_mem {xs : List Str} {y : Str} : y ∈ uniq xs ↔ y ∈ xs := by
  unfold uniq
  rw [(fold_ins xs [] List.nodup_nil).2 y]
  simp
theorem uniq_mono {xs ys : List Str} (h : ∀ y ∈ xs, y ∈ ys) : (uniq xs).length ≤ (uniq ys).length :=
  List.Nodup.length_le_of_subset (uniq_nodup xs) fun y hy => uniq_mem.mpr (h y (uniq_mem.mp hy))
/-! ### the law's own book -/
def freshO (z : Str) (has : Bool) (room : Bool) : Option Str := thn1 (okIf (isName z) "badname") (thn1 (okIf (!has) "taken") (okIf room "full"))
/-- the stands of a moved machine, as the law gathers them -/
def heldL (L : Lab) (v : Mv) : List Str := ((L.ms.filter fun p => decide (p.1 = v.m)).map fun p => p.2) ++ ((L.mv ++ [v]).filter fun u => decide (u.m = v.m)).flatMap fun u => [u.s, u.e]
def editW (L : Lab) : Deed → Option Str
  | .machine _ m f => thn1 (okIf (isName f) "badname") (freshO m (hasK m L.ms) (decide (L.ms.length < 3)))
  | .row _ r z => thn1 (thn1 (freshO r (hasK r L.rs) (decide (L.rs.length < 99))) (okIf (wordOf z 0 8) "badword")) (okIf (!decide (2 < L.rs.length)) "full")
  | .move _ v => thn1 (chkV L.ms L.rs v) (okIf (!(decide (23 < L.mv.length) || decide (6 < (uniq (heldL L v)).length))) "full")
  | _ => none
def lawDue (st : St) : Deed → Option Str
  | .lab n => freshO n (hasK n st.labs) (decide (st.labs.length < 6))
  | .unwish n => okIf (hasK n st.wishes) "nowish"
  | .wish n w => thn1 (freshO n (hasK n st.wishes) (decide (st.wishes.length < 99))) (onLab st w.lab fun L => thn1 (okIf (wishOk L w) "badwish") (okIf (!decide (11 < st.wishes.length)) "full"))
  | .drop n => onLab st n fun _ => none
  | .strike n i => onLab st n fun L => okIf (inB i L.mv.length) "nomove"
  | .machine n m f => onLab st n fun L => editW L (.machine n m f)
  | .row n r z => onLab st n fun L => editW L (.row n r z)
  | .move n v => onLab st n fun L => editW L (.move n v)
theorem onLab_eq {st : St} {n : Str} {f h : Lab → Option Str} (k : ∀ L, getK n st.labs = some L → f L = h L) : onLab st n f = onLab st n h := by
  unfold onLab
  cases e : getK n st.labs with
  | none => rfl
  | some L => exact k L e
theorem held_new {ms : List (Str × Str)} {rs : List (Str × Str)} {mv : List Mv} {m f : Str} (h : chkVs ms rs mv = none) (n : hasK m ms = false) : held f mv m = [f] := by
  have e : (mv.filter fun v => decide (v.m = m)) = [] := by
    refine List.filter_eq_nil_iff.mpr fun v hv => ?_
    have k := chkVs_mem.mp h v hv
    unfold chkV at k
    have k1 := okI_none.mp (thn1_none.mp k).1
    simp only [decide_eq_true_eq]
    intro z
    rw [z, n] at k1
    cases k1
  unfold held
  rw [e]
  rfl
theorem lab_machine {L : Lab} (g : GoodL L) (n m f : Str) : chkLab ⟨L.ms ++ [(m, f)], L.rs, L.mv⟩ = editW L (.machine n m f) := by
  have l1 := g.lm
  have l2 := g.lr
  have l3 := g.lv
  have e3 : chkVs (L.ms ++ [(m, f)]) L.rs L.mv = none := chkVs_mem.mpr fun v hv => chkV_mono (fun z hz => hasK_app hz) (fun z hz => hz) (chkVs_mem.mp g.mv v hv)
  show thn1 (chkMs [] (L.ms ++ [(m, f)])) (thn1 (chkRs [] L.rs) (thn1 (chkVs (L.ms ++ [(m, f)]) L.rs L.mv) (chkFull ⟨L.ms ++ [(m, f)], L.rs, L.mv⟩))) = _
  rw [chkMs_app, g.ms, g.rs, e3]
  show thn1 (chkM L.ms (m, f)) (chkFull ⟨L.ms ++ [(m, f)], L.rs, L.mv⟩) = thn1 (okIf (isName f) "badname") (freshO m (hasK m L.ms) (decide (L.ms.length < 3)))
  unfold chkM freshO
  show thn1 (thn1 (okIf (isName m) "badname") (thn1 (okIf (isName f) "badname") (okIf (!hasK m L.ms) "taken"))) _ = _
  cases isName m with
  | false =>
    cases isName f <;> rfl
  | true =>
  cases isName f with
  | false => rfl
  | true =>
  cases hk : hasK m L.ms with
  | true => rfl
  | false =>
  show chkFull ⟨L.ms ++ [(m, f)], L.rs, L.mv⟩ = okIf (decide (L.ms.length < 3)) "full"
  unfold chkFull
  have ec : crowded (L.ms ++ [(m, f)]) L.mv = false := by
    unfold crowded
    rw [List.any_append]
    have := g.cr
    unfold crowded at this
    rw [this]
    show (decide (6 < (uniq (held f L.mv m)).length) || false) = false
    rw [held_new g.mv hk]
    rfl
  show thn1 (okIf (!(decide (3 < (L.ms ++ [(m, f)]).length) || (decide (3 < L.rs.length) || decide (24 < L.mv.length)))) "full") (okIf (!crowded (L.ms ++ [(m, f)]) L.mv) "full") = _
  rw [ec, decide_eq_false (show ¬ 3 < L.rs.length by omega), decide_eq_false (show ¬ 24 < L.mv.length by omega), List.length_append, thn1_right (b := okIf (!false) "full") rfl]
  have e : (!(decide (3 < L.ms.length + [(m, f)].length) || (false || false))) = decide (L.ms.length < 3) := by
    show (!(decide (3 < L.ms.length + 1) || (false || false))) = _
    by_cases h : L.ms.length < 3
    · rw [decide_eq_true h, decide_eq_false (by omega)]; rfl
    · rw [decide_eq_false h, decide_eq_true (by omega)]; rfl
  rw [e]
theorem lab_row {L : Lab} (g : GoodL L) (n r z : Str) : chkLab ⟨L.ms, L.rs ++ [(r, z)], L.mv⟩ = editW L (.row n r z) := by
  have l1 := g.lm
  have l2 := g.lr
  have l3 := g.lv
  have e3 : chkVs L.ms (L.rs ++ [(r, z)]) L.mv = none := chkVs_mem.mpr fun v hv => chkV_mono (fun z hz => hz) (fun z hz => hasK_app hz) (chkVs_mem.mp g.mv v hv)
  show thn1 (chkMs [] L.ms) (thn1 (chkRs [] (L.rs ++ [(r, z)])) (thn1 (chkVs L.ms (L.rs ++ [(r, z)]) L.mv) (chkFull ⟨L.ms, L.rs ++ [(r, z)], L.mv⟩))) = _
  rw [chkRs_app, g.ms, g.rs, e3]
  show thn1 (chkR L.rs (r, z)) (chkFull ⟨L.ms, L.rs ++ [(r, z)], L.mv⟩) = thn1 (thn1 (freshO r (hasK r L.rs) (decide (L.rs.length < 99))) (okIf (wordOf z 0 8) "badword")) (okIf (!decide (2 < L.rs.length)) "full")
  unfold chkR freshO chkFull
  show thn1 (thn1 (okIf (isName r) "badname") (thn1 (okIf (!hasK r L.rs) "taken") (okIf (wordOf z 0 8) "badword"))) (thn1 (okIf (!(decide (3 < L.ms.length) || (decide (3 < (L.rs ++ [(r, z)]).length) || decide (24 < L.mv.length)))) "full") (okIf (!crowded L.ms L.mv) "full")) = _
  rw [g.cr, decide_eq_false (show ¬ 3 < L.ms.length by omega), decide_eq_false (show ¬ 24 < L.mv.length by omega), List.length_append, decide_eq_true (show L.rs.length < 99 by omega), thn1_right (a := okIf (!(false || (decide (3 < L.rs.length + [(r, z)].length) || false))) "full") (b := okIf (!false) "full") rfl, thn1_right (a := okIf (!hasK r L.rs) "taken") (b := okIf true "full") rfl, thn1_assoc]
  have e : (!(false || (decide (3 < L.rs.length + [(r, z)].length) || false))) = !decide (2 < L.rs.length) := by
    show (!(false || (decide (3 < L.rs.length + 1) || false))) = _
    by_cases h : 2 < L.rs.length
    · rw [decide_eq_true h, decide_eq_true (by omega)]; rfl
    · rw [decide_eq_false h, decide_eq_false (by omega)]; rfl
  rw [e]
  simp only [thn1_assoc]
theorem nod_filter {α : Type} {z : Str} {a : α} : ∀ {l : List (Str × α)}, NodK l → (z, a) ∈ l → (l.filter fun p => decide (p.1 = z)) = [(z, a)]
  | [], _, h => by cases h
  | q :: r, n, h => by
    rcases List.mem_cons.mp h with e | e
    · subst e
      rw [List.filter_cons_of_pos (by simp)]
      have : (r.filter fun p => decide (p.1 = z)) = [] := by
        refine List.filter_eq_nil_iff.mpr fun p hp => ?_
        simp only [decide_eq_true_eq]
        intro ez
        have h1 := n.head
        have h2 : hasK z r = true := hasK_mem.mpr (List.mem_map.mpr ⟨p, hp, ez⟩)
        rw [show (z, a).1 = z from rfl, h2] at h1
        cases h1
      rw [this]
    · have hq : ¬ q.1 = z := fun ez => by
        have h1 := n.head
        have h2 : hasK q.1 r = true := hasK_mem.mpr (List.mem_map.mpr ⟨_, e, ez.symm⟩)
        rw [h2] at h1
        cases h1
      rw [List.filter_cons_of_neg (by simpa using hq)]
      exact nod_filter n.tail e
theorem crowd_move {ms : List (Str × Str)} {mv : List Mv} {v : Mv} (n : NodK ms) (c : crowded ms mv = false) (h : hasK v.m ms = true) (rs : List (Str × Str)) : crowded ms (mv ++ [v]) = decide (6 < (uniq (heldL ⟨ms, rs, mv⟩ v)).length) := by
  obtain ⟨q, hq, eq⟩ := List.mem_map.mp (hasK_mem.mp h)
  obtain ⟨z, f⟩ := q
  have eq : z = v.m := eq
  subst eq
  have eh : heldL ⟨ms, rs, mv⟩ v = held f (mv ++ [v]) v.m := by
    unfold heldL held
    show ((ms.filter fun p => decide (p.1 = v.m)).map fun p => p.2) ++ _ = _
    rw [nod_filter n hq]
    rfl
  rw [eh]
  have c0 : ∀ p ∈ ms, ¬ 6 < (uniq (held p.2 mv p.1)).length := fun p hp h6 => by
    have : crowded ms mv = true := List.any_eq_true.mpr ⟨p, hp, decide_eq_true h6⟩
    rw [c] at this
    cases this
  by_cases k : 6 < (uniq (held f (mv ++ [v]) v.m)).length
  · rw [decide_eq_true k]
    exact List.any_eq_true.mpr ⟨_, hq, decide_eq_true k⟩
  · rw [decide_eq_false k]
    cases e : crowded ms (mv ++ [v]) with
    | false => rfl
    | true =>
      exfalso
      obtain ⟨p, hp, hd⟩ := List.any_eq_true.mp e
      have hd := of_decide_eq_true hd
      by_cases ep : p.1 = v.m
      · have e2 : p = (v.m, f) := by
          have h1 : p ∈ ms.filter fun p => decide (p.1 = v.m) := List.mem_filter.mpr ⟨hp, decide_eq_true ep⟩
          rw [nod_filter n hq] at h1
          simpa using h1
        rw [e2] at hd
        exact k hd
      · refine c0 p hp ?_
        have e2 : held p.2 (mv ++ [v]) p.1 = held p.2 mv p.1 := by
          unfold held
          rw [List.filter_append, List.filter_cons_of_neg (by simpa using fun z => ep z.symm), List.filter_nil, List.append_nil]
        rw [e2] at hd
        exact hd
theorem lab_move {L : Lab} (g : GoodL L) (n : Str) (v : Mv) : chkLab ⟨L.ms, L.rs, L.mv ++ [v]⟩ = editW L (.move n v) := by
  have l1 := g.lm
  have l2 := g.lr
  have l3 := g.lv
  show thn1 (chkMs [] L.ms) (thn1 (chkRs [] L.rs) (thn1 (chkVs L.ms L.rs (L.mv ++ [v])) (chkFull ⟨L.ms, L.rs, L.mv ++ [v]⟩))) = _
  rw [chkVs_app, g.ms, g.rs, g.mv]
  show thn1 (chkV L.ms L.rs v) (chkFull ⟨L.ms, L.rs, L.mv ++ [v]⟩) = thn1 (chkV L.ms L.rs v) (okIf (!(decide (23 < L.mv.length) || decide (6 < (uniq (heldL L v)).length))) "full")
  cases e : chkV L.ms L.rs v with
  | some w => rfl
  | none =>
  have hm : hasK v.m L.ms = true := by
    unfold chkV at e
    exact okI_none.mp (thn1_none.mp e).1
  show chkFull ⟨L.ms, L.rs, L.mv ++ [v]⟩ = okIf (!(decide (23 < L.mv.length) || decide (6 < (uniq (heldL L v)).length))) "full"
  unfold chkFull
  show thn1 (okIf (!(decide (3 < L.ms.length) || (decide (3 < L.rs.length) || decide (24 < (L.mv ++ [v]).length)))) "full") (okIf (!crowded L.ms (L.mv ++ [v])) "full") = _
  rw [crowd_move g.nm g.cr hm L.rs, decide_eq_false (show ¬ 3 < L.ms.length by omega), decide_eq_false (show ¬ 3 < L.rs.length by omega), List.length_append]
  show thn1 (okIf (!(false || (false || decide (24 < L.mv.length + 1)))) "full") (okIf (!decide (6 < (uniq (heldL L v)).length)) "full") = _
  have e1 : decide (24 < L.mv.length + 1) = decide (23 < L.mv.length) := by
    by_cases h : 23 < L.mv.length
    · rw [decide_eq_true h, decide_eq_true (by omega)]
    · rw [decide_eq_false h, decide_eq_false (by omega)]
  rw [e1]
  cases decide (23 < L.mv.length) <;> cases decide (6 < (uniq (heldL L v)).length) <;> rfl
theorem lab_strike {L : Lab} (g : GoodL L) (i : Nat) : chkLab ⟨L.ms, L.rs, L.mv.eraseIdx i⟩ = none := by
  have l1 := g.lm
  have l2 := g.lr
  have l3 := g.lv
  have sub : ∀ v ∈ L.mv.eraseIdx i, v ∈ L.mv := fun v hv => List.mem_of_mem_eraseIdx hv
  have le : (L.mv.eraseIdx i).length ≤ L.mv.length := (List.eraseIdx_sublist L.mv i).length_le
  have e3 : chkVs L.ms L.rs (L.mv.eraseIdx i) = none := chkVs_mem.mpr fun v hv => chkVs_mem.mp g.mv v (sub v hv)
  show thn1 (chkMs [] L.ms) (thn1 (chkRs [] L.rs) (thn1 (chkVs L.ms L.rs (L.mv.eraseIdx i)) (chkFull ⟨L.ms, L.rs, L.mv.eraseIdx i⟩))) = _
  rw [g.ms, g.rs, e3]
  have ec : crowded L.ms (L.mv.eraseIdx i) = false := by
    cases e : crowded L.ms (L.mv.eraseIdx i) with
    | false => rfl
    | true =>
      exfalso
      obtain ⟨p, hp, hd⟩ := List.any_eq_true.mp e
      have hd := of_decide_eq_true hd
      have hs : (uniq (held p.2 (L.mv.eraseIdx i) p.1)).length ≤ (uniq (held p.2 L.mv p.1)).length := by
        refine uniq_mono fun y hy => ?_
        unfold held at hy ⊢
        rcases List.mem_cons.mp hy with z | z
        · rw [z]; simp
        · refine List.mem_cons_of_mem _ ?_
          obtain ⟨v, hv, hz⟩ := List.mem_flatMap.mp z
          obtain ⟨hv1, hv2⟩ := List.mem_filter.mp hv
          exact List.mem_flatMap.mpr ⟨v, List.mem_filter.mpr ⟨sub v hv1, hv2⟩, hz⟩
      have : crowded L.ms L.mv = true := List.any_eq_true.mpr ⟨p, hp, decide_eq_true (by omega)⟩
      rw [g.cr] at this
      cases this
  show chkFull ⟨L.ms, L.rs, L.mv.eraseIdx i⟩ = none
  unfold chkFull
  show thn1 (okIf (!(decide (3 < L.ms.length) || (decide (3 < L.rs.length) || decide (24 < (L.mv.eraseIdx i).length)))) "full") (okIf (!crowded L.ms (L.mv.eraseIdx i)) "full") = none
  rw [ec, decide_eq_false (show ¬ 3 < L.ms.length by omega), decide_eq_false (show ¬ 3 < L.rs.length by omega), decide_eq_false (show ¬ 24 < (L.mv.eraseIdx i).length by omega)]
  rfl
theorem lawDue_eq {st : St} (g : Good st) (d : Deed) : lawDue st d = dueP st d := by
  cases d with
  | lab n => rfl
  | unwish n => rfl
  | drop n => rfl
  | wish n w =>
    have l2 := g.l2
    have e1 : decide (st.wishes.length < 99) = true := decide_eq_true (by omega)
    have e2 : (!decide (11 < st.wishes.length)) = decide (st.wishes.length < 12) := by
      by_cases h : 11 < st.wishes.length
      · rw [decide_eq_true h, decide_eq_false (by omega)]; rfl
      · rw [decide_eq_false h, decide_eq_true (by omega)]; rfl
    show thn1 (freshO n (hasK n st.wishes) (decide (st.wishes.length < 99))) (onLab st w.lab fun L => thn1 (okIf (wishOk L w) "badwish") (okIf (!decide (11 < st.wishes.length)) "full")) = thn1 (okIf (isName n) "badname") (thn1 (okIf (!hasK n st.wishes) "taken") (onLab st w.lab fun L => thn1 (okIf (wishOk L w) "badwish") (okIf (decide (st.wishes.length < 12)) "full")))
    rw [e1, e2]
    unfold freshO
    rw [thn1_right (a := okIf (!hasK n st.wishes) "taken") (b := okIf true "full") rfl, thn1_assoc]
  | machine n m f => exact onLab_eq fun L h => (lab_machine (g.lab h).2 n m f).symm
  | row n m f => exact onLab_eq fun L h => (lab_row (g.lab h).2 n m f).symm
  | move n v => exact onLab_eq fun L h => (lab_move (g.lab h).2 n v).symm
  | strike n i =>
    refine onLab_eq fun L h => ?_
    rw [lab_strike (g.lab h).2 i.toNat, thn1_right rfl]
/-! ### no refusal's word is «let», none is empty -/
def isRef (w : Str) : Bool := decide (w ≠ "let") && (decide (w ≠ "") && (decide (w.length ≤ 20) && PyData.strOk w))
theorem ref_ok {b : Bool} {w x : Str} (hw : isRef w = true) (h : okIf b w = some x) : isRef x = true := by
  cases b with
  | true => cases h
  | false =>
    cases h
    exact hw
theorem ref_thn {a b : Option Str} {x : Str} (ha : ∀ y, a = some y → isRef y = true) (hb : ∀ y, b = some y → isRef y = true) (h : thn1 a b = some x) : isRef x = true := by
  cases a with
  | none => exact hb x h
  | some y => exact ha x h
theorem freshO_ref {z : Str} {has room : Bool} {x : Str} (h : freshO z has room = some x) : isRef x = true := by
  unfold freshO at h
  exact ref_thn (fun y h => ref_ok (by decide +kernel) h) (fun y h => ref_thn (fun y h => ref_ok (by decide +kernel) h) (fun y h => ref_ok (by decide +kernel) h) h) h
theorem chkV_ref {ms rs : List (Str × Str)} {v : Mv} {x : Str} (h : chkV ms rs v = some x) : isRef x = true := by
  unfold chkV chkA at h
  refine ref_thn (fun y h => ref_ok (by decide +kernel) h) (fun y h => ref_thn (fun y h => ref_ok (by decide +kernel) h) (fun y h => ref_thn (fun y h => ref_ok (by decide +kernel) h) (fun y h => ref_thn (fun y h => ?_) (fun y h => ?_) h) h) h) h
  · cases e : v.a.row? with
    | none => rw [e] at h; cases h
    | some r => rw [e] at h; exact ref_ok (by decide +kernel) h
  · cases e : v.a.let? with
    | none => rw [e] at h; cases h
    | some r => rw [e] at h; exact ref_ok (by decide +kernel) h
theorem onLab_ref {st : St} {n : Str} {f : Lab → Option Str} {x : Str} (hf : ∀ L y, f L = some y → isRef y = true) (h : onLab st n f = some x) : isRef x = true := by
  unfold onLab at h
  cases e : getK n st.labs with
  | none => rw [e] at h; cases h; decide +kernel
  | some L => rw [e] at h; exact hf L x h
theorem lawDue_ref {st : St} {d : Deed} {x : Str} (h : lawDue st d = some x) : isRef x = true := by
  cases d with
  | lab n => exact freshO_ref h
  | unwish n => exact ref_ok (by decide +kernel) h
  | drop n => exact onLab_ref (fun L y h => by cases h) h
  | strike n i => exact onLab_ref (fun L y h => ref_ok (by decide +kernel) h) h
  | wish n w => exact ref_thn (fun y h => freshO_ref h) (fun y h => onLab_ref (fun L y h => ref_thn (fun y h => ref_ok (by decide +kernel) h) (fun y h => ref_ok (by decide +kernel) h) h) h) h
  | machine n m f => exact onLab_ref (fun L y h => ref_thn (fun y h => ref_ok (by decide +kernel) h) (fun y h => freshO_ref h) h) h
  | row n r z => exact onLab_ref (fun L y h => ref_thn (fun y h => ref_thn (fun y h => freshO_ref h) (fun y h => ref_ok (by decide +kernel) h) h) (fun y h => ref_ok (by decide +kernel) h) h) h
  | move n v => exact onLab_ref (fun L y h => ref_thn (fun y h => chkV_ref h) (fun y h => ref_ok (by decide +kernel) h) h) h
end K51

set_option Elab.async false
set_option linter.all false
set_option maxRecDepth 100000
set_option maxHeartbeats 4000000
namespace K51
open PySem PySem.Spec PyProof.Rows L2
def txt (o : Option Str) : Str := o.getD ""
theorem ref_pos {w : Str} (h : isRef w = true) : w ≠ "let" ∧ w ≠ "" ∧ w.length ≤ 20 := by
  obtain ⟨h1, h⟩ := Bool.and_eq_true_iff.mp h
  obtain ⟨h2, h⟩ := Bool.and_eq_true_iff.mp h
  exact ⟨of_decide_eq_true h1, of_decide_eq_true h2, of_decide_eq_true (Bool.and_eq_true_iff.mp h).1⟩
theorem ref_ok3 {w : Str} (h : isRef w = true) : PyData.strOk w = true := by
  obtain ⟨_, h⟩ := Bool.and_eq_true_iff.mp h
  obtain ⟨_, h⟩ := Bool.and_eq_true_iff.mp h
  exact (Bool.and_eq_true_iff.mp h).2
theorem len0 {w : Str} (h : w.length = 0) : w = "" := by
  obtain ⟨a⟩ := w
  have h1 : a.size = 0 := h
  have h2 : a = #[] := Array.size_eq_zero_iff.mp h1
  rw [h2]
  rfl
theorem tru_txt {K : PySem.W.Frag} {H : Hp} {o : Option Str} (h : ∀ w, o = some w → isRef w = true) : TruV K (.str (txt o)) H o.isSome := by
  cases o with
  | none => exact ⟨Nat.zero_le _, rfl⟩
  | some w =>
    obtain ⟨_, h2, h3⟩ := ref_pos (h w rfl)
    refine ⟨by show w.length ≤ _; rw [sizeLine_eq]; omega, ?_⟩
    show true = ((w.length : Int) != 0)
    have h4 : ¬ (w.length : Int) = 0 := fun z => h2 (len0 (by omega))
    simpa using h4
/-- x or y, of texts -/
theorem or_txt {K : PySem.W.Frag} {ta tb : TE} {σ : L2.St} {H : Hp} {Q : VK} {a b : Option Str} (hr : ∀ w, a = some w → isRef w = true) (ha : ∀ R : VK, (∀ H', Same H H' → R (.str (txt a)) H') → ta σ H R) (hb : a = none → ∀ H', Same H H' → ∀ R : VK, (∀ H'', Same H' H'' → R (.str (txt b)) H'') → tb σ H' R)
    (k : ∀ H', Same H H' → Q (.str (txt (thn1 a b))) H') : tOrT K ta tb σ H Q := by
  refine ha _ fun H1 s1 => ⟨a.isSome, tru_txt hr, ?_⟩
  cases a with
  | some w => exact iteT (k H1 s1)
  | none => exact iteF (hb rfl H1 s1 _ fun H2 s2 => k H2 (s1.trans s2))
/-- [x, y][int(c)] -/
theorem pick2 {K : PySem.W.Frag} {tb : TE} {σ : L2.St} {H : Hp} {Q : VK} {x y : Str} {c : Bool} (hc : ∀ H1, Same H H1 → ∀ R : VK, (∀ H', Same H1 H' → R (.bl c) H') → tb σ H1 R) (k : ∀ H', Same H H' → Q (.str (if c then y else x)) H') :
    tOp (rIxL K) (tLst (tCons (tC (.str x)) (tCons (tC (.str y)) tNil))) (tCB (fun xs H Q => (∃ i, xs = [.int i] ∧ Q (.int i) H) ∨ ∃ k, xs = [.bl k] ∧ Q (.int (if k = true then 1 else 0)) H) (tCons tb tNil)) σ H Q := by
  refine ⟨by show 2 ≤ sizeLine; rw [sizeLine_eq]; omega, fun p hp => ?_⟩
  have s1 := Same.up (o := .lst [V.str x, V.str y]) hp
  refine hc _ s1 _ fun H2 s2 => .inr ⟨c, rfl, ?_⟩
  have hp2 := s2 _ _ (upd_same (H := H) (a := p) (o := .lst [V.str x, V.str y]))
  refine ⟨p, _, _, _, rfl, rfl, .inl (.inl hp2), ?_, k H2 (s1.trans s2)⟩
  cases c with
  | true => exact at_of (j := 1) rfl rfl
  | false => exact at_of (j := 0) rfl rfl
/-- x = e -/
theorem seq_set {te : TE} {R : TS} {D : Ends} {σ : L2.St} {H : Hp} {i : Nat} {G : V → Hp → Prop} (hR : ∀ v H', G v H' → R D (σ.set i (some v)) H') (hE : ∀ Z : VK, (∀ v H', G v H' → Z v H') → te σ H Z) : tSeq (tAsg te (gName i)) R D σ H := hE _ fun v H' g => hR v H' g
def spFreshD : Sp := fun vs H Q _ => ∃ (z : Str) (d : Addr) (kvs : List (Key × V)) (bd : Int), vs = [.str z, .ref d, .int bd] ∧ z.length ≤ 1000 ∧ H d = some (.dK kvs) ∧ ∀ H', Same H H' → Q (.str (txt (freshO z (keyIn z kvs) (decide ((kvs.length : Int) < bd))))) H'
def spFreshL : Sp := fun vs H Q _ => ∃ (z : Str) (p : Addr) (zs : List Str) (bd : Int), vs = [.str z, .ref p, .int bd] ∧ z.length ≤ 1000 ∧ H p = some (.lst (zs.map V.str)) ∧ zs.length ≤ 1000 ∧ ∀ H', Same H H' → Q (.str (txt (freshO z (zs.any fun y => decide (y = z)) (decide ((zs.length : Int) < bd))))) H'
def spMoveDue : Sp := fun vs H Q _ => ∃ (M : List Addr) (lv v : V) (L : Lab) (m : Mv), vs = [lv, v] ∧ DA M H lv L.d ∧ Trk M H ∧ L.ms.length ≤ 100 ∧ L.rs.length ≤ 100 ∧ DA M H v m.d ∧ m.Short ∧ ∀ H', Same H H' → Q (.str (txt (chkV L.ms L.rs m))) H'
def spWishBad : Sp := fun vs H Q _ => ∃ (M : List Addr) (lv wv : V) (L : Lab) (w : Wish), vs = [lv, wv] ∧ DA M H lv L.d ∧ Trk M H ∧ L.ms.length ≤ 100 ∧ L.rs.length ≤ 100 ∧ DA M H wv (.tup [.tup (w.st.map pairD), .tup (w.wd.map pairD)]) ∧ ShortP w.st ∧ ShortP w.wd ∧ ∀ H', Same H H' → Q (.bl (!wishOk L w)) H'
theorem flat_strs (zs : List Str) : (zs.map V.str).all flatV = true := by
  rw [List.all_map]
  exact List.all_eq_true.mpr fun _ _ => rfl
/-- [pair[0] for pair in p[i]] -/
theorem lc_names {M : List Addr} {K : PySem.W.Frag} {H : Hp} {σ : L2.St} {j : Nat} {i : Int} {l : List (Str × Str)} {p q : Addr} {ys xs : List V} {Qk : VK} (e0 : σ[0]? = some (some (.ref p))) (hj : j < σ.length) (hp : H p = some (.tup ys)) (hi : atI ys i = some (.ref q)) (hq : H q = some (.lst xs)) (dx : DAs M H xs (l.map pairD))
    (hl : l.length ≤ 900) (k : ∀ H1 D, Same H H1 → H D = none → H1 D = some (.lst (l.map fun u => V.str u.1)) → Qk (.ref D) H1) :
    tLc (iList K (tOp (rIxT K) (tVar 0) (tC (.int i)))) (gName j) tYes (tOp (rIxT K) (tVar j) (tC (.int 0))) [j] σ H Qk := by
  have lx : xs.length = l.length := by rw [dx.length, List.length_map]
  refine ⟨_, e0, p, ys, i, .ref q, rfl, rfl, .inl (.inl hp), hi, q, rfl, ⟨xs, .inl (.inl hq)⟩, fun D hD => ?_⟩
  refine lc_vals (Qd := fun H' => Qk (.ref D) H') (walk_list (xs := xs)) (l.map fun u => V.str u.1) (by rw [List.length_map, lx]) (by omega) hD (fun H' s' => .inl (.inl (s' _ _ hq))) yAt_same gName_mono (fun i x y H2 H3 Kk hy s2 hx kk => ?_) (fun H2 s2 hl2 => k H2 D s2 hD hl2)
  obtain ⟨rfl, hx⟩ := hx
  obtain ⟨u, t, hu, rfl, rfl, ht⟩ := pairs_at dx hx hy
  have ej : ((wipe σ [j]).set j (some (V.ref t)))[j]? = some (some (V.ref t)) := List.getElem?_set_self (by rw [wipe_length]; exact hj)
  refine ⟨?_, _, ej, t, _, 0, .str u.1, rfl, rfl, .inl (.inl (s2 _ _ ht)), at_of (j := 0) rfl rfl, kk _ (Same.refl _)⟩
  show ((σ.set j none).set j (some (V.ref t))).set j none = σ.set j none
  rw [List.set_set, List.set_set]
abbrev kv4 : List (Key × V) := [(.inr "send", .int 3), (.inr "take", .int 3), (.inr "bare", .int 2), (.inr "idle", .int 1)]
def Act.kind : Act → Str
  | .idle => "idle" | .bare _ => "bare" | .send _ _ => "send" | .take _ _ => "take"
theorem Act.ss_eq (a : Act) : ∃ r, a.ss = a.kind :: r := by cases a <;> exact ⟨_, rfl⟩
theorem kv4_1 : valV kv4 (.inr "idle") = some (.int 1) := by decide +kernel
theorem kv4_2 : valV kv4 (.inr "bare") = some (.int 2) := by decide +kernel
theorem kv4_3 : valV kv4 (.inr "send") = some (.int 3) := by decide +kernel
theorem kv4_4 : valV kv4 (.inr "take") = some (.int 3) := by decide +kernel
theorem kv4_at (a : Act) : valV kv4 (.inr a.kind) = some (.int a.ss.length) := by
  cases a with
  | idle => exact kv4_1
  | bare r => exact kv4_2
  | send r l => exact kv4_3
  | take r l => exact kv4_4
theorem Act.forms (rs : List (Str × Str)) (a : Act) : (∃ w, a.ss = [w] ∧ chkA rs a = none) ∨ (∃ w r, a.ss = [w, r] ∧ chkA rs a = okIf (hasK r rs) "norow") ∨ ∃ w r l, a.ss = [w, r, l] ∧ chkA rs a = thn1 (okIf (hasK r rs) "norow") (okIf (isLetter l) "badword") := by
  cases a with
  | idle => exact .inl ⟨_, rfl, rfl⟩
  | bare r => exact .inr (.inl ⟨_, r, rfl, thn1_right rfl⟩)
  | send r l => exact .inr (.inr ⟨_, r, l, rfl, rfl⟩)
  | take r l => exact .inr (.inr ⟨_, r, l, rfl, rfl⟩)
theorem letter_eq (l : Str) : wordOf l 1 1 = isLetter l := by
  unfold wordOf isLetter
  by_cases h : l.length = 1
  · rw [h]; rfl
  · rw [decide_eq_false h, Bool.false_and]
    by_cases h1 : (1 : Int) ≤ (l.length : Int)
    · rw [decide_eq_false (show ¬ (l.length : Int) ≤ 1 by omega), Bool.false_and, Bool.and_false]
    · rw [decide_eq_false h1, Bool.false_and]
theorem kv4_merge : mergeK [] kv4 = kv4 := by decide +kernel
section
variable {P : Program} {w : World} {K : PySem.W.Frag} {mg : Str → Option Value} {base : Heap}
abbrev N_L_fresh_word : List Str := ["_law_name", "_law_table", "_law_bound"]
theorem sc_L_fresh_word : FnScope N_L_fresh_word ["_law_name", "_law_table", "_law_bound"] (defScope s_L_fresh_word) := ⟨rfl, rfl, rfl, by decide +kernel, rfl, by decide +kernel, by decide +kernel⟩
theorem b_L_fresh_word : Bnd0 d_L_fresh_word.name d_L_fresh_word.qual d_L_fresh_word.params d_L_fresh_word.body d_L_fresh_word.scope ["_law_name", "_law_table", "_law_bound"] := fun _ _ _ _ _ _ us hl => match us, hl with | [_, _, _], _ => rfl
theorem ok_L_fresh_wordD (T : TX w K mg) : CalE P w K mg base 2 "_law_fresh_word" [] spFreshD := by
  refine cal_of T.fd_L_fresh_word T.g_L_fresh_word sc_L_fresh_word b_L_fresh_word (fun vs H Q E h => ?_) (fun cdv A outer s H vs Q E hr h => ?_)
  · obtain ⟨z, d, kvs, bd, rfl, _⟩ := h
    rfl
  obtain ⟨z, d, kvs, bd, rfl, hz, hd, k⟩ := h
  have nd := sc_L_fresh_word.nd
  have hu := hu_of hr
  refine ⟨_, (pss_cons (ps_if (pt_not (pt_val (pe_cal (ok_L_word_of T) (hr.mono (by decide)) rfl passL (pa_cons (pv 0) (pa_cons pe_int (pa_cons pe_int pa_nil))))))
      (pss_one (ps_ret pe_str))
      pss_nil)
      (pss_cons (ps_if (pt_cmp (pc_din hu (pv 0) (pv 1)))
      (pss_one (ps_ret pe_str))
      pss_nil)
      (pss_one (ps_ret (pe_ifExp (pt_cmpR op_ge (pe_callB call_lenD (by rfl) T.f_len PySem.boot_len (pa_cons (pv 1) pa_nil)) (pv 2) (nomark _)) pe_str pe_str))))), ?_⟩
  simp only [tSeq, tDrop, tVar, tC, tCall, tCons, tNil, tFld, sFld, sDPut, tDGet, tRet, tRetN, tIfS, tTest, tB, tNot, tAnd, tOr, tOp, tUn, rI0, rI, tNext, tDIn, tDNotIn, tDNewK, tIf, tAndV, tOrV, tNotV, tAsg, gName, gCons, gNil, gTup, tPar, tTup, tLst, tMeth, tCB, rEq, rNe, tBM, rAppend, tBM0, tChain, rIxL, rIxT, rIxS, rIx, L2.start, cxK, cxW, kV_inr, List.map_cons, List.map_nil, List.length_cons, List.length_nil, List.replicate, List.cons_append, List.nil_append, List.append_nil, List.getElem?_cons_zero, List.getElem?_cons_succ, List.set_cons_zero, List.set_cons_succ, Option.some.injEq, V.ref.injEq, V.str.injEq, V.int.injEq, V.bl.injEq, exists_eq, exists_eq', exists_eq_left, exists_eq_left', exists_and_left, exists_and_right, List.cons.injEq, and_true, true_and, and_assoc]
  refine ⟨z, 1, 8, rfl, hz, fun H1 s1 => ⟨_, rfl, ?_⟩⟩
  have en : wordOf z 1 8 = isName z := rfl
  rw [en]
  unfold freshO at k
  cases hn : isName z with
  | false =>
    rw [hn] at k
    exact iteT (k H1 s1)
  | true =>
  rw [hn] at k
  refine iteF ⟨_, DGet.k (k := .inr z) (s1 _ _ hd), ?_⟩
  unfold keyIn at k
  cases hk : (valV kvs (Sum.inr z)).isSome with
  | true =>
    rw [hk] at k
    exact iteT (k H1 s1)
  | false =>
  rw [hk] at k
  refine iteF ⟨kvs, s1 _ _ hd, ?_⟩
  by_cases c : bd ≤ (kvs.length : Int)
  · rw [decide_eq_false (show ¬ (kvs.length : Int) < bd by omega)] at k
    rw [if_pos (decide_eq_true c)]
    exact k H1 s1
  · rw [decide_eq_true (show (kvs.length : Int) < bd by omega)] at k
    rw [if_neg (fun z => c (of_decide_eq_true z))]
    exact k H1 s1
theorem ok_L_fresh_wordL (T : TX w K mg) : CalE P w K mg base 2 "_law_fresh_word" [] spFreshL := by
  refine cal_of T.fd_L_fresh_word T.g_L_fresh_word sc_L_fresh_word b_L_fresh_word (fun vs H Q E h => ?_) (fun cdv A outer s H vs Q E hr h => ?_)
  · obtain ⟨z, p, zs, bd, rfl, _⟩ := h
    rfl
  obtain ⟨z, p, zs, bd, rfl, hz, hp, hl, k⟩ := h
  have nd := sc_L_fresh_word.nd
  have hu := hu_of hr
  refine ⟨_, (pss_cons (ps_if (pt_not (pt_val (pe_cal (ok_L_word_of T) (hr.mono (by decide)) rfl passL (pa_cons (pv 0) (pa_cons pe_int (pa_cons pe_int pa_nil))))))
      (pss_one (ps_ret pe_str))
      pss_nil)
      (pss_cons (ps_if (pt_cmpR op_in_seq (pv 0) (pv 1) (by rfl))
      (pss_one (ps_ret pe_str))
      pss_nil)
      (pss_one (ps_ret (pe_ifExp (pt_cmpR op_ge (pe_callB call_len_seq (by rfl) T.f_len PySem.boot_len (pa_cons (pv 1) pa_nil)) (pv 2) (nomark _)) pe_str pe_str))))), ?_⟩
  simp only [tSeq, tDrop, tVar, tC, tCall, tCons, tNil, tFld, sFld, sDPut, tDGet, tRet, tRetN, tIfS, tTest, tB, tNot, tAnd, tOr, tOp, tUn, rI0, rI, tNext, tDIn, tDNotIn, tDNewK, tIf, tAndV, tOrV, tNotV, tAsg, gName, gCons, gNil, gTup, tPar, tTup, tLst, tMeth, tCB, rEq, rNe, tBM, rAppend, tBM0, tChain, rIxL, rIxT, rIxS, rIx, L2.start, cxK, cxW, kV_inr, List.map_cons, List.map_nil, List.length_cons, List.length_nil, List.replicate, List.cons_append, List.nil_append, List.append_nil, List.getElem?_cons_zero, List.getElem?_cons_succ, List.set_cons_zero, List.set_cons_succ, Option.some.injEq, V.ref.injEq, V.str.injEq, V.int.injEq, V.bl.injEq, exists_eq, exists_eq', exists_eq_left, exists_eq_left', exists_and_left, exists_and_right, List.cons.injEq, and_true, true_and, and_assoc, rIn, Bool.false_eq_true, if_false]
  refine ⟨z, 1, 8, rfl, hz, fun H1 s1 => ⟨_, rfl, ?_⟩⟩
  have en : wordOf z 1 8 = isName z := rfl
  rw [en]
  unfold freshO at k
  cases hn : isName z with
  | false =>
    rw [hn] at k
    exact iteT (k H1 s1)
  | true =>
  rw [hn] at k
  refine iteF ⟨_, .inl (.inl (.inl (s1 _ _ hp))), rfl, flat_strs zs, ?_⟩
  rw [inV_strs]
  cases hk : zs.any fun y => decide (y = z) with
  | true =>
    rw [hk] at k
    exact iteT (k H1 s1)
  | false =>
  rw [hk] at k
  refine iteF ⟨_, .inl (.inl (.inl (s1 _ _ hp))), ?_⟩
  rw [List.length_map]
  by_cases c : bd ≤ (zs.length : Int)
  · rw [decide_eq_false (show ¬ (zs.length : Int) < bd by omega)] at k
    rw [if_pos (decide_eq_true c)]
    exact k H1 s1
  · rw [decide_eq_true (show (zs.length : Int) < bd by omega)] at k
    rw [if_neg (fun z => c (of_decide_eq_true z))]
    exact k H1 s1
abbrev N_L_move_due : List Str := ["_law_lists", "_law_move", "_law_name", "_law_start", "_law_act", "_law_end", "_law_pair"]
theorem sc_L_move_due : FnScope N_L_move_due ["_law_lists", "_law_move"] (defScope s_L_move_due) := ⟨rfl, rfl, rfl, by decide +kernel, rfl, by decide +kernel, by decide +kernel⟩
theorem b_L_move_due : Bnd0 d_L_move_due.name d_L_move_due.qual d_L_move_due.params d_L_move_due.body d_L_move_due.scope ["_law_lists", "_law_move"] := fun _ _ _ _ _ _ us hl => match us, hl with | [_, _], _ => rfl
theorem ok_L_move_due (T : TX w K mg) : CalE P w K mg base 2 "_law_move_due" [] spMoveDue := by
  refine cal_of T.fd_L_move_due T.g_L_move_due sc_L_move_due b_L_move_due (fun vs H Q E h => ?_) (fun cdv A outer s H vs Q E hr h => ?_)
  · obtain ⟨M, lv, v, L, m, rfl, _⟩ := h
    rfl
  obtain ⟨M, lv, v, L, m, rfl, dl, tM, l1, l2, dm, sm, k⟩ := h
  have nd := sc_L_move_due.nd
  have hu := hu_of hr
  refine ⟨_, (pss_cons (ps_asg (pv 1) (pg_tup (n := 4) (by rfl) (pgs_cons (pg_name (i := 2) nd rfl (Or.inl rfl)) (pgs_cons (pg_name (i := 3) nd rfl (Or.inl rfl)) (pgs_cons (pg_name (i := 4) nd rfl (Or.inl rfl)) (pgs_cons (pg_name (i := 5) nd rfl (Or.inl rfl)) pgs_nil))))))
      (pss_cons (ps_if (pt_cmpR op_notIn_seq (pv 2) (pe_lc (own := [("_law_pair", 6)]) (by rfl) nd (pi_list (pe_ix ix_tup (pv 0) pe_int (fun _ _ => rfl))) (blkOk_by (N := N_L_move_due) (sc := defScope s_L_move_due) (by decide +kernel)) (fun _ _ _ _ _ => (pg_name (i := 6) nd rfl (Or.inl rfl))) (fun _ _ _ _ _ => pts_nil) (fun _ _ _ _ _ => (pe_ix (ix_tupK (K := K) rfl) (pv 6) pe_int (fun _ _ => rfl)))) (by rfl))
      (pss_one (ps_ret pe_str))
      pss_nil)
      (pss_cons (ps_if (PW.pt (pw_or (pt_not (pt_val (pe_cal (ok_L_word_of T) (hr.mono (by decide)) rfl passL (pa_cons (pv 3) (pa_cons pe_int (pa_cons pe_int pa_nil)))))) (pw_or1 (pt_not (pt_val (pe_cal (ok_L_word_of T) (hr.mono (by decide)) rfl passL (pa_cons (pv 5) (pa_cons pe_int (pa_cons pe_int pa_nil)))))))))
      (pss_one (ps_ret pe_str))
      pss_nil)
      (pss_cons (ps_if (pt_cmpR op_ne (pe_dget2 hu (pe_disp (pps_cons pe_str pe_int (pps_cons pe_str pe_int (pps_cons pe_str pe_int (pps_cons pe_str pe_int pps_nil)))) (by rfl) (by rfl) (fun z => by cases z) (by decide)) (pe_ix ix_tup (pv 4) pe_int (fun _ _ => rfl)) pe_int ⟨rfl, rfl, rfl, rfl⟩) (pe_callB call_len_seq (by rfl) T.f_len PySem.boot_len (pa_cons (pv 4) pa_nil)) (nomark _))
      (pss_one (ps_ret pe_str))
      pss_nil)
      (pss_cons (ps_if (PW.pt (pw_and (pt_cmpR op_gt (pe_callB call_len_seq (by rfl) T.f_len PySem.boot_len (pa_cons (pv 4) pa_nil)) pe_int (nomark _)) (pw_and1 (pt_cmpR op_notIn_seq (pe_ix ix_tup (pv 4) pe_int (fun _ _ => rfl)) (pe_lc (own := [("_law_pair", 6)]) (by rfl) nd (pi_list (pe_ix ix_tup (pv 0) pe_int (fun _ _ => rfl))) (blkOk_by (N := N_L_move_due) (sc := defScope s_L_move_due) (by decide +kernel)) (fun _ _ _ _ _ => (pg_name (i := 6) nd rfl (Or.inl rfl))) (fun _ _ _ _ _ => pts_nil) (fun _ _ _ _ _ => (pe_ix (ix_tupK (K := K) rfl) (pv 6) pe_int (fun _ _ => rfl)))) (by rfl)))))
      (pss_one (ps_ret pe_str))
      pss_nil)
      (pss_one (ps_ret (pe_ifExp (PW.pt (pw_and (pt_cmpR op_gt (pe_callB call_len_seq (by rfl) T.f_len PySem.boot_len (pa_cons (pv 4) pa_nil)) pe_int (nomark _)) (pw_and1 (pt_not (pt_val (pe_cal (ok_L_word_of T) (hr.mono (by decide)) rfl passL (pa_cons (pe_ix ix_tup (pv 4) pe_int (fun _ _ => rfl)) (pa_cons pe_int (pa_cons pe_int pa_nil))))))))) pe_str pe_str)))))))), ?_⟩
  obtain ⟨lp, la, lb, lc, xa, xb, xc, rfl, nlp, hlp, na, nb, nc, ha, hb, hc, da, db, dc⟩ := dl.lab3
  obtain ⟨mp, av, rfl, nmp, hmp, dav⟩ := dm.mv
  obtain ⟨ap, rfl, nap, hap⟩ := dav.act
  simp only [tSeq, tDrop, tVar, tC, tCall, tCons, tNil, tFld, sFld, sDPut, tDGet, tRet, tRetN, tIfS, tTest, tB, tNot, tAnd, tOr, tOp, tUn, rI0, rI, tNext, tDIn, tDNotIn, tDNewK, tIf, tAndV, tOrV, tNotV, tAsg, gName, gCons, gNil, gTup, tPar, tTup, tLst, tMeth, tCB, rEq, rNe, tBM, rAppend, tBM0, tChain, rIxL, rIxT, rIxS, rIx, L2.start, cxK, cxW, kV_inr, List.map_cons, List.map_nil, List.length_cons, List.length_nil, List.replicate, List.cons_append, List.nil_append, List.append_nil, List.getElem?_cons_zero, List.getElem?_cons_succ, List.set_cons_zero, List.set_cons_succ, Option.some.injEq, V.ref.injEq, V.str.injEq, V.int.injEq, V.bl.injEq, exists_eq, exists_eq', exists_eq_left, exists_eq_left', exists_and_left, exists_and_right, List.cons.injEq, and_true, true_and, and_assoc, tDGet2, rIn, Bool.false_eq_true, if_false, if_true, tDisp, tPairs]
  refine ⟨_, .inl (.inl hmp), rfl, _, _, rfl, _, _, rfl, _, _, rfl, _, _, rfl, rfl, ?_⟩
  refine lc_names (M := M) rfl (by simp) hlp (at_of (j := 0) rfl rfl) ha da (by omega) fun H1 D1 s1 nD hD1 => ?_
  refine ⟨D1, rfl, _, .inl (.inl (.inl hD1)), rfl, flat_keys _, ?_⟩
  rw [inV_keys]
  unfold chkV at k
  cases h1 : hasK m.m L.ms with
  | false =>
    rw [h1] at k
    exact iteT (k H1 s1)
  | true =>
  rw [h1] at k
  refine iteF ⟨m.s, 1, 8, rfl, sm.2.1, fun H2 s2 => ⟨_, rfl, ?_⟩⟩
  have en : wordOf m.s 1 8 = isName m.s := rfl
  rw [en]
  have s12 := s1.trans s2
  cases h2 : isName m.s with
  | false =>
    rw [h2] at k
    exact iteT (k H2 s12)
  | true =>
  rw [h2] at k
  refine iteF ⟨m.e, 1, 8, rfl, sm.2.2.2, fun H3 s3 => ⟨_, rfl, ?_⟩⟩
  have en : wordOf m.e 1 8 = isName m.e := rfl
  rw [en]
  have s13 := s12.trans s3
  cases h3 : isName m.e with
  | false =>
    rw [h3] at k
    exact iteT (k H3 s13)
  | true =>
  rw [h3] at k
  have k : ∀ H', Same H H' → Q (.str (txt (chkA L.rs m.a))) H' := k
  refine iteF fun p hp => ⟨upd_same, kv4, rfl, by decide, ?_⟩
  rw [kv4_merge]
  have s4 : Same H3 (upd (upd H3 p (.dK [])) p (.dK kv4)) := fun b o e => by rw [upd_ne (ne_of_none e hp), upd_ne (ne_of_none e hp)]; exact e
  have hp4 : (upd (upd H3 p (.dK [])) p (.dK kv4)) p = some (.dK kv4) := upd_same
  generalize upd (upd H3 p (.dK [])) p (.dK kv4) = H4 at *
  have s14 := s13.trans s4
  have hap4 := s14 _ _ hap
  have at0 : atI (m.a.ss.map V.str) 0 = some (.str m.a.kind) := by
    obtain ⟨r, er⟩ := m.a.ss_eq
    rw [er]
    exact at_of (j := 0) rfl rfl
  refine ⟨.inl ⟨kv4, .inl hp4⟩, ap, rfl, _, .inl (.inl hap4), .str m.a.kind, at0, some (.int m.a.ss.length), by rw [← kv4_at]; exact DGet.k (k := .inr m.a.kind) hp4, ap, rfl, _, .inr (.inl (.inl hap4)), rfl, ?_⟩
  rw [List.length_map]
  rw [decide_eq_true (show (some (V.int m.a.ss.length)).getD (V.int 0) = V.int m.a.ss.length from rfl)]
  refine iteF ?_
  rcases m.a.forms L.rs with ⟨wd, es, ec⟩ | ⟨wd, r, es, ec⟩ | ⟨wd, r, l, es, ec⟩
  · rw [es] at hap4
    rw [ec] at k
    refine ⟨ap, rfl, _, .inr (.inl (.inl hap4)), ?_⟩
    rw [if_neg (by simp)]
    refine ⟨ap, rfl, _, .inr (.inl (.inl hap4)), ?_⟩
    rw [if_neg (by simp)]
    exact k H4 s14
  · rw [es] at hap4
    rw [ec] at k
    refine ⟨ap, rfl, _, .inr (.inl (.inl hap4)), ?_⟩
    rw [if_pos (by simp)]
    refine ⟨ap, rfl, _, .inl (.inl hap4), .str r, at_of (j := 1) rfl rfl, ?_⟩
    refine lc_names (M := M) rfl (by simp) (s14 _ _ hlp) (at_of (j := 1) rfl rfl) (s14 _ _ hb) (db.keep (Keep.of s14)) (by omega) fun H5 D5 s5 nD5 hD5 => ?_
    refine ⟨D5, rfl, _, .inl (.inl (.inl hD5)), rfl, flat_keys _, ?_⟩
    rw [inV_keys]
    cases h5 : hasK r L.rs with
    | false =>
      rw [h5] at k
      exact iteT (k H5 (s14.trans s5))
    | true =>
    rw [h5] at k
    refine iteF ⟨ap, rfl, _, .inr (.inl (.inl (s5 _ _ hap4))), ?_⟩
    rw [if_neg (by simp)]
    exact k H5 (s14.trans s5)
  · have sl : l.length ≤ 1000 := sm.2.2.1 l (by rw [es]; simp)
    rw [es] at hap4
    rw [ec] at k
    refine ⟨ap, rfl, _, .inr (.inl (.inl hap4)), ?_⟩
    rw [if_pos (by simp)]
    refine ⟨ap, rfl, _, .inl (.inl hap4), .str r, at_of (j := 1) rfl rfl, ?_⟩
    refine lc_names (M := M) rfl (by simp) (s14 _ _ hlp) (at_of (j := 1) rfl rfl) (s14 _ _ hb) (db.keep (Keep.of s14)) (by omega) fun H5 D5 s5 nD5 hD5 => ?_
    refine ⟨D5, rfl, _, .inl (.inl (.inl hD5)), rfl, flat_keys _, ?_⟩
    rw [inV_keys]
    have s15 := s14.trans s5
    cases h5 : hasK r L.rs with
    | false =>
      rw [h5] at k
      exact iteT (k H5 s15)
    | true =>
    rw [h5] at k
    refine iteF ⟨ap, rfl, _, .inr (.inl (.inl (s5 _ _ hap4))), ?_⟩
    rw [if_pos (by simp)]
    refine ⟨ap, rfl, _, .inl (.inl (s5 _ _ hap4)), .str l, at_of (j := 2) rfl rfl, l, 1, 1, rfl, sl, fun H6 s6 => ⟨_, rfl, ?_⟩⟩
    rw [letter_eq]
    cases h6 : isLetter l with
    | false =>
      rw [h6] at k
      exact iteT (k H6 (s15.trans s6))
    | true =>
      rw [h6] at k
      exact iteF (k H6 (s15.trans s6))
abbrev N_L_wish_bad : List Str := ["_law_lists", "_law_wish", "_law_machines", "_law_rows", "_law_names_here", "_law_others", "_law_good", "_law_fine", "_law_name", "_law_first", "_law_word_here", "_law_stand"]
theorem sc_L_wish_bad : FnScope N_L_wish_bad ["_law_lists", "_law_wish"] (defScope s_L_wish_bad) := ⟨rfl, rfl, rfl, by decide +kernel, rfl, by decide +kernel, by decide +kernel⟩
theorem b_L_wish_bad : Bnd0 d_L_wish_bad.name d_L_wish_bad.qual d_L_wish_bad.params d_L_wish_bad.body d_L_wish_bad.scope ["_law_lists", "_law_wish"] := fun _ _ _ _ _ _ us hl => match us, hl with | [_, _], _ => rfl
theorem ok_L_wish_bad (T : TX w K mg) : CalE P w K mg base 2 "_law_wish_bad" [] spWishBad := by
  refine cal_of T.fd_L_wish_bad T.g_L_wish_bad sc_L_wish_bad b_L_wish_bad (fun vs H Q E h => ?_) (fun cdv A outer s H vs Q E hr h => ?_)
  · obtain ⟨M, lv, wv, L, wi, rfl, _⟩ := h
    rfl
  obtain ⟨M, lv, wv, L, wi, rfl, dl, tM, l1, l2, dw, z1, z2, k⟩ := h
  have nd := sc_L_wish_bad.nd
  obtain ⟨lp, la, lb, lc, xa, xb, xc, rfl, nlp, hlp, na, nb, nc, ha, hb, hc, da, db, dc⟩ := dl.lab3
  obtain ⟨wp0, ys, rfl, nwp0, hwp0, dy⟩ := DA.tup_iff.mp dw
  obtain ⟨sv, r1, rfl, dsv, dy⟩ := DAs.cons_inv dy
  obtain ⟨wv, r2, rfl, dwv, dy⟩ := DAs.cons_inv dy
  obtain rfl := DAs.nil_inv dy
  obtain ⟨sp, sx, rfl, nsp, hsp, dsx⟩ := DA.tup_iff.mp dsv
  obtain ⟨wp, wx, rfl, nwp, hwp, dwx⟩ := DA.tup_iff.mp dwv
  have lsx : sx.length = wi.st.length := by rw [dsx.length, List.length_map]
  have lwx : wx.length = wi.wd.length := by rw [dwx.length, List.length_map]
  have lxa : xa.length = L.ms.length := by rw [da.length, List.length_map]
  have lxb : xb.length = L.rs.length := by rw [db.length, List.length_map]
  have g1 := z1.1
  have g2 := z2.1
  refine ⟨_, (pss_cons (ps_set (i := 2) nd rfl (Or.inr rfl) (pe_lc (own := [("_law_name", 8), ("_law_first", 9)]) (by rfl) nd (pi_list (pe_ix ix_tup (pv 0) pe_int (fun _ _ => rfl))) (blkOk_by (N := N_L_wish_bad) (sc := defScope s_L_wish_bad) (by decide +kernel)) (fun _ _ _ _ _ => (pg_tupK (K := K) rfl (n := 2) (by rfl) (pgs_cons (pg_name (i := 8) nd rfl (Or.inl rfl)) (pgs_cons (pg_name (i := 9) nd rfl (Or.inl rfl)) pgs_nil)))) (fun _ _ _ _ _ => pts_nil) (fun _ _ _ _ _ => (pv 8))))
      (pss_cons (ps_set (i := 3) nd rfl (Or.inr rfl) (pe_lc (own := [("_law_name", 8), ("_law_word_here", 10)]) (by rfl) nd (pi_list (pe_ix ix_tup (pv 0) pe_int (fun _ _ => rfl))) (blkOk_by (N := N_L_wish_bad) (sc := defScope s_L_wish_bad) (by decide +kernel)) (fun _ _ _ _ _ => (pg_tupK (K := K) rfl (n := 2) (by rfl) (pgs_cons (pg_name (i := 8) nd rfl (Or.inl rfl)) (pgs_cons (pg_name (i := 10) nd rfl (Or.inl rfl)) pgs_nil)))) (fun _ _ _ _ _ => pts_nil) (fun _ _ _ _ _ => (pv 8))))
      (pss_cons (ps_setLc (i := 4) (own := [("_law_name", 8), ("_law_stand", 11)]) (by rfl) nd rfl rfl (sw_true rfl rfl rfl (by decide +kernel)) (pi_tup (pe_ix ix_tup (pv 1) pe_int (fun _ _ => rfl))) (blkOk_by (N := N_L_wish_bad) (sc := defScope s_L_wish_bad) (by decide +kernel)) (fun _ _ _ _ _ => (pg_tupK (K := K) rfl (n := 2) (by rfl) (pgs_cons (pg_name (i := 8) nd rfl (Or.inl rfl)) (pgs_cons (pg_name (i := 11) nd rfl (Or.inl rfl)) pgs_nil)))) (fun _ _ _ _ _ => pts_nil) (fun _ _ _ _ _ => (pv 8)))
      (pss_cons (ps_setLc (i := 5) (own := [("_law_name", 8), ("_law_word_here", 10)]) (by rfl) nd rfl rfl (sw_true rfl rfl rfl (by decide +kernel)) (pi_tup (pe_ix ix_tup (pv 1) pe_int (fun _ _ => rfl))) (blkOk_by (N := N_L_wish_bad) (sc := defScope s_L_wish_bad) (by decide +kernel)) (fun _ _ _ _ _ => (pg_tupK (K := K) rfl (n := 2) (by rfl) (pgs_cons (pg_name (i := 8) nd rfl (Or.inl rfl)) (pgs_cons (pg_name (i := 10) nd rfl (Or.inl rfl)) pgs_nil)))) (fun _ _ _ _ _ => pts_nil) (fun _ _ _ _ _ => (pv 8)))
      (pss_cons (ps_if (PW.pt (pw_or (pt_cmpR op_lt (pe_lenSetS rfl rfl T.f_len rfl T.f_set (pv 4)) (pe_callB call_len_seq (by rfl) T.f_len PySem.boot_len (pa_cons (pv 4) pa_nil)) (nomark _)) (pw_or1 (pt_cmpR op_lt (pe_lenSetS rfl rfl T.f_len rfl T.f_set (pv 5)) (pe_callB call_len_seq (by rfl) T.f_len PySem.boot_len (pa_cons (pv 5) pa_nil)) (nomark _)))))
      (pss_one (ps_ret pe_bl))
      pss_nil)
      (pss_cons (ps_set (i := 6) nd rfl (Or.inl rfl) (pe_callB (cr_all rfl) (by rfl) T.f_all (by decide +kernel) (pa_cons (pe_lc (own := [("_law_name", 8), ("_law_stand", 11)]) (by rfl) nd (pi_tup (pe_ix ix_tup (pv 1) pe_int (fun _ _ => rfl))) (blkOk_by (N := N_L_wish_bad) (sc := defScope s_L_wish_bad) (by decide +kernel)) (fun _ _ _ _ _ => (pg_tupK (K := K) rfl (n := 2) (by rfl) (pgs_cons (pg_name (i := 8) nd rfl (Or.inl rfl)) (pgs_cons (pg_name (i := 11) nd rfl (Or.inl rfl)) pgs_nil)))) (fun _ _ _ _ _ => pts_nil) (fun _ _ _ _ _ => (pe_and (pe_cmpR (op_in_seqK (K := K) rfl) (pv 8) (pv 2) (by rfl)) (pe_one (pe_cal (ok_L_word_of T) (hr.mono (by decide)) rfl passL (pa_cons (pv 11) (pa_cons pe_int (pa_cons pe_int pa_nil)))))))) pa_nil)))
      (pss_cons (ps_setLc (i := 7) (own := [("_law_name", 8), ("_law_word_here", 10)]) (by rfl) nd rfl rfl (sw_true rfl rfl rfl (by decide +kernel)) (pi_tup (pe_ix ix_tup (pv 1) pe_int (fun _ _ => rfl))) (blkOk_by (N := N_L_wish_bad) (sc := defScope s_L_wish_bad) (by decide +kernel)) (fun _ _ _ _ _ => (pg_tupK (K := K) rfl (n := 2) (by rfl) (pgs_cons (pg_name (i := 8) nd rfl (Or.inl rfl)) (pgs_cons (pg_name (i := 10) nd rfl (Or.inl rfl)) pgs_nil)))) (fun _ _ _ _ _ => pts_nil) (fun _ _ _ _ _ => (pe_and (pe_cmpR (op_in_seqK (K := K) rfl) (pv 8) (pv 3) (by rfl)) (pe_one (pe_cal (ok_L_word_of T) (hr.mono (by decide)) rfl passL (pa_cons (pv 10) (pa_cons pe_int (pa_cons pe_int pa_nil))))))))
      (pss_one (ps_ret (pe_orT (pe_not (pv 6)) (pe_one (pe_not (pe_callB (cr_all rfl) (by rfl) T.f_all (by decide +kernel) (pa_cons (pv 7) pa_nil)))))))))))))), ?_⟩
  simp only [tSeq, tDrop, tVar, tC, tCall, tCons, tNil, tFld, sFld, sDPut, tDGet, tRet, tRetN, tIfS, tTest, tB, tNot, tAnd, tOr, tOp, tUn, rI0, rI, tNext, tDIn, tDNotIn, tDNewK, tIf, tAndV, tOrV, tNotV, tAsg, gName, gCons, gNil, gTup, tPar, tTup, tLst, tMeth, tCB, rEq, rNe, tBM, rAppend, tBM0, tChain, rIxL, rIxT, rIxS, rIx, L2.start, cxK, cxW, kV_inr, List.map_cons, List.map_nil, List.length_cons, List.length_nil, List.replicate, List.cons_append, List.nil_append, List.append_nil, List.getElem?_cons_zero, List.getElem?_cons_succ, List.set_cons_zero, List.set_cons_succ, Option.some.injEq, V.ref.injEq, V.str.injEq, V.int.injEq, V.bl.injEq, exists_eq, exists_eq', exists_eq_left, exists_eq_left', exists_and_left, exists_and_right, List.cons.injEq, and_true, true_and, and_assoc]
  refine ⟨_, rfl, lp, _, 0, .ref la, rfl, rfl, .inl (.inl hlp), at_of (j := 0) rfl rfl, la, rfl, ⟨xa, .inl (.inl ha)⟩, fun D1 hD1 => ?_⟩
  refine lc_vals (Qd := fun H' => _) (walk_list (xs := xa)) (L.ms.map fun q => V.str q.1) (by rw [List.length_map, lxa]) (by omega) hD1 (fun H' s' => .inl (.inl (s' _ _ ha))) yAt_same gTup2_mono (fun i x y H1 H2 Kk hy s1 hx kk => ?_) (fun H1 s1 hl1 => ?_)
  · obtain ⟨rfl, hx⟩ := hx
    obtain ⟨q, t, hq, rfl, rfl, ht⟩ := pairs_at da hx hy
    simp only [tSeq, tDrop, tVar, tC, tCall, tCons, tNil, tFld, sFld, sDPut, tDGet, tRet, tRetN, tIfS, tTest, tB, tNot, tAnd, tOr, tOp, tUn, rI0, rI, tNext, tDIn, tDNotIn, tDNewK, tIf, tAndV, tOrV, tNotV, tAsg, gName, gCons, gNil, gTup, tPar, tTup, tLst, tMeth, tCB, rEq, rNe, tBM, rAppend, tBM0, tChain, rIxL, rIxT, rIxS, rIx, L2.start, cxK, cxW, kV_inr, List.map_cons, List.map_nil, List.length_cons, List.length_nil, List.replicate, List.cons_append, List.nil_append, List.append_nil, List.getElem?_cons_zero, List.getElem?_cons_succ, List.set_cons_zero, List.set_cons_succ, Option.some.injEq, V.ref.injEq, V.str.injEq, V.int.injEq, V.bl.injEq, exists_eq, exists_eq', exists_eq_left, exists_eq_left', exists_and_left, exists_and_right, List.cons.injEq, and_true, true_and, and_assoc, wipe]
    exact ⟨_, .inl (.inl (s1 _ _ ht)), rfl, _, _, rfl, _, _, rfl, rfl, kk _ (Same.refl _)⟩
  refine ⟨_, rfl, lp, _, 1, .ref lb, rfl, rfl, .inl (.inl (s1 _ _ hlp)), at_of (j := 1) rfl rfl, lb, rfl, ⟨xb, .inl (.inl (s1 _ _ hb))⟩, fun D2 hD2 => ?_⟩
  refine lc_vals (Qd := fun H' => _) (walk_list (xs := xb)) (L.rs.map fun q => V.str q.1) (by rw [List.length_map, lxb]) (by omega) hD2 (fun H' s' => .inl (.inl ((s1.trans s') _ _ hb))) yAt_same gTup2_mono (fun i x y H2 H3 Kk hy s2 hx kk => ?_) (fun H2 s2 hl2 => ?_)
  · obtain ⟨rfl, hx⟩ := hx
    obtain ⟨q, t, hq, rfl, rfl, ht⟩ := pairs_at db hx hy
    simp only [tSeq, tDrop, tVar, tC, tCall, tCons, tNil, tFld, sFld, sDPut, tDGet, tRet, tRetN, tIfS, tTest, tB, tNot, tAnd, tOr, tOp, tUn, rI0, rI, tNext, tDIn, tDNotIn, tDNewK, tIf, tAndV, tOrV, tNotV, tAsg, gName, gCons, gNil, gTup, tPar, tTup, tLst, tMeth, tCB, rEq, rNe, tBM, rAppend, tBM0, tChain, rIxL, rIxT, rIxS, rIx, L2.start, cxK, cxW, kV_inr, List.map_cons, List.map_nil, List.length_cons, List.length_nil, List.replicate, List.cons_append, List.nil_append, List.append_nil, List.getElem?_cons_zero, List.getElem?_cons_succ, List.set_cons_zero, List.set_cons_succ, Option.some.injEq, V.ref.injEq, V.str.injEq, V.int.injEq, V.bl.injEq, exists_eq, exists_eq', exists_eq_left, exists_eq_left', exists_and_left, exists_and_right, List.cons.injEq, and_true, true_and, and_assoc, wipe]
    exact ⟨_, .inl (.inl ((s1.trans s2) _ _ ht)), rfl, _, _, rfl, _, _, rfl, rfl, kk _ (Same.refl _)⟩
  have s12 := s1.trans s2
  refine ⟨_, rfl, wp0, _, 0, .ref sp, rfl, rfl, .inl (.inl (s12 _ _ hwp0)), at_of (j := 0) rfl rfl, sp, rfl, ⟨sx, .inl (.inl (s12 _ _ hsp))⟩, fun D3 hD3 => ?_⟩
  refine lc_vals (Qd := fun H' => _) (walk_tup (xs := sx)) (wi.st.map fun q => V.str q.1) (by rw [List.length_map, lsx]) (by omega) hD3 (fun H' s' => .inl (.inl ((s12.trans s') _ _ hsp))) yAt_same gTup2_mono (fun i x y H3 H4 Kk hy s3 hx kk => ?_) (fun H3 s3 hl3 => ?_)
  · obtain ⟨rfl, hx⟩ := hx
    obtain ⟨q, t, hq, rfl, rfl, ht⟩ := pairs_at dsx hx hy
    simp only [tSeq, tDrop, tVar, tC, tCall, tCons, tNil, tFld, sFld, sDPut, tDGet, tRet, tRetN, tIfS, tTest, tB, tNot, tAnd, tOr, tOp, tUn, rI0, rI, tNext, tDIn, tDNotIn, tDNewK, tIf, tAndV, tOrV, tNotV, tAsg, gName, gCons, gNil, gTup, tPar, tTup, tLst, tMeth, tCB, rEq, rNe, tBM, rAppend, tBM0, tChain, rIxL, rIxT, rIxS, rIx, L2.start, cxK, cxW, kV_inr, List.map_cons, List.map_nil, List.length_cons, List.length_nil, List.replicate, List.cons_append, List.nil_append, List.append_nil, List.getElem?_cons_zero, List.getElem?_cons_succ, List.set_cons_zero, List.set_cons_succ, Option.some.injEq, V.ref.injEq, V.str.injEq, V.int.injEq, V.bl.injEq, exists_eq, exists_eq', exists_eq_left, exists_eq_left', exists_and_left, exists_and_right, List.cons.injEq, and_true, true_and, and_assoc, wipe]
    exact ⟨_, .inl (.inl ((s12.trans s3) _ _ ht)), rfl, _, _, rfl, _, _, rfl, rfl, kk _ (Same.refl _)⟩
  have s13 := s12.trans s3
  refine ⟨_, rfl, wp0, _, 1, .ref wp, rfl, rfl, .inl (.inl (s13 _ _ hwp0)), at_of (j := 1) rfl rfl, wp, rfl, ⟨wx, .inl (.inl (s13 _ _ hwp))⟩, fun D4 hD4 => ?_⟩
  refine lc_vals (Qd := fun H' => _) (walk_tup (xs := wx)) (wi.wd.map fun q => V.str q.1) (by rw [List.length_map, lwx]) (by omega) hD4 (fun H' s' => .inl (.inl ((s13.trans s') _ _ hwp))) yAt_same gTup2_mono (fun i x y H4 H5 Kk hy s4 hx kk => ?_) (fun H4 s4 hl4 => ?_)
  · obtain ⟨rfl, hx⟩ := hx
    obtain ⟨q, t, hq, rfl, rfl, ht⟩ := pairs_at dwx hx hy
    simp only [tSeq, tDrop, tVar, tC, tCall, tCons, tNil, tFld, sFld, sDPut, tDGet, tRet, tRetN, tIfS, tTest, tB, tNot, tAnd, tOr, tOp, tUn, rI0, rI, tNext, tDIn, tDNotIn, tDNewK, tIf, tAndV, tOrV, tNotV, tAsg, gName, gCons, gNil, gTup, tPar, tTup, tLst, tMeth, tCB, rEq, rNe, tBM, rAppend, tBM0, tChain, rIxL, rIxT, rIxS, rIx, L2.start, cxK, cxW, kV_inr, List.map_cons, List.map_nil, List.length_cons, List.length_nil, List.replicate, List.cons_append, List.nil_append, List.append_nil, List.getElem?_cons_zero, List.getElem?_cons_succ, List.set_cons_zero, List.set_cons_succ, Option.some.injEq, V.ref.injEq, V.str.injEq, V.int.injEq, V.bl.injEq, exists_eq, exists_eq', exists_eq_left, exists_eq_left', exists_and_left, exists_and_right, List.cons.injEq, and_true, true_and, and_assoc, wipe]
    exact ⟨_, .inl (.inl ((s13.trans s4) _ _ ht)), rfl, _, _, rfl, _, _, rfl, rfl, kk _ (Same.refl _)⟩
  have s14 := s13.trans s4
  have hl3' := s4 _ _ hl3
  have e1 : (wi.st.map fun q => V.str q.1) = (wi.st.map (·.1)).map V.str := by rw [List.map_map]; rfl
  have e2 : (wi.wd.map fun q => V.str q.1) = (wi.wd.map (·.1)).map V.str := by rw [List.map_map]; rfl
  rw [e1] at hl3'
  rw [e2] at hl4
  have m1 : ((wi.st.map (·.1)).map V.str).length = wi.st.length := by rw [List.length_map, List.length_map]
  have m2 : ((wi.wd.map (·.1)).map V.str).length = wi.wd.length := by rw [List.length_map, List.length_map]
  simp only [tSeq, tDrop, tVar, tC, tCall, tCons, tNil, tFld, sFld, sDPut, tDGet, tRet, tRetN, tIfS, tTest, tB, tNot, tAnd, tOr, tOp, tUn, rI0, rI, tNext, tDIn, tDNotIn, tDNewK, tIf, tAndV, tOrV, tNotV, tAsg, gName, gCons, gNil, gTup, tPar, tTup, tLst, tMeth, tCB, rEq, rNe, tBM, rAppend, tBM0, tChain, rIxL, rIxT, rIxS, rIx, L2.start, cxK, cxW, kV_inr, List.map_cons, List.map_nil, List.length_cons, List.length_nil, List.replicate, List.cons_append, List.nil_append, List.append_nil, List.getElem?_cons_zero, List.getElem?_cons_succ, List.set_cons_zero, List.set_cons_succ, Option.some.injEq, V.ref.injEq, V.str.injEq, V.int.injEq, V.bl.injEq, exists_eq, exists_eq', exists_eq_left, exists_eq_left', exists_and_left, exists_and_right, List.cons.injEq, and_true, true_and, and_assoc, tLenSetS]
  refine ⟨wi.st.map (·.1), .inl (.inl hl3'), by rw [List.length_map]; omega, _, .inl (.inl (.inl hl3')), ?_⟩
  rw [m1]
  by_cases c1 : (uniq (wi.st.map (·.1))).length < wi.st.length
  · rw [if_pos (decide_eq_true (by omega))]
    have e : wishOk L wi = false := by
      unfold wishOk
      rw [decide_eq_true c1]
      rfl
    rw [e] at k
    exact iteY (k _ s14)
  rw [if_neg (fun z => c1 (by have := of_decide_eq_true z; omega))]
  refine ⟨wi.wd.map (·.1), .inl (.inl hl4), by rw [List.length_map]; omega, _, .inl (.inl (.inl hl4)), ?_⟩
  rw [m2]
  by_cases c2 : (uniq (wi.wd.map (·.1))).length < wi.wd.length
  · rw [if_pos (decide_eq_true (by omega))]
    have e : wishOk L wi = false := by
      unfold wishOk
      rw [decide_eq_false c1, decide_eq_true c2]
      rfl
    rw [e] at k
    exact k _ s14
  rw [if_neg (fun z => c2 (by have := of_decide_eq_true z; omega))]
  have wo : wishOk L wi = ((wi.st.all fun p => hasK p.1 L.ms && isName p.2) && wi.wd.all fun p => hasK p.1 L.rs && wordOf p.2 0 8) := by
    unfold wishOk
    rw [decide_eq_false c1, decide_eq_false c2]
    rfl
  rw [wo] at k
  have hl1' := (s2.trans (s3.trans s4)) _ _ hl1
  have hl2' := (s3.trans s4) _ _ hl2
  refine ⟨_, rfl, wp0, _, 0, .ref sp, rfl, rfl, .inl (.inl (s14 _ _ hwp0)), at_of (j := 0) rfl rfl, sp, rfl, ⟨sx, .inl (.inl (s14 _ _ hsp))⟩, fun D5 hD5 => ?_⟩
  refine lc_vals (Qd := fun H' => _) (walk_tup (xs := sx)) (wi.st.map fun q => V.bl (hasK q.1 L.ms && isName q.2)) (by rw [List.length_map, lsx]) (by omega) hD5 (fun H' s' => .inl (.inl ((s14.trans s') _ _ hsp))) yAt_same gTup2_mono (fun i x y H5 H6 Kk hy s5 hx kk => ?_) (fun H5 s5 hl5 => ?_)
  · obtain ⟨rfl, hx⟩ := hx
    obtain ⟨q, t, hq, rfl, rfl, ht⟩ := pairs_at dsx hx hy
    have hz : q.2.length ≤ 1000 := (z1.2 q (List.mem_of_getElem? hq)).2
    simp only [tSeq, tDrop, tVar, tC, tCall, tCons, tNil, tFld, sFld, sDPut, tDGet, tRet, tRetN, tIfS, tTest, tB, tNot, tAnd, tOr, tOp, tUn, rI0, rI, tNext, tDIn, tDNotIn, tDNewK, tIf, tAndV, tOrV, tNotV, tAsg, gName, gCons, gNil, gTup, tPar, tTup, tLst, tMeth, tCB, rEq, rNe, tBM, rAppend, tBM0, tChain, rIxL, rIxT, rIxS, rIx, L2.start, cxK, cxW, kV_inr, List.map_cons, List.map_nil, List.length_cons, List.length_nil, List.replicate, List.cons_append, List.nil_append, List.append_nil, List.getElem?_cons_zero, List.getElem?_cons_succ, List.set_cons_zero, List.set_cons_succ, Option.some.injEq, V.ref.injEq, V.str.injEq, V.int.injEq, V.bl.injEq, exists_eq, exists_eq', exists_eq_left, exists_eq_left', exists_and_left, exists_and_right, List.cons.injEq, and_true, true_and, and_assoc, wipe, rIn, Bool.false_eq_true, if_false]
    refine ⟨_, .inl (.inl ((s14.trans s5) _ _ ht)), rfl, _, _, rfl, _, _, rfl, rfl, _, .inl (.inl (.inl (s5 _ _ hl1'))), rfl, flat_keys _, ?_⟩
    rw [inV_keys]
    cases hk : hasK q.1 L.ms with
    | false =>
      rw [hk] at kk
      exact kk _ (Same.refl _)
    | true =>
      rw [hk] at kk
      exact ⟨q.2, 1, 8, rfl, hz, fun H7 s7 => kk _ s7⟩
  have s15 := s14.trans s5
  refine ⟨D5, wi.st.map (fun q => hasK q.1 L.ms && isName q.2), rfl, .inl (.inl (by rw [hl5, List.map_map]; rfl)), ?_⟩
  refine ⟨_, rfl, wp0, _, 1, .ref wp, rfl, rfl, .inl (.inl (s15 _ _ hwp0)), at_of (j := 1) rfl rfl, wp, rfl, ⟨wx, .inl (.inl (s15 _ _ hwp))⟩, fun D6 hD6 => ?_⟩
  refine lc_vals (Qd := fun H' => _) (walk_tup (xs := wx)) (wi.wd.map fun q => V.bl (hasK q.1 L.rs && wordOf q.2 0 8)) (by rw [List.length_map, lwx]) (by omega) hD6 (fun H' s' => .inl (.inl ((s15.trans s') _ _ hwp))) yAt_same gTup2_mono (fun i x y H6 H7 Kk hy s6 hx kk => ?_) (fun H6 s6 hl6 => ?_)
  · obtain ⟨rfl, hx⟩ := hx
    obtain ⟨q, t, hq, rfl, rfl, ht⟩ := pairs_at dwx hx hy
    have hz : q.2.length ≤ 1000 := (z2.2 q (List.mem_of_getElem? hq)).2
    simp only [tSeq, tDrop, tVar, tC, tCall, tCons, tNil, tFld, sFld, sDPut, tDGet, tRet, tRetN, tIfS, tTest, tB, tNot, tAnd, tOr, tOp, tUn, rI0, rI, tNext, tDIn, tDNotIn, tDNewK, tIf, tAndV, tOrV, tNotV, tAsg, gName, gCons, gNil, gTup, tPar, tTup, tLst, tMeth, tCB, rEq, rNe, tBM, rAppend, tBM0, tChain, rIxL, rIxT, rIxS, rIx, L2.start, cxK, cxW, kV_inr, List.map_cons, List.map_nil, List.length_cons, List.length_nil, List.replicate, List.cons_append, List.nil_append, List.append_nil, List.getElem?_cons_zero, List.getElem?_cons_succ, List.set_cons_zero, List.set_cons_succ, Option.some.injEq, V.ref.injEq, V.str.injEq, V.int.injEq, V.bl.injEq, exists_eq, exists_eq', exists_eq_left, exists_eq_left', exists_and_left, exists_and_right, List.cons.injEq, and_true, true_and, and_assoc, wipe, rIn, Bool.false_eq_true, if_false]
    refine ⟨_, .inl (.inl ((s15.trans s6) _ _ ht)), rfl, _, _, rfl, _, _, rfl, rfl, _, .inl (.inl (.inl ((s5.trans s6) _ _ hl2'))), rfl, flat_keys _, ?_⟩
    rw [inV_keys]
    cases hk : hasK q.1 L.rs with
    | false =>
      rw [hk] at kk
      exact kk _ (Same.refl _)
    | true =>
      rw [hk] at kk
      exact ⟨q.2, 0, 8, rfl, hz, fun H7 s7 => kk _ s7⟩
  have s16 := s15.trans s6
  simp only [tSeq, tDrop, tVar, tC, tCall, tCons, tNil, tFld, sFld, sDPut, tDGet, tRet, tRetN, tIfS, tTest, tB, tNot, tAnd, tOr, tOp, tUn, rI0, rI, tNext, tDIn, tDNotIn, tDNewK, tIf, tAndV, tOrV, tNotV, tAsg, gName, gCons, gNil, gTup, tPar, tTup, tLst, tMeth, tCB, rEq, rNe, tBM, rAppend, tBM0, tChain, rIxL, rIxT, rIxS, rIx, L2.start, cxK, cxW, kV_inr, List.map_cons, List.map_nil, List.length_cons, List.length_nil, List.replicate, List.cons_append, List.nil_append, List.append_nil, List.getElem?_cons_zero, List.getElem?_cons_succ, List.set_cons_zero, List.set_cons_succ, Option.some.injEq, V.ref.injEq, V.str.injEq, V.int.injEq, V.bl.injEq, exists_eq, exists_eq', exists_eq_left, exists_eq_left', exists_and_left, exists_and_right, List.cons.injEq, and_true, true_and, and_assoc, tOrT]
  have e5 : (wi.st.map (fun q => hasK q.1 L.ms && isName q.2)).all id = (wi.st.all fun p => hasK p.1 L.ms && isName p.2) := by rw [List.all_map]; rfl
  rw [e5]
  refine ⟨_, rfl, ?_⟩
  cases hc : wi.st.all fun p => hasK p.1 L.ms && isName p.2 with
  | false =>
    rw [hc] at k
    exact iteT (k _ s16)
  | true =>
  rw [hc] at k
  refine iteF ⟨D6, wi.wd.map (fun q => hasK q.1 L.rs && wordOf q.2 0 8), rfl, .inl (.inl (by rw [hl6, List.map_map]; rfl)), _, rfl, ?_⟩
  have e6 : (wi.wd.map (fun q => hasK q.1 L.rs && wordOf q.2 0 8)).all id = (wi.wd.all fun p => hasK p.1 L.rs && wordOf p.2 0 8) := by rw [List.all_map]; rfl
  rw [e6]
  exact k _ s16
end
end K51


set_option Elab.async false
set_option linter.all false
set_option maxRecDepth 100000
set_option maxHeartbeats 4000000
namespace K51
open PySem PySem.Spec PyProof.Rows L2
def Deed.edit : Deed → Bool
  | .machine _ _ _ => true | .row _ _ _ => true | .move _ _ => true | .strike _ _ => true | _ => false
def listsAfter (L : Lab) : Deed → Lab
  | .machine _ m f => ⟨L.ms ++ [(m, f)], L.rs, L.mv⟩
  | .row _ r z => ⟨L.ms, L.rs ++ [(r, z)], L.mv⟩
  | .move _ v => ⟨L.ms, L.rs, L.mv ++ [v]⟩
  | .strike _ i => ⟨L.ms, L.rs, L.mv.eraseIdx i.toNat⟩
  | _ => L
structure Lim (L : Lab) : Prop where
  l1 : L.ms.length ≤ 100
  l2 : L.rs.length ≤ 100
  l3 : L.mv.length ≤ 100
def spListsAfter : Sp := fun vs H Q _ => ∃ (M : List Addr) (lv dv : V) (L : Lab) (d : Deed), vs = [lv, dv] ∧ DA M H lv L.d ∧ DA M H dv d.d ∧ Trk M H ∧ d.edit = true ∧ Lim L ∧ (∀ n i, d = .strike n i → inB i L.mv.length = true) ∧ ∀ H' v', Same H H' → DA M H' v' (listsAfter L d).d → Q v' H'
def spEditWord : Sp := fun vs H Q _ => ∃ (M : List Addr) (lv dv : V) (L : Lab) (d : Deed), vs = [lv, dv] ∧ DA M H lv L.d ∧ DA M H dv d.d ∧ Trk M H ∧ d.edit = true ∧ d.Short ∧ Lim L ∧ (∀ n i, d ≠ .strike n i) ∧ ∀ H', Same H H' → Q (.str (txt (editW L d))) H'
theorem DA.deed {M : List Addr} {H : Hp} {dv : V} {d : Deed} (h : DA M H dv d.d) : ∃ p rv, dv = .ref p ∧ p ∉ M ∧ H p = some (.tup (.str d.word :: rv)) ∧ DAs M H rv d.rest := by
  obtain ⟨p, xs, rfl, np, hp, dx0⟩ := DA.tup_iff.mp h
  obtain ⟨x0, r, rfl, h0, dx⟩ := DAs.cons_inv dx0
  rw [DA.str_iff.mp h0] at hp
  exact ⟨p, r, rfl, np, hp, dx⟩
theorem strNe {a b : Str} (h : a ≠ b) : decide (V.str a = V.str b) = false := decide_eq_false fun e => h (V.str.inj e)
theorem strEq {a : Str} : decide (V.str a = V.str a) = true := decide_eq_true rfl
theorem any_keys (z : Str) (l : List (Str × Str)) : ((l.map (·.1)).any fun y => decide (y = z)) = hasK z l := by rw [List.any_map]; rfl
theorem lt_cast (n k : Nat) : decide ((n : Int) < (OfNat.ofNat k : Int)) = decide (n < k) := decide_eq_decide.mpr (by show (n : Int) < (k : Int) ↔ n < k; omega)
/-- a lab's lists in a new tuple -/
theorem lab_tup {M : List Addr} {H : Hp} {p a b c : Addr} {L : Lab} (np : p ∉ M) (hp : H p = some (.tup [.ref a, .ref b, .ref c])) (d1 : DA M H (.ref a) (.lst (L.ms.map pairD))) (d2 : DA M H (.ref b) (.lst (L.rs.map pairD))) (d3 : DA M H (.ref c) (.lst (L.mv.map Mv.d))) : DA M H (.ref p) L.d :=
  DA.tup_iff.mpr ⟨p, _, rfl, np, hp, DAs.cons d1 (DAs.cons d2 (DAs.cons d3 DAs.nil))⟩
/-- [pair[0] for pair in ps] -/
theorem lc_names1 {M : List Addr} {K : PySem.W.Frag} {H : Hp} {σ : L2.St} {s j : Nat} {l : List (Str × Str)} {q : Addr} {xs : List V} {Qk : VK} (e0 : σ[s]? = some (some (.ref q))) (hj : j < σ.length) (hq : H q = some (.lst xs)) (dx : DAs M H xs (l.map pairD))
    (hl : l.length ≤ 900) (k : ∀ H1 D, Same H H1 → H D = none → H1 D = some (.lst (l.map fun u => V.str u.1)) → Qk (.ref D) H1) :
    tLc (iList K (tVar s)) (gName j) tYes (tOp (rIxT K) (tVar j) (tC (.int 0))) [j] σ H Qk := by
  have lx : xs.length = l.length := by rw [dx.length, List.length_map]
  refine ⟨_, e0, q, rfl, ⟨xs, .inl (.inl hq)⟩, fun D hD => ?_⟩
  refine lc_vals (Qd := fun H' => Qk (.ref D) H') (walk_list (xs := xs)) (l.map fun u => V.str u.1) (by rw [List.length_map, lx]) (by omega) hD (fun H' s' => .inl (.inl (s' _ _ hq))) yAt_same gName_mono (fun i x y H2 H3 Kk hy s2 hx kk => ?_) (fun H2 s2 hl2 => k H2 D s2 hD hl2)
  obtain ⟨rfl, hx⟩ := hx
  obtain ⟨u, t, hu, rfl, rfl, ht⟩ := pairs_at dx hx hy
  have ej : ((wipe σ [j]).set j (some (V.ref t)))[j]? = some (some (V.ref t)) := List.getElem?_set_self (by rw [wipe_length]; exact hj)
  refine ⟨?_, _, ej, t, _, 0, .str u.1, rfl, rfl, .inl (.inl (s2 _ _ ht)), at_of (j := 0) rfl rfl, kk _ (Same.refl _)⟩
  show ((σ.set j none).set j (some (V.ref t))).set j none = σ.set j none
  rw [List.set_set, List.set_set]
/-- xs + [ys as a tuple] -/
theorem app_new {M : List Addr} {H : Hp} {p p1 p2 : Addr} {xs ys : List V} {ds es : List D} (tM : Trk M H) (dx : DAs M H xs ds) (dy : DAs M H ys es) (hp : H p = none) (hp1 : (upd H p (.tup ys)) p1 = none) (hp2 : (upd (upd H p (.tup ys)) p1 (.lst [.ref p])) p2 = none) :
    Same H (upd (upd (upd H p (.tup ys)) p1 (.lst [.ref p])) p2 (.lst (xs ++ [.ref p]))) ∧ DA M (upd (upd (upd H p (.tup ys)) p1 (.lst [.ref p])) p2 (.lst (xs ++ [.ref p]))) (.ref p2) (.lst (ds ++ [.tup es])) := by
  have s1 := Same.up (o := .tup ys) hp
  have s2 := Same.up (o := .lst [V.ref p]) hp1
  have s12 := s1.trans s2
  have s3 := Same.up (o := .lst (xs ++ [V.ref p])) hp2
  have e1 : DA M (upd H p (.tup ys)) (.ref p) (.tup es) := DA.newT tM hp dy
  exact ⟨s12.trans s3, DA.newL (tM.same s12) hp2 ((dx.keep (Keep.of s12)).append (DAs.cons (e1.keep (Keep.of s2)) DAs.nil))⟩
theorem cutV_take {xs : List V} {i : Int} (h0 : 0 ≤ i) (h1 : i < (xs.length : Int)) : cutV xs none (some i) = xs.take i.toNat := by
  have e1 : HT.sIx xs.length 0 none = 0 := rfl
  have e2 : HT.sIx xs.length xs.length (some i) = i.toNat := by
    show (if i < 0 then (i + (xs.length : Int)).toNat else min i.toNat xs.length) = i.toNat
    rw [if_neg (by omega)]
    omega
  unfold cutV
  rw [e1, e2, List.drop_zero, Nat.sub_zero]
theorem cutV_drop {xs : List V} {i : Int} (h0 : 0 ≤ i) (h1 : i < (xs.length : Int)) : cutV xs (some (i + 1)) none = xs.drop (i.toNat + 1) := by
  have e1 : HT.sIx xs.length xs.length none = xs.length := rfl
  have e2 : HT.sIx xs.length 0 (some (i + 1)) = i.toNat + 1 := by
    show (if i + 1 < 0 then (i + 1 + (xs.length : Int)).toNat else min (i + 1).toNat xs.length) = i.toNat + 1
    rw [if_neg (by omega)]
    omega
  unfold cutV
  rw [e1, e2]
  exact List.take_of_length_le (by rw [List.length_drop]; omega)
section
variable {P : Program} {w : World} {K : PySem.W.Frag} {mg : Str → Option Value} {base : Heap}
abbrev N_L_lists_after : List Str := ["_law_lists", "_law_deed_here", "_law_machines", "_law_rows", "_law_moves"]
theorem sc_L_lists_after : FnScope N_L_lists_after ["_law_lists", "_law_deed_here"] (defScope s_L_lists_after) := ⟨rfl, rfl, rfl, by decide +kernel, rfl, by decide +kernel, by decide +kernel⟩
theorem b_L_lists_after : Bnd0 d_L_lists_after.name d_L_lists_after.qual d_L_lists_after.params d_L_lists_after.body d_L_lists_after.scope ["_law_lists", "_law_deed_here"] := fun _ _ _ _ _ _ us hl => match us, hl with | [_, _], _ => rfl
theorem ok_L_lists_after (T : TX w K mg) : CalE P w K mg base 1 "_law_lists_after" [] spListsAfter := by
  refine cal_of T.fd_L_lists_after T.g_L_lists_after sc_L_lists_after b_L_lists_after (fun vs H Q E h => ?_) (fun cdv A outer s H vs Q E hr h => ?_)
  · obtain ⟨M, lv, dv, L, d, rfl, _⟩ := h
    rfl
  obtain ⟨M, lv, dv, L, d, rfl, dl, dd, tM, he, lim, hs, k⟩ := h
  obtain ⟨lp, la, lb, lc, xa, xb, xc, rfl, nlp, hlp, na, nb, nc, ha, hb, hc, da, db, dc⟩ := dl.lab3
  obtain ⟨dp, rv, rfl, ndp, hdp, drv⟩ := dd.deed
  have nd := sc_L_lists_after.nd
  refine ⟨_, (pss_cons (ps_asg (pv 0) (pg_tup (n := 3) (by rfl) (pgs_cons (pg_name (i := 2) nd rfl (Or.inl rfl)) (pgs_cons (pg_name (i := 3) nd rfl (Or.inl rfl)) (pgs_cons (pg_name (i := 4) nd rfl (Or.inl rfl)) pgs_nil)))))
      (pss_cons (ps_if (pt_cmpR op_eq (pe_ix ix_tup (pv 1) pe_int (fun _ _ => rfl)) pe_str (nomark _))
      (pss_one (ps_ret (pe_tup (pa_cons (pe_op op_cat (pv 2) (pe_lst (pa_cons (pe_slice sl_tupA (pv 1) (po_some pe_int) po_none) pa_nil))) (pa_cons (pv 3) (pa_cons (pv 4) pa_nil))))))
      pss_nil)
      (pss_cons (ps_if (pt_cmpR op_eq (pe_ix ix_tup (pv 1) pe_int (fun _ _ => rfl)) pe_str (nomark _))
      (pss_one (ps_ret (pe_tup (pa_cons (pv 2) (pa_cons (pe_op op_cat (pv 3) (pe_lst (pa_cons (pe_slice sl_tupA (pv 1) (po_some pe_int) po_none) pa_nil))) (pa_cons (pv 4) pa_nil))))))
      pss_nil)
      (pss_cons (ps_if (pt_cmpR op_eq (pe_ix ix_tup (pv 1) pe_int (fun _ _ => rfl)) pe_str (nomark _))
      (pss_one (ps_ret (pe_tup (pa_cons (pv 2) (pa_cons (pv 3) (pa_cons (pe_op op_cat (pe_slice sl_list (pv 4) po_none (po_some (pe_ix ix_tup (pv 1) pe_int (fun _ _ => rfl)))) (pe_slice sl_list (pv 4) (po_some (pe_op op_add (pe_ix ix_tup (pv 1) pe_int (fun _ _ => rfl)) pe_int)) po_none)) pa_nil))))))
      pss_nil)
      (pss_one (ps_ret (pe_tup (pa_cons (pv 2) (pa_cons (pv 3) (pa_cons (pe_op op_cat (pv 4) (pe_lst (pa_cons (pe_slice sl_tupA (pv 1) (po_some pe_int) po_none) pa_nil))) pa_nil)))))))))), ?_⟩
  simp only [tSeq, tDrop, tVar, tC, tCall, tCons, tNil, tFld, sFld, sDPut, tDGet, tRet, tRetN, tIfS, tTest, tB, tNot, tAnd, tOr, tOp, tUn, rI0, rI, tNext, tDIn, tDNotIn, tDNewK, tIf, tAndV, tOrV, tNotV, tAsg, gName, gCons, gNil, gTup, tPar, tTup, tLst, tMeth, tCB, rEq, rNe, tBM, rAppend, tBM0, tChain, rIxL, rIxT, rIxS, rIx, L2.start, cxK, cxW, kV_inr, List.map_cons, List.map_nil, List.length_cons, List.length_nil, List.replicate, List.cons_append, List.nil_append, List.append_nil, List.getElem?_cons_zero, List.getElem?_cons_succ, List.set_cons_zero, List.set_cons_succ, Option.some.injEq, V.ref.injEq, V.str.injEq, V.int.injEq, V.bl.injEq, exists_eq, exists_eq', exists_eq_left, exists_eq_left', exists_and_left, exists_and_right, List.cons.injEq, and_true, true_and, and_assoc, tSl, rSlL, rSlA, tPart, tNoPart, rCat]
  refine ⟨_, .inl (.inl hlp), rfl, _, _, rfl, _, _, rfl, _, _, rfl, rfl, ?_⟩
  have lxa : xa.length = L.ms.length := by rw [da.length, List.length_map]
  have lxb : xb.length = L.rs.length := by rw [db.length, List.length_map]
  have lxc : xc.length = L.mv.length := by rw [dc.length, List.length_map]
  have l1 := lim.l1
  have l2 := lim.l2
  have l3 := lim.l3
  have dA : DA M H (.ref la) (.lst (L.ms.map pairD)) := DA.lst_iff.mpr ⟨la, xa, rfl, na, ha, da⟩
  have dB : DA M H (.ref lb) (.lst (L.rs.map pairD)) := DA.lst_iff.mpr ⟨lb, xb, rfl, nb, hb, db⟩
  have dC : DA M H (.ref lc) (.lst (L.mv.map Mv.d)) := DA.lst_iff.mpr ⟨lc, xc, rfl, nc, hc, dc⟩
  cases d with
  | lab _ => cases he
  | drop _ => cases he
  | wish _ _ => cases he
  | unwish _ => cases he
  | machine n m f =>
    obtain rfl := DAs.strs (ss := [n, m, f]) drv
    have hdp : H dp = some (.tup [.str "machine", .str n, .str m, .str f]) := hdp
    refine ⟨_, .inl (.inl hdp), .str "machine", at_of (j := 0) rfl rfl, rfl, ?_⟩
    rw [strEq]
    refine iteT ⟨_, .inl (.inl hdp), fun h => absurd h.1 (by show ¬ HT.sIx 4 0 (some 2) = 0; decide), fun _ p hp => ⟨by rw [sizeLine_eq]; omega, fun p1 hp1 => ?_⟩⟩
    have ha1 := Same.up (o := .lst [V.ref p]) hp1 _ _ (Same.up (o := .tup (cutV [V.str "machine", V.str n, V.str m, V.str f] (some 2) none)) hp _ _ ha)
    refine ⟨la, rfl, xa, ha1, [.ref p], upd_same, by rw [sizeLine_eq]; simp; omega, fun p2 hp2 => ⟨by rw [sizeLine_eq]; omega, fun p3 hp3 => ?_⟩⟩
    obtain ⟨s3, d3⟩ := app_new (ys := [V.str m, V.str f]) (es := [.str m, .str f]) tM da (DAs.of_strs [m, f]) hp hp1 hp2
    have s4 := Same.up (o := .tup [V.ref p2, V.ref lb, V.ref lc]) hp3
    refine k _ _ (s3.trans s4) (lab_tup (L := ⟨L.ms ++ [(m, f)], L.rs, L.mv⟩) ((tM.same s3).new hp3) upd_same ?_ (dB.keep (Keep.of (s3.trans s4))) (dC.keep (Keep.of (s3.trans s4))))
    rw [List.map_append]
    exact d3.keep (Keep.of s4)
  | row n m f =>
    obtain rfl := DAs.strs (ss := [n, m, f]) drv
    have hdp : H dp = some (.tup [.str "row", .str n, .str m, .str f]) := hdp
    refine ⟨_, .inl (.inl hdp), .str "row", at_of (j := 0) rfl rfl, rfl, ?_⟩
    rw [strNe (by decide)]
    refine iteF ⟨_, .inl (.inl hdp), .str "row", at_of (j := 0) rfl rfl, rfl, ?_⟩
    rw [strEq]
    refine iteT ⟨_, .inl (.inl hdp), fun h => absurd h.1 (by show ¬ HT.sIx 4 0 (some 2) = 0; decide), fun _ p hp => ⟨by rw [sizeLine_eq]; omega, fun p1 hp1 => ?_⟩⟩
    have hb1 := Same.up (o := .lst [V.ref p]) hp1 _ _ (Same.up (o := .tup (cutV [V.str "row", V.str n, V.str m, V.str f] (some 2) none)) hp _ _ hb)
    refine ⟨lb, rfl, xb, hb1, [.ref p], upd_same, by rw [sizeLine_eq]; simp; omega, fun p2 hp2 => ⟨by rw [sizeLine_eq]; omega, fun p3 hp3 => ?_⟩⟩
    obtain ⟨s3, d3⟩ := app_new (ys := [V.str m, V.str f]) (es := [.str m, .str f]) tM db (DAs.of_strs [m, f]) hp hp1 hp2
    have s4 := Same.up (o := .tup [V.ref la, V.ref p2, V.ref lc]) hp3
    refine k _ _ (s3.trans s4) (lab_tup (L := ⟨L.ms, L.rs ++ [(m, f)], L.mv⟩) ((tM.same s3).new hp3) upd_same (dA.keep (Keep.of (s3.trans s4))) ?_ (dC.keep (Keep.of (s3.trans s4))))
    rw [List.map_append]
    exact d3.keep (Keep.of s4)
  | move n v =>
    obtain ⟨x1, r1, rfl, e1, drv⟩ := DAs.cons_inv drv
    have dv0 := drv
    obtain ⟨x2, r2, rfl, e2, drv⟩ := DAs.cons_inv drv
    obtain ⟨x3, r3, rfl, e3, drv⟩ := DAs.cons_inv drv
    obtain ⟨x4, r4, rfl, e4, drv⟩ := DAs.cons_inv drv
    obtain ⟨x5, r5, rfl, e5, drv⟩ := DAs.cons_inv drv
    obtain rfl := DAs.nil_inv drv
    have hdp : H dp = some (.tup [.str "move", x1, x2, x3, x4, x5]) := hdp
    refine ⟨_, .inl (.inl hdp), .str "move", at_of (j := 0) rfl rfl, rfl, ?_⟩
    rw [strNe (by decide)]
    refine iteF ⟨_, .inl (.inl hdp), .str "move", at_of (j := 0) rfl rfl, rfl, ?_⟩
    rw [strNe (by decide)]
    refine iteF ⟨_, .inl (.inl hdp), .str "move", at_of (j := 0) rfl rfl, rfl, ?_⟩
    rw [strNe (by decide)]
    refine iteF ⟨_, .inl (.inl hdp), fun h => absurd h.1 (by show ¬ HT.sIx 6 0 (some 2) = 0; decide), fun _ p hp => ⟨by rw [sizeLine_eq]; omega, fun p1 hp1 => ?_⟩⟩
    have hc1 := Same.up (o := .lst [V.ref p]) hp1 _ _ (Same.up (o := .tup (cutV [V.str "move", x1, x2, x3, x4, x5] (some 2) none)) hp _ _ hc)
    refine ⟨lc, rfl, xc, hc1, [.ref p], upd_same, by rw [sizeLine_eq]; simp; omega, fun p2 hp2 => ⟨by rw [sizeLine_eq]; omega, fun p3 hp3 => ?_⟩⟩
    obtain ⟨s3, d3⟩ := app_new (ys := [x2, x3, x4, x5]) (es := [.str v.m, .str v.s, v.a.d, .str v.e]) tM dc dv0 hp hp1 hp2
    have s4 := Same.up (o := .tup [V.ref la, V.ref lb, V.ref p2]) hp3
    refine k _ _ (s3.trans s4) (lab_tup (L := ⟨L.ms, L.rs, L.mv ++ [v]⟩) ((tM.same s3).new hp3) upd_same (dA.keep (Keep.of (s3.trans s4))) (dB.keep (Keep.of (s3.trans s4))) ?_)
    rw [List.map_append]
    exact d3.keep (Keep.of s4)
  | strike n i =>
    obtain ⟨x1, r1, rfl, e1, drv⟩ := DAs.cons_inv drv
    obtain ⟨x2, r2, rfl, e2, drv⟩ := DAs.cons_inv drv
    obtain rfl := DAs.nil_inv drv
    obtain rfl := DA.int_iff.mp e2
    have hdp : H dp = some (.tup [.str "strike", x1, .int i]) := hdp
    refine ⟨_, .inl (.inl hdp), .str "strike", at_of (j := 0) rfl rfl, rfl, ?_⟩
    rw [strNe (by decide)]
    refine iteF ⟨_, .inl (.inl hdp), .str "strike", at_of (j := 0) rfl rfl, rfl, ?_⟩
    rw [strNe (by decide)]
    refine iteF ⟨_, .inl (.inl hdp), .str "strike", at_of (j := 0) rfl rfl, rfl, ?_⟩
    rw [strEq]
    have hi : inB i L.mv.length = true := hs n i rfl
    unfold inB at hi
    obtain ⟨i0, i1⟩ := Bool.and_eq_true_iff.mp hi
    have i0 := of_decide_eq_true i0
    have i1 := of_decide_eq_true i1
    have t1 : cutV xc none (some i) = xc.take i.toNat := cutV_take i0 (by omega)
    have t2 : cutV xc (some (i + 1)) none = xc.drop (i.toNat + 1) := cutV_drop i0 (by omega)
    refine iteT ⟨_, .inl (.inl hdp), .int i, at_of (j := 2) rfl rfl, i, rfl, lc, rfl, xc, .inl (.inl hc), fun p hp => ?_⟩
    have s1 := Same.up (o := .lst (cutV xc none (some i))) hp
    refine ⟨_, .inl (.inl (s1 _ _ hdp)), .int i, at_of (j := 2) rfl rfl, i, rfl, lc, rfl, xc, .inl (.inl (s1 _ _ hc)), fun p1 hp1 => ?_⟩
    have s2 := Same.up (o := .lst (cutV xc (some (i + 1)) none)) hp1
    rw [t1, t2] at *
    refine ⟨xc.take i.toNat, s2 _ _ upd_same, xc.drop (i.toNat + 1), upd_same, by rw [sizeLine_eq, List.length_take, List.length_drop]; omega, fun p2 hp2 => ⟨by rw [sizeLine_eq]; omega, fun p3 hp3 => ?_⟩⟩
    have s3 := Same.up (o := .lst (xc.take i.toNat ++ xc.drop (i.toNat + 1))) hp2
    have s4 := Same.up (o := .tup [V.ref la, V.ref lb, V.ref p2]) hp3
    have s12 := s1.trans s2
    have s13 := s12.trans s3
    have s14 := s13.trans s4
    refine k _ _ s14 (lab_tup (L := ⟨L.ms, L.rs, L.mv.eraseIdx i.toNat⟩) ((tM.same s13).new hp3) upd_same (dA.keep (Keep.of s14)) (dB.keep (Keep.of s14)) ?_)
    have e : (L.mv.eraseIdx i.toNat).map Mv.d = (L.mv.map Mv.d).take i.toNat ++ (L.mv.map Mv.d).drop (i.toNat + 1) := by rw [← erase_map, List.eraseIdx_eq_take_drop_succ]
    rw [e]
    exact (DA.newL (tM.same s12) hp2 (((dc.keep (Keep.of s12)).take _).append ((dc.keep (Keep.of s12)).drop _))).keep (Keep.of s4)
abbrev N_L_edit_word : List Str := ["_law_lists", "_law_deed_here", "_law_names_here", "_law_early", "_law_found", "_law_held", "_law_machine", "_law_start", "_law_act", "_law_end", "_law_some", "_law_pair", "_law_name", "_law_first"]
theorem sc_L_edit_word : FnScope N_L_edit_word ["_law_lists", "_law_deed_here"] (defScope s_L_edit_word) := ⟨rfl, rfl, rfl, by decide +kernel, rfl, by decide +kernel, by decide +kernel⟩
theorem b_L_edit_word : Bnd0 d_L_edit_word.name d_L_edit_word.qual d_L_edit_word.params d_L_edit_word.body d_L_edit_word.scope ["_law_lists", "_law_deed_here"] := fun _ _ _ _ _ _ us hl => match us, hl with | [_, _], _ => rfl
theorem ok_L_edit_word (T : TX w K mg) : CalE P w K mg base 3 "_law_edit_word" [] spEditWord := by
  refine cal_of T.fd_L_edit_word T.g_L_edit_word sc_L_edit_word b_L_edit_word (fun vs H Q E h => ?_) (fun cdv A outer s H vs Q E hr h => ?_)
  · obtain ⟨M, lv, dv, L, d, rfl, _⟩ := h
    rfl
  obtain ⟨M, lv, dv, L, d, rfl, dl, dd, tM, he, sh, lim, hs, k⟩ := h
  obtain ⟨lp, la, lb, lc, xa, xb, xc, rfl, nlp, hlp, na, nb, nc, ha, hb, hc, da, db, dc⟩ := dl.lab3
  obtain ⟨dp, rv, rfl, ndp, hdp, drv⟩ := dd.deed
  have nd := sc_L_edit_word.nd
  refine ⟨_, (pss_cons (ps_setLc (i := 2) (own := [("_law_some", 10)]) (by rfl) nd rfl rfl (sw_true rfl rfl rfl (by decide +kernel)) (pi_tup (pe_slice sl_tupA (pv 0) po_none (po_some pe_int))) (blkOk_by (N := N_L_edit_word) (sc := defScope s_L_edit_word) (by decide +kernel)) (fun _ _ _ _ _ => (pg_name (i := 10) nd rfl (Or.inl rfl))) (fun _ _ _ _ _ => pts_nil) (fun _ _ _ _ _ => (pe_lc (own := [("_law_pair", 11)]) (by rfl) nd (pi_listK (K := K) rfl (pv 10)) (blkOk_by (N := N_L_edit_word) (sc := relS { kind := PySem.ScopeKind.function, names := [(Str.ofString ".0", PySem.NameKind.local), (Str.ofString "_law_some", PySem.NameKind.local)], isGenerator := false, isCoroutine := false } (defScope s_L_edit_word)) (by decide +kernel)) (fun _ _ _ _ _ => (pg_name (i := 11) nd rfl (Or.inl rfl))) (fun _ _ _ _ _ => pts_nil) (fun _ _ _ _ _ => (pe_ix (ix_tupK (K := K) rfl) (pv 11) pe_int (fun _ _ => rfl))))))
      (pss_cons (ps_if (pt_cmpR op_eq (pe_ix ix_tup (pv 1) pe_int (fun _ _ => rfl)) pe_str (nomark _))
      (pss_cons (ps_set (i := 3) nd rfl (Or.inl rfl) (pe_ifExp (pt_val (pe_cal (ok_L_word_of T) (hr.mono (by decide)) rfl passL (pa_cons (pe_ix ix_tup (pv 1) pe_int (fun _ _ => rfl)) (pa_cons pe_int (pa_cons pe_int pa_nil))))) pe_str pe_str))
      (pss_one (ps_ret (pe_orT (pv 3) (pe_one (pe_cal (ok_L_fresh_wordL T) (hr.mono (by decide)) rfl passL (pa_cons (pe_ix ix_tup (pv 1) pe_int (fun _ _ => rfl)) (pa_cons (pe_ix ix_list (pv 2) pe_int (fun _ _ => rfl)) (pa_cons pe_int pa_nil)))))))))
      pss_nil)
      (pss_cons (ps_if (pt_cmpR op_eq (pe_ix ix_tup (pv 1) pe_int (fun _ _ => rfl)) pe_str (nomark _))
      (pss_cons (ps_set (i := 3) nd rfl (Or.inl rfl) (pe_orT (pe_cal (ok_L_fresh_wordL T) (hr.mono (by decide)) rfl passL (pa_cons (pe_ix ix_tup (pv 1) pe_int (fun _ _ => rfl)) (pa_cons (pe_ix ix_list (pv 2) pe_int (fun _ _ => rfl)) (pa_cons pe_int pa_nil)))) (pe_one (pe_ix ix_list (pe_lst (pa_cons pe_str (pa_cons pe_str pa_nil))) (pe_callTy call_int1 (by rfl) T.f_int (by decide +kernel) (pa_cons (pe_cal (ok_L_word_of T) (hr.mono (by decide)) rfl passL (pa_cons (pe_ix ix_tup (pv 1) pe_int (fun _ _ => rfl)) (pa_cons pe_int (pa_cons pe_int pa_nil)))) pa_nil)) (fun _ _ => rfl)))))
      (pss_one (ps_ret (pe_orT (pv 3) (pe_one (pe_ix ix_list (pe_lst (pa_cons pe_str (pa_cons pe_str pa_nil))) (pe_callTy call_int1 (by rfl) T.f_int (by decide +kernel) (pa_cons (pe_cmpR op_gt (pe_callB call_len_seq (by rfl) T.f_len PySem.boot_len (pa_cons (pe_ix ix_list (pv 2) pe_int (fun _ _ => rfl)) pa_nil)) pe_int (nomark _)) pa_nil)) (fun _ _ => rfl)))))))
      pss_nil)
      (pss_cons (ps_set (i := 4) nd rfl (Or.inl rfl) (pe_cal (ok_L_move_due T) (hr.mono (by decide)) rfl passL (pa_cons (pv 0) (pa_cons (pe_slice sl_tupA (pv 1) (po_some pe_int) po_none) pa_nil))))
      (pss_cons (ps_setLc (i := 5) (own := [("_law_name", 12), ("_law_first", 13)]) (by rfl) nd rfl rfl (sw_true rfl rfl rfl (by decide +kernel)) (pi_list (pe_ix ix_tup (pv 0) pe_int (fun _ _ => rfl))) (blkOk_by (N := N_L_edit_word) (sc := defScope s_L_edit_word) (by decide +kernel)) (fun _ _ _ _ _ => (pg_tupK (K := K) rfl (n := 2) (by rfl) (pgs_cons (pg_name (i := 12) nd rfl (Or.inl rfl)) (pgs_cons (pg_name (i := 13) nd rfl (Or.inl rfl)) pgs_nil)))) (fun _ _ _ _ _ => (pts_one (pt_cmpR op_eq (pv 12) (pe_ix (ix_tupK (K := K) rfl) (pv 1) pe_int (fun _ _ => rfl)) (nomark _)))) (fun _ _ _ _ _ => (pv 13)))
      (pss_cons (ps_for (passes_of rfl) rfl (pi_list (pe_op op_cat (pe_ix ix_tup (pv 0) pe_int (fun _ _ => rfl)) (pe_lst (pa_cons (pe_slice sl_tupA (pv 1) (po_some pe_int) po_none) pa_nil)))) (pg_tup (n := 4) (by rfl) (pgs_cons (pg_name (i := 6) nd rfl (Or.inl rfl)) (pgs_cons (pg_name (i := 7) nd rfl (Or.inl rfl)) (pgs_cons (pg_name (i := 8) nd rfl (Or.inl rfl)) (pgs_cons (pg_name (i := 9) nd rfl (Or.inl rfl)) pgs_nil)))))
      (pss_one (ps_set (i := 5) nd rfl (Or.inl rfl) (pe_op op_cat (pv 5) (pe_op op_rep (pe_lst (pa_cons (pv 7) (pa_cons (pv 9) pa_nil))) (pe_callTy call_int1 (by rfl) T.f_int (by decide +kernel) (pa_cons (pe_cmpR op_eq (pv 6) (pe_ix ix_tup (pv 1) pe_int (fun _ _ => rfl)) (nomark _)) pa_nil)))))))
      (pss_one (ps_ret (pe_orT (pv 4) (pe_one (pe_ix ix_list (pe_lst (pa_cons pe_str (pa_cons pe_str pa_nil))) (pe_callTy call_int1 (by rfl) T.f_int (by decide +kernel) (pa_cons (pe_or (pe_cmpR op_gt (pe_callB call_len_seq (by rfl) T.f_len PySem.boot_len (pa_cons (pe_ix ix_tup (pv 0) pe_int (fun _ _ => rfl)) pa_nil)) pe_int (nomark _)) (pe_one (pe_cmpR op_gt (pe_lenSetS rfl rfl T.f_len rfl T.f_set (pv 5)) pe_int (nomark _)))) pa_nil)) (fun _ _ => rfl)))))))))))), ?_⟩
  have l1 := lim.l1
  have l2 := lim.l2
  have l3 := lim.l3
  refine ⟨_, rfl, 2, rfl, lp, _, rfl, .inl (.inl hlp), fun h => absurd h.2 (by show ¬ HT.sIx 3 3 (some 2) = 3; decide), fun _ p hp => ?_⟩
  have s1 : Same H (upd H p (.tup [.ref la, .ref lb])) := Same.up hp
  have hp1 : (upd H p (.tup [.ref la, .ref lb])) p = some (.tup [.ref la, .ref lb]) := upd_same
  have e2 : cutV [V.ref la, V.ref lb, V.ref lc] none (some 2) = [V.ref la, V.ref lb] := rfl
  rw [e2]
  clear e2
  generalize upd H p (.tup [.ref la, .ref lb]) = H1 at *
  refine ⟨p, rfl, ⟨_, .inl (.inl hp1)⟩, fun D hD => ?_⟩
  refine lc_acc0 (Qd := fun H' => _) (walk_tup (xs := [V.ref la, V.ref lb])) (fun i acc H' => Same H1 H' ∧ acc.length = i ∧ ∀ j y, acc[j]? = some y → ∃ q, y = .ref q ∧ q ≠ D ∧ H' q = some (.lst ((if j = 0 then L.ms else L.rs).map fun u => V.str u.1))) (by simp) hD ⟨Same.up hD, rfl, fun j y h => by simp at h⟩
    (fun i acc H' _ q => .inl (.inl (q.1 _ _ hp1))) (fun i acc H' q => Nat.le_of_eq q.2.1) (fun i acc H' H'' q kk => ⟨Same.keepL hD q.1 kk, q.2.1, fun j y h => ?_⟩) gName_mono (fun i x acc H2 H3 Kk hi q hDs y kk => ?_) (fun acc H2 q hacc => ?_)
  · obtain ⟨r, e1, e2, e3⟩ := q.2.2 j y h
    exact ⟨r, e1, e2, kk _ _ (by simp; exact e2) e3⟩
  · obtain ⟨rfl, hx⟩ := y
    obtain ⟨s2, hl, hq⟩ := q
    obtain ⟨oD, hDs⟩ := hDs
    have s02 := s1.trans s2
    have stp : ∀ (l : List (Str × Str)) (q : Addr) (ys : List V), x = .ref q → H3 q = some (.lst ys) → DAs M H3 ys (l.map pairD) → l.length ≤ 900 → l = (if i = 0 then L.ms else L.rs) → tLc (iList K (tVar 10)) (gName 11) tYes (tOp (rIxT K) (tVar 11) (tC (V.int 0))) [11] ((wipe (L2.start N_L_edit_word [V.ref lp, V.ref dp]) [10]).set 10 (some x)) H3 Kk := fun l q ys ex hq2 dx hl' el => by
      refine lc_names1 (M := M) (by rw [ex]; rfl) (by simp [wipe, L2.start]) hq2 dx hl' fun H4 D4 s4 nD4 hD4 => kk _ _ (Keep.of s4) ⟨s2.trans s4, by rw [List.length_append, hl]; rfl, fun j y hj => ?_⟩
      by_cases c : j < acc.length
      · rw [List.getElem?_append_left c] at hj
        obtain ⟨r, e1, e2, e3⟩ := hq j y hj
        exact ⟨r, e1, e2, s4 _ _ e3⟩
      · rw [List.getElem?_append_right (by omega)] at hj
        have ej : j - acc.length = 0 := by
          cases e : j - acc.length with
          | zero => rfl
          | succ n => rw [e] at hj; simp at hj
        rw [ej] at hj
        have ey : V.ref D4 = y := by simpa using hj
        have eji : j = i := by omega
        refine ⟨D4, ey.symm, fun z => ?_, by rw [hD4, eji, ← el]⟩
        rw [z, hDs] at nD4
        cases nD4
    refine ⟨rfl, ?_⟩
    match i, hi, hx with
    | 0, _, hx => exact stp L.ms la xa (by simpa using hx.symm) (s02 _ _ ha) (da.keep (Keep.of s02)) (by omega) rfl
    | 1, _, hx => exact stp L.rs lb xb (by simpa using hx.symm) (s02 _ _ hb) (db.keep (Keep.of s02)) (by omega) rfl
  obtain ⟨s2, hl, hq⟩ := q
  obtain ⟨y1, y2, rfl⟩ : ∃ y1 y2, acc = [y1, y2] := by
    match acc, hl with
    | [y1, y2], _ => exact ⟨y1, y2, rfl⟩
  obtain ⟨q1, rfl, nq1, hq1⟩ := hq 0 _ rfl
  obtain ⟨q2, rfl, nq2, hq2⟩ := hq 1 _ rfl
  have hq1 : H2 q1 = some (.lst ((L.ms.map (·.1)).map V.str)) := by rw [hq1, List.map_map]; rfl
  have hq2 : H2 q2 = some (.lst ((L.rs.map (·.1)).map V.str)) := by rw [hq2, List.map_map]; rfl
  have s02 := s1.trans s2
  dsimp only [gName]
  cases d with
  | lab _ => cases he
  | drop _ => cases he
  | wish _ _ => cases he
  | unwish _ => cases he
  | strike n i => exact absurd rfl (hs n i)
  | machine n m f =>
    obtain rfl := DAs.strs (ss := [n, m, f]) drv
    have hdp : H2 dp = some (.tup [.str "machine", .str n, .str m, .str f]) := s02 _ _ hdp
    simp only [tSeq, tDrop, tVar, tC, tCall, tCons, tNil, tFld, sFld, sDPut, tDGet, tRet, tRetN, tIfS, tTest, tB, tNot, tAnd, tOr, tOp, tUn, rI0, rI, tNext, tDIn, tDNotIn, tDNewK, tIf, tAndV, tOrV, tNotV, tAsg, gName, gCons, gNil, gTup, tPar, tTup, tLst, tMeth, tCB, rEq, rNe, tBM, rAppend, tBM0, tChain, rIxL, rIxT, rIxS, rIx, L2.start, cxK, cxW, kV_inr, List.map_cons, List.map_nil, List.length_cons, List.length_nil, List.replicate, List.cons_append, List.nil_append, List.append_nil, List.getElem?_cons_zero, List.getElem?_cons_succ, List.set_cons_zero, List.set_cons_succ, Option.some.injEq, V.ref.injEq, V.str.injEq, V.int.injEq, V.bl.injEq, exists_eq, exists_eq', exists_eq_left, exists_eq_left', exists_and_left, exists_and_right, List.cons.injEq, and_true, true_and, and_assoc, tOrT]
    refine ⟨_, .inl (.inl hdp), .str "machine", at_of (j := 0) rfl rfl, rfl, ?_⟩
    rw [strEq]
    refine iteT ⟨_, .inl (.inl hdp), .str f, at_of (j := 3) rfl rfl, f, 1, 8, rfl, sh.2.2, fun H3 s3 => ⟨_, rfl, ?_⟩⟩
    have en : wordOf f 1 8 = isName f := rfl
    rw [en]
    have s03 := s02.trans s3
    have k : ∀ H', Same H H' → Q (.str (txt (thn1 (okIf (isName f) "badname") (freshO m (hasK m L.ms) (decide (L.ms.length < 3)))))) H' := k
    cases h1 : isName f with
    | false =>
      rw [h1] at k
      exact iteF ⟨true, ⟨by rw [sizeLine_eq]; decide, rfl⟩, iteT (k H3 s03)⟩
    | true =>
    rw [h1] at k
    refine iteT ⟨false, ⟨Nat.zero_le _, rfl⟩, iteF ⟨_, .inl (.inl (s3 _ _ hdp)), .str m, at_of (j := 2) rfl rfl, _, .inl (.inl (s3 _ _ hacc)), .ref q1, at_of (j := 0) rfl rfl, ?_⟩⟩
    refine ⟨m, q1, L.ms.map (·.1), 3, rfl, sh.2.1, s3 _ _ hq1, by rw [List.length_map]; omega, fun H4 s4 => ?_⟩
    rw [any_keys, List.length_map, lt_cast _ 3]
    exact k H4 (s03.trans s4)
  | row n m f =>
    obtain rfl := DAs.strs (ss := [n, m, f]) drv
    have hdp : H2 dp = some (.tup [.str "row", .str n, .str m, .str f]) := s02 _ _ hdp
    refine ⟨_, rfl, dp, _, 0, .str "row", rfl, rfl, .inl (.inl hdp), at_of (j := 0) rfl rfl, rfl, _, rfl, ?_⟩
    rw [strNe (by decide)]
    refine iteF ⟨_, rfl, dp, _, 0, .str "row", rfl, rfl, .inl (.inl hdp), at_of (j := 0) rfl rfl, rfl, _, rfl, ?_⟩
    rw [strEq]
    refine iteT ?_
    have k : ∀ H', Same H H' → Q (.str (txt (thn1 (thn1 (freshO m (hasK m L.rs) (decide (L.rs.length < 99))) (okIf (wordOf f 0 8) "badword")) (okIf (!decide (2 < L.rs.length)) "full")))) H' := k
    refine seq_set (G := fun v H' => Same H2 H' ∧ v = .str (txt (thn1 (freshO m (hasK m L.rs) (decide (L.rs.length < 99))) (okIf (wordOf f 0 8) "badword")))) (fun v H3 g => ?_) (fun Z hZ => ?_)
    · obtain ⟨s3, rfl⟩ := g
      refine or_txt (b := okIf (!decide (2 < L.rs.length)) "full") (fun w h => ref_thn (fun y h => freshO_ref h) (fun y h => ref_ok (w := "badword") (by decide +kernel) h) h) (fun R hR => ⟨_, rfl, hR _ (Same.refl _)⟩) (fun _ H4 s4 R hR => ?_) fun H4 s4 => k H4 ((s02.trans s3).trans s4)
      refine pick2 (c := decide (2 < L.rs.length)) (fun H5 s5 R' hR' => ?_) fun H5 s5 => ?_
      · refine ⟨_, rfl, _, _, 1, .ref q2, rfl, rfl, .inl (.inl ((s3.trans (s4.trans s5)) _ _ hacc)), at_of (j := 1) rfl rfl, q2, _, rfl, .inl (.inl (.inl ((s3.trans (s4.trans s5)) _ _ hq2))), _, _, rfl, rfl, ?_⟩
        rw [List.length_map, List.length_map]
        have e : decide ((2 : Int) < (L.rs.length : Int)) = decide (2 < L.rs.length) := decide_eq_decide.mpr (by omega)
        show R' (.bl (decide ((2 : Int) < (L.rs.length : Int)))) H5
        rw [e]
        exact hR' _ (Same.refl _)
      · have e : (if decide (2 < L.rs.length) = true then ("full" : Str) else "") = txt (okIf (!decide (2 < L.rs.length)) "full") := by
          cases decide (2 < L.rs.length) <;> rfl
        rw [e]
        exact hR _ s5
    · refine or_txt (a := freshO m (hasK m L.rs) (decide (L.rs.length < 99))) (b := okIf (wordOf f 0 8) "badword") (fun w h => freshO_ref h) (fun R hR => ?_) (fun _ H4 s4 R hR => ?_) fun H4 s4 => hZ _ _ ⟨s4, rfl⟩
      · refine ⟨_, rfl, dp, _, 2, .str m, rfl, rfl, .inl (.inl hdp), at_of (j := 2) rfl rfl, _, rfl, D, _, 1, .ref q2, rfl, rfl, .inl (.inl hacc), at_of (j := 1) rfl rfl, m, q2, L.rs.map (·.1), 99, rfl, sh.2.1, hq2, by rw [List.length_map]; omega, fun H4 s4 => ?_⟩
        rw [any_keys, List.length_map, lt_cast _ 99]
        exact hR _ s4
      · refine pick2 (c := wordOf f 0 8) (fun H5 s5 R' hR' => ?_) fun H5 s5 => ?_
        · exact ⟨_, rfl, dp, _, 3, .str f, rfl, rfl, .inl (.inl ((s4.trans s5) _ _ hdp)), at_of (j := 3) rfl rfl, f, 0, 8, rfl, sh.2.2, fun H6 s6 => hR' _ s6⟩
        · have e : (if wordOf f 0 8 = true then ("" : Str) else "badword") = txt (okIf (wordOf f 0 8) "badword") := by
            cases wordOf f 0 8 <;> rfl
          rw [e]
          exact hR _ s5
  | move n v =>
    have hdp : H2 dp = some (.tup (.str "move" :: rv)) := s02 _ _ hdp
    refine ⟨_, rfl, dp, _, 0, .str "move", rfl, rfl, .inl (.inl hdp), at_of (j := 0) rfl rfl, rfl, _, rfl, ?_⟩
    rw [strNe (by decide)]
    refine iteF ⟨_, rfl, dp, _, 0, .str "move", rfl, rfl, .inl (.inl hdp), at_of (j := 0) rfl rfl, rfl, _, rfl, ?_⟩
    rw [strNe (by decide)]
    refine iteF ?_
    obtain ⟨x1, r1, rfl, e1, drv⟩ := DAs.cons_inv drv
    have dv0 := drv
    obtain ⟨x2, r2, rfl, e2, drv⟩ := DAs.cons_inv drv
    obtain ⟨x3, r3, rfl, e3, drv⟩ := DAs.cons_inv drv
    obtain ⟨av, r4, rfl, e4, drv⟩ := DAs.cons_inv drv
    obtain ⟨x5, r5, rfl, e5, drv⟩ := DAs.cons_inv drv
    obtain rfl := DAs.nil_inv drv
    obtain rfl := DA.str_iff.mp e1
    obtain rfl := DA.str_iff.mp e2
    obtain rfl := DA.str_iff.mp e3
    obtain rfl := DA.str_iff.mp e5
    have k : ∀ H', Same H H' → Q (.str (txt (thn1 (chkV L.ms L.rs v) (okIf (!(decide (23 < L.mv.length) || decide (6 < (uniq (heldL L v)).length))) "full")))) H' := k
    have hsx : ∀ H', Same H2 H' → H' dp = some (.tup [.str "move", .str n, .str v.m, .str v.s, av, .str v.e]) := fun H' s' => s' _ _ hdp
    dsimp only [tNext]
    refine seq_set (G := fun x H' => Same H2 H' ∧ x = .str (txt (chkV L.ms L.rs v))) (fun x H3 g => ?_) (fun Z hZ => ?_)
    rotate_left
    · refine ⟨_, rfl, _, rfl, 2, rfl, dp, _, rfl, .inl (.inl hdp), fun h => absurd h.1 (by show ¬ HT.sIx 6 0 (some 2) = 0; decide), fun _ t ht => ?_⟩
      have st := Same.up (o := .tup (cutV [V.str "move", V.str n, V.str v.m, V.str v.s, av, V.str v.e] (some 2) none)) ht
      refine ⟨M, .ref lp, .ref t, L, v, rfl, (dl.keep (Keep.of (s02.trans st))), tM.same (s02.trans st), l1, l2, ?_, sh.2, fun H4 s4 => hZ _ _ ⟨st.trans s4, rfl⟩⟩
      exact DA.mv' ((tM.same s02).new ht) upd_same (e4.keep (Keep.of (s02.trans st)))
    obtain ⟨s3, rfl⟩ := g
    have s03 := s02.trans s3
    have lxa : xa.length = L.ms.length := by rw [da.length, List.length_map]
    have lxc : xc.length = L.mv.length := by rw [dc.length, List.length_map]
    have hdp3 := s3 _ _ hdp
    refine seq_set (G := fun x H' => Same H3 H' ∧ ∃ h, x = .ref h ∧ H' h = some (.lst (((L.ms.filter fun p => decide (p.1 = v.m)).map fun p => p.2).map V.str))) (fun x H4 g => ?_) (fun Z hZ => ?_)
    rotate_left
    · refine ⟨_, rfl, lp, _, 0, .ref la, rfl, rfl, .inl (.inl (s03 _ _ hlp)), at_of (j := 0) rfl rfl, la, rfl, ⟨xa, .inl (.inl (s03 _ _ ha))⟩, fun D2 hD2 => ?_⟩
      refine lc_acc (Qd := fun H' => _) (walk_list (xs := xa)) (fun i acc H' => Same H3 H' ∧ acc = ((L.ms.take i).filter fun p => decide (p.1 = v.m)).map fun p => V.str p.2) (by omega) hD2 ⟨Same.up hD2, rfl⟩ (fun i acc H' _ q => .inl (.inl ((s03.trans q.1) _ _ ha)))
        (fun i acc H' q => by rw [q.2, List.length_map]; exact Nat.le_trans (List.length_filter_le _ _) (by rw [List.length_take]; exact Nat.min_le_left _ _)) (fun i acc H' H'' q kk => ⟨Same.keepL hD2 q.1 kk, q.2⟩) (fun i x acc H4 H5 Kk hi q _ y k1 k0 => ?_) (fun acc H4 q hacc2 => ?_)
      · obtain ⟨rfl, hx⟩ := y
        obtain ⟨s4, hq4⟩ := q
        obtain ⟨u, t, hu, rfl, _, ht⟩ := (da.keep (Keep.of (s03.trans s4))).getP hx
        have et := take_succ_get hu
        simp only [tSeq, tDrop, tVar, tC, tCall, tCons, tNil, tFld, sFld, sDPut, tDGet, tRet, tRetN, tIfS, tTest, tB, tNot, tAnd, tOr, tOp, tUn, rI0, rI, tNext, tDIn, tDNotIn, tDNewK, tIf, tAndV, tOrV, tNotV, tAsg, gName, gCons, gNil, gTup, tPar, tTup, tLst, tMeth, tCB, rEq, rNe, tBM, rAppend, tBM0, tChain, rIxL, rIxT, rIxS, rIx, L2.start, cxK, cxW, kV_inr, List.map_cons, List.map_nil, List.length_cons, List.length_nil, List.replicate, List.cons_append, List.nil_append, List.append_nil, List.getElem?_cons_zero, List.getElem?_cons_succ, List.set_cons_zero, List.set_cons_succ, Option.some.injEq, V.ref.injEq, V.str.injEq, V.int.injEq, V.bl.injEq, exists_eq, exists_eq', exists_eq_left, exists_eq_left', exists_and_left, exists_and_right, List.cons.injEq, and_true, true_and, and_assoc, wipe]
        refine ⟨_, .inl (.inl ht), rfl, _, _, rfl, _, _, rfl, rfl, ?_⟩
        refine ⟨_, .inl (.inl (s4 _ _ hdp3)), .str v.m, at_of (j := 2) rfl rfl, rfl, ?_⟩
        by_cases c : u.1 = v.m
        · rw [decide_eq_true (show V.str u.1 = V.str v.m by rw [c])]
          refine iteT (k1 _ _ (Keep.refl _) ⟨s4, ?_⟩)
          rw [et, List.filter_append, List.filter_cons_of_pos (by simpa using c), List.map_append, hq4]
          rfl
        · rw [strNe c]
          refine iteF (k0 _ (Keep.refl _) ⟨s4, ?_⟩)
          rw [et, List.filter_append, List.filter_cons_of_neg (by simpa using c), List.filter_nil, List.append_nil]
          exact hq4
      · obtain ⟨s4, hq4⟩ := q
        rw [lxa, List.take_length] at hq4
        exact hZ _ _ ⟨s4, D2, rfl, by rw [hacc2, hq4, List.map_map]; rfl⟩
    obtain ⟨s4, h0, rfl, hh0⟩ := g
    have s04 := s03.trans s4
    have hdp4 := s4 _ _ hdp3
    refine ⟨_, rfl, lp, _, 2, .ref lc, rfl, rfl, .inl (.inl (s04 _ _ hlp)), at_of (j := 2) rfl rfl, _, rfl, 2, rfl, dp, _, rfl, .inl (.inl hdp4), fun h => absurd h.1 (by show ¬ HT.sIx 6 0 (some 2) = 0; decide), fun _ t ht => ⟨by show 1 ≤ sizeLine; rw [sizeLine_eq]; omega, fun t2 ht2 => ?_⟩⟩
    have st := Same.up (o := .tup (cutV [V.str "move", V.str n, V.str v.m, V.str v.s, av, V.str v.e] (some 2) none)) ht
    have st2 := Same.up (o := .lst [V.ref t]) ht2
    refine ⟨lc, t2, xc, [.ref t], rfl, rfl, (s04.trans (st.trans st2)) _ _ hc, upd_same, by rw [sizeLine_eq]; simp; omega, fun r hr => ⟨r, rfl, ⟨_, .inl (.inl upd_same)⟩, ?_⟩⟩
    obtain ⟨sA, dA⟩ := app_new (ys := [V.str v.m, V.str v.s, av, V.str v.e]) (es := [.str v.m, .str v.s, v.a.d, .str v.e]) (tM.same s04) (dc.keep (Keep.of s04)) (dv0.keep (Keep.of s04)) ht ht2 hr
    have hr5 : (upd (upd (upd H4 t (.tup (cutV [V.str "move", V.str n, V.str v.m, V.str v.s, av, V.str v.e] (some 2) none))) t2 (.lst [V.ref t])) r (.lst (xc ++ [V.ref t]))) r = some (.lst (xc ++ [V.ref t])) := upd_same
    change Same H4 (upd (upd (upd H4 t (.tup (cutV [V.str "move", V.str n, V.str v.m, V.str v.s, av, V.str v.e] (some 2) none))) t2 (.lst [V.ref t])) r (.lst (xc ++ [V.ref t]))) at sA
    change DA M (upd (upd (upd H4 t (.tup (cutV [V.str "move", V.str n, V.str v.m, V.str v.s, av, V.str v.e] (some 2) none))) t2 (.lst [V.ref t])) r (.lst (xc ++ [V.ref t]))) _ _ at dA
    generalize upd (upd (upd H4 t (.tup (cutV [V.str "move", V.str n, V.str v.m, V.str v.s, av, V.str v.e] (some 2) none))) t2 (.lst [V.ref t])) r (.lst (xc ++ [V.ref t])) = H5 at *
    have s05 := s04.trans sA
    have ds : DAs M H5 (xc ++ [V.ref t]) ((L.mv ++ [v]).map Mv.d) := by
      obtain ⟨r', ys, er, _, hr', dd⟩ := DA.lst_iff.mp dA
      cases er
      rw [hr5] at hr'
      cases hr'
      rw [List.map_append]
      exact dd
    have hdp5 := sA _ _ hdp4
    have lni : (xc ++ [V.ref t]).length = (L.mv ++ [v]).length := by rw [List.length_append, List.length_append, lxc]; rfl
    refine for_it (D := ⟨_, _, fun _ _ => False, fun _ _ => False⟩) (walk_list (xs := xc ++ [V.ref t])) (fun i σ H' => Same H5 H' ∧ ∃ h o3 o6 o7 o8 o9 o10 o11 o12 o13, H' h = some (.lst ((((L.ms.filter fun p => decide (p.1 = v.m)).map fun p => p.2) ++ (((L.mv ++ [v]).take i).filter fun u => decide (u.m = v.m)).flatMap fun u => [u.s, u.e]).map V.str)) ∧
        σ = [some (.ref lp), some (.ref dp), some (.ref D), o3, some (.str (txt (chkV L.ms L.rs v))), some (.ref h), o6, o7, o8, o9, o10, o11, o12, o13])
      ⟨Same.refl _, h0, none, none, none, none, none, none, none, none, none, by rw [List.take_zero]; simp; rw [sA _ _ hh0]; simp, rfl⟩ (fun i σ H' _ z => .inl (.inl (z.1 _ _ hr5))) (fun i x σ H' H'' hi z y => ?_) (fun σ H' z => ?_)
    · obtain ⟨s6, h, o3, o6, o7, o8, o9, o10, o11, o12, o13, hh, rfl⟩ := z
      obtain ⟨rfl, hx⟩ := y
      obtain ⟨u, hu, hud⟩ := (ds.keep (Keep.of s6)).getMv hx
      obtain ⟨up, uav, rfl, _, hup, _⟩ := hud.mv
      have et := take_succ_get hu
      simp only [tSeq, tDrop, tVar, tC, tCall, tCons, tNil, tFld, sFld, sDPut, tDGet, tRet, tRetN, tIfS, tTest, tB, tNot, tAnd, tOr, tOp, tUn, rI0, rI, tNext, tDIn, tDNotIn, tDNewK, tIf, tAndV, tOrV, tNotV, tAsg, gName, gCons, gNil, gTup, tPar, tTup, tLst, tMeth, tCB, rEq, rNe, tBM, rAppend, tBM0, tChain, rIxL, rIxT, rIxS, rIx, L2.start, cxK, cxW, kV_inr, List.map_cons, List.map_nil, List.length_cons, List.length_nil, List.replicate, List.cons_append, List.nil_append, List.append_nil, List.getElem?_cons_zero, List.getElem?_cons_succ, List.set_cons_zero, List.set_cons_succ, Option.some.injEq, V.ref.injEq, V.str.injEq, V.int.injEq, V.bl.injEq, exists_eq, exists_eq', exists_eq_left, exists_eq_left', exists_and_left, exists_and_right, List.cons.injEq, and_true, true_and, and_assoc, rCat, rRep]
      refine ⟨_, .inl (.inl hup), rfl, _, _, rfl, _, _, rfl, _, _, rfl, _, _, rfl, rfl, by rw [sizeLine_eq]; omega, fun p hp => ?_⟩
      have s7 := Same.up (o := .lst [V.str u.s, V.str u.e]) hp
      refine ⟨_, .inl (.inl ((s6.trans s7) _ _ hdp5)), .str v.m, at_of (j := 2) rfl rfl, rfl, .inr ⟨_, upd_same, ?_⟩⟩
      have fl := List.length_filter_le (fun p : Str × Str => decide (p.1 = v.m)) L.ms
      have ni : i ≤ 100 := by rw [lni, List.length_append] at hi; simp at hi; omega
      have hlen : ((((L.ms.filter fun p => decide (p.1 = v.m)).map fun p => p.2) ++ (((L.mv ++ [v]).take i).filter fun u => decide (u.m = v.m)).flatMap fun u => [u.s, u.e]).map V.str).length ≤ 1000 := by
        have fl2 := List.length_filter_le (fun u : Mv => decide (u.m = v.m)) ((L.mv ++ [v]).take i)
        have fl3 : ((L.mv ++ [v]).take i).length ≤ i := by rw [List.length_take]; exact Nat.min_le_left _ _
        have fm : ∀ l : List Mv, (l.flatMap fun u => [u.s, u.e]).length = 2 * l.length := fun l => by
          induction l with
          | nil => rfl
          | cons q r ih => rw [List.flatMap_cons, List.length_append, ih]; simp; omega
        rw [List.length_map, List.length_append, List.length_map, fm]
        omega
      by_cases c : u.m = v.m
      · rw [decide_eq_true (show V.str u.m = V.str v.m by rw [c])]
        refine ⟨by decide, by decide, by rw [sizeLine_eq]; simp, fun p1 hp1 => ⟨_, Same.up hp1 _ _ (s7 _ _ hh), _, upd_same, by rw [sizeLine_eq]; simp at hlen ⊢; omega, fun p2 hp2 => ?_⟩⟩
        refine ⟨s6.trans ((s7.trans (Same.up hp1)).trans (Same.up hp2)), p2, ?_, rfl⟩
        rw [upd_same, et, List.filter_append, List.filter_cons_of_pos (by simpa using c), List.filter_nil, List.flatMap_append, ← List.append_assoc, List.map_append (l₂ := List.flatMap _ [u])]
        rfl
      · rw [strNe c]
        refine ⟨by decide, by decide, by rw [sizeLine_eq]; simp, fun p1 hp1 => ⟨_, Same.up hp1 _ _ (s7 _ _ hh), _, upd_same, by rw [sizeLine_eq]; simp at hlen ⊢; omega, fun p2 hp2 => ?_⟩⟩
        refine ⟨s6.trans ((s7.trans (Same.up hp1)).trans (Same.up hp2)), p2, ?_, rfl⟩
        rw [upd_same, et, List.filter_append, List.filter_cons_of_neg (by simpa using c), List.filter_nil, List.append_nil]
        show some (HO.lst (_ ++ [])) = _
        rw [List.append_nil]
    · obtain ⟨s6, h, o3, o6, o7, o8, o9, o10, o11, o12, o13, hh, rfl⟩ := z
      have s06 := s05.trans s6
      dsimp only [tRet]
      refine or_txt (b := okIf (!(decide (23 < L.mv.length) || decide (6 < (uniq (heldL L v)).length))) "full") (fun w h => chkV_ref h) (fun R hR => ⟨_, rfl, hR _ (Same.refl _)⟩) (fun _ H7 s7 R hR => ?_) fun H7 s7 => k H7 (s06.trans s7)
      refine pick2 (c := (decide (23 < L.mv.length) || decide (6 < (uniq (heldL L v)).length))) (fun H8 s8 R' hR' => ?_) fun H8 s8 => ?_
      · have s68 := s06.trans (s7.trans s8)
        rw [lni, List.take_length] at hh
        have hh : H' h = some (.lst ((heldL L v).map V.str)) := hh
        have lh : (heldL L v).length ≤ 1000 := by
          have fm : ∀ l : List Mv, (l.flatMap fun u => [u.s, u.e]).length = 2 * l.length := fun l => by
            induction l with
            | nil => rfl
            | cons q r ih => rw [List.flatMap_cons, List.length_append, ih]; simp; omega
          unfold heldL
          rw [List.length_append, List.length_map, fm]
          have fl := List.length_filter_le (fun p : Str × Str => decide (p.1 = v.m)) L.ms
          have fl2 := List.length_filter_le (fun u : Mv => decide (u.m = v.m)) (L.mv ++ [v])
          rw [List.length_append] at fl2
          simp at fl2 ⊢
          omega
        refine ⟨_, rfl, lp, _, 2, .ref lc, rfl, rfl, .inl (.inl (s68 _ _ hlp)), at_of (j := 2) rfl rfl, lc, xc, rfl, .inl (.inl (.inl (s68 _ _ hc))), _, _, rfl, rfl, _, rfl, ?_⟩
        have e23 : decide ((23 : Int) < (xc.length : Int)) = decide (23 < L.mv.length) := decide_eq_decide.mpr (by omega)
        show if decide ((23 : Int) < (xc.length : Int)) = true then R' (.bl true) H8 else _
        rw [e23]
        cases h23 : decide (23 < L.mv.length) with
        | true =>
          rw [h23] at hR'
          exact iteT (hR' _ (Same.refl _))
        | false =>
        rw [h23] at hR'
        refine iteF ⟨_, rfl, h, heldL L v, rfl, .inl (.inl ((s7.trans s8) _ _ hh)), by omega, _, _, rfl, rfl, ?_⟩
        have e6 : decide ((6 : Int) < ((uniq (heldL L v)).length : Int)) = decide (6 < (uniq (heldL L v)).length) := decide_eq_decide.mpr (by omega)
        show R' (.bl (decide ((6 : Int) < ((uniq (heldL L v)).length : Int)))) H8
        rw [e6]
        exact hR' _ (Same.refl _)
      · have e : (if (decide (23 < L.mv.length) || decide (6 < (uniq (heldL L v)).length)) = true then ("full" : Str) else "") = txt (okIf (!(decide (23 < L.mv.length) || decide (6 < (uniq (heldL L v)).length))) "full") := by
          cases decide (23 < L.mv.length) <;> cases decide (6 < (uniq (heldL L v)).length) <;> rfl
        rw [e]
        exact hR _ s8
end
end K51


set_option Elab.async false
set_option linter.all false
set_option maxRecDepth 100000
set_option maxHeartbeats 4000000
namespace K51
open PySem PySem.Spec PyProof.Rows L2
theorem if_strT {T R : TS} {D : Ends} {σ : L2.St} {H : Hp} {i : Nat} {x w : Str} (e : σ[i]? = some (some (.str x))) (h : x = w) (k : T { D with nx := R D } σ H) : tSeq (tIfS (tTest (tOp rEq (tVar i) (tC (.str w)))) T tNext) R D σ H := by
  subst h
  exact ⟨_, e, rfl, _, rfl, by rw [strEq]; exact iteT k⟩
theorem if_strF {T R : TS} {D : Ends} {σ : L2.St} {H : Hp} {i : Nat} {x w : Str} (e : σ[i]? = some (some (.str x))) (h : x ≠ w) (k : R D σ H) : tSeq (tIfS (tTest (tOp rEq (tVar i) (tC (.str w)))) T tNext) R D σ H :=
  ⟨_, e, rfl, _, rfl, by rw [strNe h]; exact iteF k⟩
theorem on_lab {K : PySem.W.Frag} {M : List Addr} {H : Hp} {dp d1 : Addr} {k1 : List (Key × V)} {st : St} {n : Str} {ys : List V} {D : Ends} {σ : L2.St} {R : TS} (e1 : σ[1]? = some (some (.ref dp))) (e2 : σ[2]? = some (some (.ref d1))) (hdp : H dp = some (.tup ys)) (hn : atI ys 1 = some (.str n)) (h1 : H d1 = some (.dK k1))
    (r1 : KR (fun v L => DA M H v (Lab.d L)) k1 st.labs) (no : getK n st.labs = none → D.rt (.str "nolab") H) (yes : ∀ L lv, getK n st.labs = some L → DA M H lv L.d → R D (σ.set 7 (some lv)) H) :
    tSeq (tIfS (tB (tDNotIn (tOp (rIxT K) (tVar 1) (tC (.int 1))) (tVar 2))) (tRet (tC (.str "nolab"))) tNext) (tSeq (tAsg (tDGet (tVar 2) (tOp (rIxT K) (tVar 1) (tC (.int 1)))) (gName 7)) R) D σ H := by
  refine ⟨_, e1, dp, _, 1, .str n, rfl, rfl, .inl (.inl hdp), hn, _, e2, d1, _, rfl, DGet.k (k := .inr n) h1, _, rfl, ?_⟩
  cases hc : getK n st.labs with
  | none =>
    rw [(r1.val n).2 hc]
    exact iteT (no hc)
  | some L =>
    obtain ⟨lv, e, dl⟩ := (r1.val n).1 L hc
    rw [e]
    exact iteF ⟨_, e2, _, e1, dp, _, 1, .str n, rfl, rfl, .inl (.inl hdp), hn, d1, lv, rfl, by rw [← e]; exact DGet.k (k := .inr n) h1, yes L lv hc dl⟩
structure LimS (st : St) : Prop where
  l1 : st.labs.length ≤ 100
  l2 : st.wishes.length ≤ 100
  ok : ∀ n L, getK n st.labs = some L → Lim L
def spWordDue : Sp := fun vs H Q _ => ∃ (M : List Addr) (sv dv : V) (st : St) (d : Deed), vs = [sv, dv] ∧ LSt M H sv st ∧ DA M H dv d.d ∧ Trk M H ∧ d.Short ∧ LimS st ∧ ∀ H', Same H H' → Q (.str (txt (lawDue st d))) H'
section
variable {P : Program} {w : World} {K : PySem.W.Frag} {mg : Str → Option Value} {base : Heap}
abbrev N_L_word_due : List Str := ["_law_state", "_law_deed_here", "_law_labs", "_law_wishes", "_law_word_here", "_law_early", "_law_late", "_law_lists"]
theorem sc_L_word_due : FnScope N_L_word_due ["_law_state", "_law_deed_here"] (defScope s_L_word_due) := ⟨rfl, rfl, rfl, by decide +kernel, rfl, by decide +kernel, by decide +kernel⟩
theorem b_L_word_due : Bnd0 d_L_word_due.name d_L_word_due.qual d_L_word_due.params d_L_word_due.body d_L_word_due.scope ["_law_state", "_law_deed_here"] := fun _ _ _ _ _ _ us hl => match us, hl with | [_, _], _ => rfl
theorem ok_L_word_due (T : TX w K mg) : CalE P w K mg base 4 "_law_word_due" [] spWordDue := by
  refine cal_of T.fd_L_word_due T.g_L_word_due sc_L_word_due b_L_word_due (fun vs H Q E h => ?_) (fun cdv A outer s H vs Q E hr h => ?_)
  · obtain ⟨M, sv, dv, st, d, rfl, _⟩ := h
    rfl
  obtain ⟨M, sv, dv, st, d, rfl, ⟨p, d1, d2, k1, k2, rfl, ls⟩, dd, tM, sh, lim, k⟩ := h
  obtain ⟨dp, rv, rfl, ndp, hdp, drv⟩ := dd.deed
  have nd := sc_L_word_due.nd
  have hu := hu_of hr
  refine ⟨_, (pss_cons (ps_asg (pv 0) (pg_tup (n := 2) (by rfl) (pgs_cons (pg_name (i := 2) nd rfl (Or.inl rfl)) (pgs_cons (pg_name (i := 3) nd rfl (Or.inl rfl)) pgs_nil))))
      (pss_cons (ps_set (i := 4) nd rfl (Or.inl rfl) (pe_ix ix_tup (pv 1) pe_int (fun _ _ => rfl)))
      (pss_cons (ps_if (pt_cmpR op_eq (pv 4) pe_str (nomark _))
      (pss_one (ps_ret (pe_cal (ok_L_fresh_wordD T) (hr.mono (by decide)) rfl passL (pa_cons (pe_ix ix_tup (pv 1) pe_int (fun _ _ => rfl)) (pa_cons (pv 2) (pa_cons pe_int pa_nil))))))
      pss_nil)
      (pss_cons (ps_if (pt_cmpR op_eq (pv 4) pe_str (nomark _))
      (pss_one (ps_ret (pe_ifExp (pt_cmp (pc_din hu (pe_ix ix_tup (pv 1) pe_int (fun _ _ => rfl)) (pv 3))) pe_str pe_str)))
      pss_nil)
      (pss_cons (ps_if (pt_cmpR op_eq (pv 4) pe_str (nomark _))
      (pss_cons (ps_set (i := 5) nd rfl (Or.inl rfl) (pe_cal (ok_L_fresh_wordD T) (hr.mono (by decide)) rfl passL (pa_cons (pe_ix ix_tup (pv 1) pe_int (fun _ _ => rfl)) (pa_cons (pv 3) (pa_cons pe_int pa_nil)))))
      (pss_cons (ps_if (PW.pt (pw_or (pt_cmpR op_ne (pv 5) pe_str (nomark _)) (pw_or1 (pt_cmp (pc_dnotin hu (pe_ix ix_tup (pv 1) pe_int (fun _ _ => rfl)) (pv 2))))))
      (pss_one (ps_ret (pe_orT (pv 5) (pe_one pe_str))))
      pss_nil)
      (pss_cons (ps_set (i := 6) nd rfl (Or.inl rfl) (pe_ifExp (pt_cmpR op_gt (pe_callB call_lenD (by rfl) T.f_len PySem.boot_len (pa_cons (pv 3) pa_nil)) pe_int (nomark _)) pe_str pe_str))
      (pss_one (ps_ret (pe_ifExp (pt_val (pe_cal (ok_L_wish_bad T) (hr.mono (by decide)) rfl passL (pa_cons (pe_dget hu (pv 2) (pe_ix ix_tup (pv 1) pe_int (fun _ _ => rfl)) (fun _ _ => rfl)) (pa_cons (pe_slice sl_tupA (pv 1) (po_some pe_int) po_none) pa_nil)))) pe_str (pv 6)))))))
      pss_nil)
      (pss_cons (ps_if (pt_cmp (pc_dnotin hu (pe_ix ix_tup (pv 1) pe_int (fun _ _ => rfl)) (pv 2)))
      (pss_one (ps_ret pe_str))
      pss_nil)
      (pss_cons (ps_set (i := 7) nd rfl (Or.inl rfl) (pe_dget hu (pv 2) (pe_ix ix_tup (pv 1) pe_int (fun _ _ => rfl)) (fun _ _ => rfl)))
      (pss_cons (ps_if (pt_cmpR op_eq (pv 4) pe_str (nomark _))
      (pss_one (ps_ret pe_str))
      pss_nil)
      (pss_cons (ps_if (pt_cmpR op_eq (pv 4) pe_str (nomark _))
      (pss_one (ps_ret (pe_ifExp (pt_chain op_le op_lt pe_int (pe_ix ix_tup (pv 1) pe_int (fun _ _ => rfl)) (pe_callB call_len_seq (by rfl) T.f_len PySem.boot_len (pa_cons (pe_ix ix_tup (pv 7) pe_int (fun _ _ => rfl)) pa_nil))) pe_str pe_str)))
      pss_nil)
      (pss_one (ps_ret (pe_cal (ok_L_edit_word T) (hr.mono (by decide)) rfl passL (pa_cons (pv 7) (pa_cons (pv 1) pa_nil)))))))))))))), ?_⟩
  refine ⟨_, rfl, p, _, rfl, .inl (.inl ls.hp), rfl, _, _, rfl, _, _, rfl, rfl, ?_⟩
  refine ⟨_, rfl, dp, _, 0, .str d.word, rfl, rfl, .inl (.inl hdp), at_of (j := 0) rfl rfl, ?_⟩
  dsimp only [gName]
  cases d with
  | lab n =>
    obtain rfl := DAs.strs (ss := [n]) drv
    refine if_strT (i := 4) rfl rfl ?_
    refine ⟨_, rfl, dp, _, 1, .str n, rfl, rfl, .inl (.inl hdp), at_of (j := 1) rfl rfl, _, rfl, n, d1, k1, 6, rfl, sh, ls.h1, fun H' s' => ?_⟩
    have ek : keyIn n k1 = hasK n st.labs := ls.r1.isSome n
    rw [ek, ls.r1.length, lt_cast _ 6]
    exact k H' s'
  | unwish n =>
    obtain rfl := DAs.strs (ss := [n]) drv
    have hdp : H dp = some (.tup [.str "unwish", .str n]) := hdp
    refine if_strF (i := 4) rfl (by show ("unwish" : Str) ≠ "lab"; decide) ?_
    refine if_strT (i := 4) rfl rfl ?_
    simp only [tSeq, tDrop, tVar, tC, tCall, tCons, tNil, tFld, sFld, sDPut, tDGet, tRet, tRetN, tIfS, tTest, tB, tNot, tAnd, tOr, tOp, tUn, rI0, rI, tNext, tDIn, tDNotIn, tDNewK, tIf, tAndV, tOrV, tNotV, tAsg, gName, gCons, gNil, gTup, tPar, tTup, tLst, tMeth, tCB, rEq, rNe, tBM, rAppend, tBM0, tChain, rIxL, rIxT, rIxS, rIx, L2.start, cxK, cxW, kV_inr, List.map_cons, List.map_nil, List.length_cons, List.length_nil, List.replicate, List.cons_append, List.nil_append, List.append_nil, List.getElem?_cons_zero, List.getElem?_cons_succ, List.set_cons_zero, List.set_cons_succ, Option.some.injEq, V.ref.injEq, V.str.injEq, V.int.injEq, V.bl.injEq, exists_eq, exists_eq', exists_eq_left, exists_eq_left', exists_and_left, exists_and_right, List.cons.injEq, and_true, true_and, and_assoc]
    refine ⟨_, .inl (.inl hdp), .str n, at_of (j := 1) rfl rfl, _, DGet.k (k := .inr n) ls.h2, ?_⟩
    rw [ls.r2.isSome]
    have k : ∀ H', Same H H' → Q (.str (txt (okIf (hasK n st.wishes) "nowish"))) H' := k
    cases hh : hasK n st.wishes with
    | true =>
      rw [hh] at k
      exact iteT (k H (Same.refl _))
    | false =>
      rw [hh] at k
      exact iteF (k H (Same.refl _))
  | wish n wi =>
    obtain ⟨x1, r1, rfl, e1, drv⟩ := DAs.cons_inv drv
    obtain ⟨x2, r2, rfl, e2, drv⟩ := DAs.cons_inv drv
    have dv0 := drv
    obtain ⟨x3, r3, rfl, e3, drv⟩ := DAs.cons_inv drv
    obtain ⟨x4, r4, rfl, e4, drv⟩ := DAs.cons_inv drv
    obtain rfl := DAs.nil_inv drv
    obtain rfl := DA.str_iff.mp e1
    obtain rfl := DA.str_iff.mp e2
    have hdp : H dp = some (.tup [.str "wish", .str n, .str wi.lab, x3, x4]) := hdp
    refine if_strF (i := 4) rfl (by show ("wish" : Str) ≠ "lab"; decide) ?_
    refine if_strF (i := 4) rfl (by show ("wish" : Str) ≠ "unwish"; decide) ?_
    refine if_strT (i := 4) rfl rfl ?_
    refine seq_set (G := fun v H' => Same H H' ∧ v = .str (txt (freshO n (hasK n st.wishes) (decide (st.wishes.length < 99))))) (fun v H1 g => ?_) (fun Z hZ => ?_)
    rotate_left
    · refine ⟨_, rfl, dp, _, 1, .str n, rfl, rfl, .inl (.inl hdp), at_of (j := 1) rfl rfl, _, rfl, n, d2, k2, 99, rfl, sh.1, ls.h2, fun H' s' => ?_⟩
      have ek : keyIn n k2 = hasK n st.wishes := ls.r2.isSome n
      rw [ek, ls.r2.length, lt_cast _ 99]
      exact hZ _ _ ⟨s', rfl⟩
    obtain ⟨s1, rfl⟩ := g
    have k : ∀ H', Same H H' → Q (.str (txt (thn1 (freshO n (hasK n st.wishes) (decide (st.wishes.length < 99))) (onLab st wi.lab fun L => thn1 (okIf (wishOk L wi) "badwish") (okIf (!decide (11 < st.wishes.length)) "full"))))) H' := k
    have fr : ∀ w, freshO n (hasK n st.wishes) (decide (st.wishes.length < 99)) = some w → isRef w = true := fun w h => freshO_ref h
    cases ho : freshO n (hasK n st.wishes) (decide (st.wishes.length < 99)) with
    | some w =>
      rw [ho] at k fr
      refine ⟨_, rfl, rfl, _, rfl, ?_⟩
      rw [strNe (show txt (some w) ≠ "" from (ref_pos (fr w rfl)).2.1)]
      exact iteT (iteT ⟨_, rfl, true, tru_txt fr, iteT (k H1 s1)⟩)
    | none =>
    rw [ho] at k fr
    have k : ∀ H', Same H H' → Q (.str (txt (onLab st wi.lab fun L => thn1 (okIf (wishOk L wi) "badwish") (okIf (!decide (11 < st.wishes.length)) "full")))) H' := k
    refine ⟨_, rfl, rfl, _, rfl, ?_⟩
    rw [show decide (V.str (txt none) = V.str "") = true from strEq]
    have hdp1 := s1 _ _ hdp
    have h11 := s1 _ _ ls.h1
    refine iteF ⟨_, rfl, dp, _, 2, .str wi.lab, rfl, rfl, .inl (.inl hdp1), at_of (j := 2) rfl rfl, _, rfl, d1, _, rfl, DGet.k (k := .inr wi.lab) h11, _, rfl, ?_⟩
    unfold onLab at k
    cases hc : getK wi.lab st.labs with
    | none =>
      rw [hc] at k
      rw [(ls.r1.val wi.lab).2 hc]
      exact iteT ⟨_, rfl, false, tru_txt (o := none) (fun w h => by cases h), iteF (k H1 s1)⟩
    | some L =>
    rw [hc] at k
    have k : ∀ H', Same H H' → Q (.str (txt (thn1 (okIf (wishOk L wi) "badwish") (okIf (!decide (11 < st.wishes.length)) "full")))) H' := k
    obtain ⟨lv, e, dl⟩ := (ls.r1.val wi.lab).1 L hc
    rw [e]
    refine iteF ?_
    dsimp only [tNext]
    refine seq_set (G := fun v H' => H' = H1 ∧ v = .str (txt (okIf (!decide (11 < st.wishes.length)) "full"))) (fun v H2 g => ?_) (fun Z hZ => ?_)
    rotate_left
    · refine ⟨_, rfl, d2, k2, rfl, s1 _ _ ls.h2, _, _, rfl, rfl, _, rfl, ?_⟩
      rw [ls.r2.length]
      have e11 : decide ((11 : Int) < (st.wishes.length : Int)) = decide (11 < st.wishes.length) := decide_eq_decide.mpr (by omega)
      show if decide ((11 : Int) < (st.wishes.length : Int)) = true then _ else _
      rw [e11]
      cases h11 : decide (11 < st.wishes.length) with
      | true =>
        rw [h11] at hZ
        exact iteT (hZ _ _ ⟨rfl, rfl⟩)
      | false =>
        rw [h11] at hZ
        exact iteF (hZ _ _ ⟨rfl, rfl⟩)
    obtain ⟨rfl, rfl⟩ := g
    have lm := lim.ok _ _ hc
    refine ⟨_, rfl, _, rfl, dp, _, 2, .str wi.lab, rfl, rfl, .inl (.inl hdp1), at_of (j := 2) rfl rfl, d1, lv, rfl, by rw [← e]; exact DGet.k (k := .inr wi.lab) h11, _, rfl, 3, rfl, dp, _, rfl, .inl (.inl hdp1), fun h => absurd h.1 (by show ¬ HT.sIx 5 0 (some 3) = 0; decide), fun _ t ht => ?_⟩
    have st1 := Same.up (o := .tup (cutV [V.str "wish", V.str n, V.str wi.lab, x3, x4] (some 3) none)) ht
    have s01 := s1.trans st1
    refine ⟨M, lv, .ref t, L, wi, rfl, dl.keep (Keep.of s01), tM.same s01, lm.l1, lm.l2, DA.tup_iff.mpr ⟨t, _, rfl, (tM.same s1).new ht, upd_same, dv0.keep (Keep.of s01)⟩, sh.2.2.1, sh.2.2.2, fun H3 s3 => ⟨_, rfl, ?_⟩⟩
    cases hw : wishOk L wi with
    | true =>
      rw [hw] at k
      exact iteF ⟨_, rfl, k H3 (s01.trans s3)⟩
    | false =>
      rw [hw] at k
      exact iteT (k H3 (s01.trans s3))
  | drop n =>
    obtain rfl := DAs.strs (ss := [n]) drv
    have hdp : H dp = some (.tup [.str "drop", .str n]) := hdp
    refine if_strF (i := 4) rfl (by show ("drop" : Str) ≠ "lab"; decide) ?_
    refine if_strF (i := 4) rfl (by show ("drop" : Str) ≠ "unwish"; decide) ?_
    refine if_strF (i := 4) rfl (by show ("drop" : Str) ≠ "wish"; decide) ?_
    have k : ∀ H', Same H H' → Q (.str (txt (onLab st n fun _ => none))) H' := k
    unfold onLab at k
    refine on_lab (M := M) (st := st) (n := n) rfl rfl hdp (at_of (j := 1) rfl rfl) ls.h1 ls.r1 (fun hc => ?_) (fun L lv hc dl => ?_)
    · rw [hc] at k
      exact k H (Same.refl _)
    · rw [hc] at k
      exact if_strT (i := 4) rfl rfl (k H (Same.refl _))
  | machine n m f =>
    obtain rfl := DAs.strs (ss := [n, m, f]) drv
    have hdp : H dp = some (.tup [.str "machine", .str n, .str m, .str f]) := hdp
    refine if_strF (i := 4) rfl (by show ("machine" : Str) ≠ "lab"; decide) ?_
    refine if_strF (i := 4) rfl (by show ("machine" : Str) ≠ "unwish"; decide) ?_
    refine if_strF (i := 4) rfl (by show ("machine" : Str) ≠ "wish"; decide) ?_
    have k : ∀ H', Same H H' → Q (.str (txt (onLab st n fun L => editW L (.machine n m f)))) H' := k
    unfold onLab at k
    refine on_lab (M := M) (st := st) (n := n) rfl rfl hdp (at_of (j := 1) rfl rfl) ls.h1 ls.r1 (fun hc => ?_) (fun L lv hc dl => ?_)
    · rw [hc] at k
      exact k H (Same.refl _)
    · rw [hc] at k
      refine if_strF (i := 4) rfl (by show ("machine" : Str) ≠ "drop"; decide) ?_
      refine if_strF (i := 4) rfl (by show ("machine" : Str) ≠ "strike"; decide) ?_
      exact ⟨_, rfl, _, rfl, M, lv, _, L, .machine n m f, rfl, dl, dd, tM, rfl, sh, lim.ok _ _ hc, (fun _ _ h => by cases h), k⟩
  | row n m f =>
    obtain rfl := DAs.strs (ss := [n, m, f]) drv
    have hdp : H dp = some (.tup [.str "row", .str n, .str m, .str f]) := hdp
    refine if_strF (i := 4) rfl (by show ("row" : Str) ≠ "lab"; decide) ?_
    refine if_strF (i := 4) rfl (by show ("row" : Str) ≠ "unwish"; decide) ?_
    refine if_strF (i := 4) rfl (by show ("row" : Str) ≠ "wish"; decide) ?_
    have k : ∀ H', Same H H' → Q (.str (txt (onLab st n fun L => editW L (.row n m f)))) H' := k
    unfold onLab at k
    refine on_lab (M := M) (st := st) (n := n) rfl rfl hdp (at_of (j := 1) rfl rfl) ls.h1 ls.r1 (fun hc => ?_) (fun L lv hc dl => ?_)
    · rw [hc] at k
      exact k H (Same.refl _)
    · rw [hc] at k
      refine if_strF (i := 4) rfl (by show ("row" : Str) ≠ "drop"; decide) ?_
      refine if_strF (i := 4) rfl (by show ("row" : Str) ≠ "strike"; decide) ?_
      exact ⟨_, rfl, _, rfl, M, lv, _, L, .row n m f, rfl, dl, dd, tM, rfl, sh, lim.ok _ _ hc, (fun _ _ h => by cases h), k⟩
  | move n v =>
    obtain ⟨x1, r1, rfl, e1, drv⟩ := DAs.cons_inv drv
    obtain rfl := DA.str_iff.mp e1
    have hdp : H dp = some (.tup (.str "move" :: .str n :: r1)) := hdp
    refine if_strF (i := 4) rfl (by show ("move" : Str) ≠ "lab"; decide) ?_
    refine if_strF (i := 4) rfl (by show ("move" : Str) ≠ "unwish"; decide) ?_
    refine if_strF (i := 4) rfl (by show ("move" : Str) ≠ "wish"; decide) ?_
    have k : ∀ H', Same H H' → Q (.str (txt (onLab st n fun L => editW L (.move n v)))) H' := k
    unfold onLab at k
    refine on_lab (M := M) (st := st) (n := n) rfl rfl hdp (at_of (j := 1) rfl rfl) ls.h1 ls.r1 (fun hc => ?_) (fun L lv hc dl => ?_)
    · rw [hc] at k
      exact k H (Same.refl _)
    · rw [hc] at k
      refine if_strF (i := 4) rfl (by show ("move" : Str) ≠ "drop"; decide) ?_
      refine if_strF (i := 4) rfl (by show ("move" : Str) ≠ "strike"; decide) ?_
      exact ⟨_, rfl, _, rfl, M, lv, _, L, .move n v, rfl, dl, dd, tM, rfl, sh, lim.ok _ _ hc, (fun _ _ h => by cases h), k⟩
  | strike n i =>
    obtain ⟨x1, r1, rfl, e1, drv⟩ := DAs.cons_inv drv
    obtain ⟨x2, r2, rfl, e2, drv⟩ := DAs.cons_inv drv
    obtain rfl := DAs.nil_inv drv
    obtain rfl := DA.int_iff.mp e2
    obtain rfl := DA.str_iff.mp e1
    have hdp : H dp = some (.tup [.str "strike", .str n, .int i]) := hdp
    refine if_strF (i := 4) rfl (by show ("strike" : Str) ≠ "lab"; decide) ?_
    refine if_strF (i := 4) rfl (by show ("strike" : Str) ≠ "unwish"; decide) ?_
    refine if_strF (i := 4) rfl (by show ("strike" : Str) ≠ "wish"; decide) ?_
    have k : ∀ H', Same H H' → Q (.str (txt (onLab st n fun L => okIf (inB i L.mv.length) "nomove"))) H' := k
    unfold onLab at k
    refine on_lab (M := M) (st := st) (n := n) rfl rfl hdp (at_of (j := 1) rfl rfl) ls.h1 ls.r1 (fun hc => ?_) (fun L lv hc dl => ?_)
    · rw [hc] at k
      exact k H (Same.refl _)
    · rw [hc] at k
      refine if_strF (i := 4) rfl (by show ("strike" : Str) ≠ "drop"; decide) ?_
      refine if_strT (i := 4) rfl rfl ?_
      obtain ⟨lp, la, lb, lc, xa, xb, xc, rfl, nlp, hlp, na, nb, nc, ha, hb, hc', da, db, dc⟩ := dl.lab3
      have lxc : xc.length = L.mv.length := by rw [dc.length, List.length_map]
      simp only [tSeq, tDrop, tVar, tC, tCall, tCons, tNil, tFld, sFld, sDPut, tDGet, tRet, tRetN, tIfS, tTest, tB, tNot, tAnd, tOr, tOp, tUn, rI0, rI, tNext, tDIn, tDNotIn, tDNewK, tIf, tAndV, tOrV, tNotV, tAsg, gName, gCons, gNil, gTup, tPar, tTup, tLst, tMeth, tCB, rEq, rNe, tBM, rAppend, tBM0, tChain, rIxL, rIxT, rIxS, rIx, L2.start, cxK, cxW, kV_inr, List.map_cons, List.map_nil, List.length_cons, List.length_nil, List.replicate, List.cons_append, List.nil_append, List.append_nil, List.getElem?_cons_zero, List.getElem?_cons_succ, List.set_cons_zero, List.set_cons_succ, Option.some.injEq, V.ref.injEq, V.str.injEq, V.int.injEq, V.bl.injEq, exists_eq, exists_eq', exists_eq_left, exists_eq_left', exists_and_left, exists_and_right, List.cons.injEq, and_true, true_and, and_assoc]
      refine ⟨_, .inl (.inl hdp), .int i, at_of (j := 2) rfl rfl, i, rfl, ?_⟩
      have k : ∀ H', Same H H' → Q (.str (txt (okIf (decide (0 ≤ i) && decide (i < (L.mv.length : Int))) "nomove"))) H' := k
      by_cases c0 : 0 ≤ i
      · rw [decide_eq_true c0] at k
        rw [if_pos (decide_eq_true c0)]
        refine ⟨_, .inl (.inl hlp), .ref lc, at_of (j := 2) rfl rfl, lc, rfl, xc, .inl (.inl (.inl hc')), i, rfl, ?_⟩
        by_cases c1 : i < (L.mv.length : Int)
        · rw [decide_eq_true c1] at k
          rw [if_pos (decide_eq_true (by omega))]
          exact k H (Same.refl _)
        · rw [decide_eq_false c1] at k
          rw [if_neg (fun z => c1 (by have := of_decide_eq_true z; omega))]
          exact k H (Same.refl _)
      · rw [decide_eq_false c0] at k
        rw [if_neg (fun z => c0 (of_decide_eq_true z))]
        exact iteF (k H (Same.refl _))
end
end K51


set_option Elab.async false
set_option linter.all false
set_option maxRecDepth 100000
set_option maxHeartbeats 4000000
/-! ### [x for p in d.items() if ..], p one name: the pair's tuple stays out of the iterator -/
namespace K51
open PySem PySem.Spec PyProof.Rows L2
/-- d is locked; W by the turn and the tuple that the iterator gave first -/
def tLcI (td : TE) (g : TG) (tt : TT) (te : TE) (vs : List Nat) : TE := fun σ H Q => td σ H fun x H1 => ∃ (d : Addr) (o : Obj) (kvs : List (Key × V)), x = .ref d ∧ H1 d = some (.frz o (.dK kvs)) ∧ ∀ D, H1 D = none →
  ∃ W : Nat → Option Addr → Hp → Prop, W 0 none (upd H1 D (.lst [])) ∧ ∀ i t H, W i t H → H d = some (.frz o (.dK kvs)) ∧ (∀ a, t = some a → ∃ xs, H a = some (.tup xs)) ∧ i ≤ kvs.length ∧ (i = kvs.length → Q (.ref D) H) ∧
    ∀ k v, kvs[i]? = some (k, v) → ∀ T, H T = none → g (.ref T) (wipe σ vs) (upd H T (.tup [kV k, v])) fun σ2 H2 => wipe σ2 vs = wipe σ vs ∧ tt σ2 H2 fun b H3 =>
      if b = true then te σ2 H3 fun y H4 => ∃ acc, H4 D = some (.lst acc) ∧ acc.length < sizeLine ∧ W (i + 1) (some (t.getD T)) (upd H4 D (.lst (acc ++ [y]))) else W (i + 1) (some (t.getD T)) H3
/-- how the iterator stands -/
def ItSt (h : Heap) (it d : Addr) (n ep i : Nat) (t : Option Addr) : Prop := match t with
  | none => ∃ ok ov, IsItemIter h it d i n ep ok ov
  | some a => a ≠ it ∧ ∃ ok ov f, PySem.W.KdxIt h it d i n ep ok ov a f
theorem ItSt.some_obj {h : Heap} {it d : Addr} {n ep i : Nat} {t : Option Addr} (s : ItSt h it d n ep i t) : ∃ o, h.get? it = some o ∧ ∀ v, o.data ≠ .cell v := by
  cases t with
  | none =>
    obtain ⟨ok, ov, e⟩ := s
    exact ⟨_, e, fun v z => nomatch z⟩
  | some a =>
    obtain ⟨_, ok, ov, f, e⟩ := s
    exact ⟨_, e, fun v z => nomatch z⟩
theorem ItSt.stay {h h' : Heap} {it d : Addr} {n ep i : Nat} {t : Option Addr} (s : ItSt h it d n ep i t) (k : ∀ o, h.get? it = some o → h'.get? it = some o) : ItSt h' it d n ep i t := by
  cases t with
  | none =>
    obtain ⟨ok, ov, e⟩ := s
    exact ⟨ok, ov, k _ e⟩
  | some a =>
    obtain ⟨n, ok, ov, f, e⟩ := s
    exact ⟨n, ok, ov, f, k _ e⟩
section
variable {X : Cx} {elt e : Expr} {y : Str} {py apos cpos pos : Pos} {ifs : List Expr} {scope : Scope} {own : List (Str × Nat)} {td : TE} {g : TG} {tt : TT} {te : TE}
/-- the iterator's next pair, in a frame of the block -/
theorem it_next {Y : Cx} {σ : L2.St} {H : Hp} {s : Shared} {it d : Addr} {o : Obj} {kvs : List (Key × V)} {es : Array DictEntry} {ep i : Nat} {t : Option Addr} {k : Key} {v : V} {E : Value → Shared → Prop} {Q : Option Value → Shared → Prop} (I : Inv Y [] σ H s) (hd : H d = some (.frz o (.dK kvs))) (hdt : o.data = .dict es ep)
    (st : ItSt s.heap it d kvs.length ep i t) (fo : FpOk Y [] H it) (ht : ∀ a, t = some a → ∃ xs, H a = some (.tup xs)) (hk : kvs[i]? = some (k, v))
    (h : ∀ h', Inv Y [] σ (upd H s.heap.objs.size (.tup [kV k, v])) { s with heap := h' } → ItSt h' it d kvs.length ep (i + 1) (some (t.getD s.heap.objs.size)) → Q (some (.ref s.heap.objs.size)) { s with heap := h' }) : wpAny (model Y.prog Y.w) Y.A (pyNext (.ref it)) Q E s := by
  obtain ⟨hs, hgd, hx, es', ep', us, hdt', hsz, kv, hm⟩ := I.frzK hd
  obtain ⟨z1, z2⟩ := dict_ep hdt' hdt
  subst z1 z2
  obtain ⟨u, hu, ru⟩ := kv_get kv hk
  have hl : kvs.length = us.length := Paired.length kv
  have go : ∀ key h', (mixKind Y.prog Y.w).is k key = true → ItSt h' it d kvs.length ep (i + 1) (some (t.getD s.heap.objs.size)) → h'.get? s.heap.objs.size = some { cls := .type "tuple", data := .seq #[key, u] } → (∀ b ob, b ≠ it → s.heap.get? b = some ob → h'.get? b = some ob) → Q (some (.ref s.heap.objs.size)) { s with heap := h' } := fun key h' hkey st' hT kp => by
    have nw : ObjOk Y.prog Y.w (upd H s.heap.objs.size (.tup [kV k, v])) h' s.heap.objs.size (.tup [kV k, v]) := ⟨by show 2 ≤ sizeLine; decide, [key, u], .cons (relV_key hkey) (.cons ru .nil), ⟨_, hT, rfl, _, rfl⟩⟩
    exact h h' (I.turnedNew (t' := s.toks) (ch := [it]) (fun b ob nb eb => kp b ob (by simpa using nb) eb) (fun b hb => by rw [List.mem_singleton.mp hb]; exact fo) (Nat.le_refl _) nw) st'
  cases t with
  | none =>
    obtain ⟨ok, ov, he⟩ := st
    have lt := Heap.lt_size he
    rw [hl] at he
    exact wpAny_pyNext_items_item he hm hu fun key h' hkey ho hT hz kp => go key h' hkey ⟨Nat.ne_of_gt lt, key, u, false, by rw [hl]; exact ho⟩ hT kp
  | some a =>
    obtain ⟨na, ok, ov, f, he⟩ := st
    have lt := Heap.lt_size he
    obtain ⟨xs, hxs⟩ := ht a rfl
    obtain ⟨_, _, _, ob, hob, _⟩ := (show ObjOk Y.prog Y.w H s.heap a (.tup xs) from I.hok a _ hxs)
    rw [hl] at he
    exact PySem.W.kdx_next_out he hob na hm hu fun key h' hkey ho hT hz kp => go key h' hkey ⟨na, ok, ov, true, by rw [hl]; exact ho⟩ hT kp
theorem it_end {Y : Cx} {σ : L2.St} {H : Hp} {s : Shared} {it d : Addr} {o : Obj} {kvs : List (Key × V)} {es : Array DictEntry} {ep : Nat} {t : Option Addr} {E : Value → Shared → Prop} {Q : Option Value → Shared → Prop} (hc : Y.A.handled = none) (I : Inv Y [] σ H s) (hd : H d = some (.frz o (.dK kvs))) (hdt : o.data = .dict es ep)
    (st : ItSt s.heap it d kvs.length ep kvs.length t) (fo : FpOk Y [] H it) (h : ∀ s', Inv Y [] σ H s' → Q none s') : wpAny (model Y.prog Y.w) Y.A (pyNext (.ref it)) Q E s := by
  obtain ⟨hs, hgd, hx, es', ep', us, hdt', hsz, kv, hm⟩ := I.frzK hd
  obtain ⟨z1, z2⟩ := dict_ep hdt' hdt
  subst z1 z2
  have hl : kvs.length = us.length := Paired.length kv
  obtain ⟨f0, f1, f2, f3, f4, f5⟩ := fo
  have fin : ∀ h', Heap.ExtBut it s.heap h' → Q none { s with heap := h' } := fun h' eb => h _ (I.turned (t' := s.toks) (fun b ob hb eo => eb b ob hb eo) f0 f1 f3 f4 f5)
  have no : us[kvs.length]? = none := List.getElem?_eq_none (by omega)
  cases t with
  | none =>
    obtain ⟨ok, ov, he⟩ := st
    rw [hl] at he no
    exact wpAny_pyNext_items_end hc he hm no fin
  | some a =>
    obtain ⟨na, ok, ov, f, he⟩ := st
    rw [hl] at he no
    exact PySem.W.kdx_end_out hc he hm no fin
abbrev cE (X : Cx) (scope : Scope) (n : Nat) : Env := compEnvC scope (cellsFrom (n + 1) scope.names (cloFrom X.env.cells scope.names [])) n X.env
theorem pe_lcItems (hc : X.calm = true) (hN : X.N.Nodup) (he : PE X e td) (ok : BlkOk X.N X.env.scope scope own)
    (hg : ∀ (s : Shared) (H : Hp) (C : Addr) (cl : List (Str × Addr)) (fp : List Addr), PG (X.blk s H scope (compEnvC scope cl C X.env) fp) (.Name y py) g)
    (ht : ∀ (s : Shared) (H : Hp) (C : Addr) (cl : List (Str × Addr)) (fp : List Addr), PTs (X.blk s H scope (compEnvC scope cl C X.env) fp) ifs tt)
    (hel : ∀ (s : Shared) (H : Hp) (C : Addr) (cl : List (Str × Addr)) (fp : List Addr), PE (X.blk s H scope (compEnvC scope cl C X.env) fp) elt te)
    (hbase : attributeBase e "items" X.env (eval e X.env) = eval e X.env := by rfl) (hline : (apos.endLine == cpos.line) = true := by rfl) :
    PE X (.ListComp elt [⟨.Name y py, .Call (.Attribute e "items" apos) [] [] cpos, ifs, 0⟩] scope pos) (tLcI td g tt te (own.map (·.2))) := by
  refine ⟨fun pins s σ H Q I h => ?_⟩
  rw [eval_ListComp]
  have has : ∀ z ∈ scope.names, z.2 = .free → ∃ c, X.env.cells.lookup z.1 = some c := fun z hz ez => (ok.free z hz ez).elim (fun k => I.ok.has _ (.inl k)) fun k => I.ok.has _ (.inr k)
  refine wpAny_comprehension_free (use := none) rfl (by intro _; rfl) (closure_ok has) ok.kind (fun z hz ez => by rw [ok.uniq z hz, ez]) ?_
  refine wpAny_Call_method (T := "dict") (id := "dict.items") hbase rfl hline F.plainAttrs_dict F.slot_dict_items F.type_dict_items (thn (he.run pins s σ H _ I h) fun u s1 ⟨x, H1, I1, rx, d, o, kvs, ex, hd, q⟩ => ?_)
  subst ex
  obtain rfl : u = Value.ref d := rx
  obtain ⟨hs, hgd, hx, es, ep, vs, hdt, hsz, kv, hm⟩ := I1.frzK hd
  have hl : kvs.length = vs.length := Paired.length kv
  refine ⟨hm.dictOf.typeIs, hm.dictOf.mapOf.noDict, ?_⟩
  refine method_meetsIn F.slot_dict_items F.entry_dict_items rfl (PySem.evalArgs_none ⟨rfl, hm.dictOf.typeIs, F.args_dict_items_1 _, _, meets_dict_items (mixKind X.prog X.w) d hs, ⟨vs, hm.dictOf⟩, ?_⟩)
  refine wpAny_pyIter_items (d := d) (knd := mixKind X.prog X.w) ⟨_, Heap.get?_push_size _ rfl, rfl, rfl⟩ (hm.push _) ?_
  generalize ev : ({ cls := .type "dict_items", data := .fields #[.ref d] } : Obj) = vw
  generalize ei : ({ cls := .type "dict_itemiterator", data := .fields #[.none, .bool false, .ref d, .int 0 0, .int vs.length 0, .int ep 0, .none, .none] } : Obj) = io
  obtain ⟨it, eit⟩ : ∃ it, it = (s1.heap.push vw).objs.size := ⟨_, rfl⟩
  obtain ⟨s2, es2⟩ : ∃ s2 : Shared, s2 = { s1 with heap := (s1.heap.push vw).push io } := ⟨_, rfl⟩
  have szit : s1.heap.objs.size ≤ it := by rw [eit, Heap.size_push]; exact Nat.le_succ _
  have h12 : ∀ b u, s1.heap.get? b = some u → s2.heap.get? b = some u := fun b u eb => by rw [es2]; exact Heap.get?_push_of_some _ (Heap.get?_push_of_some _ eb)
  have I2 : Inv X pins σ H1 s2 := by rw [es2]; exact I1.kept (t' := s1.toks) fun b u eb => Heap.get?_push_of_some _ (Heap.get?_push_of_some _ eb)
  have st2 : ItSt s2.heap it d kvs.length ep 0 none := ⟨.none, .none, by rw [hl, es2, eit, ← ei]; exact Heap.get?_push_size _ rfl⟩
  have fo2 : FpOk X pins H1 it := I1.fpOk szit (I1.hok.fresh szit)
  have it2 : it < s2.heap.objs.size := by rw [es2, eit]; show (s1.heap.push vw).objs.size < ((s1.heap.push vw).push io).objs.size; rw [Heap.size_push (s1.heap.push vw)]; exact Nat.lt_succ_self _
  show wpAny (model X.prog X.w) X.A (newList []) _ X.xe { s1 with heap := (s1.heap.push vw).push io }
  rw [← es2, ← eit]
  clear es2 eit
  refine wpAny_newObj_type (newEnv_comp ?_) (by show 0 ≤ sizeLine; decide)
  obtain ⟨D, eD⟩ : ∃ D, D = s2.heap.objs.size := ⟨_, rfl⟩
  have nD : H1 D = none := I2.hok.fresh (Nat.le_of_eq eD.symm)
  obtain ⟨W, w0, turn⟩ := q D nD
  obtain ⟨s3, es3⟩ : ∃ s3 : Shared, s3 = { s2 with heap := s2.heap.push { cls := .type "list", data := .seq ([] : List Value).toArray } } := ⟨_, rfl⟩
  have eh3 : s3.heap = s2.heap.push { cls := .type "list", data := .seq ([] : List Value).toArray } := by rw [es3]
  have I3 : Inv X pins σ (upd H1 D (.lst [])) s3 := by
    rw [es3]
    exact I2.laid (t' := s2.toks) (fun b u eb => Heap.get?_push_of_some _ eb) (Nat.le_of_eq eD.symm) ⟨Nat.zero_le _, [], 0, .nil, by rw [eD]; exact Heap.get?_push_size _ rfl⟩
  have itD : it ≠ D := Nat.ne_of_lt (by rw [eD]; exact it2)
  have fo3 : FpOk X pins (upd H1 D (.lst [])) it := ⟨(upd_ne itD).trans fo2.1, fo2.2⟩
  have it3 : it < s3.heap.objs.size := by rw [eh3, Heap.size_push]; exact Nat.lt_succ_of_lt it2
  have st3 : ItSt s3.heap it d kvs.length ep 0 none := st2.stay fun u eu => by rw [eh3]; exact Heap.get?_push_of_some _ eu
  have B := block_start (fp := [it]) I3 ok hN fun b hb => by rw [List.mem_singleton.mp hb]; exact ⟨fo3, it3⟩
  have pg := hg s3 (upd H1 D (.lst [])) s3.heap.objs.size (cellsFrom (s3.heap.objs.size + 1) scope.names (cloFrom X.env.cells scope.names [])) [it]
  have pt := ht s3 (upd H1 D (.lst [])) s3.heap.objs.size (cellsFrom (s3.heap.objs.size + 1) scope.names (cloFrom X.env.cells scope.names [])) [it]
  have pe := hel s3 (upd H1 D (.lst [])) s3.heap.objs.size (cellsFrom (s3.heap.objs.size + 1) scope.names (cloFrom X.env.cells scope.names [])) [it]
  obtain ⟨ce, ece⟩ : ∃ ce, ce = compEnvC scope (cellsFrom (s3.heap.objs.size + 1) scope.names (cloFrom X.env.cells scope.names [])) s3.heap.objs.size X.env := ⟨_, rfl⟩
  have ceL : ce.locals = s3.heap.objs.size := by rw [ece]; rfl
  obtain ⟨s4, es4⟩ : ∃ s4 : Shared, s4 = { s3 with heap := pushCells (s3.heap.push { cls := .type "dict", data := .dict #[] }) scope.names } := ⟨_, rfl⟩
  rw [← ece] at B pg pt pe
  rw [← es4] at B
  have st4 : ItSt s4.heap it d kvs.length ep 0 none := st3.stay fun u eu => by rw [es4]; exact pushCells_keeps _ _ _ _ (Heap.get?_push_of_some _ eu)
  show codeAny (model X.prog X.w) X.A (.compStart _ 0 (.ref it) (.ref s2.heap.objs.size) _) _ _
  have goalS : codeAny (model X.prog X.w) X.A (.compLoop (.ListComp elt [⟨.Name y py, .Call (.Attribute e "items" apos) [] [] cpos, ifs, 0⟩] scope pos) 0 (.ref it) (.ref D) ce) (compPost (model X.prog X.w) X.A X.xe none (EP X pins σ Q) (.ref D) s3.heap.objs.size) s4 := by
    have fpk : ∀ {σ' : L2.St} {H' : Hp} {s' : Shared}, Inv (X.blk s3 (upd H1 D (.lst [])) scope ce [it]) [] σ' H' s' → H' it = none → FpOk (X.blk s3 (upd H1 D (.lst [])) scope ce [it]) [] H' it := fun {σ' H' s'} J hn =>
      ⟨hn, (J.ok.exf it (by simp)).1, J.ok.exfs it (by simp), .inl (by simp), fun z c ez => (J.ok.exf it (by simp)).2 z c ez, fun p hp => absurd (show p ∈ ([] : List (Addr × Obj)) ++ [] from hp) (by simp)⟩
    have hcY : (X.blk s3 (upd H1 D (.lst [])) scope ce [it]).A.handled = none := B.ok.hd hc
    refine compLoop_any (fun n s' => ∃ i t H', n = kvs.length - i ∧ Inv (X.blk s3 (upd H1 D (.lst [])) scope ce [it]) [] (wipe σ (own.map (·.2))) H' s' ∧ ItSt s'.heap it d kvs.length ep i t ∧ H' it = none ∧ W i t H') ?_ kvs.length ⟨0, none, _, by simp, B, st4, fo3.1, w0⟩
    rintro n s5 ⟨i, t, H5, rfl, I5, st5, n5, w5⟩
    obtain ⟨hd5, ht5, hi, done, step⟩ := turn i t H5 w5
    have fo5 := fpk I5 n5
    by_cases ei : i = kvs.length
    · subst ei
      refine it_end (Y := X.blk s3 (upd H1 D (.lst [])) scope ce [it]) hcY I5 hd5 hdt st5 fo5 fun s6 I6 => ?_
      have I7 : Inv X pins σ H5 s6 := I3.call' (ch := [it]) I6.os I6.base I6.hok I6.bare fun b hb => by
        rw [List.mem_singleton.mp hb]
        exact ⟨fo3.2.2.2.1, fo3.2.1, fo3.2.2.2.2.1, fo3.2.2.2.2.2⟩
      have nC : H5 s3.heap.objs.size = none := by
        have z : H5 ce.locals = none := I6.free
        rw [ceL] at z
        exact z
      obtain ⟨m, hn, _⟩ := I6.loc
      have hn : s6.heap.Ns ce.locals m := hn
      rw [ceL] at hn
      obtain ⟨f0, f1, f2, f3, f4, f5⟩ := I3.fpOk (Nat.le_refl _) nC
      exact ⟨m, hn, fun h'' sb => ⟨.ref D, H5, I7.turned (t' := s6.toks) (fun b ob hb eb => (sb.2 b hb).trans eb) f0 f1 f3 f4 f5, rfl, done rfl⟩⟩
    · obtain ⟨⟨k, v⟩, hkv⟩ : ∃ p, kvs[i]? = some p := ⟨kvs[i]'(by omega), List.getElem?_eq_getElem _⟩
      refine it_next (Y := X.blk s3 (upd H1 D (.lst [])) scope ce [it]) I5 hd5 hdt st5 fo5 ht5 hkv fun h' I6 st6 => ?_
      have nT : H5 s5.heap.objs.size = none := I5.hok.fresh (Nat.le_refl _)
      obtain ⟨T, eT⟩ : ∃ T, T = s5.heap.objs.size := ⟨_, rfl⟩
      have itT : it ≠ T := by
        obtain ⟨ob, hob, _⟩ := st5.some_obj
        rw [eT]
        exact Nat.ne_of_lt (Heap.lt_size hob)
      show wpAny (model X.prog X.w) X.A (letOwnedTupleGo (.Name y py) (.ref it) (.ref s5.heap.objs.size)) _ _ _
      rw [← eT] at I6 st6 nT ⊢
      unfold letOwnedTupleGo
      refine wpAny_pure ?_
      have n6 : (upd H5 T (.tup [kV k, v])) it = none := (upd_ne itT).trans n5
      have I6' := I6.pinned (fp := [it]) (fun b hb => by rw [List.mem_singleton.mp hb]; exact fpk I6 n6) (fun b hb => by rw [List.mem_singleton.mp hb]; exact st6.some_obj)
      refine thnF (pg.run _ _ _ _ (.ref T) (.ref T) _ I6' rfl (step k v hkv T nT)) fun _ s8 ⟨σ8, H8, I8, hw8, q8⟩ => ?_
      refine thnF (pt.run _ s8 σ8 H8 _ I8 q8) fun b s9 ⟨H9, I9, q9⟩ => ?_
      have fin : ∀ {s' : Shared} {H' : Hp}, Inv (X.blk s3 (upd H1 D (.lst [])) scope ce [it]) ([] ++ pinsAt [it] h') σ8 H' s' → W (i + 1) (some (t.getD T)) H' → ∃ m, m < kvs.length - i ∧ ∃ i t H', m = kvs.length - i ∧ Inv (X.blk s3 (upd H1 D (.lst [])) scope ce [it]) [] (wipe σ (own.map (·.2))) H' s' ∧ ItSt s'.heap it d kvs.length ep i t ∧ H' it = none ∧ W i t H' := fun {s' H'} J w' => by
        obtain ⟨ob, hob, _⟩ := st6.some_obj
        have pin := J.pin (it, ob) (List.mem_append_right _ (List.mem_append_right _ (mem_pinsAt (by simp) hob)))
        have lw : (wipe σ (own.map (·.2))).length = σ8.length := by rw [← hw8, wipe_length]
        refine ⟨kvs.length - (i + 1), by omega, i + 1, some (t.getD T), H', rfl, (J.unpinned (pins := [])).weak lw (fun j u ej => ?_), st6.stay fun u eu => ?_, pin.2.1, w'⟩
        · rw [← hw8] at ej
          exact (wipe_some ej).1
        · have : u = ob := Option.some.inj (eu.symm.trans hob)
          rw [this]
          exact pin.1
      cases b with
      | false =>
        simp only [Bool.false_eq_true, if_false] at q9 ⊢
        exact fin I9 q9
      | true =>
        simp only [if_true] at q9 ⊢
        refine thnF (pe.run _ s9 σ8 H9 _ I9 q9) fun z s10 ⟨yv, H10, I10, r10, acc, hacc, lacc, nx⟩ => ?_
        exact app_ok (X := X.blk s3 (upd H1 D (.lst [])) scope ce [it]) I10 hacc lacc r10 fun s11 I11 => fin I11 nx
  have key : codeAny (model X.prog X.w) X.A (.compStart (.ListComp elt [⟨.Name y py, .Call (.Attribute e "items" apos) [] [] cpos, ifs, 0⟩] scope pos) 0 (.ref it) (.ref D) ce) (compPost (model X.prog X.w) X.A X.xe none (EP X pins σ Q) (.ref D) s3.heap.objs.size) s4 := by
    obtain ⟨ok', ov', e4⟩ := st4
    exact codeAny_compStart_list goalS (PySem.W.kcp_self e4 goalS)
  subst eD es3 ece es4
  exact key
end
end K51

set_option Elab.async false
set_option linter.all false
set_option maxRecDepth 100000
set_option maxHeartbeats 4000000
namespace K51
open PySem PySem.Spec PyProof.Rows L2
def spStateAfter : Sp := fun vs H Q _ => ∃ (M : List Addr) (sv dv : V) (st : St) (d : Deed), vs = [sv, dv] ∧ LSt M H sv st ∧ DA M H dv d.d ∧ Trk M H ∧ NodK st.labs ∧ NodK st.wishes ∧ LimS st ∧ lawDue st d = none ∧ ∀ H' t e1 e2 m1 m2, Same H H' → H e1 = none → H e2 = none → LStA M H' t e1 e2 m1 m2 (after st d) → Q (.ref t) H'
theorem ifd_T {K : PySem.W.Frag} {T U : TS} {D : Ends} {σ : L2.St} {H : Hp} {dp : Addr} {ys : List V} {x w : Str} (e1 : σ[1]? = some (some (.ref dp))) (hdp : H dp = some (.tup ys)) (h0 : atI ys 0 = some (.str x)) (h : x = w) (k : T D σ H) : tIfS (tTest (tOp rEq (tOp (rIxT K) (tVar 1) (tC (.int 0))) (tC (.str w)))) T U D σ H := by
  subst h
  exact ⟨_, e1, dp, _, 0, .str x, rfl, rfl, .inl (.inl hdp), h0, rfl, _, rfl, by rw [strEq]; exact iteT k⟩
theorem ifd_F {K : PySem.W.Frag} {T U : TS} {D : Ends} {σ : L2.St} {H : Hp} {dp : Addr} {ys : List V} {x w : Str} (e1 : σ[1]? = some (some (.ref dp))) (hdp : H dp = some (.tup ys)) (h0 : atI ys 0 = some (.str x)) (h : x ≠ w) (k : U D σ H) : tIfS (tTest (tOp rEq (tOp (rIxT K) (tVar 1) (tC (.int 0))) (tC (.str w)))) T U D σ H :=
  ⟨_, e1, dp, _, 0, .str x, rfl, rfl, .inl (.inl hdp), h0, rfl, _, rfl, by rw [strNe h]; exact iteF k⟩
theorem same_none {H H1 : Hp} (s : Same H H1) {p : Addr} (h : H1 p = Option.none) : H p = Option.none := by
  cases e : H p with
  | none => rfl
  | some o =>
    rw [s _ _ e] at h
    cases h
theorem Same.put {H H1 : Hp} {a : Addr} {o : HO} (n : H a = none) (s : Same H H1) : Same H (upd H1 a o) := fun c u e => by
  rw [upd_ne (ne_of_none e n)]
  exact s c u e
theorem edit_put {K : PySem.W.Frag} {M : List Addr} {H : Hp} {D : Ends} {σ : L2.St} {a dp : Addr} {k1 : List (Key × V)} {st : St} {n : Str} {L : Lab} {d : Deed} {ys : List V} (e1 : σ[1]? = some (some (.ref dp))) (e2 : σ[2]? = some (some (.ref a))) (hdp : H dp = some (.tup ys)) (hn : atI ys 1 = some (.str n)) (ha : H a = some (.dK k1))
    (r1 : KR (fun v L => DA M H v (Lab.d L)) k1 st.labs) (hL : getK n st.labs = some L) (dd : DA M H (.ref dp) d.d) (tM : Trk M H) (he : d.edit = true) (lim : Lim L) (hs : ∀ n i, d = .strike n i → inB i L.mv.length = true) (hl : k1.length ≤ 1000)
    (k : ∀ H' v', Same H H' → DA M H' v' (listsAfter L d).d → D.nx σ (upd H' a (.dK (putK k1 (.inr n) v')))) :
    sDPut (tVar 2) (tOp (rIxT K) (tVar 1) (tC (.int 1))) (tCall spListsAfter [] E0 (tCons (tDGet (tVar 2) (tOp (rIxT K) (tVar 1) (tC (.int 1)))) (tCons (tVar 1) tNil))) D σ H := by
  obtain ⟨lv, e, dl⟩ := (r1.val n).1 L hL
  refine ⟨_, e2, _, e1, dp, _, 1, .str n, rfl, rfl, .inl (.inl hdp), hn, a, lv, rfl, by rw [← e]; exact DGet.k (k := .inr n) ha, _, e1, M, lv, _, L, d, rfl, dl, dd, tM, he, lim, hs, fun H' v' s' dv' => ?_⟩
  exact ⟨_, e2, _, e1, dp, _, 1, .str n, rfl, rfl, .inl (.inl (s' _ _ hdp)), hn, a, _, rfl, DPut.k (k := .inr n) (s' _ _ ha) (by rw [sizeLine_eq]; omega), k H' v' s' dv'⟩
theorem KeepD.put {M : List Addr} {H : Hp} {d : Addr} {kvs kvs' : List (Key × V)} (e : H d = some (.dK kvs)) : KeepD M H (upd H d (.dK kvs')) :=
  ⟨fun a xs _ h => by rw [upd_ne (fun z => by rw [z, e] at h; cases h)]; exact h, fun a xs _ h => by rw [upd_ne (fun z => by rw [z, e] at h; cases h)]; exact h⟩
theorem merge_kr {α : Type} {R R' : V → α → Prop} : ∀ {more : List (Key × V)} {acc : List (Key × V)} {la lm : List (Str × α)}, KR R acc la → KR R' more lm → NodK (la ++ lm) → mergeK acc more = acc ++ more
  | _, acc, la, _, ka, .nil, _ => by rw [List.append_nil]; rfl
  | _, acc, la, _, ka, .cons (z := z) (v := v) (a := x) (r := r) (t := t) rx km, n => by
    have hz : hasK z la = false := by
      cases e : hasK z la with
      | false => rfl
      | true =>
        exfalso
        unfold NodK at n
        rw [List.map_append, List.map_cons] at n
        exact (List.nodup_append.mp n).2.2 z (hasK_mem.mp e) z (by simp) rfl
    have hv : valV acc (Sum.inr z) = none := (ka.val z).2 (by
      have := hasK_get z la
      rw [hz] at this
      cases e : getK z la with
      | none => rfl
      | some u => rw [e] at this; cases this)
    show mergeK (putK acc (Sum.inr z) v) r = _
    rw [putK_new _ hv]
    have ka' : KR (fun _ _ => True) (acc ++ [(Sum.inr z, v)]) (la ++ [(z, x)]) := (ka.imp fun _ _ _ => trivial).app (.cons trivial .nil)
    rw [merge_kr ka' km (by rw [List.append_assoc]; exact n), List.append_assoc]
    rfl
section
variable {P : Program} {w : World} {K : PySem.W.Frag} {mg : Str → Option Value} {base : Heap}
abbrev N_L_state_after : List Str := ["_law_state", "_law_deed_here", "_law_labs", "_law_wishes", "_law_pair"]
theorem sc_L_state_after : FnScope N_L_state_after ["_law_state", "_law_deed_here"] (defScope s_L_state_after) := ⟨rfl, rfl, rfl, by decide +kernel, rfl, by decide +kernel, by decide +kernel⟩
theorem b_L_state_after : Bnd0 d_L_state_after.name d_L_state_after.qual d_L_state_after.params d_L_state_after.body d_L_state_after.scope ["_law_state", "_law_deed_here"] := fun _ _ _ _ _ _ us hl => match us, hl with | [_, _], _ => rfl
theorem ok_L_state_after (T : TX w K mg) : CalE P w K mg base 2 "_law_state_after" [] spStateAfter := by
  refine cal_of T.fd_L_state_after T.g_L_state_after sc_L_state_after b_L_state_after (fun vs H Q E h => ?_) (fun cdv A outer s H vs Q E hr h => ?_)
  · obtain ⟨M, sv, dv, st, d, rfl, _⟩ := h
    rfl
  obtain ⟨M, sv, dv, st, d, rfl, ⟨p, d1, d2, k1, k2, rfl, ls⟩, dd, tM, n1, n2, lim, due, k⟩ := h
  obtain ⟨dp, rv, rfl, ndp, hdp, drv⟩ := dd.deed
  have nd := sc_L_state_after.nd
  have hu := hu_of hr
  refine ⟨_, (pss_cons (ps_par (i := 2) (j := 3) (by rfl) nd rfl rfl (by decide) rfl rfl (pa_cons (pe_callTy call_dictD (by rfl) T.f_dict (by decide +kernel) (pa_cons (pe_ix ix_tup (pv 0) pe_int (fun _ _ => rfl)) pa_nil)) (pa_cons (pe_callTy call_dictD (by rfl) T.f_dict (by decide +kernel) (pa_cons (pe_ix ix_tup (pv 0) pe_int (fun _ _ => rfl)) pa_nil)) pa_nil)) (by rfl))
      (pss_cons (ps_if (pt_cmpR op_eq (pe_ix ix_tup (pv 1) pe_int (fun _ _ => rfl)) pe_str (nomark _))
      (pss_one (ps_dput hu (pv 2) (pe_ix ix_tup (pv 1) pe_int (fun _ _ => rfl)) (pe_tup (pa_cons (pe_lst pa_nil) (pa_cons (pe_lst pa_nil) (pa_cons (pe_lst pa_nil) pa_nil)))) rfl))
      (pss_one (ps_if (pt_cmpR op_eq (pe_ix ix_tup (pv 1) pe_int (fun _ _ => rfl)) pe_str (nomark _))
      (pss_one (ps_expr (pe_dpop1 (pv 3) (pe_ix ix_tup (pv 1) pe_int (fun _ _ => rfl)) ⟨rfl, rfl, rfl, rfl⟩)))
      (pss_one (ps_if (pt_cmpR op_eq (pe_ix ix_tup (pv 1) pe_int (fun _ _ => rfl)) pe_str (nomark _))
      (pss_one (ps_dput hu (pv 3) (pe_ix ix_tup (pv 1) pe_int (fun _ _ => rfl)) (pe_tup (pa_cons (pe_ix ix_tup (pv 1) pe_int (fun _ _ => rfl)) (pa_cons (pe_slice sl_tupA (pv 1) (po_some pe_int) po_none) pa_nil))) rfl))
      (pss_one (ps_if (pt_cmpR op_eq (pe_ix ix_tup (pv 1) pe_int (fun _ _ => rfl)) pe_str (nomark _))
      (pss_cons (ps_expr (pe_dpop1 (pv 2) (pe_ix ix_tup (pv 1) pe_int (fun _ _ => rfl)) ⟨rfl, rfl, rfl, rfl⟩))
      (pss_one (ps_set (i := 3) nd rfl (Or.inl rfl) (pe_callTy (call_dictP rfl) (by rfl) T.f_dict (by decide +kernel) (pa_cons (pe_lock (pe_lcItems (own := [("_law_pair", 4)]) rfl nd (pv 3) (blkOk_by (N := N_L_state_after) (sc := defScope s_L_state_after) (by decide +kernel)) (fun _ _ _ _ _ => (pg_name (i := 4) nd rfl (Or.inl rfl))) (fun _ _ _ _ _ => (pts_one (pt_cmpR op_ne (pe_ix (ix_tupK (K := K) rfl) (pe_ix (ix_tupK (K := K) rfl) (pv 4) pe_int (fun _ _ => rfl)) pe_int (fun _ _ => rfl)) (pe_ix (ix_tupK (K := K) rfl) (pv 1) pe_int (fun _ _ => rfl)) (nomark _)))) (fun _ _ _ _ _ => (pv 4)))) pa_nil)))))
      (pss_one (ps_dput hu (pv 2) (pe_ix ix_tup (pv 1) pe_int (fun _ _ => rfl)) (pe_cal (ok_L_lists_after T) (hr.mono (by decide)) rfl passL (pa_cons (pe_dget hu (pv 2) (pe_ix ix_tup (pv 1) pe_int (fun _ _ => rfl)) (fun _ _ => rfl)) (pa_cons (pv 1) pa_nil))) rfl)))))))))
      (pss_one (ps_ret (pe_tup (pa_cons (pv 2) (pa_cons (pv 3) pa_nil))))))), ?_⟩
  refine ⟨_, rfl, p, _, 0, .ref d1, rfl, rfl, .inl (.inl ls.hp), at_of (j := 0) rfl rfl, d1, k1, rfl, .inl ls.h1, fun a ha => ?_⟩
  have s1 := Same.up (o := .dK k1) ha
  refine ⟨_, rfl, p, _, 1, .ref d2, rfl, rfl, .inl (.inl (s1 _ _ ls.hp)), at_of (j := 1) rfl rfl, d2, k2, rfl, .inl (s1 _ _ ls.h2), fun b hb => ?_⟩
  have s2 := Same.up (o := .dK k2) hb
  have s02 := s1.trans s2
  refine ⟨_, _, rfl, ?_⟩
  dsimp only
  show tIfS _ _ _ ⟨_, _, _, _⟩ _ _
  obtain ⟨nb0, ba⟩ := up_none hb
  have ab : a ≠ b := fun z => by rw [z] at ha; exact ba z.symm
  have na : a ∉ M := tM.new ha
  have nb : b ∉ M := tM.new nb0
  have ha2 := s2 _ _ (upd_same (H := H) (a := a) (o := .dK k1))
  have hb2 : (upd (upd H a (.dK k1)) b (.dK k2)) b = some (.dK k2) := upd_same
  generalize upd (upd H a (.dK k1)) b (.dK k2) = H2 at *
  have ls2 := ls.keep (Keep.of s02)
  have tM2 := tM.same s02
  have dd2 := dd.keep (Keep.of s02)
  have hdp2 := s02 _ _ hdp
  have lk1 : k1.length ≤ 100 := by rw [ls.r1.length]; exact lim.l1
  have lk2 : k2.length ≤ 100 := by rw [ls.r2.length]; exact lim.l2
  have fin : ∀ (x y : Addr) (kx ky : List (Key × V)) (H3 : Hp), Same H H3 → H x = none → H y = none → x ∉ M → y ∉ M → H3 x = some (.dK kx) → H3 y = some (.dK ky) → KR (fun v L => DA M H3 v (Lab.d L)) kx (after st d).labs → KR (fun v w => DA M H3 v (Wish.d w)) ky (after st d).wishes →
      ∀ t : Addr, H3 t = none → Q (.ref t) (upd H3 t (.tup [.ref x, .ref y])) := fun x y kx ky H3 s3 x0 y0 nx ny hx hy rx ry t ht => by
    have st := Same.up (o := .tup [V.ref x, V.ref y]) ht
    exact k _ t x y kx ky (s3.trans st) x0 y0 ⟨(tM.same s3).new ht, nx, ny, upd_same, st _ _ hx, st _ _ hy, rx.imp fun v a r => DA.keep (Keep.of st) r, ry.imp fun v a r => DA.keep (Keep.of st) r⟩
  have edit : ∀ (n : Str) (L : Lab), atI (V.str d.word :: rv) 1 = some (.str n) → getK n st.labs = some L → d.edit = true → (∀ n i, d = .strike n i → inB i L.mv.length = true) → after st d = ⟨setK n (listsAfter L d) st.labs, st.wishes⟩ →
      sDPut (tVar 2) (tOp (rIxT K) (tVar 1) (tC (.int 1))) (tCall spListsAfter [] E0 (tCons (tDGet (tVar 2) (tOp (rIxT K) (tVar 1) (tC (.int 1)))) (tCons (tVar 1) tNil))) ⟨fun σ H => tRet (tTup (tCons (tVar 2) (tCons (tVar 3) tNil))) ⟨fun _ H' => Q .non H', Q, fun _ _ => False, fun _ _ => False⟩ σ H, Q, fun _ _ => False, fun _ _ => False⟩ [some (.ref p), some (.ref dp), some (.ref a), some (.ref b), none] H2 := fun n L hn hL he hs ea => by
    refine edit_put (M := M) (st := st) rfl rfl hdp2 hn ha2 ls2.r1 hL dd2 tM2 he (lim.ok _ _ hL) hs (by omega) fun H3 v3 s3 d3 => ?_
    have s4 : Same H (upd H3 a (.dK (putK k1 (.inr n) v3))) := Same.put ha (s02.trans s3)
    have kd : KeepD M H3 (upd H3 a (.dK (putK k1 (.inr n) v3))) := KeepD.put (s3 _ _ ha2)
    refine ⟨_, rfl, _, rfl, by show 2 ≤ sizeLine; rw [sizeLine_eq]; omega, fun t ht => fin a b _ k2 _ s4 ha nb0 na nb upd_same ((upd_ne ab.symm).trans (s3 _ _ hb2)) ?_ ?_ t ht⟩
    · rw [ea]
      exact (ls.r1.imp fun v a r => DA.keep (Keep.of s4) r).put n (d3.keepD kd)
    · rw [ea]
      exact ls.r2.imp fun v a r => DA.keep (Keep.of s4) r
  cases d with
  | lab n =>
    obtain rfl := DAs.strs (ss := [n]) drv
    have hdp2 : H2 dp = some (.tup [.str "lab", .str n]) := hdp2
    refine ifd_T rfl hdp2 (at_of (j := 0) rfl rfl) rfl ?_
    refine ⟨Nat.zero_le _, fun q1 hq1 => ⟨Nat.zero_le _, fun q2 hq2 => ⟨Nat.zero_le _, fun q3 hq3 => ⟨by show 3 ≤ sizeLine; rw [sizeLine_eq]; omega, fun q4 hq4 => ?_⟩⟩⟩⟩
    have t1 := Same.up (o := .lst []) hq1
    have t2 := Same.up (o := .lst []) hq2
    have t3 := Same.up (o := .lst []) hq3
    have t4 := Same.up (o := .tup [V.ref q1, V.ref q2, V.ref q3]) hq4
    have dn : DA M (upd (upd (upd (upd H2 q1 (.lst [])) q2 (.lst [])) q3 (.lst [])) q4 (.tup [.ref q1, .ref q2, .ref q3])) (.ref q4) (Lab.d ⟨[], [], []⟩) :=
      lab_tup (L := ⟨[], [], []⟩) ((((tM2.same t1).same t2).same t3).new hq4) upd_same (DA.lst_iff.mpr ⟨q1, [], rfl, tM2.new hq1, t4 _ _ (t3 _ _ (t2 _ _ upd_same)), DAs.nil⟩) (DA.lst_iff.mpr ⟨q2, [], rfl, (tM2.same t1).new hq2, t4 _ _ (t3 _ _ upd_same), DAs.nil⟩) (DA.lst_iff.mpr ⟨q3, [], rfl, ((tM2.same t1).same t2).new hq3, t4 _ _ upd_same, DAs.nil⟩)
    have s3 : Same H2 (upd (upd (upd (upd H2 q1 (.lst [])) q2 (.lst [])) q3 (.lst [])) q4 (.tup [.ref q1, .ref q2, .ref q3])) := ((t1.trans t2).trans t3).trans t4
    generalize upd (upd (upd (upd H2 q1 (.lst [])) q2 (.lst [])) q3 (.lst [])) q4 (.tup [.ref q1, .ref q2, .ref q3]) = H3 at *
    have s4 : Same H (upd H3 a (.dK (putK k1 (.inr n) (.ref q4)))) := Same.put ha (s02.trans s3)
    refine ⟨_, rfl, _, rfl, dp, _, 1, .str n, rfl, rfl, .inl (.inl (s3 _ _ hdp2)), at_of (j := 1) rfl rfl, a, _, rfl, DPut.k (k := .inr n) (s3 _ _ ha2) (by rw [sizeLine_eq]; omega), ?_⟩
    exact ⟨_, rfl, _, rfl, by show 2 ≤ sizeLine; rw [sizeLine_eq]; omega, fun t ht => fin a b _ k2 _ s4 ha nb0 na nb upd_same ((upd_ne ab.symm).trans (s3 _ _ hb2)) ((ls.r1.imp fun v a r => DA.keep (Keep.of s4) r).put n (dn.keepD (KeepD.put (s3 _ _ ha2)))) (ls.r2.imp fun v a r => DA.keep (Keep.of s4) r) t ht⟩
  | unwish n =>
    obtain rfl := DAs.strs (ss := [n]) drv
    have hdp2 : H2 dp = some (.tup [.str "unwish", .str n]) := hdp2
    refine ifd_F rfl hdp2 (at_of (j := 0) rfl rfl) (by decide) (ifd_T rfl hdp2 (at_of (j := 0) rfl rfl) rfl ?_)
    have hk : hasK n st.wishes = true := okI_none.mp due
    rw [hasK_get] at hk
    obtain ⟨w', hw'⟩ := Option.isSome_iff_exists.mp hk
    obtain ⟨v, ev, _⟩ := (ls.r2.val n).1 w' hw'
    refine ⟨_, rfl, b, rfl, .inl ⟨k2, .inl hb2⟩, _, rfl, dp, _, 1, .str n, rfl, rfl, .inl (.inl hdp2), at_of (j := 1) rfl rfl, k2, .inr n, v, hb2, rfl, ev, ?_⟩
    have s4 : Same H (upd H2 b (.dK (dropK k2 (.inr n)))) := Same.put nb0 s02
    exact ⟨_, rfl, _, rfl, by show 2 ≤ sizeLine; rw [sizeLine_eq]; omega, fun t ht => fin a b k1 _ _ s4 ha nb0 na nb ((upd_ne ab).trans ha2) upd_same (ls.r1.imp fun v a r => DA.keep (Keep.of s4) r) ((ls.r2.imp fun v a r => DA.keep (Keep.of s4) r).drop n) t ht⟩
  | wish n wi =>
    obtain ⟨x1, r1, rfl, e1, drv⟩ := DAs.cons_inv drv
    obtain ⟨x2, r2, rfl, e2, drv⟩ := DAs.cons_inv drv
    have dv0 := drv
    obtain ⟨x3, r3, rfl, e3, drv⟩ := DAs.cons_inv drv
    obtain ⟨x4, r4, rfl, e4, drv⟩ := DAs.cons_inv drv
    obtain rfl := DAs.nil_inv drv
    obtain rfl := DA.str_iff.mp e1
    obtain rfl := DA.str_iff.mp e2
    have hdp2 : H2 dp = some (.tup [.str "wish", .str n, .str wi.lab, x3, x4]) := hdp2
    refine ifd_F rfl hdp2 (at_of (j := 0) rfl rfl) (by decide) (ifd_F rfl hdp2 (at_of (j := 0) rfl rfl) (by decide) (ifd_T rfl hdp2 (at_of (j := 0) rfl rfl) rfl ?_))
    refine ⟨_, rfl, dp, _, 2, .str wi.lab, rfl, rfl, .inl (.inl hdp2), at_of (j := 2) rfl rfl, _, rfl, 3, rfl, dp, _, rfl, .inl (.inl hdp2), fun h => absurd h.1 (by show ¬ HT.sIx 5 0 (some 3) = 0; decide), fun _ q1 hq1 => ⟨by show 2 ≤ sizeLine; rw [sizeLine_eq]; omega, fun q2 hq2 => ?_⟩⟩
    have t1 := Same.up (o := .tup (cutV [V.str "wish", V.str n, V.str wi.lab, x3, x4] (some 3) none)) hq1
    have t2 := Same.up (o := .tup [V.str wi.lab, V.ref q1]) hq2
    have dn : DA M (upd (upd H2 q1 (.tup (cutV [V.str "wish", V.str n, V.str wi.lab, x3, x4] (some 3) none))) q2 (.tup [V.str wi.lab, V.ref q1])) (.ref q2) (Wish.d wi) :=
      DA.tup_iff.mpr ⟨q2, _, rfl, (tM2.same t1).new hq2, upd_same, DAs.cons (DA.str' _) (DAs.cons (DA.tup_iff.mpr ⟨q1, _, rfl, tM2.new hq1, t2 _ _ upd_same, dv0.keep (Keep.of (s02.trans (t1.trans t2)))⟩) DAs.nil)⟩
    have s3 := t1.trans t2
    generalize upd (upd H2 q1 (.tup (cutV [V.str "wish", V.str n, V.str wi.lab, x3, x4] (some 3) none))) q2 (.tup [V.str wi.lab, V.ref q1]) = H3 at *
    have s4 : Same H (upd H3 b (.dK (putK k2 (.inr n) (.ref q2)))) := Same.put nb0 (s02.trans s3)
    refine ⟨_, rfl, _, rfl, dp, _, 1, .str n, rfl, rfl, .inl (.inl (s3 _ _ hdp2)), at_of (j := 1) rfl rfl, b, _, rfl, DPut.k (k := .inr n) (s3 _ _ hb2) (by rw [sizeLine_eq]; omega), ?_⟩
    exact ⟨_, rfl, _, rfl, by show 2 ≤ sizeLine; rw [sizeLine_eq]; omega, fun t ht => fin a b k1 _ _ s4 ha nb0 na nb ((upd_ne ab).trans (s3 _ _ ha2)) upd_same (ls.r1.imp fun v a r => DA.keep (Keep.of s4) r) ((ls.r2.imp fun v a r => DA.keep (Keep.of s4) r).put n (dn.keepD (KeepD.put (s3 _ _ hb2)))) t ht⟩
  | machine n m f =>
    obtain rfl := DAs.strs (ss := [n, m, f]) drv
    have hdp2 : H2 dp = some (.tup [.str "machine", .str n, .str m, .str f]) := hdp2
    obtain ⟨L, hL, _⟩ := onLab_none due
    refine ifd_F rfl hdp2 (at_of (j := 0) rfl rfl) (by decide) (ifd_F rfl hdp2 (at_of (j := 0) rfl rfl) (by decide) (ifd_F rfl hdp2 (at_of (j := 0) rfl rfl) (by decide) (ifd_F rfl hdp2 (at_of (j := 0) rfl rfl) (by decide) ?_)))
    exact edit n L (at_of (j := 1) rfl rfl) hL rfl (fun _ _ h => by cases h) (editL_some hL)
  | row n m f =>
    obtain rfl := DAs.strs (ss := [n, m, f]) drv
    have hdp2 : H2 dp = some (.tup [.str "row", .str n, .str m, .str f]) := hdp2
    obtain ⟨L, hL, _⟩ := onLab_none due
    refine ifd_F rfl hdp2 (at_of (j := 0) rfl rfl) (by decide) (ifd_F rfl hdp2 (at_of (j := 0) rfl rfl) (by decide) (ifd_F rfl hdp2 (at_of (j := 0) rfl rfl) (by decide) (ifd_F rfl hdp2 (at_of (j := 0) rfl rfl) (by decide) ?_)))
    exact edit n L (at_of (j := 1) rfl rfl) hL rfl (fun _ _ h => by cases h) (editL_some hL)
  | move n v =>
    obtain ⟨x1, r1, rfl, e1, drv⟩ := DAs.cons_inv drv
    obtain rfl := DA.str_iff.mp e1
    have hdp2 : H2 dp = some (.tup (.str "move" :: .str n :: r1)) := hdp2
    obtain ⟨L, hL, _⟩ := onLab_none due
    refine ifd_F rfl hdp2 (at_of (j := 0) rfl rfl) (by decide) (ifd_F rfl hdp2 (at_of (j := 0) rfl rfl) (by decide) (ifd_F rfl hdp2 (at_of (j := 0) rfl rfl) (by decide) (ifd_F rfl hdp2 (at_of (j := 0) rfl rfl) (by decide) ?_)))
    exact edit n L (at_of (j := 1) rfl rfl) hL rfl (fun _ _ h => by cases h) (editL_some hL)
  | strike n i =>
    obtain ⟨x1, r1, rfl, e1, drv⟩ := DAs.cons_inv drv
    obtain rfl := DA.str_iff.mp e1
    have hdp2 : H2 dp = some (.tup (.str "strike" :: .str n :: r1)) := hdp2
    obtain ⟨L, hL, hi⟩ := onLab_none due
    refine ifd_F rfl hdp2 (at_of (j := 0) rfl rfl) (by decide) (ifd_F rfl hdp2 (at_of (j := 0) rfl rfl) (by decide) (ifd_F rfl hdp2 (at_of (j := 0) rfl rfl) (by decide) (ifd_F rfl hdp2 (at_of (j := 0) rfl rfl) (by decide) ?_)))
    exact edit n L (at_of (j := 1) rfl rfl) hL rfl (fun _ _ h => by cases h; exact okI_none.mp hi) (editL_some hL)
  | drop n =>
    obtain rfl := DAs.strs (ss := [n]) drv
    have hdp2 : H2 dp = some (.tup [.str "drop", .str n]) := hdp2
    obtain ⟨L, hL, _⟩ := onLab_none due
    obtain ⟨lv, ev, _⟩ := (ls.r1.val n).1 L hL
    refine ifd_F rfl hdp2 (at_of (j := 0) rfl rfl) (by decide) (ifd_F rfl hdp2 (at_of (j := 0) rfl rfl) (by decide) (ifd_F rfl hdp2 (at_of (j := 0) rfl rfl) (by decide) (ifd_T rfl hdp2 (at_of (j := 0) rfl rfl) rfl ?_)))
    refine ⟨_, rfl, a, rfl, .inl ⟨k1, .inl ha2⟩, _, rfl, dp, _, 1, .str n, rfl, rfl, .inl (.inl hdp2), at_of (j := 1) rfl rfl, k1, .inr n, lv, ha2, rfl, ev, ?_⟩
    dsimp only
    have s03 : Same H (upd H2 a (.dK (dropK k1 (.inr n)))) := Same.put ha s02
    have ha3 : (upd H2 a (.dK (dropK k1 (.inr n)))) a = some (.dK (dropK k1 (.inr n))) := upd_same
    have hb3 : (upd H2 a (.dK (dropK k1 (.inr n)))) b = some (.dK k2) := (upd_ne ab.symm).trans hb2
    have hdp3 := s03 _ _ hdp
    generalize upd H2 a (.dK (dropK k1 (.inr n))) = H3 at *
    refine ⟨b, .dK k2, hb3, trivial, fun od => ⟨_, rfl, b, od, k2, rfl, upd_same, fun D hD => ?_⟩⟩
    have r2' : KR (fun v w => DA M (upd H3 b (.frz od (.dK k2))) v (Wish.d w)) k2 st.wishes := ls.r2.imp fun v a r => (DA.keep (Keep.of s03) r).keepD (KeepD.frz hb3)
    have s34 : ∀ c u, c ≠ b → H3 c = some u → (upd H3 b (.frz od (.dK k2))) c = some u := fun c u nc e => (upd_ne nc).trans e
    have hb4 : (upd H3 b (.frz od (.dK k2))) b = some (.frz od (.dK k2)) := upd_same
    have ua : ∀ {H' : Hp}, Same (upd H3 b (.frz od (.dK k2))) H' → Same H3 (upd H' b (.dK k2)) := fun s => Same.unlock hb3 s
    have dpb : dp ≠ b := ne_of_none hdp nb0
    have hdp4 := s34 _ _ dpb hdp3
    generalize upd H3 b (.frz od (.dK k2)) = H4 at *
    refine ⟨fun i t H' => Same H4 H' ∧ i ≤ k2.length ∧ (∀ q, t = some q → ∃ xs, H' q = some (.tup xs)) ∧ ∃ (ps : List Addr) (acc : List (Key × V)), H' D = some (.lst (ps.map V.ref)) ∧ Paired (fun (q : Addr) (kv : Key × V) => H' q = some (.tup [kV kv.1, kv.2])) ps acc ∧
      KR (fun v w => DA M H4 v (Wish.d w)) acc ((st.wishes.take i).filter fun p => decide (p.2.lab ≠ n)), ⟨Same.up hD, Nat.zero_le _, (fun q h => by cases h), [], [], upd_same, .nil, .nil⟩, fun i t H' w => ?_⟩
    obtain ⟨s5, hi, ht, ps, acc, hD5, hp, hk⟩ := w
    have dlen := hp.length
    have klen := hk.length
    have flen : ((st.wishes.take i).filter fun p => decide (p.2.lab ≠ n)).length ≤ 100 := Nat.le_trans (List.length_filter_le _ _) (by rw [List.length_take]; have := lim.l2; omega)
    refine ⟨s5 _ _ hb4, ht, hi, fun e => ?_, fun key v hkv T hT => ?_⟩
    · refine ⟨s5 _ _ hb4, ?_⟩
      have s6 := ua s5
      rw [e, ls.r2.length, List.take_length] at hk
      have Db : D ≠ b := fun z => by rw [z, hb4] at hD; cases hD
      have hD6 : (upd H' b (.dK k2)) D = some (.lst (ps.map V.ref)) := (upd_ne Db).trans hD5
      have kd6 : KeepD M H' (upd H' b (.dK k2)) := KeepD.unfrz (s5 _ _ hb4)
      refine ⟨D, ps, acc, rfl, .inl (.inl hD6), L2.Paired.mapP hp fun q kv h => .inl (.inl ((upd_ne (fun z => by rw [z, s5 _ _ hb4] at h; cases h)).trans h)), fun p5 hp5 => ?_⟩
      have em : mergeK [] acc = acc := merge_kr (acc := []) (la := ([] : List (Str × Wish))) (R := fun _ _ => True) .nil hk (filter_nod n2)
      rw [em]
      have s7 := Same.up (o := .dK acc) hp5
      have s37 := s6.trans s7
      exact ⟨_, rfl, _, rfl, by show 2 ≤ sizeLine; rw [sizeLine_eq]; omega, fun t ht => fin a p5 _ _ _ (s03.trans s37) ha (same_none (s03.trans s6) hp5) na ((tM.same (s03.trans s6)).new hp5) (s37 _ _ ha3) upd_same ((ls.r1.imp fun v a r => DA.keep (Keep.of (s03.trans s37)) r).drop n)
        (hk.imp fun v w r => DA.keep (Keep.of s7) ((DA.keep (Keep.of s5) r).keepD kd6)) t ht⟩
    · obtain ⟨z, w', rfl, hz, rw'⟩ := r2'.at hkv
      obtain ⟨pw, xs, rfl, nw, hw, dx⟩ := DA.tup_iff.mp rw'
      obtain ⟨x0, xr, rfl, e0, dx⟩ := DAs.cons_inv dx
      obtain rfl := DA.str_iff.mp e0
      have s6 := Same.up (o := .tup [kV (Sum.inr z), V.ref pw]) hT
      have s56 := s5.trans s6
      have hT6 : (upd H' T (.tup [kV (Sum.inr z), V.ref pw])) T = some (.tup [kV (Sum.inr z), V.ref pw]) := upd_same
      have hD6 := s6 _ _ hD5
      have et := take_succ_get hz
      have tt : ∀ q, some (t.getD T) = some q → ∃ xs, (upd H' T (.tup [kV (Sum.inr z), V.ref pw])) q = some (.tup xs) := fun q e => by
        cases t with
        | none => cases e; exact ⟨_, hT6⟩
        | some a => cases e; obtain ⟨xs, h⟩ := ht _ rfl; exact ⟨xs, s6 _ _ h⟩
      have hp6 : Paired (fun (q : Addr) (kv : Key × V) => (upd H' T (.tup [kV (Sum.inr z), V.ref pw])) q = some (.tup [kV kv.1, kv.2])) ps acc := L2.Paired.mapP hp fun q kv h => s6 _ _ h
      generalize upd H' T (.tup [kV (Sum.inr z), V.ref pw]) = H6 at *
      have hi2 : i + 1 ≤ k2.length := by
        have := (List.getElem?_eq_some_iff.mp hkv).1
        omega
      refine ⟨rfl, ?_⟩
      simp only [tSeq, tDrop, tVar, tC, tCall, tCons, tNil, tFld, sFld, sDPut, tDGet, tRet, tRetN, tIfS, tTest, tB, tNot, tAnd, tOr, tOp, tUn, rI0, rI, tNext, tDIn, tDNotIn, tDNewK, tIf, tAndV, tOrV, tNotV, tAsg, gName, gCons, gNil, gTup, tPar, tTup, tLst, tMeth, tCB, rEq, rNe, tBM, rAppend, tBM0, tChain, rIxL, rIxT, rIxS, rIx, L2.start, cxK, cxW, kV_inr, List.map_cons, List.map_nil, List.length_cons, List.length_nil, List.replicate, List.cons_append, List.nil_append, List.append_nil, List.getElem?_cons_zero, List.getElem?_cons_succ, List.set_cons_zero, List.set_cons_succ, Option.some.injEq, V.ref.injEq, V.str.injEq, V.int.injEq, V.bl.injEq, exists_eq, exists_eq', exists_eq_left, exists_eq_left', exists_and_left, exists_and_right, List.cons.injEq, and_true, true_and, and_assoc, wipe]
      refine ⟨_, .inl (.inl hT6), .ref pw, at_of (j := 1) rfl rfl, pw, rfl, _, .inl (.inl (s56 _ _ hw)), .str w'.lab, at_of (j := 0) rfl rfl, _, .inl (.inl (s56 _ _ hdp4)), .str n, at_of (j := 1) rfl rfl, rfl, ?_⟩
      by_cases c : w'.lab = n
      · rw [decide_eq_true (show V.str w'.lab = V.str n by rw [c])]
        refine iteF ⟨s56, hi2, fun q e => tt q (by rw [e]), ps, hD6, acc, hp6, ?_⟩
        rw [et, List.filter_append, List.filter_cons_of_neg (by simpa using c), List.filter_nil, List.append_nil]
        exact hk
      · rw [strNe c]
        have off : ∀ q xs, H6 q = some (.tup xs) → (upd H6 D (.lst (ps.map V.ref ++ [V.ref T]))) q = some (.tup xs) := fun q xs e => (upd_ne (fun z => by rw [z, hD6] at e; cases e)).trans e
        refine iteT ⟨ps.map V.ref, hD6, by rw [List.length_map, sizeLine_eq]; omega, Same.put hD s56, hi2, fun q e => ?_, ps ++ [T], by rw [upd_same, List.map_append]; rfl, acc ++ [(.inr z, .ref pw)], (L2.Paired.mapP hp6 fun q kv h => off _ _ h).snoc (off _ _ hT6), ?_⟩
        · obtain ⟨xs, h⟩ := tt q (by rw [e])
          exact ⟨xs, off _ _ h⟩
        · rw [et, List.filter_append, List.filter_cons_of_pos (by simpa using c), List.filter_nil]
          exact hk.app (.cons rw' .nil)
end
end K51


set_option Elab.async false
set_option linter.all false
set_option maxRecDepth 100000
set_option maxHeartbeats 4000000
namespace K51
open PySem PySem.Spec PyProof.Rows L2
/-- data of at most so many storeys, of texts and whole numbers -/
def DF : Nat → D → Prop
  | _ + 1, .str _ => True
  | _ + 1, .int _ => True
  | n + 1, .lst ds => ds.length ≤ 1000 ∧ ∀ d ∈ ds, DF n d
  | n + 1, .tup ds => ds.length ≤ 1000 ∧ ∀ d ∈ ds, DF n d
  | _, _ => False
def spSame (n : Nat) : Sp := fun vs H Q _ => ∃ (M : List Addr) (v u : V) (d : D), vs = [v, u] ∧ DA M H v d ∧ DA M H u d ∧ DF n d ∧ ∀ H', Same H H' → Q (.bl true) H'
theorem walk_zipT {K : PySem.W.Frag} {a b : Addr} {xs ys : List V} {n : Nat} (hn : n = min xs.length ys.length) : Walk (RZ.ItzT K a b) n (fun H => SqT K H a xs ∧ SqT K H b ys) (YPair (fun i => xs[i]?) (fun i => ys[i]?)) :=
  ⟨fun i H hi g => ⟨xs, ys, xs[i]'(by omega), ys[i]'(by omega), g.1, g.2, List.getElem?_eq_getElem _, List.getElem?_eq_getElem _⟩, fun H g => ⟨xs, ys, g.1, g.2, by omega⟩,
    fun i H x H' hi g y => by
      obtain ⟨T, u, v, e1, e2, e3, e4, e5⟩ := y
      exact ⟨T, u, v, e1, e2, e3, e4 xs g.1, e5 ys g.2⟩⟩
theorem isi_q {K : PySem.W.Frag} {H : Hp} {x : V} {t n : String} {b : Bool} {Q : VK} (ty : TyX K H x (.type t)) (e : kitB t n = some b) (q : Q (.bl b) H) : rIsi K [x, .ty n] H Q := ⟨x, .ty n, .type t, .type n, b, rfl, .ty n, ty, kit_ty e, q⟩
theorem isiT_q {K : PySem.W.Frag} {H : Hp} {x : V} {p : Addr} {t n m : String} {b c : Bool} {Q : VK} (ty : TyX K H x (.type t)) (hp : H p = some (.tup [.ty n, .ty m])) (e : kitB t n = some b) (e2 : kitB t m = some c) (q : Q (.bl (b || c)) H) : rIsiT K [x, .ref p] H Q :=
  ⟨x, p, _, .type t, [.type n, .type m], b || c, rfl, hp, .cons (.ty n) (.cons (.ty m) .nil), ty, kitAny_cons (kit_ty e) (fun z => by
    subst z
    refine kitAny_cons (kit_ty e2) (fun z => ?_) (fun z => by rw [z]; rfl)
    rw [z]
    rfl) (fun z => by rw [z]; rfl), q⟩
/-- the members of two like rows, each like each -/
theorem same_lc {K : PySem.W.Frag} {M : List Addr} {H : Hp} {a b : Addr} {xs ys : List V} {ds : List D} {n : Nat} {Q : VK} (da : DAs M H xs ds) (db : DAs M H ys ds) (lim : ds.length ≤ 1000) (df : ∀ d ∈ ds, DF n d) (h : (H a = some (.lst xs) ∧ H b = some (.lst ys)) ∨ (H a = some (.tup xs) ∧ H b = some (.tup ys))) (k : ∀ H', Same H H' → Q (.bl true) H') :
    tLc (RZ.iZipA K (tCons (tVar 0) (tCons (tVar 1) tNil))) (gTup K 2 (gCons (gName 2) (gCons (gName 3) gNil))) tYes (tCall (spSame n) [] E0 (tCons (tVar 2) (tCons (tVar 3) tNil))) [2, 3] [some (.ref a), some (.ref b), none, none] H fun x H1 => rAll K [x] H1 Q := by
  have la := da.length
  have lb := db.length
  have cell : ∀ (i : Nat) (x y : V) (H' H'' : Hp) (Kk : V → Hp → Prop), (List.replicate ds.length (V.bl true))[i]? = some y → Same H H' → YPair (fun i => xs[i]?) (fun i => ys[i]?) i H' x H'' → (∀ H3, Same H'' H3 → Kk y H3) →
      gTup K 2 (gCons (gName 2) (gCons (gName 3) gNil)) x (wipe [some (.ref a), some (.ref b), none, none] [2, 3]) H'' fun σ2 H2 => wipe σ2 [2, 3] = wipe [some (.ref a), some (.ref b), none, none] [2, 3] ∧ tCall (spSame n) [] E0 (tCons (tVar 2) (tCons (tVar 3) tNil)) σ2 H2 Kk := by
    intro i x y H' H'' Kk hy s' hx kk
    obtain ⟨T, u, v, rfl, hT, rfl, e1, e2⟩ := hx
    have sT := s'.trans (Same.up (o := .tup [u, v]) hT)
    obtain ⟨d, ed, du⟩ := da.get e1
    obtain ⟨d2, ed2, dv⟩ := db.get e2
    rw [ed] at ed2
    cases ed2
    rw [List.getElem?_replicate] at hy
    split at hy
    · cases hy
      exact ⟨T, _, rfl, .inl (.inl upd_same), rfl, _, _, rfl, _, _, rfl, rfl, rfl, _, rfl, _, rfl, M, u, v, d, rfl, du.keep (Keep.of sT), dv.keep (Keep.of sT), df d (List.mem_of_getElem? ed), fun H3 s3 => kk H3 s3⟩
    · cases hy
  have fin : ∀ (D : Addr) (H' : Hp), Same H H' → H' D = some (.lst (List.replicate ds.length (V.bl true))) → rAll K [.ref D] H' Q := fun D H' s' e => ⟨D, List.replicate ds.length true, rfl, .inl (.inl (by rw [List.map_replicate]; exact e)), by rw [show (List.replicate ds.length true).all id = true by simp]; exact k H' s'⟩
  have hY : ∀ i H1 x H2, YPair (fun i => xs[i]?) (fun i => ys[i]?) i H1 x H2 → Same H1 H2 := fun i H1 x H2 ⟨T, u, v, _, hT, e, _⟩ => by rw [e]; exact Same.up hT
  rcases h with ⟨ha, hb⟩ | ⟨ha, hb⟩
  · refine ⟨_, rfl, _, rfl, a, b, xs, ys, rfl, .inl ⟨.inl (.inl ha), .inl (.inl hb), fun D hD => ?_⟩⟩
    exact lc_vals (Qd := fun H' => rAll K [.ref D] H' Q) (walk_zip (n := ds.length) (by omega)) (List.replicate ds.length (.bl true)) (by rw [List.length_replicate]) (by omega) hD (fun H' s' => ⟨.inl (.inl (s' _ _ ha)), .inl (.inl (s' _ _ hb))⟩) hY gTup2_mono cell (fin D)
  · refine ⟨_, rfl, _, rfl, a, b, xs, ys, rfl, .inr ⟨.inl (.inl ha), .inl (.inl hb), fun D hD => ?_⟩⟩
    exact lc_vals (Qd := fun H' => rAll K [.ref D] H' Q) (walk_zipT (n := ds.length) (by omega)) (List.replicate ds.length (.bl true)) (by rw [List.length_replicate]) (by omega) hD (fun H' s' => ⟨.inl (.inl (s' _ _ ha)), .inl (.inl (s' _ _ hb))⟩) hY gTup2_mono cell (fin D)
section
variable {P : Program} {w : World} {K : PySem.W.Frag} {mg : Str → Option Value} {base : Heap}
abbrev N_L_same : List Str := ["_law_found", "_law_due", "_law_a", "_law_b"]
theorem sc_L_same : FnScope N_L_same ["_law_found", "_law_due"] (defScope s_L_same) := ⟨rfl, rfl, rfl, by decide +kernel, rfl, by decide +kernel, by decide +kernel⟩
theorem b_L_same : Bnd0 d_L_same.name d_L_same.qual d_L_same.params d_L_same.body d_L_same.scope ["_law_found", "_law_due"] := fun _ _ _ _ _ _ us hl => match us, hl with | [_, _], _ => rfl
theorem ok_L_same (T : TX w K mg) : ∀ n : Nat, CalE P w K mg base (n + 1) "_law_same" [] (spSame n)
  | 0 => by
    refine cal_of T.fd_L_same T.g_L_same sc_L_same b_L_same (fun vs H Q E h => ?_) (fun cdv A outer s H vs Q E hr h => ?_)
    · obtain ⟨M, v, u, d, rfl, _⟩ := h
      rfl
    · obtain ⟨M, v, u, d, _, _, _, h, _⟩ := h
      cases d <;> exact h.elim
  | n + 1 => by
    have ih := ok_L_same T n
    refine cal_of T.fd_L_same T.g_L_same sc_L_same b_L_same (fun vs H Q E h => ?_) (fun cdv A outer s H vs Q E hr h => ?_)
    · obtain ⟨M, v, u, d, rfl, _⟩ := h
      rfl
    obtain ⟨M, v, u, d, rfl, dv, du, df, k⟩ := h
    have nd := sc_L_same.nd
    refine ⟨_, (pss_cons (ps_if (pt_val (pe_callB call_isiT (by rfl) T.f_isinstance (by decide +kernel) (pa_cons (pv 1) (pa_cons (pe_tup (pa_cons (pe_bltn (v := .ty "list") (by rfl) T.f_list (by decide +kernel) rfl) (pa_cons (pe_bltn (v := .ty "tuple") (by rfl) T.f_tuple (by decide +kernel) rfl) pa_nil))) pa_nil))))
      (pss_cons (ps_if (PW.pt (pw_or (pt_cmpR op_ne (pe_callB call_isi (by rfl) T.f_isinstance (by decide +kernel) (pa_cons (pv 0) (pa_cons (pe_bltn (v := .ty "list") (by rfl) T.f_list (by decide +kernel) rfl) pa_nil))) (pe_callB call_isi (by rfl) T.f_isinstance (by decide +kernel) (pa_cons (pv 1) (pa_cons (pe_bltn (v := .ty "list") (by rfl) T.f_list (by decide +kernel) rfl) pa_nil))) (nomark _)) (pw_or1 (pt_cmpR op_ne (pe_callB call_isi (by rfl) T.f_isinstance (by decide +kernel) (pa_cons (pv 0) (pa_cons (pe_bltn (v := .ty "tuple") (by rfl) T.f_tuple (by decide +kernel) rfl) pa_nil))) (pe_callB call_isi (by rfl) T.f_isinstance (by decide +kernel) (pa_cons (pv 1) (pa_cons (pe_bltn (v := .ty "tuple") (by rfl) T.f_tuple (by decide +kernel) rfl) pa_nil))) (nomark _)))))
      (pss_one (ps_ret pe_bl))
      pss_nil)
      (pss_one (ps_ret (pe_and (pe_cmpR op_eq (pe_callB call_len_seq (by rfl) T.f_len PySem.boot_len (pa_cons (pv 0) pa_nil)) (pe_callB call_len_seq (by rfl) T.f_len PySem.boot_len (pa_cons (pv 1) pa_nil)) (nomark _)) (pe_one (pe_callB (cr_all rfl) (by rfl) T.f_all (by decide +kernel) (pa_cons (pe_lc (own := [("_law_a", 2), ("_law_b", 3)]) (by rfl) nd (RZ.pi_zipA (by rfl) T.f_zip (pa_cons (pv 0) (pa_cons (pv 1) pa_nil))) (blkOk_by (N := N_L_same) (sc := defScope s_L_same) (by decide +kernel)) (fun _ _ _ _ _ => (pg_tupK (K := K) rfl (n := 2) (by rfl) (pgs_cons (pg_name (i := 2) nd rfl (Or.inl rfl)) (pgs_cons (pg_name (i := 3) nd rfl (Or.inl rfl)) pgs_nil)))) (fun _ _ _ _ _ => pts_nil) (fun _ _ _ _ _ => (pe_cal ih hr rfl passL (pa_cons (pv 2) (pa_cons (pv 3) pa_nil))))) pa_nil)))))))
      pss_nil)
      (pss_cons (ps_if (PW.pt (pw_or (pt_cmpR op_isN (pv 1) pe_non (nomark _)) (pw_or1 (pt_cmpR op_isN (pv 0) pe_non (nomark _)))))
      (pss_one (ps_ret (pe_and (pe_cmpR op_isN (pv 0) pe_non (nomark _)) (pe_one (pe_cmpR op_isN (pv 1) pe_non (nomark _))))))
      pss_nil)
      (pss_cons (ps_if (PW.pt (pw_or (pt_cmpR op_ne (pe_callB call_isi (by rfl) T.f_isinstance (by decide +kernel) (pa_cons (pv 0) (pa_cons (pe_bltn (v := .ty "bool") (by rfl) T.f_bool (by decide +kernel) rfl) pa_nil))) (pe_callB call_isi (by rfl) T.f_isinstance (by decide +kernel) (pa_cons (pv 1) (pa_cons (pe_bltn (v := .ty "bool") (by rfl) T.f_bool (by decide +kernel) rfl) pa_nil))) (nomark _)) (pw_or1 (pt_cmpR op_ne (pe_callB call_isi (by rfl) T.f_isinstance (by decide +kernel) (pa_cons (pv 0) (pa_cons (pe_bltn (v := .ty "int") (by rfl) T.f_int (by decide +kernel) rfl) pa_nil))) (pe_callB call_isi (by rfl) T.f_isinstance (by decide +kernel) (pa_cons (pv 1) (pa_cons (pe_bltn (v := .ty "int") (by rfl) T.f_int (by decide +kernel) rfl) pa_nil))) (nomark _)))))
      (pss_one (ps_ret pe_bl))
      pss_nil)
      (pss_one (ps_ret (pe_and (pe_cmpR op_eq (pe_callB call_isi (by rfl) T.f_isinstance (by decide +kernel) (pa_cons (pv 0) (pa_cons (pe_bltn (v := .ty "str") (by rfl) T.f_str (by decide +kernel) rfl) pa_nil))) (pe_callB call_isi (by rfl) T.f_isinstance (by decide +kernel) (pa_cons (pv 1) (pa_cons (pe_bltn (v := .ty "str") (by rfl) T.f_str (by decide +kernel) rfl) pa_nil))) (nomark _)) (pe_one (pe_cmpR op_eq (pv 0) (pv 1) (nomark _))))))))), ?_⟩
    simp only [tSeq, tDrop, tVar, tC, tCall, tCons, tNil, tFld, sFld, sDPut, tDGet, tRet, tRetN, tIfS, tTest, tB, tNot, tAnd, tOr, tOp, tUn, rI0, rI, tNext, tDIn, tDNotIn, tDNewK, tIf, tAndV, tOrV, tNotV, tAsg, gName, gCons, gNil, gTup, tPar, tTup, tLst, tMeth, tCB, rEq, rNe, tBM, rAppend, tBM0, tChain, rIxL, rIxT, rIxS, rIx, L2.start, cxK, cxW, kV_inr, List.map_cons, List.map_nil, List.length_cons, List.length_nil, List.replicate, List.cons_append, List.nil_append, List.append_nil, List.getElem?_cons_zero, List.getElem?_cons_succ, List.set_cons_zero, List.set_cons_succ, Option.some.injEq, V.ref.injEq, V.str.injEq, V.int.injEq, V.bl.injEq, exists_eq, exists_eq', exists_eq_left, exists_eq_left', exists_and_left, exists_and_right, List.cons.injEq, and_true, true_and, and_assoc]
    refine ⟨by decide, fun p hp => ?_⟩
    have sp := Same.up (o := .tup [V.ty "list", V.ty "tuple"]) hp
    have hp2 : (upd H p (.tup [V.ty "list", V.ty "tuple"])) p = some (.tup [V.ty "list", V.ty "tuple"]) := upd_same
    have du2 := du.keep (Keep.of sp)
    have dv2 := dv.keep (Keep.of sp)
    generalize upd H p (.tup [V.ty "list", V.ty "tuple"]) = H2 at *
    replace k : ∀ H', Same H2 H' → Q (.bl true) H' := fun H' s' => k H' (sp.trans s')
    cases d with
    | non => exact df.elim
    | bl b => exact df.elim
    | str z =>
      cases DA.str_iff.mp dv
      cases DA.str_iff.mp du
      refine isiT_q (b := false) (c := false) (.base (.str z)) hp2 (by decide +kernel) (by decide +kernel) ⟨false, rfl, iteF ?_⟩
      refine iteF (iteF ?_)
      refine isi_q (.base (.str z)) (b := false) (by decide +kernel) (isi_q (.base (.str z)) (b := false) (by decide +kernel) ⟨rfl, iteF ?_⟩)
      refine isi_q (.base (.str z)) (b := false) (by decide +kernel) (isi_q (.base (.str z)) (b := false) (by decide +kernel) ⟨rfl, iteF ?_⟩)
      refine isi_q (.base (.str z)) (b := true) (by decide +kernel) (isi_q (.base (.str z)) (b := true) (by decide +kernel) ⟨rfl, iteT ?_⟩)
      rw [decide_eq_true rfl]
      exact ⟨rfl, k H2 (Same.refl H2)⟩
    | int i =>
      cases DA.int_iff.mp dv
      cases DA.int_iff.mp du
      refine isiT_q (b := false) (c := false) (.base (.int i)) hp2 (by decide +kernel) (by decide +kernel) ⟨false, rfl, iteF ?_⟩
      refine iteF (iteF ?_)
      refine isi_q (.base (.int i)) (b := false) (by decide +kernel) (isi_q (.base (.int i)) (b := false) (by decide +kernel) ⟨rfl, iteF ?_⟩)
      refine isi_q (.base (.int i)) (b := true) (by decide +kernel) (isi_q (.base (.int i)) (b := true) (by decide +kernel) ⟨rfl, iteF ?_⟩)
      refine isi_q (.base (.int i)) (b := false) (by decide +kernel) (isi_q (.base (.int i)) (b := false) (by decide +kernel) ⟨rfl, iteT ?_⟩)
      rw [decide_eq_true rfl]
      exact ⟨rfl, k H2 (Same.refl H2)⟩
    | lst ds =>
      obtain ⟨a, xs, rfl, _, ha, da⟩ := DA.lst_iff.mp dv2
      obtain ⟨b, ys, rfl, _, hb, db⟩ := DA.lst_iff.mp du2
      have ta : TyX K H2 (.ref a) (.type "list") := .base (.lst ha)
      have tb : TyX K H2 (.ref b) (.type "list") := .base (.lst hb)
      refine isiT_q (b := true) (c := false) tb hp2 (by decide +kernel) (by decide +kernel) ⟨true, rfl, iteT ?_⟩
      refine isi_q ta (b := true) (by decide +kernel) (isi_q tb (b := true) (by decide +kernel) ⟨rfl, iteF ?_⟩)
      refine isi_q ta (b := false) (by decide +kernel) (isi_q tb (b := false) (by decide +kernel) ⟨rfl, iteF ?_⟩)
      refine ⟨a, rfl, xs, .inl (.inl (.inl ha)), b, rfl, ys, .inl (.inl (.inl hb)), rfl, ?_⟩
      have la := da.length
      have lb := db.length
      rw [if_pos (decide_eq_true (by rw [la, lb]))]
      exact same_lc da db df.1 df.2 (.inl ⟨ha, hb⟩) k
    | tup ds =>
      obtain ⟨a, xs, rfl, _, ha, da⟩ := DA.tup_iff.mp dv2
      obtain ⟨b, ys, rfl, _, hb, db⟩ := DA.tup_iff.mp du2
      have ta : TyX K H2 (.ref a) (.type "tuple") := .base (.tup ha)
      have tb : TyX K H2 (.ref b) (.type "tuple") := .base (.tup hb)
      refine isiT_q (b := false) (c := true) tb hp2 (by decide +kernel) (by decide +kernel) ⟨true, rfl, iteT ?_⟩
      refine isi_q ta (b := false) (by decide +kernel) (isi_q tb (b := false) (by decide +kernel) ⟨rfl, iteF ?_⟩)
      refine isi_q ta (b := true) (by decide +kernel) (isi_q tb (b := true) (by decide +kernel) ⟨rfl, iteF ?_⟩)
      refine ⟨a, rfl, xs, .inr (.inl (.inl ha)), b, rfl, ys, .inr (.inl (.inl hb)), rfl, ?_⟩
      have la := da.length
      have lb := db.length
      rw [if_pos (decide_eq_true (by rw [la, lb]))]
      exact same_lc da db df.1 df.2 (.inr ⟨ha, hb⟩) k
end
end K51


set_option Elab.async false
set_option linter.all false
set_option maxRecDepth 100000
set_option maxHeartbeats 4000000
namespace K51
open PySem PySem.Spec PyProof.Rows L2 LamX NdefX
/-! ### a lambda: its words, its cells, its code object, its default -/
structure LA where
  qual : Str
  params : Arguments
  body : Expr
  scope : Scope
  cl : List (Str × Addr)
  c : Addr
  dV : Value
abbrev LA.fd (F : LA) (doc pm ctv : Value) : FuncData := PySem.W.kdv_fn "<lambda>" F.qual F.params (.expr F.body) F.scope F.cl F.dV doc pm (.ref F.c) ctv
abbrev LA.nf (F : LA) : NF := ⟨"<lambda>", F.qual, F.params, [], F.scope, F.cl, F.c⟩
/-- the object at f is the lambda F -/
def LamO (f : Addr) (F : LA) : HO := .ext fun h => ∃ (od : Option Addr) (sl : Array (Option Value)) (doc pm ctv : Value), h.get? f = some (⟨.type "function", od, .func (F.fd doc pm ctv), sl⟩ : Obj)
theorem lamO_at {P : Program} {w : World} {H : Hp} {h : Heap} {f : Addr} {F : LA} (hok : HOk P w H h) (e : H f = some (LamO f F)) : ∃ (od : Option Addr) (sl : Array (Option Value)) (doc pm ctv : Value), h.get? f = some (⟨.type "function", od, .func (F.fd doc pm ctv), sl⟩ : Obj) := (hok f _ e).1
section
variable {X : Cx} {pins : List (Addr × Obj)} {σ : L2.St} {H : Hp} {s : Shared}
theorem track_lam {F : LA} {h' : Heap} {tk : Nat} {doc pm ctv : Value} (I : Inv X pins σ H { s with heap := h', toks := tk }) :
    Inv X pins σ (upd H h'.objs.size (LamO h'.objs.size F)) { s with heap := h'.push { cls := .type "function", data := .func (F.fd doc pm ctv) }, toks := tk } :=
  I.laid (a := h'.objs.size) (t' := tk) (fun b u e => Heap.get?_push_of_some _ e) (Nat.le_refl _)
    ⟨⟨_, _, doc, pm, ctv, Heap.get?_push_size _ rfl⟩, ⟨_, Heap.get?_push_size _ rfl⟩, fun h1 h2 ⟨od, sl, d, p, t, z⟩ st => ⟨od, sl, d, p, t, st _ z⟩⟩
/-- it is made: the table at P may grow, all else that was tracked stands -/
theorem lam_made {c P : Addr} {q : Str} {params : Arguments} {body : Expr} {scope : Scope} {pos : Pos} {line : Nat} {dV : Value} {E : Value → Shared → Prop} {Q : Value → Shared → Prop} (I : Inv X pins σ H s) (TB : TabB X.base X.mg c P) (hcode : X.env.code = .ref c)
    (hq : X.env.qual ++ "<lambda>" = q) (hT : TabS H P q) (hfree : ∀ y ∈ scope.names, y.2 = .free → ∃ c, X.env.cells.lookup y.1 = some c)
    (h : ∀ (f c' : Addr) (H1 : Hp) (s' : Shared), Inv X pins σ H1 s' → Keep [P] H H1 → TabS H1 P q → H f = none → H1 f = some (LamO f ⟨q, params, body, scope, cloFrom X.env.cells scope.names [], c', dV⟩) → H1 c' = some (CodeO c' q) → Q (.ref f) s') :
    wpAny (model X.prog X.w) X.A (makeTail "<lambda>" (X.env.qual ++ "<lambda>") params (.expr body) scope X.env dV .none none pos line) Q E s := by
  obtain ⟨ps, hP, ht, ha⟩ := hT
  have hbP : s.heap.BuiltinsAt X.mg P := TB.bm.keeps I.bk
  have hgP : s.heap.get? P = some { cls := .none, data := .fields ps } := I.hok P _ hP
  have hgl := I.mod.glob.keeps I.bk
  have hcd := TB.code.keeps I.bk
  rw [hq]
  cases hc : codeAmong pos ps.toList with
  | some cv =>
    obtain ⟨c', e, hco⟩ := ha pos cv hc
    subst e
    refine PySem.W.kdv_makeTailHit (mg := X.mg) (closure_ok hfree) I.ok.glob hgl hcode hcd hgP ht hc hbP fun ctv doc h' tk hx hsz => ?_
    have J : Inv X pins σ H { s with heap := h', toks := tk } := I.kept hx
    have nF : H h'.objs.size = none := J.hok.fresh (Nat.le_refl _)
    have J2 := track_lam (F := ⟨q, params, body, scope, cloFrom X.env.cells scope.names [], c', dV⟩) (doc := doc) (pm := (X.mg "__name__").getD .none) (ctv := ctv) J
    have sm : Same H (upd H h'.objs.size (LamO h'.objs.size ⟨q, params, body, scope, cloFrom X.env.cells scope.names [], c', dV⟩)) := Same.up nF
    exact h _ c' _ _ J2 (Keep.of sm) (TabS.ext ⟨ps, hP, ht, ha⟩ sm) nF upd_same (sm _ _ hco)
  | none =>
    refine PySem.W.kdv_makeTail (mg := X.mg) (closure_ok hfree) I.ok.glob hgl hcode hcd hgP ht hc TB.gP hbP fun c' ctv doc h' tk hx hge hlt hrec htb => ?_
    obtain ⟨c2, oc, vs, t, e2, hoc, hd, hv⟩ := hrec
    cases e2
    have nC : H c' = none := I.hok.fresh hge
    have J := inv_table (t' := tk) (more := #[rawInt pos.line, rawInt pos.col, .ref c']) (h' := h') I hP (fun b o hb e => hx b o hb e) htb hge ⟨oc, vs, t, hoc, hd, hv⟩
    obtain ⟨H2, eH⟩ : ∃ H2, H2 = upd (upd H P (.tbl (ps ++ #[rawInt pos.line, rawInt pos.col, .ref c']))) c' (CodeO c' q) := ⟨_, rfl⟩
    rw [← eH] at J
    have k2 : Keep [P] H H2 := fun b o n e => by
      rw [eH, upd_ne (ne_of_none e nC), upd_ne (fun z => n (by rw [z]; exact List.mem_singleton.mpr rfl))]
      exact e
    have cC : H2 c' = some (CodeO c' q) := by rw [eH]; exact upd_same
    have cP : H2 P = some (.tbl (ps ++ #[rawInt pos.line, rawInt pos.col, .ref c'])) := by rw [eH, upd_ne (ne_of_none hP nC)]; exact upd_same
    have old : ∀ d, H d = some (CodeO d q) → H2 d = some (CodeO d q) := fun d e => k2 d _ (fun z => by
      rw [List.mem_singleton.mp z, hP] at e
      exact codeO_ne ps (Option.some.inj e).symm) e
    have T2 : TabS H2 P q := by
      have eL : (ps ++ #[rawInt pos.line, rawInt pos.col, .ref c']).toList = ps.toList ++ [rawInt pos.line, rawInt pos.col, .ref c'] := by simp
      refine ⟨_, cP, by rw [eL]; exact PySem.TriplesOk_snoc _ _ _ _ ht, fun p' cv hcv => ?_⟩
      rw [eL] at hcv
      rcases among_app _ ht hcv with z | z
      · obtain ⟨c0, e1, e2⟩ := ha p' cv z
        exact ⟨c0, e1, old _ e2⟩
      · exact ⟨c', z, cC⟩
    have nF : H2 h'.objs.size = none := J.hok.fresh (Nat.le_refl _)
    have nF0 : H h'.objs.size = none := I.hok.fresh (Nat.le_trans hge (Nat.le_of_lt hlt))
    have J2 := track_lam (F := ⟨q, params, body, scope, cloFrom X.env.cells scope.names [], c', dV⟩) (doc := doc) (pm := (X.mg "__name__").getD .none) (ctv := ctv) J
    have sm : Same H2 (upd H2 h'.objs.size (LamO h'.objs.size ⟨q, params, body, scope, cloFrom X.env.cells scope.names [], c', dV⟩)) := Same.up nF
    exact h _ c' _ _ J2 (k2.trans (Keep.of sm)) (T2.ext sm) nF0 upd_same (sm _ _ cC)
end
/-- lambda: body; the table at P, the codes' name q -/
def tLamP (P : Addr) (q : Str) (mk : Addr → LA) : TE := fun σ H Q => TabS H P q ∧ ∀ (f c' : Addr) (H1 : Hp), Keep [P] H H1 → TabS H1 P q → H f = none → H1 f = some (LamO f (mk c')) → H1 c' = some (CodeO c' q) → Q (.ref f) H1
/-- lambda a=e: body -/
def tLamD (P : Addr) (q : Str) (td : TE) (mk : Addr → Addr → LA) : TE := fun σ H Q => td σ H fun v H0 => ∀ T, H0 T = none → TabS (upd H0 T (.tup [v])) P q ∧ ∀ (f c' : Addr) (H1 : Hp), Keep [P] (upd H0 T (.tup [v])) H1 → TabS H1 P q → (upd H0 T (.tup [v])) f = none → H1 f = some (LamO f (mk T c')) → H1 c' = some (CodeO c' q) → Q (.ref f) H1
section
variable {X : Cx} {c P : Addr} {q : Str} {params : Arguments} {body : Expr} {scope : Scope} {pos : Pos}
theorem pe_lamP (TB : TabB X.base X.mg c P) (hcode : X.env.code = .ref c) (hq : X.env.qual ++ "<lambda>" = q) (hdef : defaultsOf params X.env = ([], []))
    (hfree : ∀ y ∈ scope.names, y.2 = .free → X.env.scope.names.lookup y.1 = some .cell ∨ X.env.scope.names.lookup y.1 = some .free) :
    PE X (.Lambda params body scope pos) (tLamP P q fun c' => ⟨q, params, body, scope, cloFrom X.env.cells scope.names [], c', .none⟩) := by
  refine ⟨fun pins s σ H Q I h => PySem.W.kla_eval hdef ?_⟩
  rw [makeFunction_eq]
  simp only [List.zip_nil_right, List.filterMap_nil, List.isEmpty_nil, if_true, pure_bind]
  exact lam_made I TB hcode hq h.1 (fun y hy e => (hfree y hy e).elim (fun z => I.ok.has _ (.inl z)) fun z => I.ok.has _ (.inr z)) fun f c' H1 s' J k t nf hf hc => ⟨.ref f, H1, J, rfl, h.2 f c' H1 k t nf hf hc⟩
theorem pe_lamD {e : Expr} {td : TE} (TB : TabB X.base X.mg c P) (hcode : X.env.code = .ref c) (hq : X.env.qual ++ "<lambda>" = q) (hde : params.defaults = [e]) (hk0 : params.kw_defaults = []) (he : PE X e td)
    (hfree : ∀ y ∈ scope.names, y.2 = .free → X.env.scope.names.lookup y.1 = some .cell ∨ X.env.scope.names.lookup y.1 = some .free) :
    PE X (.Lambda params body scope pos) (tLamD P q td fun T c' => ⟨q, params, body, scope, cloFrom X.env.cells scope.names [], c', .ref T⟩) := by
  refine ⟨fun pins s σ H Q I h => PySem.W.kdv_lam (by rw [hde]; rfl) hk0 ?_⟩
  rw [hde]
  refine PySem.W.kdv_all1 (thn (he.run pins s σ H _ I h) fun u s1 ⟨v, H0, I0, rv, h0⟩ => PySem.W.kdv_all0 ?_)
  rw [makeFunction_eq]
  simp only [List.zip_nil_right, List.filterMap_nil, List.isEmpty_nil, if_true, pure_bind, List.isEmpty_cons, Bool.false_eq_true, if_false]
  refine wpAny_bind (wpAny_newTextTuple ?_)
  have nT : H0 s1.heap.objs.size = none := I0.hok.fresh (Nat.le_refl _)
  obtain ⟨hT, h1⟩ := h0 _ nT
  have J : Inv X pins σ (upd H0 s1.heap.objs.size (.tup [v])) { s1 with heap := s1.heap.push { cls := .type "tuple", data := .seq [u].toArray } } :=
    I0.laid (t' := s1.toks) (fun b o eb => Heap.get?_push_of_some _ eb) (Nat.le_refl _) ⟨by show 1 ≤ sizeLine; decide, [u], .cons rv .nil, ⟨_, Heap.get?_push_size _ rfl, rfl, _, rfl⟩⟩
  exact lam_made J TB hcode hq hT (fun y hy e => (hfree y hy e).elim (fun z => J.ok.has _ (.inl z)) fun z => J.ok.has _ (.inr z)) fun f c' H1 s' J k t nf hf hc => ⟨.ref f, H1, J, rfl, h1 f c' H1 k t nf hf hc⟩
end
/-! ### what an asked function does -/
def AskOk (P : Program) (w : World) (K : PySem.W.Frag) (mg : Str → Option Value) (base : Heap) (k : Nat) (f : Addr) (F : LA) (fr : List Str) (ws : List (Option V)) (tl : XK → Hp → VK → Prop) : Prop :=
  ∀ (A : Around) (outer : List Env) (s : Shared) (H : Hp) (Q : VK) (E : XK), Room k A → Env0 P w K mg base A outer s H → H f = some (LamO f F) → H F.c = some (CodeO F.c F.qual) → CellsAt F.cl fr ws s.heap H → tl E H Q →
    codeAny (model P w) A (.call (.ref f) ⟨[], []⟩) (CR (L2.CX P w) outer P w H s Q E) s
/-- THE RULE: by its body -/
theorem ask_of {P : Program} {w : World} {K : PySem.W.Frag} {mg : Str → Option Value} {base : Heap} {k : Nat} {f : Addr} {F : LA} {N ps fr : List Str} {ws : List (Option V)} {vs : List V} {cond : Hp → Prop} {tb : XK → TE} (S : NScope N ps fr F.scope) (hl : vs.length = ps.length)
    (hb : ∀ (doc pm ctv : Value) (s : Shared) (H : Hp), HOk P w H s.heap → cond H → ∃ us, Vals vs us ∧ BindsTo s (F.fd doc pm ctv) ⟨[], []⟩ (ps.zip us))
    (hbody : ∀ (A : Around) (outer : List Env) (s : Shared) (H : Hp) (E : XK), Room k (A.deeper (envF F.nf f s.heap.objs.size)) → PE (ncx (L2.CX P w) P w K mg base N F.nf f A outer s H E) F.body (tb E)) :
    AskOk P w K mg base (k + 1) f F fr ws fun E H Q => cond H ∧ tb E (startF N vs ws) H Q := by
  intro A outer s H Q E hr e0 hf hc C h
  have lim : s.heap.NoLimit := e0.mod.nolimit.keeps fun b o e => (e0.bs b o e).1
  obtain ⟨od, sl, doc, pm, ctv, ho⟩ := lamO_at e0.hok hf
  obtain ⟨us, r, bnd⟩ := hb doc pm ctv s H e0.hok h.1
  refine PySem.W.kla_callFunE hr.depth ho rfl S.co S.gen rfl (codeO_at e0.hok hc) (bnd _ _ _ _ ?_)
  refine wpAny_newFunctionEnv S.nocell (fun ⟨n, _⟩ hy => S.par n (List.of_mem_zip hy).1) (fun h₁ hns hsb => ⟨lim.fresh _ hsb, ?_⟩) S.kind
  show codeAny _ _ (.expr F.body (envF F.nf f s.heap.objs.size)) _ _
  have kp : ∀ b o, s.heap.get? b = some o → h₁.get? b = some o := fun b o e => hsb.extBut b o (Nat.ne_of_lt (Heap.lt_size e)) (Heap.get?_push_of_some _ e)
  have I : Inv (ncx (L2.CX P w) P w K mg base N F.nf f A outer s H E) [] (startF N vs ws) H { s with heap := h₁, toks := s.toks + (ps.zip us).length } := inv_startN S hr.hd e0 hl r C hns kp
  refine PySem.W.kla_codeExpr (wpAny_mono ((hbody A outer s H E (hr.deeper _)).run [] _ _ H Q I h.2) (fun v s' hq => ?_) fun e s' hq => hq)
  obtain ⟨w', H', J', rv, q⟩ := hq
  exact ⟨w', H', J'.os, J'.bare, J'.base, J'.hok, rv, q⟩
/-! ### cells later -/
theorem cells_later {X : Cx} {pins : List (Addr × Obj)} {σ : L2.St} {H : Hp} {s : Shared} {cl : List (Str × Addr)} {fr : List Str} {ws : List (Option V)} (C : CellsAt cl fr ws X.s_0.heap X.H_0) (hx : ∀ y c, cl.lookup y = some c → c ∉ X.ex) (I : Inv X pins σ H s) : CellsAt cl fr ws s.heap H := by
  have kp : ∀ y c, cl.lookup y = some c → ∀ v, X.s_0.heap.IsCell c v → s.heap.IsCell c v := fun y c e v ⟨o, ho, hd⟩ => by
    obtain ⟨sl, z⟩ := I.base.any ho (C.all y c e).1 (hx y c e)
    exact ⟨_, z, hd⟩
  refine ⟨C.len, fun y c e => ?_, C.inj, fun i y e => ?_⟩
  · obtain ⟨n, v, z⟩ := C.all y c e
    refine ⟨?_, v, kp y c e v z⟩
    obtain ⟨o, ho, _⟩ := z
    exact I.base.free c o ho n (hx y c e)
  · obtain ⟨c, hc, hv⟩ := C.has i y e
    exact ⟨c, hc, fun v ev => by
      obtain ⟨u, r, z⟩ := hv v ev
      exact ⟨u, r, kp y c hc _ z⟩⟩
/-! ### a() where a holds such a function -/
section
variable {X : Cx}
theorem ret_of {pins : List (Addr × Obj)} {σ : L2.St} {H : Hp} {s : Shared} {Q : VK} {E : XK} {f : Addr} {us : List Value} (hx : ∀ e s', L2.CX X.prog X.w X.stack H s E e s' → X.xe e s') (I : Inv X pins σ H s) (rc : codeAny (model X.prog X.w) X.A (.call (.ref f) ⟨us, []⟩) (CR (L2.CX X.prog X.w) X.stack X.prog X.w H s Q E) s) :
    wpAny (model X.prog X.w) X.A (call (.ref f) us) (EP X pins σ Q) X.xe s := by
  refine wpAny_call (codeAny_mono rc fun r s' hq => ?_)
  cases r with
  | error e => exact hx e s' hq
  | ok fl =>
    cases fl with
    | ret u => exact I.after hq
    | next => exact False.elim hq
    | brk => exact False.elim hq
    | cont => exact False.elim hq
theorem pe_ask {k i : Nat} {a : Str} {f : Addr} {F : LA} {fr : List Str} {ws : List (Option V)} {tl : XK → Hp → VK → Prop} {E : XK} {p1 p2 : Pos} {σ0 : L2.St} (ask : AskOk X.prog X.w X.K X.mg X.base k f F fr ws tl) (hr : Room k X.A) (hx : ∀ pins H s e s', Inv X pins σ0 H s → L2.CX X.prog X.w X.stack H s E e s' → X.xe e s') (C : CellsAt F.cl fr ws X.s_0.heap X.H_0) (hex : X.ex = [])
    (hN : X.N[i]? = some a) (hv : Vis X.env.scope a) (hd : (a == ("__debug__" : Str)) = false := by decide) (hcd : (a == ("__classdict__" : Str)) = false := by decide) :
    PE X (.Call (.Name a p1) [] [] p2) (fun σ H Q => σ = σ0 ∧ σ[i]? = some (some (.ref f)) ∧ H f = some (LamO f F) ∧ H F.c = some (CodeO F.c F.qual) ∧ tl E H Q) := by
  refine ⟨fun pins s σ H Q I h => ?_⟩
  obtain ⟨rfl, hs, hf, hc, ht⟩ := h
  refine wpAny_Call_Name_kw (thn ((pe_var (pos := p1) hN hv hd hcd).run pins s σ H (fun v H1 => v = .ref f ∧ H1 = H) I ⟨.ref f, hs, rfl, rfl⟩) fun u s1 ⟨v, H1, I1, r1, q1⟩ => ?_)
  obtain ⟨ev, eH⟩ := q1
  subst ev
  rw [eH] at I1
  obtain rfl : u = Value.ref f := r1
  obtain ⟨od, sl, doc, pm, ctv, ho⟩ := lamO_at I1.hok hf
  refine PySem.W.callWith_F0 ⟨_, _, _, _, ho⟩ ?_
  exact ret_of (us := []) (fun e s' c => hx pins H s1 e s' I1 c) I1 (ask X.A X.stack s1 H Q E hr I1.env0 hf hc (cells_later C (fun _ _ _ => by rw [hex]; simp) I1) ht)
end
/-! ### a def with one parameter, its promise told of the very state -/
abbrev SpS := Shared → V → Hp → VK → Prop
def RunS (P : Program) (w : World) (K : PySem.W.Frag) (mg : Str → Option Value) (base : Heap) (k : Nat) (x : Str) (sp : SpS) : Prop :=
  ∃ g : Addr, mg x = some (.ref g) ∧ PySem.W.keepIn K (.ref g) = true ∧ ∀ (A : Around) (outer : List Env) (s : Shared) (H : Hp) (v : V) (u : Value) (Q : VK), Room k A → Env0 P w K mg base A outer s H → RelV v u → sp s v H Q →
    codeAny (model P w) A (.call (.ref g) ⟨[u], []⟩) (CR (L2.CX P w) outer P w H s Q E0) s
theorem runS_of {P : Program} {w : World} {K : PySem.W.Frag} {mg : Str → Option Value} {base : Heap} {x qual : Str} {params : Arguments} {body : List Stmt} {scope : Scope} {N : List Str} {a : Str} {k : Nat} {sp : SpS} {f : Addr} (d : ∃ fd, FunD K x qual params body scope [] [] f fd) (hm : mg x = some (.ref f)) (S : FnScope N [a] scope)
    (hb : Bnd0 x qual params body scope [a]) (B : ∀ (cdv : Value) (A : Around) (outer : List Env) (s : Shared) (H : Hp) (v : V) (Q : VK), Room k (A.deeper (envOfC qual scope s.heap.objs.size f cdv)) → sp s v H Q →
      ∃ t, PSs (cxOf (L2.CX P w) P w K mg base N qual scope f cdv A outer s H E0) body t ∧ t { nx := fun _ H' => Q .non H', rt := Q } (L2.start N [v]) H) : RunS P w K mg base (k + 1) x sp := by
  obtain ⟨fd, F⟩ := d
  have bb := F.bindsN hb
  obtain ⟨oc, od, dV, kV, doc, pm, an, cdv, ct, osl, rfl, lk, hcd, hD, hK⟩ := F.ex
  refine ⟨f, hm, F.kp, fun A outer s H v u Q hr e0 rv h => ?_⟩
  exact run_ofS (N := N) (ps := [a]) (us := [u]) (vs := [v]) lk hcd S hr e0 (bb s [u] (e0.mod.kin.keeps fun b o e => (e0.bs b o e).1) rfl) (.cons rv .nil) rfl fun hr' => B cdv A outer s H v Q hr' h
theorem pe_calS {X : Cx} {k : Nat} {x : Str} {sp : SpS} {e : Expr} {t : TE} {R : L2.St → V → Hp → VK → Prop} {p pos : Pos} (c : RunS X.prog X.w X.K X.mg X.base k x sp) (hr : Room k X.A) (hg : Gl X x) (he : PE X e t) (hR : ∀ pins σ H s v Q, Inv X pins σ H s → R σ v H Q → sp s v H Q)
    (hdb : (x == ("__debug__" : Str)) = false := by decide) (hst : starEach [e] X.env = (false, eval e X.env) :: starEach [] X.env := by rfl) (hpl : (backTo pos (starEach [] X.env)).any (·.1) = false := by rfl) :
    PE X (.Call (.Name x p) [e] [] pos) (fun σ H Q => t σ H fun v H1 => R σ v H1 Q) := by
  refine ⟨fun pins s σ H Q I h => ?_⟩
  obtain ⟨g, hm, hk, run⟩ := c
  refine wpAny_Call_Name_kw (ld_glob I hg hm ?_ hdb)
  refine PySem.W.callWith_K (h₀ := X.base) I.ok.mod.kin hk (thn ((pa_cons he pa_nil hst).run pos pins s σ H (fun vs H1 => match vs with | [v] => R σ v H1 Q | _ => False) I h) fun us s1 ⟨vs, H1, I1, r, q⟩ => ⟨I1.kIn, ?_⟩) hst hpl
  cases r with
  | nil => exact q.elim
  | cons r1 rr =>
    cases rr with
    | nil => exact ret_of (fun e s' c => passL pins σ H1 s1 e s' I1 c) I1 (run X.A X.stack s1 H1 _ _ Q hr I1.env0 r1 (hR pins σ H1 s1 _ Q I1 q))
    | cons _ _ => exact q.elim
end K51

set_option Elab.async false
set_option linter.all false
set_option maxRecDepth 100000
set_option maxHeartbeats 4000000
/-! ### isinstance of a caught refusal that has fields -/
namespace PySem.W
open PySem PySem.Spec PySem.Calls PyProof.Rows
section
variable {prog : Program} {w : World} {A : Around} {E : Value → Shared → Prop} {K : Frag} {e D : Addr} {oe : Obj} {od : Option Obj}
theorem k51_data {C : Addr} {od : Option Obj} {nm : Str} {at_ g : Value} (hc : (clsIn K C).isSome = true) (ha : findIn K (.ref C) nm = some (some at_)) (hg : specialIn K at_ "__get__" = some (some g)) (ht : takesIn K at_ = some true) : findObj K C od nm = some (.bind g at_) := by
  obtain ⟨cd, e⟩ := Option.isSome_iff_exists.mp hc
  unfold findObj
  rw [e, Option.bind_some, ha, Option.bind_some]
  simp [hg, ht]
theorem k51_class {Q : Option Value → Shared → Prop} {s : Shared} (C : L2.ExcC K D) (hK : K.In s.heap) (at_ : InstAt s.heap e oe D od) (q : Q (some (.ref D)) { s with toks := s.toks + 1 }) : wpAny (model prog w) A (getAttr? (.ref e) "__class__") Q E s := by
  obtain ⟨hgab, hgat, hexc, hdict, hcl, hget, htake, hmro⟩ := C
  have found : findObj K D od "__class__" = some (.bind (.builtin "getset_descriptor.__get__") (.builtin "object.__class__")) := k51_data (by obtain ⟨cd, z, _⟩ := any_some hdict; rw [z]; rfl) hcl hget htake
  obtain ⟨h0, gn, dr, tk, os⟩ := s
  have lType := at_.type (M := model prog w)
  have lFind := looks_findIn (M := model prog w) hK hgab
  have lAttr := looks_findIn (M := model prog w) hK hgat
  have lBind := looks_find (M := model prog w) hK at_ found
  have lSub : Looks (model prog w) h0 (isInstance (.ref e) (.type "BaseException")) true := lType.andThen (looks_subIn hK hexc)
  have n0 : (false && onTheHeap (Value.builtin "BaseException.__getattribute__")) = false := rfl
  have n2 : (Value.builtin "BaseException.__getattribute__" == Value.builtin "object.__getattribute__") = false := by decide +kernel
  have n1 : (onTheHeap (Value.ref D) && Value.builtin "BaseException.__getattribute__" == Value.builtin "object.__getattribute__") = false := by rw [n2]; rfl
  unfold getAttr? getAttrBy? getAttrBy
  refine wpAny_bind (wpAny_mkText (wpAny_bind (wpAny_attempt (wpAny_holding (wpAny_bind (lType.at (wpAny_bind (lFind.at ?_))))))))
  show wpAny _ _ (if (onTheHeap (Value.ref D) && Value.builtin "BaseException.__getattribute__" == Value.builtin "object.__getattribute__") = true then _ else _) _ _ _
  rw [n1, if_neg Bool.false_ne_true]
  unfold getAttrByItsOwn hookBefore
  refine wpAny_bind ?_
  rw [if_pos (show onTheHeap (Value.ref D) = true from rfl)]
  refine lAttr.at ?_
  refine wpAny_bind (wpAny_attempt (wpAny_holding ?_))
  unfold callGetattribute
  rw [n0, if_neg Bool.false_ne_true]
  unfold boundAndCalled
  rw [PySem.F.excAttr_ValueError.ga.bind (.ref e)]
  refine wpAny_bind (wpAny_pure ?_)
  show wpAny _ _ (call (.builtin "BaseException.__getattribute__") [.ref e, .str "__class__" tk]) _ _ _
  refine wpAny_call (codeAny_call_builtin PySem.F.excAttr_ValueError.ga.plain PySem.F.entry_bexc_ga ?_)
  refine @check_slot (model prog w) _ _ ⟨h0, gn, dr, tk + 1, os⟩ "BaseException.__getattribute__" "BaseException" "__getattribute__" (.ref e) [.str "__class__" tk] [] _ (by decide +kernel) (by decide +kernel) lSub (PySem.F.args_bexc_ga (.ref e) (.str "__class__" tk)) ?_
  unfold Builtin.«object.__getattribute__»
  refine wpAny_bind (wpAny_of_eq (a := ((Value.ref e : Value), [Value.str "__class__" tk])) (by first | rfl | (simp only [slotArgs]; rfl)) ?_)
  refine wpAny_bind (wpAny_pure (wpAny_bind (lType.at (wpAny_bind (lBind.at ?_)))))
  show wpAny _ _ (holding [Value.builtin "object.__class__"] (call (.builtin "getset_descriptor.__get__") [.builtin "object.__class__", .ref e, .ref D]) >>= ret) _ _ _
  refine wpAny_bind (wpAny_holding (wpAny_call (class_get (s := ⟨h0, gn, dr, tk + 1, os⟩) (ox := oe) (od := od) hK at_ hmro ?_)))
  refine wpAny_pure ?_
  show wpAny _ _ (handedOut (.ref D)) _ _ _
  rw [handedOut_of (v := .ref D) rfl]
  first
    | exact wpAny_pure (wpAny_pure q)
    | exact wpAny_pure q
    | exact wpAny_pure (wpAny_bind (wpAny_pure (wpAny_pure q)))
theorem k51_kitx (C : L2.ExcC K D) : KitX K (.ref e) (.ref D) (fun h => InstAt h e oe D od) where
  ty := fun _ _ _ at_ => at_.type
  it := fun _ _ hK _ => by
    obtain ⟨cd, z, _⟩ := any_some C.hd
    unfold clsIn at z
    split at z
    · rename_i ho
      intro A' Q' E' s' k q
      unfold isType loadHead
      exact wpAny_bind (wpAny_loadPart (k _ _ (hK _ _ ho)) (wpAny_pure q))
    · cases z
  ne := fun h tp dd its n sl hK htp => by
    obtain ⟨cd, z, _⟩ := any_some C.hd
    refine Bool.eq_false_iff.mpr fun q => ?_
    have e2 : D = tp := Value.ref.inj (beq_iff_eq.mp q)
    subst e2
    unfold clsIn at z
    split at z
    · rename_i ho
      have y := (hK _ _ ho).symm.trans htp
      cases y
    · cases z
  ca := fun hK at_ k => k51_class C hK at_ k
end
end PySem.W
namespace K51
open PySem PySem.Spec PyProof.Rows L2 LamX NdefX
/-- isinstance(e, c), e the refusal that the suite holds, its fields at d -/
def rIsO (K : PySem.W.Frag) (cls : Value) (a : Addr) (d : Option Addr) : List V → Hp → VK → Prop := fun xs H Q => ∃ (n : String) (C dd : Addr) (fs : List (Str × V)) (b : Bool), xs = [.ref a, .ty n] ∧ cls = .ref C ∧ ExcC K C ∧ d = some dd ∧ H dd = some (.xd fs) ∧ PySem.W.kitOne K (.ref C) (.type n) = some b ∧ Q (.bl b) H
theorem call_isO {X : Cx} {a : Addr} {oe : Obj} {cls : Value} {d : Option Addr} {pn : List (Addr × Obj)} (hz : Zc cls d oe) (hf : ∃ vs, oe.data = .fields vs) : CallR (X.suite a ((a, oe) :: pn)) (.builtin "isinstance") (rIsO X.K cls a d) := by
  intro pins s σ H xs us Q I r h
  obtain ⟨n, C, dd, fs, b, rfl, ec, eC, ed, hd, hk, q⟩ := h
  obtain ⟨u1, u2, rfl, r1, r2⟩ := vals2 r
  cases (show u1 = Value.ref a from r1)
  cases (show u2 = Value.type n from r2)
  subst ec ed
  obtain ⟨ha, _⟩ := I.pin (a, oe) (List.mem_append_left _ List.mem_cons_self)
  obtain ⟨vs, hv⟩ := hf
  obtain ⟨mA, hns, hr⟩ := (show ObjOk X.prog X.w H s.heap dd (.xd fs) from I.hok dd _ hd)
  obtain ⟨od, ho, hl⟩ := lookIn_ns hns
  have J : PySem.W.InstAt s.heap a oe C (some od) := ⟨ha, hz.1, by unfold PySem.W.notCls; rw [hv] <;> rfl, by rw [hz.2]; exact ho⟩
  exact PySem.W.kia_one (PySem.W.k51_kitx eC) I.kIn J hk (fun z => nomatch z) fun tk => ⟨.bl b, H, I.kept (t' := tk) fun _ _ z => z, rfl, q⟩
end K51

set_option Elab.async false
set_option linter.all false
set_option maxRecDepth 100000
set_option maxHeartbeats 4000000
namespace K51
open PySem PySem.Spec PyProof.Rows L2 LamX NdefX
/-- e.f in the suite, e the refusal, its fields at d -/
def tXfO (K : PySem.W.Frag) (a : Addr) (cls : Value) (d : Option Addr) (f : Str) (te : TE) : TE := fun σ H Q => te σ H fun x H1 => x = .ref a ∧ ∃ (C dd : Addr) (fs : List (Str × V)) (v : V), cls = .ref C ∧ XfC K C ∧ PySem.W.findIn K (.ref C) f = some none ∧ d = some dd ∧ H1 dd = some (.xd fs) ∧ fs.lookup f = some v ∧ Q v H1
theorem pe_xfO {X : Cx} {a : Addr} {oe : Obj} {cls : Value} {d : Option Addr} {pn : List (Addr × Obj)} {e : Expr} {te : TE} {pos : Pos} {n : Str} (hz : Zc cls d oe) (hf : ∃ vs, oe.data = .fields vs) (he : PE (X.suite a ((a, oe) :: pn)) e te)
    (hb : attributeBase e n X.env (eval e X.env) = eval e X.env := by rfl) : PE (X.suite a ((a, oe) :: pn)) (.Attribute e n pos) (tXfO X.K a cls d n te) := by
  refine ⟨fun pins s σ H Q I h => attr_of hb (thn (he.run pins s σ H _ I h) fun u s1 hh => ?_)⟩
  obtain ⟨x, H1, I1, rx, ex, C, dd, fs, v, ec, T, hno, ed, ea, l, q⟩ := hh
  subst ex ec ed
  obtain rfl : u = Value.ref a := rx
  obtain ⟨ha, _⟩ := I1.pin (a, oe) (List.mem_append_left _ List.mem_cons_self)
  obtain ⟨vs, hd⟩ := hf
  obtain ⟨mA, hns, hr⟩ := (show ObjOk X.prog X.w H1 s1.heap dd (.xd fs) from I1.hok dd _ ea)
  obtain ⟨od, ho, hl⟩ := lookIn_ns hns
  obtain ⟨u, hu, ru⟩ := RelO.some_of (v := v) (o := mA n) (l ▸ hr n)
  exact HandSPX.exc_get I1.kIn ⟨ha, hz.1, by unfold PySem.W.notCls; rw [hd] <;> rfl, by rw [hz.2]; exact ho⟩ T.ga T.gg T.exC (PySem.W.findObj_own T.hdC hno rfl (by rw [hl, hu])) (handed_of ru) ⟨v, H1, I1.tok _, ru, q⟩
/-- the try's body a() -/
def tTry (f : Addr) (F : LA) (tl : XK → Hp → VK → Prop) : WX → TS := fun W D σ H => ∃ Ech : XK, (∀ cls d H', Ech cls d H' → W cls d σ H') ∧ σ[0]? = some (some (.ref f)) ∧ H f = some (LamO f F) ∧ H F.c = some (CodeO F.c F.qual) ∧ tl Ech H fun _ H1 => D.nx σ H1
/-- the refusal told: its word -/
def Told (K : PySem.W.Frag) (ok : Str → Hp → Prop) : XK := fun cls d H' => ∃ C dd wd, cls = .ref C ∧ IsErr K C ∧ d = some dd ∧ H' dd = some (.xd (errFs wd (.int (-1)))) ∧ ok wd H'
def spRef (P : Program) (w : World) (K : PySem.W.Frag) (mg : Str → Option Value) (base : Heap) (k : Nat) : SpS := fun s v H Q => ∃ (f : Addr) (F : LA) (fr : List Str) (ws : List (Option V)) (tl : XK → Hp → VK → Prop), v = .ref f ∧ AskOk P w K mg base k f F fr ws tl ∧ H f = some (LamO f F) ∧ H F.c = some (CodeO F.c F.qual) ∧ CellsAt F.cl fr ws s.heap H ∧
  ∀ T0, H T0 = none → tl (Told K fun wd H' => ∀ T2 H'', Same H' H'' → H' T2 = none → H'' T2 = some (.tup [.str wd, .int (-1)]) → Q (.ref T2) H'') (upd H T0 (.tup [.str "let", .int (-1)])) fun _ H' => Q (.ref T0) H'
section
variable {P : Program} {w : World} {K : PySem.W.Frag} {mg : Str → Option Value} {base : Heap}
theorem cr_mono {outer : List Env} {H : Hp} {s : Shared} {Q Q' : VK} {E E' : XK} {r : Result} {s' : Shared} (hQ : ∀ v H', Q v H' → Q' v H') (hE : ∀ cls d H', E cls d H' → E' cls d H') (h : CR (L2.CX P w) outer P w H s Q E r s') : CR (L2.CX P w) outer P w H s Q' E' r s' := by
  cases r with
  | error e =>
    obtain ⟨a, B, H', cls, d, r1, r2, r3, r4, r5, r6, r7, r8⟩ := (show L2.CX P w outer H s E e s' from h)
    exact ⟨a, B, H', cls, d, r1, r2, r3, r4, r5, r6, r7, hE _ _ _ r8⟩
  | ok fl =>
    cases fl with
    | ret u =>
      obtain ⟨v, H', r1, r2, r3, r4, r5, r6⟩ := (show CE outer P w H s Q u s' from h)
      exact ⟨v, H', r1, r2, r3, r4, r5, hQ _ _ r6⟩
    | next => exact False.elim h
    | brk => exact False.elim h
    | cont => exact False.elim h
/-- less asked of the ends -/
def Less (tl : XK → Hp → VK → Prop) : XK → Hp → VK → Prop := fun E H Q => ∃ (E' : XK) (Q' : VK), (∀ cls d H', E' cls d H' → E cls d H') ∧ (∀ v H', Q' v H' → Q v H') ∧ tl E' H Q'
theorem AskOk.less {k : Nat} {f : Addr} {F : LA} {fr : List Str} {ws : List (Option V)} {tl : XK → Hp → VK → Prop} (a : AskOk P w K mg base k f F fr ws tl) : AskOk P w K mg base k f F fr ws (Less tl) := fun A outer s H Q E hr e0 hf hc C ⟨E', Q', hE, hQ, h⟩ =>
  codeAny_mono (a A outer s H Q' E' hr e0 hf hc C h) fun r s' q => cr_mono hQ hE q
abbrev N_L_refusal : List Str := ["_law_ask", "_law_found", "e"]
theorem sc_L_refusal : FnScope N_L_refusal ["_law_ask"] (defScope s_L_refusal) := ⟨rfl, rfl, rfl, by decide +kernel, rfl, by decide +kernel, by decide +kernel⟩
theorem b_L_refusal : Bnd0 d_L_refusal.name d_L_refusal.qual d_L_refusal.params d_L_refusal.body d_L_refusal.scope ["_law_ask"] := fun _ _ _ _ _ _ us hl => match us, hl with | [_], _ => rfl
theorem ok_L_refusal (T : TX w K mg) {k : Nat} : RunS P w K mg base (k + 1) "_law_refusal" (spRef P w K mg base k) := by
  refine runS_of T.fd_L_refusal T.g_L_refusal sc_L_refusal b_L_refusal (fun cdv A outer s H v Q hr h => ?_)
  obtain ⟨f, F, fr, ws, tl, rfl, ask, hf, hc, C, h⟩ := h
  have nd := sc_L_refusal.nd
  refine ⟨_, (pss_cons (ps_set (i := 1) nd rfl (Or.inl rfl) (pe_tup (pa_cons pe_str (pa_cons (pe_un un_neg pe_int) pa_nil))))
    (pss_cons (ps_try_as (i := 2) (c := .ref (He.ga K "LeakError")) (tb := tTry f F (Less tl)) rfl rfl nd rfl rfl ⟨rfl, by decide, .inl T.g_LeakError⟩ takes0
      (fun W pn xe tk _ => ⟨fun pins s' σ H' D I h' => by
        obtain ⟨Ech, hW, h1, h2, h3, h4⟩ := h'
        exact (pss_one (ps_expr (pe_ask (i := 0) (σ0 := σ) ask.less hr (fun pins H s e s' I c => tk e s' (XE.of_call I (fun cls d H' h => hW cls d H' h) c)) C rfl rfl (Or.inl rfl)))).run pins s' σ H' D I ⟨rfl, h1, h2, h3, h4⟩⟩)
      (fun a oe cls d pn hz hfl => (pss_cons (ps_set (i := 1) nd rfl (Or.inl rfl) (pe_tup (pa_cons pe_str (pa_cons (pe_un un_neg pe_int) pa_nil))))
        (pss_one (ps_if (PW.pt (pw_and (pt_val (pe_callB (call_isO hz hfl) (by rfl) T.f_isinstance (by decide +kernel) (pa_cons (pv 2) (pa_cons (pe_bltn (v := .ty "ValueError") (by rfl) T.f_ValueError (by decide +kernel) rfl) pa_nil)))) (pw_and1 (pt_not (pt_val (pe_callB (call_isO hz hfl) (by rfl) T.f_isinstance (by decide +kernel) (pa_cons (pv 2) (pa_cons (pe_bltn (v := .ty "LookupError") (by rfl) T.f_LookupError (by decide +kernel) rfl) pa_nil))))))))
          (pss_one (ps_set (i := 1) nd rfl (Or.inl rfl) (pe_tup (pa_cons (pe_xfO hz hfl (pv 2)) (pa_cons (pe_xfO hz hfl (pv 2)) pa_nil)))))
          pss_nil)))))
    (pss_one (ps_ret (pv 1))))), ?_⟩
  simp only [tSeq, tDrop, tVar, tC, tCall, tCons, tNil, tFld, sFld, sDPut, tDGet, tRet, tRetN, tIfS, tTest, tB, tNot, tAnd, tOr, tOp, tUn, rI0, rI, tNext, tDIn, tDNotIn, tDNewK, tIf, tAndV, tOrV, tNotV, tAsg, gName, gCons, gNil, gTup, tPar, tTup, tLst, tMeth, tCB, rEq, rNe, tBM, rAppend, tBM0, tChain, rIxL, rIxT, rIxS, rIx, L2.start, cxK, cxW, kV_inr, List.map_cons, List.map_nil, List.length_cons, List.length_nil, List.replicate, List.cons_append, List.nil_append, List.append_nil, List.getElem?_cons_zero, List.getElem?_cons_succ, List.set_cons_zero, List.set_cons_succ, Option.some.injEq, V.ref.injEq, V.str.injEq, V.int.injEq, V.bl.injEq, exists_eq, exists_eq', exists_eq_left, exists_eq_left', exists_and_left, exists_and_right, List.cons.injEq, and_true, true_and, and_assoc, Option.some.injEq]
  refine ⟨1, rfl, by decide, fun T0 hT0 => ?_⟩
  have s0 := Same.up (o := .tup [V.str "let", V.int (-1)]) hT0
  refine ⟨_, ?_, rfl, s0 _ _ hf, s0 _ _ hc, _, _, fun _ _ _ e => e, fun v H' q => ⟨_, rfl, q⟩, h T0 hT0⟩
  rintro cls d H' ⟨C', dd, wd, rfl, ie, rfl, hd, ok⟩
  refine ⟨true, ie.ex, fun _ a na => ?_, fun z => nomatch z⟩
  simp only [tSeq, tDrop, tVar, tC, tCall, tCons, tNil, tFld, sFld, sDPut, tDGet, tRet, tRetN, tIfS, tTest, tB, tNot, tAnd, tOr, tOp, tUn, rI0, rI, tNext, tDIn, tDNotIn, tDNewK, tIf, tAndV, tOrV, tNotV, tAsg, gName, gCons, gNil, gTup, tPar, tTup, tLst, tMeth, tCB, rEq, rNe, tBM, rAppend, tBM0, tChain, rIxL, rIxT, rIxS, rIx, L2.start, cxK, cxW, kV_inr, List.map_cons, List.map_nil, List.length_cons, List.length_nil, List.replicate, List.cons_append, List.nil_append, List.append_nil, List.getElem?_cons_zero, List.getElem?_cons_succ, List.set_cons_zero, List.set_cons_succ, Option.some.injEq, V.ref.injEq, V.str.injEq, V.int.injEq, V.bl.injEq, exists_eq, exists_eq', exists_eq_left, exists_eq_left', exists_and_left, exists_and_right, List.cons.injEq, and_true, true_and, and_assoc, Option.some.injEq, tXfO]
  refine ⟨1, rfl, by decide, fun T1 hT1 => ?_⟩
  have s1 := Same.up (o := .tup [V.str "odd", V.int (-1)]) hT1
  have hd1 := s1 _ _ hd
  refine ⟨_, C', dd, _, true, rfl, rfl, ie.f.ec, rfl, hd1, ie.f.ve, _, rfl, iteT ?_⟩
  refine ⟨_, C', dd, _, false, rfl, rfl, ie.f.ec, rfl, hd1, ie.f.le, _, rfl, iteT ?_⟩
  refine ⟨C', rfl, ie.f.xf, ie.nw, _, hd1, .str wd, rfl, C', rfl, ie.f.xf, ie.na, _, hd1, .int (-1), rfl, by decide, fun T2 hT2 => ?_⟩
  exact ok T2 _ (s1.trans (Same.up hT2)) (same_none s1 hT2) upd_same
/-- the word alone -/
def spRefW (P : Program) (w : World) (K : PySem.W.Frag) (mg : Str → Option Value) (base : Heap) (k : Nat) : SpS := fun s v H Q => ∃ (f : Addr) (F : LA) (fr : List Str) (ws : List (Option V)) (tl : XK → Hp → VK → Prop), v = .ref f ∧ AskOk P w K mg base k f F fr ws tl ∧ H f = some (LamO f F) ∧ H F.c = some (CodeO F.c F.qual) ∧ CellsAt F.cl fr ws s.heap H ∧
  ∀ T0, H T0 = none → tl (Told K fun wd H' => wd ≠ "let" ∧ PyData.strOk wd = true ∧ ∀ H'', Same H' H'' → Q (.str wd) H'') (upd H T0 (.tup [.str "let", .int (-1)])) fun _ H' => H' T0 = some (.tup [.str "let", .int (-1)]) ∧ ∀ H'', Same H' H'' → Q (.str "") H''
theorem eqv_let (a : Str) : PyData.eqv (.tuple [.str a, .int (-1)]) (.tuple [.str "let", .int (-1)]) = decide (a = "let") := by
  simp only [PyData.eqv, PyData.eqvAll]
  by_cases e : a = "let"
  · subst e
    decide +kernel
  · rw [decide_eq_false e, show (a == ("let" : Str)) = false from beq_eq_false_iff_ne.mpr e]
    rfl
abbrev N_L_refused_word : List Str := ["_law_ask", "_law_found"]
theorem sc_L_refused_word : FnScope N_L_refused_word ["_law_ask"] (defScope s_L_refused_word) := ⟨rfl, rfl, rfl, by decide +kernel, rfl, by decide +kernel, by decide +kernel⟩
theorem b_L_refused_word : Bnd0 d_L_refused_word.name d_L_refused_word.qual d_L_refused_word.params d_L_refused_word.body d_L_refused_word.scope ["_law_ask"] := fun _ _ _ _ _ _ us hl => match us, hl with | [_], _ => rfl
theorem ok_L_refused_word (T : TX w K mg) {k : Nat} : RunS P w K mg base (k + 2) "_law_refused_word" (spRefW P w K mg base k) := by
  refine runS_of T.fd_L_refused_word T.g_L_refused_word sc_L_refused_word b_L_refused_word (fun cdv A outer s H v Q hr h => ?_)
  obtain ⟨f, F, fr, ws, tl, rfl, ask, hf, hc, C, h⟩ := h
  have nd := sc_L_refused_word.nd
  have hR : ∀ pins σ H3 s' v Q', Inv (cxOf (L2.CX P w) P w K mg base N_L_refused_word d_L_refused_word.qual d_L_refused_word.scope (He.fAd K d_L_refused_word.at_) cdv A outer s H E0) pins σ H3 s' → (v = V.ref f ∧ H3 f = some (LamO f F) ∧ H3 F.c = some (CodeO F.c F.qual) ∧ ∀ T0, H3 T0 = none → Less tl (Told K fun wd H' => ∀ T2 H'', Same H' H'' → H' T2 = none → H'' T2 = some (.tup [.str wd, .int (-1)]) → Q' (.ref T2) H'') (upd H3 T0 (.tup [.str "let", .int (-1)])) fun _ H' => Q' (.ref T0) H') → spRef P w K mg base k s' v H3 Q' :=
    fun pins σ H3 s' v Q' I ⟨e, h1, h2, h3⟩ => ⟨f, F, fr, ws, _, e, ask.less, h1, h2, cells_later C (fun _ _ _ => List.not_mem_nil) I, h3⟩
  refine ⟨_, (pss_cons (ps_set (i := 1) nd rfl (Or.inl rfl) (pe_calS (ok_L_refusal T) hr rfl (pv 0) hR))
      (pss_one (ps_ret (pe_ifExp (pt_cmpR (op_eqD hr.units) (pv 1) (pe_tup (pa_cons pe_str (pa_cons (pe_un un_neg pe_int) pa_nil))) (nomark _)) pe_str (pe_ix ix_tup (pv 1) pe_int (fun _ _ => rfl)))))), ?_⟩
  simp only [tSeq, tDrop, tVar, tC, tCall, tCons, tNil, tFld, sFld, sDPut, tDGet, tRet, tRetN, tIfS, tTest, tB, tNot, tAnd, tOr, tOp, tUn, rI0, rI, tNext, tDIn, tDNotIn, tDNewK, tIf, tAndV, tOrV, tNotV, tAsg, gName, gCons, gNil, gTup, tPar, tTup, tLst, tMeth, tCB, rEq, rNe, tBM, rAppend, tBM0, tChain, rIxL, rIxT, rIxS, rIx, L2.start, cxK, cxW, kV_inr, List.map_cons, List.map_nil, List.length_cons, List.length_nil, List.replicate, List.cons_append, List.nil_append, List.append_nil, List.getElem?_cons_zero, List.getElem?_cons_succ, List.set_cons_zero, List.set_cons_succ, Option.some.injEq, V.ref.injEq, V.str.injEq, V.int.injEq, V.bl.injEq, exists_eq, exists_eq', exists_eq_left, exists_eq_left', exists_and_left, exists_and_right, List.cons.injEq, and_true, true_and, and_assoc, Option.some.injEq]
  refine ⟨hf, hc, fun T0 hT0 => ?_⟩
  have key : ∀ (T2 : Addr) (wd : Str) (H2 : Hp), PyData.strOk wd = true → H2 T2 = some (.tup [.str wd, .int (-1)]) → (∀ H3, Same H2 H3 → Q (.str (if decide (wd = "let") = true then "" else wd)) H3) → rU (fun i => V.int (-i)) (V.int 1) H2 fun x H1 => 0 + 1 + 1 ≤ sizeLine ∧ ∀ p : Addr, H1 p = none → rEqD K (V.ref T2) (V.ref p) (upd H1 p (HO.tup [V.str "let", x])) fun x H' =>
      ∃ k, x = V.bl k ∧ if k = true then Q (V.str "") H' else ∃ x, SqT K H' T2 x ∧ ∃ x_1, atI x 0 = some x_1 ∧ Q x_1 H' := fun T2 wd H2 so hT q => by
    refine ⟨1, rfl, by decide, fun p hp => ?_⟩
    have sp := Same.up (o := .tup [V.str "let", V.int (-1)]) hp
    refine ⟨.tuple [.str wd, .int (-1)], .tuple [.str "let", .int (-1)], .tup (.inl (.inl (sp _ _ hT))) (.cons (.str wd) (.cons (.int _) .nil)), .tup (.inl (.inl upd_same)) (.cons (.str _) (.cons (.int _) .nil)), by simp [SeqAt.shaped, PyData.canLay0, PyData.canLayAll0, PyData.depth, PyData.depthAll, so], by decide +kernel, _, rfl, ?_⟩
    rw [eqv_let]
    replace q := q _ sp
    cases e : decide (wd = ("let" : Str)) with
    | true =>
      rw [e, if_pos rfl] at q
      exact iteT q
    | false =>
      rw [e, if_neg Bool.false_ne_true] at q
      exact iteF ⟨_, .inl (.inl (sp _ _ hT)), _, at_of (j := 0) rfl rfl, q⟩
  refine ⟨_, _, ?_, ?_, h T0 hT0⟩
  · rintro cls d H' ⟨C', dd, wd, rfl, ie, rfl, hd, nw, so, ok⟩
    refine ⟨C', dd, wd, rfl, ie, rfl, hd, fun T2 H2 s2 _ hT2 => key T2 wd H2 so hT2 fun H3 s3 => ?_⟩
    rw [decide_eq_false nw]
    exact ok H3 (s2.trans s3)
  · rintro v H' ⟨h0, q⟩
    exact key T0 "let" H' (by decide +kernel) h0 fun H3 s3 => by rw [decide_eq_true rfl]; exact q H3 s3
end
end K51


set_option Elab.async false
set_option linter.all false
set_option maxRecDepth 100000
set_option maxHeartbeats 4000000
namespace K51
open PySem PySem.Spec PyProof.Rows L2
/-- no wish is long -/
def WOk (st : St) : Prop := ∀ p ∈ st.wishes, p.2.st.length ≤ 900 ∧ p.2.wd.length ≤ 900
def spStands (K : PySem.W.Frag) : Sp := fun vs H Q _ => ∃ (M : List Addr) (b pl : Addr) (n : Nat) (st : St) (p e1 e2 : Addr) (m1 m2 : List (Key × V)), vs = [.ref b, .ref p] ∧ LStA M H p e1 e2 m1 m2 st ∧ PB K (e1 :: e2 :: M) H b pl n st ∧ Trk M H ∧ Good st ∧ WOk st ∧ ∀ H', Same H H' → Q (.bl true) H'
theorem pb_same {K : PySem.W.Frag} {M : List Addr} {H H' : Hp} {b pl : Addr} {n : Nat} {st : St} (h : PB K M H b pl n st) (s : Same H H') : PB K M H' b pl n st := by
  obtain ⟨dx, ah, pp, v, xs, hb, hl, lx, p⟩ := h
  exact ⟨dx, ah, pp, v, xs, s _ _ hb, s _ _ hl, lx, p.keep (Keep.of s)⟩
theorem pb_keep {K : PySem.W.Frag} {M N : List Addr} {H H' : Hp} {b pl : Addr} {n : Nat} {st : St} (h : PB K M H b pl n st) (k : Keep N H H') (hN : ∀ a ∈ N, a ∈ M) (nb : b ∉ N) (nl : pl ∉ N) : PB K M H' b pl n st := by
  obtain ⟨dx, ah, pp, v, xs, hb, hl, lx, p⟩ := h
  exact ⟨dx, ah, pp, v, xs, k _ _ nb hb, k _ _ nl hl, lx, p.keep (k.sub hN)⟩
theorem pair_df (n : Nat) (l : List (Str × Str)) : ∀ d ∈ l.map pairD, DF (n + 2) d := fun d hd => by
  obtain ⟨q, _, rfl⟩ := List.mem_map.mp hd
  refine ⟨by simp, fun d hd => ?_⟩
  simp at hd
  rcases hd with rfl | rfl <;> trivial
theorem strs_df (n : Nat) (l : List Str) : ∀ d ∈ l.map D.str, DF (n + 1) d := fun d hd => by
  obtain ⟨q, _, rfl⟩ := List.mem_map.mp hd
  trivial
theorem act_df (n : Nat) (a : Act) : DF (n + 2) a.d := ⟨by cases a <;> simp [Act.ss], strs_df n _⟩
theorem mv_df (n : Nat) (l : List Mv) : ∀ d ∈ l.map Mv.d, DF (n + 3) d := fun d hd => by
  obtain ⟨q, _, rfl⟩ := List.mem_map.mp hd
  refine ⟨by simp, fun d hd => ?_⟩
  simp at hd
  rcases hd with rfl | rfl | rfl | rfl
  · trivial
  · trivial
  · exact act_df n q.a
  · trivial
theorem lab_df (L : Lab) (h1 : L.ms.length ≤ 900) (h2 : L.rs.length ≤ 900) (h3 : L.mv.length ≤ 900) : DF 7 (Lab.d L) := by
  refine ⟨by simp, fun d hd => ?_⟩
  simp at hd
  rcases hd with rfl | rfl | rfl
  · exact ⟨by rw [List.length_map]; omega, pair_df 3 _⟩
  · exact ⟨by rw [List.length_map]; omega, pair_df 3 _⟩
  · exact ⟨by rw [List.length_map]; omega, mv_df 2 _⟩
theorem wish_df (w : Wish) (h1 : w.st.length ≤ 900) (h2 : w.wd.length ≤ 900) : DF 7 (Wish.d w) := by
  refine ⟨by simp, fun d hd => ?_⟩
  simp at hd
  rcases hd with rfl | rfl
  · trivial
  · refine ⟨by simp, fun d hd => ?_⟩
    simp at hd
    rcases hd with rfl | rfl
    · exact ⟨by rw [List.length_map]; omega, pair_df 2 _⟩
    · exact ⟨by rw [List.length_map]; omega, pair_df 2 _⟩
section
variable {P : Program} {w : World} {K : PySem.W.Frag} {mg : Str → Option Value} {base : Heap}
abbrev N_L_stands_so : List Str := ["_law_bench", "_law_state", "_law_labs", "_law_wishes", "_law_name", "_law_told"]
theorem sc_L_stands_so : FnScope N_L_stands_so ["_law_bench", "_law_state"] (defScope s_L_stands_so) := ⟨rfl, rfl, rfl, by decide +kernel, rfl, by decide +kernel, by decide +kernel⟩
theorem b_L_stands_so : Bnd0 d_L_stands_so.name d_L_stands_so.qual d_L_stands_so.params d_L_stands_so.body d_L_stands_so.scope ["_law_bench", "_law_state"] := fun _ _ _ _ _ _ us hl => match us, hl with | [_, _], _ => rfl
theorem ok_L_stands_so (T : TX w K mg) : CalE P w K mg base 10 "_law_stands_so" [] (spStands K) := by
  refine cal_of T.fd_L_stands_so T.g_L_stands_so sc_L_stands_so b_L_stands_so (fun vs H Q E h => ?_) (fun cdv A outer s H vs Q E hr h => ?_)
  · obtain ⟨M, b, pl, n, st, p, e1, e2, m1, m2, rfl, _⟩ := h
    rfl
  obtain ⟨M, b, pl, n, st, p, e1, e2, m1, m2, rfl, ls, pb, tM, g, wo, k⟩ := h
  have nd := sc_L_stands_so.nd
  have hu := hu_of hr
  obtain ⟨fL, fdL, psL, dsL, FL, mL, bL, vL⟩ := ok_Bench_len (P := P) (base := base) T
  cases vL
  refine ⟨_, (pss_cons (ps_asg (pv 1) (pg_tup (n := 2) (by rfl) (pgs_cons (pg_name (i := 2) nd rfl (Or.inl rfl)) (pgs_cons (pg_name (i := 3) nd rfl (Or.inr rfl)) pgs_nil))))
      (pss_cons (ps_if (pt_not (pt_val (pe_cal (ok_L_same T 7) (hr.mono (by decide)) rfl passL (pa_cons (pe_lst (pa_cons (pe_metE0 T.c_Bench (ok_Bench_labs T) (hr.mono (by decide)) passL (pv 0)) (pa_cons (pe_metE0 T.c_Bench (ok_Bench_wishes T) (hr.mono (by decide)) passL (pv 0)) (pa_cons (pe_callB (call_lenO FL mL (hr.mono (by decide)) bL) (by rfl) T.f_len (by decide +kernel) (pa_cons (pv 0) pa_nil)) pa_nil)))) (pa_cons (pe_lst (pa_cons (pe_callTy (call_listD rfl) (by rfl) T.f_list (by decide +kernel) (pa_cons (pv 2) pa_nil)) (pa_cons (pe_callTy (call_listD rfl) (by rfl) T.f_list (by decide +kernel) (pa_cons (pv 3) pa_nil)) (pa_cons (pe_callB call_lenD (by rfl) T.f_len PySem.boot_len (pa_cons (pv 2) pa_nil)) pa_nil)))) pa_nil)))))
      (pss_one (ps_ret pe_bl))
      pss_nil)
      (pss_cons (ps_lock (ps_for (passes_of rfl) rfl (pi_keys (pv 2)) (pg_name (i := 4) nd rfl (Or.inl rfl))
      (pss_cons (ps_set (i := 5) nd rfl (Or.inl rfl) (pe_metE T.c_Bench (ok_Bench_lab_of T) (hr.mono (by decide)) px (pv 0) (pa_cons (pv 4) pa_nil)))
      (pss_one (ps_if (pt_not (pt_val (pe_cal (ok_L_same T 7) (hr.mono (by decide)) rfl passL (pa_cons (pe_tup (pa_cons (pe_metE0 T.c_Lab (ok_Lab_machines T) (hr.mono (by decide)) passL (pv 5)) (pa_cons (pe_metE0 T.c_Lab (ok_Lab_rows T) (hr.mono (by decide)) passL (pv 5)) (pa_cons (pe_metE0 T.c_Lab (ok_Lab_moves T) (hr.mono (by decide)) passL (pv 5)) pa_nil)))) (pa_cons (pe_dget hu (pv 2) (pv 4) (fun _ _ => rfl)) pa_nil)))))
      (pss_one (ps_ret pe_bl))
      pss_nil)))))
      (pss_one (ps_ret (pe_callB (cr_all rfl) (by rfl) T.f_all (by decide +kernel) (pa_cons (pe_lock (pe_lc (own := [("_law_name", 4)]) (by rfl) nd (pi_keys (pv 3)) (blkOk_by (N := N_L_stands_so) (sc := defScope s_L_stands_so) (by decide +kernel)) (fun _ _ _ _ _ => (pg_name (i := 4) nd rfl (Or.inl rfl))) (fun _ _ _ _ _ => pts_nil) (fun _ _ _ _ _ => (pe_cal (ok_L_same T 7) (hr.mono (by decide)) rfl passL (pa_cons (pe_metE T.c_Bench (ok_Bench_wish_of T) (hr.mono (by decide)) passL (pv 0) (pa_cons (pv 4) pa_nil)) (pa_cons (pe_dget hu (pv 3) (pv 4) (fun _ _ => rfl)) pa_nil)))))) pa_nil))))))), ?_⟩
  refine ⟨_, rfl, p, _, rfl, .inl (.inl ls.hp), rfl, _, _, rfl, _, _, rfl, rfl, ?_⟩
  dsimp only
  show tIfS _ _ _ ⟨_, _, _, _⟩ _ _
  obtain ⟨dx, ah, pp, bv, bxs, hb, hpl, lx, pst⟩ := id pb
  have l1 := g.l1
  have l2 := g.l2
  have lm1 : m1.length = st.labs.length := ls.r1.length
  refine ⟨_, rfl, b, dx, _, rfl, hb, rfl, _, b, pl, n, st, rfl, pb, fun H1 q1 s1 z1 h1 => ?_⟩
  refine ⟨_, rfl, b, dx, _, rfl, s1 _ _ hb, rfl, _, b, pl, n, st, rfl, pb_same pb s1, fun H2 q2 s2 z2 h2 => ?_⟩
  have s02 := s1.trans s2
  refine ⟨_, rfl, b, dx, _, rfl, s02 _ _ hb, _, b, pl, n, st, rfl, pb_same pb s02, _, rfl, by omega, by omega, ?_⟩
  refine ⟨by show 3 ≤ sizeLine; rw [sizeLine_eq]; omega, fun q3 z3 => ?_⟩
  have s3 := Same.up (o := .lst [V.ref q1, V.ref q2, V.int st.labs.length]) z3
  have h3 : (upd H2 q3 (.lst [V.ref q1, V.ref q2, V.int st.labs.length])) q3 = some (.lst [V.ref q1, V.ref q2, V.int st.labs.length]) := upd_same
  have s03 := s02.trans s3
  have h13 := s3 _ _ (s2 _ _ h1)
  have h23 := s3 _ _ h2
  generalize upd H2 q3 (.lst [V.ref q1, V.ref q2, V.int st.labs.length]) = H3 at *
  refine ⟨_, rfl, e1, m1, rfl, .inl (s03 _ _ ls.h1), fun q4 z4 => ?_⟩
  have s4 := Same.up (o := .lst (m1.map fun kv => kV kv.1)) z4
  have h4 : (upd H3 q4 (.lst (m1.map fun kv => kV kv.1))) q4 = some (.lst (m1.map fun kv => kV kv.1)) := upd_same
  refine ⟨_, rfl, e2, m2, rfl, .inl (s4 _ _ (s03 _ _ ls.h2)), fun q5 z5 => ?_⟩
  have s5 := Same.up (o := .lst (m2.map fun kv => kV kv.1)) z5
  have h5 : (upd (upd H3 q4 (.lst (m1.map fun kv => kV kv.1))) q5 (.lst (m2.map fun kv => kV kv.1))) q5 = some (.lst (m2.map fun kv => kV kv.1)) := upd_same
  have s35 := s4.trans s5
  have h45 := s5 _ _ h4
  generalize upd (upd H3 q4 (.lst (m1.map fun kv => kV kv.1))) q5 (.lst (m2.map fun kv => kV kv.1)) = H5 at *
  refine ⟨_, rfl, e1, m1, rfl, s35 _ _ (s03 _ _ ls.h1), by show 3 ≤ sizeLine; rw [sizeLine_eq]; omega, fun q6 z6 => ?_⟩
  have s6 := Same.up (o := .lst [V.ref q4, V.ref q5, V.int m1.length]) z6
  have h6 : (upd H5 q6 (.lst [V.ref q4, V.ref q5, V.int m1.length])) q6 = some (.lst [V.ref q4, V.ref q5, V.int m1.length]) := upd_same
  have s36 := s35.trans s6
  have s06 := s03.trans s36
  have h36 := s36 _ _ h3
  have h16 := s36 _ _ h13
  have h26 := s36 _ _ h23
  have h46 := s6 _ _ h45
  have h56 := s6 _ _ h5
  generalize upd H5 q6 (.lst [V.ref q4, V.ref q5, V.int m1.length]) = H6 at *
  rw [ls.r1.names] at h46
  rw [ls.r2.names] at h56
  rw [lm1] at h6
  have dStr : ∀ {q : Addr} {l : List Str}, H6 q = some (.lst (l.map V.str)) → DA [] H6 (.ref q) (.lst (l.map D.str)) := fun {q l} h => DA.lst_iff.mpr ⟨q, _, rfl, List.not_mem_nil, h, DAs.of_strs _⟩
  have d1 : DA [] H6 (.ref q3) (.lst [.lst ((st.labs.map (·.1)).map D.str), .lst ((st.wishes.map (·.1)).map D.str), .int st.labs.length]) := DA.lst_iff.mpr ⟨q3, _, rfl, List.not_mem_nil, h36, DAs.cons (dStr h16) (DAs.cons (dStr h26) (DAs.cons (DA.int' _) DAs.nil))⟩
  have d2 : DA [] H6 (.ref q6) (.lst [.lst ((st.labs.map (·.1)).map D.str), .lst ((st.wishes.map (·.1)).map D.str), .int st.labs.length]) := DA.lst_iff.mpr ⟨q6, _, rfl, List.not_mem_nil, h6, DAs.cons (dStr (by rw [List.map_map]; exact h46)) (DAs.cons (dStr (by rw [List.map_map]; exact h56)) (DAs.cons (DA.int' _) DAs.nil))⟩
  refine ⟨[], _, _, _, rfl, d1, d2, ⟨by simp, fun d hd => ?_⟩, fun H7 s7 => ⟨_, rfl, ?_⟩⟩
  · simp only [List.mem_cons, List.not_mem_nil, or_false] at hd
    rcases hd with rfl | rfl | rfl
    · exact ⟨by rw [List.length_map, List.length_map]; omega, strs_df 4 _⟩
    · exact ⟨by rw [List.length_map, List.length_map]; omega, strs_df 4 _⟩
    · trivial
  have s07 := s06.trans s7
  refine iteF ?_
  clear h36 h16 h26 h46 h56 h6 d1 d2 dStr h13 h23 h3 h45 h5 z3 z4 z5 z6 z1 z2
  refine ⟨e1, .dK m1, s07 _ _ ls.h1, trivial, fun od => ?_⟩
  have he7 := s07 _ _ ls.h1
  have h8 : (upd H7 e1 (.frz od (.dK m1))) e1 = some (.frz od (.dK m1)) := upd_same
  have kd8 : KeepD M H7 (upd H7 e1 (.frz od (.dK m1))) := KeepD.frz he7
  have ne1 : ∀ {c u}, H c = some u → (∀ k, u ≠ .dK k) → c ∉ [e1] := fun {c u} e q z => by
    rw [List.mem_singleton.mp z, ls.h1] at e
    exact q _ (Option.some.inj e).symm
  have nb := ne1 hb (fun k => by intro z; cases z)
  have nl := ne1 hpl (fun k => by intro z; cases z)
  have pb8 : PB K (e1 :: e2 :: M) (upd H7 e1 (.frz od (.dK m1))) b pl n st := pb_keep (pb_same pb s07) (Keep.at (List.mem_singleton.mpr rfl)) (fun a ha => by rw [List.mem_singleton.mp ha]; exact List.mem_cons_self) nb nl
  have un8 : ∀ {H' : Hp}, Same (upd H7 e1 (.frz od (.dK m1))) H' → Same H7 (upd H' e1 (.dK m1)) := fun s => Same.unlock he7 s
  have tM8 : Trk (e1 :: e2 :: M) (upd H7 e1 (.frz od (.dK m1))) := fun a ha => by
    rcases List.mem_cons.mp ha with z | ha
    · rw [z]; exact ⟨_, upd_same⟩
    · by_cases z : a = e1
      · rw [z]; exact ⟨_, upd_same⟩
      · rw [upd_ne z]
        rcases List.mem_cons.mp ha with z2 | ha
        · rw [z2]; exact ⟨_, s07 _ _ ls.h2⟩
        · exact tM.same s07 a ha
  have r8 : KR (fun v L => DA M (upd H7 e1 (.frz od (.dK m1))) v (Lab.d L)) m1 st.labs := ls.r1.imp fun v a r => (DA.keep (Keep.of s07) r).keepD kd8
  generalize upd H7 e1 (.frz od (.dK m1)) = H8 at *
  refine ⟨_, rfl, e1, od, rfl, .inl ⟨m1, h8, ?_⟩⟩
  refine for_it walk_keys (fun i σ H' => Same H8 H' ∧ ∃ x4 x5 : Option V, σ = [some (.ref b), some (.ref p), some (.ref e1), some (.ref e2), x4, x5]) ⟨Same.refl _, none, none, rfl⟩ (fun i σ H' hi q => q.1 _ _ h8) (fun i x σ H' H'' hi q y => ?_) (fun σ H' q => ?_)
  · obtain ⟨s8, x4, x5, rfl⟩ := q
    obtain ⟨rfl, key, v, hkv, rfl⟩ := y
    obtain ⟨z, L, rfl, hz, rL⟩ := r8.at hkv
    have gL : getK z st.labs = some L := g.n1.once (z, L) (List.mem_of_getElem? hz)
    have pbH := pb_same pb8 s8
    obtain ⟨dx8, ah8, pp8, bv8, bxs8, hb8, _, _, _⟩ := id pbH
    refine ⟨_, rfl, b, dx8, _, rfl, hb8, rfl, _, rfl, _, b, pl, n, st, z, rfl, pbH, fun L' lv eL pL => ?_, fun e => ?_⟩
    · have eL' : L' = L := Option.some.inj (eL.symm.trans gL)
      subst eL'
      obtain ⟨a, dxl, a1, a2, l, b1, b2, xs, rfl, pa⟩ := id pL
      have gd := (g.lab gL).2
      have lm := gd.lm
      have lr := gd.lr
      have lv := gd.lv
      dsimp only
      show tIfS _ _ _ ⟨_, _, _, _⟩ _ _
      refine ⟨_, rfl, a, dxl, _, rfl, pa.ins, rfl, _, .ref a, L', rfl, pL, gd.nm.once, by omega, tM8.same s8, fun H9 q1 y1 s9 n1 g1 d1 => ?_⟩
      refine ⟨_, rfl, a, dxl, _, rfl, s9 _ _ pa.ins, rfl, _, .ref a, L', rfl, PLab.keep pL (Keep.of s9), gd.nr.once, by omega, (tM8.same s8).same s9, fun H10 q2 y2 s10 n2 g2 d2 => ?_⟩
      have s910 := s9.trans s10
      refine ⟨_, rfl, a, dxl, _, rfl, s910 _ _ pa.ins, rfl, _, .ref a, L', rfl, PLab.keep pL (Keep.of s910), by omega, (tM8.same s8).same s910, fun H11 q3 y3 s11 n3 g3 d3 => ?_⟩
      refine ⟨by show 3 ≤ sizeLine; rw [sizeLine_eq]; omega, fun q4 z4 => ?_⟩
      have s12 := Same.up (o := .tup [V.ref q1, V.ref q2, V.ref q3]) z4
      have g4 : (upd H11 q4 (.tup [V.ref q1, V.ref q2, V.ref q3])) q4 = some (.tup [V.ref q1, V.ref q2, V.ref q3]) := upd_same
      generalize upd H11 q4 (.tup [V.ref q1, V.ref q2, V.ref q3]) = H12 at *
      have s1012 := s11.trans s12
      have s912 := s10.trans s1012
      have s812 := s8.trans (s9.trans s912)
      refine ⟨_, rfl, _, rfl, e1, v, rfl, .inl ⟨m1, .inr z, .inr ⟨od, s812 _ _ h8⟩, rfl, (r8.valAt g.n1 hkv).symm⟩, ?_⟩
      refine ⟨[], _, _, _, rfl, DA.tup_iff.mpr ⟨q4, _, rfl, List.not_mem_nil, g4, DAs.cons (DA.lst_iff.mpr ⟨q1, _, rfl, List.not_mem_nil, s912 _ _ g1, (DAs.sub (fun a ha => absurd ha List.not_mem_nil) d1).keep (Keep.of s912)⟩)
        (DAs.cons (DA.lst_iff.mpr ⟨q2, _, rfl, List.not_mem_nil, s1012 _ _ g2, (DAs.sub (fun a ha => absurd ha List.not_mem_nil) d2).keep (Keep.of s1012)⟩) (DAs.cons (DA.lst_iff.mpr ⟨q3, _, rfl, List.not_mem_nil, s12 _ _ g3, (DAs.sub (fun a ha => absurd ha List.not_mem_nil) d3).keep (Keep.of s1012)⟩) DAs.nil))⟩,
        (DA.sub (fun a ha => absurd ha List.not_mem_nil) rL).keep (Keep.of s812), lab_df L' (by omega) (by omega) (by omega), fun H13 s13 => ⟨_, rfl, iteF ⟨s812.trans s13, _, _, rfl⟩⟩⟩
    · rw [gL] at e
      cases e
  obtain ⟨s8, x4, x5, rfl⟩ := q
  refine ⟨s8 _ _ h8, ?_⟩
  have s78 := un8 s8
  have s08 := s07.trans s78
  have he9 := s08 _ _ ls.h2
  generalize upd H' e1 (.dK m1) = H9 at *
  refine ⟨e2, .dK m2, he9, trivial, fun od2 => ?_⟩
  have lm2 : m2.length = st.wishes.length := ls.r2.length
  have h10 : (upd H9 e2 (.frz od2 (.dK m2))) e2 = some (.frz od2 (.dK m2)) := upd_same
  have kd10 : KeepD M H9 (upd H9 e2 (.frz od2 (.dK m2))) := KeepD.frz he9
  have ne2 : ∀ {c u}, H c = some u → (∀ k, u ≠ .dK k) → c ∉ [e2] := fun {c u} e q z => by
    rw [List.mem_singleton.mp z, ls.h2] at e
    exact q _ (Option.some.inj e).symm
  have nb2 := ne2 hb (fun k => by intro z; cases z)
  have nl2 := ne2 hpl (fun k => by intro z; cases z)
  have pb10 : PB K (e1 :: e2 :: M) (upd H9 e2 (.frz od2 (.dK m2))) b pl n st := pb_keep (pb_same pb s08) (Keep.at (List.mem_singleton.mpr rfl)) (fun a ha => by rw [List.mem_singleton.mp ha]; simp) nb2 nl2
  have un10 : ∀ {H' : Hp}, Same (upd H9 e2 (.frz od2 (.dK m2))) H' → Same H9 (upd H' e2 (.dK m2)) := fun s => Same.unlock he9 s
  have r10 : KR (fun v L => DA M (upd H9 e2 (.frz od2 (.dK m2))) v (Wish.d L)) m2 st.wishes := ls.r2.imp fun v a r => (DA.keep (Keep.of s08) r).keepD kd10
  generalize upd H9 e2 (.frz od2 (.dK m2)) = H10 at *
  refine ⟨_, rfl, e2, od2, rfl, .inl ⟨m2, h10, fun D hD => ?_⟩⟩
  refine lc_vals (Qd := fun H' => _) walk_keys (List.replicate m2.length (V.bl true)) List.length_replicate (by omega) hD (fun H' s' => s' _ _ h10) (fun i H1 x H2 h => by rw [h.1]; exact Same.refl _) (fun x σ H Q Q' f h => f _ _ h) (fun i x y H11 H12 Kk hy s11 hx kk => ?_) (fun H11 s11 hl => ?_)
  · obtain ⟨rfl, key, v, hkv, rfl⟩ := hx
    obtain ⟨z, wi, rfl, hz, rW⟩ := r10.at hkv
    have gW : getK z st.wishes = some wi := g.n2.once (z, wi) (List.mem_of_getElem? hz)
    have pbH := pb_same pb10 s11
    have wl := wo (z, wi) (List.mem_of_getElem? hz)
    obtain ⟨dx8, ah8, pp8, bv8, bxs8, hb8, _, _, _⟩ := id pbH
    have ey : y = V.bl true := by
      rw [List.getElem?_replicate] at hy
      split at hy
      · exact (Option.some.inj hy).symm
      · cases hy
    subst ey
    refine ⟨rfl, _, rfl, b, dx8, _, rfl, hb8, rfl, _, rfl, _, b, pl, n, st, z, rfl, pbH, fun w' wv eW dW => ?_, fun e => ?_⟩
    · have eW' : w' = wi := Option.some.inj (eW.symm.trans gW)
      subst eW'
      refine ⟨_, rfl, _, rfl, e2, v, rfl, .inl ⟨m2, .inr z, .inr ⟨od2, s11 _ _ h10⟩, rfl, (r10.valAt g.n2 hkv).symm⟩, ?_⟩
      exact ⟨[], _, _, _, rfl, DA.sub (fun a ha => absurd ha List.not_mem_nil) dW, (DA.sub (fun a ha => absurd ha List.not_mem_nil) rW).keep (Keep.of s11), wish_df w' wl.1 wl.2, fun H13 s13 => kk H13 s13⟩
    · rw [gW] at e
      cases e
  · have nDe : D ≠ e2 := fun z => by rw [z, h10] at hD; cases hD
    refine ⟨s11 _ _ h10, D, List.replicate m2.length true, rfl, .inl (.inl ((upd_ne nDe).trans (by rw [List.map_replicate]; exact hl))), ?_⟩
    rw [show (List.replicate m2.length true).all id = true by simp]
    exact k _ (s08.trans (un10 s11))
end
end K51


set_option Elab.async false
set_option linter.all false
set_option maxRecDepth 100000
set_option maxHeartbeats 4000000
namespace K51
open PySem PySem.Spec PyProof.Rows L2 LamX NdefX
/-! ### a def that makes lambdas: its code object is known -/
theorem cal_ofC {P : Program} {w : World} {K : PySem.W.Frag} {mg : Str → Option Value} {base : Heap} {x qual : Str} {params : Arguments} {body : List Stmt} {scope : Scope} {N ps : List Str} {k : Nat} {sp : Sp} {at_ : Str × Option Str} (d : ∃ fd, FunD K x qual params body scope [] [] (He.fAd K at_) fd) (hm : mg x = some (.ref (He.fAd K at_))) (S : FnScope N ps scope)
    (hb : Bnd0 x qual params body scope ps) (len : ∀ vs H Q E, sp vs H Q E → vs.length = ps.length)
    (B : ∀ (A : Around) (outer : List Env) (s : Shared) (H : Hp) (vs : List V) (Q : VK) (E : XK), Room k (A.deeper (envOfC qual scope s.heap.objs.size (He.fAd K at_) (.ref (He.codeOf K at_)))) → sp vs H Q E →
      ∃ t, PSs (cxOf (L2.CX P w) P w K mg base N qual scope (He.fAd K at_) (.ref (He.codeOf K at_)) A outer s H E) body t ∧ t { nx := fun _ H' => Q .non H', rt := Q } (L2.start N vs) H) : CalE P w K mg base (k + 1) x [] sp := by
  obtain ⟨fd, F⟩ := d
  have bb := F.bindsN hb
  obtain ⟨oc, od, dV, kV, doc, pm, an, cdv, ct, osl, rfl, lk, hcd, _, _⟩ := F.ex
  obtain ⟨c, rfl⟩ := He.codeIn_ref hcd
  have ec := He.codeOf_eq lk rfl
  rw [← ec] at lk hcd bb
  exact ⟨_, _, ps, [], fn_of lk hcd S len fun A outer s H vs Q E hr hsp => B A outer s H vs Q E hr hsp, hm, F.kp, bb, .nil⟩
/-! ### addresses that may change, one more -/
mutual
theorem DA.more {M : List Addr} {H : Hp} {e : Addr} (n : ∀ xs, H e ≠ some (.tup xs) ∧ H e ≠ some (.lst xs)) : ∀ {v : V} {d : D}, DA M H v d → DA (e :: M) H v d
  | v, .non, h => by unfold DA at h ⊢; exact h
  | v, .bl b, h => by unfold DA at h ⊢; exact h
  | v, .int i, h => by unfold DA at h ⊢; exact h
  | v, .str s, h => by unfold DA at h ⊢; exact h
  | v, .lst ds, h => by
    unfold DA at h ⊢
    obtain ⟨a, xs, ev, na, ha, hs⟩ := h
    exact ⟨a, xs, ev, fun z => (List.mem_cons.mp z).elim (fun z => (n xs).2 (by rw [← z]; exact ha)) na, ha, DAs.more n hs⟩
  | v, .tup ds, h => by
    unfold DA at h ⊢
    obtain ⟨a, xs, ev, na, ha, hs⟩ := h
    exact ⟨a, xs, ev, fun z => (List.mem_cons.mp z).elim (fun z => (n xs).1 (by rw [← z]; exact ha)) na, ha, DAs.more n hs⟩
theorem DAs.more {M : List Addr} {H : Hp} {e : Addr} (n : ∀ xs, H e ≠ some (.tup xs) ∧ H e ≠ some (.lst xs)) : ∀ {xs : List V} {ds : List D}, DAs M H xs ds → DAs (e :: M) H xs ds
  | [], [], _ => by unfold DAs; trivial
  | x :: xs, d :: ds, h => by
    unfold DAs at h ⊢
    exact ⟨DA.more n h.1, DAs.more n h.2⟩
  | [], _ :: _, h => by unfold DAs at h; exact h.elim
  | _ :: _, [], h => by unfold DAs at h; exact h.elim
end
section
variable {K : PySem.W.Frag} {M : List Addr} {H : Hp}
theorem PLab.fresh {v : V} {L : Lab} {l : Addr} (n : H l = none) (h : PLab K M H v L) : PLab K (l :: M) H v L := by
  obtain ⟨a, dx, d1, d2, q, n1, n2, xs, rfl, p⟩ := h
  have nw : ∀ {c u}, H c = some u → c ∉ M → c ∉ l :: M := fun {c u} e nc z => (List.mem_cons.mp z).elim (fun z => by rw [z, n] at e; cases e) nc
  exact ⟨a, dx, d1, d2, q, n1, n2, xs, rfl, p.ins, p.h1, p.h2, p.hl, DAs.fresh n p.hx, p.hn1, p.hn2, nw p.ins p.m0, nw p.h1 p.m1, nw p.h2 p.m2, nw p.hl p.m3, nw p.hn1 p.m4, nw p.hn2 p.m5⟩
theorem PLab.sub {M' : List Addr} {v : V} {L : Lab} (k : ∀ a ∈ M', a ∈ M) (h : PLab K M H v L) : PLab K M' H v L := by
  obtain ⟨a, dx, d1, d2, q, n1, n2, xs, rfl, p⟩ := h
  exact ⟨a, dx, d1, d2, q, n1, n2, xs, rfl, p.ins, p.h1, p.h2, p.hl, DAs.sub k p.hx, p.hn1, p.hn2, fun z => p.m0 (k _ z), fun z => p.m1 (k _ z), fun z => p.m2 (k _ z), fun z => p.m3 (k _ z), fun z => p.m4 (k _ z), fun z => p.m5 (k _ z)⟩
theorem pb_fresh {b pl : Addr} {n : Nat} {st : St} {l : Addr} (e : H l = none) (h : PB K M H b pl n st) : PB K (l :: M) H b pl n st := by
  obtain ⟨dx, ah, pp, v, xs, hb, hl, lx, q, d1, d2, k1, k2, rfl, p⟩ := h
  have nw : ∀ {c u}, H c = some u → c ∉ M → c ∉ l :: M := fun {c u} e2 nc z => (List.mem_cons.mp z).elim (fun z => by rw [z, e] at e2; cases e2) nc
  exact ⟨dx, ah, pp, _, xs, hb, hl, lx, q, d1, d2, k1, k2, rfl, nw p.hp p.np, nw p.h1 p.n1, nw p.h2 p.n2, p.hp, p.h1, p.h2, p.r1.imp fun v a r => r.fresh e, p.r2.imp fun v a r => DA.fresh e r⟩
theorem pb_sub {M' : List Addr} {b pl : Addr} {n : Nat} {st : St} (k : ∀ a ∈ M', a ∈ M) (h : PB K M H b pl n st) : PB K M' H b pl n st := by
  obtain ⟨dx, ah, pp, v, xs, hb, hl, lx, q, d1, d2, k1, k2, rfl, p⟩ := h
  exact ⟨dx, ah, pp, _, xs, hb, hl, lx, q, d1, d2, k1, k2, rfl, fun z => p.np (k _ z), fun z => p.n1 (k _ z), fun z => p.n2 (k _ z), p.hp, p.h1, p.h2, p.r1.imp fun v a r => r.sub k, p.r2.imp fun v a r => DA.sub k r⟩
end
theorem tabS_keep {N : List Addr} {H H' : Hp} {P : Addr} {q : Str} (t : TabS H P q) (k : Keep N H H') (hN : ∀ a ∈ N, ∀ ps, H a ≠ some (.tbl ps)) (hC : ∀ a ∈ N, H a ≠ some (CodeO a q)) : TabS H' P q := by
  obtain ⟨ps, h1, h2, h3⟩ := t
  refine ⟨ps, k _ _ (fun z => hN P z ps h1) h1, h2, fun pos cv hc => ?_⟩
  obtain ⟨c, e1, e2⟩ := h3 pos cv hc
  exact ⟨c, e1, k _ _ (fun z => hC c z e2) e2⟩
theorem tabS_same {H H' : Hp} {P : Addr} {q : Str} (t : TabS H P q) (s : Same H H') : TabS H' P q := t.ext s
theorem code_ext {c : Addr} {q : Str} : ∃ p, CodeO c q = .ext p := ⟨_, rfl⟩
/-! ### no wish grows long -/
theorem wok_after {st : St} {d : Deed} (w : WOk st) (s : d.Short) : WOk (after st d) := by
  have ed : ∀ n f, WOk (editL st n f) := fun n f => by
    unfold editL
    cases getK n st.labs <;> exact w
  cases d with
  | lab n => exact w
  | drop n => exact fun p hp => w p (List.mem_filter.mp hp).1
  | machine n m f => exact ed _ _
  | row n r z => exact ed _ _
  | move n v => exact ed _ _
  | strike n i => exact ed _ _
  | wish n wi =>
    intro p hp
    obtain ⟨_, _, s1, s2⟩ := s
    have hp : p ∈ setK n wi st.wishes := hp
    unfold setK at hp
    split at hp
    · obtain ⟨q, hq, rfl⟩ := List.mem_map.mp hp
      split
      · exact ⟨s1.1, s2.1⟩
      · exact w q hq
    · rcases List.mem_append.mp hp with hq | hq
      · exact w p hq
      · rw [List.mem_singleton.mp hq]
        exact ⟨s1.1, s2.1⟩
  | unwish n => exact fun p hp => w p (List.mem_filter.mp hp).1
theorem atI_last {xs : List V} {x : V} (h : xs.getLast? = some x) : atI xs (-1) = some x := by
  rw [List.getLast?_eq_getElem?] at h
  have hl : xs.length - 1 < xs.length := (List.getElem?_eq_some_iff.mp h).1
  unfold atI ixN
  rw [if_neg (by decide), if_pos (by omega)]
  show xs[((-1 : Int) + xs.length).toNat]? = some x
  rw [show ((-1 : Int) + xs.length).toNat = xs.length - 1 by omega]
  exact h
/-! ### the world of the law's loop: the bench and the law's book tell the same -/
structure Wld (K : PySem.W.Frag) (M : List Addr) (H : Hp) (b pl L : Addr) (n : Nat) (st : St) (xs : List V) : Prop where
  mb : b ∈ M
  mp : pl ∈ M
  mL : L ∈ M
  trk : Trk M H
  hL : H L = some (.lst xs)
  nL : L ≠ pl
  last : ∃ t x0 p e1 e2 m1 m2, xs.getLast? = some (.ref t) ∧ t ∉ M ∧ H t = some (.tup [x0, .ref p]) ∧ LStA M H p e1 e2 m1 m2 st ∧ PB K (e1 :: e2 :: M) H b pl n st
  good : Good st
  wok : WOk st
def stepLam : Arguments × Expr × Scope := match d_L_step_done.body with
  | [_, _, .Return (some (.Compare (.Call _ [.Lambda p b sc _] _ _) _ _ _)) _] => (p, b, sc)
  | _ => default
abbrev qStep : Str := "_law_step_done.<locals>.<lambda>"
abbrev frStep : List Str := ["_law_bench", "_law_deed_here"]
theorem sc_stepLam : NScope frStep [] frStep stepLam.2.2 := nscope_by (by decide +kernel)
abbrev mkStep (cl : List (Str × Addr)) (c' : Addr) : LA := ⟨qStep, stepLam.1, stepLam.2.1, stepLam.2.2, cl, c', .none⟩
section
variable {P : Program} {w : World} {K : PySem.W.Frag} {mg : Str → Option Value} {base : Heap}
theorem ask_step (T : TX w K mg) {f c' : Addr} {cl : List (Str × Addr)} {ws : List (Option V)} : AskOk P w K mg base 13 f (mkStep cl c') frStep ws fun E H Q => True ∧ tMeth (He.ga K "Bench") "do" (spBDo K) [] E (tVar 0) (tCons (tVar 1) tNil) (startF frStep [] ws) H Q := by
  refine ask_of (ps := []) sc_stepLam rfl (fun doc pm ctv s H _ _ => ⟨[], .nil, BindsTo.of_eq rfl⟩) fun A outer s H E hr => ?_
  show PE _ stepLam.2.1 _
  exact pe_metE T.c_Bench (ok_Bench_do T) hr (passes_call (takes_of rfl rfl rfl rfl) fun _ _ _ _ h => h) (pv 0) (pa_cons (pv 1) pa_nil)
end
end K51


set_option Elab.async false
set_option linter.all false
set_option maxRecDepth 100000
set_option maxHeartbeats 4000000
namespace K51
open PySem PySem.Spec PyProof.Rows L2 LamX NdefX
theorem pe_lamM {X : Cx} {c P : Addr} {q : Str} {params : Arguments} {body : Expr} {scope : Scope} {pos : Pos} {mk : Addr → LA} (TB : TabB X.base X.mg c P) (hcode : X.env.code = .ref c) (hq : X.env.qual ++ "<lambda>" = q) (hdef : defaultsOf params X.env = ([], []))
    (hfree : ∀ y ∈ scope.names, y.2 = .free → X.env.scope.names.lookup y.1 = some .cell ∨ X.env.scope.names.lookup y.1 = some .free) (hmk : (fun c' => (⟨q, params, body, scope, cloFrom X.env.cells scope.names [], c', .none⟩ : LA)) = mk) : PE X (.Lambda params body scope pos) (tLamP P q mk) := by
  subst hmk
  exact pe_lamP TB hcode hq hdef hfree
theorem trk_keep {M : List Addr} {H H' : Hp} {N : List Addr} (t : Trk M H) (k : Keep N H H') (hN : ∀ a ∈ N, ∃ o, H' a = some o) : Trk M H' := fun a ha => by
  by_cases z : a ∈ N
  · exact hN a z
  · obtain ⟨o, e⟩ := t a ha
    exact ⟨o, k a o z e⟩
theorem kind_ne {H : Hp} {a c : Addr} {u v : HO} (h1 : H a = some u) (h2 : H c = some v) (n : u ≠ v) : a ≠ c := fun z => by
  rw [z, h2] at h1
  exact n (Option.some.inj h1).symm
theorem kind_nm {H : Hp} {a c : Addr} {u v : HO} (h1 : H a = some u) (h2 : H c = some v) (n : u ≠ v) : a ∉ [c] := fun z => kind_ne h1 h2 n (List.mem_singleton.mp z)
def spStep (K : PySem.W.Frag) (P1 : Addr) : Sp := fun vs H Q _ => ∃ (M : List Addr) (b pl L : Addr) (n : Nat) (st : St) (xs : List V) (dv : V) (d : Deed), vs = [.ref b, .ref L, dv] ∧ Wld K M H b pl L n st xs ∧ n ≤ 500 ∧ xs.length ≤ 500 ∧ P1 ∈ M ∧ TabS H P1 qStep ∧ DA M H dv d.d ∧ d.Short ∧
  ∀ H' st' n' xs', Keep [b, pl, L, P1] H H' → TabS H' P1 qStep → Wld K M H' b pl L n' st' xs' → n' ≤ n + 1 → xs'.length ≤ xs.length + 1 → Q (.bl true) H'
section
variable {P : Program} {w : World} {K : PySem.W.Frag} {mg : Str → Option Value} {base : Heap}
abbrev N_L_step_done : List Str := ["_law_bench", "_law_states", "_law_deed_here", "_law_due"]
theorem sc_L_step_done : FnScope N_L_step_done ["_law_bench", "_law_states", "_law_deed_here"] (defScope s_L_step_done) := ⟨rfl, rfl, rfl, by decide +kernel, rfl, by decide +kernel, by decide +kernel⟩
theorem b_L_step_done : Bnd0 d_L_step_done.name d_L_step_done.qual d_L_step_done.params d_L_step_done.body d_L_step_done.scope ["_law_bench", "_law_states", "_law_deed_here"] := fun _ _ _ _ _ _ us hl => match us, hl with | [_, _, _], _ => rfl
theorem ok_L_step_done (T : TX w K mg) (TB : TabB base mg (He.cT K d_L_step_done.at_).1 (He.cT K d_L_step_done.at_).2) : CalE P w K mg base 16 "_law_step_done" [] (spStep K (He.cT K d_L_step_done.at_).2) := by
  refine cal_ofC (at_ := d_L_step_done.at_) T.fd_L_step_done T.g_L_step_done sc_L_step_done b_L_step_done (fun vs H Q E h => ?_) (fun A outer s H vs Q E hr h => ?_)
  · obtain ⟨M, b, pl, L, n, st, xs, dv, d, rfl, _⟩ := h
    rfl
  obtain ⟨M, b, pl, L, n, st, xs, dv, d, rfl, wl, hn, hx, mP, tb, dd, sh, k⟩ := h
  have nd := sc_L_step_done.nd
  have hu := hu_of hr
  have hfree : ∀ y ∈ stepLam.2.2.names, y.2 = .free → d_L_step_done.scope.names.lookup y.1 = some .cell ∨ d_L_step_done.scope.names.lookup y.1 = some .free := ndef_free (sc := d_L_step_done.scope) (nsc := stepLam.2.2) (fr := frStep) (by decide +kernel)
  have hfr := ndef_fr (sc := d_L_step_done.scope) (nsc := stepLam.2.2) (fr := frStep) (by decide +kernel)
  obtain ⟨cl, hcl⟩ : ∃ cl, cl = cloFrom (cxOf (L2.CX P w) P w K mg base N_L_step_done d_L_step_done.qual d_L_step_done.scope (He.fAd K d_L_step_done.at_) (.ref (He.codeOf K d_L_step_done.at_)) A outer s H E).env.cells stepLam.2.2.names [] := ⟨_, rfl⟩
  have hR : ∀ pins σ H3 s3 v Q', Inv (cxOf (L2.CX P w) P w K mg base N_L_step_done d_L_step_done.qual d_L_step_done.scope (He.fAd K d_L_step_done.at_) (.ref (He.codeOf K d_L_step_done.at_)) A outer s H E) pins σ H3 s3 →
      (∃ f c', v = V.ref f ∧ H3 f = some (LamO f (mkStep cl c')) ∧ H3 c' = some (CodeO c' qStep) ∧ ∀ T0, H3 T0 = none → True ∧ tMeth (He.ga K "Bench") "do" (spBDo K) [] (Told K fun wd H' => wd ≠ "let" ∧ PyData.strOk wd = true ∧ ∀ H'', Same H' H'' → Q' (.str wd) H'') (tVar 0) (tCons (tVar 1) tNil) (startF frStep [] ([0, 2].map (slotAt σ))) (upd H3 T0 (.tup [.str "let", .int (-1)])) fun _ H' => H' T0 = some (.tup [.str "let", .int (-1)]) ∧ ∀ H'', Same H' H'' → Q' (.str "") H'') → spRefW P w K mg base 13 s3 v H3 Q' := fun pins σ H3 s3 v Q' I ⟨f, c', ev, h1, h2, h3⟩ =>
    ⟨f, mkStep cl c', frStep, [0, 2].map (slotAt σ), _, ev, ask_step T, h1, h2, by rw [hcl]; exact cells_of I (Caps.made I.ok hfree hfr rfl), h3⟩
  refine ⟨_, (pss_cons (ps_set (i := 3) nd rfl (Or.inl rfl) (pe_cal (ok_L_word_due T) (hr.mono (by decide)) rfl passL (pa_cons (pe_ix ix_tup (pe_ix ix_list (pv 1) (pe_un un_neg pe_int) (fun _ _ => rfl)) pe_int (fun _ _ => rfl)) (pa_cons (pv 2) pa_nil))))
      (pss_cons (ps_if (pt_cmpR op_eq (pv 3) pe_str (nomark _))
      (pss_one (ps_expr (pe_bm PySem.F.plainAttrs_list PySem.F.slot_list_append PySem.F.type_list_append mt_append (pv 1) (pa_cons (pe_tup (pa_cons (pv 2) (pa_cons (pe_cal (ok_L_state_after T) (hr.mono (by decide)) rfl passL (pa_cons (pe_ix ix_tup (pe_ix ix_list (pv 1) (pe_un un_neg pe_int) (fun _ _ => rfl)) pe_int (fun _ _ => rfl)) (pa_cons (pv 2) pa_nil))) pa_nil))) pa_nil))))
      pss_nil)
      (pss_one (ps_ret (pe_cmpR op_eq (pe_calS (ok_L_refused_word T (k := 13)) hr rfl (pe_lamM (q := qStep) (mk := mkStep cl) TB rfl rfl rfl hfree (by rw [hcl]; rfl)) hR) (pv 3) (nomark _)))))), ?_⟩
  simp only [tSeq, tDrop, tVar, tC, tCall, tCons, tNil, tFld, sFld, sDPut, tDGet, tRet, tRetN, tIfS, tTest, tB, tNot, tAnd, tOr, tOp, tUn, rI0, rI, tNext, tDIn, tDNotIn, tDNewK, tIf, tAndV, tOrV, tNotV, tAsg, gName, gCons, gNil, gTup, tPar, tTup, tLst, tMeth, tCB, rEq, rNe, tBM, rAppend, tBM0, tChain, rIxL, rIxT, rIxS, rIx, L2.start, cxK, cxW, kV_inr, List.map_cons, List.map_nil, List.length_cons, List.length_nil, List.replicate, List.cons_append, List.nil_append, List.append_nil, List.getElem?_cons_zero, List.getElem?_cons_succ, List.set_cons_zero, List.set_cons_succ, Option.some.injEq, V.ref.injEq, V.str.injEq, V.int.injEq, V.bl.injEq, exists_eq, exists_eq', exists_eq_left, exists_eq_left', exists_and_left, exists_and_right, List.cons.injEq, and_true, true_and, and_assoc]
  obtain ⟨t, x0, p, e1, e2, m1, m2, hlast, nt, ht, ls, pb⟩ := wl.last
  have g := wl.good
  have mb := wl.mb
  have mpl := wl.mp
  have mL := wl.mL
  have tM := wl.trk
  have hLx := wl.hL
  have limS : LimS st := ⟨by have := g.l1; omega, by have := g.l2; omega, fun n L h => by
    have gl := (g.lab h).2
    exact ⟨Nat.le_trans gl.lm (by decide), Nat.le_trans gl.lr (by decide), Nat.le_trans gl.lv (by decide)⟩⟩
  obtain ⟨dx, ah, pp, bv, bxs, hb, hpl, lx, pst⟩ := id pb
  obtain ⟨ps, hP1, _⟩ := id tb
  have at1 : atI [x0, V.ref p] 1 = some (.ref p) := at_of (j := 1) rfl rfl
  have due := lawDue_eq g d
  refine ⟨1, rfl, xs, -1, rfl, .inl (.inl hLx), _, atI_last hlast, t, rfl, _, .inl (.inl ht), _, at1, M, .ref p, dv, st, d, rfl, ⟨p, e1, e2, m1, m2, rfl, ls⟩, dd, tM, sh, limS, fun H1 s1 => ?_⟩
  refine ⟨rfl, ?_⟩
  have tb1 := tabS_same tb s1
  have hb1 := s1 _ _ hb
  have hpl1 := s1 _ _ hpl
  have hL1 := s1 _ _ hLx
  have hP11 := s1 _ _ hP1
  cases hd : lawDue st d with
  | none =>
    rw [show txt (none : Option Str) = "" from rfl, decide_eq_true rfl]
    refine iteT ?_
    have hdp : dueP st d = none := by rw [← due]; exact hd
    refine ⟨.inl ⟨rfl, xs, .inl (.inl hL1)⟩, 1, rfl, xs, -1, rfl, .inl (.inl hL1), _, atI_last hlast, t, rfl, _, .inl (.inl (s1 _ _ ht)), _, at1, M, .ref p, dv, st, d, rfl, ⟨p, e1, e2, m1, m2, rfl, ls.keep (Keep.of s1)⟩, dd.keep (Keep.of s1), tM.same s1, g.n1, g.n2, limS, hd, fun H2 p' e1' e2' m1' m2' s2 f1 f2 ls' => ?_⟩
    refine ⟨by show 2 ≤ sizeLine; rw [sizeLine_eq]; omega, fun t2 z2 => ?_⟩
    have s3 := Same.up (o := .tup [dv, V.ref p']) z2
    have ht2 : (upd H2 t2 (.tup [dv, V.ref p'])) t2 = some (.tup [dv, V.ref p']) := upd_same
    have nt2 : t2 ∉ M := ((tM.same s1).same s2).new z2
    have s13 := s2.trans s3
    have ls3 := ls'.keep (Keep.of s3)
    generalize upd H2 t2 (.tup [dv, V.ref p']) = H3 at *
    have hL3 := s13 _ _ hL1
    refine ⟨xs, hL3, by rw [sizeLine_eq]; omega, ?_⟩
    -- the bench with the new dicts among what may change
    have pb1 : PB K (e1' :: e2' :: M) H1 b pl n st := pb_fresh f1 (pb_fresh f2 (pb_sub (fun a ha => List.mem_cons_of_mem _ (List.mem_cons_of_mem _ ha)) (pb_same pb s1)))
    have pb3 := pb_same pb1 s13
    have hb3 := s13 _ _ hb1
    have hpl3 := s13 _ _ hpl1
    have hP3 := s13 _ _ hP11
    have nbL : b ∉ [L] := kind_nm hb3 hL3 (by intro z; cases z)
    have nplL : pl ∉ [L] := fun z => wl.nL (List.mem_singleton.mp z).symm
    have kL : Keep [L] H3 (upd H3 L (.lst (xs ++ [V.ref t2]))) := Keep.at (List.mem_singleton.mpr rfl)
    have kLM : Keep M H3 (upd H3 L (.lst (xs ++ [V.ref t2]))) := kL.sub (fun a ha => by rw [List.mem_singleton.mp ha]; exact mL)
    have pb4 := pb_keep pb3 kL (fun a ha => by rw [List.mem_singleton.mp ha]; exact List.mem_cons_of_mem _ (List.mem_cons_of_mem _ mL)) nbL nplL
    have tb3 := tabS_same tb1 s13
    have tb4 : TabS (upd H3 L (.lst (xs ++ [V.ref t2]))) (He.cT K d_L_step_done.at_).2 qStep := tabS_keep tb3 kL (fun a ha ps e => by rw [List.mem_singleton.mp ha, hL3] at e; cases e) (fun a ha e => by rw [List.mem_singleton.mp ha, hL3] at e; unfold CodeO at e; cases e)
    have hL4 : (upd H3 L (.lst (xs ++ [V.ref t2]))) L = some (.lst (xs ++ [V.ref t2])) := upd_same
    have ls4 := ls3.keep kLM
    have ht4 := kLM _ _ nt2 ht2
    have hb4 := kL _ _ nbL hb3
    have hpl4 := kL _ _ nplL hpl3
    have nPL : (He.cT K d_L_step_done.at_).2 ∉ [L] := kind_nm hP3 hL3 (by intro z; cases z)
    have hP4 := kL _ _ nPL hP3
    have k04 : Keep [L] H (upd H3 L (.lst (xs ++ [V.ref t2]))) := (Keep.of (s1.trans s13)).trans kL
    have dd4 := dd.keep (k04.sub (fun a ha => by rw [List.mem_singleton.mp ha]; exact mL))
    have tM4 : Trk M (upd H3 L (.lst (xs ++ [V.ref t2]))) := trk_keep tM k04 (fun a ha => by rw [List.mem_singleton.mp ha]; exact ⟨_, upd_same⟩)
    generalize upd H3 L (.lst (xs ++ [V.ref t2])) = H4 at *
    refine ⟨tb4, fun f c' H5 k5 tb5 nf hf hc => ⟨f, rfl, c', hf, hc, fun T0 hT0 => ?_⟩⟩
    have s6 := Same.up (o := .tup [V.str "let", V.int (-1)]) hT0
    have hT6 : (upd H5 T0 (.tup [V.str "let", V.int (-1)])) T0 = some (.tup [V.str "let", V.int (-1)]) := upd_same
    obtain ⟨ps5, hP5, _⟩ := id tb5
    have nbP : b ∉ [(He.cT K d_L_step_done.at_).2] := kind_nm hb4 hP4 (by intro z; cases z)
    have nplP : pl ∉ [(He.cT K d_L_step_done.at_).2] := kind_nm hpl4 hP4 (by intro z; cases z)
    have nLP : L ∉ [(He.cT K d_L_step_done.at_).2] := kind_nm hL4 hP4 (by intro z; cases z)
    have pM : ∀ a ∈ [(He.cT K d_L_step_done.at_).2], a ∈ M := fun a ha => by rw [List.mem_singleton.mp ha]; exact mP
    have pb5 := pb_same (pb_keep pb4 k5 (fun a ha => List.mem_cons_of_mem _ (List.mem_cons_of_mem _ (pM a ha))) nbP nplP) s6
    have ls5 := (ls4.keep (k5.sub pM)).keep (Keep.of s6)
    have ht5 := s6 _ _ (k5 _ _ (fun z => nt2 (pM _ z)) ht4)
    have hL5 := s6 _ _ (k5 _ _ nLP hL4)
    have dd5 := (dd4.keep (k5.sub pM)).keep (Keep.of s6)
    have hb5 := s6 _ _ (k5 _ _ nbP hb4)
    have hpl5 := s6 _ _ (k5 _ _ nplP hpl4)
    have tb6 := tabS_same tb5 s6
    have hP6 := s6 _ _ hP5
    have tM5 : Trk M (upd H5 T0 (.tup [V.str "let", V.int (-1)])) := (trk_keep tM4 k5 (fun a ha => by rw [List.mem_singleton.mp ha]; exact ⟨_, hP5⟩)).same s6
    have k46 : Keep [(He.cT K d_L_step_done.at_).2] H4 (upd H5 T0 (.tup [V.str "let", V.int (-1)])) := k5.trans (Keep.of s6)
    generalize upd H5 T0 (.tup [V.str "let", V.int (-1)]) = H6 at *
    have tM6 : Trk (e1' :: e2' :: M) H6 := fun a ha => by
      rcases List.mem_cons.mp ha with z | ha
      · rw [z]; exact ⟨_, ls5.h1⟩
      · rcases List.mem_cons.mp ha with z | ha
        · rw [z]; exact ⟨_, ls5.h2⟩
        · exact tM5 a ha
    have dd6 : DA (e1' :: e2' :: M) H6 dv d.d := DA.more (fun xs => ⟨fun z => (by rw [ls5.h1] at z; cases z), fun z => (by rw [ls5.h1] at z; cases z)⟩) (DA.more (fun xs => ⟨fun z => (by rw [ls5.h2] at z; cases z), fun z => (by rw [ls5.h2] at z; cases z)⟩) dd5)
    refine ⟨_, rfl, b, rfl, dx, _, hb5, rfl, _, rfl, e1' :: e2' :: M, b, pl, n, dv, st, d, rfl, pb5, List.mem_cons_of_mem _ (List.mem_cons_of_mem _ mb), List.mem_cons_of_mem _ (List.mem_cons_of_mem _ mpl), by omega, tM6, dd6, sh, g.n1, g.n2, g.fine, fun _ H7 k7 pb7 => ?_, fun wd e => by rw [hdp] at e; cases e⟩
    have nT : T0 ∉ [b, pl] := fun z => by
      rcases List.mem_cons.mp z with z | z
      · exact kind_ne hT6 hb5 (by intro z; cases z) z
      · exact kind_ne hT6 hpl5 (by intro z; cases z) (List.mem_singleton.mp z)
    have bpM : ∀ a ∈ [b, pl], a ∈ M := fun a ha => by
      rcases List.mem_cons.mp ha with z | z
      · rw [z]; exact mb
      · rw [List.mem_singleton.mp z]; exact mpl
    refine ⟨k7 _ _ nT hT6, fun H8 s8 => ⟨rfl, ?_⟩⟩
    have k68 : Keep [b, pl] H6 H8 := k7.trans (Keep.of s8)
    have nLb : L ∉ [b, pl] := fun z => by
      rcases List.mem_cons.mp z with z | z
      · exact kind_ne hL5 hb5 (by intro z; cases z) z
      · exact wl.nL (List.mem_singleton.mp z)
    have kA : Keep [b, pl, L, (He.cT K d_L_step_done.at_).2] H H8 := ((k04.sub (fun a ha => by rw [List.mem_singleton.mp ha]; simp)).trans (k46.sub (fun a ha => by rw [List.mem_singleton.mp ha]; simp))).trans (k68.sub (fun a ha => by
      rcases List.mem_cons.mp ha with z | z
      · rw [z]; simp
      · rw [List.mem_singleton.mp z]; simp))
    have tb8 : TabS H8 (He.cT K d_L_step_done.at_).2 qStep := tabS_keep tb6 k68 (fun a ha ps e => by
      rcases List.mem_cons.mp ha with z | z
      · rw [z, hb5] at e; cases e
      · rw [List.mem_singleton.mp z, hpl5] at e; cases e) (fun a ha e => by
      unfold CodeO at e
      rcases List.mem_cons.mp ha with z | z
      · rw [z, hb5] at e; cases e
      · rw [List.mem_singleton.mp z, hpl5] at e; cases e)
    have g2 : Good (after st d) := g.after hdp
    obtain ⟨dx7, ah7, pp7, bv7, bxs7, hb7, hpl7, _, _⟩ := id pb7
    have tM8 : Trk M H8 := trk_keep tM5 k68 (fun a ha => by
      rcases List.mem_cons.mp ha with z | z
      · rw [z]; exact ⟨_, s8 _ _ hb7⟩
      · rw [List.mem_singleton.mp z]; exact ⟨_, s8 _ _ hpl7⟩)
    exact k H8 (after st d) (n + 1) (xs ++ [V.ref t2]) kA tb8 ⟨mb, mpl, mL, tM8, k68 _ _ nLb hL5, wl.nL, ⟨t2, dv, p', e1', e2', m1', m2', by simp, nt2, k68 _ _ (fun z => nt2 (bpM _ z)) ht5, ls5.keep (k68.sub bpM), pb_same pb7 s8⟩, g2, wok_after wl.wok sh⟩ (Nat.le_refl _) (by simp)
  | some wd =>
    have hr' := lawDue_ref hd
    rw [show txt (some wd) = wd from rfl, strNe (ref_pos hr').2.1]
    refine iteF ?_
    have hdp : dueP st d = some wd := by rw [← due]; exact hd
    have pb1 := pb_same pb s1
    have ls1 := ls.keep (Keep.of s1)
    have dd1 := dd.keep (Keep.of s1)
    have tM1 := tM.same s1
    refine ⟨tb1, fun f c' H5 k5 tb5 nf hf hc => ⟨f, rfl, c', hf, hc, fun T0 hT0 => ?_⟩⟩
    have s6 := Same.up (o := .tup [V.str "let", V.int (-1)]) hT0
    obtain ⟨ps5, hP5, _⟩ := id tb5
    have nbP : b ∉ [(He.cT K d_L_step_done.at_).2] := kind_nm hb1 hP11 (by intro z; cases z)
    have nplP : pl ∉ [(He.cT K d_L_step_done.at_).2] := kind_nm hpl1 hP11 (by intro z; cases z)
    have nLP : L ∉ [(He.cT K d_L_step_done.at_).2] := kind_nm hL1 hP11 (by intro z; cases z)
    have pM : ∀ a ∈ [(He.cT K d_L_step_done.at_).2], a ∈ M := fun a ha => by rw [List.mem_singleton.mp ha]; exact mP
    have k06 : Keep [(He.cT K d_L_step_done.at_).2] H (upd H5 T0 (.tup [V.str "let", V.int (-1)])) := ((Keep.of s1).trans k5).trans (Keep.of s6)
    have k06M := k06.sub pM
    have pb5 := pb_keep pb k06 (fun a ha => List.mem_cons_of_mem _ (List.mem_cons_of_mem _ (pM a ha))) nbP nplP
    have ls5 := ls.keep k06M
    have dd5 := dd.keep k06M
    have hb5 := k06 _ _ nbP hb
    have hL5 := k06 _ _ nLP hLx
    have tb6 := tabS_same tb5 s6
    have tM5 : Trk M (upd H5 T0 (.tup [V.str "let", V.int (-1)])) := (trk_keep tM1 k5 (fun a ha => by rw [List.mem_singleton.mp ha]; exact ⟨_, hP5⟩)).same s6
    have ht5 := k06M _ _ nt ht
    generalize upd H5 T0 (.tup [V.str "let", V.int (-1)]) = H6 at *
    have tM6 : Trk (e1 :: e2 :: M) H6 := fun a ha => by
      rcases List.mem_cons.mp ha with z | ha
      · rw [z]; exact ⟨_, ls5.h1⟩
      · rcases List.mem_cons.mp ha with z | ha
        · rw [z]; exact ⟨_, ls5.h2⟩
        · exact tM5 a ha
    have dd6 : DA (e1 :: e2 :: M) H6 dv d.d := DA.more (fun xs => ⟨fun z => (by rw [ls5.h1] at z; cases z), fun z => (by rw [ls5.h1] at z; cases z)⟩) (DA.more (fun xs => ⟨fun z => (by rw [ls5.h2] at z; cases z), fun z => (by rw [ls5.h2] at z; cases z)⟩) dd5)
    refine ⟨_, rfl, b, rfl, dx, _, hb5, rfl, _, rfl, e1 :: e2 :: M, b, pl, n, dv, st, d, rfl, pb5, List.mem_cons_of_mem _ (List.mem_cons_of_mem _ mb), List.mem_cons_of_mem _ (List.mem_cons_of_mem _ mpl), by omega, tM6, dd6, sh, g.n1, g.n2, g.fine, fun e => by (rw [hdp] at e; cases e), fun wd' e => ?_⟩
    rw [hdp] at e
    cases e
    intro C d' H7 ie hd' s7
    refine ⟨C, d', wd, rfl, ie, rfl, hd', (ref_pos hr').1, ref_ok3 hr', fun H8 s8 => ⟨rfl, ?_⟩⟩
    rw [strEq]
    have s68 := s7.trans s8
    exact k H8 st n xs ((k06.sub (fun a ha => by rw [List.mem_singleton.mp ha]; simp)).trans (Keep.of s68)) (tabS_same tb6 s68) ⟨mb, mpl, mL, tM5.same s68, s68 _ _ hL5, wl.nL, ⟨t, x0, p, e1, e2, m1, m2, hlast, nt, s68 _ _ ht5, ls5.keep (Keep.of s68), pb_same pb5 s68⟩, g, wl.wok⟩ (by omega) (by omega)
end
end K51


set_option Elab.async false
set_option linter.all false
set_option maxRecDepth 100000
set_option maxHeartbeats 4000000
/-! ### [e for x in ..], e told of the state at which the block starts -/
namespace K51
open PySem PySem.Spec PyProof.Rows L2 LamX NdefX
section
variable {X : Cx} {elt tg iter : Expr} {scope : Scope} {own : List (Str × Nat)} {pos : Pos} {wi : TI} {g : TG} {te : L2.St → TE}
theorem pe_lcI (hc : X.calm = true) (hN : X.N.Nodup) (hi : PI X tg iter wi) (ok : BlkOk X.N X.env.scope scope own) (hg : ∀ (s : Shared) (H : Hp) (C : Addr) (cl : List (Str × Addr)) (fp : List Addr), PG (X.blk s H scope (compEnvC scope cl C X.env) fp) tg g)
    (he : ∀ (pins : List (Addr × Obj)) (σ : L2.St) (s : Shared) (H : Hp) (C : Addr) (cl : List (Str × Addr)) (fp : List Addr), Inv X pins σ H s → (∀ b ∈ fp, FpOk X pins H b) → PE (X.blk s H scope (compEnvC scope cl C X.env) fp) elt (te σ)) (hs : ∀ x, foldedSetIterable iter X.env x = pure x := by intro _; rfl) :
    PE X (.ListComp elt [⟨tg, iter, [], 0⟩] scope pos) (fun σ => tLc wi g tYes (te σ) (own.map (·.2)) σ) := by
  refine ⟨fun pins s σ H Q I h => ?_⟩
  rw [eval_ListComp]
  have cap : ∀ z ∈ scope.names, z.2 = .free → ∃ c, X.env.cells.lookup z.1 = some c := fun z hz ez => (ok.free z hz ez).elim (fun k => I.ok.has _ (.inl k)) fun k => I.ok.has _ (.inr k)
  refine wpAny_comprehension_free (use := none) rfl hs (closure_ok cap) ok.kind (fun z hz ez => by rw [ok.uniq z hz, ez]) (thn (hi.run pins s σ H _ I h) fun xv sa hx => thn hx fun itv sb hb => ?_)
  obtain ⟨it, fp, tn, J, Hb, eIt, Ib, Tu, stb, fb, hq⟩ := hb
  subst eIt
  refine wpAny_newObj_type (newEnv_comp ?_) (by show 0 ≤ sizeLine; decide)
  obtain ⟨L, eL⟩ : ∃ L, L = sb.heap.objs.size := ⟨_, rfl⟩
  have nL : Hb L = none := Ib.hok.fresh (Nat.le_of_eq eL.symm)
  obtain ⟨W, ⟨k0, w0⟩, turn⟩ := hq L nL
  obtain ⟨sc, esc⟩ : ∃ sc : Shared, sc = { sb with heap := sb.heap.push { cls := .type "list", data := .seq ([] : List Value).toArray } } := ⟨_, rfl⟩
  have hsc : sc.heap = sb.heap.push { cls := .type "list", data := .seq ([] : List Value).toArray } := by rw [esc]
  obtain ⟨Hc, eHc⟩ : ∃ Hc, Hc = upd Hb L (.lst []) := ⟨_, rfl⟩
  have Ic : Inv X pins σ Hc sc := by
    rw [esc, eHc]
    exact Ib.laid (t' := sb.toks) (fun b u eb => Heap.get?_push_of_some _ eb) (Nat.le_of_eq eL.symm) ⟨Nat.zero_le _, [], 0, .nil, by rw [eL]; exact Heap.get?_push_size _ rfl⟩
  have lt : ∀ b ∈ fp, b < sb.heap.objs.size := fun b hb => by
    obtain ⟨o, eo, _⟩ := Tu.obj _ _ stb b hb
    exact Heap.lt_size eo
  have fc : ∀ b ∈ fp, FpOk X pins Hc b ∧ b < sc.heap.objs.size := fun b hb => by
    have l := lt b hb
    refine ⟨⟨?_, (fb b hb).2⟩, by rw [hsc, Heap.size_push]; exact Nat.lt_succ_of_lt l⟩
    rw [eHc, upd_ne (by rw [eL]; exact Nat.ne_of_lt l)]
    exact (fb b hb).1
  have stc : tn 0 sc.heap := Tu.keep _ _ _ stb fun b _ o eo => by rw [hsc]; exact Heap.get?_push_of_some _ eo
  have B := block_start Ic ok hN fc
  have gB := hg sc Hc sc.heap.objs.size (cellsFrom (sc.heap.objs.size + 1) scope.names (cloFrom X.env.cells scope.names [])) fp
  have eB := he pins σ sc Hc sc.heap.objs.size (cellsFrom (sc.heap.objs.size + 1) scope.names (cloFrom X.env.cells scope.names [])) fp Ic fun b hb => (fc b hb).1
  obtain ⟨ce, ece⟩ : ∃ ce, ce = compEnvC scope (cellsFrom (sc.heap.objs.size + 1) scope.names (cloFrom X.env.cells scope.names [])) sc.heap.objs.size X.env := ⟨_, rfl⟩
  have ceL : ce.locals = sc.heap.objs.size := by rw [ece]; rfl
  obtain ⟨sd, esd⟩ : ∃ sd : Shared, sd = { sc with heap := pushCells (sc.heap.push { cls := .type "dict", data := .dict #[] }) scope.names } := ⟨_, rfl⟩
  rw [← ece] at B gB eB
  rw [← esd] at B
  rw [← eHc] at w0
  have std : tn 0 sd.heap := Tu.keep _ _ _ stc fun b _ o eo => by rw [esd]; exact pushCells_keeps _ _ _ _ (Heap.get?_push_of_some _ eo)
  have held : ∀ {σ' : L2.St} {H' : Hp} {s' : Shared}, Inv (X.blk sc Hc scope ce fp) [] σ' H' s' → (∀ b ∈ fp, H' b = none) → ∀ b ∈ fp, FpOk (X.blk sc Hc scope ce fp) [] H' b := fun {σ' H' s'} Iz hn b hb =>
    ⟨hn b hb, (Iz.ok.exf b hb).1, Iz.ok.exfs b hb, .inl hb, fun z c ez => (Iz.ok.exf b hb).2 z c ez, fun p hp => absurd (show p ∈ ([] : List (Addr × Obj)) ++ [] from hp) (by simp)⟩
  have run : codeAny (model X.prog X.w) X.A (.compLoop (.ListComp elt [⟨tg, iter, [], 0⟩] scope pos) 0 (.ref it) (.ref L) ce) (compPost (model X.prog X.w) X.A X.xe none (EP X pins σ Q) (.ref L) sc.heap.objs.size) sd := by
    refine compLoop_any (fun n s' => ∃ i Hz, Inv (X.blk sc Hc scope ce fp) [] (wipe σ (own.map (·.2))) Hz s' ∧ tn i s'.heap ∧ (∀ b ∈ fp, Hz b = none) ∧ W i n Hz) ?_ k0 ⟨0, Hc, B, std, fun b hb => (fc b hb).1.1, w0⟩
    rintro n se ⟨i, He, Ie, ste, ne, we⟩
    rcases turn i n He we with ⟨stop, fin⟩ | ⟨go, Nx, less, step⟩
    · refine thnF (Tu.done (X.blk sc Hc scope ce fp) rfl rfl rfl hc i [] se _ He (fun _ _ => False) Ie (held Ie ne) ste stop) fun r sf ⟨er, If⟩ => ?_
      subst er
      have Ig : Inv X pins σ He sf := Ic.call' (ch := fp) If.os If.base If.hok If.bare fun b hb => ⟨(fc b hb).1.2.2.2.1, (fc b hb).1.2.1, (fc b hb).1.2.2.2.2.1, (fc b hb).1.2.2.2.2.2⟩
      have nC : He sc.heap.objs.size = none := by
        have z : He ce.locals = none := If.free
        rw [ceL] at z
        exact z
      obtain ⟨m, hn, _⟩ := If.loc
      have hn : sf.heap.Ns ce.locals m := hn
      rw [ceL] at hn
      obtain ⟨f0, f1, f2, f3, f4, f5⟩ := Ic.fpOk (Nat.le_refl _) nC
      exact ⟨m, hn, fun h'' sm => ⟨.ref L, He, Ig.turned (t' := sf.toks) (fun b ob hb eb => (sm.2 b hb).trans eb) f0 f1 f3 f4 f5, rfl, fin⟩⟩
    · refine thnF (Tu.item (X.blk sc Hc scope ce fp) rfl rfl rfl hc i [] se _ He (fun _ _ => False) Ie (held Ie ne) ste go) fun r sf ⟨u, er, hf⟩ => ?_
      subst er
      refine thnF hf fun _ sg ⟨x, Hg, Ig, rg, yg, stg, ng⟩ => ?_
      refine thnF (gB.run _ sg _ Hg x u _ (Ig.pinned (held Ig ng) (Tu.obj _ _ stg)) rg (step x Hg yg)) fun _ sh ⟨σh, Hh, Ih, wh, qh⟩ => ?_
      refine thnF ((pts_nil (X := X.blk sc Hc scope ce fp)).run _ sh σh Hh _ Ih qh) fun b si ⟨Hi, Ii, qi⟩ => ?_
      have last : ∀ {s' : Shared} {H' : Hp}, Inv (X.blk sc Hc scope ce fp) ([] ++ pinsAt fp sg.heap) σh H' s' → Nx H' → ∃ m, m < n ∧ ∃ i Hz, Inv (X.blk sc Hc scope ce fp) [] (wipe σ (own.map (·.2))) Hz s' ∧ tn i s'.heap ∧ (∀ b ∈ fp, Hz b = none) ∧ W i m Hz := fun {s' H'} Iz nx => by
        obtain ⟨m, hm, wz⟩ := less H' nx
        have pin : ∀ b ∈ fp, ∀ o, sg.heap.get? b = some o → s'.heap.get? b = some o ∧ H' b = none := fun b hb o eo => by
          have z := Iz.pin (b, o) (List.mem_append_right _ (List.mem_append_right _ (mem_pinsAt hb eo)))
          exact ⟨z.1, z.2.1⟩
        have lw : (wipe σ (own.map (·.2))).length = σh.length := by rw [← wh, wipe_length]
        refine ⟨m, hm, i + 1, H', (Iz.unpinned (pins := [])).weak lw (fun j u ej => ?_), Tu.keep _ _ _ stg fun b hb o eo => (pin b hb o eo).1, fun b hb => ?_, wz⟩
        · rw [← wh] at ej
          exact (wipe_some ej).1
        · obtain ⟨o, eo, _⟩ := Tu.obj _ _ stg b hb
          exact (pin b hb o eo).2
      cases b with
      | false =>
        simp only [Bool.false_eq_true, if_false] at qi ⊢
        exact last Ii qi
      | true =>
        simp only [if_true] at qi ⊢
        refine thnF (eB.run _ si σh Hi _ Ii qi) fun z sj ⟨yv, Hj, Ij, rj, acc, ha, la, nx⟩ => ?_
        exact app_ok (X := X.blk sc Hc scope ce fp) Ij ha la rj fun sk Ik => last Ik nx
  have all := codeAny_compStart_list run (Tu.self X.A 0 _ _ _ std run)
  subst eL ece esd esc
  exact all
end
end K51

set_option Elab.async false
set_option linter.all false
set_option maxRecDepth 100000
set_option maxHeartbeats 4000000
namespace K51
open PySem PySem.Spec PyProof.Rows L2 LamX NdefX
/-! ### the two lambdas of the law -/
def lawLams : (Arguments × Expr × Scope) × (Arguments × Expr × Scope) := match d_law.body with
  | [_, _, _, _, _, .Assign _ (.List [.Lambda p b sc _, .Lambda p' b' sc' _] _) _, _, _, _] => ((p, b, sc), (p', b', sc'))
  | _ => default
abbrev qLaw : Str := "law.<locals>.<lambda>"
abbrev frLaw : List Str := ["_law_bench"]
theorem sc_lam1 : NScope frLaw [] frLaw lawLams.1.2.2 := nscope_by (by decide +kernel)
theorem sc_lam2 : NScope ["_law_a", "_law_bench"] ["_law_a"] frLaw lawLams.2.2.2 := nscope_by (by decide +kernel)
abbrev mk1 (cl : List (Str × Addr)) (c' : Addr) : LA := ⟨qLaw, lawLams.1.1, lawLams.1.2.1, lawLams.1.2.2, cl, c', .none⟩
abbrev mk2 (cl : List (Str × Addr)) (T c' : Addr) : LA := ⟨qLaw, lawLams.2.1, lawLams.2.2.1, lawLams.2.2.2, cl, c', .ref T⟩
section
variable {P : Program} {w : World} {K : PySem.W.Frag} {mg : Str → Option Value} {base : Heap}
theorem ask_law1 (T : TX w K mg) {f c' : Addr} {cl : List (Str × Addr)} {ws : List (Option V)} : AskOk P w K mg base 6 f (mk1 cl c') frLaw ws fun E H Q => True ∧ tMeth (He.ga K "Bench") "lab_of" (spBLabOf K) [] E (tVar 0) (tCons (tC (.str "A")) tNil) (startF frLaw [] ws) H Q := by
  refine ask_of (ps := []) sc_lam1 rfl (fun doc pm ctv s H _ _ => ⟨[], .nil, BindsTo.of_eq rfl⟩) fun A outer s H E hr => ?_
  show PE _ lawLams.1.2.1 _
  exact pe_metE T.c_Bench (ok_Bench_lab_of T) hr (passes_call (takes_of rfl rfl rfl rfl) fun _ _ _ _ h => h) (pv 0) (pa_cons pe_str pa_nil)
theorem ask_law2 (T : TX w K mg) {f c' Td : Addr} {cl : List (Str × Addr)} {ws : List (Option V)} : AskOk P w K mg base 6 f (mk2 cl Td c') frLaw ws fun E H Q => H Td = some (.tup [.int 0]) ∧ tMeth (He.ga K "Bench") "wish_of" (spBWishOf K) [] E (tVar 1) (tCons (tC (.str "A")) tNil) (startF ["_law_a", "_law_bench"] [.int 0] ws) H Q := by
  refine ask_of (ps := ["_law_a"]) (vs := [.int 0]) sc_lam2 rfl (fun doc pm ctv s H hok hT => ?_) fun A outer s H E hr => ?_
  · obtain ⟨_, its, rv, o, ho, _, n, hd⟩ := (show ObjOk P w H s.heap Td (.tup [.int 0]) from hok Td _ hT)
    cases rv with
    | cons r0 rr =>
      cases rr
      exact ⟨_, .cons r0 .nil, BindsTo.of_defaults (T := Td) rfl ho hd rfl rfl⟩
  · show PE _ lawLams.2.2.1 _
    exact pe_metE T.c_Bench (ok_Bench_wish_of T) (hr.mono (by decide)) (passes_call (takes_of rfl rfl rfl rfl) fun _ _ _ _ h => h) (pv 1) (pa_cons pe_str pa_nil)
/-- what the two ask -/
def RLaw (K : PySem.W.Frag) (cl1 cl2 : List (Str × Addr)) (ws : List (Option V)) : V → Hp → VK → Prop := fun v H Q =>
  (∃ f c', v = .ref f ∧ H f = some (LamO f (mk1 cl1 c')) ∧ H c' = some (CodeO c' qLaw) ∧ ∀ T0, H T0 = none → True ∧ tMeth (He.ga K "Bench") "lab_of" (spBLabOf K) [] (Told K fun wd H' => ∀ T2 H'', Same H' H'' → H' T2 = none → H'' T2 = some (.tup [.str wd, .int (-1)]) → Q (.ref T2) H'') (tVar 0) (tCons (tC (.str "A")) tNil) (startF frLaw [] ws) (upd H T0 (.tup [.str "let", .int (-1)])) fun _ H' => Q (.ref T0) H') ∨
  (∃ f c' Td, v = .ref f ∧ H f = some (LamO f (mk2 cl2 Td c')) ∧ H c' = some (CodeO c' qLaw) ∧ ∀ T0, H T0 = none → (upd H T0 (.tup [.str "let", .int (-1)])) Td = some (.tup [.int 0]) ∧ tMeth (He.ga K "Bench") "wish_of" (spBWishOf K) [] (Told K fun wd H' => ∀ T2 H'', Same H' H'' → H' T2 = none → H'' T2 = some (.tup [.str wd, .int (-1)]) → Q (.ref T2) H'') (tVar 1) (tCons (tC (.str "A")) tNil) (startF ["_law_a", "_law_bench"] [.int 0] ws) (upd H T0 (.tup [.str "let", .int (-1)])) fun _ H' => Q (.ref T0) H')
theorem rlaw_ref (T : TX w K mg) {cl1 cl2 : List (Str × Addr)} {ws : List (Option V)} {v : V} {s : Shared} {H : Hp} {Q : VK} (C1 : CellsAt cl1 frLaw ws s.heap H) (C2 : CellsAt cl2 frLaw ws s.heap H) (h : RLaw K cl1 cl2 ws v H Q) : spRef P w K mg base 6 s v H Q := by
  rcases h with ⟨f, c', e, h1, h2, h3⟩ | ⟨f, c', Td, e, h1, h2, h3⟩
  · exact ⟨f, mk1 cl1 c', frLaw, ws, _, e, ask_law1 T, h1, h2, C1, h3⟩
  · exact ⟨f, mk2 cl2 Td c', frLaw, ws, _, e, ask_law2 T, h1, h2, C2, h3⟩
theorem pe_lamDM {X : Cx} {c P : Addr} {q : Str} {params : Arguments} {body : Expr} {scope : Scope} {pos : Pos} {mk : Addr → Addr → LA} {e : Expr} {td : TE} (TB : TabB X.base X.mg c P) (hcode : X.env.code = .ref c) (hq : X.env.qual ++ "<lambda>" = q) (hde : params.defaults = [e]) (hk0 : params.kw_defaults = []) (he : PE X e td)
    (hfree : ∀ y ∈ scope.names, y.2 = .free → X.env.scope.names.lookup y.1 = some .cell ∨ X.env.scope.names.lookup y.1 = some .free) (hmk : (fun T c' => (⟨q, params, body, scope, cloFrom X.env.cells scope.names [], c', .ref T⟩ : LA)) = mk) : PE X (.Lambda params body scope pos) (tLamD P q td mk) := by
  subst hmk
  exact pe_lamD TB hcode hq hde hk0 he hfree
/-- one parameter, the def makes lambdas -/
theorem fn_ofC {x qual : Str} {params : Arguments} {body : List Stmt} {scope : Scope} {N ps : List Str} {k : Nat} {sp : Sp} {at_ : Str × Option Str} {fd : FuncData} (F : FunD K x qual params body scope [] [] (He.fAd K at_) fd) (S : FnScope N ps scope) (len : ∀ vs H Q E, sp vs H Q E → vs.length = ps.length)
    (B : ∀ (A : Around) (outer : List Env) (s : Shared) (H : Hp) (vs : List V) (Q : VK) (E : XK), Room k (A.deeper (envOfC qual scope s.heap.objs.size (He.fAd K at_) (.ref (He.codeOf K at_)))) → sp vs H Q E →
      ∃ t, PSs (cxOf (L2.CX P w) P w K mg base N qual scope (He.fAd K at_) (.ref (He.codeOf K at_)) A outer s H E) body t ∧ t { nx := fun _ H' => Q .non H', rt := Q } (L2.start N vs) H) : FnOk P w K mg base (L2.CX P w) (k + 1) (He.fAd K at_) fd ps sp := by
  obtain ⟨oc, od, dV, kV, doc, pm, an, cdv, ct, osl, rfl, lk, hcd, _, _⟩ := F.ex
  obtain ⟨c, rfl⟩ := He.codeIn_ref hcd
  have ec := He.codeOf_eq lk rfl
  rw [← ec] at lk hcd
  rw [← ec]
  exact fn_of lk hcd S len fun A outer s H vs Q E hr hsp => B A outer s H vs Q E hr hsp
theorem blk_cells {X : Cx} {pins pins' : List (Addr × Obj)} {σ σ' : L2.St} {s s' : Shared} {H H' : Hp} {sc lsc : Scope} {cenv : Env} {fp : List Addr} {fr : List Str} {js : List Nat} (I : Inv X pins σ H s) (hfp : ∀ b ∈ fp, FpOk X pins H b) (hfree : ∀ y ∈ lsc.names, y.2 = .free → X.env.scope.names.lookup y.1 = some .cell ∨ X.env.scope.names.lookup y.1 = some .free)
    (hfr : ∀ y ∈ fr, (y, NameKind.free) ∈ lsc.names) (hjs : js.map (fun j => X.N[j]?) = fr.map some) (I' : Inv (X.blk s H sc cenv fp) pins' σ' H' s') : CellsAt (cloFrom X.env.cells lsc.names []) fr (js.map (slotAt σ)) s'.heap H' := by
  have C := Caps.made I.ok hfree hfr hjs
  exact cells_later (cells_of I C) (fun y c e hc => (hfp c hc).2.2.2.2.1 y c (C.sub y c e) rfl) I'
theorem room_in1 {k : Nat} {A : Around} (r : Room k A) : A.in1.units < cLine := by
  have := r.un
  show A.units + 1 < cLine
  omega
section
variable {M : List Addr} {H H' : Hp}
theorem nin_cons {x a : Addr} {l : List Addr} (h1 : x ≠ a) (h2 : x ∉ l) : x ∉ a :: l := fun z => (List.mem_cons.mp z).elim h1 h2
theorem nin_nil {x : Addr} : x ∉ ([] : List Addr) := List.not_mem_nil
theorem pb0_more {b pl : Addr} {n : Nat} {c : Addr} {o : HO} (hc : H c = some o) (h1 : ∀ xs, o ≠ .tup xs) (h2 : ∀ k, o ≠ .dK k) (h : PB K M H b pl n ⟨[], []⟩) : PB K (c :: M) H b pl n ⟨[], []⟩ := by
  obtain ⟨dx, ah, pp, v, xs, hb, hl, lx, q, d1, d2, k1, k2, rfl, p⟩ := h
  obtain rfl : k1 = [] := by
    have := p.r1
    cases this
    rfl
  obtain rfl : k2 = [] := by
    have := p.r2
    cases this
    rfl
  exact ⟨dx, ah, pp, _, xs, hb, hl, lx, q, d1, d2, [], [], rfl, nin_cons (kind_ne p.hp hc (Ne.symm (h1 _))) p.np, nin_cons (kind_ne p.h1 hc (Ne.symm (h2 _))) p.n1, nin_cons (kind_ne p.h2 hc (Ne.symm (h2 _))) p.n2, p.hp, p.h1, p.h2, .nil, .nil⟩
theorem tabS_keep2 {N : List Addr} {P : Addr} {q : Str} (t : TabS H P q) (k : Keep N H H') (nP : P ∉ N) (hC : ∀ a ∈ N, H a ≠ some (CodeO a q)) : TabS H' P q := by
  obtain ⟨ps, h1, h2, h3⟩ := t
  refine ⟨ps, k _ _ nP h1, h2, fun pos cv hc => ?_⟩
  obtain ⟨c, e1, e2⟩ := h3 pos cv hc
  exact ⟨c, e1, k _ _ (fun z => hC c z e2) e2⟩
theorem wld_keep {b pl L : Addr} {n : Nat} {st : St} {xs : List V} {N : List Addr} (wl : Wld K M H b pl L n st xs) (k : Keep N H H') (hN : ∀ a ∈ N, a ∈ M) (nb : b ∉ N) (nl : pl ∉ N) (nL : L ∉ N) (t : Trk M H') : Wld K M H' b pl L n st xs := by
  obtain ⟨tt, x0, p, e1, e2, m1, m2, h1, h2, h3, h4, h5⟩ := wl.last
  exact ⟨wl.mb, wl.mp, wl.mL, t, k _ _ nL wl.hL, wl.nL, ⟨tt, x0, p, e1, e2, m1, m2, h1, h2, k _ _ (fun z => h2 (hN _ z)) h3, h4.keep (k.sub hN), pb_keep h5 k (fun a ha => List.mem_cons_of_mem _ (List.mem_cons_of_mem _ (hN a ha))) nb nl⟩, wl.good, wl.wok⟩
end
def wdAt (j : Nat) : Str := if j = 0 then "nolab" else "nowish"
def toldD : PyData := .list [.tuple [.str "nolab", .int (-1)], .tuple [.str "nowish", .int (-1)]]
theorem name_A {α : Type} {l : List (Str × α)} (h : ∀ p ∈ l, isName p.1 = true) : getK "A" l = none := by
  cases e : getK "A" l with
  | none => rfl
  | some x =>
    have z : isName "A" = true := h _ (getK_mem e)
    exact absurd z (by decide +kernel)
theorem bench_txt (m n : Nat) : benchText m n = ("Bench(" : Str) ++ toString (m : Int) ++ " labs, " ++ toString (n : Int) ++ " wishes)" := by
  unfold benchText
  rw [show Str.empty ++ ("Bench(" : Str) = "Bench(" by decide +kernel]
theorem len_app (x y : Str) : (x ++ y).length = x.length + y.length := by
  show (x.cps ++ y.cps).size = x.cps.size + y.cps.size
  rw [Array.size_append]
theorem ifs_op {r : R2} {ta tb : TE} {T U : TS} {D : Ends} {σ : L2.St} {H : Hp} (h : ta σ H fun x H1 => tb σ H1 fun y H2 => r x y H2 fun v H3 => ∃ k, v = .bl k ∧ if k = true then T D σ H3 else U D σ H3) : tIfS (tTest (tOp r ta tb)) T U D σ H := h
theorem nx_asg {te : TE} {g : TG} {R : TS} {D D' : Ends} {σ : L2.St} {H : Hp} (h : te σ H fun v H1 => g v σ H1 fun σ' H' => R D σ' H') : tNext { D' with nx := tSeq (tAsg te g) R D } σ H := h
theorem asks_lc {K : PySem.W.Frag} {cl1 cl2 : List (Str × Addr)} {ws : List (Option V)} {y0 y1 y2 y3 y4 y5 y6 y8 y9 y10 y11 : Option V} {H18 : Hp} {La f1 f2 : Addr} {Q : VK} (hLa : H18 La = some (.lst [.ref f1, .ref f2]))
    (one : ∀ (i : Nat) (x : V), [V.ref f1, V.ref f2][i]? = some x → ∀ (H19 : Hp) (Qk : VK), Same H18 H19 → (∀ H20, Same H19 H20 → ∀ T2 H21, Same H20 H21 → H20 T2 = none → H21 T2 = some (.tup [.str (wdAt i), .int (-1)]) → Qk (.ref T2) H21) → RLaw K cl1 cl2 ws x H19 Qk)
    (fin : ∀ D u1 u2 H', Same H18 H' → H' D = some (.lst [.ref u1, .ref u2]) → H' u1 = some (.tup [.str "nolab", .int (-1)]) → H' u2 = some (.tup [.str "nowish", .int (-1)]) → Q (.ref D) H') :
    tLc (iList K (tVar 7)) (gName 10) tYes (fun σ' H' Q' => tVar 10 σ' H' fun v H1 => RLaw K cl1 cl2 ws v H1 Q') [10] [y0, y1, y2, y3, y4, y5, y6, some (.ref La), y8, y9, y10, y11] H18 Q := by
  refine ⟨_, rfl, La, rfl, ⟨_, .inl (.inl hLa)⟩, fun D hD => ?_⟩
  refine lc_acc0 (g := gName 10) (te := fun σ' H' Q' => tVar 10 σ' H' fun v H1 => RLaw K cl1 cl2 ws v H1 Q') (σ := [y0, y1, y2, y3, y4, y5, y6, some (.ref La), y8, y9, y10, y11]) (vs := [10]) (Qd := fun H' => Q (.ref D) H') (walk_list (K := K) (a := La) (xs := [V.ref f1, V.ref f2])) (fun i acc H' => Same H18 H' ∧ acc.length = i ∧ ∀ j y, acc[j]? = some y → ∃ u, y = .ref u ∧ u ≠ D ∧ H' u = some (.tup [.str (wdAt j), .int (-1)])) (by show 2 < 100000; decide) hD
    ⟨Same.up hD, rfl, fun j y e => by simp at e⟩ (fun i acc H' _ q => .inl (.inl (q.1 _ _ hLa))) (fun i acc H' q => by rw [q.2.1]; exact Nat.le_refl _) (fun i acc H1 H2 q kk => ⟨Same.keepL hD q.1 kk, q.2.1, fun j y e => by
      obtain ⟨u, e1, e2, e3⟩ := q.2.2 j y e
      exact ⟨u, e1, e2, kk _ _ (by simpa using e2) e3⟩⟩) (fun x σ H Q Q' f h => f _ _ h) (fun i x acc H19 H20 Kk hi q ho y kk => ?_) (fun acc H19 q hacc => ?_)
  · obtain ⟨s19, hl, hm⟩ := q
    obtain ⟨rfl, hx'⟩ := y
    obtain ⟨oD, hoD⟩ := ho
    refine ⟨rfl, _, rfl, one i x hx' _ _ s19 fun H20 s20 T2 H22 s22 z2 e => ?_⟩
    have nD : T2 ≠ D := (ne_of_none (s20 _ _ hoD) z2).symm
    refine kk _ _ (Keep.of (s20.trans s22)) ⟨(s19.trans s20).trans s22, by rw [List.length_append, hl]; rfl, fun j y ej => ?_⟩
    by_cases hj : j < acc.length
    · rw [List.getElem?_append_left hj] at ej
      obtain ⟨u, e1, e2, e3⟩ := hm j y ej
      exact ⟨u, e1, e2, s22 _ _ (s20 _ _ e3)⟩
    · rw [List.getElem?_append_right (by omega)] at ej
      have hj0 : j - acc.length = 0 := by
        cases z : j - acc.length with
        | zero => rfl
        | succ m => rw [z] at ej; simp at ej
      rw [hj0] at ej
      have ey : y = V.ref T2 := by simpa using ej.symm
      exact ⟨T2, ey, nD, by rw [show j = i by omega]; exact e⟩
  · obtain ⟨s19, hl, hm⟩ := q
    match acc, hl, hm, hacc with
    | [v1, v2], _, hm, hacc =>
      obtain ⟨u1, rfl, _, h1⟩ := hm 0 v1 rfl
      obtain ⟨u2, rfl, _, h2⟩ := hm 1 v2 rfl
      exact fin D u1 u2 H19 s19 hacc h1 h2
theorem texts_lc {K : PySem.W.Frag} {y0 y1 y2 y3 y5 y6 y7 y8 y9 y10 y11 : Option V} {H : Hp} {L t p e1 e2 : Addr} {xs : List V} {x0 : V} {m1 m2 : List (Key × V)} {Q : VK} (hL : H L = some (.lst xs)) (hl : xs.getLast? = some (.ref t)) (ht : H t = some (.tup [x0, .ref p])) (hp : H p = some (.tup [.ref e1, .ref e2])) (h1 : H e1 = some (.dK m1)) (h2 : H e2 = some (.dK m2)) (l1 : m1.length ≤ 100) (l2 : m2.length ≤ 100)
    (fin : ∀ D H', Same H H' → H' D = some (.lst [.str (Str.ofString (toString (m1.length : Int))), .str (Str.ofString (toString (m2.length : Int)))]) → Q (.ref D) H') :
    tLc (iTup K (tOp (rIxT K) (tOp (rIxL K) (tVar 4) (tUn (rU fun i => V.int (-i)) (tC (.int 1)))) (tC (.int 1)))) (gName 11) tYes (tCB (fun xs H Q => ∃ i : Int, xs = [V.int i] ∧ i.natAbs.log2 < 1920 ∧ Q (V.str (Str.ofString (toString i))) H) (tCons (tCB (fun xs H Q => ∃ a kvs, xs = [V.ref a] ∧ H a = some (.dK kvs) ∧ Q (V.int kvs.length) H) (tCons (tVar 11) tNil)) tNil)) [11] [y0, y1, y2, y3, some (.ref L), y5, y6, y7, y8, y9, y10, y11] H Q := by
  refine ⟨_, rfl, 1, rfl, L, xs, -1, _, rfl, rfl, .inl (.inl hL), atI_last hl, t, _, 1, _, rfl, rfl, .inl (.inl ht), at_of (j := 1) rfl rfl, p, rfl, ⟨_, .inl (.inl hp)⟩, fun D hD => ?_⟩
  refine lc_vals (g := gName 11) (Qd := fun H' => Q (.ref D) H') (walk_tup (K := K) (a := p) (xs := [V.ref e1, V.ref e2])) [.str (Str.ofString (toString (m1.length : Int))), .str (Str.ofString (toString (m2.length : Int)))] rfl (by show 2 < 100000; decide) hD (fun H' s' => .inl (.inl (s' _ _ hp))) yAt_same (fun x σ H Q Q' f h => f _ _ h) (fun i x y H1 H2 Kk hy s1 hx kk => ?_) (fun H1 s1 hl1 => fin D H1 s1 hl1)
  obtain ⟨rfl, hx⟩ := hx
  have small : ∀ k : Nat, k ≤ 100 → ((k : Int)).natAbs.log2 < 1920 := fun k hk => Nat.lt_of_le_of_lt (Nat.log2_le_self _) (by omega)
  match i, hx, hy with
  | 0, hx, hy =>
    cases hx
    cases hy
    exact ⟨rfl, _, rfl, e1, m1, rfl, s1 _ _ h1, _, rfl, small _ l1, kk _ (Same.refl _)⟩
  | 1, hx, hy =>
    cases hx
    cases hy
    exact ⟨rfl, _, rfl, e2, m2, rfl, s1 _ _ h2, _, rfl, small _ l2, kk _ (Same.refl _)⟩
  | _ + 2, hx, _ => cases hx
def spLawT (K : PySem.W.Frag) : Sp := fun vs H Q _ => ∃ (a : Addr) (ns : List Int), vs = [.ref a] ∧ H (He.cT K d_L_step_done.at_).2 = some (.tbl #[]) ∧ H (He.cT K d_law.at_).2 = some (.tbl #[]) ∧ (He.cT K d_L_step_done.at_).2 ≠ (He.cT K d_law.at_).2 ∧ SqL K H a (ns.map V.int) ∧ ∀ H', Q (.bl true) H'
abbrev N_law : List Str := ["_law_script", "_law_bag_here", "_law_names_here", "_law_letters_here", "_law_states", "_law_turn", "_law_deed_here", "_law_asks", "_law_texts", "_law_bench", "_law_ask", "_law_table"]
theorem sc_law : FnScope N_law ["_law_script"] (defScope s_law) := ⟨rfl, rfl, rfl, by decide +kernel, rfl, by decide +kernel, by decide +kernel⟩
theorem b_law : Bnd0 d_law.name d_law.qual d_law.params d_law.body d_law.scope ["_law_script"] := fun _ _ _ _ _ _ us hl => match us, hl with | [_], _ => rfl
theorem ok_law (T : TX w K mg) (TB1 : TabB base mg (He.cT K d_L_step_done.at_).1 (He.cT K d_L_step_done.at_).2) (TB2 : TabB base mg (He.cT K d_law.at_).1 (He.cT K d_law.at_).2) {fd : FuncData} (F : FunD K d_law.name d_law.qual d_law.params d_law.body d_law.scope [] [] (He.fAd K d_law.at_) fd) : FnOk P w K mg base (L2.CX P w) 17 (He.fAd K d_law.at_) fd ["_law_script"] (spLawT K) := by
  refine fn_ofC F sc_law (fun vs H Q E h => ?_) (fun A outer s H vs Q E hr h => ?_)
  · obtain ⟨a, ns, rfl, _⟩ := h
    rfl
  obtain ⟨a, ns, rfl, t1, t2, nP, hS, k⟩ := h
  have nd := sc_law.nd
  have hu := hu_of hr
  have hf1 : ∀ y ∈ lawLams.1.2.2.names, y.2 = .free → d_law.scope.names.lookup y.1 = some .cell ∨ d_law.scope.names.lookup y.1 = some .free := ndef_free (sc := d_law.scope) (nsc := lawLams.1.2.2) (fr := frLaw) (by decide +kernel)
  have hf2 : ∀ y ∈ lawLams.2.2.2.names, y.2 = .free → d_law.scope.names.lookup y.1 = some .cell ∨ d_law.scope.names.lookup y.1 = some .free := ndef_free (sc := d_law.scope) (nsc := lawLams.2.2.2) (fr := frLaw) (by decide +kernel)
  have hr1 := ndef_fr (sc := d_law.scope) (nsc := lawLams.1.2.2) (fr := frLaw) (by decide +kernel)
  have hr2 := ndef_fr (sc := d_law.scope) (nsc := lawLams.2.2.2) (fr := frLaw) (by decide +kernel)
  obtain ⟨fR, fdR, psR, dsR, FR, mR, bR, vR⟩ := ok_Bench_repr (P := P) (base := base) T
  cases vR
  obtain ⟨X, eX⟩ : ∃ X, X = cxOf (L2.CX P w) P w K mg base N_law d_law.qual d_law.scope (He.fAd K d_law.at_) (.ref (He.codeOf K d_law.at_)) A outer s H E := ⟨_, rfl⟩
  obtain ⟨cl1, hcl1⟩ : ∃ cl, cl = cloFrom X.env.cells lawLams.1.2.2.names [] := ⟨_, rfl⟩
  obtain ⟨cl2, hcl2⟩ : ∃ cl, cl = cloFrom X.env.cells lawLams.2.2.2.names [] := ⟨_, rfl⟩
  subst eX
  refine ⟨_, (pss_cons (ps_set (i := 1) nd rfl (Or.inl rfl) (pe_cal (ok_L_bag T) (hr.mono (by decide)) rfl passL (pa_cons (pv 0) pa_nil)))
      (pss_cons (ps_par (i := 2) (j := 3) (by rfl) nd rfl rfl (by decide) rfl rfl (pa_cons (pe_cal (ok_L_names T) (hr.mono (by decide)) rfl passL (pa_cons (pv 1) (pa_cons pe_int pa_nil))) (pa_cons (pe_cal (ok_L_letters T) (hr.mono (by decide)) rfl passL (pa_cons (pv 1) pa_nil)) pa_nil)) (by rfl))
      (pss_cons (ps_set (i := 9) nd rfl (Or.inr rfl) (pe_makE0 (ok_Bench_init0 T) (hr.mono (by decide)) rfl passL))
      (pss_cons (ps_set (i := 4) nd rfl (Or.inl rfl) (pe_lst (pa_cons (pe_tup (pa_cons (pe_tup pa_nil) (pa_cons (pe_tup (pa_cons pe_dnewK (pa_cons pe_dnewK pa_nil))) pa_nil))) pa_nil)))
      (pss_cons (ps_for (passes_of rfl) rfl (pi_range1 rfl T.f_range (pa_cons (pe_cal (ok_L_pull T) (hr.mono (by decide)) rfl passL (pa_cons (pv 1) (pa_cons pe_int pa_nil))) pa_nil)) (pg_name (i := 5) nd rfl (Or.inl rfl))
      (pss_cons (ps_set (i := 6) nd rfl (Or.inl rfl) (pe_cal (ok_L_deed T) (hr.mono (by decide)) rfl passL (pa_cons (pv 1) (pa_cons (pe_ix ix_tup (pe_ix ix_list (pv 4) (pe_un un_neg pe_int) (fun _ _ => rfl)) pe_int (fun _ _ => rfl)) (pa_cons (pv 2) (pa_cons (pv 3) pa_nil))))))
      (pss_one (ps_if (PW.pt (pw_or (pt_not (pt_val (pe_cal (ok_L_step_done T TB1) (hr.mono (by decide)) rfl passL (pa_cons (pv 9) (pa_cons (pv 4) (pa_cons (pv 6) pa_nil)))))) (pw_or1 (pt_not (pt_val (pe_cal (ok_L_stands_so T) (hr.mono (by decide)) rfl passL (pa_cons (pv 9) (pa_cons (pe_ix ix_tup (pe_ix ix_list (pv 4) (pe_un un_neg pe_int) (fun _ _ => rfl)) pe_int (fun _ _ => rfl)) pa_nil))))))))
      (pss_one (ps_ret pe_bl))
      pss_nil))))
      (pss_cons (ps_set (i := 7) nd rfl (Or.inl rfl) (pe_lst (pa_cons (pe_lamM (q := qLaw) (mk := mk1 cl1) TB2 rfl rfl rfl hf1 (by rw [hcl1]; rfl)) (pa_cons (pe_lamDM (q := qLaw) (mk := mk2 cl2) TB2 rfl rfl rfl rfl pe_int hf2 (by rw [hcl2]; rfl)) pa_nil))))
      (pss_cons (ps_if (pt_cmpR (op_neD hr.units) (pe_lcI (own := [("_law_ask", 10)]) (te := fun σ0 σ' H' Q' => tVar 10 σ' H' fun v H1 => RLaw K cl1 cl2 ([9].map (slotAt σ0)) v H1 Q') rfl nd (pi_list (pv 7)) (blkOk_by (N := N_law) (sc := defScope s_law) (by decide +kernel)) (fun _ _ _ _ _ => (pg_name (i := 10) nd rfl (Or.inl rfl))) (fun pins σ s H C cl fp I hfp => pe_calS (R := fun σ' v H' Q' => RLaw K cl1 cl2 ([9].map (slotAt σ)) v H' Q') (ok_L_refusal T (k := 6)) (hr.mono (by decide)) rfl (pv 10) (fun pins' σ' H' s' v Q' I' r => rlaw_ref T (by rw [hcl1]; exact blk_cells I hfp hf1 hr1 rfl I') (by rw [hcl2]; exact blk_cells I hfp hf2 hr2 rfl I') r))) (pe_lst (pa_cons (pe_tup (pa_cons pe_str (pa_cons (pe_un un_neg pe_int) pa_nil))) (pa_cons (pe_tup (pa_cons pe_str (pa_cons (pe_un un_neg pe_int) pa_nil))) pa_nil))) (nomark _))
      (pss_one (ps_ret pe_bl))
      pss_nil)
      (pss_cons (ps_setLc (i := 8) (own := [("_law_table", 11)]) (by rfl) nd rfl rfl (sw_true rfl rfl rfl (by decide +kernel)) (pi_tup (pe_ix ix_tup (pe_ix ix_list (pv 4) (pe_un un_neg pe_int) (fun _ _ => rfl)) pe_int (fun _ _ => rfl))) (blkOk_by (N := N_law) (sc := defScope s_law) (by decide +kernel)) (fun _ _ _ _ _ => (pg_name (i := 11) nd rfl (Or.inl rfl))) (fun _ _ _ _ _ => pts_nil) (fun _ _ _ _ _ => (pe_callTy call_str_int (by rfl) T.f_str (by decide +kernel) (pa_cons (pe_callB call_lenD (by rfl) T.f_len PySem.boot_len (pa_cons (pv 11) pa_nil)) pa_nil))))
      (pss_one (ps_ret (pe_cal (ok_L_same T 7) (hr.mono (by decide)) rfl passL (pa_cons (pe_callB (call_reprO FR mR (hr.mono (by decide)) (room_in1 hr) bR) (by rfl) T.f_repr (by decide +kernel) (pa_cons (pv 9) pa_nil)) (pa_cons (pe_op op_add_str (pe_op op_add_str (pe_op op_add_str (pe_op op_add_str pe_str (pe_ix ix_list (pv 8) pe_int (fun _ _ => rfl))) pe_str) (pe_ix ix_list (pv 8) pe_int (fun _ _ => rfl))) pe_str) pa_nil))))))))))))), ?_⟩
  refine ⟨_, rfl, a, ns, rfl, hS, fun b0 bL cs seed H1 s1 z1 z2 nbL hb0 hbL lcs => ?_⟩
  have t11 := s1 _ _ t1
  have t21 := s1 _ _ t2
  have bag1 : Bag [b0, (He.cT K d_L_step_done.at_).2, (He.cT K d_law.at_).2] b0 bL H1 := ⟨by simp, nin_cons nbL.symm (nin_cons (ne_of_none t1 z2).symm (nin_cons (ne_of_none t2 z2).symm nin_nil)), fun c hc => by
    simp only [List.mem_cons, List.not_mem_nil, or_false] at hc
    rcases hc with rfl | rfl | rfl
    · exact ⟨_, hb0⟩
    · exact ⟨_, t11⟩
    · exact ⟨_, t21⟩, cs, 0, 0, seed, 0, hb0, hbL, by decide, lcs⟩
  refine ⟨_, rfl, [b0, (He.cT K d_L_step_done.at_).2, (He.cT K d_law.at_).2], b0, bL, rfl, bag1, fun q H2 d2 tq => ⟨_, rfl, [b0, (He.cT K d_L_step_done.at_).2, (He.cT K d_law.at_).2], b0, bL, rfl, d2.g, fun l H3 d3 tl => ⟨_, _, rfl, ?_⟩⟩⟩
  have k13 := d2.k.trans d3.k
  have n1b : (He.cT K d_L_step_done.at_).2 ∉ [b0] := kind_nm t11 hb0 (by intro z; cases z)
  have n2b : (He.cT K d_law.at_).2 ∉ [b0] := kind_nm t21 hb0 (by intro z; cases z)
  have t13 := k13 _ _ n1b t11
  have t23 := k13 _ _ n2b t21
  have tq3 := tq.keep (d3.k.sub (fun c hc => by rw [List.mem_singleton.mp hc]; simp))
  have bag3 := d3.g
  refine fun b dx zb zdx nbd => ⟨[b0, (He.cT K d_L_step_done.at_).2, (He.cT K d_law.at_).2], b, dx, rfl, ?_⟩
  have sdx := Same.up (o := .own b) zdx
  have zb' : (upd H3 dx (.own b)) b = none := (upd_ne nbd.symm).trans zb
  have sb := Same.up (o := .ins (He.ga K "Bench") dx []) zb'
  have s34 := sdx.trans sb
  have hb4 : (upd (upd H3 dx (.own b)) b (.ins (He.ga K "Bench") dx [])) b = some (.ins (He.ga K "Bench") dx []) := upd_same
  refine ⟨bag3.tr.same s34, hb4, fun H5 pl k5 zpl hpl' pb5 => ⟨rfl, ?_⟩⟩
  obtain ⟨opl, hopl⟩ := hpl'
  have s35 : Same H3 H5 := fun c o e => k5 c o (fun z => by rw [List.mem_singleton.mp z, zb] at e; cases e) (s34 c o e)
  have zpl3 : H3 pl = none := same_none s34 zpl
  have zpl4 := zpl
  clear zpl hb4 sb zb' sdx
  refine ⟨Nat.zero_le _, fun T1 zT1 e1 ze1 e2 ze2 => ⟨by show 2 ≤ sizeLine; rw [sizeLine_eq]; omega, fun p zp => ⟨by show 2 ≤ sizeLine; rw [sizeLine_eq]; omega, fun t zt => ⟨by show 1 ≤ sizeLine; rw [sizeLine_eq]; omega, fun L zL => ?_⟩⟩⟩⟩
  have s6 := Same.up (o := .tup []) zT1
  have s7 := Same.up (o := .dK []) ze1
  have s8 := Same.up (o := .dK []) ze2
  have s9 := Same.up (o := .tup [V.ref e1, V.ref e2]) zp
  have s10 := Same.up (o := .tup [V.ref T1, V.ref p]) zt
  have s11 := Same.up (o := .lst [V.ref t]) zL
  have hp11 := s11 _ _ (s10 _ _ (upd_same (H := _) (a := p) (o := .tup [V.ref e1, V.ref e2])))
  have ht11 := s11 _ _ (upd_same (H := _) (a := t) (o := .tup [V.ref T1, V.ref p]))
  have hL11 := upd_same (H := upd (upd (upd (upd (upd H5 T1 (.tup [])) e1 (.dK [])) e2 (.dK [])) p (.tup [V.ref e1, V.ref e2])) t (.tup [V.ref T1, V.ref p])) (a := L) (o := .lst [V.ref t])
  have s811 := (s9.trans s10).trans s11
  have he1 := s811 _ _ (s8 _ _ (upd_same (H := _) (a := e1) (o := .dK [])))
  have he2 := s811 _ _ (upd_same (H := _) (a := e2) (o := .dK []))
  have s510 := (((s6.trans s7).trans s8).trans s9).trans s10
  have s511 := s510.trans s11
  have pb8 := pb_same (pb_fresh ze2 (pb_same (pb_fresh ze1 (pb_same pb5 s6)) s7)) s8
  have pb11 := pb_same pb8 s811
  have zL5 : ∀ {c o}, H5 c = some o → c ≠ L := fun e => ne_of_none (s510 _ _ e) zL
  generalize upd (upd (upd (upd (upd (upd H5 T1 (.tup [])) e1 (.dK [])) e2 (.dK [])) p (.tup [V.ref e1, V.ref e2])) t (.tup [V.ref T1, V.ref p])) L (.lst [V.ref t]) = H11 at *
  clear s6 s7 s8 s9 s10 s11 s811 s510 zT1 ze1 ze2 zp zt zL pb8 pb5
  obtain ⟨dxb, ahb, ppb, bvb, bxsb, hb11, hpl11, lxb, pstb⟩ := id pb11
  have s311 := s35.trans s511
  have bagE := (bag3.same s311)
  obtain ⟨bcs, bpos, bpend, bseed, bcnt, hb0', hbL', bp0, bcl⟩ := bagE.ex
  have t111 := s311 _ _ t13
  have t211 := s311 _ _ t23
  have nlst : ∀ {c : Addr} {ys : List V}, H3 c = some (.lst ys) → c ∉ [b0, (He.cT K d_L_step_done.at_).2, (He.cT K d_law.at_).2] → c ∉ [b0, (He.cT K d_L_step_done.at_).2, (He.cT K d_law.at_).2, b, pl, L] := fun {c ys} e n z => by
    simp only [List.mem_cons, List.not_mem_nil, or_false] at z n
    rcases z with z | z | z | z | z | z
    · exact n (.inl z)
    · exact n (.inr (.inl z))
    · exact n (.inr (.inr z))
    · exact ne_of_none e zb z
    · exact ne_of_none e zpl3 z
    · exact zL5 (s35 _ _ e) z
  obtain ⟨zsq, hzq, lq, bq⟩ := tq3.2
  obtain ⟨zsl, hzl, ll, bl⟩ := tl.2
  obtain ⟨bcs3, _, _, _, _, hb03, hbL3, _, _⟩ := bag3.ex
  have nq := nlst hzq tq3.1
  have nl := nlst hzl tl.1
  have nbag := nlst hbL3 bag3.nL
  have trk11 : Trk [b0, (He.cT K d_L_step_done.at_).2, (He.cT K d_law.at_).2, b, pl, L] H11 := fun c hc => by
    simp only [List.mem_cons, List.not_mem_nil, or_false] at hc
    rcases hc with rfl | rfl | rfl | rfl | rfl | rfl
    · exact ⟨_, hb0'⟩
    · exact ⟨_, t111⟩
    · exact ⟨_, t211⟩
    · exact ⟨_, hb11⟩
    · exact ⟨_, hpl11⟩
    · exact ⟨_, hL11⟩
  have ntup : ∀ {c : Addr} {o : HO}, H11 c = some o → (∀ ys, o ≠ .lst ys) → (∀ ys, o ≠ .tbl ys) → (∀ x y z, o ≠ .ins x y z) → c ∉ [b0, (He.cT K d_L_step_done.at_).2, (He.cT K d_law.at_).2, b, pl, L] := fun {c o} e h1 h2 h3 => nin_cons (kind_ne e hb0' (h1 _)) (nin_cons (kind_ne e t111 (h2 _)) (nin_cons (kind_ne e t211 (h2 _)) (nin_cons (kind_ne e hb11 (h3 _ _ _)) (nin_cons (kind_ne e hpl11 (h1 _)) (nin_cons (kind_ne e hL11 (h1 _)) nin_nil)))))
  have nLpl : L ≠ pl := fun z => zL5 hopl z.symm
  have nb0pl : b0 ≠ pl := ne_of_none hb03 zpl3
  have nb0L : b0 ≠ L := zL5 (s35 _ _ hb03)
  have pbM : PB K (e1 :: e2 :: [b0, (He.cT K d_L_step_done.at_).2, (He.cT K d_law.at_).2, b, pl, L]) H11 b pl 0 ⟨[], []⟩ := pb_sub (fun c hc => by
    simp only [List.mem_cons, List.not_mem_nil, or_false] at hc ⊢
    rcases hc with z | z | z | z | z | z | z | z <;> simp [z]) (pb0_more hL11 (by intro xs z; cases z) (by intro xs z; cases z) (pb0_more hpl11 (by intro xs z; cases z) (by intro xs z; cases z) (pb0_more hb11 (by intro xs z; cases z) (by intro xs z; cases z) pb11)))
  have w0 : Wld K [b0, (He.cT K d_L_step_done.at_).2, (He.cT K d_law.at_).2, b, pl, L] H11 b pl L 0 ⟨[], []⟩ [V.ref t] := ⟨by simp, by simp, by simp, trk11, hL11, nLpl, ⟨t, .ref T1, p, e1, e2, [], [], rfl, ntup ht11 (by intro _ z; cases z) (by intro _ z; cases z) (by intro _ _ _ z; cases z), ht11,
    ⟨ntup hp11 (by intro _ z; cases z) (by intro _ z; cases z) (by intro _ _ _ z; cases z), ntup he1 (by intro _ z; cases z) (by intro _ z; cases z) (by intro _ _ _ z; cases z), ntup he2 (by intro _ z; cases z) (by intro _ z; cases z) (by intro _ _ _ z; cases z), hp11, he1, he2, .nil, .nil⟩, pbM⟩, good0, fun p hp => by cases hp⟩
  have bag11 : Bag [b0, (He.cT K d_L_step_done.at_).2, (He.cT K d_law.at_).2, b, pl, L] b0 bL H11 := ⟨by simp, nbag, trk11, bcs, bpos, bpend, bseed, bcnt, hb0', hbL', bp0, bcl⟩
  have tq11 : TxL [b0, (He.cT K d_L_step_done.at_).2, (He.cT K d_law.at_).2, b, pl, L] H11 q zsq := ⟨nq, s311 _ _ hzq, by omega, fun z m => Nat.le_trans (bq z m) (by decide)⟩
  have tl11 : Txts [b0, (He.cT K d_L_step_done.at_).2, (He.cT K d_law.at_).2, b, pl, L] H11 l 3 := ⟨nl, zsl, s311 _ _ hzl, ll, bl⟩
  have tA11 : TabS H11 (He.cT K d_L_step_done.at_).2 qStep := TabS.nil t111
  have tB11 : TabS H11 (He.cT K d_law.at_).2 qLaw := TabS.nil t211
  have mP1 : (He.cT K d_L_step_done.at_).2 ∈ [b0, (He.cT K d_L_step_done.at_).2, (He.cT K d_law.at_).2, b, pl, L] := by simp
  have mP2 : (He.cT K d_law.at_).2 ∈ [b0, (He.cT K d_L_step_done.at_).2, (He.cT K d_law.at_).2, b, pl, L] := by simp
  have mb0 : b0 ∈ [b0, (He.cT K d_L_step_done.at_).2, (He.cT K d_law.at_).2, b, pl, L] := by simp
  generalize hM : [b0, (He.cT K d_L_step_done.at_).2, (He.cT K d_law.at_).2, b, pl, L] = M at *
  clear hM ntup pbM pb11 nlst t111 t211 hb0' hbL' hb11 hpl11 hL11 he1 he2 hp11 ht11 trk11
  dsimp only [gName]
  show tFor _ _ _ ⟨_, _, _, _⟩ _ _
  refine ⟨_, rfl, M, b0, bL, 31, rfl, bag11, by decide, by decide, fun kk H12 k0 k1 d12 => ⟨kk, rfl, by omega, by omega, ?_⟩⟩
  have nb0b : ∀ {Hx : Hp} {cs' o}, Hx b0 = some (.lst cs') → Hx b = some o → (∀ ys, o ≠ .lst ys) → b ≠ b0 := fun e1 e2 h => kind_ne e2 e1 (h _)
  -- a turn's draw leaves the world
  have drawn : ∀ {Hx Hy : Hp} {n st xs}, Wld K M Hx b pl L n st xs → Dr M b0 bL Hx Hy → TabS Hx (He.cT K d_L_step_done.at_).2 qStep → TabS Hx (He.cT K d_law.at_).2 qLaw → Bag M b0 bL Hx → Wld K M Hy b pl L n st xs ∧ TabS Hy (He.cT K d_L_step_done.at_).2 qStep ∧ TabS Hy (He.cT K d_law.at_).2 qLaw := fun {Hx Hy n st xs} wl d ta tb bg => by
    obtain ⟨_, _, _, _, _, hb0x, _, _, _⟩ := bg.ex
    obtain ⟨_, _, _, _, _, _, _, _, _, _, _, hpbx⟩ := wl.last
    obtain ⟨_, _, _, _, _, hbx, hplx, _, _⟩ := hpbx
    obtain ⟨_, hPx, _⟩ := id ta
    obtain ⟨_, hPy, _⟩ := id tb
    refine ⟨wld_keep wl d.k (fun c hc => by rw [List.mem_singleton.mp hc]; exact mb0) (kind_nm hbx hb0x (by intro z; cases z)) (fun z => nb0pl (List.mem_singleton.mp z).symm) (fun z => nb0L (List.mem_singleton.mp z).symm) d.g.tr, ?_, ?_⟩
    · exact tabS_keep2 ta d.k (kind_nm hPx hb0x (by intro z; cases z)) (fun c hc e => by rw [List.mem_singleton.mp hc, hb0x] at e; unfold CodeO at e; cases e)
    · exact tabS_keep2 tb d.k (kind_nm hPy hb0x (by intro z; cases z)) (fun c hc e => by rw [List.mem_singleton.mp hc, hb0x] at e; unfold CodeO at e; cases e)
  refine for_it walk_range (fun i σ H' => (∃ x5 x6 : Option V, σ = [some (.ref a), some (.ref b0), some (.ref q), some (.ref l), some (.ref L), x5, x6, none, none, some (.ref b), none, none]) ∧ ∃ n st xs, Wld K M H' b pl L n st xs ∧ n ≤ i ∧ xs.length ≤ i + 1 ∧ Bag M b0 bL H' ∧ TabS H' (He.cT K d_L_step_done.at_).2 qStep ∧ TabS H' (He.cT K d_law.at_).2 qLaw ∧ TxL M H' q zsq ∧ Txts M H' l 3)
    ⟨⟨none, none, rfl⟩, 0, ⟨[], []⟩, [.ref t], (drawn w0 d12 tA11 tB11 bag11).1, Nat.le_refl _, Nat.le_refl _, d12.g, (drawn w0 d12 tA11 tB11 bag11).2.1, (drawn w0 d12 tA11 tB11 bag11).2.2, tq11.keep (d12.k.sub (fun c hc => by rw [List.mem_singleton.mp hc]; exact mb0)), tl11.keep (d12.k.sub (fun c hc => by rw [List.mem_singleton.mp hc]; exact mb0))⟩ (fun _ _ _ _ _ => trivial) (fun i x σ H' H'' hi q y => ?_) (fun σ H' q => ?_)
  · obtain ⟨⟨x5, x6, rfl⟩, n, st, xs, wl, hn, hx, bg, ta, tb, tq', tl'⟩ := q
    obtain ⟨rfl, rfl⟩ := y
    obtain ⟨t', x0, p', e1', e2', m1', m2', hlast, nt', ht', ls', pb'⟩ := id wl.last
    refine ⟨_, rfl, _, rfl, 1, rfl, L, xs, -1, _, rfl, rfl, .inl (.inl wl.hL), atI_last hlast, t', _, 1, _, rfl, rfl, .inl (.inl ht'), at_of (j := 1) rfl rfl, _, rfl, _, rfl, M, b0, bL, q, l, .ref p', st, zsq, rfl, bg, ⟨p', e1', e2', m1', m2', rfl, ls'⟩, wl.good.t3, tq', lq, tl', fun dv d H13 d13 dd sh => ?_⟩
    obtain ⟨wl13, ta13, tb13⟩ := drawn wl d13 ta tb bg
    have kM13 := d13.k.sub (fun c hc => by rw [List.mem_singleton.mp hc]; exact mb0 : ∀ c ∈ [b0], c ∈ M)
    have tq13 := tq'.keep kM13
    have tl13 := tl'.keep kM13
    dsimp only [gName]
    show tIfS _ _ _ ⟨_, _, _, _⟩ _ _
    refine ⟨_, rfl, _, rfl, _, rfl, M, b, pl, L, n, st, xs, dv, d, rfl, wl13, by omega, by omega, mP1, ta13, dd, sh, fun H14 st' n' xs' k14 ta14 wl14 hn' hx' => ⟨_, rfl, iteF ?_⟩⟩
    obtain ⟨t'', x0', p'', e1'', e2'', m1'', m2'', hlast', nt'', ht'', ls'', pb''⟩ := id wl14.last
    refine ⟨_, rfl, _, rfl, 1, rfl, L, xs', -1, _, rfl, rfl, .inl (.inl wl14.hL), atI_last hlast', t'', _, 1, _, rfl, rfl, .inl (.inl ht''), at_of (j := 1) rfl rfl, M, b, pl, n', st', p'', e1'', e2'', m1'', m2'', rfl, ls'', pb'', wl14.trk, wl14.good, wl14.wok, fun H15 s15 => ⟨_, rfl, iteF ?_⟩⟩
    obtain ⟨gcs, gpos, gpend, gseed, gcnt, hg0, hgL, gp, gl⟩ := d13.g.ex
    obtain ⟨_, _, _, _, _, _, _, _, _, _, _, hpb13⟩ := wl13.last
    obtain ⟨_, _, _, _, _, hb13, hpl13, _, _⟩ := hpb13
    obtain ⟨_, hP13, _⟩ := id ta13
    obtain ⟨_, hQ13, _⟩ := id tb13
    have n0 : b0 ∉ [b, pl, L, (He.cT K d_L_step_done.at_).2] := nin_cons (kind_ne hg0 hb13 (by intro z; cases z)) (nin_cons nb0pl (nin_cons nb0L (nin_cons (kind_ne hg0 hP13 (by intro z; cases z)) nin_nil)))
    have nM : ∀ c ∈ [b, pl, L, (He.cT K d_L_step_done.at_).2], c ∈ M := fun c hc => by
      simp only [List.mem_cons, List.not_mem_nil, or_false] at hc
      rcases hc with rfl | rfl | rfl | rfl
      · exact wl13.mb
      · exact wl13.mp
      · exact wl13.mL
      · exact mP1
    have tb14 : TabS H14 (He.cT K d_law.at_).2 qLaw := tabS_keep2 tb13 k14 (nin_cons (kind_ne hQ13 hb13 (by intro z; cases z)) (nin_cons (kind_ne hQ13 hpl13 (by intro z; cases z)) (nin_cons (kind_ne hQ13 wl13.hL (by intro z; cases z)) (nin_cons nP.symm nin_nil)))) (fun c hc e => by
      unfold CodeO at e
      simp only [List.mem_cons, List.not_mem_nil, or_false] at hc
      rcases hc with z | z | z | z
      · rw [z, hb13] at e; cases e
      · rw [z, hpl13] at e; cases e
      · rw [z, wl13.hL] at e; cases e
      · rw [z] at e
        exact absurd (hP13.symm.trans e) (by intro y; cases y))
    have bg14 : Bag M b0 bL H14 := ⟨d13.g.mb, d13.g.nL, wl14.trk, gcs, gpos, gpend, gseed, gcnt, k14 _ _ n0 hg0, k14 _ _ (fun z => d13.g.nL (nM _ z)) hgL, gp, gl⟩
    exact ⟨⟨_, _, rfl⟩, n', st', xs', wld_keep wl14 (Keep.of s15 : Keep [] H14 H15) (fun c hc => nomatch hc) nin_nil nin_nil nin_nil (wl14.trk.same s15), by omega, by omega, bg14.same s15, tabS_same ta14 s15, tabS_same tb14 s15, (tq13.keep (k14.sub nM)).keep (Keep.of s15), (tl13.keep (k14.sub nM)).keep (Keep.of s15)⟩
  obtain ⟨⟨x5, x6, rfl⟩, n, st, xs, wl, hn, hx, bg, ta, tb, tq', tl'⟩ := q
  have g := wl.good
  obtain ⟨t', x0, p', e1', e2', m1', m2', hlast, nt', ht', ls', pb'⟩ := id wl.last
  obtain ⟨dx', ah', pp', bv', bxs', hb', hpl', lx', pst'⟩ := id pb'
  have l1 := g.l1
  have l2 := g.l2
  dsimp only
  refine ⟨tb, fun f1 c1 H16 k16 tb16 nf1 hf1 hc1 Td zTd => ⟨tabS_same tb16 (Same.up zTd), fun f2 c2 H17 k17 tb17 nf2 hf2' hc2 => ⟨by show 2 ≤ sizeLine; rw [sizeLine_eq]; omega, fun La zLa => ?_⟩⟩⟩
  obtain ⟨_, hQ, _⟩ := id tb
  obtain ⟨_, hQ16, _⟩ := id tb16
  obtain ⟨_, hQ17, _⟩ := id tb17
  have sT := Same.up (o := .tup [V.int 0]) zTd
  have hTd : (upd H16 Td (.tup [V.int 0])) Td = some (.tup [V.int 0]) := upd_same
  have sLa := Same.up (o := .lst [V.ref f1, V.ref f2]) zLa
  have hLa : (upd H17 La (.lst [V.ref f1, V.ref f2])) La = some (.lst [V.ref f1, V.ref f2]) := upd_same
  have nTd : Td ∉ [(He.cT K d_law.at_).2] := kind_nm hTd (sT _ _ hQ16) (by intro z; cases z)
  have nf1' : f1 ∉ [(He.cT K d_law.at_).2] := kind_nm hf1 hQ16 (by intro z; unfold LamO at z; cases z)
  have nc1' : c1 ∉ [(He.cT K d_law.at_).2] := kind_nm hc1 hQ16 (by intro z; unfold CodeO at z; cases z)
  have hf1x := sLa _ _ (k17 _ _ nf1' (sT _ _ hf1))
  have hc1x := sLa _ _ (k17 _ _ nc1' (sT _ _ hc1))
  have hf2x := sLa _ _ hf2'
  have hc2x := sLa _ _ hc2
  have hTdx := sLa _ _ (k17 _ _ nTd hTd)
  have kx : Keep [(He.cT K d_law.at_).2] H' (upd H17 La (.lst [V.ref f1, V.ref f2])) := ((k16.trans (Keep.of sT)).trans k17).trans (Keep.of sLa)
  have nbQ : b ∉ [(He.cT K d_law.at_).2] := kind_nm hb' hQ (by intro z; cases z)
  have nplQ : pl ∉ [(He.cT K d_law.at_).2] := kind_nm hpl' hQ (by intro z; cases z)
  have nLQ : L ∉ [(He.cT K d_law.at_).2] := kind_nm wl.hL hQ (by intro z; cases z)
  have mQ : ∀ c ∈ [(He.cT K d_law.at_).2], c ∈ M := fun c hc => by rw [List.mem_singleton.mp hc]; exact mP2
  have trkx : Trk M (upd H17 La (.lst [V.ref f1, V.ref f2])) := trk_keep wl.trk kx (fun c hc => by rw [List.mem_singleton.mp hc]; exact ⟨_, sLa _ _ hQ17⟩)
  have wlx := wld_keep wl kx mQ nbQ nplQ nLQ trkx
  clear hTd sT sLa k16 k17 kx zTd zLa hf1 hc1 hf2' hc2 hQ16 hQ17 tb16 tb17 nf2
  generalize upd H17 La (.lst [V.ref f1, V.ref f2]) = H18 at *
  clear wl hlast ht' ls' pb' hb' hpl' lx' pst' nt'
  obtain ⟨t', x0, p', e1', e2', m1', m2', hlast, nt', ht', ls', pb'⟩ := id wlx.last
  obtain ⟨dx', ah', pp', bv', bxs', hb', hpl', lx', pst'⟩ := id pb'
  dsimp only [gName]
  show tIfS _ _ _ ⟨_, _, _, _⟩ _ _
  refine ifs_op ?_
  refine asks_lc hLa (fun i x ex H19 Qk s19 put => ?_) (fun D u1 u2 H19 s19 hD h1 h2 => ?_)
  · have nA : getK "A" st.labs = none := name_A fun p hp => (g.a1 p hp).1
    have nW : getK "A" st.wishes = none := name_A g.a2
    match i, ex, put with
    | 0, ex, put =>
      cases ex
      refine .inl ⟨f1, c1, rfl, s19 _ _ hf1x, s19 _ _ hc1x, fun T0 hT0 => ⟨trivial, ?_⟩⟩
      have sT := Same.up (o := .tup [V.str "let", V.int (-1)]) hT0
      refine ⟨_, rfl, b, dx', _, rfl, (s19.trans sT) _ _ hb', rfl, e1' :: e2' :: M, b, pl, n, st, "A", rfl, pb_same pb' (s19.trans sT), fun L lv e => absurd (e.symm.trans nA) (by intro z; cases z), fun _ => ?_⟩
      intro C d' H7 ie hd' s7
      exact ⟨C, d', "nolab", rfl, ie, rfl, hd', fun T2 H21 s21 z2 e => put H7 (sT.trans s7) T2 H21 s21 z2 e⟩
    | 1, ex, put =>
      cases ex
      refine .inr ⟨f2, c2, Td, rfl, s19 _ _ hf2x, s19 _ _ hc2x, fun T0 hT0 => ?_⟩
      have sT := Same.up (o := .tup [V.str "let", V.int (-1)]) hT0
      refine ⟨(s19.trans sT) _ _ hTdx, _, rfl, b, dx', _, rfl, (s19.trans sT) _ _ hb', rfl, e1' :: e2' :: M, b, pl, n, st, "A", rfl, pb_same pb' (s19.trans sT), fun L lv e => absurd (e.symm.trans nW) (by intro z; cases z), fun _ => ?_⟩
      intro C d' H7 ie hd' s7
      exact ⟨C, d', "nowish", rfl, ie, rfl, hd', fun T2 H21 s21 z2 e => put H7 (sT.trans s7) T2 H21 s21 z2 e⟩
    | _ + 2, ex, _ => cases ex
  · refine ⟨1, rfl, by show 2 ≤ sizeLine; rw [sizeLine_eq]; omega, fun u3 z3 => ⟨1, rfl, by show 2 ≤ sizeLine; rw [sizeLine_eq]; omega, fun u4 z4 => ⟨by show 2 ≤ sizeLine; rw [sizeLine_eq]; omega, fun u5 z5 => ?_⟩⟩⟩
    have s20 := Same.up (o := .tup [V.str "nolab", V.int (-1)]) z3
    have s21 := Same.up (o := .tup [V.str "nowish", V.int (-1)]) z4
    have s22 := Same.up (o := .lst [V.ref u3, V.ref u4]) z5
    have g3 := s22 _ _ (s21 _ _ (upd_same (H := H19) (a := u3) (o := .tup [V.str "nolab", V.int (-1)])))
    have g4 := s22 _ _ (upd_same (H := upd H19 u3 (.tup [V.str "nolab", V.int (-1)])) (a := u4) (o := .tup [V.str "nowish", V.int (-1)]))
    have g5 := upd_same (H := upd (upd H19 u3 (.tup [V.str "nolab", V.int (-1)])) u4 (.tup [V.str "nowish", V.int (-1)])) (a := u5) (o := .lst [V.ref u3, V.ref u4])
    have s23 := (s20.trans s21).trans s22
    have hD' := s23 _ _ hD
    have h1' := s23 _ _ h1
    have h2' := s23 _ _ h2
    have two : ∀ {Hx : Hp} {a1 a2 a3 : Addr}, Hx a3 = some (.lst [.ref a1, .ref a2]) → Hx a1 = some (.tup [.str "nolab", .int (-1)]) → Hx a2 = some (.tup [.str "nowish", .int (-1)]) → Dp K Hx (.ref a3) toldD := fun h k1 k2 =>
      .lst (.inl (.inl h)) (.cons (.tup (.inl (.inl k1)) (.cons (.str _) (.cons (.int _) .nil))) (.cons (.tup (.inl (.inl k2)) (.cons (.str _) (.cons (.int _) .nil))) .nil))
    refine ⟨toldD, toldD, two hD' h1' h2', two g5 g3 g4, by decide +kernel, by decide +kernel, ?_⟩
    rw [show (!PyData.eqv toldD toldD) = false by decide +kernel]
    refine ⟨false, rfl, iteF ?_⟩
    have s24 := s19.trans s23
    clear g3 g4 g5 hD' h1' h2' s20 s21 s22 s23 z3 z4 z5 hD h1 h2 two
    generalize upd (upd (upd H19 u3 (.tup [V.str "nolab", V.int (-1)])) u4 (.tup [V.str "nowish", V.int (-1)])) u5 (.lst [V.ref u3, V.ref u4]) = H24 at *
    have q1 : m1'.length = st.labs.length := ls'.r1.length
    have q2 : m2'.length = st.wishes.length := ls'.r2.length
    refine nx_asg ?_
    refine texts_lc (s24 _ _ wlx.hL) hlast (s24 _ _ ht') (s24 _ _ ls'.hp) (s24 _ _ ls'.h1) (s24 _ _ ls'.h2) (by omega) (by omega) fun D3 H25 s25 hD3 => ?_
    have s26 := s24.trans s25
    obtain ⟨S1, eS1⟩ : ∃ S, S = Str.ofString (toString (m1'.length : Int)) := ⟨_, rfl⟩
    obtain ⟨S2, eS2⟩ : ∃ S, S = Str.ofString (toString (m2'.length : Int)) := ⟨_, rfl⟩
    have z1 : S1.length ≤ 10 := by rw [eS1]; exact small_txt' (by omega)
    have z2 : S2.length ≤ 10 := by rw [eS2]; exact small_txt' (by omega)
    have w1 : ("Bench(" : Str).length = 6 := by decide +kernel
    have w2 : (" labs, " : Str).length = 7 := by decide +kernel
    have w3 : (" wishes)" : Str).length = 8 := by decide +kernel
    have eB : benchText st.labs.length st.wishes.length = ((((("Bench(" : Str) ++ S1) ++ " labs, ") ++ S2) ++ " wishes)") := by
      rw [bench_txt, eS1, eS2, q1, q2]
    rw [← eS1, ← eS2] at hD3
    have v1 := len_app "Bench(" S1
    have v2 := len_app ("Bench(" ++ S1) " labs, "
    have v3 := len_app (("Bench(" ++ S1) ++ " labs, ") S2
    refine ⟨_, rfl, b, dx', _, rfl, s26 _ _ hb', e1' :: e2' :: M, b, pl, n, st, rfl, pb_same pb' s26, by omega, by omega, _, rfl, ?_⟩
    refine ⟨_, rfl, D3, _, 0, .str S1, rfl, rfl, .inl (.inl hD3), at_of (j := 0) rfl rfl, _, _, rfl, rfl, by rw [sizeLine_eq]; omega, _, _, rfl, rfl, by rw [sizeLine_eq]; omega, _, rfl, D3, _, 1, .str S2, rfl, rfl, .inl (.inl hD3), at_of (j := 1) rfl rfl, _, _, rfl, rfl, by rw [sizeLine_eq]; omega, _, _, rfl, rfl, by rw [sizeLine_eq]; omega, ?_⟩
    exact ⟨[], _, _, .str (benchText st.labs.length st.wishes.length), rfl, DA.str' _, DA.str_iff.mpr (by rw [eB]), trivial, fun H' _ => k H'⟩
end
end K51


set_option Elab.async false
set_option linter.all false
set_option maxRecDepth 100000
set_option maxHeartbeats 0
namespace K51
open PySem PySem.Spec PyProof.Rows L2 LamX
theorem law_at {w : World} {mg : Str → Option Value} {fa : Addr} {h : Heap} (Y : hkK.says w h) (G : h.Ns mainGlobals mg) (hmg : mg "law" = some (.ref fa)) : ∃ K : PySem.W.Frag, K.In h ∧ LawAtS PySem.Challenge.rw_leakpost_k51_whole_bench_as_told w K (L2.CX PySem.Challenge.rw_leakpost_k51_whole_bench_as_told.prog w) 17 63 "_law_script" mg fa h := by
  obtain ⟨g, hg, e⟩ := Y
  have KI : (fragOf g).In h := fun a o ea => hg a o (He.frT_mem ea).1
  have T : TX w (fragOf g) mg := ⟨g, h, rfl, KI, G, e⟩
  obtain ⟨fd, F⟩ := T.fd_law
  have ef : fa = He.fAd (fragOf g) d_law.at_ := by
    have z := hmg.symm.trans T.g_law
    cases z
    rfl
  subst ef
  obtain ⟨_, e2⟩ := He.ba (congrArg (fun z : AlK => z.2) e)
  obtain ⟨e3, e4⟩ := He.ba e2
  have key : ∀ p ∈ tfL, PySem.W.codeHdIn (fragOf g) (He.cT (fragOf g) p).1 (He.cT (fragOf g) p).2 = true ∧ ∃ o, g (He.cT (fragOf g) p).2 = some o ∧ He.emptyTab o = true := fun p hp => by
    obtain ⟨h3, h4⟩ := He.ba (List.all_eq_true.mp e3 p hp)
    refine ⟨h3, ?_⟩
    cases q : g (He.cT (fragOf g) p).2 with
    | none => rw [q] at h4; cases h4
    | some o => rw [q] at h4; exact ⟨o, rfl, h4⟩
  have m1 : He.cT (fragOf g) d_L_step_done.at_ ∈ tfL.map (He.cT (fragOf g)) := List.mem_map.mpr ⟨("_law_step_done", none), by simp [tfL], rfl⟩
  have m2 : He.cT (fragOf g) d_law.at_ ∈ tfL.map (He.cT (fragOf g)) := List.mem_map.mpr ⟨("law", none), by simp [tfL], rfl⟩
  refine ⟨fragOf g, KI, fd, tfL.map (He.cT (fragOf g)), spLawT (fragOf g), fun p hp => ?_, fun p hp => ?_, fun p hp => ?_, fun s u => ?_, fun H a ns hl hbits hH hS => ?_, fun base hK hNs hTB => ?_⟩
  · obtain ⟨q, hq, rfl⟩ := List.mem_map.mp hp
    obtain ⟨_, o, ho, he⟩ := key q hq
    rw [hg _ _ ho, He.emptyTab_eq he]
  · obtain ⟨q, hq, rfl⟩ := List.mem_map.mp hp
    obtain ⟨_, o, ho, he⟩ := key q hq
    exact He.frT_none ho he
  · obtain ⟨q, hq, rfl⟩ := List.mem_map.mp hp
    exact PySem.W.codeHd_of_K KI (key q hq).1
  · exact F.bindsA (ps := ["_law_script"]) b_law s [u] rfl
  · exact ⟨a, ns, rfl, hH _ m1, hH _ m2, of_decide_eq_true e4, hS, fun _ => rfl⟩
  · exact ok_law T (hTB _ m1) (hTB _ m2) F
end K51
open PySem PySem.W PySem.Calls PyProof.Rows
theorem PySem.Challenge.cw_leakpost_k51_whole_bench_as_told_holds : PySem.Challenge.rw_leakpost_k51_whole_bench_as_told.Holds := by
  w_on; o_law
  refine HandSHeadRun.head_any (r := OpenLaw.row PySem.Challenge.rw_leakpost_k51_whole_bench_as_told) (q := view (OpenLaw.row PySem.Challenge.rw_leakpost_k51_whole_bench_as_told).prog [97]) (H := K51.hkK) (ob := K51.obK) (M := 20000) (loose := K51.loose)
    (d := HandSHeadRun.topDef (OpenLaw.row PySem.Challenge.rw_leakpost_k51_whole_bench_as_told).prog 97) (kwd := []) K51.obK_eq
    (by kernel_rfl) (fun s => by kernel_rfl) K51.run (by kernel_rfl) (by kernel_rfl) (by kernel_rfl) (by rfl) (by first | assumption | decide +kernel) (by decide +kernel) ⟨rfl, rfl, rfl, rfl, rfl, by decide +kernel⟩ ?hw ?hc
  case hw => w_witness2
  case hc =>
    refine LamX.walk_ofTsE (l := PySem.Challenge.rw_leakpost_k51_whole_bench_as_told) (n := 63) (k := 17) (x := "_law_script") (CX := fun w => L2.CX PySem.Challenge.rw_leakpost_k51_whole_bench_as_told.prog w) rfl (by decide) (by kernel_rfl) ⟨rfl, by decide, by decide⟩ ?F (fun w H s e s' z => ?E)
    case F =>
      intro w mg fa h Y G hmg0
      have hmg : mg ("law" : PySem.Str) = some (.ref fa) := by
        have e : (HandSHeadRun.topDef (OpenLaw.row PySem.Challenge.rw_leakpost_k51_whole_bench_as_told).prog 97).name = ("law" : PySem.Str) := by kernel_rfl
        rw [← e]
        exact hmg0
      exact K51.law_at Y G hmg
    case E =>
      obtain ⟨_, _, _, _, _, _, _, _, _, _, _, _, q⟩ := z
      exact q
