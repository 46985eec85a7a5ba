import PyProof.Rows.All
import Wide.All
import OpenK.AllK
import Wide.FinOn
import HandS.ForMost
import KE.KStateDown
import Lean
import HandS.More
import HandS.WordsExc
import HandS.Defaults
import HandS.Head0
import HandS.Head1
import HandS.Head2
import HandS.HeadEnd
import HandS.HeadHook1
import HandS.HeadHook2
import HandS.HeadHook3
import HandS.HeadHook4
import HandS.Deep
import HandS.DeepEq
import HandS.Star
import HandS.Style
import HandS.Small
import HandS.Zip
import HandS.Conv
import HandS.Wide
import HandS.IsInst
import HandS.TupLe
import HandS.TupAny
import HandS.SortInts
import HandS.DictTup
import KE.KDictKeyed
import KE.KUnpackStar
import KE.GoesEnum
import HandS.DictEq
import KE.KSortTupAny
import HandS.Walk
import PySem.Challenge.RW_settledrows_k01_whole_runs
set_option Elab.async false
set_option linter.all false
set_option maxRecDepth 100000
/-! Sr_Text: the text by places. -/
namespace Sr
open PySem L2
def top (i : Nat) : Stmt := PySem.Challenge.pw_settledrows_k01_whole_runs.main.body.getD i (.Pass ⟨0, 0, 0, 0⟩)
abbrev s_e_init : Stmt := inClass (top 3) 0
abbrev s_p_is_number : Stmt := top 9
abbrev s_p_is_word : Stmt := top 10
abbrev s_p_are_rules : Stmt := top 11
abbrev s_p_are_numbers : Stmt := top 12
abbrev s_p_is_protocol : Stmt := top 13
abbrev s_p_check_protocol : Stmt := top 14
abbrev s_h_init : Stmt := inClass (top 18) 0
abbrev s_h_rest : Stmt := inClass (top 18) 1
abbrev s_h_take_role : Stmt := inClass (top 18) 2
abbrev s_h_pair : Stmt := inClass (top 18) 3
abbrev s_h_rise : Stmt := inClass (top 18) 4
abbrev s_w_init : Stmt := inClass (top 19) 0
abbrev s_w_has : Stmt := inClass (top 19) 1
abbrev s_w_post : Stmt := inClass (top 19) 2
abbrev s_w_able : Stmt := inClass (top 19) 3
abbrev s_w_can_hear : Stmt := inClass (top 19) 4
abbrev s_w_leader_is_able : Stmt := inClass (top 19) 5
abbrev s_w_can_settle : Stmt := inClass (top 19) 6
abbrev s_w_do : Stmt := inClass (top 19) 7
abbrev s_w_stand : Stmt := inClass (top 19) 8
abbrev s_w_send : Stmt := inClass (top 19) 9
abbrev s_w_crash : Stmt := inClass (top 19) 10
abbrev s_w_read : Stmt := inClass (top 19) 11
abbrev s_w_hear : Stmt := inClass (top 19) 12
abbrev s_w_lets : Stmt := inClass (top 19) 13
abbrev s_w_take : Stmt := inClass (top 19) 14
abbrev s_w_act : Stmt := inClass (top 19) 15
abbrev s_p_cut_where_unlike : Stmt := top 20
abbrev s_p_hear_told : Stmt := top 21
abbrev s_p_world_behind : Stmt := top 23
abbrev s_p_checked_world : Stmt := top 24
abbrev s_p_told_hand : Stmt := top 25
abbrev s_p_check_hand : Stmt := top 26
abbrev s_p_hand_behind : Stmt := top 27
abbrev s_p_letters : Stmt := top 28
abbrev s_p_leads : Stmt := top 29
abbrev s_p_settles : Stmt := top 30
abbrev s_p_acts : Stmt := top 31
abbrev s_p_answers : Stmt := top 32
abbrev s_l_cell_at : Stmt := top 34
abbrev s_l_draw : Stmt := top 35
abbrev s_l_number : Stmt := top 36
abbrev s_l_next : Stmt := top 37
abbrev s_l_pick : Stmt := top 38
abbrev s_l_rules : Stmt := top 39
abbrev s_l_protocol : Stmt := top 40
abbrev s_l_good : Stmt := top 41
abbrev s_l_hand : Stmt := top 42
abbrev s_l_world : Stmt := top 43
abbrev s_l_has : Stmt := top 44
abbrev s_l_role : Stmt := top 45
abbrev s_l_pair : Stmt := top 46
abbrev s_l_post : Stmt := top 47
abbrev s_l_act : Stmt := top 48
abbrev s_l_settles : Stmt := top 49
abbrev s_l_able : Stmt := top 50
abbrev s_l_do : Stmt := top 51
abbrev s_l_crash : Stmt := top 52
abbrev s_l_lets : Stmt := top 53
abbrev s_l_hear : Stmt := top 54
abbrev s_l_take : Stmt := top 55
abbrev s_l_try : Stmt := top 56
abbrev s_l_all_hear : Stmt := top 57
abbrev s_l_elect : Stmt := top 58
abbrev s_l_hear_own : Stmt := top 59
abbrev s_l_copy : Stmt := top 60
abbrev s_l_read : Stmt := top 61
abbrev s_l_play : Stmt := top 62
abbrev s_l_run : Stmt := top 63
abbrev s_l_due : Stmt := top 64
abbrev s_l_law : Stmt := top 65
end Sr

set_option Elab.async false
set_option linter.all false
set_option maxRecDepth 100000
set_option maxHeartbeats 0
/-! Sr_Head: the head by facts. -/
namespace Sr
open PySem PySem.Spec PyProof.Rows L2
def d_p_is_number : He.DefD := ⟨("is_number", none), "is_number", "is_number", defArgs s_p_is_number, defBody s_p_is_number, defScope s_p_is_number, [], []⟩
def d_p_is_word : He.DefD := ⟨("is_word", none), "is_word", "is_word", defArgs s_p_is_word, defBody s_p_is_word, defScope s_p_is_word, [], []⟩
def d_p_are_rules : He.DefD := ⟨("are_rules", none), "are_rules", "are_rules", defArgs s_p_are_rules, defBody s_p_are_rules, defScope s_p_are_rules, [], []⟩
def d_p_are_numbers : He.DefD := ⟨("are_numbers", none), "are_numbers", "are_numbers", defArgs s_p_are_numbers, defBody s_p_are_numbers, defScope s_p_are_numbers, [], []⟩
def d_p_is_protocol : He.DefD := ⟨("is_protocol", none), "is_protocol", "is_protocol", defArgs s_p_is_protocol, defBody s_p_is_protocol, defScope s_p_is_protocol, [], []⟩
def d_p_check_protocol : He.DefD := ⟨("check_protocol", none), "check_protocol", "check_protocol", defArgs s_p_check_protocol, defBody s_p_check_protocol, defScope s_p_check_protocol, [], []⟩
def d_h_init : He.DefD := ⟨("Hand", some "__init__"), "__init__", "Hand.__init__", defArgs s_h_init, defBody s_h_init, defScope s_h_init, [], []⟩
def d_h_rest : He.DefD := ⟨("Hand", some "rest"), "rest", "Hand.rest", defArgs s_h_rest, defBody s_h_rest, defScope s_h_rest, [], []⟩
def d_h_take_role : He.DefD := ⟨("Hand", some "take_role"), "take_role", "Hand.take_role", defArgs s_h_take_role, defBody s_h_take_role, defScope s_h_take_role, [], []⟩
def d_h_pair : He.DefD := ⟨("Hand", some "pair"), "pair", "Hand.pair", defArgs s_h_pair, defBody s_h_pair, defScope s_h_pair, [], []⟩
def d_h_rise : He.DefD := ⟨("Hand", some "rise"), "rise", "Hand.rise", defArgs s_h_rise, defBody s_h_rise, defScope s_h_rise, [], []⟩
def d_w_init : He.DefD := ⟨("World", some "__init__"), "__init__", "World.__init__", defArgs s_w_init, defBody s_w_init, defScope s_w_init, [], []⟩
def d_w_has : He.DefD := ⟨("World", some "has"), "has", "World.has", defArgs s_w_has, defBody s_w_has, defScope s_w_has, [], []⟩
def d_w_post : He.DefD := ⟨("World", some "post"), "post", "World.post", defArgs s_w_post, defBody s_w_post, defScope s_w_post, [], []⟩
def d_w_able : He.DefD := ⟨("World", some "able"), "able", "World.able", defArgs s_w_able, defBody s_w_able, defScope s_w_able, [], []⟩
def d_w_can_hear : He.DefD := ⟨("World", some "can_hear"), "can_hear", "World.can_hear", defArgs s_w_can_hear, defBody s_w_can_hear, defScope s_w_can_hear, [], []⟩
def d_w_leader_is_able : He.DefD := ⟨("World", some "leader_is_able"), "leader_is_able", "World.leader_is_able", defArgs s_w_leader_is_able, defBody s_w_leader_is_able, defScope s_w_leader_is_able, [], []⟩
def d_w_can_settle : He.DefD := ⟨("World", some "can_settle"), "can_settle", "World.can_settle", defArgs s_w_can_settle, defBody s_w_can_settle, defScope s_w_can_settle, [], []⟩
def d_w_do : He.DefD := ⟨("World", some "do"), "do", "World.do", defArgs s_w_do, defBody s_w_do, defScope s_w_do, [], []⟩
def d_w_stand : He.DefD := ⟨("World", some "stand"), "stand", "World.stand", defArgs s_w_stand, defBody s_w_stand, defScope s_w_stand, [], []⟩
def d_w_send : He.DefD := ⟨("World", some "send"), "send", "World.send", defArgs s_w_send, defBody s_w_send, defScope s_w_send, [], []⟩
def d_w_crash : He.DefD := ⟨("World", some "crash"), "crash", "World.crash", defArgs s_w_crash, defBody s_w_crash, defScope s_w_crash, [], []⟩
def d_w_read : He.DefD := ⟨("World", some "read"), "read", "World.read", defArgs s_w_read, defBody s_w_read, defScope s_w_read, [], []⟩
def d_w_hear : He.DefD := ⟨("World", some "hear"), "hear", "World.hear", defArgs s_w_hear, defBody s_w_hear, defScope s_w_hear, [], []⟩
def d_w_lets : He.DefD := ⟨("World", some "lets"), "lets", "World.lets", defArgs s_w_lets, defBody s_w_lets, defScope s_w_lets, [], []⟩
def d_w_take : He.DefD := ⟨("World", some "take"), "take", "World.take", defArgs s_w_take, defBody s_w_take, defScope s_w_take, [], []⟩
def d_w_act : He.DefD := ⟨("World", some "act"), "act", "World.act", defArgs s_w_act, defBody s_w_act, defScope s_w_act, [], []⟩
def d_p_cut_where_unlike : He.DefD := ⟨("cut_where_unlike", none), "cut_where_unlike", "cut_where_unlike", defArgs s_p_cut_where_unlike, defBody s_p_cut_where_unlike, defScope s_p_cut_where_unlike, [], []⟩
def d_p_hear_told : He.DefD := ⟨("hear_told", none), "hear_told", "hear_told", defArgs s_p_hear_told, defBody s_p_hear_told, defScope s_p_hear_told, [], []⟩
def d_p_world_behind : He.DefD := ⟨("world_behind", none), "world_behind", "world_behind", defArgs s_p_world_behind, defBody s_p_world_behind, defScope s_p_world_behind, [], []⟩
def d_p_checked_world : He.DefD := ⟨("checked_world", none), "checked_world", "checked_world", defArgs s_p_checked_world, defBody s_p_checked_world, defScope s_p_checked_world, [], []⟩
def d_p_told_hand : He.DefD := ⟨("told_hand", none), "told_hand", "told_hand", defArgs s_p_told_hand, defBody s_p_told_hand, defScope s_p_told_hand, [], []⟩
def d_p_check_hand : He.DefD := ⟨("check_hand", none), "check_hand", "check_hand", defArgs s_p_check_hand, defBody s_p_check_hand, defScope s_p_check_hand, [], []⟩
def d_p_hand_behind : He.DefD := ⟨("hand_behind", none), "hand_behind", "hand_behind", defArgs s_p_hand_behind, defBody s_p_hand_behind, defScope s_p_hand_behind, [], []⟩
def d_p_letters : He.DefD := ⟨("letters", none), "letters", "letters", defArgs s_p_letters, defBody s_p_letters, defScope s_p_letters, [], []⟩
def d_p_leads : He.DefD := ⟨("leads", none), "leads", "leads", defArgs s_p_leads, defBody s_p_leads, defScope s_p_leads, [], []⟩
def d_p_settles : He.DefD := ⟨("settles", none), "settles", "settles", defArgs s_p_settles, defBody s_p_settles, defScope s_p_settles, [], []⟩
def d_p_acts : He.DefD := ⟨("acts", none), "acts", "acts", defArgs s_p_acts, defBody s_p_acts, defScope s_p_acts, [], []⟩
def d_p_answers : He.DefD := ⟨("answers", none), "answers", "answers", defArgs s_p_answers, defBody s_p_answers, defScope s_p_answers, [], []⟩
def d_l_cell_at : He.DefD := ⟨("_law_cell_at", none), "_law_cell_at", "_law_cell_at", defArgs s_l_cell_at, defBody s_l_cell_at, defScope s_l_cell_at, [], []⟩
def d_l_draw : He.DefD := ⟨("_law_draw", none), "_law_draw", "_law_draw", defArgs s_l_draw, defBody s_l_draw, defScope s_l_draw, [], []⟩
def d_l_number : He.DefD := ⟨("_law_number", none), "_law_number", "_law_number", defArgs s_l_number, defBody s_l_number, defScope s_l_number, [], []⟩
def d_l_next : He.DefD := ⟨("_law_next", none), "_law_next", "_law_next", defArgs s_l_next, defBody s_l_next, defScope s_l_next, [], []⟩
def d_l_pick : He.DefD := ⟨("_law_pick", none), "_law_pick", "_law_pick", defArgs s_l_pick, defBody s_l_pick, defScope s_l_pick, [], []⟩
def d_l_rules : He.DefD := ⟨("_law_rules", none), "_law_rules", "_law_rules", defArgs s_l_rules, defBody s_l_rules, defScope s_l_rules, [], []⟩
def d_l_protocol : He.DefD := ⟨("_law_protocol", none), "_law_protocol", "_law_protocol", defArgs s_l_protocol, defBody s_l_protocol, defScope s_l_protocol, [], []⟩
def d_l_good : He.DefD := ⟨("_law_good", none), "_law_good", "_law_good", defArgs s_l_good, defBody s_l_good, defScope s_l_good, [], []⟩
def d_l_hand : He.DefD := ⟨("_law_hand", none), "_law_hand", "_law_hand", defArgs s_l_hand, defBody s_l_hand, defScope s_l_hand, [], []⟩
def d_l_world : He.DefD := ⟨("_law_world", none), "_law_world", "_law_world", defArgs s_l_world, defBody s_l_world, defScope s_l_world, [], []⟩
def d_l_has : He.DefD := ⟨("_law_has", none), "_law_has", "_law_has", defArgs s_l_has, defBody s_l_has, defScope s_l_has, [], []⟩
def d_l_role : He.DefD := ⟨("_law_role", none), "_law_role", "_law_role", defArgs s_l_role, defBody s_l_role, defScope s_l_role, [], []⟩
def d_l_pair : He.DefD := ⟨("_law_pair", none), "_law_pair", "_law_pair", defArgs s_l_pair, defBody s_l_pair, defScope s_l_pair, [], []⟩
def d_l_post : He.DefD := ⟨("_law_post", none), "_law_post", "_law_post", defArgs s_l_post, defBody s_l_post, defScope s_l_post, [], []⟩
def d_l_act : He.DefD := ⟨("_law_act", none), "_law_act", "_law_act", defArgs s_l_act, defBody s_l_act, defScope s_l_act, [], []⟩
def d_l_settles : He.DefD := ⟨("_law_settles", none), "_law_settles", "_law_settles", defArgs s_l_settles, defBody s_l_settles, defScope s_l_settles, [], []⟩
def d_l_able : He.DefD := ⟨("_law_able", none), "_law_able", "_law_able", defArgs s_l_able, defBody s_l_able, defScope s_l_able, [], []⟩
def d_l_do : He.DefD := ⟨("_law_do", none), "_law_do", "_law_do", defArgs s_l_do, defBody s_l_do, defScope s_l_do, [], []⟩
def d_l_crash : He.DefD := ⟨("_law_crash", none), "_law_crash", "_law_crash", defArgs s_l_crash, defBody s_l_crash, defScope s_l_crash, [], []⟩
def d_l_lets : He.DefD := ⟨("_law_lets", none), "_law_lets", "_law_lets", defArgs s_l_lets, defBody s_l_lets, defScope s_l_lets, [], []⟩
def d_l_hear : He.DefD := ⟨("_law_hear", none), "_law_hear", "_law_hear", defArgs s_l_hear, defBody s_l_hear, defScope s_l_hear, [], []⟩
def d_l_take : He.DefD := ⟨("_law_take", none), "_law_take", "_law_take", defArgs s_l_take, defBody s_l_take, defScope s_l_take, [], []⟩
def d_l_try : He.DefD := ⟨("_law_try", none), "_law_try", "_law_try", defArgs s_l_try, defBody s_l_try, defScope s_l_try, [], []⟩
def d_l_all_hear : He.DefD := ⟨("_law_all_hear", none), "_law_all_hear", "_law_all_hear", defArgs s_l_all_hear, defBody s_l_all_hear, defScope s_l_all_hear, [], []⟩
def d_l_elect : He.DefD := ⟨("_law_elect", none), "_law_elect", "_law_elect", defArgs s_l_elect, defBody s_l_elect, defScope s_l_elect, [], []⟩
def d_l_hear_own : He.DefD := ⟨("_law_hear_own", none), "_law_hear_own", "_law_hear_own", defArgs s_l_hear_own, defBody s_l_hear_own, defScope s_l_hear_own, [], []⟩
def d_l_copy : He.DefD := ⟨("_law_copy", none), "_law_copy", "_law_copy", defArgs s_l_copy, defBody s_l_copy, defScope s_l_copy, [], []⟩
def d_l_read : He.DefD := ⟨("_law_read", none), "_law_read", "_law_read", defArgs s_l_read, defBody s_l_read, defScope s_l_read, [], []⟩
def d_l_play : He.DefD := ⟨("_law_play", none), "_law_play", "_law_play", defArgs s_l_play, defBody s_l_play, defScope s_l_play, [], []⟩
def d_l_run : He.DefD := ⟨("_law_run", none), "_law_run", "_law_run", defArgs s_l_run, defBody s_l_run, defScope s_l_run, [], []⟩
def d_l_due : He.DefD := ⟨("_law_due", none), "_law_due", "_law_due", defArgs s_l_due, defBody s_l_due, defScope s_l_due, [], []⟩
def d_l_law : He.DefD := ⟨("law", none), "law", "law", defArgs s_l_law, defBody s_l_law, defScope s_l_law, [], []⟩
def fn1 : List He.DefD := [d_p_is_number, d_p_is_word, d_p_are_rules, d_p_are_numbers, d_p_is_protocol, d_p_check_protocol, d_h_init, d_h_rest, d_h_take_role, d_h_pair, d_h_rise, d_w_init, d_w_has, d_w_post, d_w_able, d_w_can_hear, d_w_leader_is_able, d_w_can_settle, d_w_do, d_w_stand, d_w_send, d_w_crash, d_w_read, d_w_hear, d_w_lets, d_w_take, d_w_act, d_p_cut_where_unlike, d_p_hear_told, d_p_world_behind, d_p_checked_world, d_p_told_hand, d_p_check_hand, d_p_hand_behind, d_p_letters, d_p_leads]
def fn2 : List He.DefD := [d_p_settles, d_p_acts, d_p_answers, d_l_cell_at, d_l_draw, d_l_number, d_l_next, d_l_pick, d_l_rules, d_l_protocol, d_l_good, d_l_hand, d_l_world, d_l_has, d_l_role, d_l_pair, d_l_post, d_l_act, d_l_settles, d_l_able, d_l_do, d_l_crash, d_l_lets, d_l_hear, d_l_take, d_l_try, d_l_all_hear, d_l_elect, d_l_hear_own, d_l_copy, d_l_read, d_l_play, d_l_run, d_l_due, d_l_law]
def fn : List He.DefD := fn1 ++ fn2
def fa1 : List He.Fa := [.glo "is_number", .glo "is_word", .glo "are_rules", .glo "are_numbers", .glo "is_protocol", .glo "check_protocol", .glo "cut_where_unlike", .glo "hear_told", .glo "world_behind", .glo "checked_world", .glo "told_hand", .glo "check_hand", .glo "hand_behind", .glo "letters", .glo "leads", .glo "settles", .glo "acts", .glo "answers", .glo "_law_cell_at", .glo "_law_draw", .glo "_law_number", .glo "_law_next", .glo "_law_pick", .glo "_law_rules", .glo "_law_protocol", .glo "_law_good", .glo "_law_hand", .glo "_law_world", .glo "_law_has", .glo "_law_role", .glo "_law_pair", .glo "_law_post", .glo "_law_act", .glo "_law_settles", .glo "_law_able", .glo "_law_do"]
def fa2 : List He.Fa := [.glo "_law_crash", .glo "_law_lets", .glo "_law_hear", .glo "_law_take", .glo "_law_try", .glo "_law_all_hear", .glo "_law_elect", .glo "_law_hear_own", .glo "_law_copy", .glo "_law_read", .glo "_law_play", .glo "_law_run", .glo "_law_due", .glo "law", .glo "Hand", .cls "Hand", .mkr "Hand", .keep "Hand", .glo "World", .cls "World", .mkr "World", .keep "World", .noat "Hand" "term", .noat "Hand" "vote", .noat "Hand" "log", .noat "Hand" "sure", .noat "Hand" "role", .noat "Hand" "got", .noat "Hand" "known", .noat "Hand" "told", .noat "Hand" "begun", .noat "Hand" "wishes", .noat "World" "protocol", .noat "World" "hands", .noat "World" "bag", .noat "World" "numbers"]
def fa3 : List He.Fa := [.noat "World" "leads", .noat "World" "settles", .noat "World" "answers", .noat "World" "asked", .noat "World" "acts", .noat "World" "posted", .meth "Hand" "rest", .meth "Hand" "take_role", .meth "Hand" "pair", .meth "Hand" "rise", .meth "World" "has", .meth "World" "post", .meth "World" "able", .meth "World" "can_hear", .meth "World" "leader_is_able", .meth "World" "can_settle", .meth "World" "do", .meth "World" "stand", .meth "World" "send", .meth "World" "crash", .meth "World" "read", .meth "World" "hear", .meth "World" "lets", .meth "World" "take", .meth "World" "act", .free "all", .free "bool", .free "enumerate", .free "int", .free "isinstance", .free "len", .free "list", .free "max", .free "min", .free "range", .free "sorted"]
def fa4 : List He.Fa := [.free "str", .free "tuple", .free "zip", .int "MOST_HANDS" 7, .int "MOST_VALUE" 9, .glo "LOOKS", .glo "RULES", .glo "SIZES"]
def fa : List He.Fa := fa1 ++ (fa2 ++ (fa3 ++ fa4))
def loose1 : List PySem.Str := ["SettledError", "BadProtocol", "BadRun", "BadHand", "MOST_HANDS", "LOOKS", "RULES", "is_number", "is_word", "are_rules", "are_numbers", "is_protocol", "check_protocol", "MOST_VALUE", "SIZES", "Hand", "World", "cut_where_unlike", "hear_told", "world_behind", "checked_world", "told_hand", "check_hand", "hand_behind", "letters", "leads", "settles", "acts", "answers", "_law_cell_at"]
def loose2 : List PySem.Str := ["_law_draw", "_law_number", "_law_next", "_law_pick", "_law_rules", "_law_protocol", "_law_good", "_law_hand", "_law_world", "_law_has", "_law_role", "_law_pair", "_law_post", "_law_act", "_law_settles", "_law_able", "_law_do", "_law_crash", "_law_lets", "_law_hear", "_law_take", "_law_try", "_law_all_hear", "_law_elect", "_law_hear_own", "_law_copy", "_law_read", "_law_play", "_law_run", "_law_due"]
def looseAll : List PySem.Str := loose1 ++ loose2
def tabs : List He.Tab := [(fun K => He.ga K "SIZES", ["stand", "lead", "put", "send", "settle", "wish", "answer", "crash", "hear"])]
abbrev R : PySem.W.OpenRow := PySem.W.OpenLaw.row PySem.Challenge.rw_settledrows_k01_whole_runs
def strsD (l : List PySem.Str) : List He.Dv := l.map He.Dv.str
def looksL : List PySem.Str := ["none", "count", "term", "both"]
def rulesL : List PySem.Str := ["ahead", "cuts", "first", "near", "own", "rows", "votes"]
def sizesL : List (PySem.Str × He.Dv) := [("stand", .int 2), ("lead", .int 2), ("put", .int 3), ("send", .int 4), ("settle", .int 3), ("wish", .int 2), ("answer", .int 3), ("crash", .int 2), ("hear", .int 3)]
def exB (K : PySem.W.Frag) : Bool := He.tupB K "LOOKS" (strsD looksL) && (He.tupB K "RULES" (strsD rulesL) && He.valsB K (He.ga K "SIZES") sizesL)
abbrev hk : PySem.W.Hook := He.hookX 5 fa fn tabs [] exB
def ob (s : PySem.W.SharedT) : He.AlX := He.obsX 5 fa fn tabs [] exB (HandSHeadRun.getT s)
theorem ob_eq (s : PySem.W.SharedT) : ob s = hk.obs s.abs := He.obsX_eq (HandSHeadRun.getT_eq s)
end Sr

set_option Elab.async false
set_option linter.all false
set_option maxRecDepth 100000
set_option maxHeartbeats 0
/-! Sr_Head: the head by facts. -/
namespace Sr
open PySem PySem.Spec PyProof.Rows L2
theorem runF (w : World) : HandSHeadRun.RunEq R (PySem.W.view R.prog [65]) hk ob 8000 looseAll (w.withFollow "special-get-raises" false) := by
  intro os
  kernel_rfl
theorem runT (w : World) : HandSHeadRun.RunEq R (PySem.W.view R.prog [65]) hk ob 8000 looseAll (w.withFollow "special-get-raises" true) := by
  intro os
  kernel_rfl
theorem run (w : World) : HandSHeadRun.RunEq R (PySem.W.view R.prog [65]) hk ob 8000 looseAll w :=
  PySem.W.byRow2 "special-get-raises" (P := fun w => HandSHeadRun.RunEq R (PySem.W.view R.prog [65]) hk ob 8000 looseAll w) runF runT w
end Sr

set_option Elab.async false
set_option linter.all false
set_option maxRecDepth 100000
set_option maxHeartbeats 4000000
/-! Sr_Tx: what is known of the top. -/
namespace Sr
open PySem PySem.Spec PyProof.Rows L2
/-- what is known of the top, at a world -/
structure Tx (w : World) (K : PySem.W.Frag) (mg : Str → Option Value) : Prop where
  says : ∃ h, He.SaysX fa fn tabs [] exB w h K
  mgo : ∀ {x : Str} {u : Value}, PySem.W.nsIn K mainGlobals x = some (some u) → mg x = some u
  mgn : ∀ {x : Str}, PySem.W.nsIn K mainGlobals x = some none → mg x = none
section
variable {w : World} {K : PySem.W.Frag} {mg : Str → Option Value}
theorem Tx.fact (T : Tx w K mg) (i : Nat) {f : He.Fa} (h : fa[i]? = some f) : f.ok K = true := let ⟨_, c⟩ := T.says; c.t.d.fact i h
theorem Tx.defd (T : Tx w K mg) (i : Nat) {d : He.DefD} (h : fn[i]? = some d) : ∃ fd, FunD K d.name d.qual d.params d.body d.scope (d.dvs K) (d.kws K) (He.fAd K d.at_) fd := let ⟨_, c⟩ := T.says; c.t.d.def_ i h
theorem Tx.glo (T : Tx w K mg) (i : Nat) {x : Str} (h : fa[i]? = some (.glo x)) : mg x = some (.ref (He.ga K x)) := T.mgo (He.eqO_ok (T.fact i h))
theorem Tx.free (T : Tx w K mg) (i : Nat) {x : Str} (h : fa[i]? = some (.free x)) : mg x = none := T.mgn (He.eqO_ok (T.fact i h))
theorem Tx.int (T : Tx w K mg) (i : Nat) {x : Str} {z : Int} (h : fa[i]? = some (.int x z)) : ∃ t, mg x = some (.int z t) := by
  have c2 : (match PySem.W.nsIn K mainGlobals x with
    | some (some (.int j _)) => decide (j = z)
    | _ => false) = true := T.fact i h
  cases e : PySem.W.nsIn K mainGlobals x with
  | none => rw [e] at c2; cases c2
  | some o =>
    rw [e] at c2
    cases o with
    | none => cases c2
    | some v =>
      cases v with
      | int j t =>
        have ej : j = z := of_decide_eq_true c2
        rw [ej] at e
        exact ⟨t, T.mgo e⟩
      | _ => cases c2
abbrev CH (K : PySem.W.Frag) : Addr := He.ga K "Hand"
abbrev CW (K : PySem.W.Frag) : Addr := He.ga K "World"
theorem Tx.g_is_number (T : Tx w K mg) : mg "is_number" = some (.ref (He.ga K "is_number")) := T.glo 0 rfl
theorem Tx.g_is_word (T : Tx w K mg) : mg "is_word" = some (.ref (He.ga K "is_word")) := T.glo 1 rfl
theorem Tx.g_are_rules (T : Tx w K mg) : mg "are_rules" = some (.ref (He.ga K "are_rules")) := T.glo 2 rfl
theorem Tx.g_are_numbers (T : Tx w K mg) : mg "are_numbers" = some (.ref (He.ga K "are_numbers")) := T.glo 3 rfl
theorem Tx.g_is_protocol (T : Tx w K mg) : mg "is_protocol" = some (.ref (He.ga K "is_protocol")) := T.glo 4 rfl
theorem Tx.g_check_protocol (T : Tx w K mg) : mg "check_protocol" = some (.ref (He.ga K "check_protocol")) := T.glo 5 rfl
theorem Tx.g_cut_where_unlike (T : Tx w K mg) : mg "cut_where_unlike" = some (.ref (He.ga K "cut_where_unlike")) := T.glo 6 rfl
theorem Tx.g_hear_told (T : Tx w K mg) : mg "hear_told" = some (.ref (He.ga K "hear_told")) := T.glo 7 rfl
theorem Tx.g_world_behind (T : Tx w K mg) : mg "world_behind" = some (.ref (He.ga K "world_behind")) := T.glo 8 rfl
theorem Tx.g_checked_world (T : Tx w K mg) : mg "checked_world" = some (.ref (He.ga K "checked_world")) := T.glo 9 rfl
theorem Tx.g_told_hand (T : Tx w K mg) : mg "told_hand" = some (.ref (He.ga K "told_hand")) := T.glo 10 rfl
theorem Tx.g_check_hand (T : Tx w K mg) : mg "check_hand" = some (.ref (He.ga K "check_hand")) := T.glo 11 rfl
theorem Tx.g_hand_behind (T : Tx w K mg) : mg "hand_behind" = some (.ref (He.ga K "hand_behind")) := T.glo 12 rfl
theorem Tx.g_letters (T : Tx w K mg) : mg "letters" = some (.ref (He.ga K "letters")) := T.glo 13 rfl
theorem Tx.g_leads (T : Tx w K mg) : mg "leads" = some (.ref (He.ga K "leads")) := T.glo 14 rfl
theorem Tx.g_settles (T : Tx w K mg) : mg "settles" = some (.ref (He.ga K "settles")) := T.glo 15 rfl
theorem Tx.g_acts (T : Tx w K mg) : mg "acts" = some (.ref (He.ga K "acts")) := T.glo 16 rfl
theorem Tx.g_answers (T : Tx w K mg) : mg "answers" = some (.ref (He.ga K "answers")) := T.glo 17 rfl
theorem Tx.g_l_cell_at (T : Tx w K mg) : mg "_law_cell_at" = some (.ref (He.ga K "_law_cell_at")) := T.glo 18 rfl
theorem Tx.g_l_draw (T : Tx w K mg) : mg "_law_draw" = some (.ref (He.ga K "_law_draw")) := T.glo 19 rfl
theorem Tx.g_l_number (T : Tx w K mg) : mg "_law_number" = some (.ref (He.ga K "_law_number")) := T.glo 20 rfl
theorem Tx.g_l_next (T : Tx w K mg) : mg "_law_next" = some (.ref (He.ga K "_law_next")) := T.glo 21 rfl
theorem Tx.g_l_pick (T : Tx w K mg) : mg "_law_pick" = some (.ref (He.ga K "_law_pick")) := T.glo 22 rfl
theorem Tx.g_l_rules (T : Tx w K mg) : mg "_law_rules" = some (.ref (He.ga K "_law_rules")) := T.glo 23 rfl
theorem Tx.g_l_protocol (T : Tx w K mg) : mg "_law_protocol" = some (.ref (He.ga K "_law_protocol")) := T.glo 24 rfl
theorem Tx.g_l_good (T : Tx w K mg) : mg "_law_good" = some (.ref (He.ga K "_law_good")) := T.glo 25 rfl
theorem Tx.g_l_hand (T : Tx w K mg) : mg "_law_hand" = some (.ref (He.ga K "_law_hand")) := T.glo 26 rfl
theorem Tx.g_l_world (T : Tx w K mg) : mg "_law_world" = some (.ref (He.ga K "_law_world")) := T.glo 27 rfl
theorem Tx.g_l_has (T : Tx w K mg) : mg "_law_has" = some (.ref (He.ga K "_law_has")) := T.glo 28 rfl
theorem Tx.g_l_role (T : Tx w K mg) : mg "_law_role" = some (.ref (He.ga K "_law_role")) := T.glo 29 rfl
theorem Tx.g_l_pair (T : Tx w K mg) : mg "_law_pair" = some (.ref (He.ga K "_law_pair")) := T.glo 30 rfl
theorem Tx.g_l_post (T : Tx w K mg) : mg "_law_post" = some (.ref (He.ga K "_law_post")) := T.glo 31 rfl
theorem Tx.g_l_act (T : Tx w K mg) : mg "_law_act" = some (.ref (He.ga K "_law_act")) := T.glo 32 rfl
theorem Tx.g_l_settles (T : Tx w K mg) : mg "_law_settles" = some (.ref (He.ga K "_law_settles")) := T.glo 33 rfl
theorem Tx.g_l_able (T : Tx w K mg) : mg "_law_able" = some (.ref (He.ga K "_law_able")) := T.glo 34 rfl
theorem Tx.g_l_do (T : Tx w K mg) : mg "_law_do" = some (.ref (He.ga K "_law_do")) := T.glo 35 rfl
theorem Tx.g_l_crash (T : Tx w K mg) : mg "_law_crash" = some (.ref (He.ga K "_law_crash")) := T.glo 36 rfl
theorem Tx.g_l_lets (T : Tx w K mg) : mg "_law_lets" = some (.ref (He.ga K "_law_lets")) := T.glo 37 rfl
theorem Tx.g_l_hear (T : Tx w K mg) : mg "_law_hear" = some (.ref (He.ga K "_law_hear")) := T.glo 38 rfl
theorem Tx.g_l_take (T : Tx w K mg) : mg "_law_take" = some (.ref (He.ga K "_law_take")) := T.glo 39 rfl
theorem Tx.g_l_try (T : Tx w K mg) : mg "_law_try" = some (.ref (He.ga K "_law_try")) := T.glo 40 rfl
theorem Tx.g_l_all_hear (T : Tx w K mg) : mg "_law_all_hear" = some (.ref (He.ga K "_law_all_hear")) := T.glo 41 rfl
theorem Tx.g_l_elect (T : Tx w K mg) : mg "_law_elect" = some (.ref (He.ga K "_law_elect")) := T.glo 42 rfl
theorem Tx.g_l_hear_own (T : Tx w K mg) : mg "_law_hear_own" = some (.ref (He.ga K "_law_hear_own")) := T.glo 43 rfl
theorem Tx.g_l_copy (T : Tx w K mg) : mg "_law_copy" = some (.ref (He.ga K "_law_copy")) := T.glo 44 rfl
theorem Tx.g_l_read (T : Tx w K mg) : mg "_law_read" = some (.ref (He.ga K "_law_read")) := T.glo 45 rfl
theorem Tx.g_l_play (T : Tx w K mg) : mg "_law_play" = some (.ref (He.ga K "_law_play")) := T.glo 46 rfl
theorem Tx.g_l_run (T : Tx w K mg) : mg "_law_run" = some (.ref (He.ga K "_law_run")) := T.glo 47 rfl
theorem Tx.g_l_due (T : Tx w K mg) : mg "_law_due" = some (.ref (He.ga K "_law_due")) := T.glo 48 rfl
theorem Tx.g_l_law (T : Tx w K mg) : mg "law" = some (.ref (He.ga K "law")) := T.glo 49 rfl
theorem Tx.g_Hand (T : Tx w K mg) : mg "Hand" = some (.ref (He.ga K "Hand")) := T.glo 50 rfl
theorem Tx.cl_Hand (T : Tx w K mg) : Cls K (He.ga K "Hand") := He.cls_ok (x := "Hand") (T.fact 51 rfl)
theorem Tx.mk_Hand (T : Tx w K mg) : Mk K (He.ga K "Hand") (He.ma K (He.ga K "Hand") "__init__") := He.mkr_ok (x := "Hand") (T.fact 52 rfl)
theorem Tx.g_World (T : Tx w K mg) : mg "World" = some (.ref (He.ga K "World")) := T.glo 54 rfl
theorem Tx.cl_World (T : Tx w K mg) : Cls K (He.ga K "World") := He.cls_ok (x := "World") (T.fact 55 rfl)
theorem Tx.mk_World (T : Tx w K mg) : Mk K (He.ga K "World") (He.ma K (He.ga K "World") "__init__") := He.mkr_ok (x := "World") (T.fact 56 rfl)
theorem Tx.no_Hand_term (T : Tx w K mg) : NoAttr K (He.ga K "Hand") "term" := He.noat_ok (x := "Hand") (f := "term") (T.fact 58 rfl)
theorem Tx.no_Hand_vote (T : Tx w K mg) : NoAttr K (He.ga K "Hand") "vote" := He.noat_ok (x := "Hand") (f := "vote") (T.fact 59 rfl)
theorem Tx.no_Hand_log (T : Tx w K mg) : NoAttr K (He.ga K "Hand") "log" := He.noat_ok (x := "Hand") (f := "log") (T.fact 60 rfl)
theorem Tx.no_Hand_sure (T : Tx w K mg) : NoAttr K (He.ga K "Hand") "sure" := He.noat_ok (x := "Hand") (f := "sure") (T.fact 61 rfl)
theorem Tx.no_Hand_role (T : Tx w K mg) : NoAttr K (He.ga K "Hand") "role" := He.noat_ok (x := "Hand") (f := "role") (T.fact 62 rfl)
theorem Tx.no_Hand_got (T : Tx w K mg) : NoAttr K (He.ga K "Hand") "got" := He.noat_ok (x := "Hand") (f := "got") (T.fact 63 rfl)
theorem Tx.no_Hand_known (T : Tx w K mg) : NoAttr K (He.ga K "Hand") "known" := He.noat_ok (x := "Hand") (f := "known") (T.fact 64 rfl)
theorem Tx.no_Hand_told (T : Tx w K mg) : NoAttr K (He.ga K "Hand") "told" := He.noat_ok (x := "Hand") (f := "told") (T.fact 65 rfl)
theorem Tx.no_Hand_begun (T : Tx w K mg) : NoAttr K (He.ga K "Hand") "begun" := He.noat_ok (x := "Hand") (f := "begun") (T.fact 66 rfl)
theorem Tx.no_Hand_wishes (T : Tx w K mg) : NoAttr K (He.ga K "Hand") "wishes" := He.noat_ok (x := "Hand") (f := "wishes") (T.fact 67 rfl)
theorem Tx.no_World_protocol (T : Tx w K mg) : NoAttr K (He.ga K "World") "protocol" := He.noat_ok (x := "World") (f := "protocol") (T.fact 68 rfl)
theorem Tx.no_World_hands (T : Tx w K mg) : NoAttr K (He.ga K "World") "hands" := He.noat_ok (x := "World") (f := "hands") (T.fact 69 rfl)
theorem Tx.no_World_bag (T : Tx w K mg) : NoAttr K (He.ga K "World") "bag" := He.noat_ok (x := "World") (f := "bag") (T.fact 70 rfl)
theorem Tx.no_World_numbers (T : Tx w K mg) : NoAttr K (He.ga K "World") "numbers" := He.noat_ok (x := "World") (f := "numbers") (T.fact 71 rfl)
theorem Tx.no_World_leads (T : Tx w K mg) : NoAttr K (He.ga K "World") "leads" := He.noat_ok (x := "World") (f := "leads") (T.fact 72 rfl)
theorem Tx.no_World_settles (T : Tx w K mg) : NoAttr K (He.ga K "World") "settles" := He.noat_ok (x := "World") (f := "settles") (T.fact 73 rfl)
theorem Tx.no_World_answers (T : Tx w K mg) : NoAttr K (He.ga K "World") "answers" := He.noat_ok (x := "World") (f := "answers") (T.fact 74 rfl)
theorem Tx.no_World_asked (T : Tx w K mg) : NoAttr K (He.ga K "World") "asked" := He.noat_ok (x := "World") (f := "asked") (T.fact 75 rfl)
theorem Tx.no_World_acts (T : Tx w K mg) : NoAttr K (He.ga K "World") "acts" := He.noat_ok (x := "World") (f := "acts") (T.fact 76 rfl)
theorem Tx.no_World_posted (T : Tx w K mg) : NoAttr K (He.ga K "World") "posted" := He.noat_ok (x := "World") (f := "posted") (T.fact 77 rfl)
theorem Tx.m_Hand_rest (T : Tx w K mg) : Meth K (He.ga K "Hand") "rest" (He.ma K (He.ga K "Hand") "rest") := He.meth_ok (x := "Hand") (m := "rest") (T.fact 78 rfl)
theorem Tx.m_Hand_take_role (T : Tx w K mg) : Meth K (He.ga K "Hand") "take_role" (He.ma K (He.ga K "Hand") "take_role") := He.meth_ok (x := "Hand") (m := "take_role") (T.fact 79 rfl)
theorem Tx.m_Hand_pair (T : Tx w K mg) : Meth K (He.ga K "Hand") "pair" (He.ma K (He.ga K "Hand") "pair") := He.meth_ok (x := "Hand") (m := "pair") (T.fact 80 rfl)
theorem Tx.m_Hand_rise (T : Tx w K mg) : Meth K (He.ga K "Hand") "rise" (He.ma K (He.ga K "Hand") "rise") := He.meth_ok (x := "Hand") (m := "rise") (T.fact 81 rfl)
theorem Tx.m_World_has (T : Tx w K mg) : Meth K (He.ga K "World") "has" (He.ma K (He.ga K "World") "has") := He.meth_ok (x := "World") (m := "has") (T.fact 82 rfl)
theorem Tx.m_World_post (T : Tx w K mg) : Meth K (He.ga K "World") "post" (He.ma K (He.ga K "World") "post") := He.meth_ok (x := "World") (m := "post") (T.fact 83 rfl)
theorem Tx.m_World_able (T : Tx w K mg) : Meth K (He.ga K "World") "able" (He.ma K (He.ga K "World") "able") := He.meth_ok (x := "World") (m := "able") (T.fact 84 rfl)
theorem Tx.m_World_can_hear (T : Tx w K mg) : Meth K (He.ga K "World") "can_hear" (He.ma K (He.ga K "World") "can_hear") := He.meth_ok (x := "World") (m := "can_hear") (T.fact 85 rfl)
theorem Tx.m_World_leader_is_able (T : Tx w K mg) : Meth K (He.ga K "World") "leader_is_able" (He.ma K (He.ga K "World") "leader_is_able") := He.meth_ok (x := "World") (m := "leader_is_able") (T.fact 86 rfl)
theorem Tx.m_World_can_settle (T : Tx w K mg) : Meth K (He.ga K "World") "can_settle" (He.ma K (He.ga K "World") "can_settle") := He.meth_ok (x := "World") (m := "can_settle") (T.fact 87 rfl)
theorem Tx.m_World_do (T : Tx w K mg) : Meth K (He.ga K "World") "do" (He.ma K (He.ga K "World") "do") := He.meth_ok (x := "World") (m := "do") (T.fact 88 rfl)
theorem Tx.m_World_stand (T : Tx w K mg) : Meth K (He.ga K "World") "stand" (He.ma K (He.ga K "World") "stand") := He.meth_ok (x := "World") (m := "stand") (T.fact 89 rfl)
theorem Tx.m_World_send (T : Tx w K mg) : Meth K (He.ga K "World") "send" (He.ma K (He.ga K "World") "send") := He.meth_ok (x := "World") (m := "send") (T.fact 90 rfl)
theorem Tx.m_World_crash (T : Tx w K mg) : Meth K (He.ga K "World") "crash" (He.ma K (He.ga K "World") "crash") := He.meth_ok (x := "World") (m := "crash") (T.fact 91 rfl)
theorem Tx.m_World_read (T : Tx w K mg) : Meth K (He.ga K "World") "read" (He.ma K (He.ga K "World") "read") := He.meth_ok (x := "World") (m := "read") (T.fact 92 rfl)
theorem Tx.m_World_hear (T : Tx w K mg) : Meth K (He.ga K "World") "hear" (He.ma K (He.ga K "World") "hear") := He.meth_ok (x := "World") (m := "hear") (T.fact 93 rfl)
theorem Tx.m_World_lets (T : Tx w K mg) : Meth K (He.ga K "World") "lets" (He.ma K (He.ga K "World") "lets") := He.meth_ok (x := "World") (m := "lets") (T.fact 94 rfl)
theorem Tx.m_World_take (T : Tx w K mg) : Meth K (He.ga K "World") "take" (He.ma K (He.ga K "World") "take") := He.meth_ok (x := "World") (m := "take") (T.fact 95 rfl)
theorem Tx.m_World_act (T : Tx w K mg) : Meth K (He.ga K "World") "act" (He.ma K (He.ga K "World") "act") := He.meth_ok (x := "World") (m := "act") (T.fact 96 rfl)
theorem Tx.n_all (T : Tx w K mg) : mg "all" = none := T.free 97 rfl
theorem Tx.n_bool (T : Tx w K mg) : mg "bool" = none := T.free 98 rfl
theorem Tx.n_enumerate (T : Tx w K mg) : mg "enumerate" = none := T.free 99 rfl
theorem Tx.n_int (T : Tx w K mg) : mg "int" = none := T.free 100 rfl
theorem Tx.n_isinstance (T : Tx w K mg) : mg "isinstance" = none := T.free 101 rfl
theorem Tx.n_len (T : Tx w K mg) : mg "len" = none := T.free 102 rfl
theorem Tx.n_list (T : Tx w K mg) : mg "list" = none := T.free 103 rfl
theorem Tx.n_max (T : Tx w K mg) : mg "max" = none := T.free 104 rfl
theorem Tx.n_min (T : Tx w K mg) : mg "min" = none := T.free 105 rfl
theorem Tx.n_range (T : Tx w K mg) : mg "range" = none := T.free 106 rfl
theorem Tx.n_sorted (T : Tx w K mg) : mg "sorted" = none := T.free 107 rfl
theorem Tx.n_str (T : Tx w K mg) : mg "str" = none := T.free 108 rfl
theorem Tx.n_tuple (T : Tx w K mg) : mg "tuple" = none := T.free 109 rfl
theorem Tx.n_zip (T : Tx w K mg) : mg "zip" = none := T.free 110 rfl
theorem Tx.i_MOST_HANDS (T : Tx w K mg) : ∃ t, mg "MOST_HANDS" = some (.int 7 t) := T.int 111 rfl
theorem Tx.i_MOST_VALUE (T : Tx w K mg) : ∃ t, mg "MOST_VALUE" = some (.int 9 t) := T.int 112 rfl
theorem Tx.g_LOOKS (T : Tx w K mg) : mg "LOOKS" = some (.ref (He.ga K "LOOKS")) := T.glo 113 rfl
theorem Tx.g_RULES (T : Tx w K mg) : mg "RULES" = some (.ref (He.ga K "RULES")) := T.glo 114 rfl
theorem Tx.g_SIZES (T : Tx w K mg) : mg "SIZES" = some (.ref (He.ga K "SIZES")) := T.glo 115 rfl
theorem Tx.f_p_is_number (T : Tx w K mg) : ∃ fd, FunD K "is_number" "is_number" (defArgs s_p_is_number) (defBody s_p_is_number) (defScope s_p_is_number) [] [] (He.ga K "is_number") fd := T.defd 0 (d := d_p_is_number) rfl
theorem Tx.f_p_is_word (T : Tx w K mg) : ∃ fd, FunD K "is_word" "is_word" (defArgs s_p_is_word) (defBody s_p_is_word) (defScope s_p_is_word) [] [] (He.ga K "is_word") fd := T.defd 1 (d := d_p_is_word) rfl
theorem Tx.f_p_are_rules (T : Tx w K mg) : ∃ fd, FunD K "are_rules" "are_rules" (defArgs s_p_are_rules) (defBody s_p_are_rules) (defScope s_p_are_rules) [] [] (He.ga K "are_rules") fd := T.defd 2 (d := d_p_are_rules) rfl
theorem Tx.f_p_are_numbers (T : Tx w K mg) : ∃ fd, FunD K "are_numbers" "are_numbers" (defArgs s_p_are_numbers) (defBody s_p_are_numbers) (defScope s_p_are_numbers) [] [] (He.ga K "are_numbers") fd := T.defd 3 (d := d_p_are_numbers) rfl
theorem Tx.f_p_is_protocol (T : Tx w K mg) : ∃ fd, FunD K "is_protocol" "is_protocol" (defArgs s_p_is_protocol) (defBody s_p_is_protocol) (defScope s_p_is_protocol) [] [] (He.ga K "is_protocol") fd := T.defd 4 (d := d_p_is_protocol) rfl
theorem Tx.f_p_check_protocol (T : Tx w K mg) : ∃ fd, FunD K "check_protocol" "check_protocol" (defArgs s_p_check_protocol) (defBody s_p_check_protocol) (defScope s_p_check_protocol) [] [] (He.ga K "check_protocol") fd := T.defd 5 (d := d_p_check_protocol) rfl
theorem Tx.f_h_init (T : Tx w K mg) : ∃ fd, FunD K "__init__" "Hand.__init__" (defArgs s_h_init) (defBody s_h_init) (defScope s_h_init) [] [] (He.ma K (He.ga K "Hand") "__init__") fd := T.defd 6 (d := d_h_init) rfl
theorem Tx.f_h_rest (T : Tx w K mg) : ∃ fd, FunD K "rest" "Hand.rest" (defArgs s_h_rest) (defBody s_h_rest) (defScope s_h_rest) [] [] (He.ma K (He.ga K "Hand") "rest") fd := T.defd 7 (d := d_h_rest) rfl
theorem Tx.f_h_take_role (T : Tx w K mg) : ∃ fd, FunD K "take_role" "Hand.take_role" (defArgs s_h_take_role) (defBody s_h_take_role) (defScope s_h_take_role) [] [] (He.ma K (He.ga K "Hand") "take_role") fd := T.defd 8 (d := d_h_take_role) rfl
theorem Tx.f_h_pair (T : Tx w K mg) : ∃ fd, FunD K "pair" "Hand.pair" (defArgs s_h_pair) (defBody s_h_pair) (defScope s_h_pair) [] [] (He.ma K (He.ga K "Hand") "pair") fd := T.defd 9 (d := d_h_pair) rfl
theorem Tx.f_h_rise (T : Tx w K mg) : ∃ fd, FunD K "rise" "Hand.rise" (defArgs s_h_rise) (defBody s_h_rise) (defScope s_h_rise) [] [] (He.ma K (He.ga K "Hand") "rise") fd := T.defd 10 (d := d_h_rise) rfl
theorem Tx.f_w_init (T : Tx w K mg) : ∃ fd, FunD K "__init__" "World.__init__" (defArgs s_w_init) (defBody s_w_init) (defScope s_w_init) [] [] (He.ma K (He.ga K "World") "__init__") fd := T.defd 11 (d := d_w_init) rfl
theorem Tx.f_w_has (T : Tx w K mg) : ∃ fd, FunD K "has" "World.has" (defArgs s_w_has) (defBody s_w_has) (defScope s_w_has) [] [] (He.ma K (He.ga K "World") "has") fd := T.defd 12 (d := d_w_has) rfl
theorem Tx.f_w_post (T : Tx w K mg) : ∃ fd, FunD K "post" "World.post" (defArgs s_w_post) (defBody s_w_post) (defScope s_w_post) [] [] (He.ma K (He.ga K "World") "post") fd := T.defd 13 (d := d_w_post) rfl
theorem Tx.f_w_able (T : Tx w K mg) : ∃ fd, FunD K "able" "World.able" (defArgs s_w_able) (defBody s_w_able) (defScope s_w_able) [] [] (He.ma K (He.ga K "World") "able") fd := T.defd 14 (d := d_w_able) rfl
theorem Tx.f_w_can_hear (T : Tx w K mg) : ∃ fd, FunD K "can_hear" "World.can_hear" (defArgs s_w_can_hear) (defBody s_w_can_hear) (defScope s_w_can_hear) [] [] (He.ma K (He.ga K "World") "can_hear") fd := T.defd 15 (d := d_w_can_hear) rfl
theorem Tx.f_w_leader_is_able (T : Tx w K mg) : ∃ fd, FunD K "leader_is_able" "World.leader_is_able" (defArgs s_w_leader_is_able) (defBody s_w_leader_is_able) (defScope s_w_leader_is_able) [] [] (He.ma K (He.ga K "World") "leader_is_able") fd := T.defd 16 (d := d_w_leader_is_able) rfl
theorem Tx.f_w_can_settle (T : Tx w K mg) : ∃ fd, FunD K "can_settle" "World.can_settle" (defArgs s_w_can_settle) (defBody s_w_can_settle) (defScope s_w_can_settle) [] [] (He.ma K (He.ga K "World") "can_settle") fd := T.defd 17 (d := d_w_can_settle) rfl
theorem Tx.f_w_do (T : Tx w K mg) : ∃ fd, FunD K "do" "World.do" (defArgs s_w_do) (defBody s_w_do) (defScope s_w_do) [] [] (He.ma K (He.ga K "World") "do") fd := T.defd 18 (d := d_w_do) rfl
theorem Tx.f_w_stand (T : Tx w K mg) : ∃ fd, FunD K "stand" "World.stand" (defArgs s_w_stand) (defBody s_w_stand) (defScope s_w_stand) [] [] (He.ma K (He.ga K "World") "stand") fd := T.defd 19 (d := d_w_stand) rfl
theorem Tx.f_w_send (T : Tx w K mg) : ∃ fd, FunD K "send" "World.send" (defArgs s_w_send) (defBody s_w_send) (defScope s_w_send) [] [] (He.ma K (He.ga K "World") "send") fd := T.defd 20 (d := d_w_send) rfl
theorem Tx.f_w_crash (T : Tx w K mg) : ∃ fd, FunD K "crash" "World.crash" (defArgs s_w_crash) (defBody s_w_crash) (defScope s_w_crash) [] [] (He.ma K (He.ga K "World") "crash") fd := T.defd 21 (d := d_w_crash) rfl
theorem Tx.f_w_read (T : Tx w K mg) : ∃ fd, FunD K "read" "World.read" (defArgs s_w_read) (defBody s_w_read) (defScope s_w_read) [] [] (He.ma K (He.ga K "World") "read") fd := T.defd 22 (d := d_w_read) rfl
theorem Tx.f_w_hear (T : Tx w K mg) : ∃ fd, FunD K "hear" "World.hear" (defArgs s_w_hear) (defBody s_w_hear) (defScope s_w_hear) [] [] (He.ma K (He.ga K "World") "hear") fd := T.defd 23 (d := d_w_hear) rfl
theorem Tx.f_w_lets (T : Tx w K mg) : ∃ fd, FunD K "lets" "World.lets" (defArgs s_w_lets) (defBody s_w_lets) (defScope s_w_lets) [] [] (He.ma K (He.ga K "World") "lets") fd := T.defd 24 (d := d_w_lets) rfl
theorem Tx.f_w_take (T : Tx w K mg) : ∃ fd, FunD K "take" "World.take" (defArgs s_w_take) (defBody s_w_take) (defScope s_w_take) [] [] (He.ma K (He.ga K "World") "take") fd := T.defd 25 (d := d_w_take) rfl
theorem Tx.f_w_act (T : Tx w K mg) : ∃ fd, FunD K "act" "World.act" (defArgs s_w_act) (defBody s_w_act) (defScope s_w_act) [] [] (He.ma K (He.ga K "World") "act") fd := T.defd 26 (d := d_w_act) rfl
theorem Tx.f_p_cut_where_unlike (T : Tx w K mg) : ∃ fd, FunD K "cut_where_unlike" "cut_where_unlike" (defArgs s_p_cut_where_unlike) (defBody s_p_cut_where_unlike) (defScope s_p_cut_where_unlike) [] [] (He.ga K "cut_where_unlike") fd := T.defd 27 (d := d_p_cut_where_unlike) rfl
theorem Tx.f_p_hear_told (T : Tx w K mg) : ∃ fd, FunD K "hear_told" "hear_told" (defArgs s_p_hear_told) (defBody s_p_hear_told) (defScope s_p_hear_told) [] [] (He.ga K "hear_told") fd := T.defd 28 (d := d_p_hear_told) rfl
theorem Tx.f_p_world_behind (T : Tx w K mg) : ∃ fd, FunD K "world_behind" "world_behind" (defArgs s_p_world_behind) (defBody s_p_world_behind) (defScope s_p_world_behind) [] [] (He.ga K "world_behind") fd := T.defd 29 (d := d_p_world_behind) rfl
theorem Tx.f_p_checked_world (T : Tx w K mg) : ∃ fd, FunD K "checked_world" "checked_world" (defArgs s_p_checked_world) (defBody s_p_checked_world) (defScope s_p_checked_world) [] [] (He.ga K "checked_world") fd := T.defd 30 (d := d_p_checked_world) rfl
theorem Tx.f_p_told_hand (T : Tx w K mg) : ∃ fd, FunD K "told_hand" "told_hand" (defArgs s_p_told_hand) (defBody s_p_told_hand) (defScope s_p_told_hand) [] [] (He.ga K "told_hand") fd := T.defd 31 (d := d_p_told_hand) rfl
theorem Tx.f_p_check_hand (T : Tx w K mg) : ∃ fd, FunD K "check_hand" "check_hand" (defArgs s_p_check_hand) (defBody s_p_check_hand) (defScope s_p_check_hand) [] [] (He.ga K "check_hand") fd := T.defd 32 (d := d_p_check_hand) rfl
theorem Tx.f_p_hand_behind (T : Tx w K mg) : ∃ fd, FunD K "hand_behind" "hand_behind" (defArgs s_p_hand_behind) (defBody s_p_hand_behind) (defScope s_p_hand_behind) [] [] (He.ga K "hand_behind") fd := T.defd 33 (d := d_p_hand_behind) rfl
theorem Tx.f_p_letters (T : Tx w K mg) : ∃ fd, FunD K "letters" "letters" (defArgs s_p_letters) (defBody s_p_letters) (defScope s_p_letters) [] [] (He.ga K "letters") fd := T.defd 34 (d := d_p_letters) rfl
theorem Tx.f_p_leads (T : Tx w K mg) : ∃ fd, FunD K "leads" "leads" (defArgs s_p_leads) (defBody s_p_leads) (defScope s_p_leads) [] [] (He.ga K "leads") fd := T.defd 35 (d := d_p_leads) rfl
theorem Tx.f_p_settles (T : Tx w K mg) : ∃ fd, FunD K "settles" "settles" (defArgs s_p_settles) (defBody s_p_settles) (defScope s_p_settles) [] [] (He.ga K "settles") fd := T.defd 36 (d := d_p_settles) rfl
theorem Tx.f_p_acts (T : Tx w K mg) : ∃ fd, FunD K "acts" "acts" (defArgs s_p_acts) (defBody s_p_acts) (defScope s_p_acts) [] [] (He.ga K "acts") fd := T.defd 37 (d := d_p_acts) rfl
theorem Tx.f_p_answers (T : Tx w K mg) : ∃ fd, FunD K "answers" "answers" (defArgs s_p_answers) (defBody s_p_answers) (defScope s_p_answers) [] [] (He.ga K "answers") fd := T.defd 38 (d := d_p_answers) rfl
theorem Tx.f_l_cell_at (T : Tx w K mg) : ∃ fd, FunD K "_law_cell_at" "_law_cell_at" (defArgs s_l_cell_at) (defBody s_l_cell_at) (defScope s_l_cell_at) [] [] (He.ga K "_law_cell_at") fd := T.defd 39 (d := d_l_cell_at) rfl
theorem Tx.f_l_draw (T : Tx w K mg) : ∃ fd, FunD K "_law_draw" "_law_draw" (defArgs s_l_draw) (defBody s_l_draw) (defScope s_l_draw) [] [] (He.ga K "_law_draw") fd := T.defd 40 (d := d_l_draw) rfl
theorem Tx.f_l_number (T : Tx w K mg) : ∃ fd, FunD K "_law_number" "_law_number" (defArgs s_l_number) (defBody s_l_number) (defScope s_l_number) [] [] (He.ga K "_law_number") fd := T.defd 41 (d := d_l_number) rfl
theorem Tx.f_l_next (T : Tx w K mg) : ∃ fd, FunD K "_law_next" "_law_next" (defArgs s_l_next) (defBody s_l_next) (defScope s_l_next) [] [] (He.ga K "_law_next") fd := T.defd 42 (d := d_l_next) rfl
theorem Tx.f_l_pick (T : Tx w K mg) : ∃ fd, FunD K "_law_pick" "_law_pick" (defArgs s_l_pick) (defBody s_l_pick) (defScope s_l_pick) [] [] (He.ga K "_law_pick") fd := T.defd 43 (d := d_l_pick) rfl
theorem Tx.f_l_rules (T : Tx w K mg) : ∃ fd, FunD K "_law_rules" "_law_rules" (defArgs s_l_rules) (defBody s_l_rules) (defScope s_l_rules) [] [] (He.ga K "_law_rules") fd := T.defd 44 (d := d_l_rules) rfl
theorem Tx.f_l_protocol (T : Tx w K mg) : ∃ fd, FunD K "_law_protocol" "_law_protocol" (defArgs s_l_protocol) (defBody s_l_protocol) (defScope s_l_protocol) [] [] (He.ga K "_law_protocol") fd := T.defd 45 (d := d_l_protocol) rfl
theorem Tx.f_l_good (T : Tx w K mg) : ∃ fd, FunD K "_law_good" "_law_good" (defArgs s_l_good) (defBody s_l_good) (defScope s_l_good) [] [] (He.ga K "_law_good") fd := T.defd 46 (d := d_l_good) rfl
theorem Tx.f_l_hand (T : Tx w K mg) : ∃ fd, FunD K "_law_hand" "_law_hand" (defArgs s_l_hand) (defBody s_l_hand) (defScope s_l_hand) [] [] (He.ga K "_law_hand") fd := T.defd 47 (d := d_l_hand) rfl
theorem Tx.f_l_world (T : Tx w K mg) : ∃ fd, FunD K "_law_world" "_law_world" (defArgs s_l_world) (defBody s_l_world) (defScope s_l_world) [] [] (He.ga K "_law_world") fd := T.defd 48 (d := d_l_world) rfl
theorem Tx.f_l_has (T : Tx w K mg) : ∃ fd, FunD K "_law_has" "_law_has" (defArgs s_l_has) (defBody s_l_has) (defScope s_l_has) [] [] (He.ga K "_law_has") fd := T.defd 49 (d := d_l_has) rfl
theorem Tx.f_l_role (T : Tx w K mg) : ∃ fd, FunD K "_law_role" "_law_role" (defArgs s_l_role) (defBody s_l_role) (defScope s_l_role) [] [] (He.ga K "_law_role") fd := T.defd 50 (d := d_l_role) rfl
theorem Tx.f_l_pair (T : Tx w K mg) : ∃ fd, FunD K "_law_pair" "_law_pair" (defArgs s_l_pair) (defBody s_l_pair) (defScope s_l_pair) [] [] (He.ga K "_law_pair") fd := T.defd 51 (d := d_l_pair) rfl
theorem Tx.f_l_post (T : Tx w K mg) : ∃ fd, FunD K "_law_post" "_law_post" (defArgs s_l_post) (defBody s_l_post) (defScope s_l_post) [] [] (He.ga K "_law_post") fd := T.defd 52 (d := d_l_post) rfl
theorem Tx.f_l_act (T : Tx w K mg) : ∃ fd, FunD K "_law_act" "_law_act" (defArgs s_l_act) (defBody s_l_act) (defScope s_l_act) [] [] (He.ga K "_law_act") fd := T.defd 53 (d := d_l_act) rfl
theorem Tx.f_l_settles (T : Tx w K mg) : ∃ fd, FunD K "_law_settles" "_law_settles" (defArgs s_l_settles) (defBody s_l_settles) (defScope s_l_settles) [] [] (He.ga K "_law_settles") fd := T.defd 54 (d := d_l_settles) rfl
theorem Tx.f_l_able (T : Tx w K mg) : ∃ fd, FunD K "_law_able" "_law_able" (defArgs s_l_able) (defBody s_l_able) (defScope s_l_able) [] [] (He.ga K "_law_able") fd := T.defd 55 (d := d_l_able) rfl
theorem Tx.f_l_do (T : Tx w K mg) : ∃ fd, FunD K "_law_do" "_law_do" (defArgs s_l_do) (defBody s_l_do) (defScope s_l_do) [] [] (He.ga K "_law_do") fd := T.defd 56 (d := d_l_do) rfl
theorem Tx.f_l_crash (T : Tx w K mg) : ∃ fd, FunD K "_law_crash" "_law_crash" (defArgs s_l_crash) (defBody s_l_crash) (defScope s_l_crash) [] [] (He.ga K "_law_crash") fd := T.defd 57 (d := d_l_crash) rfl
theorem Tx.f_l_lets (T : Tx w K mg) : ∃ fd, FunD K "_law_lets" "_law_lets" (defArgs s_l_lets) (defBody s_l_lets) (defScope s_l_lets) [] [] (He.ga K "_law_lets") fd := T.defd 58 (d := d_l_lets) rfl
theorem Tx.f_l_hear (T : Tx w K mg) : ∃ fd, FunD K "_law_hear" "_law_hear" (defArgs s_l_hear) (defBody s_l_hear) (defScope s_l_hear) [] [] (He.ga K "_law_hear") fd := T.defd 59 (d := d_l_hear) rfl
theorem Tx.f_l_take (T : Tx w K mg) : ∃ fd, FunD K "_law_take" "_law_take" (defArgs s_l_take) (defBody s_l_take) (defScope s_l_take) [] [] (He.ga K "_law_take") fd := T.defd 60 (d := d_l_take) rfl
theorem Tx.f_l_try (T : Tx w K mg) : ∃ fd, FunD K "_law_try" "_law_try" (defArgs s_l_try) (defBody s_l_try) (defScope s_l_try) [] [] (He.ga K "_law_try") fd := T.defd 61 (d := d_l_try) rfl
theorem Tx.f_l_all_hear (T : Tx w K mg) : ∃ fd, FunD K "_law_all_hear" "_law_all_hear" (defArgs s_l_all_hear) (defBody s_l_all_hear) (defScope s_l_all_hear) [] [] (He.ga K "_law_all_hear") fd := T.defd 62 (d := d_l_all_hear) rfl
theorem Tx.f_l_elect (T : Tx w K mg) : ∃ fd, FunD K "_law_elect" "_law_elect" (defArgs s_l_elect) (defBody s_l_elect) (defScope s_l_elect) [] [] (He.ga K "_law_elect") fd := T.defd 63 (d := d_l_elect) rfl
theorem Tx.f_l_hear_own (T : Tx w K mg) : ∃ fd, FunD K "_law_hear_own" "_law_hear_own" (defArgs s_l_hear_own) (defBody s_l_hear_own) (defScope s_l_hear_own) [] [] (He.ga K "_law_hear_own") fd := T.defd 64 (d := d_l_hear_own) rfl
theorem Tx.f_l_copy (T : Tx w K mg) : ∃ fd, FunD K "_law_copy" "_law_copy" (defArgs s_l_copy) (defBody s_l_copy) (defScope s_l_copy) [] [] (He.ga K "_law_copy") fd := T.defd 65 (d := d_l_copy) rfl
theorem Tx.f_l_read (T : Tx w K mg) : ∃ fd, FunD K "_law_read" "_law_read" (defArgs s_l_read) (defBody s_l_read) (defScope s_l_read) [] [] (He.ga K "_law_read") fd := T.defd 66 (d := d_l_read) rfl
theorem Tx.f_l_play (T : Tx w K mg) : ∃ fd, FunD K "_law_play" "_law_play" (defArgs s_l_play) (defBody s_l_play) (defScope s_l_play) [] [] (He.ga K "_law_play") fd := T.defd 67 (d := d_l_play) rfl
theorem Tx.f_l_run (T : Tx w K mg) : ∃ fd, FunD K "_law_run" "_law_run" (defArgs s_l_run) (defBody s_l_run) (defScope s_l_run) [] [] (He.ga K "_law_run") fd := T.defd 68 (d := d_l_run) rfl
theorem Tx.f_l_due (T : Tx w K mg) : ∃ fd, FunD K "_law_due" "_law_due" (defArgs s_l_due) (defBody s_l_due) (defScope s_l_due) [] [] (He.ga K "_law_due") fd := T.defd 69 (d := d_l_due) rfl
theorem Tx.f_l_law (T : Tx w K mg) : ∃ fd, FunD K "law" "law" (defArgs s_l_law) (defBody s_l_law) (defScope s_l_law) [] [] (He.ga K "law") fd := T.defd 70 (d := d_l_law) rfl
end
/-! ### a def, told whole -/
/-- the module's def x keeps the promise sp -/
structure FnI (P : Program) (w : World) (K : PySem.W.Frag) (mg : Str → Option Value) (base : Heap) (x : Str) (k : Nat) (ps : List Str) (sp : Sp) : Prop where
  ex : ∃ f fd, FnOk P w K mg base CX0 k f fd ps sp ∧ mg x = some (.ref f) ∧ PySem.W.keepIn K (.ref f) = true ∧ Binds K fd ps []
/-- the method m of the class C does -/
structure MeI (P : Program) (w : World) (K : PySem.W.Frag) (mg : Str → Option Value) (base : Heap) (C : Addr) (m : Str) (k : Nat) (ps : List Str) (sp : Sp) : Prop where
  ex : ∃ f fd, Cls K C ∧ Meth K C m f ∧ FnOk P w K mg base CX0 k f fd ps sp ∧ Binds K fd ps []
/-- a new instance of the class x -/
structure MkI (P : Program) (w : World) (K : PySem.W.Frag) (mg : Str → Option Value) (base : Heap) (x : Str) (C : Addr) (k : Nat) (ps : List Str) (sp : Sp) : Prop where
  ex : ∃ f fd, mg x = some (.ref C) ∧ Mk K C f ∧ FnOk P w K mg base CX0 k f fd ps sp ∧ Binds K fd ps []
section
variable {P : Program} {w : World} {K : PySem.W.Frag} {mg : Str → Option Value} {base : Heap} {x qual : Str} {params : Arguments} {body : List Stmt} {scope : Scope} {f C : Addr} {N ps : List Str} {k : Nat} {sp : Sp}
abbrev BindOk (x qual : Str) (params : Arguments) (body : List Stmt) (scope : Scope) (ps : List Str) : Prop :=
  ∀ (kV doc pm : Value) (an : Option Addr) (cdv ct : Value) (us : List Value), us.length = ps.length → bindArgs (PySem.W.fnOf x qual params body scope .none kV doc pm an cdv ct) ⟨us, []⟩ = pure (ps.zip us)
abbrev BodyOk (P : Program) (w : World) (K : PySem.W.Frag) (mg : Str → Option Value) (base : Heap) (N : List Str) (qual : Str) (body : List Stmt) (scope : Scope) (f : Addr) (k : Nat) (sp : Sp) : Prop :=
  ∀ (cdv : Value) (A : Around) (outer : List Env) (s : Shared) (H : Hp) (vs : List V) (Q : VK) (E : XK), Room k (A.deeper (envOfC qual scope s.heap.objs.size f cdv)) → sp vs H Q E →
      ∃ t, PSs (cxOf CX0 P w K mg base N qual scope f cdv A outer s H E).nox body t ∧ t { nx := fun _ H' => Q .non H', rt := Q } (start N vs) H
theorem fnOk_mk {fd : FuncData} (F : FunD K x qual params body scope [] [] f fd) (S : FnScope N ps scope) (hl : ∀ vs H Q E, sp vs H Q E → vs.length = ps.length) (h : BodyOk P w K mg base N qual body scope f k sp) :
    FnOk P w K mg base CX0 (k + 1) f fd ps sp :=
  F.ok S hl fun cdv A outer s H vs Q E hr hsp => let ⟨t, a, b⟩ := h cdv A outer s H vs Q E hr hsp; ⟨t, a.nox, b⟩
theorem FnI.mk' (F : ∃ fd, FunD K x qual params body scope [] [] f fd) (hm : mg x = some (.ref f)) (S : FnScope N ps scope) (hb : BindOk x qual params body scope ps)
    (hl : ∀ vs H Q E, sp vs H Q E → vs.length = ps.length) (h : BodyOk P w K mg base N qual body scope f k sp) : FnI P w K mg base x (k + 1) ps sp := by
  obtain ⟨fd, F⟩ := F
  exact ⟨f, fd, fnOk_mk F S hl h, hm, F.kp, F.bindsN hb⟩
theorem MeI.mk' (F : ∃ fd, FunD K x qual params body scope [] [] f fd) (c : Cls K C) (hm : Meth K C x f) (S : FnScope N ps scope) (hb : BindOk x qual params body scope ps)
    (hl : ∀ vs H Q E, sp vs H Q E → vs.length = ps.length) (h : BodyOk P w K mg base N qual body scope f k sp) : MeI P w K mg base C x (k + 1) ps sp := by
  obtain ⟨fd, F⟩ := F
  exact ⟨f, fd, c, hm, fnOk_mk F S hl h, F.bindsN hb⟩
theorem MkI.mk' {y : Str} (F : ∃ fd, FunD K x qual params body scope [] [] f fd) (hm : mg y = some (.ref C)) (M : Mk K C f) (S : FnScope N ps scope) (hb : BindOk x qual params body scope ps)
    (hl : ∀ vs H Q E, sp vs H Q E → vs.length = ps.length) (h : BodyOk P w K mg base N qual body scope f k sp) : MkI P w K mg base y C (k + 1) ps sp := by
  obtain ⟨fd, F⟩ := F
  exact ⟨f, fd, hm, M, fnOk_mk F S hl h, F.bindsN hb⟩
end
section
variable {X : Cx} {x m : Str} {k n : Nat} {ps : List Str} {sp : Sp} {C : Addr} {e o : Expr} {es : List Expr} {p pos apos : Pos} {ta : TE} {t : TA}
theorem pe_callI (F : FnI X.prog X.w X.K X.mg X.base x k ps sp) (hr : Room n X.A) (ha : PA X (e :: es) t) (hk : k ≤ n := by decide) (hg : Gl X x := by rfl) (hdb : (x == ("__debug__" : Str)) = false := by decide)
    (he : starEach (e :: es) X.env = (false, eval e X.env) :: starEach es X.env := by rfl) (hpl : (backTo pos (starEach es X.env)).any (·.1) = false := by rfl) : PE X (.Call (.Name x p) (e :: es) [] pos) (tCall sp [] E0 t) := by
  obtain ⟨f, fd, F, hm, hk', hb⟩ := F.ex
  exact pe_call F (hr.mono hk) hg hm hk' hb .nil pass0 ha hdb he hpl
theorem pe_callI0 (F : FnI X.prog X.w X.K X.mg X.base x k ps sp) (hr : Room n X.A) (hk : k ≤ n := by decide) (hg : Gl X x := by rfl) (hdb : (x == ("__debug__" : Str)) = false := by decide) : PE X (.Call (.Name x p) [] [] pos) (tCall sp [] E0 tNil) := by
  obtain ⟨f, fd, F, hm, hk', hb⟩ := F.ex
  exact pe_call0 F (hr.mono hk) hg hm hk' hb .nil pass0 hdb
theorem pe_methI {pl : Sem Bool} (F : MeI X.prog X.w X.K X.mg X.base C m k ps sp) (hr : Room n X.A) (he : PE X o ta) (ha : PA X (e :: es) t) (hk : k ≤ n := by decide)
    (hst : starEach (e :: es) X.env = (false, eval e X.env) :: starEach es X.env := by rfl) (hpl : (backTo pos (starEach es X.env)).any (·.1) = false := by rfl)
    (ht : eval (.Call (.Attribute o m apos) (e :: es) [] pos) X.env = (do
      let obj ← eval o X.env
      standAt apos.atName
      let (g, recv) ← holding [obj] (getMethod obj m pl)
      callWith pos g recv (backTo pos (starEach (e :: es) X.env)) (backToKw pos (keywordEach [] X.env))) := by rfl) : PE X (.Call (.Attribute o m apos) (e :: es) [] pos) (tMeth C m sp [] E0 ta t) := by
  obtain ⟨f, fd, c, hm, F, hb⟩ := F.ex
  exact pe_meth he c hm F (hr.mono hk) hb .nil pass0 ha hst hpl ht
theorem pe_methI0 {pl : Sem Bool} (F : MeI X.prog X.w X.K X.mg X.base C m k ps sp) (hr : Room n X.A) (he : PE X o ta) (hk : k ≤ n := by decide)
    (ht : eval (.Call (.Attribute o m apos) [] [] pos) X.env = (do
      let obj ← eval o X.env
      standAt apos.atName
      let (g, recv) ← holding [obj] (getMethod obj m pl)
      callWith pos g recv (backTo pos (starEach [] X.env)) (backToKw pos (keywordEach [] X.env))) := by rfl) : PE X (.Call (.Attribute o m apos) [] [] pos) (tMeth C m sp [] E0 ta tNil) := by
  obtain ⟨f, fd, c, hm, F, hb⟩ := F.ex
  exact pe_meth0 he c hm F (hr.mono hk) hb .nil pass0 ht
theorem pe_makeI (F : MkI X.prog X.w X.K X.mg X.base x C k ps sp) (hr : Room n X.A) (ha : PA X (e :: es) t) (hk : k + 1 ≤ n := by decide) (hg : Gl X x := by rfl) (hdb : (x == ("__debug__" : Str)) = false := by decide)
    (he : starEach (e :: es) X.env = (false, eval e X.env) :: starEach es X.env := by rfl) (hpl : (backTo pos (starEach es X.env)).any (·.1) = false := by rfl) : PE X (.Call (.Name x p) (e :: es) [] pos) (tMake C sp [] E0 t) := by
  obtain ⟨f, fd, hm, M, F, hb⟩ := F.ex
  exact pe_make M F (hr.mono hk) hg hm hb .nil pass0 ha hdb he hpl
theorem pe_makeI0 (F : MkI X.prog X.w X.K X.mg X.base x C k ps sp) (hr : Room n X.A) (hk : k + 1 ≤ n := by decide) (hg : Gl X x := by rfl) (hdb : (x == ("__debug__" : Str)) = false := by decide) : PE X (.Call (.Name x p) [] [] pos) (tMake C sp [] E0 tNil) := by
  obtain ⟨f, fd, hm, M, F, hb⟩ := F.ex
  exact pe_make0 M F (hr.mono hk) hg hm hb .nil pass0 hdb
end
end Sr

set_option Elab.async false
set_option linter.all false
set_option maxRecDepth 100000
/-! Sr_Model: the plain machine: hands, letters, deeds. -/
namespace Sr
open PySem
abbrev Log := List (Nat × Nat)
inductive Role where
  | rests | asks | leads
  deriving DecidableEq
def Role.str : Role → Str
  | .rests => "rests"
  | .asks => "asks"
  | .leads => "leads"
structure Hd where
  term : Nat
  vote : Option Nat
  log : Log
  sure : Nat
  role : Role
  got : List Nat
  known : List (Nat × Nat)
  told : Nat
  begun : Nat
  wishes : List (Nat × List Nat)
def Hd.new : Hd := ⟨0, none, [], 0, .rests, [], [], 0, 0, []⟩
def Hd.to (h : Hd) (r : Role) : Hd := { h with role := r, got := [], known := [], told := 0, begun := 0, wishes := [] }
def Hd.pair (h : Hd) : Nat × Nat := match h.log.getLast? with
  | some r => (r.1, h.log.length)
  | none => (0, 0)
def addNew (l : List Nat) (x : Nat) : List Nat := if x ∈ l then l else l ++ [x]
section
variable {α : Type}
def alook (l : List (Nat × α)) (k : Nat) : Option α := (l.find? fun p => decide (p.1 = k)).map (·.2)
def aput (l : List (Nat × α)) (k : Nat) (v : α) : List (Nat × α) :=
  if (l.any fun p => decide (p.1 = k)) = true then l.map (fun p => if p.1 = k then (p.1, v) else p) else l ++ [(k, v)]
def adrop (l : List (Nat × α)) (k : Nat) : List (Nat × α) := l.filter fun p => decide (p.1 ≠ k)
end
/-- letters -/
inductive Lt where
  | ask (t s a b : Nat)
  | give (t s u : Nat)
  | rows (t s at_ ah : Nat) (rs : Log) (told : Nat)
  | taken (t s u c : Nat)
  | see (t s n : Nat)
  | seen (t s u n : Nat)
  deriving DecidableEq
def Lt.term : Lt → Nat
  | .ask t _ _ _ => t
  | .give t _ _ => t
  | .rows t _ _ _ _ _ => t
  | .taken t _ _ _ => t
  | .see t _ _ => t
  | .seen t _ _ _ => t
def Lt.snd : Lt → Nat
  | .ask _ s _ _ => s
  | .give _ s _ => s
  | .rows _ s _ _ _ _ => s
  | .taken _ s _ _ => s
  | .see _ s _ => s
  | .seen _ s _ _ => s
def Lt.to? : Lt → Option Nat
  | .give _ _ u => some u
  | .taken _ _ u _ => some u
  | .seen _ _ u _ => some u
  | _ => none
/-- deeds -/
inductive Dd where
  | stand (i : Nat) | lead (i : Nat) | put (i v : Nat) | send (i a m : Nat) | settle (i c : Nat)
  | wish (i : Nat) | answer (i n : Nat) | crash (i : Nat) | hear (i n : Nat)
def Dd.hand : Dd → Nat
  | .stand i => i
  | .lead i => i
  | .put i _ => i
  | .send i _ _ => i
  | .settle i _ => i
  | .wish i => i
  | .answer i _ => i
  | .crash i => i
  | .hear i _ => i
/-- a protocol -/
structure Pr where
  hands : Nat
  votes : Nat
  settlers : Nat
  seers : Nat
  look : Str
  rules : List Str
def Pr.has (p : Pr) (r : Str) : Bool := decide (r ∈ p.rules)
/-- the world -/
structure Wd where
  pr : Pr
  hs : List Hd
  lts : List Lt
  leads : List (Nat × Nat × Log × List Nat)
  settles : List (Nat × Nat × Log)
  answers : List (Nat × Nat × Log)
  acts : List (Nat × Log)
  asked : List Nat
def Wd.new (p : Pr) : Wd := ⟨p, List.replicate p.hands Hd.new, [], [], [], [], [], []⟩
def Wd.hd (w : Wd) (i : Nat) : Hd := w.hs.getD i Hd.new
def Wd.set (w : Wd) (i : Nat) (h : Hd) : Wd := { w with hs := w.hs.set i h }
def Wd.post (w : Wd) (l : Lt) : Wd := if l ∈ w.lts then w else { w with lts := w.lts ++ [l] }
/-- a hand becomes sure of c rows -/
def Wd.act (w : Wd) (i : Nat) (c : Nat) : Wd :=
  if (w.hd i).sure < c then { w.set i { w.hd i with sure := c } with acts := w.acts ++ [(i, (w.hd i).log.take c)] } else w
/-! ### which deeds can be done -/
def Hd.known_ge (h : Hd) (c : Nat) : Nat := (h.known.filter fun p => decide (c ≤ p.2)).length
def canSettle (p : Pr) (h : Hd) (c : Nat) : Bool :=
  decide (h.told < c) && (decide (c ≤ h.log.length) && (decide (p.settlers ≤ 1 + h.known_ge c) && (!p.has "own" || decide ((h.log.getD (c - 1) (0, 0)).1 = h.term))))
def canAnswer (p : Pr) (h : Hd) (n : Nat) : Bool :=
  match alook h.wishes n with
  | none => false
  | some s => decide (p.seers ≤ s.length) && (!p.has "first" || decide (h.begun ≤ h.told))
def canHear (i : Nat) (l : Lt) : Bool := decide (l.snd ≠ i) && (match l.to? with
  | none => true
  | some u => decide (u = i))
def Wd.able (w : Wd) : Dd → Bool
  | .stand i => decide ((w.hd i).role ≠ .leads)
  | .lead i => decide ((w.hd i).role = .asks) && decide (w.pr.votes ≤ (w.hd i).got.length)
  | .put i v => decide ((w.hd i).role = .leads) && decide (v ≤ 9)
  | .send i a m => decide ((w.hd i).role = .leads) && decide (a + m ≤ (w.hd i).log.length)
  | .settle i c => decide ((w.hd i).role = .leads) && canSettle w.pr (w.hd i) c
  | .wish i => decide ((w.hd i).role = .leads)
  | .answer i n => decide ((w.hd i).role = .leads) && canAnswer w.pr (w.hd i) n
  | .crash _ => true
  | .hear i n => match w.lts[n]? with
    | none => false
    | some l => canHear i l
/-! ### what they do -/
def lets (look : Str) (p m : Nat × Nat) : Bool :=
  if look = "count" then decide (m.2 ≤ p.2)
  else if look = "term" then decide (m.1 ≤ p.1)
  else if look = "none" then true
  else decide (m.1 < p.1) || (decide (m.1 = p.1) && decide (m.2 ≤ p.2))
/-- rows taken from a place on, cut only where a term differs -/
def cutGo (log : Log) (place : Nat) : Log → Log
  | [] => log
  | r :: rs => match log[place]? with
    | some q => if q.1 = r.1 then cutGo log (place + 1) rs else log.take place ++ (r :: rs)
    | none => log.take place ++ (r :: rs)
def cutLog (p : Pr) (log : Log) (at_ : Nat) (rs : Log) : Log := if p.has "cuts" then cutGo log at_ rs else log.take at_ ++ rs
def refuses (p : Pr) (h : Hd) (at_ ah : Nat) : Bool :=
  decide (h.log.length < at_) || (p.has "ahead" && (decide (0 < at_) && decide ((h.log.getD (at_ - 1) (0, 0)).1 ≠ ah)))
def Wd.take (w : Wd) (i : Nat) (t s at_ ah : Nat) (rs : Log) (told : Nat) : Wd :=
  let h := (w.hd i).to .rests
  if refuses w.pr h at_ ah then w.set i h
  else
    let w2 := w.set i { h with log := cutLog w.pr h.log at_ rs }
    let w3 := w2.post (.taken t i s (at_ + rs.length))
    w3.act i (min told (if w.pr.has "near" then at_ + rs.length else (cutLog w.pr h.log at_ rs).length))
/-- a hand comes to a greater term -/
def Hd.rise (h : Hd) (t : Nat) : Hd := { h.to .rests with term := t, vote := none }
def Hd.meet (h : Hd) (t : Nat) : Hd := if h.term < t then h.rise t else h
def Hd.seen (h : Hd) (n s : Nat) : Hd := match alook h.wishes n with
  | none => h
  | some l => { h with wishes := aput h.wishes n (addNew l s) }
def Wd.hear (w : Wd) (i : Nat) (l : Lt) : Wd :=
  if l.term < (w.hd i).term then w
  else
    let h := (w.hd i).meet l.term
    let w1 := w.set i h
    match l with
    | .ask t s a b => if (h.vote = none ∨ h.vote = some s) ∧ lets w.pr.look (a, b) h.pair = true then (w1.set i { h with vote := some s }).post (.give t i s) else w1
    | .give _ s _ => if h.role = .asks then w1.set i { h with got := addNew h.got s } else w1
    | .rows t s at_ ah rs told => if h.role = .leads then w1 else w1.take i t s at_ ah rs told
    | .taken _ s _ c => if h.role = .leads then w1.set i { h with known := aput h.known s (max c ((alook h.known s).getD 0)) } else w1
    | .see t s n => w1.post (.seen t i s n)
    | .seen _ s _ n => if h.role = .leads then w1.set i (h.seen n s) else w1
def Hd.crash (p : Pr) (h : Hd) : Hd :=
  let a := { h.to .rests with sure := 0 }
  let b := if p.has "votes" then a else { a with term := 0, vote := none }
  if p.has "rows" then b else { b with log := [] }
def srt (l : List Nat) : List Nat := l.mergeSort fun a b => decide (a ≤ b)
def Wd.do (w : Wd) : Dd → Wd
  | .stand i =>
    let h := { (w.hd i).to .asks with term := (w.hd i).term + 1, vote := some i, got := [i] }
    (w.set i h).post (.ask h.term i h.pair.1 h.pair.2)
  | .lead i =>
    let h := w.hd i
    { w.set i { h.to .leads with begun := h.log.length } with leads := w.leads ++ [(h.term, i, h.log, srt h.got)] }
  | .put i v => w.set i { w.hd i with log := (w.hd i).log ++ [((w.hd i).term, v)] }
  | .send i a m =>
    let h := w.hd i
    w.post (.rows h.term i a (if 0 < a then (h.log.getD (a - 1) (0, 0)).1 else 0) ((h.log.drop a).take m) h.told)
  | .settle i c =>
    let h := w.hd i
    let w1 := w.set i { h with told := c }
    { w1 with settles := w1.settles ++ [(h.term, i, h.log.take c)] }.act i c
  | .wish i =>
    let h := w.hd i
    let n := w.asked.length
    let w1 := w.set i { h with wishes := aput h.wishes n [i] }
    { w1 with asked := w1.asked ++ [w1.settles.length] }.post (.see h.term i n)
  | .answer i n =>
    let h := w.hd i
    let w1 := w.set i { h with wishes := adrop h.wishes n }
    { w1 with answers := w1.answers ++ [(n, i, h.log.take h.told)] }
  | .crash i => w.set i ((w.hd i).crash w.pr)
  | .hear i n => match w.lts[n]? with
    | none => w
    | some l => w.hear i l
def Wd.try (w : Wd) (d : Dd) : Wd := if w.able d then w.do d else w
/-! ### as data -/
def natD (n : Nat) : PyData := .int (n : Int)
def rowD (r : Nat × Nat) : PyData := .tuple [natD r.1, natD r.2]
def logD (l : Log) : PyData := .tuple (l.map rowD)
def voteD : Option Nat → PyData
  | none => .none
  | some n => natD n
def Lt.data : Lt → PyData
  | .ask t s a b => .tuple [.str "ask", natD t, natD s, .tuple [natD a, natD b]]
  | .give t s u => .tuple [.str "give", natD t, natD s, natD u]
  | .rows t s at_ ah rs told => .tuple [.str "rows", natD t, natD s, natD at_, natD ah, logD rs, natD told]
  | .taken t s u c => .tuple [.str "taken", natD t, natD s, natD u, natD c]
  | .see t s n => .tuple [.str "see", natD t, natD s, natD n]
  | .seen t s u n => .tuple [.str "seen", natD t, natD s, natD u, natD n]
def leadD (x : Nat × Nat × Log × List Nat) : PyData := .tuple [natD x.1, natD x.2.1, logD x.2.2.1]
def leadD4 (x : Nat × Nat × Log × List Nat) : PyData := .tuple [natD x.1, natD x.2.1, logD x.2.2.1, .tuple (x.2.2.2.map natD)]
def trD (x : Nat × Nat × Log) : PyData := .tuple [natD x.1, natD x.2.1, logD x.2.2]
def actD (x : Nat × Log) : PyData := .tuple [natD x.1, logD x.2]
def Dd.word : Dd → Str
  | .stand _ => "stand"
  | .lead _ => "lead"
  | .put _ _ => "put"
  | .send _ _ _ => "send"
  | .settle _ _ => "settle"
  | .wish _ => "wish"
  | .answer _ _ => "answer"
  | .crash _ => "crash"
  | .hear _ _ => "hear"
def Dd.nums : Dd → List Nat
  | .put _ v => [v]
  | .send _ a m => [a, m]
  | .settle _ c => [c]
  | .answer _ n => [n]
  | .hear _ n => [n]
  | _ => []
def Dd.data (d : Dd) : PyData := .tuple (.str d.word :: natD d.hand :: d.nums.map natD)
def Pr.data (p : Pr) : PyData := .tuple [natD p.hands, natD p.votes, natD p.settlers, natD p.seers, .str p.look, .tuple (p.rules.map .str)]
/-- what is told of a hand -/
def toldD (n i : Nat) (h : Hd) : List (Str × PyData) :=
  ([("term", natD h.term), ("vote", voteD h.vote), ("log", logD h.log), ("sure", natD h.sure), ("role", .str h.role.str)] : List (Str × PyData)) ++
  (if h.role = .asks then ([("got", .tuple ((srt h.got).map natD))] : List (Str × PyData)) else []) ++
  (if h.role = .leads then ([("known", .tuple (((List.range n).map fun o => if o = i then h.log.length else (alook h.known o).getD 0).map natD)), ("told", natD h.told), ("begun", natD h.begun),
    ("wishes", .tuple (h.wishes.map fun p => .tuple [natD p.1, .tuple ((srt p.2).map natD)]))] : List (Str × PyData)) else [])
end Sr

set_option Elab.async false
set_option linter.all false
set_option maxRecDepth 100000
set_option maxHeartbeats 4000000
/-! Sr_Rules: rules that the hand layer has not. -/
namespace Sr
open PySem PySem.Spec PyProof.Rows L2
/-- tuples stay -/
def Tk (H H' : Hp) : Prop := ∀ a xs, H a = some (.tup xs) → H' a = some (.tup xs)
theorem Tk.refl (H : Hp) : Tk H H := fun _ _ h => h
theorem Tk.trans {H H1 H2 : Hp} (a : Tk H H1) (b : Tk H1 H2) : Tk H H2 := fun p xs h => b p xs (a p xs h)
/-! ### immutable data: numbers, texts, None, tuples of such -/
mutual
def Im (H : Hp) : PyData → V → Prop
  | .none, v => v = .non
  | .bool b, v => v = .bl b
  | .int i, v => v = .int i
  | .str x, v => v = .str x
  | .tuple ds, v => ∃ a xs, v = .ref a ∧ H a = some (.tup xs) ∧ ImAll H ds xs
  | .list _, _ => False
  | .dict _, _ => False
def ImAll (H : Hp) : List PyData → List V → Prop
  | [], vs => vs = []
  | d :: ds, vs => ∃ v r, vs = v :: r ∧ Im H d v ∧ ImAll H ds r
end
mutual
theorem Im.keep {H H' : Hp} (k : Tk H H') : ∀ (d : PyData) (v : V), Im H d v → Im H' d v
  | .none, v, h => by simpa only [Im] using h
  | .bool _, v, h => by simpa only [Im] using h
  | .int _, v, h => by simpa only [Im] using h
  | .str _, v, h => by simpa only [Im] using h
  | .tuple ds, v, h => by
    simp only [Im] at h ⊢
    obtain ⟨a, xs, e, h1, h2⟩ := h
    exact ⟨a, xs, e, k a xs h1, ImAll.keep k ds xs h2⟩
  | .list _, v, h => by simp only [Im] at h
  | .dict _, v, h => by simp only [Im] at h
theorem ImAll.keep {H H' : Hp} (k : Tk H H') : ∀ (ds : List PyData) (vs : List V), ImAll H ds vs → ImAll H' ds vs
  | [], vs, h => by simpa only [ImAll] using h
  | d :: ds, vs, h => by
    simp only [ImAll] at h ⊢
    obtain ⟨v, r, e, h1, h2⟩ := h
    exact ⟨v, r, e, Im.keep k d v h1, ImAll.keep k ds r h2⟩
end
mutual
theorem Im.dp {K : PySem.W.Frag} {H : Hp} : ∀ (d : PyData) (v : V), Im H d v → Dp K H v d
  | .none, v, h => by simp only [Im] at h; subst h; exact .non
  | .bool b, v, h => by simp only [Im] at h; subst h; exact .bl b
  | .int i, v, h => by simp only [Im] at h; subst h; exact .int i
  | .str x, v, h => by simp only [Im] at h; subst h; exact .str x
  | .tuple ds, v, h => by
    simp only [Im] at h
    obtain ⟨a, xs, e, h1, h2⟩ := h
    subst e
    exact .tup (SqT.of h1) (ImAll.dp ds xs h2)
  | .list _, v, h => by simp only [Im] at h
  | .dict _, v, h => by simp only [Im] at h
theorem ImAll.dp {K : PySem.W.Frag} {H : Hp} : ∀ (ds : List PyData) (vs : List V), ImAll H ds vs → DpAll K H vs ds
  | [], vs, h => by simp only [ImAll] at h; subst h; exact .nil
  | d :: ds, vs, h => by
    simp only [ImAll] at h
    obtain ⟨v, r, e, h1, h2⟩ := h
    subst e
    exact .cons (Im.dp d v h1) (ImAll.dp ds r h2)
end
theorem ImAll.length {H : Hp} : ∀ {ds : List PyData} {vs : List V}, ImAll H ds vs → vs.length = ds.length
  | [], vs, h => by simp only [ImAll] at h; subst h; rfl
  | d :: ds, vs, h => by
    simp only [ImAll] at h
    obtain ⟨v, r, e, _, h2⟩ := h
    subst e
    simp [ImAll.length h2]
theorem ImAll.append {H : Hp} : ∀ {ds es : List PyData} {vs us : List V}, ImAll H ds vs → ImAll H es us → ImAll H (ds ++ es) (vs ++ us)
  | [], es, vs, us, h, g => by simp only [ImAll] at h; subst h; simpa using g
  | d :: ds, es, vs, us, h, g => by
    simp only [ImAll] at h
    obtain ⟨v, r, e, h1, h2⟩ := h
    subst e
    simp only [List.cons_append, ImAll]
    exact ⟨v, r ++ us, rfl, h1, ImAll.append h2 g⟩
theorem ImAll.one {H : Hp} {d : PyData} {v : V} (h : Im H d v) : ImAll H [d] [v] := by
  simp only [ImAll]
  exact ⟨v, [], rfl, h, rfl⟩
theorem ImAll.get {H : Hp} : ∀ {ds : List PyData} {vs : List V} {i : Nat} {d : PyData}, ImAll H ds vs → ds[i]? = some d → ∃ v, vs[i]? = some v ∧ Im H d v
  | [], vs, i, d, h, g => by simp at g
  | d :: ds, vs, i, e, h, g => by
    simp only [ImAll] at h
    obtain ⟨v, r, q, h1, h2⟩ := h
    subst q
    cases i with
    | zero => simp at g; subst g; exact ⟨v, rfl, h1⟩
    | succ i => simpa using ImAll.get h2 (by simpa using g)
theorem ImAll.got {H : Hp} {ds : List PyData} {vs : List V} {i : Nat} {v : V} (h : ImAll H ds vs) (g : vs[i]? = some v) : ∃ d, ds[i]? = some d ∧ Im H d v := by
  have hl := h.length
  obtain ⟨hi, _⟩ := List.getElem?_eq_some_iff.mp g
  obtain ⟨u, e, q⟩ := h.get (List.getElem?_eq_getElem (show i < ds.length by omega))
  rw [g] at e
  cases e
  exact ⟨_, List.getElem?_eq_getElem (by omega), q⟩
theorem ImAll.drop {H : Hp} : ∀ {ds : List PyData} {vs : List V} (n : Nat), ImAll H ds vs → ImAll H (ds.drop n) (vs.drop n)
  | ds, vs, 0, h => by simpa using h
  | [], vs, n + 1, h => by simp only [ImAll] at h; subst h; simp [ImAll]
  | d :: ds, vs, n + 1, h => by
    simp only [ImAll] at h
    obtain ⟨v, r, q, h1, h2⟩ := h
    subst q
    simpa using ImAll.drop n h2
theorem ImAll.take {H : Hp} : ∀ {ds : List PyData} {vs : List V} (n : Nat), ImAll H ds vs → ImAll H (ds.take n) (vs.take n)
  | ds, vs, 0, h => by simp [ImAll]
  | [], vs, n + 1, h => by simp only [ImAll] at h; subst h; simp [ImAll]
  | d :: ds, vs, n + 1, h => by
    simp only [ImAll] at h
    obtain ⟨v, r, q, h1, h2⟩ := h
    subst q
    simp only [List.take_succ_cons, ImAll]
    exact ⟨v, _, rfl, h1, ImAll.take n h2⟩
theorem ImAll.nil' {H : Hp} : ImAll H [] [] := by simp only [ImAll]
theorem ImAll.cons' {H : Hp} {d : PyData} {ds : List PyData} {v : V} {vs : List V} (a : Im H d v) (b : ImAll H ds vs) : ImAll H (d :: ds) (v :: vs) := by
  simp only [ImAll]
  exact ⟨v, vs, rfl, a, b⟩
theorem Im.tup' {H : Hp} {a : Addr} {xs : List V} {ds : List PyData} (e : H a = some (.tup xs)) (h : ImAll H ds xs) : Im H (.tuple ds) (.ref a) := by
  simp only [Im]
  exact ⟨a, xs, rfl, e, h⟩
/-! ### a module's whole number -/
section
variable {X : Cx} {x : Str} {pos : Pos}
theorem pe_globI {i : Int} (hg : Gl X x) (hm : ∃ t, X.mg x = some (.int i t)) (hd : (x == ("__debug__" : Str)) = false := by decide) : PE X (.Name x pos) (tC (.int i)) := by
  obtain ⟨t, e⟩ := hm
  exact pe_glob hg e ⟨t, rfl⟩ hd
end
/-! ### rules of the layer, their written part named -/
section
variable {X : Cx} (K : PySem.W.Frag)
theorem fldK {e : Expr} {f : Str} {pos : Pos} {ta : TE} (he : PE X e ta) (hk : X.K = K := by rfl) (hb : attributeBase e f X.env (eval e X.env) = eval e X.env := by rfl) : PE X (.Attribute e f pos) (tFld K ta f) := by
  subst hk
  exact pe_fld he hb
theorem ixL (hk : X.K = K := by rfl) : IxR X (rIxL K) := by subst hk; exact ix_list
theorem ixT (hk : X.K = K := by rfl) : IxR X (rIxT K) := by subst hk; exact ix_tup
theorem slL (hk : X.K = K := by rfl) : SlR X (rSlL K) := by subst hk; exact sl_list
theorem slT (hk : X.K = K := by rfl) : SlR X (rSlA K) := by subst hk; exact sl_tupA
theorem isiK (hk : X.K = K := by rfl) : CallR X (.builtin "isinstance") (rIsi K) := by subst hk; exact call_isi
theorem isiTK (hk : X.K = K := by rfl) : CallR X (.builtin "isinstance") (rIsiT K) := by subst hk; exact call_isiT
def rLenK (K : PySem.W.Frag) : List V → Hp → VK → Prop := fun xs H Q => ∃ p ys, xs = [.ref p] ∧ (SqL K H p ys ∨ SqT K H p ys) ∧ Q (.int ys.length) H
theorem lenK (hk : X.K = K := by rfl) : CallR X (.builtin "len") (rLenK K) := by subst hk; exact call_len_seq
def rTupK (K : PySem.W.Frag) : List V → Hp → VK → Prop := fun xs H Q => ∃ p ys, xs = [.ref p] ∧ ((SqL K H p ys ∧ ∀ l, H l = none → Q (.ref l) (upd H l (.tup ys))) ∨ (SqT K H p ys ∧ Q (.ref p) H))
theorem tupleK (hk : X.K = K := by rfl) : CallR X (.type "tuple") (rTupK K) := by subst hk; exact call_tuple_of
theorem sortedK (hk : X.K = K := by rfl) : CallR X (.builtin "sorted") (rSorted K) := by subst hk; exact cr_sorted
end
/-! ### t >= u of tuples of ints -/
def rGeT (K : PySem.W.Frag) : R2 := fun x y H Q => ∃ (a b : Addr) (n1 n2 m1 m2 : Int), x = .ref a ∧ y = .ref b ∧ SqT K H a [.int n1, .int n2] ∧ SqT K H b [.int m1, .int m2] ∧ Q (.bl (decide (m1 < n1) || (decide (m1 = n1) && decide (m2 ≤ n2)))) H
theorem lexAt_two (n1 n2 m1 m2 : Int) : Ob.lexAt (fun j => decide (([n1, n2] : List Int).getD j 0 = ([m1, m2] : List Int).getD j 0)) (fun j => decide (([m1, m2] : List Int).getD j 0 ≤ ([n1, n2] : List Int).getD j 0)) (decide (2 ≥ 2)) 0 2 =
    (decide (m1 < n1) || (decide (m1 = n1) && decide (m2 ≤ n2))) := by
  rw [Ob.lexAt_succ, Ob.lexAt_succ, Ob.lexAt_zero]
  show (if decide (n1 = m1) = true then (if decide (n2 = m2) = true then decide (2 ≥ 2) else decide (m2 ≤ n2)) else decide (m1 ≤ n1)) = _
  by_cases h : n1 = m1
  · subst h
    by_cases g : n2 = m2
    · subst g; simp
    · simp [g]
  · have h' : ¬ m1 = n1 := fun e => h e.symm
    rw [if_neg (by simpa using h), decide_eq_false h', Bool.false_and, Bool.or_false]
    by_cases k : m1 < n1
    · rw [decide_eq_true k, decide_eq_true (by omega)]
    · rw [decide_eq_false k, decide_eq_false (by omega)]
theorem op_geT {X : Cx} (hu : X.A.units < cLine) : OpR X (compareOp .GtE) (rGeT X.K) := by
  intro pins s σ H x y v u Q I rx ry h
  obtain ⟨a, b, n1, n2, m1, m2, rfl, rfl, ha, mb, q⟩ := h
  cases rx
  cases ry
  obtain ⟨its, rv1, p1, _⟩ := I.tuple ha
  obtain ⟨its2, rv2, p2, _⟩ := I.tuple mb
  have i1 : IntsAre its [n1, n2] := Vals.ints rv1
  have i2 : IntsAre its2 [m1, m2] := Vals.ints rv2
  have ea : its.toArray.size = 2 := by rw [List.size_toArray]; exact i1.length
  have eb : its2.toArray.size = 2 := by rw [List.size_toArray]; exact i2.length
  have at1 : ∀ j (h1 : j < its.toArray.size), ∃ t, its.toArray[j] = .int (([n1, n2] : List Int).getD j 0) t := fun j h1 => PyProof.Rows.IntsAre.int_at i1 _ _ (by simp at h1; simp [h1])
  have at2 : ∀ j (h1 : j < its2.toArray.size), ∃ t, its2.toArray[j] = .int (([m1, m2] : List Int).getD j 0) t := fun j h1 => PyProof.Rows.IntsAre.int_at i2 _ _ (by simp at h1; simp [h1])
  have R := Ob.RcOp.tuples_ge (A := X.A) (s := s) (e := fun j => decide (([n1, n2] : List Int).getD j 0 = ([m1, m2] : List Int).getD j 0)) (r := fun j => decide (([m1, m2] : List Int).getD j 0 ≤ ([n1, n2] : List Int).getD j 0)) p1 p2 hu (fun j h1 h2 => by
    obtain ⟨t, et⟩ := at1 j h1
    obtain ⟨t', et'⟩ := at2 j h2
    rw [et, et']
    have z : (([n1, n2] : List Int).getD j 0 == ([m1, m2] : List Int).getD j 0) = decide (([n1, n2] : List Int).getD j 0 = ([m1, m2] : List Int).getD j 0) := by
      by_cases k : ([n1, n2] : List Int).getD j 0 = ([m1, m2] : List Int).getD j 0
      · rw [decide_eq_true k]; exact beq_iff_eq.mpr k
      · rw [decide_eq_false k]; exact beq_eq_false_iff_ne.mpr k
    rw [← z]
    exact SeqAt.EqAt.int_int _ _ _ _) (fun j la lb _ => by
    obtain ⟨t, et⟩ := at1 j la
    obtain ⟨t', et'⟩ := at2 j lb
    rw [et, et']
    exact Ob.RcOp.ge_int _ _ _ _)
  rw [ea, eb] at R
  have R' : Ob.RcOp .GtE X.A s (.ref a) (.ref b) (decide (m1 < n1) || (decide (m1 = n1) && decide (m2 ≤ n2))) := by
    rw [← lexAt_two]
    exact R
  exact R' X.prog X.w X.xe (EP X pins σ Q) ⟨.bl _, H, I, rfl, q⟩
/-! ### two dicts whose values are equal data: they do not differ -/
def rNeKd (K : PySem.W.Frag) : R2 := fun x y H Q => ∃ (a b : Addr) (ks ls : List (Key × V)), x = .ref a ∧ y = .ref b ∧ H a = some (.dK ks) ∧ H b = some (.dK ls) ∧ ks.length = ls.length ∧
  (∀ p ∈ ks, ∃ u d, valV ls p.1 = some u ∧ Im H d p.2 ∧ Im H d u ∧ SeqAt.shaped d = true) ∧ Q (.bl false) H
theorem hits_im {X : Cx} {pins : List (Addr × Obj)} {σ : L2.St} {H : Hp} {s : Shared} (I : Inv X pins σ H s) (hu : X.A.units + 65 < cLine) {ls : List (Key × V)} {vb : List (Key × Value)} (rb : KV ls vb) {ks : List (Key × V)} {va : List (Key × Value)} (ra : KV ks va) :
    (∀ p ∈ ks, ∃ u d, valV ls p.1 = some u ∧ Im H d p.2 ∧ Im H d u ∧ SeqAt.shaped d = true) → PySem.W.KeqHits X.A.in1 s vb va true := by
  unfold KV at ra
  induction ra with
  | nil => intro _; exact .nil
  | @cons p q ps qs h t k =>
    intro hp
    obtain ⟨h1, h2⟩ := h
    obtain ⟨u, d, e, i1, i2, sd⟩ := hp p List.mem_cons_self
    have rel : RelO (some u) (valueAt vb p.1) := by rw [← e]; exact rb.val p.1
    obtain ⟨y, hy, ry⟩ := rel.some_of
    obtain ⟨key, v⟩ := q
    have h1' : p.1 = key := h1
    rw [h1'] at hy
    obtain ⟨as, rv1⟩ := Dp.reads I d p.2 v (Im.dp d _ i1) h2
    obtain ⟨bs, rv2⟩ := Dp.reads I d u y (Im.dp d _ i2) ry
    have z := PySem.W.keq_at (A := X.A) rv1 rv2 sd sd (by show X.A.units + 1 + 64 < cLine; omega)
    rw [SeqAt.eqv_refl d (SeqAt.canLay_of_shaped sd)] at z
    show PySem.W.KeqHits X.A.in1 s vb ((key, v) :: qs) (true && true)
    exact .hit hy z (k fun p' hm => hp p' (List.mem_cons_of_mem _ hm))
theorem op_neKd {X : Cx} (hu : X.A.units + 65 < cLine) : OpR X (compareOp .NotEq) (rNeKd X.K) := by
  intro pins s σ H x y v u Q I rx ry h
  obtain ⟨a, b, ks, ls, rfl, rfl, ha, mb, hl, hp, q⟩ := h
  cases rx
  cases ry
  obtain ⟨_, ya, va, ra, da⟩ := dk_of I.hok ha
  obtain ⟨_, yb, vb, rb, db⟩ := dk_of I.hok mb
  refine PySem.W.keq_ne (knd := mixKind X.prog X.w) (r := true) ya yb da db (by omega) (fun _ => hits_im I hu rb ra hp) ?_
  have same : va.length = vb.length := ra.length.symm.trans (hl.trans rb.length)
  rw [show (!(va.length == vb.length && true)) = false from by rw [same]; simp]
  exact ⟨.bl false, H, I, rfl, q⟩
/-! ### a dict whose keys are data of any depth -/
mutual
def keyOf : PyData → NestedKey
  | .none => .none
  | .bool b => .num (if b then 1 else 0)
  | .int i => .num i
  | .str x => .text x
  | .tuple ds => .tup (keysOf ds)
  | .list _ => .none
  | .dict _ => .none
def keysOf : List PyData → List NestedKey
  | [] => []
  | d :: ds => keyOf d :: keysOf ds
end
/-- at a stands a dict with these keys, whose tuples stand there -/
def NestO (P : Program) (w : World) (a : Addr) (ks : List (NestedKey × Addr)) : HO := .ext fun h => (a == sysModules) = false ∧ ∃ (xs : List (NestedKey × Addr × Value)) (o : Obj) (es : Array DictEntry) (ep : Nat),
  xs.map (fun x => (x.1, x.2.1)) = ks ∧ h.get? a = some o ∧ o.ExactDict ∧ o.data = .dict es ep ∧ es.toList = xs.map (entryOfKey (nestedKind P w)) ∧ (xs.map (·.1)).Nodup ∧ xs.length ≤ sizeLine
/-- the keys' own tuples -/
def KeysAt (H : Hp) (ks : List (NestedKey × Addr)) : Prop := ∀ p ∈ ks, ∃ d, Im H d (.ref p.2) ∧ p.1 = keyOf d ∧ d.depth ≤ 8
def tDNewN (X : Cx) : TE := fun _ H Q => ∀ p, H p = none → Q (.ref p) (upd H p (NestO X.prog X.w p []))
/-! keys of any depth -/
mutual
theorem nested_of {P : Program} {w : World} {H : Hp} {h : Heap} (ok : HOk P w H h) : ∀ (d : PyData) (v : V) (u : Value), Im H d v → RelV v u → NestedIs h (keyOf d) u
  | .none, v, u, i, r => by simp only [Im] at i; subst i; cases r; exact .none
  | .bool b, v, u, i, r => by simp only [Im] at i; subst i; cases r; exact .bool rfl
  | .int z, v, u, i, r => by simp only [Im] at i; subst i; obtain ⟨t, rfl⟩ := r; exact .int _ _
  | .str x, v, u, i, r => by simp only [Im] at i; subst i; obtain ⟨t, rfl⟩ := r; exact .text _ _
  | .tuple ds, v, u, i, r => by
    simp only [Im] at i
    obtain ⟨a, xs, e, h1, h2⟩ := i
    subst e
    cases r
    obtain ⟨_, its, rvs, o, ho, hc, n, hd⟩ := (show ObjOk P w H h a (.tup xs) from ok a _ h1)
    exact .tup ho hc hd (by simpa using nestedAll_of ok ds xs its h2 rvs)
  | .list _, v, u, i, r => by simp only [Im] at i
  | .dict _, v, u, i, r => by simp only [Im] at i
theorem nestedAll_of {P : Program} {w : World} {H : Hp} {h : Heap} (ok : HOk P w H h) : ∀ (ds : List PyData) (vs : List V) (us : List Value), ImAll H ds vs → Vals vs us → NestedAll h (keysOf ds) us
  | [], vs, us, i, r => by simp only [ImAll] at i; subst i; cases r; exact .nil
  | d :: ds, vs, us, i, r => by
    simp only [ImAll] at i
    obtain ⟨v, rest, e, h1, h2⟩ := i
    subst e
    cases r with
    | cons rv1 rv2 => exact .cons (nested_of ok d v _ h1 rv1) (nestedAll_of ok ds rest _ h2 rv2)
end
mutual
theorem key_depth : ∀ d : PyData, (keyOf d).depth ≤ d.depth
  | .none => by simp [keyOf, NestedKey.depth]
  | .bool _ => by simp [keyOf, NestedKey.depth]
  | .int _ => by simp [keyOf, NestedKey.depth]
  | .str _ => by simp [keyOf, NestedKey.depth]
  | .tuple ds => by
    simp only [keyOf, NestedKey.depth, PyData.depth]
    have := keys_depth ds
    omega
  | .list _ => by simp [keyOf, NestedKey.depth]
  | .dict _ => by simp [keyOf, NestedKey.depth]
theorem keys_depth : ∀ ds : List PyData, NestedKey.depthAll (keysOf ds) ≤ PyData.depthAll ds
  | [] => by simp [keysOf, NestedKey.depthAll, PyData.depthAll]
  | d :: ds => by
    simp only [keysOf, NestedKey.depthAll, PyData.depthAll]
    have h1 := key_depth d
    have h2 := keys_depth ds
    omega
end
section
variable {X : Cx} {pins : List (Addr × Obj)} {σ : L2.St} {H : Hp} {s : Shared} {a b : Addr} {ks : List (NestedKey × Addr)}
theorem nest_key {d : PyData} (I : Inv X pins σ H s) (i : Im H d (.ref b)) (hd : d.depth ≤ 8) : (nestedKind X.prog X.w).is s.heap (keyOf d) b :=
  ⟨nested_of I.hok d (.ref b) (.ref b) i rfl, Nat.le_trans (key_depth d) hd⟩
/-- the dict with nested keys, in the heap -/
theorem nest_at (I : Inv X pins σ H s) (e : H a = some (NestO X.prog X.w a ks)) (kk : KeysAt H ks) : (a == sysModules) = false ∧
    ∃ xs : List (NestedKey × Addr × Value), xs.map (fun x => (x.1, x.2.1)) = ks ∧ s.heap.DictOfH (nestedKind X.prog X.w) a xs ∧ xs.length ≤ sizeLine := by
  obtain ⟨⟨low, xs, o, es, ep, hm, ho, hx, hdat, hes, hn, szz⟩, _, _⟩ := (show ObjOk X.prog X.w H s.heap a (NestO X.prog X.w a ks) from I.hok a _ e)
  refine ⟨low, xs, hm, ⟨o, es, ep, ho, hx, hdat, hes, fun x hx' => ?_, hn⟩, szz⟩
  have kept : (x.1, x.2.1) ∈ ks := by rw [← hm]; exact List.mem_map_of_mem hx'
  obtain ⟨d, i, ek, hd⟩ := kk _ kept
  rw [show x.1 = keyOf d from ek]
  exact nest_key I i hd
theorem nest_there {xs : List (NestedKey × Addr × Value)} (hm : xs.map (fun x => (x.1, x.2.1)) = ks) (k : NestedKey) : (atKey xs k).isSome = decide (k ∈ ks.map (·.1)) := by
  subst hm
  induction xs with
  | nil => rfl
  | cons x xs ih =>
    rw [List.map_cons, List.map_cons]
    by_cases h : x.1 = k
    · simp [atKey, h]
    · have h' : ¬ k = x.1 := fun e => h e.symm
      have ea : atKey (x :: xs) k = atKey xs k := by simp [atKey, h]
      rw [ea, ih]
      exact decide_eq_decide.mpr ⟨fun z => List.mem_cons_of_mem _ z, fun z => (List.mem_cons.mp z).resolve_left h'⟩
theorem nest_new {P : Program} {w : World} {h : Heap} {H' : Hp} {xs : List (NestedKey × Addr × Value)} (low : (a == sysModules) = false) (hm : xs.map (fun x => (x.1, x.2.1)) = ks) (dd : h.DictOfH (nestedKind P w) a xs) (szz : xs.length ≤ sizeLine) : ObjOk P w H' h a (NestO P w a ks) := by
  obtain ⟨o, es, ep, ho, hx, hdat, hes, _, hn⟩ := dd
  refine ⟨⟨low, xs, o, es, ep, hm, ho, hx, hdat, hes, hn, szz⟩, ⟨o, ho⟩, ?_⟩
  rintro h1 h2 ⟨low', xs', o', es', ep', hm', ho', r⟩ k
  exact ⟨low', xs', o', es', ep', hm', k _ ho', r⟩
end
theorem pe_dnewN {X : Cx} {pos : Pos} : PE X (.Dict [] [] pos) (tDNewN X) := ⟨fun pins s σ H Q I h => by
  have low : (s.heap.objs.size == sysModules) = false := beq_eq_false_iff_ne.mpr (Ne.symm (Nat.ne_of_lt I.big))
  exact wpAny_Dict_empty ⟨.ref s.heap.objs.size, _, I.laid (a := s.heap.objs.size) (o := NestO X.prog X.w s.heap.objs.size []) (t' := s.toks) (fun _ _ q => Heap.get?_push_of_some _ q) (Nat.le_refl _)
    (nest_new (xs := []) low rfl (Heap.DictOfH.new s.heap) (Nat.zero_le _)), rfl, h _ (I.hok.fresh (Nat.le_refl _))⟩⟩
def tNNotin (X : Cx) (ty td : TE) : TE := fun σ H Q => ty σ H fun y H1 => td σ H1 fun x H2 => ∃ (a b : Addr) (ks : List (NestedKey × Addr)) (d : PyData), x = .ref a ∧ y = .ref b ∧ H2 a = some (NestO X.prog X.w a ks) ∧ KeysAt H2 ks ∧ Im H2 d (.ref b) ∧ d.depth ≤ 8 ∧
  Q (.bl (!decide (keyOf d ∈ ks.map (·.1)))) H2
theorem room8 {A : Around} (hu : A.units + 64 < cLine) : A.in1.units + 8 < cLine := by
  have e : A.in1.units = A.units + 1 := rfl
  omega
theorem pc_nnotin {X : Cx} {i o : Expr} {ty td : TE} (hu : X.A.units + 64 < cLine) (hi : PE X i ty) (ho : PE X o td) : PC X .NotIn i o (tNNotin X ty td) := by
  refine ⟨fun pins s σ H Q I h => ?_⟩
  refine thn (hi.run pins s σ H _ I h) fun iv s1 ⟨y, H1, J1, ry, w1⟩ => thn (ho.run pins s1 σ H1 _ J1 w1) fun u s2 ⟨x, H2, J2, rx, a, b, ks, d, ex, ey, ha, kk, im, hd, w2⟩ => ?_
  subst ex ey
  obtain rfl : u = Value.ref a := rx
  obtain rfl : iv = Value.ref b := ry
  obtain ⟨low, xs, hm, dd, szz⟩ := nest_at J2 ha kk
  refine wpAny_notIn_heap (room8 hu) (nest_key J2 im hd) low dd ?_
  rw [nest_there hm]
  exact ⟨.bl _, H2, J2.tok _, rfl, w2⟩
def sNPut (X : Cx) (td ty tv : TE) : TS := fun D σ H => tv σ H fun v H1 => td σ H1 fun x H2 => ty σ H2 fun y H3 => ∃ (a b : Addr) (ks : List (NestedKey × Addr)) (d : PyData), x = .ref a ∧ y = .ref b ∧ H3 a = some (NestO X.prog X.w a ks) ∧ KeysAt H3 ks ∧ Im H3 d (.ref b) ∧ d.depth ≤ 8 ∧
  keyOf d ∉ ks.map (·.1) ∧ ks.length < sizeLine ∧ D.nx σ (upd H3 a (NestO X.prog X.w a (ks ++ [(keyOf d, b)])))
theorem stored_new {xs : List (NestedKey × Addr × Value)} {k : NestedKey} (b : Addr) (v : Value) (h : (atKey xs k).isSome = false) : storedH xs k b v = xs ++ [(k, b, v)] := by
  unfold storedH
  rw [h]
  rfl
theorem ps_nput {X : Cx} {o i value : Expr} {td ty tv : TE} {pos pos' : Pos} (hu : X.A.units + 64 < cLine) (ho : PE X o td) (hi : PE X i ty) (hv : PE X value tv) (hs : swapsWith value (some (.Subscript o i pos')) pos.line X.env = pure false := by rfl) :
    PS X (.Assign [.Subscript o i pos'] value pos) (sNPut X td ty tv) := by
  refine ⟨fun pins s σ H D I h => ?_⟩
  refine wpAny_Assign_Subscript (thn (hv.run pins s σ H _ I h) fun r s1 ⟨v, H1, J1, rvs, w1⟩ => thn (ho.run pins s1 σ H1 _ J1 w1) fun u s2 ⟨x, H2, J2, rx, w2⟩ => thn (hi.run pins s2 σ H2 _ J2 w2) fun iv s3 ⟨y, H3, J3, ry, a, b, ks, d, ex, ey, ha, kk, im, hd, nk, hl, w3⟩ => ?_) hs
  subst ex ey
  obtain rfl : u = Value.ref a := rx
  obtain rfl : iv = Value.ref b := ry
  obtain ⟨low, xs, hm, dd, szz⟩ := nest_at J3 ha kk
  have hlen : xs.length = ks.length := by rw [← hm, List.length_map]
  have hnot : (atKey xs (keyOf d)).isSome = false := by rw [nest_there hm]; exact decide_eq_false nk
  refine wpAny_setItem_heap (hsz := szz) (room8 hu) (nest_key J3 im hd) dd fun h' dd' hs' => ?_
  rw [stored_new _ _ hnot] at dd'
  have eo : ∃ q, h'.get? a = some q := let ⟨q, _, _, hq, _⟩ := dd'; ⟨q, hq⟩
  refine ⟨σ, _, d_write J3 (by rw [ha]; exact True.intro) hs' eo (nest_new (xs := xs ++ [(keyOf d, b, r)]) low ?_ dd' ?_), w3⟩
  · rw [List.map_append, hm]
    rfl
  · rw [List.length_append, List.length_singleton]
    omega
/-! ### a, b, *rest = a tuple -/
def gStar (K : PySem.W.Frag) (n : Nat) (t : TGs) : TG := fun v σ H Q => ∃ a xs, v = .ref a ∧ SqT K H a xs ∧ n ≤ xs.length ∧ xs.length ≤ 1000 ∧ ∀ p, H p = none → t (xs.take n ++ [.ref p]) σ (upd H p (.lst (xs.drop n))) Q
theorem star_last {prog : Program} {w : World} {A : Around} {E : Value → Shared → Prop} {s : Shared} {l : Addr} {items : Array Value} {n : Nat} {Q : List Value → Shared → Prop} (isT : IsTup s.heap l items) (noH : A.handled = none) (hn : n ≤ items.size) (szz : items.size ≤ 16384)
    (h : ∀ (h' : Heap) (tk : Nat), (∀ b o, s.heap.get? b = some o → h'.get? b = some o) → Q (items.toList.take n ++ [.ref h'.objs.size]) { s with heap := h'.push { cls := .type "list", data := .seq (items.toList.drop n).toArray }, toks := tk }) :
    wpAny (model prog w) A (unpackItems (.ref l) (n + 1) (some n)) Q E s := by
  have ll : l < s.heap.objs.size := isT.lt
  have hlt : l ≠ s.heap.objs.size := Nat.ne_of_lt ll
  unfold unpackItems
  refine wpAny_bind ?_
  unfold notIterableAtAll
  refine wpAny_bind (wpAny_specialOf isT.typeIs slot_tuple_iter.lookup (wpAny_pure ?_))
  simp only [Bool.false_eq_true, if_false]
  refine wpAny_bind (wpAny_holding (iter_tuple isT ?_))
  refine wpAny_bind (wpAny_holding (draw_tuple hlt n 0 _ _ ⟨_, Heap.get?_push_size _ rfl, rfl, rfl⟩ (isT.push _) (by omega) fun h₁ itS hs => ?_))
  have hl₁ : IsTup h₁ l items := (isT.push _).extBut hs.extBut hlt
  rw [Nat.zero_add] at itS
  obtain ⟨oi, hoi, _⟩ := id itS
  obtain ⟨ol, hol, _⟩ := id hl₁
  rw [List.drop_zero]
  have hfl : (items.toList.take n).length = n := by rw [List.length_take, Array.length_toList]; omega
  rw [if_neg (show ¬ ((items.toList.take n).length < n) by rw [hfl]; omega)]
  refine wpAny_bind (wpAny_holding (PySem.W.kun_collect (s := { s with heap := h₁ }) (T := "tuple_iterator") (.inr (.inr (.inr rfl))) (Walks.tuple (A := A.in1) noH s.heap.objs.size l hlt items) (fun j u now => now.1.typeIs) (k := n) (by omega) ⟨itS, hl₁⟩ (Heap.lt_size hoi) (Heap.lt_size hol) (fun h₂ tk kept => ?_) (by rw [sizeLine_eq]; omega)))
  have e0 : n + 1 - 1 - n = 0 := by omega
  show wpAny _ _ (if (items.toList.drop n).length < n + 1 - 1 - n then _ else _) _ _ _
  rw [e0, if_neg (Nat.not_lt_zero _)]
  show wpAny _ _ (newList ((items.toList.drop n).take ((items.toList.drop n).length - 0)) >>= fun d => pure (items.toList.take n ++ [d] ++ (items.toList.drop n).drop ((items.toList.drop n).length - 0))) _ _ _
  rw [Nat.sub_zero, List.take_length, List.drop_length]
  refine wpAny_bind (wpAny_newList (wpAny_pure ?_) (by rw [List.length_drop, Array.length_toList, sizeLine_eq]; omega))
  rw [List.append_nil]
  exact h h₂ tk fun b o e => kept b o (Nat.ne_of_lt (Heap.lt_size e)) (hs.extBut b o (Nat.ne_of_lt (Heap.lt_size e)) (Heap.get?_push_of_some _ e))
theorem pg_starTup {X : Cx} {es es' : List Expr} {k : Nat} {pos : Pos} {t : TGs} {n : Nat} (hc : X.calm = true) (h : PGs X es' t) (hm : (assignEach es X.env).map (·.2) = (assignEach es' X.env).map (·.2) := by rfl)
    (hn : (assignEach es X.env).length = n + 1 := by rfl) (hst : (assignEach es X.env).findIdx? (·.1) = some n := by rfl) : PG X (.Tuple es k pos) (gStar X.K n t) := by
  refine ⟨fun pins s σ H v u Q I r hw => ?_⟩
  obtain ⟨a, xs, ev, hq, hl, szz, hw⟩ := hw
  subst ev
  cases r
  obtain ⟨its, rvs, ht, _⟩ := I.tuple hq
  have e := rvs.length
  rw [assign_Tuple]
  refine wpAny_bind (wpAny_standAt ?_)
  unfold unpack
  rw [hn, hst]
  refine wpAny_bind (wpAny_holding (star_last ht (I.ok.hd hc) (by simp only [List.size_toArray]; omega) (by simp only [List.size_toArray]; omega) fun h' tk kept => ?_))
  have J1 : Inv X pins σ H { s with heap := h', toks := tk } := I.kept kept
  have hn1 : H h'.objs.size = none := J1.hok.fresh (Nat.le_refl _)
  have J2 : Inv X pins σ (upd H h'.objs.size (.lst (xs.drop n))) { s with heap := h'.push { cls := .type "list", data := .seq (its.toArray.toList.drop n).toArray }, toks := tk } :=
    J1.laid (a := h'.objs.size) (t' := tk) (fun _ _ q => Heap.get?_push_of_some _ q) (Nat.le_refl _) ⟨by rw [List.length_drop, sizeLine_eq]; omega, its.drop n, _, Vals.drop n rvs, Heap.get?_push_size _ rfl⟩
  rw [hm]
  exact h.run pins _ σ _ (xs.take n ++ [.ref h'.objs.size]) _ Q J2 (Vals.append (show Vals (xs.take n) (its.toArray.toList.take n) from by simpa using Vals.take n rvs) (.cons (show RelV (.ref h'.objs.size) (Value.ref h'.objs.size) from rfl) .nil)) (hw _ hn1)
/-! ### SIZES.get(k, x): a dict of the module with text keys -/
def tKdGet2 (X : Cx) (td tk tx : TE) : TE := fun σ H Q => td σ H fun x H1 => ∃ (a : Addr) (es : Array DictEntry) (n : Nat), x = .ref a ∧ KDict X.K X.w a es n ∧ tk σ H1 fun y H2 => tx σ H2 fun z H3 => ∃ (s : Str) (u : Value) (v : V), y = .str s ∧ PySem.W.nsIn X.K a s = some (some u) ∧ RelV v u ∧ Q v H3
theorem pe_kdGet2 {X : Cx} {o e f : Expr} {apos cpos : Pos} {td tk tx : TE} (ho : PE X o td) (eo : PE X e tk) (fps : PE X f tx) (m : M2 X o "get" apos e f cpos := by exact ⟨rfl, rfl, rfl, rfl⟩) :
    PE X (.Call (.Attribute o "get" apos) [e, f] [] cpos) (tKdGet2 X td tk tx) := by
  refine ⟨fun pins s σ H Q I h => ?_⟩
  refine wpAny_Call_method m.base m.few m.line PySem.F.plainAttrs_dict PySem.F.slot_dict_get PySem.F.type_dict_get (thn (ho.run pins s σ H _ I h) fun u s1 ⟨x, H1, J1, rx, a, es, n, ex, D, w1⟩ => ?_)
  subst ex
  obtain rfl : u = Value.ref a := rx
  have mo := fun {s2 : Shared} {H2 : Hp} (J2 : Inv X pins σ H2 s2) => PySem.W.mapOf_K (prog := X.prog) (w := X.w) J2.kIn D.at_ D.lit
  refine ⟨(mo J1).typeIs, (mo J1).noDict, ?_⟩
  rw [m.trees]
  refine Calls.callWith_builtin rfl (Calls.evalArgs_plain (Calls.spliced_cons (thn (eo.run pins s1 σ H1 _ J1 w1) fun iv s2 ⟨y, H2, J2, ry, w2⟩ =>
    Calls.spliced_cons (thn (fps.run pins s2 σ H2 _ J2 w2) fun fv s3 ⟨z, H3, J3, rz, k, v, w', ey, ek, rvs, w3⟩ => Calls.spliced_nil ?_))))
  subst ey
  obtain ⟨t, rfl⟩ := ry
  refine call_meetsIn PySem.F.slot_dict_get (mo J3).typeIs PySem.F.entry_dict_get (PySem.F.args_dict_get_3 _ _ _) (meets_dict_get_default (strKind X.prog X.w) a (PySem.strKind_is X.prog X.w k t) D.low fv) ⟨_, mo J3, ?_⟩
  rw [PySem.W.find_K D.at_ ek]
  exact ⟨w', H3, J3.tok _, rvs, w3⟩
/-! ### enumerate(a tuple) -/
def IteT (K : PySem.W.Frag) (a : Addr) : It :=
  ⟨fun i H => ∃ (xs : List V) (x : V), SqT K H a xs ∧ xs[i]? = some x, fun i H v H' => ∃ T x, v = .ref T ∧ H T = none ∧ H' = upd H T (.tup [.int (i : Nat), x]) ∧ ∀ xs, SqT K H a xs → xs[i]? = some x, fun i H => ∃ xs : List V, SqT K H a xs ∧ xs.length ≤ i⟩
def iEnumA (K : PySem.W.Frag) (ta : TA) : TI := fun σ H R => ta σ H fun vs H1 => ∃ a xs, vs = [.ref a] ∧ ((SqL K H1 a xs ∧ R (Ite K a) H1) ∨ (SqT K H1 a xs ∧ R (IteT K a) H1))
theorem meets_enum1 {v : Value} {o : Obj} {C : Heap → Prop} (B : PySem.Begins v o C) :
    Meets (Builtin.«enumerate.__new__» ⟨[.type "enumerate", v], []⟩) (fun _ R s => C s.heap ∧
      R (.ok (.ret (.ref (s.heap.push o).objs.size))) { s with heap := (s.heap.push o).push { cls := .type "enumerate", data := .fields #[.none, .bool false, .ref s.heap.objs.size, rawInt 0, .none, .none] } }) :=
  .of_wp fun prog w A R s h => by
    obtain ⟨hp, g, d, tk, os⟩ := s
    obtain ⟨h1, h⟩ := h
    have hsub := sub_enumerate
    have w1 : ∀ {A' : Around} {E : Value → Shared → Prop} {Q : Value → Shared → Prop}, Q (.ref hp.objs.size) ⟨hp.push o, g, d, tk, os⟩ → wpAny (model prog w) A' (pyIter v) Q E ⟨hp, g, d, tk, os⟩ :=
      fun good => B.iter prog w _ _ ⟨hp, g, d, tk, os⟩ _ h1 good
    wp_walk using w1
    refine wpAny_stack_any fun now => wpAny_pure ?_
    split
    · rename_i c _ _ _ _ _
      cases (c == Value.type "enumerate") <;> wp_walk using w1 <;> exact ⟨_, rfl, h⟩
    · wp_walk using w1
      exact ⟨_, rfl, h⟩
theorem call_enum1 {prog : Program} {w : World} {A : Around} {E : Value → Shared → Prop} {s : Shared} {v : Value} {o : Obj} {C : Heap → Prop} {Q : Value → Shared → Prop} (B : PySem.Begins v o C) (h1 : C s.heap)
    (h : ∀ h', IsEnum h' (s.heap.objs.size + 1) s.heap.objs.size 0 .none → h'.get? s.heap.objs.size = some o → (∀ b u, s.heap.get? b = some u → h'.get? b = some u) → Q (.ref (s.heap.objs.size + 1)) { s with heap := h' }) :
    wpAny (model prog w) A (call (.type "enumerate") [v]) Q E s := by
  refine callType_new PySem.F.called_enumerate (by decide) (PySem.F.typeCall_enumerate_1 _) (PySem.F.newCall_enumerate_1 _) (fun obj => PySem.F.args_object_init_2 obj _) PySem.F.entry_enumerate_new (meets_enum1 B) ⟨h1, ?_⟩
  have szz : (s.heap.push o).objs.size = s.heap.objs.size + 1 := Heap.size_push ..
  show _ ∧ _
  rw [szz]
  have eo : IsEnum ((s.heap.push o).push { cls := .type "enumerate", data := .fields #[.none, .bool false, .ref s.heap.objs.size, rawInt 0, .none, .none] }) (s.heap.objs.size + 1) s.heap.objs.size 0 .none := by
    have z := Heap.get?_push_size (s.heap.push o) (o := { cls := .type "enumerate", data := .fields #[.none, .bool false, .ref s.heap.objs.size, rawInt 0, .none, .none] }) rfl
    rw [szz] at z
    exact z
  exact ⟨⟨_, eo, rfl⟩, h _ eo (Heap.get?_push_of_some _ (Heap.get?_push_size _ B.free)) fun b u x => Heap.get?_push_of_some _ (Heap.get?_push_of_some _ x)⟩
theorem enum_endT {prog : Program} {w : World} {A : Around} {E : Value → Shared → Prop} {s : Shared} {e it a : Addr} {i : Nat} {c : Int} {old : Value} {items : Array Value} {Q : Option Value → Shared → Prop} (noH : A.handled = none)
    (eo : IsEnum s.heap e it c old) (itS : s.heap.IsTupleIter it a i) (ht : s.heap.IsTuple a items) (hx : items[i]? = none) (hQ : ∀ h', Heap.ExtBut it s.heap h' → Q none { s with heap := h' }) : wpAny (model prog w) A (pyNext (.ref e)) Q E s := by
  have typE : s.TypeIs (.ref e) "enumerate" := ⟨_, eo, rfl⟩
  unfold pyNext
  refine wpAny_bind (wpAny_attempt (wpAny_callSpecial?_slot (name := Str.ofString "__next__") typE PySem.F.slot_enumerate_next (wpAny_call_entry PySem.F.slot_enumerate_next typE PySem.F.entry_enumerate_next ?_ (PySem.F.args_enumerate_next_1 _))))
  show wpAny _ _ (field (.ref e) 2 >>= _) _ _ _
  refine wpAny_bind (wpAny_field eo rfl (x := .ref it) rfl ?_)
  refine wpAny_bind (PySem.wpAny_nextOf_tuple_end noH itS ht hx fun h' x eo' hx' => ?_)
  obtain ⟨ob, at_, kind⟩ := hx'
  refine wpAny_bind (wpAny_isInstance (T := "StopIteration") (b := true) ⟨ob, at_, kind⟩ isSubtype_stop ?_)
  exact wpAny_pure (hQ _ eo')
theorem turn_enumT {P : Program} {w : World} {K : PySem.W.Frag} {elts : List Expr} {kk : Nat} {tpos : Pos} (a e it : Addr) :
    Turn P w K (.Tuple elts kk tpos) (IteT K a) [e, it] e (fun i h => (∃ old, IsEnum h e it ((i : Nat) : Int) old) ∧ h.IsTupleIter it a i ∧ e ≠ it ∧ e ≠ a ∧ a ≠ it) where
  mem := by simp
  obj := fun i h now b mb => by
    obtain ⟨⟨old, eo⟩, ⟨o, ho, hc, hd⟩, _⟩ := now
    have e' : b = e ∨ b = it := by simpa using mb
    rcases e' with z | z
    · rw [z]; exact ⟨_, eo, fun v q => nomatch q⟩
    · subst z
      exact ⟨o, ho, fun v isCell => by rw [hd] at isCell; cases isCell⟩
  keep := fun i h h' now k => let ⟨⟨old, eo⟩, hi, neq⟩ := now; ⟨⟨old, k e (by simp) _ eo⟩, hi.at fun o q => k it (by simp) o q, neq⟩
  item := by
    intro X hP hw hK hc i pins s σ H E I fps now hg
    subst hP hw hK
    obtain ⟨⟨old, eo⟩, itS, neq, hea, hai⟩ := now
    obtain ⟨xs, x, hq, hx⟩ := hg
    obtain ⟨its, rvs, p, szz⟩ := I.tuple hq
    obtain ⟨u, hu, rvu⟩ := rvs.get hx
    have ltE : e < s.heap.objs.size := Heap.lt_size eo
    have ltI : it < s.heap.objs.size := by obtain ⟨_, q, _⟩ := itS; exact Heap.lt_size q
    have hil2 : i < its.toArray.size := by
      obtain ⟨z, _⟩ := List.getElem?_eq_some_iff.mp hu
      simpa using z
    refine PySem.wpAny_pyNext_enum_itemC (c := ((i : Nat) : Int)) (i := i) (Draws.tuple (A := X.A.in1) (I.ok.hd hc) it a hai its.toArray) eo ⟨itS, show s.heap.IsTuple a its.toArray from p⟩ hil2 neq (by simp [neq, hea]) fun y h' tk hy ho hst typE hsz kept => ?_
    have ey : y = u := by
      have ea : its.toArray[i]? = some u := by simpa using hu
      exact Option.some.inj (hy.symm.trans ea)
    subst ey
    refine ⟨_, rfl, wpAny_letOwnedTupleGo_enum (s := { s with heap := h', toks := tk + 1 }) ho fun h'' eo' sbe => ?_⟩
    have hT2 : h''.get? s.heap.objs.size = some { cls := .type "tuple", data := .seq #[.int ((i : Nat) : Int) tk, y] } := (sbe.2 _ (Nat.ne_of_gt ltE)).trans typE
    have fresh1 : ObjOk X.prog X.w (upd H s.heap.objs.size (.tup [.int (i : Nat), x])) h'' s.heap.objs.size (.tup [.int (i : Nat), x]) :=
      ⟨by show 2 ≤ sizeLine; decide, [.int ((i : Nat) : Int) tk, y], .cons ⟨_, rfl⟩ (.cons rvu .nil), ⟨_, hT2, rfl, _, rfl⟩⟩
    have J1 : Inv X pins σ (upd H s.heap.objs.size (.tup [.int (i : Nat), x])) { s with heap := h'', toks := tk + 1 } :=
      I.turnedNew (ch := [e, it]) (fun b ob mb q => (sbe.2 b (fun z => mb (by simp [z]))).trans (kept b ob (fun z => mb (by simp [z])) (fun z => mb (by simp [z])) q)) fps (Nat.le_refl _) fresh1
    refine ⟨.ref s.heap.objs.size, _, J1, rfl, ⟨_, x, rfl, I.hok.fresh (Nat.le_refl _), rfl, fun ys hy => by rw [I.tuple_inj hy hq]; exact hx⟩, ⟨⟨y, ?_⟩, hst.1.at fun o q => (sbe.2 it (Ne.symm neq)).trans q, neq, hea, hai⟩, fun b mb => ?_⟩
    · have ea : ((i + 1 : Nat) : Int) = (i : Int) + 1 := by omega
      rw [ea]; exact eo'
    · have mb' : b < s.heap.objs.size := by
        have e' : b = e ∨ b = it := by simpa using mb
        rcases e' with z | z
        · rw [z]; exact ltE
        · rw [z]; exact ltI
      rw [upd_ne (Nat.ne_of_lt mb')]
      exact (fps b mb).1
  done := by
    intro X hP hw hK hc i pins s σ H E I fps now hg
    subst hP hw hK
    obtain ⟨⟨old, eo⟩, itS, neq, hea, hai⟩ := now
    obtain ⟨xs, hq, hx⟩ := hg
    obtain ⟨its, rvs, p, szz⟩ := I.tuple hq
    obtain ⟨f0, f1, f2, f3, f4, f5⟩ := fps it (by simp)
    have hl := rvs.length
    exact enum_endT (I.ok.hd hc) eo itS (show s.heap.IsTuple a its.toArray from p) (by simp; omega) fun h' eb => ⟨rfl, I.turned (t' := s.toks) (fun b o mb q => eb b o mb q) f0 f1 f3 f4 f5⟩
  self := fun A i s Q E now h => let ⟨⟨_, eo⟩, _⟩ := now; wpAny_pyIter_enum eo h
theorem pi_enumA {X : Cx} {e : Expr} {ta : TA} {p pos tpos : Pos} {elts : List Expr} {kk : Nat} (hg : Gl X "enumerate") (hm : X.mg "enumerate" = none) (ha : PA X [e] ta) (hs : starEach [e] X.env = [(false, eval e X.env)] := by rfl) :
    PI X (.Tuple elts kk tpos) (.Call (.Name "enumerate" p) [e] [] pos) (iEnumA X.K ta) := by
  refine ⟨fun pins s σ H R I h => ?_⟩
  refine Call_ (ld_blt I hg hm boot_enumerate (PyProof.Rows.callWith_type1 (thn (ha.run pos pins s σ H _ I h) fun us s1 ⟨vs, H1, J1, rv1, w1⟩ => ?_) hs rfl))
  obtain ⟨a, xs, ex, w1⟩ := w1
  subst ex
  obtain rfl := Vals.ref1 rv1
  have fp : ∀ b ∈ [s1.heap.objs.size + 1, s1.heap.objs.size], FpOk X pins H1 b := fun b mb => by
    have e' : b = s1.heap.objs.size + 1 ∨ b = s1.heap.objs.size := by simpa using mb
    have hle : s1.heap.objs.size ≤ b := by
      rcases e' with z | z
      · rw [z]; exact Nat.le_add_right _ _
      · rw [z]; exact Nat.le_refl _
    exact J1.fpOk hle (J1.hok.fresh hle)
  rcases w1 with ⟨hq, q⟩ | ⟨hq, q⟩
  · obtain ⟨its, rvs, p', szz⟩ := J1.list hq
    refine call_enumerate_list p'.isList fun h' eo itS hsz kept => wpAny_pyIter_enum eo ?_
    exact ⟨s1.heap.objs.size + 1, [s1.heap.objs.size + 1, s1.heap.objs.size], _, _, H1, rfl, J1.kept (t' := s1.toks) kept, turn_enum a (s1.heap.objs.size + 1) s1.heap.objs.size, ⟨⟨.none, eo⟩, itS, Nat.succ_ne_self _⟩, fp, q⟩
  · obtain ⟨its, rvs, p', szz⟩ := J1.tuple hq
    have la : a < s1.heap.objs.size := p'.lt
    refine call_enum1 (PySem.begins_tuple a its.toArray) (show s1.heap.IsTuple a its.toArray from p') fun h' eo ho kept => wpAny_pyIter_enum eo ?_
    exact ⟨s1.heap.objs.size + 1, [s1.heap.objs.size + 1, s1.heap.objs.size], _, _, H1, rfl, J1.kept (t' := s1.toks) kept, turn_enumT a (s1.heap.objs.size + 1) s1.heap.objs.size,
      ⟨⟨.none, eo⟩, ⟨_, ho, rfl, rfl⟩, Nat.succ_ne_self _, Nat.ne_of_gt (Nat.lt_succ_of_lt la), Nat.ne_of_lt la⟩, fp, q⟩
/-! ### sorted(d.items()), the keys whole numbers in order -/
def rSortIt (d : Addr) (kvs : List (Int × V)) : Hp → VK → Prop := fun H Q => H d = some (.dK (kvs.map fun p => (.inl p.1, p.2))) ∧ kvs.Pairwise (fun p q => p.1 < q.1) ∧ kvs.length < 64 ∧
  ∀ (as : List Addr) (l : Addr) (H' : Hp), as.length = kvs.length → (∀ b o, H b = some o → H' b = some o) → H l = none → H' l = some (.lst (as.map V.ref)) → (∀ a ∈ as, H a = none) → l ∉ as →
    (∀ (i : Nat) (a : Addr) (p : Int × V), as[i]? = some a → kvs[i]? = some p → H' a = some (.tup [.int p.1, p.2])) → Q (.ref l) H'
def tSortIt (te : TE) : TE := fun σ H Q => te σ H fun x H1 => ∃ d kvs, x = .ref d ∧ rSortIt d kvs H1 Q
def intOf : Option Value → Int
  | some (.int k _) => k
  | _ => 0
def keyI (h : Heap) : Value → Int
  | .ref a => match h.get? a with
    | some o => match o.data with
      | .seq xs _ => intOf xs[0]?
      | _ => 0
    | none => 0
  | _ => 0
/-- at v stands a fresh1 pair (k, u) -/
def PairK (h : Heap) (v : Value) (k : Int) (u : Value) : Prop := ∃ (a : Addr) (t : Tok), v = .ref a ∧ h.get? a = some { cls := .type "tuple", data := .seq #[Value.int k t, u] }
theorem PairK.key {h : Heap} {v u : Value} {k : Int} (x : PairK h v k u) : keyI h v = k := by
  obtain ⟨a, t, rfl, e⟩ := x
  unfold keyI
  dsimp only
  rw [e]
  rfl
theorem firsts_int {h : Heap} : ∀ vs : List Value, (∀ v ∈ vs, ∃ k u, PairK h v k u) → ∃ fs : List Value, PySem.W.KatTups h vs fs ∧ fs.length = vs.length ∧ ∀ f ∈ fs, ∃ (k : Int) (t : Tok), f = .int k t
  | [], _ => ⟨[], PySem.W.KatTups.nil, rfl, fun f fps => nomatch fps⟩
  | v :: vs, x => by
    obtain ⟨fs, k, hl, hi⟩ := firsts_int vs fun u hu => x u (List.mem_cons_of_mem _ hu)
    obtain ⟨n, u, a, t, rfl, e⟩ := x v (List.mem_cons_self ..)
    refine ⟨.int n t :: fs, PySem.W.KatTups.cons e rfl rfl rfl k, by rw [List.length_cons, List.length_cons, hl], fun f fps => ?_⟩
    rcases List.mem_cons.mp fps with rfl | fps
    · exact ⟨n, t, rfl⟩
    · exact hi f fps
theorem kind_ints {prog : Program} {w : World} {A : Around} {E : Value → Shared → Prop} {s : Shared} {vs : List Value} (h2 : 2 ≤ vs.length) (x : ∀ v ∈ vs, ∃ k u, PairK s.heap v k u) (inj : ∀ v ∈ vs, ∀ u ∈ vs, keyI s.heap v = keyI s.heap u → v = u) (Q : SortKind → Shared → Prop)
    (h : ∀ κ, TS.Cmp prog w A s κ (pairsOf vs) (keyI s.heap) → Q κ s) : wpAny (model prog w) A (keyKind' vs.toArray) Q E s := by
  obtain ⟨fs, k, hl, hi⟩ := firsts_int vs x
  refine PySem.W.kat_kind (T := Value.type "int") k (by omega) (fun f fps => ?_) rfl (h _ ?_)
  · obtain ⟨n, t, rfl⟩ := hi f fps
    exact PySem.W.Looks.now
  · have mb : (Value.type "int" != Value.type "tuple") = true := by first | rfl | decide | simp
    rw [mb]
    intro p q hp hq Q' E' hQ
    rw [pairsOf_toList] at hp hq
    have mp := (mem_zip_self hp).2
    have mq := (mem_zip_self hq).2
    obtain ⟨n, u, px⟩ := x _ mp
    obtain ⟨n', u', py⟩ := x _ mq
    have same : n = n' → p.1 = q.1 := fun e => inj _ mp _ mq (by rw [px.key, py.key, e])
    rw [px.key, py.key] at hQ
    obtain ⟨a, t, ea, ha⟩ := px
    obtain ⟨a', t', eb, ha'⟩ := py
    rw [ea, eb]
    refine PySem.W.kat_lt ha rfl ha' rfl ?_
    show PySem.W.KatLex prog w A true false Q' [(Value.int n t, Value.int n' t'), (u, u')] 0 s
    refine PySem.W.kat_cons (wpAny_eqBool_int (PySem.W.kat_go (fun e => ?_) (fun e => ?_)))
    · have ec : n = n' := by simpa using e
      have ed := same ec
      rw [ea, eb] at ed
      cases ed
      rw [ha] at ha'
      have ef : u = u' := by
        have z := congrArg Obj.data (Option.some.inj ha')
        injection z with z1 _
        have z2 := congrArg Array.toList z1
        simp at z2
        exact z2.2
      subst ef
      have f0 : decide (n < n') = false := decide_eq_false (by omega)
      rw [f0] at hQ
      exact PySem.W.kat_yes (PySem.W.kat_cons (SeqAt.EqAt.same u _ _ _ _ (PySem.W.kat_yes (PySem.W.kat_nil hQ))))
    · exact PySem.W.kat_no (oneLt_any_int hQ)
theorem none_of_upd {H : Hp} {a b : Addr} {o : HO} (h : upd H a o b = none) : H b = none := by
  by_cases e : b = a
  · subst e
    rw [upd_same] at h
    cases h
  · rw [upd_ne e] at h
    exact h
section
variable {X : Cx}
/-- the view of a dict's items -/
def rItK : V → List V → Hp → VK → Prop := fun x xs H Q => ∃ (d : Addr) (kvs : List (Key × V)), x = .ref d ∧ xs = [] ∧ H d = some (.dK kvs) ∧ ∀ p, H p = none → Q (.ref p) (upd H p (L2.DX.itemsO p d))
theorem mt_itK : MtR X "dict.items" rItK := by
  intro pins s σ H x xs v us Q I rx rxs h
  obtain ⟨a, kvs, rfl, rfl, ha, q⟩ := h
  cases rx
  cases rxs
  obtain ⟨z, low, vs, rel, o, es, ep, ho, hx, hdat, _⟩ := dk_of I.hok ha
  refine DT.callItems (es := es) (ep := ep) low ⟨o, ho, hx, hdat⟩ ?_
  have fps : H s.heap.objs.size = none := I.hok.fresh (Nat.le_refl _)
  exact ⟨.ref s.heap.objs.size, upd H s.heap.objs.size (L2.DX.itemsO s.heap.objs.size a), I.laid (t' := s.toks) (fun b u e => Heap.get?_push_of_some _ e) (Nat.le_refl _) (L2.DX.itemsO_ok (Heap.get?_push_size _ rfl)), rfl, q _ fps⟩
def rSortK : List V → Hp → VK → Prop := fun vs H Q => ∃ p d kvs, vs = [.ref p] ∧ H p = some (L2.DX.itemsO p d) ∧ rSortIt d kvs H Q
theorem cr_sortK (hc : X.calm = true) : CallR X (.builtin "sorted") rSortK := by
  intro pins s σ H xs us Q I r h
  obtain ⟨p, d, kvs, rfl, hp, hd, pw, h64, q⟩ := h
  obtain rfl := Vals.ref1 r
  have view : s.heap.IsItemsView p d := (show ObjOk X.prog X.w H s.heap p (L2.DX.itemsO p d) from I.hok p _ hp).1
  obtain ⟨z, low, vs, rel, o, es, ep, ho, hx, hdat, kept, hpr, hnd⟩ := dk_of I.hok hd
  have l1 : kvs.length = vs.length := by have := rel.length; rw [List.length_map] at this; exact this
  have l2 : vs.length = es.size := by rw [← hpr.length]; exact Array.length_toList
  have noH : X.A.handled = none := I.ok.hd hc
  refine DT.sortedI (es := es) (ep := ep) noH view ⟨o, ho, hx, hdat⟩ (by rw [sizeLine_eq]; omega) fun h' tk as kept' hlt hl hG => ?_
  have lenA : as.length = kvs.length := by omega
  have ndA : as.Nodup := List.Pairwise.imp (fun h => Nat.ne_of_lt h) hG.rise
  -- the pairs that were made
  have made : ∀ (j : Nat) (b : Addr), as[j]? = some b → ∃ (e : Int × V) (t : Tok) (u : Value), kvs[j]? = some e ∧ RelV e.2 u ∧ h'.get? b = some { cls := .type "tuple", data := .seq #[Value.int e.1 t, u] } := by
    intro j b ij
    obtain ⟨en, eo, hg⟩ := hG.pairs j b ij
    have jl : j < kvs.length := by rw [← lenA]; exact (List.getElem?_eq_some_iff.mp ij).1
    have ek : kvs[j]? = some kvs[j] := List.getElem?_eq_getElem jl
    have vl : j < vs.length := by omega
    have ev : vs[j]? = some vs[j] := List.getElem?_eq_getElem vl
    obtain ⟨y, ey, rv1, rv2⟩ := L2.DX.pget (show Paired (fun (p : Key × V) (q : Key × Value) => p.1 = q.1 ∧ RelV p.2 q.2) _ _ from rel) ev
    rw [List.getElem?_map, ek] at ey
    cases ey
    obtain ⟨w1, w2⟩ := hpr.get? (i := j) (e := en) (k := vs[j].1) (v := vs[j].2) (by rw [Array.getElem?_toList]; exact eo) ev
    have w3 : keyIs (Sum.inl kvs[j].1) en.key = true := by
      have r1' : (Sum.inl kvs[j].1 : Key) = vs[j].1 := rv1
      rw [r1']
      exact w1
    obtain ⟨t, et⟩ := Value.isInt_shape (k := kvs[j].1) (v := en.key) w3
    refine ⟨kvs[j], t, vs[j].2, ek, rv2, ?_⟩
    rw [hg, et, w2]
  have oL : (h'.push { cls := .type "list", data := .seq (as.map Value.ref).toArray }).get? h'.objs.size = some (seqObj "list" (as.map Value.ref).toArray 0) := Heap.get?_push_size _ rfl
  have keepS : ∀ b o, s.heap.get? b = some o → (h'.push { cls := .type "list", data := .seq (as.map Value.ref).toArray }).get? b = some o := fun b o e => Heap.get?_push_of_some _ (kept' b o e)
  have ltL : ∀ b o, h'.get? b = some o → b ≠ h'.objs.size := fun b o e => Nat.ne_of_lt (Heap.lt_size e)
  generalize eqM : h'.push { cls := .type "list", data := .seq (as.map Value.ref).toArray } = h2 at oL keepS ⊢
  have keepM : ∀ b o, h'.get? b = some o → h2.get? b = some o := fun b o e => by rw [← eqM]; exact Heap.get?_push_of_some _ e
  generalize hm : TS.midHeap h2 h'.objs.size (as.map Value.ref) = hM
  have pin : ∀ (j : Nat) (b : Addr), as[j]? = some b → ∃ (e : Int × V) (u : Value), kvs[j]? = some e ∧ PairK hM (.ref b) e.1 u := by
    intro j b ij
    obtain ⟨e, t, u, eo, _, hg⟩ := made j b ij
    exact ⟨e, u, eo, b, t, rfl, by rw [← hm]; exact TS.midHeap_old (ltL _ _ hg) (keepM _ _ hg)⟩
  have rk : ∀ (j : Nat) (b : Addr) (e : Int × V), as[j]? = some b → kvs[j]? = some e → keyI hM (.ref b) = e.1 := by
    intro j b e ij eo
    obtain ⟨e', u, eo', hp'⟩ := pin j b ij
    rw [eo] at eo'
    cases eo'
    exact hp'.key
  have at_ : ∀ v ∈ as.map Value.ref, ∃ (j : Nat) (b : Addr) (e : Int × V), v = .ref b ∧ as[j]? = some b ∧ kvs[j]? = some e := by
    intro v hv'
    obtain ⟨b, mb, rfl⟩ := List.mem_map.mp hv'
    obtain ⟨j, ij⟩ := List.mem_iff_getElem?.mp mb
    obtain ⟨e, _, _, eo, _⟩ := made j b ij
    exact ⟨j, b, e, rfl, ij, eo⟩
  have up : ∀ (i j : Nat) (e f : Int × V), i < j → kvs[i]? = some e → kvs[j]? = some f → e.1 < f.1 := by
    intro i j e f hij eo fps
    obtain ⟨hi, ea⟩ := List.getElem?_eq_some_iff.mp eo
    obtain ⟨ij, eb⟩ := List.getElem?_eq_some_iff.mp fps
    have := List.pairwise_iff_getElem.mp pw i j hi ij hij
    rw [ea, eb] at this
    exact this
  have inj : ∀ v ∈ as.map Value.ref, ∀ u ∈ as.map Value.ref, keyI hM v = keyI hM u → v = u := by
    intro v hv u hu eo
    obtain ⟨i, b, e, rfl, hi, hei⟩ := at_ v hv
    obtain ⟨j, c, f, rfl, ij, hfj⟩ := at_ u hu
    rw [rk i b e hi hei, rk j c f ij hfj] at eo
    rcases Nat.lt_trichotomy i j with g | g | g
    · have := up i j e f g hei hfj
      omega
    · subst g
      rw [hi] at ij
      cases ij
      rfl
    · have := up j i f e g hfj hei
      omega
  refine wpAny_call_entry PyProof.Rows.slot_list_sort ⟨_, oL, rfl⟩ PyProof.Rows.entry_list_sort
    (SK.plain_sort (s := { s with heap := h2, toks := tk }) (r := keyI hM) oL (by rw [List.length_map]; omega) (fun h2' Qk hQk => ?_) fun ps out o1 o2 o3 => ⟨.none, rfl, ?_⟩) (PyProof.Rows.args_list_sort _)
  · show wpAny _ _ _ _ _ { s with heap := TS.midHeap h2 h'.objs.size (as.map Value.ref), toks := tk }
    have hQk2 : ∀ κ, TS.Cmp X.prog X.w X.A.in1.in1 { s with heap := TS.midHeap h2 h'.objs.size (as.map Value.ref), toks := tk } κ (pairsOf (as.map Value.ref)) (keyI hM) → Qk κ { s with heap := TS.midHeap h2 h'.objs.size (as.map Value.ref), toks := tk } := hQk
    rw [hm] at hQk2 ⊢
    refine kind_ints (s := { s with heap := hM, toks := tk }) h2' (fun v hv' => ?_) inj Qk hQk2
    obtain ⟨j, b, e, rfl, ij, eo⟩ := at_ v hv'
    obtain ⟨e', u, _, hp'⟩ := pin j b ij
    exact ⟨e'.1, u, hp'⟩
  · have hps : ps = (as.map Value.ref).zip (as.map Value.ref) := by
      refine List.Perm.eq_of_pairwise (le := fun p q : Value × Value => keyI hM p.1 ≤ keyI hM q.1) (fun p q hp hq h1 h2 => ?_) o3 ?_ o2
      · have mp := mem_zip_self (o2.mem_iff.mp hp)
        have mq := mem_zip_self hq
        have e := inj _ mp.2 _ mq.2 (by omega)
        exact Prod.ext e (by rw [← mp.1, ← mq.1]; exact e)
      · refine List.pairwise_iff_getElem.mpr fun i j hi ij hij => ?_
        have li : i < as.length := by simpa using hi
        have lj : j < as.length := by simpa using ij
        have gi : as[i]? = some as[i] := List.getElem?_eq_getElem li
        have gj : as[j]? = some as[j] := List.getElem?_eq_getElem lj
        obtain ⟨e, _, _, eo, _⟩ := made i _ gi
        obtain ⟨f, _, _, fps, _⟩ := made j _ gj
        have z1 : ((as.map Value.ref).zip (as.map Value.ref))[i].1 = Value.ref as[i] := by simp
        have z2 : ((as.map Value.ref).zip (as.map Value.ref))[j].1 = Value.ref as[j] := by simp
        show keyI hM ((as.map Value.ref).zip (as.map Value.ref))[i].1 ≤ keyI hM ((as.map Value.ref).zip (as.map Value.ref))[j].1
        rw [z1, z2, rk i _ e gi eo, rk j _ f gj fps]
        exact Int.le_of_lt (up i j e f hij eo fps)
    have hout : out.toList = as.map Value.ref := by
      rw [o1, hps]
      exact List.map_snd_zip (Nat.le_refl _)
    show EP X pins σ Q (.ref h'.objs.size) { s with heap := sortedHeap h2 h'.objs.size (as.map Value.ref) out, toks := tk }
    have keepF : ∀ b o, b ≠ h'.objs.size → h2.get? b = some o → (sortedHeap h2 h'.objs.size (as.map Value.ref) out).get? b = some o := fun b o mb e => (PyProof.Rows.sortedHeap_old mb (Heap.lt_size e)).trans e
    have keepO : ∀ b o, s.heap.get? b = some o → (sortedHeap h2 h'.objs.size (as.map Value.ref) out).get? b = some o := fun b o e => keepF b o (ltL _ _ (kept' b o e)) (keepS b o e)
    obtain ⟨endF, endE⟩ := PyProof.Rows.sortedHeap_at (vs := as.map Value.ref) (out := out) oL
    have J1 : Inv X pins σ H { s with heap := sortedHeap h2 h'.objs.size (as.map Value.ref) out, toks := tk } := I.kept (t' := tk) keepO
    have freeL : H h'.objs.size = none := I.hok.fresh (Nat.le_of_lt hlt)
    have hlen : (as.map V.ref).length ≤ sizeLine := by
      rw [List.length_map, sizeLine_eq]
      omega
    have rvs : Vals (as.map V.ref) out.toList := by
      rw [hout]
      exact vals_maps V.ref Value.ref as fun _ _ => rfl
    have J2 : Inv X pins σ (upd H h'.objs.size (.lst (as.map V.ref))) { s with heap := sortedHeap h2 h'.objs.size (as.map Value.ref) out, toks := tk } :=
      J1.take (h' := sortedHeap h2 h'.objs.size (as.map Value.ref) out) (t' := tk) (fun b ob _ e => e) (I.fpOk (Nat.le_of_lt hlt) freeL) ⟨hlen, out.toList, endF, rvs, endE⟩
    have frA : ∀ a ∈ as, H a = none := fun a ha => I.hok.fresh (Nat.le_of_lt (hG.above a ha))
    have notL : h'.objs.size ∉ as := fun ha => Nat.lt_irrefl _ (hG.there ha)
    obtain ⟨H2, J3, g, qt⟩ := L2.DX.takeT (P := fun b vs => ∃ (j : Nat) (e : Int × V), as[j]? = some b ∧ kvs[j]? = some e ∧ vs = [.int e.1, e.2]) I as _ J2 ndA fun b mb => by
      obtain ⟨j, ij⟩ := List.mem_iff_getElem?.mp mb
      obtain ⟨e, t, u, eo, re, hg⟩ := made j b ij
      have lowB : s.heap.objs.size ≤ b := Nat.le_of_lt (hG.above b mb)
      refine ⟨lowB, ?_, [.int e.1, e.2], ⟨j, e, ij, eo, rfl⟩, fun H3 => ⟨(by rw [sizeLine_eq]; show 2 ≤ 16777216; omega), [Value.int e.1 t, u], .cons ⟨t, rfl⟩ (.cons re .nil), ⟨_, keepF _ _ (ltL _ _ hg) (keepM _ _ hg), rfl, 0, rfl⟩⟩⟩
      rw [upd_ne (ltL _ _ hg)]
      exact frA b mb
    refine ⟨.ref h'.objs.size, H2, J3, rfl, q as h'.objs.size H2 lenA (fun b o e => g b o (by rw [upd_ne (ne_of_none e freeL)]; exact e)) freeL (g _ _ upd_same) frA notL fun i a p hi hp' => ?_⟩
    obtain ⟨vs', ⟨j, e, j1, j2, ev⟩, hH⟩ := qt a (List.mem_of_getElem? hi)
    have eij : i = j := (List.getElem?_inj (List.getElem?_eq_some_iff.mp hi).1 ndA).mp (hi.trans j1.symm)
    subst eij
    rw [hp'] at j2
    cases j2
    rw [hH, ev]
/-- a reading closed upwards -/
def upw (te : TE) : TE := fun σ H Q => ∃ R : VK, te σ H R ∧ ∀ x H1, R x H1 → Q x H1
theorem pe_upw {e : Expr} {te : TE} (eo : PE X e te) : PE X e (upw te) := ⟨fun pins s σ H Q I ⟨R, h, k⟩ => thn (eo.run pins s σ H R I h) fun v s1 ⟨x, H1, J1, r, q⟩ => ⟨x, H1, J1, r, k _ _ q⟩⟩
theorem pe_sortedItems {e : Expr} {te : TE} {p pos apos cpos : Pos} (hc : X.calm = true) (hg : Gl X "sorted") (hm : X.mg "sorted" = none) (eo : PE X e te) (mb : attributeBase e "items" X.env (eval e X.env) = eval e X.env := by rfl) (hl : (apos.endLine == cpos.line) = true := by rfl) :
    PE X (.Call (.Name "sorted" p) [.Call (.Attribute e "items" apos) [] [] cpos] [] pos) (tSortIt te) := by
  have P := pe_callB (p := p) (pos := pos) (cr_sortK (X := X) hc) hg hm (by decide +kernel) (pa_cons (pe_bm0 (cpos := cpos) (apos := apos) PySem.F.plainAttrs_dict PySem.F.slot_dict_items PySem.F.type_dict_items mt_itK (pe_upw eo) mb hl) pa_nil)
  refine ⟨fun pins s σ H Q I h => P.run pins s σ H Q I ⟨_, h, ?_⟩⟩
  rintro x H1 ⟨d, kvs, rfl, hd, pw, h64, q⟩
  refine ⟨.inr (.inr (.inl ⟨rfl, .inl ⟨_, hd⟩⟩)), d, _, rfl, rfl, hd, fun v hv => ?_⟩
  have nv : ∀ b o, H1 b = some o → upd H1 v (L2.DX.itemsO v d) b = some o := fun b o e => by rw [upd_ne (ne_of_none e hv)]; exact e
  refine ⟨v, d, kvs, rfl, upd_same, nv _ _ hd, pw, h64, fun as l H' la ex hl0 hl1 fps nl hp => q as l H' la (fun b o e => ex b o (nv b o e)) ?_ hl1 (fun a ha => ?_) nl hp⟩
  · exact none_of_upd hl0
  · exact none_of_upd (fps a ha)
end
end Sr

set_option Elab.async false
set_option linter.all false
set_option maxRecDepth 100000
set_option maxHeartbeats 4000000
/-! Sr_Rep: how the machine stands in the abstract heap; who owns what. -/
namespace Sr
open PySem PySem.Spec PyProof.Rows L2
/-! ### owners -/
inductive Cell where
  | w | hs | lts | leads | settles | answers | acts | asked | run | posted | draw
  | hand (i : Nat) | got (i : Nat) | known (i : Nat) | wishes (i : Nat) | seen (i n : Nat)
  deriving DecidableEq
def Cell.ix : Cell → Option Nat
  | .hand i => some i
  | .got i => some i
  | .known i => some i
  | .wishes i => some i
  | .seen i _ => some i
  | _ => none
abbrev Own := Addr → Option Cell
def NoTup (o : HO) : Prop := ∀ xs, o ≠ .tup xs
/-- what is owned stands, and is no tuple -/
def Al (O : Own) (H : Hp) : Prop := ∀ b c, O b = some c → ∃ o, H b = some o ∧ NoTup o
def updO (O : Own) (a : Addr) (c : Cell) : Own := fun b => if b = a then some c else O b
theorem updO_same {O : Own} {a : Addr} {c : Cell} : updO O a c a = some c := by unfold updO; rw [if_pos rfl]
theorem updO_ne {O : Own} {a b : Addr} {c : Cell} (h : b ≠ a) : updO O a c b = O b := by unfold updO; rw [if_neg h]
theorem Al.fresh {O : Own} {H : Hp} {a : Addr} (A : Al O H) (h : H a = none) : O a = none := by
  cases e : O a with
  | none => rfl
  | some c => obtain ⟨o, q, _⟩ := A a c e; rw [h] at q; cases q
theorem Al.ne {O : Own} {H : Hp} {a b : Addr} {c : Cell} (A : Al O H) (h : O a = some c) (h' : H b = none) : a ≠ b := by
  intro e; subst e; rw [A.fresh h'] at h; cases h
theorem own_ne {O : Own} {a b : Addr} {c d : Cell} (h : O a = some c) (h' : O b = some d) (n : c ≠ d) : a ≠ b := by
  intro e; subst e; rw [h] at h'; cases h'; exact n rfl
/-- from one heap to another: what is owned may change where D allows it; all else stays -/
structure Stp (D : Cell → Prop) (O : Own) (H : Hp) (O' : Own) (H' : Hp) : Prop where
  mono : ∀ b c, O b = some c → O' b = some c
  fresh : ∀ b c, O' b = some c → O b = some c ∨ (H b = none ∧ D c)
  keep : ∀ b o, H b = some o → O b = none → H' b = some o
  only : ∀ b c, O b = some c → ¬ D c → H' b = H b
  al : Al O' H'
section
variable {D D' : Cell → Prop} {O O1 O2 : Own} {H H1 H2 : Hp} {a b : Addr} {o : HO} {c : Cell}
theorem Stp.refl (A : Al O H) : Stp D O H O H := ⟨fun _ _ h => h, fun _ _ h => .inl h, fun _ _ h _ => h, fun _ _ _ _ => rfl, A⟩
theorem Stp.there (s : Stp D O H O1 H1) (h : H b = some o) : ∃ o1, H1 b = some o1 := by
  cases e : O b with
  | none => exact ⟨o, s.keep b o h e⟩
  | some c => obtain ⟨o1, q, _⟩ := s.al b c (s.mono b c e); exact ⟨o1, q⟩
theorem Stp.free (s : Stp D O H O1 H1) (h : H1 b = none) : H b = none := by
  cases e : H b with
  | none => rfl
  | some o => obtain ⟨o1, q⟩ := s.there e; rw [h] at q; cases q
theorem Stp.own_none (s : Stp D O H O1 H1) (h : H b = some o) (e : O b = none) : O1 b = none := by
  cases q : O1 b with
  | none => rfl
  | some c =>
    rcases s.fresh b c q with z | ⟨z, _⟩
    · rw [e] at z; cases z
    · rw [h] at z; cases z
theorem Stp.trans (s : Stp D O H O1 H1) (t : Stp D O1 H1 O2 H2) : Stp D O H O2 H2 where
  mono := fun b c h => t.mono b c (s.mono b c h)
  fresh := fun b c h => by
    rcases t.fresh b c h with z | ⟨z, d⟩
    · exact s.fresh b c z
    · exact .inr ⟨s.free z, d⟩
  keep := fun b o h e => t.keep b o (s.keep b o h e) (s.own_none h e)
  only := fun b c h n => (t.only b c (s.mono b c h) n).trans (s.only b c h n)
  al := t.al
theorem Stp.wide (s : Stp D O H O1 H1) (h : ∀ c, D c → D' c) : Stp D' O H O1 H1 :=
  ⟨s.mono, fun b c e => (s.fresh b c e).imp id fun z => ⟨z.1, h c z.2⟩, s.keep, fun b c e n => s.only b c e fun z => n (h c z), s.al⟩
theorem Stp.tk (s : Stp D O H O1 H1) (A : Al O H) : Tk H H1 := fun a xs h => s.keep a _ h (by
  cases e : O a with
  | none => rfl
  | some c => obtain ⟨o, q, n⟩ := A a c e; rw [h] at q; cases q; exact (n xs rfl).elim)
/-- nothing that stood has changed -/
theorem Stp.same (A : Al O H) (h : Same H H1) : Stp D O H O H1 :=
  ⟨fun _ _ e => e, fun _ _ e => .inl e, fun b o e _ => h b o e, fun b c e _ => by obtain ⟨o, q, _⟩ := A b c e; rw [q, h b o q], fun b c e => by obtain ⟨o, q, n⟩ := A b c e; exact ⟨o, h b o q, n⟩⟩
/-- an owned object is written -/
theorem Stp.put (A : Al O H) (h : O a = some c) (d : D c) (n : NoTup o) : Stp D O H O (upd H a o) where
  mono := fun _ _ e => e
  fresh := fun _ _ e => .inl e
  keep := fun b u e z => by rw [upd_ne (by intro q; subst q; rw [h] at z; cases z)]; exact e
  only := fun b c' e z => by
    by_cases q : b = a
    · subst q; rw [h] at e; cases e; exact (z d).elim
    · rw [upd_ne q]
  al := fun b c' e => by
    by_cases q : b = a
    · subst q; exact ⟨o, upd_same, n⟩
    · rw [upd_ne q]; exact A b c' e
/-- a new object that is owned -/
theorem Stp.own (A : Al O H) (h : H a = none) (d : D c) (n : NoTup o) : Stp D O H (updO O a c) (upd H a o) where
  mono := fun b c' e => by rw [updO_ne (A.ne e h)]; exact e
  fresh := fun b c' e => by
    by_cases q : b = a
    · subst q; rw [updO_same] at e; cases e; exact .inr ⟨h, d⟩
    · rw [updO_ne q] at e; exact .inl e
  keep := fun b u e z => by rw [upd_ne (ne_of_none e h)]; exact e
  only := fun b c' e z => by rw [upd_ne (A.ne e h)]
  al := fun b c' e => by
    by_cases q : b = a
    · subst q; exact ⟨o, upd_same, n⟩
    · rw [updO_ne q] at e; rw [upd_ne q]; exact A b c' e
/-- a new object that none owns -/
theorem same_new (h : H a = none) : Same H (upd H a o) := fun b u e => by rw [upd_ne (ne_of_none e h)]; exact e
theorem Stp.new (A : Al O H) (h : H a = none) : Stp D O H O (upd H a o) := .same A (same_new h)
theorem same_al (h : Same H H1) (A : Al O H) : Al O H1 := (Stp.same (D := fun _ => True) A h).al
theorem same_tk (h : Same H H1) : Tk H H1 := fun a xs e => h a _ e
end
theorem noTup_lst {xs : List V} : NoTup (.lst xs) := fun _ h => nomatch h
theorem noTup_dK {kvs : List (Key × V)} : NoTup (.dK kvs) := fun _ h => nomatch h
theorem noTup_ins {C dx : Addr} {fs : List (Str × V)} : NoTup (.ins C dx fs) := fun _ h => nomatch h
theorem noTup_nest {P : Program} {w : World} {a : Addr} {ks : List (NestedKey × Addr)} : NoTup (NestO P w a ks) := fun _ h => nomatch h
/-! ### a hand's fields -/
structure RH where
  term : V
  vote : V
  log : V
  sure : V
  role : V
  got : V
  known : V
  told : V
  begun : V
  wishes : V
def RH.kvs (r : RH) : List (Key × V) := [(.inr "term", r.term), (.inr "vote", r.vote), (.inr "log", r.log), (.inr "sure", r.sure), (.inr "role", r.role), (.inr "got", r.got), (.inr "known", r.known), (.inr "told", r.told), (.inr "begun", r.begun), (.inr "wishes", r.wishes)]
def RH.fs (r : RH) : List (Str × V) := [("term", r.term), ("vote", r.vote), ("log", r.log), ("sure", r.sure), ("role", r.role), ("got", r.got), ("known", r.known), ("told", r.told), ("begun", r.begun), ("wishes", r.wishes)]
abbrev nv (n : Nat) : V := .int (n : Int)
def voteV : Option Nat → V
  | none => .non
  | some n => nv n
def kn (q : Nat × Nat) : Key × V := (.inl (q.1 : Int), nv q.2)
/-- which of the two programs -/
inductive Side where
  | law
  | prog (P : Program) (w : World) (K : PySem.W.Frag)
def Side.obj : Side → Hp → Addr → RH → Prop
  | .law, H, p, r => H p = some (.dK r.kvs)
  | .prog _ _ K, H, p, r => ∃ dx, H p = some (.ins (CH K) dx r.fs)
def setL (l : List Nat) : HO := .lst (l.map nv)
def setD (l : List Nat) : HO := .dK (l.map fun n : Nat => (.inl (n : Int), .bl true))
def Side.set : Side → List Nat → HO
  | .law => setL
  | .prog .. => setD
theorem Side.noTup (S : Side) (l : List Nat) : NoTup (S.set l) := by
  cases S <;> exact fun _ h => nomatch h
/-- where a hand's parts stand -/
structure HL where
  l : Addr
  g : Addr
  k : Addr
  w : Addr
  ws : List (Nat × List Nat × Addr)
def rh (h : Hd) (L : HL) : RH := ⟨nv h.term, voteV h.vote, .ref L.l, nv h.sure, .str h.role.str, .ref L.g, .ref L.k, nv h.told, nv h.begun, .ref L.w⟩
def wK (x : Nat × List Nat × Addr) : Key × V := (.inl (x.1 : Int), .ref x.2.2)
structure HandIn (S : Side) (H : Hp) (O : Own) (i : Nat) (p : Addr) (h : Hd) (L : HL) : Prop where
  ob : S.obj H p (rh h L)
  op : O p = some (.hand i)
  log : Im H (logD h.log) (.ref L.l)
  got : H L.g = some (S.set h.got)
  og : O L.g = some (.got i)
  kn : H L.k = some (.dK (h.known.map kn))
  ok : O L.k = some (.known i)
  ws : h.wishes = L.ws.map fun x => (x.1, x.2.1)
  wi : H L.w = some (.dK (L.ws.map wK))
  ow : O L.w = some (.wishes i)
  sn : ∀ x ∈ L.ws, H x.2.2 = some (S.set x.2.1) ∧ O x.2.2 = some (.seen i x.1)
def HandAt (S : Side) (H : Hp) (O : Own) (i : Nat) (p : Addr) (h : Hd) : Prop := ∃ L, HandIn S H O i p h L
section
variable {S : Side} {D : Cell → Prop} {O O1 : Own} {H H1 : Hp} {i : Nat} {p : Addr} {h : Hd} {L : HL} {r : RH}
theorem Side.obj_eq (e : H1 p = H p) (h : S.obj H p r) : S.obj H1 p r := by
  cases S with
  | law => exact Eq.trans e h
  | prog P w K => obtain ⟨dx, q⟩ := h; exact ⟨dx, Eq.trans e q⟩
theorem HandIn.keep (W : HandIn S H O i p h L) (A : Al O H) (s : Stp D O H O1 H1) (n : ∀ c, c.ix = some i → ¬ D c) : HandIn S H1 O1 i p h L where
  ob := Side.obj_eq (s.only _ _ W.op (n _ rfl)) W.ob
  op := s.mono _ _ W.op
  log := Im.keep (s.tk A) _ _ W.log
  got := (s.only _ _ W.og (n _ rfl)).trans W.got
  og := s.mono _ _ W.og
  kn := (s.only _ _ W.ok (n _ rfl)).trans W.kn
  ok := s.mono _ _ W.ok
  ws := W.ws
  wi := (s.only _ _ W.ow (n _ rfl)).trans W.wi
  ow := s.mono _ _ W.ow
  sn := fun x hx => ⟨(s.only _ _ (W.sn x hx).2 (n _ rfl)).trans (W.sn x hx).1, s.mono _ _ (W.sn x hx).2⟩
theorem HandAt.keep (W : HandAt S H O i p h) (A : Al O H) (s : Stp D O H O1 H1) (n : ∀ c, c.ix = some i → ¬ D c) : HandAt S H1 O1 i p h := let ⟨L, W⟩ := W; ⟨L, W.keep A s n⟩
end
/-- the cells of one hand; all cells but the draw's -/
def dH (i : Nat) : Cell → Prop := fun c => c.ix = some i
def dA : Cell → Prop := fun c => c ≠ .draw
/-! ### the world -/
structure WL where
  w : Addr
  hs : Addr
  lts : Addr
  leads : Addr
  settles : Addr
  answers : Addr
  acts : Addr
  asked : Addr
  x : Addr
  ps : List Addr
  pv : V
def lawKvs (L : WL) : List (Key × V) := [(.inr "protocol", L.pv), (.inr "hands", .ref L.hs), (.inr "letters", .ref L.lts), (.inr "leads", .ref L.leads), (.inr "settles", .ref L.settles), (.inr "answers", .ref L.answers), (.inr "acts", .ref L.acts), (.inr "asked", .ref L.asked), (.inr "run", .ref L.x)]
def progFs (L : WL) (po : V) : List (Str × V) := [("protocol", L.pv), ("hands", .ref L.hs), ("bag", .ref L.lts), ("numbers", .ref L.x), ("leads", .ref L.leads), ("settles", .ref L.settles), ("answers", .ref L.answers), ("asked", .ref L.asked), ("acts", .ref L.acts), ("posted", po)]
def Side.wobj : Side → Hp → Own → WL → Nat → Prop
  | .law, H, _, L, _ => H L.w = some (.dK (lawKvs L))
  | .prog _ _ K, H, O, L, n => ∃ dx q xs, H L.w = some (.ins (CW K) dx (progFs L (.ref q))) ∧ H q = some (.lst xs) ∧ xs.length = n ∧ O q = some .posted
def Side.leadD : Side → (Nat × Nat × Log × List Nat) → PyData
  | .law => Sr.leadD
  | .prog .. => leadD4
/-- the run of the law's world; the letters' numbers of the package's -/
def Side.extra : Side → Hp → WL → List Addr → Wd → List Dd → Prop
  | .law, H, L, _, _, rs => ∃ vs, H L.x = some (.lst vs) ∧ ImAll H (rs.map Dd.data) vs
  | .prog P w _, H, L, as, m, _ => H L.x = some (NestO P w L.x ((m.lts.map fun l => keyOf l.data).zip as))
structure WorldIn (S : Side) (H : Hp) (O : Own) (L : WL) (m : Wd) (rs : List Dd) : Prop where
  al : Al O H
  ob : S.wobj H O L rs.length
  ow : O L.w = some .w
  pr : Im H m.pr.data L.pv
  hs : H L.hs = some (.lst (L.ps.map V.ref))
  ohs : O L.hs = some .hs
  lts : ∃ as : List Addr, H L.lts = some (.lst (as.map V.ref)) ∧ ImAll H (m.lts.map Lt.data) (as.map V.ref) ∧ S.extra H L as m rs
  olts : O L.lts = some .lts
  leads : ∃ vs, H L.leads = some (.lst vs) ∧ ImAll H (m.leads.map S.leadD) vs
  oleads : O L.leads = some .leads
  settles : ∃ vs, H L.settles = some (.lst vs) ∧ ImAll H (m.settles.map trD) vs
  osettles : O L.settles = some .settles
  answers : ∃ vs, H L.answers = some (.lst vs) ∧ ImAll H (m.answers.map trD) vs
  oanswers : O L.answers = some .answers
  acts : ∃ vs, H L.acts = some (.lst vs) ∧ ImAll H (m.acts.map actD) vs
  oacts : O L.acts = some .acts
  asked : H L.asked = some (.lst (m.asked.map nv))
  oasked : O L.asked = some .asked
  ox : O L.x = some .run
  len : L.ps.length = m.hs.length
  hd : ∀ i p, L.ps[i]? = some p → HandAt S H O i p (m.hd i)
  n : m.hs.length = m.pr.hands
section
variable {S : Side} {D : Cell → Prop} {O O1 : Own} {H H1 : Hp} {L : WL} {m m' : Wd} {rs rs' : List Dd} {i : Nat} {p : Addr} {h : Hd}
theorem WorldIn.lst_k {n : Nat} {a : Addr} {c : Cell} {ds : List PyData} (W : WorldIn S H O L m rs) (s : Stp D O H O1 H1) (o : O a = some c) (d : ¬ D c) (h : ∃ vs, H a = some (.lst vs) ∧ ImAll H ds vs) : ∃ vs, H1 a = some (.lst vs) ∧ ImAll H1 ds vs := by
  obtain ⟨vs, e, q⟩ := h
  exact ⟨vs, (s.only _ _ o d).trans e, ImAll.keep (s.tk W.al) _ _ q⟩
theorem WorldIn.leads_k (W : WorldIn S H O L m rs) (s : Stp D O H O1 H1) (d : ¬ D .leads) : ∃ vs, H1 L.leads = some (.lst vs) ∧ ImAll H1 (m.leads.map S.leadD) vs := W.lst_k (n := 0) s W.oleads d W.leads
theorem WorldIn.settles_k (W : WorldIn S H O L m rs) (s : Stp D O H O1 H1) (d : ¬ D .settles) : ∃ vs, H1 L.settles = some (.lst vs) ∧ ImAll H1 (m.settles.map trD) vs := W.lst_k (n := 0) s W.osettles d W.settles
theorem WorldIn.answers_k (W : WorldIn S H O L m rs) (s : Stp D O H O1 H1) (d : ¬ D .answers) : ∃ vs, H1 L.answers = some (.lst vs) ∧ ImAll H1 (m.answers.map trD) vs := W.lst_k (n := 0) s W.oanswers d W.answers
theorem WorldIn.acts_k (W : WorldIn S H O L m rs) (s : Stp D O H O1 H1) (d : ¬ D .acts) : ∃ vs, H1 L.acts = some (.lst vs) ∧ ImAll H1 (m.acts.map actD) vs := W.lst_k (n := 0) s W.oacts d W.acts
theorem WorldIn.asked_k (W : WorldIn S H O L m rs) (s : Stp D O H O1 H1) (d : ¬ D .asked) : H1 L.asked = some (.lst (m.asked.map nv)) := (s.only _ _ W.oasked d).trans W.asked
theorem WorldIn.extra_k {as : List Addr} (W : WorldIn S H O L m rs) (s : Stp D O H O1 H1) (d : ¬ D .run) (h : S.extra H L as m rs) : S.extra H1 L as m rs := by
  cases S with
  | law => exact W.lst_k (n := 0) s W.ox d h
  | prog P w K => exact (s.only _ _ W.ox d).trans h
theorem WorldIn.lts_k (W : WorldIn S H O L m rs) (s : Stp D O H O1 H1) (d : ¬ D .lts) (d' : ¬ D .run) : ∃ as : List Addr, H1 L.lts = some (.lst (as.map V.ref)) ∧ ImAll H1 (m.lts.map Lt.data) (as.map V.ref) ∧ S.extra H1 L as m rs := by
  obtain ⟨as, e, q, x⟩ := W.lts
  exact ⟨as, (s.only _ _ W.olts d).trans e, ImAll.keep (s.tk W.al) _ _ q, W.extra_k s d' x⟩
theorem WorldIn.ob_k (W : WorldIn S H O L m rs) (s : Stp D O H O1 H1) (d : ¬ D .w) (d' : ¬ D .posted) : S.wobj H1 O1 L rs.length := by
  have h := W.ob
  have e := s.only _ _ W.ow d
  cases S with
  | law => exact Eq.trans e h
  | prog P w K =>
    obtain ⟨dx, q, xs, h1, h2, h3, h4⟩ := h
    exact ⟨dx, q, xs, e.trans h1, (s.only _ _ h4 d').trans h2, h3, s.mono _ _ h4⟩
theorem WorldIn.hd_k (W : WorldIn S H O L m rs) (s : Stp D O H O1 H1) (d : ∀ c, c.ix ≠ none → ¬ D c) (hp : L.ps[i]? = some p) : HandAt S H1 O1 i p (m.hd i) :=
  (W.hd i p hp).keep W.al s fun c hc => d c (by rw [hc]; exact fun z => nomatch z)
/-- a hand has changed -/
theorem WorldIn.hand (W : WorldIn S H O L m rs) (hp : L.ps[i]? = some p) (s : Stp (dH i) O H O1 H1) (hA : HandAt S H1 O1 i p h) : WorldIn S H1 O1 L (m.set i h) rs := by
  have no : ∀ c : Cell, c.ix = none → ¬ dH i c := fun c e z => by
    have z : c.ix = some i := z
    rw [e] at z; cases z
  have hi : i < m.hs.length := by
    have q := (List.getElem?_eq_some_iff.mp hp).1
    have := W.len
    omega
  exact {
    al := s.al
    ob := W.ob_k s (no _ rfl) (no _ rfl)
    ow := s.mono _ _ W.ow
    pr := Im.keep (s.tk W.al) _ _ W.pr
    hs := (s.only _ _ W.ohs (no _ rfl)).trans W.hs
    ohs := s.mono _ _ W.ohs
    lts := by
      obtain ⟨as, a, b, c⟩ := W.lts_k s (no _ rfl) (no _ rfl)
      exact ⟨as, a, b, by cases S <;> exact c⟩
    olts := s.mono _ _ W.olts
    leads := W.leads_k s (no _ rfl)
    oleads := s.mono _ _ W.oleads
    settles := W.settles_k s (no _ rfl)
    osettles := s.mono _ _ W.osettles
    answers := W.answers_k s (no _ rfl)
    oanswers := s.mono _ _ W.oanswers
    acts := W.acts_k s (no _ rfl)
    oacts := s.mono _ _ W.oacts
    asked := W.asked_k s (no _ rfl)
    oasked := s.mono _ _ W.oasked
    ox := s.mono _ _ W.ox
    len := W.len.trans (by simp [Wd.set])
    hd := fun j q hj => by
      by_cases e : j = i
      · subst e
        rw [hp] at hj
        cases hj
        have e2 : (m.set j h).hd j = h := by simp [Wd.set, Wd.hd, hi]
        rw [e2]
        exact hA
      · have e2 : (m.set i h).hd j = m.hd j := by simp [Wd.set, Wd.hd, List.getElem?_set_ne (Ne.symm e)]
        rw [e2]
        exact (W.hd j q hj).keep W.al s fun c hc z => by
          have z : c.ix = some i := z
          rw [hc] at z
          cases z
          exact e rfl
    n := by simpa [Wd.set] using W.n }
/-- the hands have not changed -/
theorem WorldIn.rest (W : WorldIn S H O L m rs) (s : Stp D O H O1 H1) (e1 : m'.hs = m.hs) (e2 : m'.pr = m.pr) (d : ∀ c, c.ix ≠ none → ¬ D c) (dh : ¬ D .hs) (ob : S.wobj H1 O1 L rs'.length)
    (lts : ∃ as : List Addr, H1 L.lts = some (.lst (as.map V.ref)) ∧ ImAll H1 (m'.lts.map Lt.data) (as.map V.ref) ∧ S.extra H1 L as m' rs')
    (leads : ∃ vs, H1 L.leads = some (.lst vs) ∧ ImAll H1 (m'.leads.map S.leadD) vs) (settles : ∃ vs, H1 L.settles = some (.lst vs) ∧ ImAll H1 (m'.settles.map trD) vs)
    (answers : ∃ vs, H1 L.answers = some (.lst vs) ∧ ImAll H1 (m'.answers.map trD) vs) (acts : ∃ vs, H1 L.acts = some (.lst vs) ∧ ImAll H1 (m'.acts.map actD) vs)
    (asked : H1 L.asked = some (.lst (m'.asked.map nv))) : WorldIn S H1 O1 L m' rs' :=
  { al := s.al, ob := ob, ow := s.mono _ _ W.ow, pr := by rw [e2]; exact Im.keep (s.tk W.al) _ _ W.pr, hs := (s.only _ _ W.ohs dh).trans W.hs, ohs := s.mono _ _ W.ohs, lts := lts, olts := s.mono _ _ W.olts, leads := leads,
    oleads := s.mono _ _ W.oleads, settles := settles, osettles := s.mono _ _ W.osettles, answers := answers, oanswers := s.mono _ _ W.oanswers, acts := acts, oacts := s.mono _ _ W.oacts, asked := asked, oasked := s.mono _ _ W.oasked,
    ox := s.mono _ _ W.ox, len := by rw [e1]; exact W.len, n := by rw [e1, e2]; exact W.n
    hd := fun i p hp => by
      have q := W.hd_k s d hp
      have e3 : m'.hd i = m.hd i := by unfold Wd.hd; rw [e1]
      rw [e3]
      exact q }
/-- nothing that stood has changed -/
theorem WorldIn.same (W : WorldIn S H O L m rs) (h : Same H H1) : WorldIn S H1 O L m rs := by
  have s : Stp (fun _ => False) O H O H1 := .same W.al h
  have no : ∀ c : Cell, ¬ (fun _ => False : Cell → Prop) c := fun _ z => z
  have e := W.lts_k s id id
  exact W.rest s rfl rfl (fun c _ => no c) id (W.ob_k s id id) e (W.leads_k s id) (W.settles_k s id) (W.answers_k s id) (W.acts_k s id) (W.asked_k s id)
end
/-! ### fields read and stored -/
section
variable {H : Hp} {p dx C : Addr} {r : RH} {v : V} {L : WL} {po : V}
theorem dg_term (e : H p = some (.dK r.kvs)) : DGet H p (.str "term") (some r.term) := DGet.k (k := .inr "term") e
theorem dp_term (v : V) (e : H p = some (.dK r.kvs)) : DPut H p (.str "term") v (upd H p (.dK { r with term := v }.kvs)) := DPut.k (k := .inr "term") e (by show 10 < sizeLine; decide)
theorem fl_term : r.fs.lookup ("term" : Str) = some r.term := rfl
theorem fp_term : putF "term" v r.fs = { r with term := v }.fs := rfl
theorem dg_vote (e : H p = some (.dK r.kvs)) : DGet H p (.str "vote") (some r.vote) := DGet.k (k := .inr "vote") e
theorem dp_vote (v : V) (e : H p = some (.dK r.kvs)) : DPut H p (.str "vote") v (upd H p (.dK { r with vote := v }.kvs)) := DPut.k (k := .inr "vote") e (by show 10 < sizeLine; decide)
theorem fl_vote : r.fs.lookup ("vote" : Str) = some r.vote := rfl
theorem fp_vote : putF "vote" v r.fs = { r with vote := v }.fs := rfl
theorem dg_log (e : H p = some (.dK r.kvs)) : DGet H p (.str "log") (some r.log) := DGet.k (k := .inr "log") e
theorem dp_log (v : V) (e : H p = some (.dK r.kvs)) : DPut H p (.str "log") v (upd H p (.dK { r with log := v }.kvs)) := DPut.k (k := .inr "log") e (by show 10 < sizeLine; decide)
theorem fl_log : r.fs.lookup ("log" : Str) = some r.log := rfl
theorem fp_log : putF "log" v r.fs = { r with log := v }.fs := rfl
theorem dg_sure (e : H p = some (.dK r.kvs)) : DGet H p (.str "sure") (some r.sure) := DGet.k (k := .inr "sure") e
theorem dp_sure (v : V) (e : H p = some (.dK r.kvs)) : DPut H p (.str "sure") v (upd H p (.dK { r with sure := v }.kvs)) := DPut.k (k := .inr "sure") e (by show 10 < sizeLine; decide)
theorem fl_sure : r.fs.lookup ("sure" : Str) = some r.sure := rfl
theorem fp_sure : putF "sure" v r.fs = { r with sure := v }.fs := rfl
theorem dg_role (e : H p = some (.dK r.kvs)) : DGet H p (.str "role") (some r.role) := DGet.k (k := .inr "role") e
theorem dp_role (v : V) (e : H p = some (.dK r.kvs)) : DPut H p (.str "role") v (upd H p (.dK { r with role := v }.kvs)) := DPut.k (k := .inr "role") e (by show 10 < sizeLine; decide)
theorem fl_role : r.fs.lookup ("role" : Str) = some r.role := rfl
theorem fp_role : putF "role" v r.fs = { r with role := v }.fs := rfl
theorem dg_got (e : H p = some (.dK r.kvs)) : DGet H p (.str "got") (some r.got) := DGet.k (k := .inr "got") e
theorem dp_got (v : V) (e : H p = some (.dK r.kvs)) : DPut H p (.str "got") v (upd H p (.dK { r with got := v }.kvs)) := DPut.k (k := .inr "got") e (by show 10 < sizeLine; decide)
theorem fl_got : r.fs.lookup ("got" : Str) = some r.got := rfl
theorem fp_got : putF "got" v r.fs = { r with got := v }.fs := rfl
theorem dg_known (e : H p = some (.dK r.kvs)) : DGet H p (.str "known") (some r.known) := DGet.k (k := .inr "known") e
theorem dp_known (v : V) (e : H p = some (.dK r.kvs)) : DPut H p (.str "known") v (upd H p (.dK { r with known := v }.kvs)) := DPut.k (k := .inr "known") e (by show 10 < sizeLine; decide)
theorem fl_known : r.fs.lookup ("known" : Str) = some r.known := rfl
theorem fp_known : putF "known" v r.fs = { r with known := v }.fs := rfl
theorem dg_told (e : H p = some (.dK r.kvs)) : DGet H p (.str "told") (some r.told) := DGet.k (k := .inr "told") e
theorem dp_told (v : V) (e : H p = some (.dK r.kvs)) : DPut H p (.str "told") v (upd H p (.dK { r with told := v }.kvs)) := DPut.k (k := .inr "told") e (by show 10 < sizeLine; decide)
theorem fl_told : r.fs.lookup ("told" : Str) = some r.told := rfl
theorem fp_told : putF "told" v r.fs = { r with told := v }.fs := rfl
theorem dg_begun (e : H p = some (.dK r.kvs)) : DGet H p (.str "begun") (some r.begun) := DGet.k (k := .inr "begun") e
theorem dp_begun (v : V) (e : H p = some (.dK r.kvs)) : DPut H p (.str "begun") v (upd H p (.dK { r with begun := v }.kvs)) := DPut.k (k := .inr "begun") e (by show 10 < sizeLine; decide)
theorem fl_begun : r.fs.lookup ("begun" : Str) = some r.begun := rfl
theorem fp_begun : putF "begun" v r.fs = { r with begun := v }.fs := rfl
theorem dg_wishes (e : H p = some (.dK r.kvs)) : DGet H p (.str "wishes") (some r.wishes) := DGet.k (k := .inr "wishes") e
theorem dp_wishes (v : V) (e : H p = some (.dK r.kvs)) : DPut H p (.str "wishes") v (upd H p (.dK { r with wishes := v }.kvs)) := DPut.k (k := .inr "wishes") e (by show 10 < sizeLine; decide)
theorem fl_wishes : r.fs.lookup ("wishes" : Str) = some r.wishes := rfl
theorem fp_wishes : putF "wishes" v r.fs = { r with wishes := v }.fs := rfl
theorem dw_protocol (e : H p = some (.dK (lawKvs L))) : DGet H p (.str "protocol") (some (L.pv)) := DGet.k (k := .inr "protocol") e
theorem dw_hands (e : H p = some (.dK (lawKvs L))) : DGet H p (.str "hands") (some (.ref L.hs)) := DGet.k (k := .inr "hands") e
theorem dw_letters (e : H p = some (.dK (lawKvs L))) : DGet H p (.str "letters") (some (.ref L.lts)) := DGet.k (k := .inr "letters") e
theorem dw_leads (e : H p = some (.dK (lawKvs L))) : DGet H p (.str "leads") (some (.ref L.leads)) := DGet.k (k := .inr "leads") e
theorem dw_settles (e : H p = some (.dK (lawKvs L))) : DGet H p (.str "settles") (some (.ref L.settles)) := DGet.k (k := .inr "settles") e
theorem dw_answers (e : H p = some (.dK (lawKvs L))) : DGet H p (.str "answers") (some (.ref L.answers)) := DGet.k (k := .inr "answers") e
theorem dw_acts (e : H p = some (.dK (lawKvs L))) : DGet H p (.str "acts") (some (.ref L.acts)) := DGet.k (k := .inr "acts") e
theorem dw_asked (e : H p = some (.dK (lawKvs L))) : DGet H p (.str "asked") (some (.ref L.asked)) := DGet.k (k := .inr "asked") e
theorem dw_run (e : H p = some (.dK (lawKvs L))) : DGet H p (.str "run") (some (.ref L.x)) := DGet.k (k := .inr "run") e
theorem fw_protocol : (progFs L po).lookup ("protocol" : Str) = some (L.pv) := rfl
theorem fw_hands : (progFs L po).lookup ("hands" : Str) = some (.ref L.hs) := rfl
theorem fw_bag : (progFs L po).lookup ("bag" : Str) = some (.ref L.lts) := rfl
theorem fw_numbers : (progFs L po).lookup ("numbers" : Str) = some (.ref L.x) := rfl
theorem fw_leads : (progFs L po).lookup ("leads" : Str) = some (.ref L.leads) := rfl
theorem fw_settles : (progFs L po).lookup ("settles" : Str) = some (.ref L.settles) := rfl
theorem fw_answers : (progFs L po).lookup ("answers" : Str) = some (.ref L.answers) := rfl
theorem fw_asked : (progFs L po).lookup ("asked" : Str) = some (.ref L.asked) := rfl
theorem fw_acts : (progFs L po).lookup ("acts" : Str) = some (.ref L.acts) := rfl
theorem fw_posted : (progFs L po).lookup ("posted" : Str) = some (po) := rfl
theorem fwp_posted : putF "posted" v (progFs L po) = progFs L v := rfl
end
end Sr

set_option Elab.async false
set_option linter.all false
set_option maxRecDepth 100000
set_option maxHeartbeats 4000000
/-! Sr_Im: data taken apart and put together. -/
namespace Sr
open PySem PySem.Spec PyProof.Rows L2
section
variable {H : Hp} {v : V} {vs : List V} {n : Nat}
theorem im_nat : Im H (natD n) v ↔ v = nv n := by simp only [natD, Im]
theorem im_vote {o : Option Nat} : Im H (voteD o) v ↔ v = voteV o := by
  cases o with
  | none => simp only [voteD, voteV, Im]
  | some n => simp only [voteD, voteV, im_nat]
theorem im_row {r : Nat × Nat} : Im H (rowD r) v ↔ ∃ a, v = .ref a ∧ H a = some (.tup [nv r.1, nv r.2]) := by
  simp only [rowD, Im, ImAll, im_nat]
  constructor
  · rintro ⟨a, xs, e, h, x1, r1, e1, rfl, x2, r2, e2, rfl, rfl⟩
    subst e2 e1
    exact ⟨a, e, h⟩
  · rintro ⟨a, e, h⟩
    exact ⟨a, _, e, h, _, _, rfl, rfl, _, _, rfl, rfl, rfl⟩
theorem imAll_nats : ∀ {l : List Nat} {vs : List V}, ImAll H (l.map natD) vs ↔ vs = l.map nv
  | [], vs => by simp only [List.map_nil, ImAll]
  | n :: l, vs => by
    simp only [List.map_cons, ImAll, im_nat, imAll_nats (l := l)]
    constructor
    · rintro ⟨v, r, rfl, rfl, rfl⟩; rfl
    · rintro rfl; exact ⟨_, _, rfl, rfl, rfl⟩
theorem imAll_strs : ∀ {l : List Str} {vs : List V}, ImAll H (l.map PyData.str) vs ↔ vs = l.map V.str
  | [], vs => by simp only [List.map_nil, ImAll]
  | n :: l, vs => by
    simp only [List.map_cons, ImAll, Im, imAll_strs (l := l)]
    constructor
    · rintro ⟨v, r, rfl, rfl, rfl⟩; rfl
    · rintro rfl; exact ⟨_, _, rfl, rfl, rfl⟩
/-- a log's rows stand there -/
def LogAt (H : Hp) (l : Log) (xs : List V) : Prop := ImAll H (l.map rowD) xs
theorem im_log {l : Log} : Im H (logD l) v ↔ ∃ a xs, v = .ref a ∧ H a = some (.tup xs) ∧ LogAt H l xs := by simp only [logD, Im, LogAt]
theorem im_logr {l : Log} {a : Addr} : Im H (logD l) (.ref a) ↔ ∃ xs, H a = some (.tup xs) ∧ LogAt H l xs := by
  rw [im_log]
  constructor
  · rintro ⟨b, xs, e, h1, h2⟩; cases e; exact ⟨xs, h1, h2⟩
  · rintro ⟨xs, h1, h2⟩; exact ⟨a, xs, rfl, h1, h2⟩
theorem LogAt.length {l : Log} {xs : List V} (h : LogAt H l xs) : xs.length = l.length := by
  have := ImAll.length h
  simpa using this
theorem LogAt.keep {H' : Hp} {l : Log} {xs : List V} (h : LogAt H l xs) (k : Tk H H') : LogAt H' l xs := ImAll.keep k _ _ h
theorem LogAt.get {l : Log} {xs : List V} {i : Nat} (h : LogAt H l xs) (hi : i < l.length) : ∃ q, xs[i]? = some (.ref q) ∧ H q = some (.tup [nv (l.getD i (0, 0)).1, nv (l.getD i (0, 0)).2]) := by
  obtain ⟨v, e, q⟩ := ImAll.get (i := i) (d := rowD l[i]) h (by simp [hi])
  rw [im_row] at q
  obtain ⟨a, rfl, q⟩ := q
  refine ⟨a, e, ?_⟩
  have e2 : l.getD i (0, 0) = l[i] := by simp [List.getD, hi]
  rw [e2]
  exact q
theorem LogAt.snoc {l : Log} {xs : List V} {q : Addr} {r : Nat × Nat} (h : LogAt H l xs) (hq : H q = some (.tup [nv r.1, nv r.2])) : LogAt H (l ++ [r]) (xs ++ [.ref q]) := by
  unfold LogAt
  rw [List.map_append]
  exact ImAll.append h (ImAll.one (im_row.mpr ⟨q, rfl, hq⟩))
theorem LogAt.take {l : Log} {xs : List V} (h : LogAt H l xs) (n : Nat) : LogAt H (l.take n) (xs.take n) := by
  unfold LogAt; rw [List.map_take]; exact ImAll.take n h
theorem LogAt.drop {l : Log} {xs : List V} (h : LogAt H l xs) (n : Nat) : LogAt H (l.drop n) (xs.drop n) := by
  unfold LogAt; rw [List.map_drop]; exact ImAll.drop n h
theorem LogAt.append {l k : Log} {xs ys : List V} (h : LogAt H l xs) (g : LogAt H k ys) : LogAt H (l ++ k) (xs ++ ys) := by
  unfold LogAt; rw [List.map_append]; exact ImAll.append h g
theorem im_pr {p : Pr} : Im H p.data v ↔ ∃ a r, v = .ref a ∧ H a = some (.tup [nv p.hands, nv p.votes, nv p.settlers, nv p.seers, .str p.look, .ref r]) ∧ H r = some (.tup (p.rules.map V.str)) := by
  simp only [Pr.data, Im, ImAll, im_nat, imAll_strs]
  constructor
  · rintro ⟨a, xs, e, h, x1, r1, e1, rfl, x2, r2, e2, rfl, x3, r3, e3, rfl, x4, r4, e4, rfl, x5, r5, e5, rfl, x6, r6, e6, ⟨b, ys, rfl, hb, rfl⟩, rfl⟩
    subst e6 e5 e4 e3 e2 e1
    exact ⟨a, b, e, h, hb⟩
  · rintro ⟨a, b, e, h, hb⟩
    exact ⟨a, _, e, h, _, _, rfl, rfl, _, _, rfl, rfl, _, _, rfl, rfl, _, _, rfl, rfl, _, _, rfl, rfl, _, _, rfl, ⟨b, _, rfl, hb, rfl⟩, rfl⟩
end
/-! ### tuples of written shapes -/
section
variable {H : Hp} {v : V}
theorem im_t2 {d1 d2 : PyData} : Im H (.tuple [d1, d2]) v ↔ ∃ a v1 v2, v = .ref a ∧ H a = some (.tup [v1, v2]) ∧ Im H d1 v1 ∧ Im H d2 v2 := by
  simp only [Im, ImAll]
  constructor
  · rintro ⟨a, xs, e, h, x1, r1, e1, h1, x2, r2, e2, h2, rfl⟩
    subst e2 e1
    exact ⟨a, _, _, e, h, h1, h2⟩
  · rintro ⟨a, v1, v2, e, h, h1, h2⟩
    exact ⟨a, _, e, h, _, _, rfl, h1, _, _, rfl, h2, rfl⟩
theorem im_t3 {d1 d2 d3 : PyData} : Im H (.tuple [d1, d2, d3]) v ↔ ∃ a v1 v2 v3, v = .ref a ∧ H a = some (.tup [v1, v2, v3]) ∧ Im H d1 v1 ∧ Im H d2 v2 ∧ Im H d3 v3 := by
  simp only [Im, ImAll]
  constructor
  · rintro ⟨a, xs, e, h, x1, r1, e1, h1, x2, r2, e2, h2, x3, r3, e3, h3, rfl⟩
    subst e3 e2 e1
    exact ⟨a, _, _, _, e, h, h1, h2, h3⟩
  · rintro ⟨a, v1, v2, v3, e, h, h1, h2, h3⟩
    exact ⟨a, _, e, h, _, _, rfl, h1, _, _, rfl, h2, _, _, rfl, h3, rfl⟩
theorem im_t4 {d1 d2 d3 d4 : PyData} : Im H (.tuple [d1, d2, d3, d4]) v ↔ ∃ a v1 v2 v3 v4, v = .ref a ∧ H a = some (.tup [v1, v2, v3, v4]) ∧ Im H d1 v1 ∧ Im H d2 v2 ∧ Im H d3 v3 ∧ Im H d4 v4 := by
  simp only [Im, ImAll]
  constructor
  · rintro ⟨a, xs, e, h, x1, r1, e1, h1, x2, r2, e2, h2, x3, r3, e3, h3, x4, r4, e4, h4, rfl⟩
    subst e4 e3 e2 e1
    exact ⟨a, _, _, _, _, e, h, h1, h2, h3, h4⟩
  · rintro ⟨a, v1, v2, v3, v4, e, h, h1, h2, h3, h4⟩
    exact ⟨a, _, e, h, _, _, rfl, h1, _, _, rfl, h2, _, _, rfl, h3, _, _, rfl, h4, rfl⟩
theorem im_t5 {d1 d2 d3 d4 d5 : PyData} : Im H (.tuple [d1, d2, d3, d4, d5]) v ↔ ∃ a v1 v2 v3 v4 v5, v = .ref a ∧ H a = some (.tup [v1, v2, v3, v4, v5]) ∧ Im H d1 v1 ∧ Im H d2 v2 ∧ Im H d3 v3 ∧ Im H d4 v4 ∧ Im H d5 v5 := by
  simp only [Im, ImAll]
  constructor
  · rintro ⟨a, xs, e, h, x1, r1, e1, h1, x2, r2, e2, h2, x3, r3, e3, h3, x4, r4, e4, h4, x5, r5, e5, h5, rfl⟩
    subst e5 e4 e3 e2 e1
    exact ⟨a, _, _, _, _, _, e, h, h1, h2, h3, h4, h5⟩
  · rintro ⟨a, v1, v2, v3, v4, v5, e, h, h1, h2, h3, h4, h5⟩
    exact ⟨a, _, e, h, _, _, rfl, h1, _, _, rfl, h2, _, _, rfl, h3, _, _, rfl, h4, _, _, rfl, h5, rfl⟩
theorem im_t7 {d1 d2 d3 d4 d5 d6 d7 : PyData} : Im H (.tuple [d1, d2, d3, d4, d5, d6, d7]) v ↔ ∃ a v1 v2 v3 v4 v5 v6 v7, v = .ref a ∧ H a = some (.tup [v1, v2, v3, v4, v5, v6, v7]) ∧ Im H d1 v1 ∧ Im H d2 v2 ∧ Im H d3 v3 ∧ Im H d4 v4 ∧ Im H d5 v5 ∧ Im H d6 v6 ∧ Im H d7 v7 := by
  simp only [Im, ImAll]
  constructor
  · rintro ⟨a, xs, e, h, x1, r1, e1, h1, x2, r2, e2, h2, x3, r3, e3, h3, x4, r4, e4, h4, x5, r5, e5, h5, x6, r6, e6, h6, x7, r7, e7, h7, rfl⟩
    subst e7 e6 e5 e4 e3 e2 e1
    exact ⟨a, _, _, _, _, _, _, _, e, h, h1, h2, h3, h4, h5, h6, h7⟩
  · rintro ⟨a, v1, v2, v3, v4, v5, v6, v7, e, h, h1, h2, h3, h4, h5, h6, h7⟩
    exact ⟨a, _, e, h, _, _, rfl, h1, _, _, rfl, h2, _, _, rfl, h3, _, _, rfl, h4, _, _, rfl, h5, _, _, rfl, h6, _, _, rfl, h7, rfl⟩
theorem im_str {x : Str} : Im H (.str x) v ↔ v = .str x := by simp only [Im]
/-! letters -/
theorem im_ask {t s a b : Nat} : Im H (Lt.ask t s a b).data v ↔ ∃ p q, v = .ref p ∧ H p = some (.tup [.str "ask", nv t, nv s, .ref q]) ∧ H q = some (.tup [nv a, nv b]) := by
  simp only [Lt.data, im_t4, im_t2, im_nat, im_str]
  constructor
  · rintro ⟨p, v1, v2, v3, v4, e, h, rfl, rfl, rfl, q, w1, w2, rfl, g, rfl, rfl⟩; exact ⟨p, q, e, h, g⟩
  · rintro ⟨p, q, e, h, g⟩; exact ⟨p, _, _, _, _, e, h, rfl, rfl, rfl, q, _, _, rfl, g, rfl, rfl⟩
theorem im_give {t s u : Nat} : Im H (Lt.give t s u).data v ↔ ∃ p, v = .ref p ∧ H p = some (.tup [.str "give", nv t, nv s, nv u]) := by
  simp only [Lt.data, im_t4, im_nat, im_str]
  constructor
  · rintro ⟨p, v1, v2, v3, v4, e, h, rfl, rfl, rfl, rfl⟩; exact ⟨p, e, h⟩
  · rintro ⟨p, e, h⟩; exact ⟨p, _, _, _, _, e, h, rfl, rfl, rfl, rfl⟩
theorem im_rows {t s at_ ah told : Nat} {rs : Log} : Im H (Lt.rows t s at_ ah rs told).data v ↔ ∃ p q, v = .ref p ∧ H p = some (.tup [.str "rows", nv t, nv s, nv at_, nv ah, .ref q, nv told]) ∧ Im H (logD rs) (.ref q) := by
  simp only [Lt.data, im_t7, im_nat, im_str]
  constructor
  · rintro ⟨p, v1, v2, v3, v4, v5, v6, v7, e, h, rfl, rfl, rfl, rfl, rfl, g, rfl⟩
    obtain ⟨q, xs, rfl, g1, g2⟩ := im_log.mp g
    exact ⟨p, q, e, h, g⟩
  · rintro ⟨p, q, e, h, g⟩; exact ⟨p, _, _, _, _, _, _, _, e, h, rfl, rfl, rfl, rfl, rfl, g, rfl⟩
theorem im_taken {t s u c : Nat} : Im H (Lt.taken t s u c).data v ↔ ∃ p, v = .ref p ∧ H p = some (.tup [.str "taken", nv t, nv s, nv u, nv c]) := by
  simp only [Lt.data, im_t5, im_nat, im_str]
  constructor
  · rintro ⟨p, v1, v2, v3, v4, v5, e, h, rfl, rfl, rfl, rfl, rfl⟩; exact ⟨p, e, h⟩
  · rintro ⟨p, e, h⟩; exact ⟨p, _, _, _, _, _, e, h, rfl, rfl, rfl, rfl, rfl⟩
theorem im_see {t s n : Nat} : Im H (Lt.see t s n).data v ↔ ∃ p, v = .ref p ∧ H p = some (.tup [.str "see", nv t, nv s, nv n]) := by
  simp only [Lt.data, im_t4, im_nat, im_str]
  constructor
  · rintro ⟨p, v1, v2, v3, v4, e, h, rfl, rfl, rfl, rfl⟩; exact ⟨p, e, h⟩
  · rintro ⟨p, e, h⟩; exact ⟨p, _, _, _, _, e, h, rfl, rfl, rfl, rfl⟩
theorem im_seen {t s u n : Nat} : Im H (Lt.seen t s u n).data v ↔ ∃ p, v = .ref p ∧ H p = some (.tup [.str "seen", nv t, nv s, nv u, nv n]) := by
  simp only [Lt.data, im_t5, im_nat, im_str]
  constructor
  · rintro ⟨p, v1, v2, v3, v4, v5, e, h, rfl, rfl, rfl, rfl, rfl⟩; exact ⟨p, e, h⟩
  · rintro ⟨p, e, h⟩; exact ⟨p, _, _, _, _, _, e, h, rfl, rfl, rfl, rfl, rfl⟩
theorem im_tr {x : Nat × Nat × Log} : Im H (trD x) v ↔ ∃ p q, v = .ref p ∧ H p = some (.tup [nv x.1, nv x.2.1, .ref q]) ∧ Im H (logD x.2.2) (.ref q) := by
  simp only [trD, im_t3, im_nat]
  constructor
  · rintro ⟨p, v1, v2, v3, e, h, rfl, rfl, g⟩
    obtain ⟨q, xs, rfl, g1, g2⟩ := im_log.mp g
    exact ⟨p, q, e, h, g⟩
  · rintro ⟨p, q, e, h, g⟩; exact ⟨p, _, _, _, e, h, rfl, rfl, g⟩
theorem im_lead {x : Nat × Nat × Log × List Nat} : Im H (leadD x) v ↔ ∃ p q, v = .ref p ∧ H p = some (.tup [nv x.1, nv x.2.1, .ref q]) ∧ Im H (logD x.2.2.1) (.ref q) := by
  simp only [leadD, im_t3, im_nat]
  constructor
  · rintro ⟨p, v1, v2, v3, e, h, rfl, rfl, g⟩
    obtain ⟨q, xs, rfl, g1, g2⟩ := im_log.mp g
    exact ⟨p, q, e, h, g⟩
  · rintro ⟨p, q, e, h, g⟩; exact ⟨p, _, _, _, e, h, rfl, rfl, g⟩
theorem im_act {x : Nat × Log} : Im H (actD x) v ↔ ∃ p q, v = .ref p ∧ H p = some (.tup [nv x.1, .ref q]) ∧ Im H (logD x.2) (.ref q) := by
  simp only [actD, im_t2, im_nat]
  constructor
  · rintro ⟨p, v1, v2, e, h, rfl, g⟩
    obtain ⟨q, xs, rfl, g1, g2⟩ := im_log.mp g
    exact ⟨p, q, e, h, g⟩
  · rintro ⟨p, q, e, h, g⟩; exact ⟨p, _, _, e, h, rfl, g⟩
/-- a deed -/
theorem im_deed {d : Dd} : Im H d.data v ↔ ∃ p, v = .ref p ∧ H p = some (.tup (.str d.word :: nv d.hand :: d.nums.map nv)) := by
  simp only [Dd.data, Im, ImAll, im_nat, imAll_nats]
  constructor
  · rintro ⟨a, xs, e, h, x1, r1, e1, rfl, x2, r2, e2, rfl, rfl⟩
    subst e2 e1
    exact ⟨a, e, h⟩
  · rintro ⟨a, e, h⟩
    exact ⟨a, _, e, h, _, _, rfl, rfl, _, _, rfl, rfl, rfl⟩
/-- a letter's first parts -/
theorem im_letter {l : Lt} (h : Im H l.data v) : ∃ p w xs, v = .ref p ∧ H p = some (.tup (.str w :: nv l.term :: nv l.snd :: xs)) := by
  cases l with
  | ask t s a b => obtain ⟨p, q, e, h1, _⟩ := im_ask.mp h; exact ⟨p, _, _, e, h1⟩
  | give t s u => obtain ⟨p, e, h1⟩ := im_give.mp h; exact ⟨p, _, _, e, h1⟩
  | rows t s a b c d => obtain ⟨p, q, e, h1, _⟩ := im_rows.mp h; exact ⟨p, _, _, e, h1⟩
  | taken t s u c => obtain ⟨p, e, h1⟩ := im_taken.mp h; exact ⟨p, _, _, e, h1⟩
  | see t s n => obtain ⟨p, e, h1⟩ := im_see.mp h; exact ⟨p, _, _, e, h1⟩
  | seen t s u n => obtain ⟨p, e, h1⟩ := im_seen.mp h; exact ⟨p, _, _, e, h1⟩
end
/-! ### membership in lists of texts -/
theorem inV_strs (r : Str) : ∀ l : List Str, inV (.str r) (l.map V.str) = decide (r ∈ l)
  | [] => by simp [inV]
  | x :: l => by
    have ih := inV_strs r l
    unfold inV at ih ⊢
    rw [List.map_cons, List.any_cons, ih]
    by_cases e : x = r
    · subst e; simp [eqV]
    · have e' : ¬ r = x := fun q => e q.symm
      simp [eqV, e, e']
theorem flat_strs (l : List Str) : (l.map V.str).all flatV = true := by
  induction l with
  | nil => rfl
  | cons x l ih => simp [flatV]
end Sr

set_option Elab.async false
set_option linter.all false
set_option maxRecDepth 100000
set_option maxHeartbeats 4000000
/-! Sr_Data: the shape of the data; when two are equal. -/
namespace Sr
open PySem PySem.Spec PyProof.Rows L2
/-- it can stand in a heap, n deep at most -/
def Sh (n : Nat) (d : PyData) : Prop := d.canLay0 = true ∧ d.depth ≤ n
def ShAll (n : Nat) (ds : List PyData) : Prop := PyData.canLayAll0 ds = true ∧ PyData.depthAll ds ≤ n
theorem Sh.wide {n k : Nat} {d : PyData} (h : Sh n d) (l : n ≤ k) : Sh k d := ⟨h.1, Nat.le_trans h.2 l⟩
theorem ShAll.nil {n : Nat} : ShAll n [] := ⟨by simp [PyData.canLayAll0], by simp [PyData.depthAll]⟩
theorem ShAll.cons {n : Nat} {d : PyData} {ds : List PyData} (a : Sh n d) (b : ShAll n ds) : ShAll n (d :: ds) :=
  ⟨by simp [PyData.canLayAll0, a.1, b.1], by simp only [PyData.depthAll]; exact Nat.max_le.mpr ⟨a.2, b.2⟩⟩
theorem ShAll.map {α : Type} {n : Nat} {f : α → PyData} (h : ∀ x, Sh n (f x)) : ∀ l : List α, ShAll n (l.map f)
  | [] => .nil
  | x :: l => .cons (h x) (ShAll.map h l)
theorem sh_nat {n k : Nat} : Sh k (natD n) := ⟨by simp [natD, PyData.canLay0], by simp [natD, PyData.depth]⟩
theorem sh_str {k : Nat} {x : Str} (h : PyData.strOk x = true) : Sh k (.str x) := ⟨by simpa [PyData.canLay0] using h, by simp [PyData.depth]⟩
theorem sh_vote {k : Nat} (o : Option Nat) : Sh k (voteD o) := by
  cases o with
  | none => exact ⟨by simp [voteD, PyData.canLay0], by simp [voteD, PyData.depth]⟩
  | some n => exact sh_nat
theorem sh_tup {n : Nat} {ds : List PyData} (h : ShAll n ds) : Sh (n + 1) (.tuple ds) := ⟨by simpa [PyData.canLay0] using h.1, by simp only [PyData.depth]; exact Nat.succ_le_succ h.2⟩
theorem sh_list {n : Nat} {ds : List PyData} (h : ShAll n ds) : Sh (n + 1) (.list ds) := ⟨by simpa [PyData.canLay0] using h.1, by simp only [PyData.depth]; exact Nat.succ_le_succ h.2⟩
theorem sh_row {n : Nat} (r : Nat × Nat) : Sh (n + 1) (rowD r) := sh_tup (.cons sh_nat (.cons sh_nat .nil))
theorem sh_log {n : Nat} (l : Log) : Sh (n + 2) (logD l) := sh_tup (.map (fun r => sh_row r) l)
theorem sh_lt (l : Lt) : Sh 3 l.data := by
  cases l with
  | ask t s a b => exact sh_tup (.cons (sh_str (by decide +kernel)) (.cons sh_nat (.cons sh_nat (.cons ((sh_tup (n := 0) (.cons sh_nat (.cons sh_nat .nil))).wide (by decide)) .nil))))
  | give t s u => exact sh_tup (.cons (sh_str (by decide +kernel)) (.cons sh_nat (.cons sh_nat (.cons sh_nat .nil))))
  | rows t s a h r d => exact sh_tup (.cons (sh_str (by decide +kernel)) (.cons sh_nat (.cons sh_nat (.cons sh_nat (.cons sh_nat (.cons (sh_log r) (.cons sh_nat .nil)))))))
  | taken t s u c => exact sh_tup (.cons (sh_str (by decide +kernel)) (.cons sh_nat (.cons sh_nat (.cons sh_nat (.cons sh_nat .nil)))))
  | see t s n => exact sh_tup (.cons (sh_str (by decide +kernel)) (.cons sh_nat (.cons sh_nat (.cons sh_nat .nil))))
  | seen t s u n => exact sh_tup (.cons (sh_str (by decide +kernel)) (.cons sh_nat (.cons sh_nat (.cons sh_nat (.cons sh_nat .nil)))))
theorem sh_lead (x : Nat × Nat × Log × List Nat) : Sh 3 (leadD x) := sh_tup (.cons sh_nat (.cons sh_nat (.cons (sh_log _) .nil)))
theorem sh_tr (x : Nat × Nat × Log) : Sh 3 (trD x) := sh_tup (.cons sh_nat (.cons sh_nat (.cons (sh_log _) .nil)))
theorem sh_act (x : Nat × Log) : Sh 3 (actD x) := sh_tup (.cons sh_nat (.cons (sh_log _) .nil))
theorem sh_empty {n : Nat} : Sh (n + 1) (.tuple []) := sh_tup .nil
theorem Sh.ok {n : Nat} {d : PyData} (h : Sh n d) (l : n ≤ 64 := by decide) : SeqAt.shaped d = true := by
  unfold SeqAt.shaped
  rw [h.1, decide_eq_true (Nat.le_trans h.2 l)]
  rfl
/-! ### equal data -/
mutual
/-- no truth values, lists, dicts -/
def Ex : PyData → Bool
  | .none => true
  | .bool _ => false
  | .int _ => true
  | .str _ => true
  | .tuple ds => ExAll ds
  | .list _ => false
  | .dict _ => false
def ExAll : List PyData → Bool
  | [] => true
  | d :: ds => Ex d && ExAll ds
end
mutual
theorem ex_eq : ∀ d e : PyData, Ex d = true → Ex e = true → PyData.eqv d e = true → d = e
  | .none, .none, _, _, _ => rfl
  | .int i, .int j, _, _, h => by simp only [PyData.eqv, beq_iff_eq] at h; rw [h]
  | .str i, .str j, _, _, h => by simp only [PyData.eqv, beq_iff_eq] at h; rw [h]
  | .tuple xs, .tuple ys, h1, h2, h => by
    simp only [Ex] at h1 h2
    simp only [PyData.eqv] at h
    rw [exAll_eq xs ys h1 h2 h]
  | .none, .int _, _, _, h => by simp [PyData.eqv] at h
  | .none, .str _, _, _, h => by simp [PyData.eqv] at h
  | .none, .tuple _, _, _, h => by simp [PyData.eqv] at h
  | .int _, .none, _, _, h => by simp [PyData.eqv] at h
  | .int _, .str _, _, _, h => by simp [PyData.eqv] at h
  | .int _, .tuple _, _, _, h => by simp [PyData.eqv] at h
  | .str _, .none, _, _, h => by simp [PyData.eqv] at h
  | .str _, .int _, _, _, h => by simp [PyData.eqv] at h
  | .str _, .tuple _, _, _, h => by simp [PyData.eqv] at h
  | .tuple _, .none, _, _, h => by simp [PyData.eqv] at h
  | .tuple _, .int _, _, _, h => by simp [PyData.eqv] at h
  | .tuple _, .str _, _, _, h => by simp [PyData.eqv] at h
  | .bool _, _, h, _, _ => by simp [Ex] at h
  | .list _, _, h, _, _ => by simp [Ex] at h
  | .dict _, _, h, _, _ => by simp [Ex] at h
  | .none, .bool _, _, h, _ => by simp [Ex] at h
  | .none, .list _, _, h, _ => by simp [Ex] at h
  | .none, .dict _, _, h, _ => by simp [Ex] at h
  | .int _, .bool _, _, h, _ => by simp [Ex] at h
  | .int _, .list _, _, h, _ => by simp [Ex] at h
  | .int _, .dict _, _, h, _ => by simp [Ex] at h
  | .str _, .bool _, _, h, _ => by simp [Ex] at h
  | .str _, .list _, _, h, _ => by simp [Ex] at h
  | .str _, .dict _, _, h, _ => by simp [Ex] at h
  | .tuple _, .bool _, _, h, _ => by simp [Ex] at h
  | .tuple _, .list _, _, h, _ => by simp [Ex] at h
  | .tuple _, .dict _, _, h, _ => by simp [Ex] at h
theorem exAll_eq : ∀ ds es : List PyData, ExAll ds = true → ExAll es = true → PyData.eqvAll ds es = true → ds = es
  | [], [], _, _, _ => rfl
  | d :: ds, e :: es, h1, h2, h => by
    simp only [ExAll, Bool.and_eq_true] at h1 h2
    simp only [PyData.eqvAll, Bool.and_eq_true] at h
    rw [ex_eq d e h1.1 h2.1 h.1, exAll_eq ds es h1.2 h2.2 h.2]
  | [], _ :: _, _, _, h => by simp [PyData.eqvAll] at h
  | _ :: _, [], _, _, h => by simp [PyData.eqvAll] at h
end
theorem exAll_map {α : Type} {f : α → PyData} (h : ∀ x, Ex (f x) = true) : ∀ l : List α, ExAll (l.map f) = true
  | [] => by simp [ExAll]
  | x :: l => by simp [ExAll, h x, exAll_map h l]
theorem ex_nat (n : Nat) : Ex (natD n) = true := by simp [natD, Ex]
theorem ex_row (r : Nat × Nat) : Ex (rowD r) = true := by simp [rowD, Ex, ExAll, ex_nat]
theorem ex_log (l : Log) : Ex (logD l) = true := by simp only [logD, Ex]; exact exAll_map ex_row l
theorem ex_lt (l : Lt) : Ex l.data = true := by
  cases l <;> simp [Lt.data, Ex, ExAll, ex_nat, ex_log]
theorem natD_inj {a b : Nat} (h : natD a = natD b) : a = b := by
  simp only [natD, PyData.int.injEq] at h
  omega
theorem map_inj {α β : Type} {f : α → β} (h : ∀ x y, f x = f y → x = y) : ∀ {l k : List α}, l.map f = k.map f → l = k
  | [], [], _ => rfl
  | [], _ :: _, e => by simp at e
  | _ :: _, [], e => by simp at e
  | x :: l, y :: k, e => by
    simp only [List.map_cons, List.cons.injEq] at e
    rw [h x y e.1, map_inj h e.2]
theorem rowD_inj (r q : Nat × Nat) (h : rowD r = rowD q) : r = q := by
  simp only [rowD, PyData.tuple.injEq, List.cons.injEq] at h
  obtain ⟨h1, h2, _⟩ := h
  exact Prod.ext (natD_inj h1) (natD_inj h2)
theorem logD_inj {l k : Log} (h : logD l = logD k) : l = k := by
  simp only [logD, PyData.tuple.injEq] at h
  exact map_inj rowD_inj h
theorem ltD_inj : ∀ a b : Lt, a.data = b.data → a = b := by
  intro a b h
  have ne : ∀ x y : Str, x ≠ y → ∀ (d e : List PyData), PyData.tuple (.str x :: d) = PyData.tuple (.str y :: e) → False := fun x y n d e q => by
    simp only [PyData.tuple.injEq, List.cons.injEq, PyData.str.injEq] at q
    exact n q.1
  cases a <;> cases b <;> first
    | exact (ne _ _ (by decide +kernel) _ _ h).elim
    | (simp only [Lt.data, PyData.tuple.injEq, List.cons.injEq] at h
       simp only [Lt.ask.injEq, Lt.give.injEq, Lt.rows.injEq, Lt.taken.injEq, Lt.see.injEq, Lt.seen.injEq]
       obtain ⟨_, h⟩ := h
       first
         | exact ⟨natD_inj h.1, natD_inj h.2.1, natD_inj h.2.2.1⟩
         | exact ⟨natD_inj h.1, natD_inj h.2.1, natD_inj h.2.2.1, natD_inj h.2.2.2.1⟩
         | exact ⟨natD_inj h.1, natD_inj h.2.1, natD_inj h.2.2.1.1, natD_inj h.2.2.1.2.1⟩
         | exact ⟨natD_inj h.1, natD_inj h.2.1, natD_inj h.2.2.1, natD_inj h.2.2.2.1, logD_inj h.2.2.2.2.1, natD_inj h.2.2.2.2.2.1⟩)
theorem lt_eqv (a b : Lt) : PyData.eqv a.data b.data = decide (a = b) := by
  by_cases e : a = b
  · subst e
    rw [decide_eq_true rfl]
    exact SeqAt.eqv_refl _ (sh_lt a).1
  · rw [decide_eq_false e]
    cases q : PyData.eqv a.data b.data with
    | false => rfl
    | true => exact (e (ltD_inj a b (ex_eq _ _ (ex_lt a) (ex_lt b) q))).elim
theorem lts_any (l : Lt) : ∀ ls : List Lt, ((ls.map Lt.data).any fun z => PyData.eqv z l.data) = decide (l ∈ ls)
  | [] => by simp
  | x :: ls => by
    rw [List.map_cons, List.any_cons, lts_any l ls, lt_eqv]
    by_cases e : x = l
    · subst e; simp
    · have e' : ¬ l = x := fun q => e q.symm
      simp [e, e']
theorem log_empty (l : Log) : PyData.eqv (logD l) (.tuple []) = decide (l = []) := by
  cases l with
  | nil => simp [logD, PyData.eqv, PyData.eqvAll]
  | cons r l => simp [logD, PyData.eqv, PyData.eqvAll]
/-! keys -/
mutual
theorem keyOf_inj : ∀ d e : PyData, Ex d = true → Ex e = true → keyOf d = keyOf e → d = e
  | .none, .none, _, _, _ => rfl
  | .int i, .int j, _, _, h => by simp only [keyOf, NestedKey.num.injEq] at h; rw [h]
  | .str i, .str j, _, _, h => by simp only [keyOf, NestedKey.text.injEq] at h; rw [h]
  | .tuple xs, .tuple ys, h1, h2, h => by
    simp only [Ex] at h1 h2
    simp only [keyOf, NestedKey.tup.injEq] at h
    rw [keysOf_inj xs ys h1 h2 h]
  | .none, .int _, _, _, h => by simp [keyOf] at h
  | .none, .str _, _, _, h => by simp [keyOf] at h
  | .none, .tuple _, _, _, h => by simp [keyOf] at h
  | .int _, .none, _, _, h => by simp [keyOf] at h
  | .int _, .str _, _, _, h => by simp [keyOf] at h
  | .int _, .tuple _, _, _, h => by simp [keyOf] at h
  | .str _, .none, _, _, h => by simp [keyOf] at h
  | .str _, .int _, _, _, h => by simp [keyOf] at h
  | .str _, .tuple _, _, _, h => by simp [keyOf] at h
  | .tuple _, .none, _, _, h => by simp [keyOf] at h
  | .tuple _, .int _, _, _, h => by simp [keyOf] at h
  | .tuple _, .str _, _, _, h => by simp [keyOf] at h
  | .bool _, _, h, _, _ => by simp [Ex] at h
  | .list _, _, h, _, _ => by simp [Ex] at h
  | .dict _, _, h, _, _ => by simp [Ex] at h
  | .none, .bool _, _, h, _ => by simp [Ex] at h
  | .none, .list _, _, h, _ => by simp [Ex] at h
  | .none, .dict _, _, h, _ => by simp [Ex] at h
  | .int _, .bool _, _, h, _ => by simp [Ex] at h
  | .int _, .list _, _, h, _ => by simp [Ex] at h
  | .int _, .dict _, _, h, _ => by simp [Ex] at h
  | .str _, .bool _, _, h, _ => by simp [Ex] at h
  | .str _, .list _, _, h, _ => by simp [Ex] at h
  | .str _, .dict _, _, h, _ => by simp [Ex] at h
  | .tuple _, .bool _, _, h, _ => by simp [Ex] at h
  | .tuple _, .list _, _, h, _ => by simp [Ex] at h
  | .tuple _, .dict _, _, h, _ => by simp [Ex] at h
theorem keysOf_inj : ∀ ds es : List PyData, ExAll ds = true → ExAll es = true → keysOf ds = keysOf es → ds = es
  | [], [], _, _, _ => rfl
  | d :: ds, e :: es, h1, h2, h => by
    simp only [ExAll, Bool.and_eq_true] at h1 h2
    simp only [keysOf, List.cons.injEq] at h
    rw [keyOf_inj d e h1.1 h2.1 h.1, keysOf_inj ds es h1.2 h2.2 h.2]
  | [], _ :: _, _, _, h => by simp [keysOf] at h
  | _ :: _, [], _, _, h => by simp [keysOf] at h
end
theorem key_mem (l : Lt) (ls : List Lt) : keyOf l.data ∈ ls.map (fun l => keyOf l.data) ↔ l ∈ ls := by
  rw [List.mem_map]
  constructor
  · rintro ⟨x, hx, e⟩
    rw [← ltD_inj x l (keyOf_inj _ _ (ex_lt x) (ex_lt l) e)]
    exact hx
  · intro h
    exact ⟨l, h, rfl⟩
/-! ### a hand's own object written -/
section
variable {O O1 : Own} {H H1 : Hp} {i : Nat} {p dx : Addr} {h h' : Hd} {L : HL} {S : Side}
theorem HandIn.same (W : HandIn S H O i p h L) (al : Al O H) (s : Same H H1) : HandIn S H1 O i p h L := W.keep (D := fun _ => False) al (Stp.same al s) fun _ _ => id
theorem HandAt.same (W : HandAt S H O i p h) (al : Al O H) (s : Same H H1) : HandAt S H1 O i p h := let ⟨L, W⟩ := W; ⟨L, W.same al s⟩
/-- the parts stay where they are -/
theorem HandIn.put (W : HandIn S H O i p h L) (al : Al O H) (h' : Hd) (l' : Addr) (o : HO) (no : NoTup o) (hob : S.obj (upd H p o) p (rh h' { L with l := l' })) (hl : Im H (logD h'.log) (.ref l')) (e1 : h'.got = h.got := by rfl) (e2 : h'.known = h.known := by rfl)
    (e3 : h'.wishes = h.wishes := by rfl) : HandIn S (upd H p o) O i p h' { L with l := l' } ∧ Stp (dH i) O H O (upd H p o) := by
  have s : Stp (dH i) O H O (upd H p o) := Stp.put al W.op rfl no
  have ne : ∀ {b : Addr} {c : Cell}, O b = some c → c ≠ .hand i → b ≠ p := fun h1 n => own_ne h1 W.op n
  exact ⟨{
    ob := hob
    op := W.op
    log := Im.keep (s.tk al) _ _ hl
    got := by rw [e1, upd_ne (ne W.og (by intro z; cases z))]; exact W.got
    og := W.og
    kn := by rw [e2, upd_ne (ne W.ok (by intro z; cases z))]; exact W.kn
    ok := W.ok
    ws := e3.trans W.ws
    wi := by rw [upd_ne (ne W.ow (by intro z; cases z))]; exact W.wi
    ow := W.ow
    sn := fun x hx => ⟨by rw [upd_ne (ne (W.sn x hx).2 (by intro z; cases z))]; exact (W.sn x hx).1, (W.sn x hx).2⟩ }, s⟩
theorem HandIn.putLaw (W : HandIn .law H O i p h L) (al : Al O H) (h' : Hd) (l' : Addr) (hl : Im H (logD h'.log) (.ref l')) (e1 : h'.got = h.got := by rfl) (e2 : h'.known = h.known := by rfl) (e3 : h'.wishes = h.wishes := by rfl) :
    HandIn .law (upd H p (.dK (rh h' { L with l := l' }).kvs)) O i p h' { L with l := l' } ∧ Stp (dH i) O H O (upd H p (.dK (rh h' { L with l := l' }).kvs)) := W.put al h' l' _ noTup_dK upd_same hl e1 e2 e3
theorem HandIn.putProg {P : Program} {w : World} {K : PySem.W.Frag} (W : HandIn (.prog P w K) H O i p h L) (al : Al O H) (dx : Addr) (h' : Hd) (l' : Addr) (hl : Im H (logD h'.log) (.ref l')) (e1 : h'.got = h.got := by rfl) (e2 : h'.known = h.known := by rfl) (e3 : h'.wishes = h.wishes := by rfl) :
    HandIn (.prog P w K) (upd H p (.ins (CH K) dx (rh h' { L with l := l' }).fs)) O i p h' { L with l := l' } ∧ Stp (dH i) O H O (upd H p (.ins (CH K) dx (rh h' { L with l := l' }).fs)) := W.put al h' l' _ noTup_ins ⟨dx, upd_same⟩ hl e1 e2 e3
end
/-- the most that is kept of anything -/
abbrev big : Nat := 1000000
theorem big_line {n : Nat} (h : n < big) : n < sizeLine := Nat.lt_trans h (by decide)
theorem room65 {A : Around} {k : Nat} (hr : Room k A) : A.units + 65 < cLine := by
  have := hr.un
  omega
/-! ### a list of the world grows -/
section
variable {S : Side} {O : Own} {H : Hp} {L : WL} {m : Wd} {rs : List Dd} {vs : List V} {v : V}
theorem only_ne {a c : Cell} (n : c ≠ a) : ¬ (fun c : Cell => c = a) c := n
theorem only_ix {a : Cell} (h : a.ix = none) : ∀ c : Cell, c.ix ≠ none → ¬ (fun c : Cell => c = a) c := fun c n z => n (by rw [show c = a from z]; exact h)
theorem WorldIn.app_leads (W : WorldIn S H O L m rs) {x : Nat × Nat × Log × List Nat} (e : H L.leads = some (.lst vs)) (q : ImAll H (m.leads.map S.leadD) vs) (hv : Im H (S.leadD x) v) :
    WorldIn S (upd H L.leads (.lst (vs ++ [v]))) O L { m with leads := m.leads ++ [x] } rs ∧ Stp (fun c => c = .leads) O H O (upd H L.leads (.lst (vs ++ [v]))) := by
  have S1 : Stp (fun c => c = .leads) O H O (upd H L.leads (.lst (vs ++ [v]))) := Stp.put W.al W.oleads rfl noTup_lst
  exact ⟨W.rest S1 rfl rfl (only_ix rfl) (only_ne (by intro z; cases z)) (W.ob_k S1 (only_ne (by intro z; cases z)) (only_ne (by intro z; cases z)))
    (by obtain ⟨as, a, b, c⟩ := W.lts_k S1 (only_ne (by intro z; cases z)) (only_ne (by intro z; cases z)); exact ⟨as, a, b, by cases S <;> exact c⟩)
    ⟨vs ++ [v], upd_same, by rw [List.map_append]; exact ImAll.append (ImAll.keep (S1.tk W.al) _ _ q) (ImAll.one (Im.keep (S1.tk W.al) _ _ hv))⟩
    (W.settles_k S1 (only_ne (by intro z; cases z)))
    (W.answers_k S1 (only_ne (by intro z; cases z)))
    (W.acts_k S1 (only_ne (by intro z; cases z))) (W.asked_k S1 (only_ne (by intro z; cases z))), S1⟩
theorem WorldIn.app_settles (W : WorldIn S H O L m rs) {x : Nat × Nat × Log} (e : H L.settles = some (.lst vs)) (q : ImAll H (m.settles.map trD) vs) (hv : Im H (trD x) v) :
    WorldIn S (upd H L.settles (.lst (vs ++ [v]))) O L { m with settles := m.settles ++ [x] } rs ∧ Stp (fun c => c = .settles) O H O (upd H L.settles (.lst (vs ++ [v]))) := by
  have S1 : Stp (fun c => c = .settles) O H O (upd H L.settles (.lst (vs ++ [v]))) := Stp.put W.al W.osettles rfl noTup_lst
  exact ⟨W.rest S1 rfl rfl (only_ix rfl) (only_ne (by intro z; cases z)) (W.ob_k S1 (only_ne (by intro z; cases z)) (only_ne (by intro z; cases z)))
    (by obtain ⟨as, a, b, c⟩ := W.lts_k S1 (only_ne (by intro z; cases z)) (only_ne (by intro z; cases z)); exact ⟨as, a, b, by cases S <;> exact c⟩)
    (W.leads_k S1 (only_ne (by intro z; cases z)))
    ⟨vs ++ [v], upd_same, by rw [List.map_append]; exact ImAll.append (ImAll.keep (S1.tk W.al) _ _ q) (ImAll.one (Im.keep (S1.tk W.al) _ _ hv))⟩
    (W.answers_k S1 (only_ne (by intro z; cases z)))
    (W.acts_k S1 (only_ne (by intro z; cases z))) (W.asked_k S1 (only_ne (by intro z; cases z))), S1⟩
theorem WorldIn.app_answers (W : WorldIn S H O L m rs) {x : Nat × Nat × Log} (e : H L.answers = some (.lst vs)) (q : ImAll H (m.answers.map trD) vs) (hv : Im H (trD x) v) :
    WorldIn S (upd H L.answers (.lst (vs ++ [v]))) O L { m with answers := m.answers ++ [x] } rs ∧ Stp (fun c => c = .answers) O H O (upd H L.answers (.lst (vs ++ [v]))) := by
  have S1 : Stp (fun c => c = .answers) O H O (upd H L.answers (.lst (vs ++ [v]))) := Stp.put W.al W.oanswers rfl noTup_lst
  exact ⟨W.rest S1 rfl rfl (only_ix rfl) (only_ne (by intro z; cases z)) (W.ob_k S1 (only_ne (by intro z; cases z)) (only_ne (by intro z; cases z)))
    (by obtain ⟨as, a, b, c⟩ := W.lts_k S1 (only_ne (by intro z; cases z)) (only_ne (by intro z; cases z)); exact ⟨as, a, b, by cases S <;> exact c⟩)
    (W.leads_k S1 (only_ne (by intro z; cases z)))
    (W.settles_k S1 (only_ne (by intro z; cases z)))
    ⟨vs ++ [v], upd_same, by rw [List.map_append]; exact ImAll.append (ImAll.keep (S1.tk W.al) _ _ q) (ImAll.one (Im.keep (S1.tk W.al) _ _ hv))⟩
    (W.acts_k S1 (only_ne (by intro z; cases z))) (W.asked_k S1 (only_ne (by intro z; cases z))), S1⟩
theorem WorldIn.app_acts (W : WorldIn S H O L m rs) {x : Nat × Log} (e : H L.acts = some (.lst vs)) (q : ImAll H (m.acts.map actD) vs) (hv : Im H (actD x) v) :
    WorldIn S (upd H L.acts (.lst (vs ++ [v]))) O L { m with acts := m.acts ++ [x] } rs ∧ Stp (fun c => c = .acts) O H O (upd H L.acts (.lst (vs ++ [v]))) := by
  have S1 : Stp (fun c => c = .acts) O H O (upd H L.acts (.lst (vs ++ [v]))) := Stp.put W.al W.oacts rfl noTup_lst
  exact ⟨W.rest S1 rfl rfl (only_ix rfl) (only_ne (by intro z; cases z)) (W.ob_k S1 (only_ne (by intro z; cases z)) (only_ne (by intro z; cases z)))
    (by obtain ⟨as, a, b, c⟩ := W.lts_k S1 (only_ne (by intro z; cases z)) (only_ne (by intro z; cases z)); exact ⟨as, a, b, by cases S <;> exact c⟩)
    (W.leads_k S1 (only_ne (by intro z; cases z)))
    (W.settles_k S1 (only_ne (by intro z; cases z)))
    (W.answers_k S1 (only_ne (by intro z; cases z)))
    ⟨vs ++ [v], upd_same, by rw [List.map_append]; exact ImAll.append (ImAll.keep (S1.tk W.al) _ _ q) (ImAll.one (Im.keep (S1.tk W.al) _ _ hv))⟩ (W.asked_k S1 (only_ne (by intro z; cases z))), S1⟩
theorem WorldIn.app_asked (W : WorldIn S H O L m rs) (x : Nat) :
    WorldIn S (upd H L.asked (.lst (m.asked.map nv ++ [nv x]))) O L { m with asked := m.asked ++ [x] } rs ∧ Stp (fun c => c = .asked) O H O (upd H L.asked (.lst (m.asked.map nv ++ [nv x]))) := by
  have S1 : Stp (fun c => c = .asked) O H O (upd H L.asked (.lst (m.asked.map nv ++ [nv x]))) := Stp.put W.al W.oasked rfl noTup_lst
  exact ⟨W.rest S1 rfl rfl (only_ix rfl) (only_ne (by intro z; cases z)) (W.ob_k S1 (only_ne (by intro z; cases z)) (only_ne (by intro z; cases z)))
    (by obtain ⟨as, a, b, c⟩ := W.lts_k S1 (only_ne (by intro z; cases z)) (only_ne (by intro z; cases z)); exact ⟨as, a, b, by cases S <;> exact c⟩)
    (W.leads_k S1 (only_ne (by intro z; cases z))) (W.settles_k S1 (only_ne (by intro z; cases z))) (W.answers_k S1 (only_ne (by intro z; cases z))) (W.acts_k S1 (only_ne (by intro z; cases z)))
    (by rw [upd_same, List.map_append]; rfl), S1⟩
/-- the law's run grows -/
theorem WorldIn.app_run (W : WorldIn .law H O L m rs) {d : Dd} (e : H L.x = some (.lst vs)) (q : ImAll H (rs.map Dd.data) vs) (hv : Im H d.data v) :
    WorldIn .law (upd H L.x (.lst (vs ++ [v]))) O L m (rs ++ [d]) ∧ Stp (fun c => c = .run) O H O (upd H L.x (.lst (vs ++ [v]))) := by
  have S1 : Stp (fun c => c = .run) O H O (upd H L.x (.lst (vs ++ [v]))) := Stp.put W.al W.ox rfl noTup_lst
  obtain ⟨as, h1, h2, h3⟩ := W.lts
  exact ⟨W.rest S1 rfl rfl (only_ix rfl) (only_ne (by intro z; cases z)) (W.ob_k S1 (only_ne (by intro z; cases z)) (only_ne (by intro z; cases z)))
    ⟨as, (S1.only _ _ W.olts (only_ne (by intro z; cases z))).trans h1, ImAll.keep (S1.tk W.al) _ _ h2, vs ++ [v], upd_same, by rw [List.map_append]; exact ImAll.append (ImAll.keep (S1.tk W.al) _ _ q) (ImAll.one (Im.keep (S1.tk W.al) _ _ hv))⟩
    (W.leads_k S1 (only_ne (by intro z; cases z))) (W.settles_k S1 (only_ne (by intro z; cases z))) (W.answers_k S1 (only_ne (by intro z; cases z))) (W.acts_k S1 (only_ne (by intro z; cases z)))
    (W.asked_k S1 (only_ne (by intro z; cases z))), S1⟩
end
/-! ### a slice of a log -/
theorem cut_list {α : Type} (xs : List α) (a b : Nat) : (xs.drop (min a xs.length)).take (min b xs.length - min a xs.length) = (xs.drop a).take (b - a) := by
  apply List.ext_getElem?
  intro i
  rw [List.getElem?_take, List.getElem?_take, List.getElem?_drop, List.getElem?_drop]
  by_cases h1 : a ≤ xs.length
  · rw [Nat.min_eq_left h1]
    by_cases h2 : i < min b xs.length - a
    · rw [if_pos h2, if_pos (by omega)]
    · rw [if_neg h2]
      by_cases h3 : i < b - a
      · rw [if_pos h3, List.getElem?_eq_none (by omega)]
      · rw [if_neg h3]
  · have h1' : xs.length ≤ a := by omega
    rw [Nat.min_eq_right h1']
    by_cases h3 : i < b - a
    · rw [if_pos h3, List.getElem?_eq_none (by omega), List.getElem?_eq_none (by omega)]
      split <;> rfl
    · rw [if_neg h3, List.getElem?_eq_none (by omega)]
      split <;> rfl
section
variable {K : PySem.W.Frag} {H : Hp} {a : Addr} {xs : List V} {l : Log} {Q : VK}
theorem slice_cut (lo hi : Option Int) (ys : List V) (hx : H a = some (.tup xs)) (e : cutV xs lo hi = ys) (k : ∀ q H', Same H H' → H' q = some (.tup ys) → Q (.ref q) H') : rSlA K (.ref a) lo hi H Q := by
  refine ⟨a, xs, rfl, SqT.of hx, fun h => ?_, fun _ p hp => ?_⟩
  · refine k a H (Same.refl H) ?_
    have e2 : cutV xs lo hi = xs := by
      unfold cutV
      rw [h.1, h.2]
      simp
    rw [← e, e2]
    exact hx
  · refine k p _ (same_new hp) ?_
    rw [upd_same, e]
theorem slice_to (n : Nat) (hx : H a = some (.tup xs)) (hl : LogAt H l xs) (k : ∀ q H', Same H H' → Im H' (logD (l.take n)) (.ref q) → Q (.ref q) H') : rSlA K (.ref a) none (some (n : Int)) H Q := by
  refine slice_cut _ _ (xs.take n) hx ?_ fun q H' s h => k q H' s (im_logr.mpr ⟨_, h, (hl.take n).keep (same_tk s)⟩)
  unfold cutV
  rw [HT.sIx_none, HT.sIx_nat]
  have := cut_list xs 0 n
  simpa using this
theorem slice_from (n : Nat) (hx : H a = some (.tup xs)) (hl : LogAt H l xs) (k : ∀ q H', Same H H' → Im H' (logD (l.drop n)) (.ref q) → Q (.ref q) H') : rSlA K (.ref a) (some (n : Int)) none H Q := by
  refine slice_cut _ _ (xs.drop n) hx ?_ fun q H' s h => k q H' s (im_logr.mpr ⟨_, h, (hl.drop n).keep (same_tk s)⟩)
  unfold cutV
  rw [HT.sIx_none, HT.sIx_nat]
  have := cut_list xs n xs.length
  rw [Nat.min_self] at this
  rw [this, List.take_of_length_le (by simp)]
theorem slice_mid (n k : Nat) (hx : H a = some (.tup xs)) (hl : LogAt H l xs) (c : ∀ q H', Same H H' → Im H' (logD ((l.drop n).take k)) (.ref q) → Q (.ref q) H') : rSlA K (.ref a) (some (n : Int)) (some ((n : Int) + (k : Int))) H Q := by
  refine slice_cut _ _ ((xs.drop n).take k) hx ?_ fun q H' s h => c q H' s (im_logr.mpr ⟨_, h, ((hl.drop n).take k).keep (same_tk s)⟩)
  unfold cutV
  have e : (n : Int) + (k : Int) = ((n + k : Nat) : Int) := by omega
  rw [e, HT.sIx_nat, HT.sIx_nat, cut_list, Nat.add_sub_cancel_left]
end
/-- only the draw has changed -/
theorem WorldIn.draw {S : Side} {O O1 : Own} {H H1 : Hp} {L : WL} {m : Wd} {rs : List Dd} (W : WorldIn S H O L m rs) (s : Stp (fun c => c = .draw) O H O1 H1) : WorldIn S H1 O1 L m rs := by
  have no : ∀ c : Cell, c ≠ .draw → ¬ (fun c : Cell => c = .draw) c := fun c n z => n z
  have e := W.lts_k s (no _ (by intro z; cases z)) (no _ (by intro z; cases z))
  exact W.rest s rfl rfl (fun c h z => h (by rw [show c = .draw from z]; rfl)) (no _ (by intro z; cases z)) (W.ob_k s (no _ (by intro z; cases z)) (no _ (by intro z; cases z))) e (W.leads_k s (no _ (by intro z; cases z))) (W.settles_k s (no _ (by intro z; cases z)))
    (W.answers_k s (no _ (by intro z; cases z))) (W.acts_k s (no _ (by intro z; cases z))) (W.asked_k s (no _ (by intro z; cases z)))
/-! ### words for readings -/
theorem iteB {b : Bool} {A B : Prop} (h1 : b = true → A) (h0 : b = false → B) : if b = true then A else B := by
  cases b with
  | true => exact iteT (h1 rfl)
  | false => exact iteF (h0 rfl)
theorem iteN {b : Bool} {A B : Prop} (h1 : b = false → A) (h0 : b = true → B) : if (!b) = true then A else B := by
  cases b with
  | true => exact iteF (h0 rfl)
  | false => exact iteT (h1 rfl)
theorem iteD {p : Prop} [Decidable p] {A B : Prop} (h1 : p → A) (h0 : ¬ p → B) : if decide p = true then A else B := iteB (fun e => h1 (of_decide_eq_true e)) (fun e => h0 (of_decide_eq_false e))
theorem iteND {p : Prop} [Decidable p] {A B : Prop} (h1 : ¬ p → A) (h0 : p → B) : if (!decide p) = true then A else B := iteN (fun e => h1 (of_decide_eq_false e)) (fun e => h0 (of_decide_eq_true e))
theorem seq_have {t u : TS} {D : Ends} {σ : L2.St} {H : Hp} (Pv : L2.St → Hp → Prop) (hu : ∀ σ2 H2, Pv σ2 H2 → u D σ2 H2) (ht : (∀ σ2 H2, Pv σ2 H2 → u D σ2 H2) → t { D with nx := u D } σ H) : tSeq t u D σ H := ht hu
theorem if_have {c : TT} {t u : TS} {D : Ends} {σ : L2.St} {H : Hp} (P1 P0 : Prop) (h1 : P1 → t D σ H) (h0 : P0 → u D σ H) (h : (P1 → t D σ H) → (P0 → u D σ H) → c σ H fun b H1 => if b = true then t D σ H1 else u D σ H1) : tIfS c t u D σ H := h h1 h0
theorem tIf_have {t : TT} {ta tb : TE} {σ : L2.St} {H : Hp} {Q : VK} (v : V) (k : Q v H) (h : Q v H → t σ H fun c H1 => if c = true then ta σ H1 Q else tb σ H1 Q) : tIf t ta tb σ H Q := h k
/-! ### a world seen at one hand -/
theorem Wd.hd_set {m : Wd} {i : Nat} {h : Hd} (hi : i < m.hs.length) : (m.set i h).hd i = h := by simp [Wd.set, Wd.hd, hi]
theorem Wd.set_set {m : Wd} {i : Nat} {h k : Hd} : (m.set i h).set i k = m.set i k := by simp [Wd.set, List.set_set]
theorem Wd.set_hd {m : Wd} {i : Nat} : m.set i (m.hd i) = m := by
  unfold Wd.set Wd.hd
  by_cases hi : i < m.hs.length
  · have e : m.hs.getD i Hd.new = m.hs[i] := by simp [hi]
    rw [e, List.set_getElem_self]
  · rw [List.set_eq_of_length_le (by omega)]
structure At (S : Side) (H : Hp) (O : Own) (L : WL) (m : Wd) (rs : List Dd) (i : Nat) (p : Addr) (h : Hd) (M : HL) : Prop where
  w : WorldIn S H O L (m.set i h) rs
  h : HandIn S H O i p h M
  p : L.ps[i]? = some p
section
variable {S : Side} {O O1 : Own} {H H1 : Hp} {L : WL} {m : Wd} {rs : List Dd} {i : Nat} {p : Addr} {h : Hd} {M : HL}
theorem WorldIn.lt (W : WorldIn S H O L m rs) (hp : L.ps[i]? = some p) : i < m.hs.length := by
  have q := (List.getElem?_eq_some_iff.mp hp).1
  have := W.len
  omega
theorem WorldIn.at_ (W : WorldIn S H O L m rs) (hp : L.ps[i]? = some p) : ∃ M, At S H O L m rs i p (m.hd i) M := by
  obtain ⟨M, q⟩ := W.hd i p hp
  exact ⟨M, by rw [Wd.set_hd]; exact W, q, hp⟩
theorem WorldIn.get (W : WorldIn S H O L m rs) (hi : i < m.hs.length) : ∃ p, L.ps[i]? = some p := ⟨_, List.getElem?_eq_getElem (by have := W.len; omega)⟩
theorem At.al (A : At S H O L m rs i p h M) : Al O H := A.w.al
theorem At.mov {D : Cell → Prop} (A : At S H O L m rs i p h M) {h1 : Hd} {M1 : HL} (s : Stp (dH i) O H O1 H1) (q : HandIn S H1 O1 i p h1 M1) : At S H1 O1 L m rs i p h1 M1 :=
  ⟨by have := A.w.hand A.p s ⟨_, q⟩; rw [Wd.set_set] at this; exact this, q, A.p⟩
theorem At.same (A : At S H O L m rs i p h M) (s : Same H H1) : At S H1 O L m rs i p h M := ⟨A.w.same s, A.h.same A.al s, A.p⟩
theorem At.putLaw (A : At .law H O L m rs i p h M) (h' : Hd) (l' : Addr) (hl : Im H (logD h'.log) (.ref l')) (e1 : h'.got = h.got := by rfl) (e2 : h'.known = h.known := by rfl) (e3 : h'.wishes = h.wishes := by rfl) :
    At .law (upd H p (.dK (rh h' { M with l := l' }).kvs)) O L m rs i p h' { M with l := l' } ∧ Stp (dH i) O H O (upd H p (.dK (rh h' { M with l := l' }).kvs)) :=
  let q := A.h.putLaw A.al h' l' hl e1 e2 e3
  ⟨A.mov (D := dH i) q.2 q.1, q.2⟩
theorem At.putProg {P : Program} {w : World} {K : PySem.W.Frag} (A : At (.prog P w K) H O L m rs i p h M) (dx : Addr) (h' : Hd) (l' : Addr) (hl : Im H (logD h'.log) (.ref l')) (e1 : h'.got = h.got := by rfl) (e2 : h'.known = h.known := by rfl) (e3 : h'.wishes = h.wishes := by rfl) :
    At (.prog P w K) (upd H p (.ins (CH K) dx (rh h' { M with l := l' }).fs)) O L m rs i p h' { M with l := l' } ∧ Stp (dH i) O H O (upd H p (.ins (CH K) dx (rh h' { M with l := l' }).fs)) :=
  let q := A.h.putProg A.al dx h' l' hl e1 e2 e3
  ⟨A.mov (D := dH i) q.2 q.1, q.2⟩
theorem At.obL (A : At .law H O L m rs i p h M) : H p = some (.dK (rh h M).kvs) := A.h.ob
theorem At.wobL (A : At .law H O L m rs i p h M) : H L.w = some (.dK (lawKvs L)) := A.w.ob
theorem At.pr (A : At S H O L m rs i p h M) : Im H m.pr.data L.pv := A.w.pr
end
theorem Stp.all {D : Cell → Prop} {O O1 : Own} {H H1 : Hp} (s : Stp D O H O1 H1) (h : ∀ c, D c → c ≠ .draw := by intro c h z; subst z; first | cases h | exact (h rfl).elim) : Stp dA O H O1 H1 := s.wide h
/-! ### small facts of readings -/
theorem atI_pred {α : Type} {xs : List α} {c : Nat} {v : α} (h0 : 0 < c) (h : xs[c - 1]? = some v) : atI xs ((c : Int) - 1) = some v := by
  have e : (c : Int) - 1 = ((c - 1 : Nat) : Int) := by omega
  rw [e]
  exact atI_nat h
theorem nv_inj {a b : Nat} (h : nv a = nv b) : a = b := by
  simp only [nv, V.int.injEq] at h
  omega
theorem dec_nv {a b : Nat} : decide (nv a = nv b) = decide (a = b) := by
  by_cases e : a = b
  · subst e; rw [decide_eq_true rfl, decide_eq_true rfl]
  · rw [decide_eq_false e, decide_eq_false fun q => e (nv_inj q)]
theorem dec_int {a b : Nat} : decide ((a : Int) ≤ (b : Int)) = decide (a ≤ b) := by
  by_cases e : a ≤ b
  · rw [decide_eq_true e, decide_eq_true (by omega)]
  · rw [decide_eq_false e, decide_eq_false (by omega)]
theorem dec_lt {a b : Nat} : decide ((a : Int) < (b : Int)) = decide (a < b) := by
  by_cases e : a < b
  · rw [decide_eq_true e, decide_eq_true (by omega)]
  · rw [decide_eq_false e, decide_eq_false (by omega)]
theorem lock_free {H : Hp} {k D : Addr} {f : HO} {u : HO} (hk : H k = some u) (hD : (upd H k f) D = none) : H D = none ∧ D ≠ k := by
  have n : D ≠ k := fun z => by subst z; rw [upd_same] at hD; cases hD
  exact ⟨by rw [upd_ne n] at hD; exact hD, n⟩
/-- a locked walk over with a new object laid -/
theorem lock_same {H : Hp} {k D : Addr} {f u o : HO} (hk : H k = some u) (hD : (upd H k f) D = none) : Same H (upd (upd (upd H k f) D o) k u) ∧ (upd (upd (upd H k f) D o) k u) D = some o := by
  obtain ⟨h1, n⟩ := lock_free hk hD
  refine ⟨fun b x e => ?_, by rw [upd_ne n, upd_same]⟩
  by_cases q : b = k
  · subst q; rw [upd_same]; rw [hk] at e; exact e
  · have q2 : b ≠ D := ne_of_none e h1
    rw [upd_ne q, upd_ne q2, upd_ne q]
    exact e
theorem cat_logs {K : PySem.W.Frag} {H : Hp} {a b : Addr} {l k : Log} {Q : VK} (h1 : Im H (logD l) (.ref a)) (h2 : Im H (logD k) (.ref b)) (hb : l.length + k.length ≤ sizeLine) (c : ∀ q H', Same H H' → Im H' (logD (l ++ k)) (.ref q) → Q (.ref q) H') : rCatA K (.ref a) (.ref b) H Q := by
  obtain ⟨xs, hx, lx⟩ := im_logr.mp h1
  obtain ⟨ys, hy, ly⟩ := im_logr.mp h2
  refine ⟨a, b, xs, ys, rfl, rfl, SqT.of hx, SqT.of hy, by rw [lx.length, ly.length]; exact hb, fun e => ?_, fun _ e => ?_, fun _ _ p hp => ?_⟩
  · have e2 : l = [] := List.eq_nil_of_length_eq_zero (by rw [← lx.length, e]; rfl)
    refine c b H (Same.refl H) ?_
    rw [e2]
    exact h2
  · have e2 : k = [] := List.eq_nil_of_length_eq_zero (by rw [← ly.length, e]; rfl)
    refine c a H (Same.refl H) ?_
    rw [e2, List.append_nil]
    exact h1
  · have sm := same_new (o := .tup (xs ++ ys)) hp
    exact c p _ sm (im_logr.mpr ⟨_, upd_same, (lx.keep (same_tk sm)).append (ly.keep (same_tk sm))⟩)
theorem min_two {x : Int} {a b : Nat} (h : x ∈ [(a : Int), (b : Int)]) (l : ∀ y, y ∈ [(a : Int), (b : Int)] → x ≤ y) : x = ((min a b : Nat) : Int) := by
  have h1 := l a (by simp)
  have h2 := l b (by simp)
  simp only [List.mem_cons, List.not_mem_nil, or_false] at h
  rcases h with rfl | rfl <;> omega
theorem max_two {x : Int} {a b : Nat} (h : x ∈ [(a : Int), (b : Int)]) (l : ∀ y, y ∈ [(a : Int), (b : Int)] → y ≤ x) : x = ((max a b : Nat) : Int) := by
  have h1 := l a (by simp)
  have h2 := l b (by simp)
  simp only [List.mem_cons, List.not_mem_nil, or_false] at h
  rcases h with rfl | rfl <;> omega
theorem Wd.post_hs {m : Wd} {l : Lt} : (m.post l).hs = m.hs := by unfold Wd.post; split <;> rfl
theorem Wd.post_hd {m : Wd} {l : Lt} {i : Nat} : (m.post l).hd i = m.hd i := by unfold Wd.hd; rw [Wd.post_hs]
theorem Wd.post_pr {m : Wd} {l : Lt} : (m.post l).pr = m.pr := by unfold Wd.post; split <;> rfl
theorem Wd.post_acts {m : Wd} {l : Lt} : (m.post l).acts = m.acts := by unfold Wd.post; split <;> rfl
theorem cutGo_hit {log : Log} {place : Nat} {r : Nat × Nat} {rs : Log} (h : place < log.length) (e : (log.getD place (0, 0)).1 = r.1) : cutGo log place (r :: rs) = cutGo log (place + 1) rs := by
  have e1 : log[place]? = some (log.getD place (0, 0)) := by simp [h]
  rw [cutGo, e1]
  exact if_pos e
theorem cutGo_miss {log : Log} {place : Nat} {r : Nat × Nat} {rs : Log} (h : ¬ (place < log.length ∧ (log.getD place (0, 0)).1 = r.1)) : cutGo log place (r :: rs) = log.take place ++ (r :: rs) := by
  rw [cutGo]
  by_cases h1 : place < log.length
  · have e1 : log[place]? = some (log.getD place (0, 0)) := by simp [h1]
    rw [e1]
    exact if_neg fun e => h ⟨h1, e⟩
  · rw [List.getElem?_eq_none (by omega)]
end Sr

set_option Elab.async false
set_option linter.all false
set_option maxRecDepth 100000
set_option maxHeartbeats 4000000
namespace Sr
open PySem PySem.Spec PyProof.Rows L2
local macro_rules | `(tactic| walk_at "hp") => `(tactic| (unfold upd at *; grind))
section
variable {P : Program} {w : World} {base : Heap} {K : PySem.W.Frag} {mg : Str → Option Value}
/-! ### maps by number, as dicts -/
section
variable {α β : Type} (g : α → V) (f : α → β)
def kx (p : Nat × α) : Key × V := (.inl (p.1 : Int), g p.2)
def mv (p : Nat × α) : Nat × β := (p.1, f p.2)
theorem key_iff {a b : Nat} : ((.inl (a : Int) : Key) = .inl (b : Int)) ↔ a = b := ⟨fun h => by have := Sum.inl.inj h; omega, fun h => by rw [h]⟩
theorem key_dec {a b : Nat} : decide ((.inl (a : Int) : Key) = .inl (b : Int)) = decide (a = b) := by
  by_cases e : a = b
  · rw [decide_eq_true e, decide_eq_true (key_iff.mpr e)]
  · rw [decide_eq_false e, decide_eq_false (fun z => e (key_iff.mp z))]
theorem valV_kx (k : Nat) : ∀ l : List (Nat × α), valV (l.map (kx g)) (.inl (k : Int)) = (alook l k).map g
  | [] => rfl
  | p :: l => by
    have ih := valV_kx k l
    unfold valV alook at ih ⊢
    rw [List.map_cons, List.find?_cons, List.find?_cons]
    have e : decide ((kx g p).1 = (.inl (k : Int) : Key)) = decide (p.1 = k) := key_dec
    rw [e]
    cases decide (p.1 = k) with
    | true => rfl
    | false => exact ih
theorem any_kx (k : Nat) : ∀ l : List (Nat × α), ((l.map (kx g)).any fun kv => decide (kv.1 = (.inl (k : Int) : Key))) = l.any fun p => decide (p.1 = k)
  | [] => rfl
  | p :: l => by
    rw [List.map_cons, List.any_cons, List.any_cons, any_kx k l]
    have e : decide ((kx g p).1 = (.inl (k : Int) : Key)) = decide (p.1 = k) := key_dec
    rw [e]
theorem putK_kx (k : Nat) (c : α) (l : List (Nat × α)) : putK (l.map (kx g)) (.inl (k : Int)) (g c) = (aput l k c).map (kx g) := by
  unfold putK aput
  rw [any_kx]
  by_cases h : (l.any fun p => decide (p.1 = k)) = true
  · rw [if_pos h, if_pos h, List.map_map, List.map_map]
    refine List.map_congr_left fun p _ => ?_
    by_cases e : p.1 = k
    · simp [kx, e]
    · have e2 : ¬ ((.inl (p.1 : Int) : Key) = .inl (k : Int)) := fun z => e (key_iff.mp z)
      show (if ((.inl (p.1 : Int) : Key) = .inl (k : Int)) then _ else _) = kx g (if p.1 = k then _ else _)
      rw [if_neg e2, if_neg e]
  · rw [if_neg h, if_neg h, List.map_append]
    rfl
theorem dropK_kx (k : Nat) (l : List (Nat × α)) : dropK (l.map (kx g)) (.inl (k : Int)) = (adrop l k).map (kx g) := by
  unfold dropK adrop
  rw [List.filter_map]
  congr 1
  refine List.filter_congr fun p _ => ?_
  have e : decide ((kx g p).1 ≠ (.inl (k : Int) : Key)) = decide (p.1 ≠ k) := by
    have := @key_dec p.1 k
    rw [decide_not, decide_not]
    exact congrArg _ this
  exact e
theorem alook_mv (k : Nat) : ∀ l : List (Nat × α), alook (l.map (mv f)) k = (alook l k).map f
  | [] => rfl
  | p :: l => by
    have ih := alook_mv k l
    unfold alook at ih ⊢
    rw [List.map_cons, List.find?_cons, List.find?_cons]
    have e : decide ((mv f p).1 = k) = decide (p.1 = k) := rfl
    rw [e]
    cases decide (p.1 = k) with
    | true => rfl
    | false => exact ih
theorem any_mv (k : Nat) (l : List (Nat × α)) : ((l.map (mv f)).any fun kv => decide (kv.1 = k)) = l.any fun p => decide (p.1 = k) := by
  rw [List.any_map]
  rfl
theorem aput_mv (k : Nat) (c : α) (l : List (Nat × α)) : aput (l.map (mv f)) k (f c) = (aput l k c).map (mv f) := by
  unfold aput
  rw [any_mv]
  by_cases h : (l.any fun p => decide (p.1 = k)) = true
  · rw [if_pos h, if_pos h, List.map_map, List.map_map]
    refine List.map_congr_left fun p _ => ?_
    by_cases e : p.1 = k <;> simp [mv, e]
  · rw [if_neg h, if_neg h, List.map_append]
    rfl
theorem adrop_mv (k : Nat) (l : List (Nat × α)) : adrop (l.map (mv f)) k = (adrop l k).map (mv f) := by
  unfold adrop
  rw [List.filter_map]
  rfl
theorem alook_mem {k : Nat} {v : α} : ∀ {l : List (Nat × α)}, alook l k = some v → (k, v) ∈ l
  | [], h => by cases h
  | p :: l, h => by
    unfold alook at h
    rw [List.find?_cons] at h
    by_cases e : p.1 = k
    · rw [decide_eq_true e] at h
      cases h
      rw [← e]
      exact List.mem_cons_self
    · rw [decide_eq_false e] at h
      exact List.mem_cons_of_mem _ (alook_mem h)
theorem alook_any {k : Nat} : ∀ {l : List (Nat × α)}, (alook l k).isSome = l.any fun p => decide (p.1 = k)
  | [] => rfl
  | p :: l => by
    have ih := alook_any (k := k) (l := l)
    unfold alook at ih ⊢
    rw [List.find?_cons, List.any_cons]
    cases decide (p.1 = k) with
    | true => rfl
    | false => exact ih
theorem aput_new {l : List (Nat × α)} {k : Nat} (c : α) (h : ∀ x ∈ l, x.1 ≠ k) : aput l k c = l ++ [(k, c)] := by
  unfold aput
  rw [if_neg]
  intro z
  obtain ⟨x, h1, h2⟩ := List.any_eq_true.mp z
  exact h x h1 (of_decide_eq_true h2)
theorem aput_len {l : List (Nat × α)} {k : Nat} {c : α} : (aput l k c).length ≤ l.length + 1 := by
  unfold aput
  split <;> simp
theorem mem_aput {l : List (Nat × α)} {k : Nat} {c : α} {x : Nat × α} (h : x ∈ aput l k c) : x = (k, c) ∨ (x ∈ l ∧ x.1 ≠ k) ∨ (x ∈ l ∧ ∀ y ∈ l, y.1 ≠ k) := by
  unfold aput at h
  split at h
  · obtain ⟨y, hy, e⟩ := List.mem_map.mp h
    by_cases q : y.1 = k
    · rw [if_pos q] at e
      exact .inl (by rw [← e, q])
    · rw [if_neg q] at e
      subst e
      exact .inr (.inl ⟨hy, q⟩)
  · next z =>
    rcases List.mem_append.mp h with a | a
    · exact .inr (.inr ⟨a, fun y hy q => z (List.any_eq_true.mpr ⟨y, hy, decide_eq_true q⟩)⟩)
    · exact .inl (List.mem_singleton.mp a)
end
theorem kn_eq : kn = kx nv := rfl
theorem wK_eq : wK = kx (fun y : List Nat × Addr => V.ref y.2) := rfl
/-! ### a hand's other parts written -/
section
variable {S : Side} {O O1 : Own} {H H1 : Hp} {L : WL} {m : Wd} {rs : List Dd} {i : Nat} {p : Addr} {h : Hd} {M : HL}
theorem noTup_set (S : Side) (l : List Nat) : NoTup (S.set l) := S.noTup l
theorem At.gotIn (A : At S H O L m rs i p h M) (g : List Nat) : At S (upd H M.g (S.set g)) O L m rs i p { h with got := g } M ∧ Stp (dH i) O H O (upd H M.g (S.set g)) := by
  have s : Stp (dH i) O H O (upd H M.g (S.set g)) := Stp.put A.al A.h.og rfl (S.noTup g)
  have ne : ∀ {b : Addr} {c : Cell}, O b = some c → c ≠ .got i → b ≠ M.g := fun h1 n => own_ne h1 A.h.og n
  have W := A.h
  refine ⟨A.mov (D := dH i) s ?_, s⟩
  exact {
    ob := Side.obj_eq (upd_ne (ne W.op (by intro z; cases z))) W.ob
    op := W.op
    log := Im.keep (s.tk A.al) _ _ W.log
    got := upd_same
    og := W.og
    kn := by rw [upd_ne (ne W.ok (by intro z; cases z))]; exact W.kn
    ok := W.ok
    ws := W.ws
    wi := by rw [upd_ne (ne W.ow (by intro z; cases z))]; exact W.wi
    ow := W.ow
    sn := fun x hx => ⟨by rw [upd_ne (ne (W.sn x hx).2 (by intro z; cases z))]; exact (W.sn x hx).1, (W.sn x hx).2⟩ }
theorem At.knownIn (A : At S H O L m rs i p h M) (k : List (Nat × Nat)) : At S (upd H M.k (.dK (k.map kn))) O L m rs i p { h with known := k } M ∧ Stp (dH i) O H O (upd H M.k (.dK (k.map kn))) := by
  have s : Stp (dH i) O H O (upd H M.k (.dK (k.map kn))) := Stp.put A.al A.h.ok rfl noTup_dK
  have ne : ∀ {b : Addr} {c : Cell}, O b = some c → c ≠ .known i → b ≠ M.k := fun h1 n => own_ne h1 A.h.ok n
  have W := A.h
  refine ⟨A.mov (D := dH i) s ?_, s⟩
  exact {
    ob := Side.obj_eq (upd_ne (ne W.op (by intro z; cases z))) W.ob
    op := W.op
    log := Im.keep (s.tk A.al) _ _ W.log
    got := by rw [upd_ne (ne W.og (by intro z; cases z))]; exact W.got
    og := W.og
    kn := upd_same
    ok := W.ok
    ws := W.ws
    wi := by rw [upd_ne (ne W.ow (by intro z; cases z))]; exact W.wi
    ow := W.ow
    sn := fun x hx => ⟨by rw [upd_ne (ne (W.sn x hx).2 (by intro z; cases z))]; exact (W.sn x hx).1, (W.sn x hx).2⟩ }
/-- the dict of wishes written, with new lists or fewer of them -/
theorem At.wishIn (A : At S H O L m rs i p h M) (ws : List (Nat × List Nat × Addr)) (hs : ∀ x ∈ ws, H x.2.2 = some (S.set x.2.1) ∧ O x.2.2 = some (.seen i x.1)) :
    At S (upd H M.w (.dK (ws.map wK))) O L m rs i p { h with wishes := ws.map fun x => (x.1, x.2.1) } { M with ws := ws } ∧ Stp (dH i) O H O (upd H M.w (.dK (ws.map wK))) := by
  have s : Stp (dH i) O H O (upd H M.w (.dK (ws.map wK))) := Stp.put A.al A.h.ow rfl noTup_dK
  have ne : ∀ {b : Addr} {c : Cell}, O b = some c → c ≠ .wishes i → b ≠ M.w := fun h1 n => own_ne h1 A.h.ow n
  have W := A.h
  refine ⟨A.mov (D := dH i) s ?_, s⟩
  exact {
    ob := Side.obj_eq (upd_ne (ne W.op (by intro z; cases z))) W.ob
    op := W.op
    log := Im.keep (s.tk A.al) _ _ W.log
    got := by rw [upd_ne (ne W.og (by intro z; cases z))]; exact W.got
    og := W.og
    kn := by rw [upd_ne (ne W.ok (by intro z; cases z))]; exact W.kn
    ok := W.ok
    ws := rfl
    wi := upd_same
    ow := W.ow
    sn := fun x hx => ⟨by rw [upd_ne (ne (hs x hx).2 (by intro z; cases z))]; exact (hs x hx).1, (hs x hx).2⟩ }
/-- one wish's own list written -/
theorem At.seenIn (A : At S H O L m rs i p h M) {n : Nat} {l : List Nat} {a : Addr} (hx : alook M.ws n = some (l, a)) (nd : (h.wishes.map (·.1)).Nodup) (l' : List Nat) :
    At S (upd H a (S.set l')) O L m rs i p { h with wishes := aput h.wishes n l' } { M with ws := aput M.ws n (l', a) } ∧ Stp (dH i) O H O (upd H a (S.set l')) := by
  have W := A.h
  have hm := alook_mem hx
  have oa : O a = some (.seen i n) := (W.sn _ hm).2
  have s : Stp (dH i) O H O (upd H a (S.set l')) := Stp.put A.al oa rfl (S.noTup l')
  have ne : ∀ {b : Addr} {c : Cell}, O b = some c → c ≠ .seen i n → b ≠ a := fun h1 n => own_ne h1 oa n
  have ea : (M.ws.any fun p => decide (p.1 = n)) = true := by rw [← alook_any, hx]; rfl
  have e3 : h.wishes = M.ws.map (mv (Prod.fst (α := List Nat) (β := Addr))) := W.ws
  have nd2 : (M.ws.map (·.1)).Nodup := by
    rw [e3, List.map_map] at nd
    exact nd
  have inj : ∀ {l : List (Nat × List Nat × Addr)}, (l.map (·.1)).Nodup → ∀ {x y}, x ∈ l → y ∈ l → x.1 = y.1 → x = y := by
    intro l
    induction l with
    | nil => intro _ x y h; cases h
    | cons z l ih =>
      intro nd x y h1 h2 e
      rw [List.map_cons, List.nodup_cons] at nd
      rcases List.mem_cons.mp h1 with a1 | a1 <;> rcases List.mem_cons.mp h2 with a2 | a2
      · rw [a1, a2]
      · exact (nd.1 (by rw [← a1, e]; exact List.mem_map_of_mem a2)).elim
      · exact (nd.1 (by rw [← a2, ← e]; exact List.mem_map_of_mem a1)).elim
      · exact ih nd.2 a1 a2 e
  refine ⟨A.mov (D := dH i) s ?_, s⟩
  exact {
    ob := Side.obj_eq (upd_ne (ne W.op (by intro z; cases z))) W.ob
    op := W.op
    log := Im.keep (s.tk A.al) _ _ W.log
    got := by rw [upd_ne (ne W.og (by intro z; cases z))]; exact W.got
    og := W.og
    kn := by rw [upd_ne (ne W.ok (by intro z; cases z))]; exact W.kn
    ok := W.ok
    ws := by
      show aput h.wishes n l' = (aput M.ws n (l', a)).map (mv (Prod.fst (α := List Nat) (β := Addr)))
      rw [← aput_mv, ← e3]
    wi := by
      have e4 : (aput M.ws n (l', a)).map wK = M.ws.map wK := by
        unfold aput
        rw [if_pos ea, List.map_map]
        refine List.map_congr_left fun x hx2 => ?_
        by_cases q : x.1 = n
        · have : x = (n, l, a) := inj nd2 hx2 hm q
          subst this
          simp [wK]
        · simp only [Function.comp, if_neg q]
      rw [e4, upd_ne (ne W.ow (by intro z; cases z))]
      exact W.wi
    ow := W.ow
    sn := fun x hx2 => by
      rcases mem_aput hx2 with rfl | ⟨h1, h2⟩ | ⟨h1, h2⟩
      · exact ⟨upd_same, oa⟩
      · exact ⟨by rw [upd_ne (ne (W.sn x h1).2 (by intro z; cases z; exact h2 rfl))]; exact (W.sn x h1).1, (W.sn x h1).2⟩
      · exact (h2 _ hm rfl).elim }
end
/-! ### how much there is -/
structure HFit (n a : Nat) (h : Hd) : Prop where
  log : h.log.length ≤ n
  got : h.got.length ≤ n
  known : h.known.length ≤ n
  wishes : h.wishes.length ≤ n
  wk : (h.wishes.map (·.1)).Pairwise (· < ·)
  wl : ∀ x ∈ h.wishes, x.1 < a ∧ x.2.length ≤ n
def LFit (n : Nat) : Lt → Prop
  | .rows _ _ a _ rs _ => a + rs.length ≤ n
  | _ => True
structure Fit (n : Nat) (m : Wd) : Prop where
  lts : m.lts.length ≤ n
  leads : m.leads.length ≤ n
  settles : m.settles.length ≤ n
  answers : m.answers.length ≤ n
  acts : m.acts.length ≤ n
  asked : m.asked.length ≤ n
  hd : ∀ i, HFit n m.asked.length (m.hd i)
  lt : ∀ l ∈ m.lts, LFit n l
theorem HFit.nd {n a : Nat} {h : Hd} (f : HFit n a h) : (h.wishes.map (·.1)).Nodup := f.wk.imp fun z => Nat.ne_of_lt z
end
end Sr

set_option Elab.async false
set_option linter.all false
set_option maxRecDepth 100000
set_option maxHeartbeats 4000000
namespace Sr
open PySem PySem.Spec PyProof.Rows L2
local macro_rules | `(tactic| walk_at "hp") => `(tactic| (unfold upd at *; grind))
section
variable {P : Program} {w : World} {base : Heap} {K : PySem.W.Frag} {mg : Str → Option Value}
/-! ### how much a deed adds -/
structure FitX (n nl na : Nat) (m : Wd) : Prop where
  lts : m.lts.length ≤ nl
  leads : m.leads.length ≤ n
  settles : m.settles.length ≤ n
  answers : m.answers.length ≤ n
  acts : m.acts.length ≤ na
  asked : m.asked.length ≤ n
  hd : ∀ i, HFit n m.asked.length (m.hd i)
  lt : ∀ l ∈ m.lts, LFit n l
section
variable {n k nl na a b i : Nat} {m : Wd} {h : Hd} {l : Lt}
theorem HFit.mono (f : HFit n a h) (h1 : n ≤ k) (h2 : a ≤ b) : HFit k b h :=
  ⟨Nat.le_trans f.log h1, Nat.le_trans f.got h1, Nat.le_trans f.known h1, Nat.le_trans f.wishes h1, f.wk, fun x hx => ⟨Nat.lt_of_lt_of_le (f.wl x hx).1 h2, Nat.le_trans (f.wl x hx).2 h1⟩⟩
theorem LFit.mono (f : LFit n l) (h1 : n ≤ k) : LFit k l := by
  cases l <;> first | trivial | exact Nat.le_trans f h1
theorem Fit.x (f : Fit n m) : FitX n n n m := ⟨f.lts, f.leads, f.settles, f.answers, f.acts, f.asked, f.hd, f.lt⟩
theorem FitX.fit (f : FitX n nl na m) (h0 : n ≤ k) (h1 : nl ≤ k) (h2 : na ≤ k) : Fit k m :=
  ⟨Nat.le_trans f.lts h1, Nat.le_trans f.leads h0, Nat.le_trans f.settles h0, Nat.le_trans f.answers h0, Nat.le_trans f.acts h2, Nat.le_trans f.asked h0, fun i => (f.hd i).mono h0 (Nat.le_refl _), fun l hl => (f.lt l hl).mono h0⟩
theorem FitX.up (f : FitX n nl na m) : FitX (n + 1) nl na m :=
  ⟨f.lts, Nat.le_succ_of_le f.leads, Nat.le_succ_of_le f.settles, Nat.le_succ_of_le f.answers, f.acts, Nat.le_succ_of_le f.asked, fun i => (f.hd i).mono (Nat.le_succ n) (Nat.le_refl _), fun l hl => (f.lt l hl).mono (Nat.le_succ n)⟩
theorem Wd.hd_set_or (m : Wd) (i j : Nat) (h : Hd) : (m.set i h).hd j = h ∨ (m.set i h).hd j = m.hd j := by
  by_cases e : i = j
  · subst e
    by_cases hi : i < m.hs.length
    · exact .inl (Wd.hd_set hi)
    · right
      unfold Wd.set Wd.hd
      rw [List.set_eq_of_length_le (by omega)]
  · right
    simp [Wd.set, Wd.hd, List.getElem?_set_ne e]
theorem FitX.set (f : FitX n nl na m) (hf : HFit n m.asked.length h) : FitX n nl na (m.set i h) :=
  ⟨f.lts, f.leads, f.settles, f.answers, f.acts, f.asked, fun j => by
    rcases m.hd_set_or i j h with e | e
    · rw [e]; exact hf
    · rw [e]; exact f.hd j, f.lt⟩
theorem FitX.post (f : FitX n nl na m) (hl : LFit n l) : FitX n (nl + 1) na (m.post l) := by
  unfold Wd.post
  split
  · exact ⟨Nat.le_succ_of_le f.lts, f.leads, f.settles, f.answers, f.acts, f.asked, f.hd, f.lt⟩
  · refine ⟨?_, f.leads, f.settles, f.answers, f.acts, f.asked, f.hd, fun x hx => ?_⟩
    · rw [List.length_append]; exact Nat.succ_le_succ f.lts
    · rcases List.mem_append.mp hx with z | z
      · exact f.lt x z
      · rw [List.mem_singleton.mp z]; exact hl
theorem FitX.act (f : FitX n nl na m) (c : Nat) : FitX n nl (na + 1) (m.act i c) := by
  unfold Wd.act
  split
  · have g : FitX n nl na (m.set i { m.hd i with sure := c }) := f.set ⟨(f.hd i).log, (f.hd i).got, (f.hd i).known, (f.hd i).wishes, (f.hd i).wk, (f.hd i).wl⟩
    exact ⟨g.lts, g.leads, g.settles, g.answers, by show (m.acts ++ [_]).length ≤ _; rw [List.length_append]; exact Nat.succ_le_succ f.acts, g.asked, g.hd, g.lt⟩
  · exact ⟨f.lts, f.leads, f.settles, f.answers, Nat.le_succ_of_le f.acts, f.asked, f.hd, f.lt⟩
theorem HFit.to (f : HFit n a h) (r : Role) : HFit n a (h.to r) := ⟨f.log, Nat.zero_le _, Nat.zero_le _, Nat.zero_le _, List.Pairwise.nil, fun x hx => nomatch hx⟩
theorem HFit.meet (f : HFit n a h) (t : Nat) : HFit n a (h.meet t) := by
  unfold Hd.meet
  split
  · exact ⟨f.log, Nat.zero_le _, Nat.zero_le _, Nat.zero_le _, List.Pairwise.nil, fun x hx => nomatch hx⟩
  · exact f
theorem addNew_len (l : List Nat) (x : Nat) : (addNew l x).length ≤ l.length + 1 := by
  unfold addNew
  split <;> simp
theorem cutGo_len (log : Log) : ∀ (rs : Log) (place : Nat), (cutGo log place rs).length ≤ max log.length (place + rs.length)
  | [], place => by simp only [cutGo]; omega
  | r :: rs, place => by
    have ih := cutGo_len log rs (place + 1)
    have h2 : (log.take place ++ r :: rs).length ≤ place + (r :: rs).length := by
      rw [List.length_append, List.length_take]
      omega
    by_cases c : place < log.length ∧ (log.getD place (0, 0)).1 = r.1
    · rw [cutGo_hit c.1 c.2]
      rw [List.length_cons]
      omega
    · rw [cutGo_miss c]
      omega
theorem cutLog_len (p : Pr) (log : Log) (place : Nat) (rs : Log) : (cutLog p log place rs).length ≤ max log.length (place + rs.length) := by
  unfold cutLog
  split
  · exact cutGo_len log rs place
  · rw [List.length_append, List.length_take]
    omega
theorem FitX.take (f : FitX n nl na m) {t s at_ ah told : Nat} {rws : Log} (hl : LFit n (.rows t s at_ ah rws told)) : FitX n (nl + 1) (na + 1) (m.take i t s at_ ah rws told) := by
  have g := (f.hd i).to .rests
  unfold Wd.take
  dsimp only
  split
  · have q : FitX n nl na (m.set i ((m.hd i).to .rests)) := f.set g
    exact ⟨Nat.le_succ_of_le q.lts, q.leads, q.settles, q.answers, Nat.le_succ_of_le q.acts, q.asked, q.hd, q.lt⟩
  · refine FitX.act (FitX.post (FitX.set f ?_) (by trivial)) _
    refine ⟨?_, g.got, g.known, g.wishes, g.wk, g.wl⟩
    have h1 := cutLog_len m.pr ((m.hd i).to .rests).log at_ rws
    have h2 := g.log
    have h3 : at_ + rws.length ≤ n := hl
    show (cutLog m.pr ((m.hd i).to .rests).log at_ rws).length ≤ n
    omega
theorem aput_keys {α : Type} {l : List (Nat × α)} {k : Nat} {c : α} (h : (l.any fun p => decide (p.1 = k)) = true) : (aput l k c).map (·.1) = l.map (·.1) := by
  unfold aput
  rw [if_pos h, List.map_map]
  refine List.map_congr_left fun x _ => ?_
  by_cases e : x.1 = k <;> simp [e]
theorem HFit.seen (f : HFit n a h) (k s : Nat) : HFit (n + 1) a (h.seen k s) := by
  unfold Hd.seen
  cases e : alook h.wishes k with
  | none => exact f.mono (Nat.le_succ n) (Nat.le_refl _)
  | some l =>
    have ha : (h.wishes.any fun p => decide (p.1 = k)) = true := by rw [← alook_any, e]; rfl
    have hm := alook_mem e
    refine ⟨Nat.le_succ_of_le f.log, Nat.le_succ_of_le f.got, Nat.le_succ_of_le f.known, ?_, ?_, fun x hx => ?_⟩
    · exact Nat.le_trans aput_len (Nat.succ_le_succ f.wishes)
    · show ((aput h.wishes k (addNew l s)).map (·.1)).Pairwise (· < ·)
      rw [aput_keys ha]
      exact f.wk
    · rcases mem_aput hx with rfl | ⟨z, _⟩ | ⟨z, _⟩
      · exact ⟨(f.wl _ hm).1, Nat.le_trans (addNew_len l s) (Nat.succ_le_succ (f.wl _ hm).2)⟩
      · exact ⟨(f.wl x z).1, Nat.le_succ_of_le (f.wl x z).2⟩
      · exact ⟨(f.wl x z).1, Nat.le_succ_of_le (f.wl x z).2⟩
theorem FitX.wide (f : FitX n nl na m) (h1 : nl ≤ k) (h2 : na ≤ b) : FitX n k b m := ⟨Nat.le_trans f.lts h1, f.leads, f.settles, f.answers, Nat.le_trans f.acts h2, f.asked, f.hd, f.lt⟩
theorem FitX.hear (f : FitX n n n m) (hl : LFit n l) : FitX (n + 1) (n + 1) (n + 1) (m.hear i l) := by
  have u := f.up.wide (Nat.le_succ n) (Nat.le_succ n)
  unfold Wd.hear
  split
  · exact u
  have hm : HFit n m.asked.length ((m.hd i).meet l.term) := (f.hd i).meet _
  have hm1 : HFit (n + 1) m.asked.length ((m.hd i).meet l.term) := hm.mono (Nat.le_succ n) (Nat.le_refl _)
  generalize (m.hd i).meet l.term = g at hm hm1
  have w1 : FitX (n + 1) n n (m.set i g) := f.up.set hm1
  cases l with
  | ask t s a b =>
    dsimp only
    split
    · exact (FitX.post (w1.set (by exact ⟨hm1.log, hm1.got, hm1.known, hm1.wishes, hm1.wk, hm1.wl⟩)) (by trivial)).wide (Nat.le_refl _) (Nat.le_succ n)
    · exact w1.wide (Nat.le_succ n) (Nat.le_succ n)
  | give t s u =>
    dsimp only
    split
    · refine (w1.set (h := { g with got := addNew g.got s }) ⟨hm1.log, ?_, hm1.known, hm1.wishes, hm1.wk, hm1.wl⟩).wide (Nat.le_succ n) (Nat.le_succ n)
      exact Nat.le_trans (addNew_len _ _) (Nat.succ_le_succ hm.got)
    · exact w1.wide (Nat.le_succ n) (Nat.le_succ n)
  | rows t s at_ ah rs told =>
    dsimp only
    split
    · exact w1.wide (Nat.le_succ n) (Nat.le_succ n)
    · exact w1.take (hl.mono (Nat.le_succ n))
  | taken t s u c =>
    dsimp only
    split
    · refine (w1.set (h := { g with known := aput g.known s (max c ((alook g.known s).getD 0)) }) ⟨hm1.log, hm1.got, ?_, hm1.wishes, hm1.wk, hm1.wl⟩).wide (Nat.le_succ n) (Nat.le_succ n)
      exact Nat.le_trans aput_len (Nat.succ_le_succ hm.known)
    · exact w1.wide (Nat.le_succ n) (Nat.le_succ n)
  | see t s k => exact (w1.post (by trivial)).wide (Nat.le_refl _) (Nat.le_succ n)
  | seen t s u k =>
    dsimp only
    split
    · exact (w1.set (hm.seen k s)).wide (Nat.le_succ n) (Nat.le_succ n)
    · exact w1.wide (Nat.le_succ n) (Nat.le_succ n)
theorem HFit.crash (f : HFit n a h) (p : Pr) : HFit n a (h.crash p) := by
  unfold Hd.crash
  dsimp only
  split <;> split <;> first
    | exact ⟨f.log, Nat.zero_le _, Nat.zero_le _, Nat.zero_le _, List.Pairwise.nil, fun x hx => nomatch hx⟩
    | exact ⟨Nat.zero_le _, Nat.zero_le _, Nat.zero_le _, Nat.zero_le _, List.Pairwise.nil, fun x hx => nomatch hx⟩
theorem fit_do {d : Dd} (f : Fit n m) (hab : m.able d = true) : Fit (n + 1) (m.do d) := by
  have x := f.x
  have u : FitX (n + 1) (n + 1) (n + 1) m := x.up.wide (Nat.le_succ n) (Nat.le_succ n)
  have u0 : FitX (n + 1) n n m := x.up
  have hu : ∀ i, HFit (n + 1) m.asked.length (m.hd i) := u.hd
  suffices FitX (n + 1) (n + 1) (n + 1) (m.do d) from this.fit (Nat.le_refl _) (Nat.le_refl _) (Nat.le_refl _)
  cases d with
  | stand i =>
    have g := (hu i).to .asks
    exact (FitX.post (u0.set (by exact ⟨g.log, Nat.succ_le_succ (Nat.zero_le _), g.known, g.wishes, g.wk, g.wl⟩)) (by trivial)).wide (Nat.le_refl _) (Nat.le_succ n)
  | lead i =>
    have g := (hu i).to .leads
    have q : FitX (n + 1) (n + 1) (n + 1) (m.set i { (m.hd i).to .leads with begun := (m.hd i).log.length }) := u.set ⟨g.log, g.got, g.known, g.wishes, g.wk, g.wl⟩
    exact ⟨q.lts, by show (m.leads ++ [_]).length ≤ _; rw [List.length_append]; exact Nat.succ_le_succ f.leads, q.settles, q.answers, q.acts, q.asked, q.hd, q.lt⟩
  | put i v =>
    have g := f.hd i
    have g1 := hu i
    exact u.set ⟨by show ((m.hd i).log ++ [_]).length ≤ _; rw [List.length_append]; exact Nat.succ_le_succ g.log, g1.got, g1.known, g1.wishes, g1.wk, g1.wl⟩
  | send i a c =>
    have hk : a + c ≤ (m.hd i).log.length := by
      simp only [Wd.able, Bool.and_eq_true, decide_eq_true_eq] at hab
      exact hab.2
    refine (FitX.post u0 ?_).wide (Nat.le_refl _) (Nat.le_succ n)
    show a + (((m.hd i).log.drop a).take c).length ≤ n + 1
    have := (f.hd i).log
    rw [List.length_take]
    omega
  | settle i c =>
    have g := hu i
    have q : FitX (n + 1) n n (m.set i { m.hd i with told := c }) := u0.set ⟨g.log, g.got, g.known, g.wishes, g.wk, g.wl⟩
    refine (FitX.act (m := { (m.set i { m.hd i with told := c }) with settles := m.settles ++ [((m.hd i).term, i, (m.hd i).log.take c)] }) ?_ c).wide (Nat.le_succ n) (Nat.le_refl _)
    exact ⟨q.lts, q.leads, by show (m.settles ++ [_]).length ≤ _; rw [List.length_append]; exact Nat.succ_le_succ f.settles, q.answers, q.acts, q.asked, q.hd, q.lt⟩
  | crash i => exact u.set ((hu i).crash m.pr)
  | hear i k =>
    show FitX (n + 1) (n + 1) (n + 1) (match m.lts[k]? with | none => m | some l => m.hear i l)
    cases e : m.lts[k]? with
    | none => exact u
    | some l => exact x.hear (f.lt l (List.mem_of_getElem? e))
  | wish i =>
    have g := f.hd i
    have g1 := hu i
    have fresh : ∀ x ∈ (m.hd i).wishes, x.1 ≠ m.asked.length := fun x hx => Nat.ne_of_lt (g.wl x hx).1
    have q : FitX (n + 1) n n ({ m with asked := m.asked ++ [m.settles.length] } : Wd) := by
      refine ⟨u0.lts, u0.leads, u0.settles, u0.answers, u0.acts, by show (m.asked ++ [_]).length ≤ _; rw [List.length_append]; exact Nat.succ_le_succ f.asked, fun j => ?_, u0.lt⟩
      refine (hu j).mono (Nat.le_refl _) ?_
      show _ ≤ (m.asked ++ [_]).length
      rw [List.length_append]
      omega
    refine (FitX.post (m := ({ m with asked := m.asked ++ [m.settles.length] } : Wd).set i { m.hd i with wishes := aput (m.hd i).wishes m.asked.length [i] }) (q.set ?_) (l := .see (m.hd i).term i m.asked.length) trivial).wide (Nat.le_refl _) (Nat.le_succ n)
    refine ⟨g1.log, g1.got, g1.known, Nat.le_trans aput_len (Nat.succ_le_succ g.wishes), ?_, fun x hx => ?_⟩
    · show ((aput (m.hd i).wishes m.asked.length [i]).map (·.1)).Pairwise (· < ·)
      rw [aput_new _ fresh, List.map_append, List.pairwise_append]
      refine ⟨g.wk, by simp, fun a ha b hb => ?_⟩
      obtain ⟨y, hy, rfl⟩ := List.mem_map.mp ha
      rw [List.map_singleton, List.mem_singleton] at hb
      subst hb
      exact (g.wl y hy).1
    · rw [show ({ m.hd i with wishes := aput (m.hd i).wishes m.asked.length [i] } : Hd).wishes = aput (m.hd i).wishes m.asked.length [i] from rfl, aput_new _ fresh] at hx
      show x.1 < (m.asked ++ [_]).length ∧ _
      rw [List.length_append]
      rcases List.mem_append.mp hx with z | z
      · exact ⟨Nat.lt_succ_of_lt (g.wl x z).1, Nat.le_succ_of_le (g.wl x z).2⟩
      · rw [List.mem_singleton.mp z]
        exact ⟨Nat.lt_succ_self _, Nat.succ_le_succ (Nat.zero_le _)⟩
  | answer i k =>
    have g := hu i
    have q : FitX (n + 1) (n + 1) (n + 1) (m.set i { m.hd i with wishes := adrop (m.hd i).wishes k }) := u.set ⟨g.log, g.got, g.known, Nat.le_trans (List.length_filter_le _ _) g.wishes, List.Pairwise.sublist (List.Sublist.map _ List.filter_sublist) g.wk, fun x hx => g.wl x (List.mem_filter.mp hx).1⟩
    exact ⟨q.lts, q.leads, q.settles, by show (m.answers ++ [_]).length ≤ _; rw [List.length_append]; exact Nat.succ_le_succ f.answers, q.acts, q.asked, q.hd, q.lt⟩
end
/-! ### runs of deeds that can be done -/
inductive Ru (p : Pr) : List Dd → Wd → Prop
  | nil : Ru p [] (Wd.new p)
  | snoc {rs : List Dd} {m : Wd} {d : Dd} : Ru p rs m → m.able d = true → d.hand < p.hands → Ru p (rs ++ [d]) (m.do d)
theorem Wd.act_same (m : Wd) (i c : Nat) : (m.act i c).pr = m.pr ∧ (m.act i c).hs.length = m.hs.length := by
  unfold Wd.act
  split <;> simp [Wd.set]
theorem Wd.take_same (m : Wd) (i t s at_ ah : Nat) (rws : Log) (told : Nat) : (m.take i t s at_ ah rws told).pr = m.pr ∧ (m.take i t s at_ ah rws told).hs.length = m.hs.length := by
  unfold Wd.take
  dsimp only
  split
  · simp [Wd.set]
  · exact ⟨(Wd.act_same _ _ _).1.trans (by simp [Wd.set, Wd.post_pr]), (Wd.act_same _ _ _).2.trans (by simp [Wd.set, Wd.post_hs])⟩
theorem Wd.hear_same (m : Wd) (i : Nat) (l : Lt) : (m.hear i l).pr = m.pr ∧ (m.hear i l).hs.length = m.hs.length := by
  unfold Wd.hear
  split
  · simp
  cases l with
  | ask t s a b => dsimp only; split <;> simp [Wd.set, Wd.post_pr, Wd.post_hs]
  | give t s u => dsimp only; split <;> simp [Wd.set]
  | rows t s at_ ah rs told =>
    dsimp only
    split
    · simp [Wd.set]
    · have := Wd.take_same (m.set i ((m.hd i).meet t)) i t s at_ ah rs told
      exact ⟨this.1, this.2.trans (by simp [Wd.set])⟩
  | taken t s u c => dsimp only; split <;> simp [Wd.set]
  | see t s k => simp [Wd.set, Wd.post_pr, Wd.post_hs]
  | seen t s u k => dsimp only; split <;> simp [Wd.set]
theorem Wd.do_same (m : Wd) (d : Dd) : (m.do d).pr = m.pr ∧ (m.do d).hs.length = m.hs.length := by
  cases d with
  | stand i => simp [Wd.do, Wd.set, Wd.post_pr, Wd.post_hs]
  | lead i => simp [Wd.do, Wd.set]
  | put i v => simp [Wd.do, Wd.set]
  | send i a c => simp [Wd.do, Wd.post_pr, Wd.post_hs]
  | settle i c =>
    have := Wd.act_same ({ (m.set i { m.hd i with told := c }) with settles := m.settles ++ [((m.hd i).term, i, (m.hd i).log.take c)] }) i c
    exact ⟨this.1, this.2.trans (by simp [Wd.set])⟩
  | crash i => simp [Wd.do, Wd.set]
  | hear i k =>
    show (match m.lts[k]? with | none => m | some l => m.hear i l).pr = _ ∧ (match m.lts[k]? with | none => m | some l => m.hear i l).hs.length = _
    cases m.lts[k]? with
    | none => exact ⟨rfl, rfl⟩
    | some l => exact Wd.hear_same m i l
  | wish i => simp [Wd.do, Wd.set, Wd.post_pr, Wd.post_hs]
  | answer i k => simp [Wd.do, Wd.set]
theorem fit_new (p : Pr) : Fit 0 (Wd.new p) := by
  refine ⟨Nat.le_refl _, Nat.le_refl _, Nat.le_refl _, Nat.le_refl _, Nat.le_refl _, Nat.le_refl _, fun i => ?_, fun l hl => nomatch hl⟩
  have e : (Wd.new p).hd i = Hd.new := by
    show (List.replicate p.hands Hd.new).getD i Hd.new = Hd.new
    rw [List.getD_eq_getElem?_getD, List.getElem?_replicate]
    split <;> rfl
  rw [e]
  exact ⟨Nat.le_refl _, Nat.le_refl _, Nat.le_refl _, Nat.le_refl _, List.Pairwise.nil, fun x hx => nomatch hx⟩
theorem Ru.props {p : Pr} {rs : List Dd} {m : Wd} (h : Ru p rs m) : m.pr = p ∧ m.hs.length = p.hands ∧ Fit rs.length m := by
  induction h with
  | nil => exact ⟨rfl, List.length_replicate, fit_new p⟩
  | @snoc rs m d _ ab _ ih =>
    obtain ⟨a, b, c⟩ := ih
    obtain ⟨e1, e2⟩ := Wd.do_same m d
    exact ⟨e1.trans a, e2.trans b, by rw [List.length_append]; exact fit_do c ab⟩
end
end Sr

set_option Elab.async false
set_option linter.all false
set_option maxRecDepth 100000
set_option maxHeartbeats 4000000
namespace Sr
open PySem PySem.Spec PyProof.Rows L2
local macro_rules | `(tactic| walk_at "hp") => `(tactic| (unfold upd at *; grind))
section
variable {P : Program} {w : World} {base : Heap} {K : PySem.W.Frag} {mg : Str → Option Value}
/-! ### those that a hand has got are few -/
theorem nodup_len : ∀ (n : Nat) (l : List Nat), l.Nodup → (∀ x ∈ l, x < n) → l.length ≤ n
  | 0, [], _, _ => Nat.le_refl _
  | 0, a :: l, _, h => absurd (h a List.mem_cons_self) (Nat.not_lt_zero a)
  | n + 1, l, nd, h => by
    have h2 : (l.erase n).length ≤ n := nodup_len n (l.erase n) (nd.erase n) fun x hx => by
      have q := (List.Nodup.mem_erase_iff nd).mp hx
      have := h x q.2
      have := q.1
      omega
    by_cases e : n ∈ l
    · rw [List.length_erase_of_mem e] at h2
      omega
    · rw [List.erase_of_not_mem e] at h2
      omega
structure HFew (n : Nat) (h : Hd) : Prop where
  got : h.got.Nodup ∧ ∀ x ∈ h.got, x < n
  ws : ∀ y ∈ h.wishes, y.2.Nodup ∧ ∀ x ∈ y.2, x < n
structure Few (n : Nat) (m : Wd) : Prop where
  lt : ∀ l ∈ m.lts, l.snd < n
  hd : ∀ i, HFew n (m.hd i)
section
variable {n i : Nat} {m : Wd} {h : Hd} {l : Lt}
theorem HFew.none (e1 : h.got = []) (e2 : h.wishes = []) : HFew n h := ⟨by rw [e1]; exact ⟨List.nodup_nil, fun x hx => nomatch hx⟩, by rw [e2]; exact fun x hx => nomatch hx⟩
theorem HFew.like {k : Hd} (f : HFew n h) (e1 : k.got = h.got) (e2 : k.wishes = h.wishes) : HFew n k := ⟨by rw [e1]; exact f.got, by rw [e2]; exact f.ws⟩
theorem Few.set (f : Few n m) (hf : HFew n h) : Few n (m.set i h) := ⟨f.lt, fun j => by
  rcases m.hd_set_or i j h with e | e
  · rw [e]; exact hf
  · rw [e]; exact f.hd j⟩
theorem Few.post (f : Few n m) (hl : l.snd < n) : Few n (m.post l) := by
  unfold Wd.post
  split
  · exact f
  · refine ⟨fun x hx => ?_, f.hd⟩
    rcases List.mem_append.mp hx with z | z
    · exact f.lt x z
    · rw [List.mem_singleton.mp z]; exact hl
theorem Few.act (f : Few n m) (c : Nat) : Few n (m.act i c) := by
  unfold Wd.act
  split
  · have g : Few n (m.set i { m.hd i with sure := c }) := f.set ((f.hd i).like rfl rfl)
    exact ⟨g.lt, g.hd⟩
  · exact f
theorem few_add {l : List Nat} {s : Nat} (h : l.Nodup ∧ ∀ x ∈ l, x < n) (hs : s < n) : (addNew l s).Nodup ∧ ∀ x ∈ addNew l s, x < n := by
  unfold addNew
  split
  · exact h
  · next e =>
    refine ⟨List.nodup_append.mpr ⟨h.1, by simp, fun a ha b hb => ?_⟩, fun x hx => ?_⟩
    · rw [List.mem_singleton.mp hb]
      rintro rfl
      exact e ha
    · rcases List.mem_append.mp hx with z | z
      · exact h.2 x z
      · rw [List.mem_singleton.mp z]; exact hs
theorem Few.take (f : Few n m) (hi : i < n) {t s at_ ah told : Nat} {rws : Log} : Few n (m.take i t s at_ ah rws told) := by
  unfold Wd.take
  dsimp only
  split
  · exact f.set (.none rfl rfl)
  · exact Few.act (Few.post (Few.set f (.none rfl rfl)) (by exact hi)) _
theorem Few.hear (f : Few n m) (hi : i < n) (hl : l.snd < n) : Few n (m.hear i l) := by
  unfold Wd.hear
  split
  · exact f
  have hm : HFew n ((m.hd i).meet l.term) := by
    unfold Hd.meet
    split
    · exact .none rfl rfl
    · exact f.hd i
  generalize (m.hd i).meet l.term = g at hm
  have w1 : Few n (m.set i g) := f.set hm
  cases l with
  | ask t s a b =>
    dsimp only
    split
    · exact Few.post (w1.set (hm.like (k := { g with vote := some s }) rfl rfl)) hi
    · exact w1
  | give t s u =>
    dsimp only
    split
    · exact w1.set (h := { g with got := addNew g.got s }) ⟨few_add hm.got hl, hm.ws⟩
    · exact w1
  | rows t s at_ ah rs told =>
    dsimp only
    split
    · exact w1
    · exact w1.take hi
  | taken t s u c =>
    dsimp only
    split
    · exact w1.set (hm.like (k := { g with known := aput g.known s (max c ((alook g.known s).getD 0)) }) rfl rfl)
    · exact w1
  | see t s k => exact w1.post (l := .seen t i s k) hi
  | seen t s u k =>
    dsimp only
    split
    · refine w1.set ?_
      unfold Hd.seen
      cases e : alook g.wishes k with
      | none => exact hm
      | some l =>
        refine ⟨hm.got, fun y hy => ?_⟩
        rcases mem_aput hy with rfl | ⟨z, _⟩ | ⟨z, _⟩
        · exact few_add (hm.ws _ (alook_mem e)) hl
        · exact hm.ws y z
        · exact hm.ws y z
    · exact w1
theorem few_do {d : Dd} (f : Few n m) (hi : d.hand < n) : Few n (m.do d) := by
  cases d with
  | stand i => exact Few.post (l := .ask _ i _ _) (Few.set f (h := { (m.hd i).to .asks with term := (m.hd i).term + 1, vote := some i, got := [i] }) ⟨⟨by simp, fun x hx => by rw [List.mem_singleton.mp hx]; exact hi⟩, fun y hy => nomatch hy⟩) hi
  | lead i =>
    have q : Few n (m.set i { (m.hd i).to .leads with begun := (m.hd i).log.length }) := f.set (.none rfl rfl)
    exact ⟨q.lt, q.hd⟩
  | put i v => exact f.set ((f.hd i).like rfl rfl)
  | send i a c => exact f.post (l := .rows _ i _ _ _ _) hi
  | settle i c =>
    have q : Few n (m.set i { m.hd i with told := c }) := f.set ((f.hd i).like rfl rfl)
    exact Few.act (m := { (m.set i { m.hd i with told := c }) with settles := m.settles ++ [((m.hd i).term, i, (m.hd i).log.take c)] }) ⟨q.lt, q.hd⟩ c
  | crash i =>
    refine f.set ?_
    unfold Hd.crash
    dsimp only
    split <;> split <;> exact .none rfl rfl
  | hear i k =>
    show Few n (match m.lts[k]? with | none => m | some l => m.hear i l)
    cases e : m.lts[k]? with
    | none => exact f
    | some l => exact f.hear hi (f.lt l (List.mem_of_getElem? e))
  | wish i =>
    have q : Few n ({ m with asked := m.asked ++ [m.settles.length] } : Wd) := ⟨f.lt, f.hd⟩
    refine Few.post (l := .see (m.hd i).term i m.asked.length) (q.set (h := { m.hd i with wishes := aput (m.hd i).wishes m.asked.length [i] }) ⟨(f.hd i).got, fun y hy => ?_⟩) hi
    rcases mem_aput hy with rfl | ⟨z, _⟩ | ⟨z, _⟩
    · exact ⟨by simp, fun x hx => by rw [List.mem_singleton.mp hx]; exact hi⟩
    · exact (f.hd i).ws y z
    · exact (f.hd i).ws y z
  | answer i k =>
    have q : Few n (m.set i { m.hd i with wishes := adrop (m.hd i).wishes k }) := f.set ⟨(f.hd i).got, fun y hy => (f.hd i).ws y (List.mem_filter.mp hy).1⟩
    exact ⟨q.lt, q.hd⟩
end
theorem Ru.few {p : Pr} {rs : List Dd} {m : Wd} (h : Ru p rs m) : Few p.hands m := by
  induction h with
  | nil =>
    refine ⟨(fun l hl => nomatch hl), fun i => ?_⟩
    have e : (Wd.new p).hd i = Hd.new := by
      show (List.replicate p.hands Hd.new).getD i Hd.new = Hd.new
      rw [List.getD_eq_getElem?_getD, List.getElem?_replicate]
      split <;> rfl
    rw [e]
    exact .none rfl rfl
  | snoc _ _ hi ih => exact few_do ih hi
theorem HFew.len {n : Nat} {h : Hd} (f : HFew n h) (hn : n ≤ 4) : h.got.length < 64 ∧ ∀ y ∈ h.wishes, y.2.length < 64 := by
  refine ⟨?_, fun y hy => ?_⟩
  · have := nodup_len n _ f.got.1 f.got.2
    omega
  · have := nodup_len n _ (f.ws y hy).1 (f.ws y hy).2
    omega
end
end Sr

set_option Elab.async false
set_option linter.all false
set_option maxRecDepth 100000
set_option maxHeartbeats 4000000
namespace Sr
open PySem PySem.Spec PyProof.Rows L2
local macro_rules | `(tactic| walk_at "hp") => `(tactic| (unfold upd at *; grind))
section
variable {P : Program} {w : World} {base : Heap} {K : PySem.W.Frag} {mg : Str → Option Value}
/-! whether there is a rule -/
@[irreducible] def spHas : Sp := fun vs H Q _ => ∃ O L m rs r, vs = [.ref L.w, .str r] ∧ WorldIn .law H O L m rs ∧ Q (.bl (m.pr.has r)) H
theorem sc_l_has : FnScope ["_law_world_here", "_law_rule"] ["_law_world_here", "_law_rule"] (defScope s_l_has) := ⟨rfl, rfl, rfl, by decide +kernel, rfl, by decide +kernel, by decide +kernel⟩
theorem ok_l_has (T : Tx w K mg) : FnI P w K mg base "_law_has" (0 + 1) ["_law_world_here", "_law_rule"] spHas := by
  refine FnI.mk' T.f_l_has T.g_l_has sc_l_has (fun _ _ _ _ _ _ us hl => match us, hl with | [_, _], _ => rfl) (fun vs H Q E h => ?_) (fun cdv A outer s H vs Q E hr h => ?_)
  all_goals unfold spHas at h
  · obtain ⟨_, _, _, _, _, rfl, _⟩ := h
    rfl
  · obtain ⟨O, L, m, rs, r, rfl, W, k⟩ := h
    have hu := hu_of hr
    refine ⟨_, (pss_one (ps_ret (pe_cmpR op_in_seq (pv 1) (pe_ix (ixT K) (pe_dget hu (pv 0) pe_str (fun _ _ => rfl)) pe_int (fun _ _ => rfl)) rfl))), ?_⟩
    obtain ⟨a, q, e, h1, h2⟩ := im_pr.mp W.pr
    refine ⟨_, rfl, _, rfl, L.w, _, rfl, dw_protocol W.ob, _, _, 5, _, e, rfl, SqT.of h1, rfl, q, _, rfl, .inr (SqT.of h2), rfl, flat_strs _, ?_⟩
    show Q (.bl (inV (.str r) (m.pr.rules.map V.str))) H
    rw [inV_strs]
    exact k
theorem atI_neg {α : Type} {xs : List α} {v : α} (h : xs[xs.length - 1]? = some v) : atI xs (-1) = some v := by
  have hl : xs.length - 1 < xs.length := (List.getElem?_eq_some_iff.mp h).1
  unfold atI ixN
  rw [if_neg (by decide), if_pos (by omega)]
  have e : ((-1 : Int) + (xs.length : Int)).toNat = xs.length - 1 := by omega
  rw [e]
  exact h
theorem Hd.pair_nil {h : Hd} (e : h.log = []) : h.pair = (0, 0) := by simp [Hd.pair, e]
theorem Hd.pair_at {h : Hd} (e : h.log ≠ []) : h.pair = ((h.log.getD (h.log.length - 1) (0, 0)).1, h.log.length) := by
  have hl : h.log.length - 1 < h.log.length := by
    cases q : h.log with
    | nil => exact (e q).elim
    | cons => simp
  unfold Hd.pair
  rw [List.getLast?_eq_getElem?]
  simp [hl]
/-! the last pair of a hand -/
@[irreducible] def spPair : Sp := fun vs H Q _ => ∃ O i p h, vs = [.ref p] ∧ HandAt .law H O i p h ∧ ∀ T H', Same H H' → H T = none → H' T = some (.tup [nv h.pair.1, nv h.pair.2]) → Q (.ref T) H'
theorem sc_l_pair : FnScope ["_law_hand_here"] ["_law_hand_here"] (defScope s_l_pair) := ⟨rfl, rfl, rfl, by decide +kernel, rfl, by decide +kernel, by decide +kernel⟩
theorem ok_l_pair (T : Tx w K mg) : FnI P w K mg base "_law_pair" (0 + 1) ["_law_hand_here"] spPair := by
  refine FnI.mk' T.f_l_pair T.g_l_pair sc_l_pair (fun _ _ _ _ _ _ us hl => match us, hl with | [_], _ => rfl) (fun vs H Q E h => ?_) (fun cdv A outer s H vs Q E hr h => ?_)
  all_goals unfold spPair at h
  · obtain ⟨_, _, _, _, rfl, _⟩ := h
    rfl
  · obtain ⟨O, i, p, h, rfl, ⟨L, W⟩, k⟩ := h
    have hu := hu_of hr
    have hu64 := hr.units
    refine ⟨_, (pss_one (ps_ret (pe_ifExp (pt_cmpR (op_neD hu64) (pe_dget hu (pv 0) pe_str (fun _ _ => rfl)) (pe_tup pa_nil) (nomark _)) (pe_tup (pa_cons (pe_ix (ixT K) (pe_ix (ixT K) (pe_dget hu (pv 0) pe_str (fun _ _ => rfl)) (pe_un un_neg pe_int) (fun _ _ => rfl)) pe_int (fun _ _ => rfl)) (pa_cons (pe_callB (id := "len") (lenK K) (by rfl) T.n_len (by decide +kernel) (pa_cons (pe_dget hu (pv 0) pe_str (fun _ _ => rfl)) pa_nil)) pa_nil))) (pe_tup (pa_cons pe_int (pa_cons pe_int pa_nil)))))), ?_⟩
    obtain ⟨xs, hx, hlog⟩ := im_logr.mp W.log
    have ob : H p = some (.dK (rh h L).kvs) := W.ob
    refine ⟨_, rfl, p, _, rfl, dg_log ob, Nat.zero_le _, fun q hq => ?_⟩
    have Sm : Same H (upd H q (.tup [])) := same_new hq
    have ob' := Sm _ _ ob
    have hx' := Sm _ _ hx
    refine ⟨logD h.log, .tuple [], Im.dp _ _ (Im.keep (same_tk Sm) _ _ W.log), Im.dp _ _ (Im.tup' upd_same ImAll.nil'), (sh_log (n := 0) _).ok, (sh_empty (n := 0)).ok, _, rfl, ?_⟩
    rw [log_empty]
    by_cases e : h.log = []
    · rw [decide_eq_true e, Bool.not_true]
      refine iteF ?_
      refine ⟨by show 2 ≤ sizeLine; decide, fun T hT => ?_⟩
      refine k T _ (Sm.trans (same_new hT)) (Sm.free hT) ?_
      rw [upd_same, Hd.pair_nil e] <;> rfl
    · rw [decide_eq_false e, Bool.not_false]
      refine iteT ?_
      have hl : h.log.length - 1 < h.log.length := by
        cases q : h.log with
        | nil => exact (e q).elim
        | cons => simp
      obtain ⟨r, hr1, hr2⟩ := hlog.get hl
      have hr3 : xs[xs.length - 1]? = some (.ref r) := by rw [hlog.length]; exact hr1
      refine ⟨_, rfl, p, _, rfl, dg_log ob', _, rfl, _, xs, _, _, rfl, rfl, SqT.of hx', atI_neg hr3, r, _, 0, _, rfl, rfl, SqT.of (Sm _ _ hr2), rfl, _, rfl, p, _, rfl, dg_log ob', _, xs, rfl, .inr (SqT.of hx'), ?_⟩
      refine ⟨by show 2 ≤ sizeLine; decide, fun T hT => ?_⟩
      refine k T _ (Sm.trans (same_new hT)) (Sm.free hT) ?_
      rw [upd_same, Hd.pair_at e, hlog.length]
/-! a hand comes to a role -/
@[irreducible] def spRole : Sp := fun vs H Q _ => ∃ O i p h ro, vs = [.ref p, .str (Role.str ro)] ∧ HandAt .law H O i p h ∧ Al O H ∧ ∀ O' H', HandAt .law H' O' i p (h.to ro) → Stp (dH i) O H O' H' → Q .non H'
theorem sc_l_role : FnScope ["_law_hand_here", "_law_role_here"] ["_law_hand_here", "_law_role_here"] (defScope s_l_role) := ⟨rfl, rfl, rfl, by decide +kernel, rfl, by decide +kernel, by decide +kernel⟩
theorem ok_l_role (T : Tx w K mg) : FnI P w K mg base "_law_role" (0 + 1) ["_law_hand_here", "_law_role_here"] spRole := by
  refine FnI.mk' T.f_l_role T.g_l_role sc_l_role (fun _ _ _ _ _ _ us hl => match us, hl with | [_, _], _ => rfl) (fun vs H Q E h => ?_) (fun cdv A outer s H vs Q E hr h => ?_)
  all_goals unfold spRole at h
  · obtain ⟨_, _, _, _, _, rfl, _⟩ := h
    rfl
  · obtain ⟨O, i, p, h, ro, rfl, ⟨L, W⟩, al, fin⟩ := h
    have hu := hu_of hr
    refine ⟨_, (pss_cons (ps_asg (pe_tup (pa_cons (pv 1) (pa_cons (pe_lst pa_nil) (pa_cons pe_dnewK pa_nil)))) (pg_tup rfl (pgs_cons (pg_sub (pv 0) pe_str (set_dict hu)) (pgs_cons (pg_sub (pv 0) pe_str (set_dict hu)) (pgs_cons (pg_sub (pv 0) pe_str (set_dict hu)) pgs_nil)))))
      (pss_one (ps_asg (pe_tup (pa_cons pe_int (pa_cons pe_int (pa_cons pe_dnewK pa_nil)))) (pg_tup rfl (pgs_cons (pg_sub (pv 0) pe_str (set_dict hu)) (pgs_cons (pg_sub (pv 0) pe_str (set_dict hu)) (pgs_cons (pg_sub (pv 0) pe_str (set_dict hu)) pgs_nil))))))), ?_⟩
    have ob : H p = some (.dK (rh h L).kvs) := W.ob
    refine ⟨_, rfl, Nat.zero_le _, fun g hg => ?_⟩
    intro k hk
    refine ⟨by show 3 ≤ sizeLine; decide, fun t ht => ?_⟩
    have ob3 := same_new (o := .tup [.str ro.str, .ref g, .ref k]) ht _ _ (same_new (o := .dK []) hk _ _ (same_new (o := .lst []) hg _ _ ob))
    refine ⟨t, _, rfl, SqT.of upd_same, rfl, _, _, rfl, _, rfl, p, _, rfl, dp_role _ ob3, _, _, rfl, _, rfl, p, _, rfl, dp_got _ upd_same, _, _, rfl, _, rfl, p, _, rfl, dp_known _ upd_same, rfl, ?_⟩
    rw [upd_upd, upd_upd]
    have S1 : Stp (dH i) O H (updO O g (.got i)) (upd H g (.lst [])) := .own al hg rfl noTup_lst
    have S2 := S1.trans (Stp.own (c := .known i) (o := .dK []) S1.al hk rfl noTup_dK)
    have S3 := S2.trans (Stp.new (o := .tup [.str ro.str, .ref g, .ref k]) S2.al ht)
    have S4 := S3.trans (Stp.put (o := .dK { { { rh h L with role := .str ro.str } with got := .ref g } with known := .ref k }.kvs) S3.al (S3.mono _ _ W.op) rfl noTup_dK)
    intro wa hw
    refine ⟨by show 3 ≤ sizeLine; decide, fun u hu2 => ?_⟩
    have ob6 := same_new (o := .tup [.int 0, .int 0, .ref wa]) hu2 _ _ (same_new (o := .dK []) hw _ _ (upd_same (H := upd (upd (upd H g (.lst [])) k (.dK [])) t (.tup [.str ro.str, .ref g, .ref k])) (a := p) (o := .dK { { { rh h L with role := .str ro.str } with got := .ref g } with known := .ref k }.kvs)))
    refine ⟨u, _, rfl, SqT.of upd_same, rfl, _, _, rfl, _, rfl, p, _, rfl, dp_told _ ob6, _, _, rfl, _, rfl, p, _, rfl, dp_begun _ upd_same, _, _, rfl, _, rfl, p, _, rfl, dp_wishes _ upd_same, rfl, ?_⟩
    rw [upd_upd, upd_upd]
    have S5 := S4.trans (Stp.own (c := .wishes i) (o := .dK []) S4.al hw rfl noTup_dK)
    have S6 := S5.trans (Stp.new (o := .tup [.int 0, .int 0, .ref wa]) S5.al hu2)
    have S7 := S6.trans (Stp.put (o := .dK (rh (h.to ro) ⟨L.l, g, k, wa, []⟩).kvs) S6.al (S6.mono _ _ W.op) rfl noTup_dK)
    have e1 : updO O g (.got i) g = some (.got i) := updO_same
    have e2 := (Stp.own (D := dH i) (c := .known i) (o := .dK []) S1.al hk rfl noTup_dK).mono _ _ e1
    have e3 := (Stp.own (D := dH i) (c := .wishes i) (o := .dK []) S4.al hw rfl noTup_dK).mono _ _ e2
    have e4 := (Stp.own (D := dH i) (c := .wishes i) (o := .dK []) S4.al hw rfl noTup_dK).mono _ _ (updO_same (O := updO O g (.got i)) (a := k) (c := .known i))
    have n1 : g ≠ p := (al.ne W.op hg).symm
    have n2 : k ≠ p := (S1.al.ne (S1.mono _ _ W.op) hk).symm
    have n3 : wa ≠ p := (S4.al.ne (S4.mono _ _ W.op) hw).symm
    have z1 := same_new (o := .tup [.str ro.str, .ref g, .ref k]) ht _ _ (same_new (o := .dK []) hk _ _ (upd_same (H := H) (a := g) (o := .lst [])))
    have z2 := same_new (o := .tup [.str ro.str, .ref g, .ref k]) ht _ _ (upd_same (H := upd H g (.lst [])) (a := k) (o := .dK []))
    refine fin _ _ ⟨⟨L.l, g, k, wa, []⟩, ?_⟩ S7
    exact {
      ob := upd_same
      op := S7.mono _ _ W.op
      log := Im.keep (S7.tk al) _ _ W.log
      got := by rw [upd_ne n1]; exact same_new hu2 _ _ (same_new hw _ _ (by rw [upd_ne n1]; exact z1))
      og := e3
      kn := by rw [upd_ne n2]; exact same_new hu2 _ _ (same_new hw _ _ (by rw [upd_ne n2]; exact z2))
      ok := e4
      ws := rfl
      wi := by rw [upd_ne n3]; exact same_new hu2 _ _ upd_same
      ow := updO_same
      sn := fun x hx => nomatch hx }
/-! a letter is sent -/
@[irreducible] def spPost : Sp := fun vs H Q _ => ∃ O L m rs l v, vs = [.ref (WL.w L), v] ∧ WorldIn .law H O L m rs ∧ Im H (Lt.data l) v ∧ m.lts.length < big ∧ ∀ H', WorldIn .law H' O L (m.post l) rs → Stp (fun c => c = .lts) O H O H' → Q .non H'
theorem sc_l_post : FnScope ["_law_world_here", "_law_letter"] ["_law_world_here", "_law_letter"] (defScope s_l_post) := ⟨rfl, rfl, rfl, by decide +kernel, rfl, by decide +kernel, by decide +kernel⟩
theorem ok_l_post (T : Tx w K mg) : FnI P w K mg base "_law_post" (0 + 1) ["_law_world_here", "_law_letter"] spPost := by
  refine FnI.mk' T.f_l_post T.g_l_post sc_l_post (fun _ _ _ _ _ _ us hl => match us, hl with | [_, _], _ => rfl) (fun vs H Q E h => ?_) (fun cdv A outer s H vs Q E hr h => ?_)
  all_goals unfold spPost at h
  · obtain ⟨_, _, _, _, _, _, rfl, _⟩ := h
    rfl
  · obtain ⟨O, L, m, rs, l, v, rfl, W, hv, hb, fin⟩ := h
    have hu := hu_of hr
    have hu65 := room65 hr
    refine ⟨_, (pss_one (ps_if (pt_cmpR (op_notInD hu65) (pv 1) (pe_dget hu (pv 0) pe_str (fun _ _ => rfl)) rfl) (pss_one (ps_expr (pe_bm PySem.F.plainAttrs_list PySem.F.slot_list_append PySem.F.type_list_append mt_append (pe_dget hu (pv 0) pe_str (fun _ _ => rfl)) (pa_cons (pv 1) pa_nil)))) pss_nil)), ?_⟩
    obtain ⟨as, h1, h2, h3⟩ := W.lts
    have ob : H L.w = some (.dK (lawKvs L)) := W.ob
    refine ⟨_, rfl, _, rfl, L.w, _, rfl, dw_letters ob, l.data, m.lts.map Lt.data, Im.dp _ _ hv, .lst (SqL.of h1) (ImAll.dp _ _ h2), (sh_lt l).ok, (sh_list (.map sh_lt _)).ok, _, rfl, ?_⟩
    rw [lts_any]
    by_cases e : l ∈ m.lts
    · rw [decide_eq_true e]
      refine iteF ?_
      have em : m.post l = m := by simp [Wd.post, e]
      rw [em] at fin
      exact fin H W (Stp.refl W.al)
    · rw [decide_eq_false e]
      refine iteT ?_
      obtain ⟨b, wd, xs, rfl, _⟩ := im_letter hv
      have hlen : (as.map V.ref).length < sizeLine := by
        have := h2.length
        rw [List.length_map, List.length_map] at this
        rw [List.length_map, this]
        exact big_line hb
      refine ⟨_, rfl, L.w, _, rfl, dw_letters ob, .inl ⟨rfl, _, SqL.of h1⟩, _, rfl, _, _, _, rfl, rfl, h1, hlen, ?_⟩
      have S1 : Stp (fun c => c = .lts) O H O (upd H L.lts (.lst (as.map V.ref ++ [.ref b]))) := Stp.put W.al W.olts rfl noTup_lst
      have em : m.post l = { m with lts := m.lts ++ [l] } := by simp [Wd.post, e]
      rw [em] at fin
      have tk := S1.tk W.al
      refine fin _ ?_ S1
      have no : ∀ c : Cell, c ≠ .lts → ¬ (fun c : Cell => c = .lts) c := fun c n z => n z
      refine W.rest S1 rfl rfl (fun c hc z => hc (by rw [show c = .lts from z] <;> rfl)) (no _ (by intro z; cases z)) (W.ob_k S1 (no _ (by intro z; cases z)) (no _ (by intro z; cases z))) ⟨as ++ [b], ?_, ?_, ?_⟩ (W.leads_k S1 (no _ (by intro z; cases z)))
        (W.settles_k S1 (no _ (by intro z; cases z))) (W.answers_k S1 (no _ (by intro z; cases z))) (W.acts_k S1 (no _ (by intro z; cases z))) (W.asked_k S1 (no _ (by intro z; cases z)))
      · rw [upd_same, List.map_append]
        rfl
      · rw [List.map_append, List.map_append]
        exact ImAll.append (ImAll.keep tk _ _ h2) (ImAll.one (Im.keep tk _ _ hv))
      · exact W.extra_k S1 (no _ (by intro z; cases z)) h3
section
variable {O : Own} {H : Hp} {L : WL} {m : Wd} {rs : List Dd} {i : Nat} {p : Addr} {h : Hd} {M : HL} {Q : VK} {E : XK}
theorem role_w (B : At .law H O L m rs i p h M) (ro : Role) (k : ∀ O1 H1 M1, At .law H1 O1 L m rs i p (h.to ro) M1 → Stp (dH i) O H O1 H1 → Q .non H1) : spRole [.ref p, .str ro.str] H Q E := by
  unfold spRole
  exact ⟨O, i, p, h, ro, rfl, ⟨M, B.h⟩, B.al, fun O1 H1 ⟨M1, hq⟩ s => k O1 H1 M1 (B.mov (D := dH i) s hq) s⟩
theorem has_w {r : Str} (W : WorldIn .law H O L m rs) (k : Q (.bl (m.pr.has r)) H) : spHas [.ref L.w, .str r] H Q E := by
  unfold spHas
  exact ⟨O, L, _, rs, r, rfl, W, k⟩
theorem pair_w (B : HandIn .law H O i p h M) (k : ∀ T H1, Same H H1 → H1 T = some (.tup [nv h.pair.1, nv h.pair.2]) → Q (.ref T) H1) : spPair [.ref p] H Q E := by
  unfold spPair
  exact ⟨O, i, p, h, rfl, ⟨M, B⟩, fun T H1 s _ e => k T H1 s e⟩
theorem post_w (W : WorldIn .law H O L m rs) {l : Lt} {v : V} (hv : Im H l.data v) (hb : m.lts.length < big) (k : ∀ H1, WorldIn .law H1 O L (m.post l) rs → Stp (fun c => c = .lts) O H O H1 → Q .non H1) : spPost [.ref L.w, v] H Q E := by
  unfold spPost
  exact ⟨O, L, m, rs, l, v, rfl, W, hv, hb, k⟩
end
end
end Sr

set_option Elab.async false
set_option linter.all false
set_option maxRecDepth 100000
set_option maxHeartbeats 4000000
namespace Sr
open PySem PySem.Spec PyProof.Rows L2
local macro_rules | `(tactic| walk_at "hp") => `(tactic| (unfold upd at *; grind))
section
variable {P : Program} {w : World} {base : Heap} {K : PySem.W.Frag} {mg : Str → Option Value}
/-! a hand becomes sure -/
@[irreducible] def spAct : Sp := fun vs H Q _ => ∃ O L m rs i p c, vs = [.ref (WL.w L), .ref p, nv i, nv c] ∧ WorldIn .law H O L m rs ∧ L.ps[i]? = some p ∧ m.acts.length < big ∧ ∀ H', WorldIn .law H' O L (m.act i c) rs → Stp dA O H O H' → Q .non H'
theorem sc_l_act : FnScope ["_law_world_here", "_law_hand_here", "_law_number_here", "_law_count"] ["_law_world_here", "_law_hand_here", "_law_number_here", "_law_count"] (defScope s_l_act) := ⟨rfl, rfl, rfl, by decide +kernel, rfl, by decide +kernel, by decide +kernel⟩
theorem ok_l_act (T : Tx w K mg) : FnI P w K mg base "_law_act" (0 + 1) ["_law_world_here", "_law_hand_here", "_law_number_here", "_law_count"] spAct := by
  refine FnI.mk' T.f_l_act T.g_l_act sc_l_act (fun _ _ _ _ _ _ us hl => match us, hl with | [_, _, _, _], _ => rfl) (fun vs H Q E h => ?_) (fun cdv A outer s H vs Q E hr h => ?_)
  all_goals unfold spAct at h
  · obtain ⟨_, _, _, _, _, _, _, rfl, _⟩ := h
    rfl
  · obtain ⟨O, L, m, rs, i, p, c, rfl, W, hp, hb, fin⟩ := h
    have hu := hu_of hr
    refine ⟨_, (pss_one (ps_if (pt_cmpR op_gt (pv 3) (pe_dget hu (pv 1) pe_str (fun _ _ => rfl)) (nomark _)) (pss_cons (ps_dput hu (pv 1) pe_str (pv 3) rfl)
      (pss_one (ps_expr (pe_bm PySem.F.plainAttrs_list PySem.F.slot_list_append PySem.F.type_list_append mt_append (pe_dget hu (pv 0) pe_str (fun _ _ => rfl)) (pa_cons (pe_tup (pa_cons (pv 2) (pa_cons (pe_slice (slT K) (pe_dget hu (pv 1) pe_str (fun _ _ => rfl)) po_none (po_some (pv 3))) pa_nil))) pa_nil))))) pss_nil)), ?_⟩
    obtain ⟨M, HW⟩ := W.hd i p hp
    have ob : H p = some (.dK (rh (m.hd i) M).kvs) := HW.ob
    obtain ⟨xs, hx, hlog⟩ := im_logr.mp HW.log
    refine ⟨_, rfl, _, rfl, p, _, rfl, dg_sure ob, _, _, rfl, rfl, _, rfl, ?_⟩
    by_cases e : (m.hd i).sure < c
    · have e' : ((m.hd i).sure : Int) < (c : Int) := by omega
      rw [decide_eq_true e']
      refine iteT ?_
      obtain ⟨HW2, S1⟩ := HW.putLaw W.al { m.hd i with sure := c } M.l HW.log
      have W2 := W.hand hp S1 ⟨_, HW2⟩
      have ob2 : (upd H p (.dK (rh { m.hd i with sure := c } M).kvs)) L.w = some (.dK (lawKvs L)) := W2.ob
      obtain ⟨vs, h1, h2⟩ := W2.acts
      obtain ⟨xs2, hx2, hl2⟩ := im_logr.mp HW2.log
      refine ⟨_, rfl, _, rfl, p, _, rfl, dp_sure (nv c) ob, ?_⟩
      refine ⟨_, rfl, L.w, _, rfl, dw_acts ob2, .inl ⟨rfl, _, SqL.of h1⟩, _, rfl, _, rfl, p, _, rfl, dg_log (r := rh { m.hd i with sure := c } M) upd_same, _, rfl, _, rfl, ?_⟩
      refine slice_to c hx2 hl2 fun q H2 s2 him => ?_
      refine ⟨by show 2 ≤ sizeLine; decide, fun T hT => ?_⟩
      have s3 := s2.trans (same_new (o := .tup [nv i, .ref q]) hT)
      have W3 := W2.same s3
      have hlen : vs.length < sizeLine := by
        have := h2.length
        rw [List.length_map] at this
        rw [this]
        exact big_line hb
      refine ⟨_, _, _, rfl, rfl, s3 _ _ h1, hlen, ?_⟩
      obtain ⟨W4, S4⟩ := W3.app_acts (x := (i, (m.hd i).log.take c)) (s3 _ _ h1) (ImAll.keep (same_tk s3) _ _ h2) (v := .ref T) (im_t2.mpr ⟨T, _, _, rfl, upd_same, im_nat.mpr rfl, Im.keep (same_tk (same_new hT)) _ _ him⟩)
      have em : m.act i c = { m.set i { m.hd i with sure := c } with acts := m.acts ++ [(i, (m.hd i).log.take c)] } := by unfold Wd.act; rw [if_pos e]
      rw [em] at fin
      exact fin _ W4 (S1.all.trans ((Stp.same S1.al s3).trans S4.all))
    · have e' : ¬ ((m.hd i).sure : Int) < (c : Int) := by omega
      rw [decide_eq_false e']
      refine iteF ?_
      have em : m.act i c = m := by unfold Wd.act; rw [if_neg e]
      rw [em] at fin
      exact fin H W (Stp.refl W.al)
theorem imAll_nil {H : Hp} : LogAt H [] [] := ImAll.nil'
def crash1 (p : Pr) (h : Hd) : Hd := if p.has "votes" then { h.to .rests with sure := 0 } else { h.to .rests with sure := 0, term := 0, vote := none }
theorem crash_eq (p : Pr) (h : Hd) : Hd.crash p h = if p.has "rows" then crash1 p h else { crash1 p h with log := [] } := by
  unfold Hd.crash crash1
  cases p.has "votes" <;> rfl
@[irreducible] def spCrash : Sp := fun vs H Q _ => ∃ O L m rs i p, vs = [.ref (WL.w L), .ref p] ∧ WorldIn .law H O L m rs ∧ L.ps[i]? = some p ∧ ∀ O' H', WorldIn .law H' O' L (m.set i ((m.hd i).crash m.pr)) rs → Stp dA O H O' H' → Q .non H'
theorem sc_l_crash : FnScope ["_law_world_here", "_law_hand_here"] ["_law_world_here", "_law_hand_here"] (defScope s_l_crash) := ⟨rfl, rfl, rfl, by decide +kernel, rfl, by decide +kernel, by decide +kernel⟩
theorem ok_l_crash (T : Tx w K mg) : FnI P w K mg base "_law_crash" (2 + 1) ["_law_world_here", "_law_hand_here"] spCrash := by
  refine FnI.mk' T.f_l_crash T.g_l_crash sc_l_crash (fun _ _ _ _ _ _ us hl => match us, hl with | [_, _], _ => rfl) (fun vs H Q E h => ?_) (fun cdv A outer s H vs Q E hr h => ?_)
  all_goals unfold spCrash at h
  · obtain ⟨_, _, _, _, _, _, rfl, _⟩ := h
    rfl
  · obtain ⟨O, L, m, rs, i, p, rfl, W, hp, fin⟩ := h
    have hu := hu_of hr
    refine ⟨_, (pss_cons (ps_expr (pe_callI (ok_l_role T) hr (pa_cons (pv 1) (pa_cons pe_str pa_nil))))
      (pss_cons (ps_dput hu (pv 1) pe_str pe_int rfl)
      (pss_cons (ps_if (pt_not (pt_val (pe_callI (ok_l_has T) hr (pa_cons (pv 0) (pa_cons pe_str pa_nil))))) (pss_one (ps_asg (pe_tup (pa_cons pe_int (pa_cons pe_non pa_nil))) (pg_tup rfl (pgs_cons (pg_sub (pv 1) pe_str (set_dict hu)) (pgs_cons (pg_sub (pv 1) pe_str (set_dict hu)) pgs_nil))))) pss_nil)
      (pss_one (ps_if (pt_not (pt_val (pe_callI (ok_l_has T) hr (pa_cons (pv 0) (pa_cons pe_str pa_nil))))) (pss_one (ps_dput hu (pv 1) pe_str (pe_tup pa_nil) rfl)) pss_nil))))), ?_⟩
    obtain ⟨M, B⟩ := W.at_ hp
    generalize m.hd i = h at B fin
    refine ⟨_, rfl, role_w B .rests fun O1 H1 M1 B1 S1 => ?_⟩
    obtain ⟨B2, S2⟩ := B1.putLaw { h.to .rests with sure := 0 } M1.l B1.h.log
    refine ⟨_, rfl, p, _, rfl, dp_sure (.int 0) B1.obL, ?_⟩
    dsimp only
    refine seq_have (fun σ2 H2 => σ2 = [some (.ref L.w), some (.ref p)] ∧ ∃ M2, At .law H2 O1 L m rs i p (crash1 m.pr h) M2 ∧ Stp dA O H O1 H2) ?_ (fun key => ?_)
    · rintro _ H2 ⟨rfl, M2, B2, S2⟩
      refine ⟨_, rfl, has_w B2.w ⟨_, rfl, iteN (fun e => ?_) (fun e => ?_)⟩⟩
      · refine ⟨Nat.zero_le _, fun q hq => ?_⟩
        have B3 := B2.same (same_new (o := .tup []) hq)
        obtain ⟨B4, S4⟩ := B3.putLaw { (crash1 m.pr h) with log := [] } q (im_logr.mpr ⟨[], upd_same, imAll_nil⟩) (by rfl) (by rfl) (by rfl)
        refine ⟨_, rfl, p, _, rfl, dp_log _ B3.obL, ?_⟩
        refine fin O1 _ ?_ ((S2.trans (Stp.new B2.al hq)).trans S4.all)
        have e' : m.pr.has "rows" = false := e
        rw [crash_eq, e']
        exact B4.w
      · refine fin O1 _ ?_ S2
        have e' : m.pr.has "rows" = true := e
        rw [crash_eq, e']
        exact B2.w
    · refine ⟨_, rfl, has_w B2.w ⟨_, rfl, iteN (fun e => ?_) (fun e => ?_)⟩⟩
      · refine ⟨by show 2 ≤ sizeLine; decide, fun T hT => ?_⟩
        have B3 := B2.same (same_new (o := .tup [.int 0, .non]) hT)
        obtain ⟨B4, S4⟩ := B3.putLaw { h.to .rests with sure := 0, term := 0, vote := none } M1.l B3.h.log
        refine ⟨T, _, rfl, SqT.of upd_same, rfl, _, _, rfl, _, rfl, p, _, rfl, dp_term _ B3.obL, _, _, rfl, _, rfl, p, _, rfl, dp_vote _ upd_same, rfl, ?_⟩
        rw [upd_upd]
        refine key _ _ ⟨rfl, { M1 with l := M1.l }, ?_, ((S1.trans (S2.trans (Stp.new B2.al hT))).trans S4).all⟩
        have e' : crash1 m.pr h = _ := if_neg (by rw [show m.pr.has "votes" = false from e]; decide)
        rw [e']
        exact B4
      · refine key _ _ ⟨rfl, { M1 with l := M1.l }, ?_, (S1.trans S2).all⟩
        have e' : crash1 m.pr h = _ := if_pos e
        rw [e']
        exact B2
theorem knowns {kn0 : List (Nat × Nat)} {c i : Nat} {q : Nat × Nat} (h : kn0[i]? = some q) : (kn0.take (i + 1)).filter (fun q => decide (c ≤ q.2)) = (kn0.take i).filter (fun q => decide (c ≤ q.2)) ++ (if c ≤ q.2 then [q] else []) := by
  rw [List.take_add_one, h, List.filter_append]
  by_cases e : c ≤ q.2 <;> simp [e]
@[irreducible] def spSettles : Sp := fun vs H Q _ => ∃ O L m rs i p c, vs = [.ref (WL.w L), .ref p, nv c] ∧ WorldIn .law H O L m rs ∧ L.ps[i]? = some p ∧ (m.hd i).known.length < big ∧ ∀ H', Same H H' → Q (.bl (canSettle m.pr (m.hd i) c)) H'
theorem sc_l_settles : FnScope ["_law_world_here", "_law_hand_here", "_law_count", "_law_known", "_law_one"] ["_law_world_here", "_law_hand_here", "_law_count"] (defScope s_l_settles) := ⟨rfl, rfl, rfl, by decide +kernel, rfl, by decide +kernel, by decide +kernel⟩
theorem ok_l_settles (T : Tx w K mg) : FnI P w K mg base "_law_settles" (2 + 1) ["_law_world_here", "_law_hand_here", "_law_count"] spSettles := by
  refine FnI.mk' T.f_l_settles T.g_l_settles sc_l_settles (fun _ _ _ _ _ _ us hl => match us, hl with | [_, _, _], _ => rfl) (fun vs H Q E h => ?_) (fun cdv A outer s H vs Q E hr h => ?_)
  all_goals unfold spSettles at h
  · obtain ⟨_, _, _, _, _, _, _, rfl, _⟩ := h
    rfl
  · obtain ⟨O, L, m, rs, i, p, c, rfl, W, hp, hb, fin⟩ := h
    have hu := hu_of hr
    refine ⟨_, (pss_cons (ps_if (pt_not (pt_chain op_lt op_le (pe_dget hu (pv 1) pe_str (fun _ _ => rfl)) (pv 2) (pe_callB (id := "len") (lenK K) (by rfl) T.n_len (by decide +kernel) (pa_cons (pe_dget hu (pv 1) pe_str (fun _ _ => rfl)) pa_nil)))) (pss_one (ps_ret pe_bl)) pss_nil)
      (pss_cons (ps_lock (ps_setLc (i := 3) (own := [("_law_one", 4)]) (g := gName 4) rfl sc_l_settles.nd rfl rfl (sw_true rfl rfl rfl (by decide +kernel)) (pi_values (pe_dget hu (pv 1) pe_str (fun _ _ => rfl))) (blkOk_by (own := [("_law_one", 4)]) (N := ["_law_world_here", "_law_hand_here", "_law_count", "_law_known", "_law_one"]) (sc := defScope s_l_settles) (by decide +kernel)) (fun _ _ _ _ _ => (pg_name (i := 4) sc_l_settles.nd rfl (Or.inl rfl))) (fun _ _ _ _ _ => (pts_one (pt_cmpR op_ge (pv 4) (pv 2) (nomark _)))) (fun _ _ _ _ _ => (pv 4))))
      (pss_cons (ps_if (pt_cmpR op_lt (pe_op op_add pe_int (pe_callB (id := "len") (lenK K) (by rfl) T.n_len (by decide +kernel) (pa_cons (pv 3) pa_nil))) (pe_ix (ixT K) (pe_dget hu (pv 0) pe_str (fun _ _ => rfl)) pe_int (fun _ _ => rfl)) (nomark _)) (pss_one (ps_ret pe_bl)) pss_nil)
      (pss_one (ps_ret (pe_or (pe_not (pe_callI (ok_l_has T) hr (pa_cons (pv 0) (pa_cons pe_str pa_nil)))) (pe_one (pe_cmpR op_eq (pe_ix (ixT K) (pe_ix (ixT K) (pe_dget hu (pv 1) pe_str (fun _ _ => rfl)) (pe_op op_sub (pv 2) pe_int) (fun _ _ => rfl)) pe_int (fun _ _ => rfl)) (pe_dget hu (pv 1) pe_str (fun _ _ => rfl)) (nomark _))))))))), ?_⟩
    obtain ⟨M, B⟩ := W.at_ hp
    generalize m.hd i = h at B fin hb
    obtain ⟨xs, hx, hlog⟩ := im_logr.mp B.h.log
    have no : ∀ {b : Bool}, b = false → canSettle m.pr h c = b → Q (.bl false) H := fun e q => by
      have := fin H (Same.refl H)
      rw [q, e] at this
      exact this
    refine ⟨_, rfl, p, _, rfl, dg_told B.obL, _, rfl, _, _, rfl, rfl, _, rfl, iteD (fun e1 => ?_) (fun e1 => ?_)⟩
    rotate_left
    · refine ⟨_, rfl, iteT ?_⟩
      exact no rfl (by simp [canSettle, show ¬ h.told < c by omega])
    refine ⟨_, rfl, p, _, rfl, dg_log B.obL, _, xs, rfl, .inr (SqT.of hx), _, _, rfl, rfl, _, rfl, iteND (fun e2 => ?_) (fun e2 => ?_)⟩
    · rw [hlog.length] at e2
      exact no rfl (by simp [canSettle, show ¬ c ≤ h.log.length by omega])
    rw [hlog.length] at e2
    have f1 : h.told < c := by omega
    have f2 : c ≤ h.log.length := by omega
    refine ⟨M.k, _, B.h.kn, trivial, fun od => ?_⟩
    have npk : p ≠ M.k := own_ne B.h.op B.h.ok (by intro z; cases z)
    have ob1 : (upd H M.k (.frz od (.dK (h.known.map kn)))) p = some (.dK (rh h M).kvs) := by rw [upd_ne npk]; exact B.obL
    refine ⟨_, rfl, p, _, rfl, dg_known ob1, M.k, _, _, rfl, upd_same, fun D hD => ?_⟩
    have nD := (lock_free B.h.kn hD).2
    refine lc_it walk_values (fun j H2 => H2 = upd (upd H M.k (.frz od (.dK (h.known.map kn)))) D (.lst (((h.known.take j).filter (fun q => decide (c ≤ q.2))).map fun q => nv q.2))) ?_ ?_ ?_ ?_
    · rfl
    · rintro j _ _ rfl
      rw [upd_ne nD.symm, upd_same]
    · rintro j x _ _ hj rfl ⟨rfl, k, ek⟩
      rw [List.getElem?_map] at ek
      cases eq : h.known[j]? with
      | none => rw [eq] at ek; cases ek
      | some q =>
        rw [eq] at ek
        cases ek
        have kq := knowns (c := c) eq
        refine ⟨rfl, _, rfl, _, rfl, _, _, rfl, rfl, _, rfl, iteD (fun e3 => ?_) (fun e3 => ?_)⟩
        · refine ⟨_, rfl, _, upd_same, ?_, ?_⟩
          · rw [List.length_map]
            refine Nat.lt_of_le_of_lt (Nat.le_trans (List.length_filter_le _ _) ?_) (big_line hb)
            rw [List.length_take]
            exact Nat.min_le_right _ _
          · rw [upd_upd, kq, if_pos (by omega), List.map_append]
            rfl
        · rw [kq, if_neg (by omega), List.append_nil]
    rintro _ rfl
    obtain ⟨sm, hl⟩ := lock_same (o := .lst (((h.known.take (h.known.map kn).length).filter (fun q => decide (c ≤ q.2))).map fun q => nv q.2)) (f := .frz od (.dK (h.known.map kn))) B.h.kn hD
    refine ⟨by rw [upd_ne nD.symm, upd_same], ?_⟩
    generalize upd (upd (upd H M.k (.frz od (.dK (h.known.map kn)))) D (.lst (((h.known.take (h.known.map kn).length).filter (fun q => decide (c ≤ q.2))).map fun q => nv q.2))) M.k (.dK (h.known.map kn)) = H2 at sm hl
    have B2 := B.same sm
    obtain ⟨pa, pq, e, h1, h2⟩ := im_pr.mp B2.pr
    have ll : (((h.known.take (h.known.map kn).length).filter (fun q => decide (c ≤ q.2))).map fun q => nv q.2).length = h.known_ge c := by
      rw [List.length_map, List.length_map, List.take_length]
      rfl
    refine ⟨_, rfl, _, _, rfl, .inl (SqL.of hl), _, _, rfl, rfl, _, rfl, L.w, _, rfl, dw_protocol B2.wobL, _, _, 2, _, e, rfl, SqT.of h1, rfl, _, _, rfl, rfl, _, rfl, iteD (fun e3 => ?_) (fun e3 => ?_)⟩
    · rw [ll] at e3
      have := fin H2 sm
      rw [show canSettle m.pr h c = false by simp [canSettle, show ¬ m.pr.settlers ≤ 1 + h.known_ge c by omega]] at this
      exact this
    rw [ll] at e3
    refine ⟨_, rfl, has_w B2.w ⟨_, rfl, ?_⟩⟩
    have f3 : m.pr.settlers ≤ 1 + h.known_ge c := by omega
    refine ⟨_, rfl, iteN (fun e4 => ?_) (fun e4 => ?_)⟩
    · have e4 : m.pr.has "own" = false := e4
      have := fin H2 sm
      rw [show canSettle m.pr h c = true by simp [canSettle, f1, f2, f3, e4]] at this
      exact this
    · have e4 : m.pr.has "own" = true := e4
      obtain ⟨r, hr1, hr2⟩ := (hlog.keep (same_tk sm)).get (i := c - 1) (by omega)
      refine ⟨_, rfl, p, _, rfl, dg_log B2.obL, _, rfl, _, _, rfl, rfl, _, xs, _, _, rfl, rfl, SqT.of (sm _ _ hx), atI_pred (by omega) hr1, r, _, 0, _, rfl, rfl, SqT.of hr2, rfl, _, rfl, p, _, rfl, dg_term B2.obL, rfl, ?_⟩
      have := fin H2 sm
      rw [show canSettle m.pr h c = decide ((h.log.getD (c - 1) (0, 0)).1 = h.term) by simp [canSettle, f1, f2, f3, e4]] at this
      rw [← dec_nv] at this
      exact this
end
end Sr

set_option Elab.async false
set_option linter.all false
set_option maxRecDepth 100000
set_option maxHeartbeats 4000000
namespace Sr
open PySem PySem.Spec PyProof.Rows L2
local macro_rules | `(tactic| walk_at "hp") => `(tactic| (unfold upd at *; grind))
section
variable {P : Program} {w : World} {base : Heap} {K : PySem.W.Frag} {mg : Str → Option Value}
def LookOk (p : Pr) : Prop := p.look = "none" ∨ p.look = "count" ∨ p.look = "term" ∨ p.look = "both"
theorem dec_ieq {a b : Nat} : decide ((a : Int) = (b : Int)) = decide (a = b) := by
  by_cases e : a = b
  · rw [decide_eq_true e, decide_eq_true (by omega)]
  · rw [decide_eq_false e, decide_eq_false (by omega)]
theorem lets_none (p q : Nat × Nat) : lets "none" p q = true := by
  unfold lets; rw [if_neg (by decide +kernel), if_neg (by decide +kernel), if_pos rfl]
theorem lets_count (p q : Nat × Nat) : lets "count" p q = decide (q.2 ≤ p.2) := by
  unfold lets; rw [if_pos rfl]
theorem lets_term (p q : Nat × Nat) : lets "term" p q = decide (q.1 ≤ p.1) := by
  unfold lets; rw [if_neg (by decide +kernel), if_pos rfl]
theorem lets_both (p q : Nat × Nat) : lets "both" p q = (decide (q.1 < p.1) || (decide (q.1 = p.1) && decide (q.2 ≤ p.2))) := by
  unfold lets; rw [if_neg (by decide +kernel), if_neg (by decide +kernel), if_neg (by decide +kernel)]
@[irreducible] def spLets : Sp := fun vs H Q _ => ∃ O L m rs i p a b t, vs = [.ref (WL.w L), .ref p, .ref t] ∧ WorldIn .law H O L m rs ∧ LookOk m.pr ∧ L.ps[i]? = some p ∧ H t = some (.tup [nv a, nv b]) ∧ ∀ H', Same H H' → Q (.bl (lets m.pr.look (a, b) (m.hd i).pair)) H'
theorem sc_l_lets : FnScope ["_law_world_here", "_law_hand_here", "_law_pair_here", "_law_look", "_law_own"] ["_law_world_here", "_law_hand_here", "_law_pair_here"] (defScope s_l_lets) := ⟨rfl, rfl, rfl, by decide +kernel, rfl, by decide +kernel, by decide +kernel⟩
theorem ok_l_lets (T : Tx w K mg) : FnI P w K mg base "_law_lets" (2 + 1) ["_law_world_here", "_law_hand_here", "_law_pair_here"] spLets := by
  refine FnI.mk' T.f_l_lets T.g_l_lets sc_l_lets (fun _ _ _ _ _ _ us hl => match us, hl with | [_, _, _], _ => rfl) (fun vs H Q E h => ?_) (fun cdv A outer s H vs Q E hr h => ?_)
  all_goals unfold spLets at h
  · obtain ⟨_, _, _, _, _, _, _, _, _, rfl, _⟩ := h
    rfl
  · obtain ⟨O, L, m, rs, i, p, a, b, t, rfl, W, hlook, hp, ht, fin⟩ := h
    have hu := hu_of hr
    have hu0 := Nat.lt_of_succ_lt hu
    refine ⟨_, (pss_cons (ps_par (i := 3) (j := 4) rfl sc_l_lets.nd rfl rfl (by decide) rfl rfl (pa_cons (pe_ix (ixT K) (pe_dget hu (pv 0) pe_str (fun _ _ => rfl)) pe_int (fun _ _ => rfl)) (pa_cons (pe_callI (ok_l_pair T) hr (pa_cons (pv 1) pa_nil)) pa_nil)) rfl)
      (pss_one (ps_ret (pe_dget hu (pe_disp (pps_cons pe_str pe_bl (pps_cons pe_str (pe_cmpR op_ge (pe_ix (ixT K) (pv 2) pe_int (fun _ _ => rfl)) (pe_ix (ixT K) (pv 4) pe_int (fun _ _ => rfl)) (nomark _)) (pps_cons pe_str (pe_cmpR op_ge (pe_ix (ixT K) (pv 2) pe_int (fun _ _ => rfl)) (pe_ix (ixT K) (pv 4) pe_int (fun _ _ => rfl)) (nomark _)) (pps_cons pe_str (pe_cmpR (op_geT hu0) (pv 2) (pv 4) (nomark _)) pps_nil)))) (by rfl) (by rfl) (fun z => by cases z) (by decide)) (pv 3) (fun _ _ => rfl))))), ?_⟩
    obtain ⟨M, B⟩ := W.at_ hp
    generalize m.hd i = h at B fin
    obtain ⟨pa, pq, e, h1, h2⟩ := im_pr.mp B.pr
    refine ⟨_, rfl, L.w, _, rfl, dw_protocol B.wobL, _, _, 4, _, e, rfl, SqT.of h1, rfl, _, rfl, pair_w B.h fun T H1 s1 hT => ⟨_, _, rfl, fun dp hdp => ?_⟩⟩
    have ht1 : (upd H1 dp (.dK [])) t = some (.tup [nv a, nv b]) := by rw [upd_ne (ne_of_none (s1 _ _ ht) hdp)]; exact s1 _ _ ht
    have hT1 : (upd H1 dp (.dK [])) T = some (.tup [nv h.pair.1, nv h.pair.2]) := by rw [upd_ne (ne_of_none hT hdp)]; exact hT
    refine ⟨_, rfl, t, _, 1, _, rfl, rfl, SqT.of ht1, rfl, _, rfl, T, _, 1, _, rfl, rfl, SqT.of hT1, rfl, _, _, rfl, rfl, ?_⟩
    refine ⟨_, rfl, t, _, 0, _, rfl, rfl, SqT.of ht1, rfl, _, rfl, T, _, 0, _, rfl, rfl, SqT.of hT1, rfl, _, _, rfl, rfl, ?_⟩
    refine ⟨_, rfl, _, rfl, t, T, _, _, _, _, rfl, rfl, SqT.of ht1, SqT.of hT1, upd_same, [(.inr "none", .bl true), (.inr "count", _), (.inr "term", _), (.inr "both", _)], rfl, by show 4 ≤ 15; decide, _, rfl, dp, ?_⟩
    rw [upd_upd]
    have sm := s1.trans (same_new (o := .dK (mergeK [] [(.inr "none", .bl true), (.inr "count", .bl (decide ((h.pair.2 : Int) ≤ b))), (.inr "term", .bl (decide ((h.pair.1 : Int) ≤ a))), (.inr "both", .bl (decide ((h.pair.1 : Int) < a) || (decide ((h.pair.1 : Int) = a) && decide ((h.pair.2 : Int) ≤ b))))])) hdp)
    have fin := fin _ sm
    rw [show m.pr.look = m.pr.look from rfl] at *
    rcases hlook with el | el | el | el <;> rw [el] at fin
    · rw [lets_none] at fin
      refine ⟨.bl true, rfl, ?_, fin⟩
      show DGet _ dp (.str m.pr.look) _
      rw [el]
      exact DGet.k (k := .inr "none") upd_same
    · rw [lets_count] at fin
      refine ⟨_, rfl, ?_, fin⟩
      show DGet _ dp (.str m.pr.look) _
      rw [el, ← dec_int]
      exact DGet.k (k := .inr "count") upd_same
    · rw [lets_term] at fin
      refine ⟨_, rfl, ?_, fin⟩
      show DGet _ dp (.str m.pr.look) _
      rw [el, ← dec_int]
      exact DGet.k (k := .inr "term") upd_same
    · rw [lets_both] at fin
      refine ⟨_, rfl, ?_, fin⟩
      show DGet _ dp (.str m.pr.look) _
      rw [el, ← dec_int, ← dec_lt, ← dec_ieq]
      exact DGet.k (k := .inr "both") upd_same
section
variable {O : Own} {H : Hp} {L : WL} {m : Wd} {rs : List Dd} {i : Nat} {p : Addr} {Q : VK} {E : XK}
theorem act_w {c : Nat} (W : WorldIn .law H O L m rs) (hp : L.ps[i]? = some p) (hb : m.acts.length < big) (k : ∀ H1, WorldIn .law H1 O L (m.act i c) rs → Stp dA O H O H1 → Q .non H1) : spAct [.ref L.w, .ref p, nv i, nv c] H Q E := by
  unfold spAct
  exact ⟨O, L, m, rs, i, p, c, rfl, W, hp, hb, k⟩
end
theorem atI_sub {α : Type} {ys : List α} {a j : Nat} {v : α} (h : ys[j]? = some v) : atI ys (((a + j : Nat) : Int) - (a : Int)) = some v := by
  have e : ((a + j : Nat) : Int) - (a : Int) = (j : Int) := by omega
  rw [e]
  exact atI_nat h
def tkS (L : WL) (p : Addr) (i : Nat) (pv : Addr) (t s at_ ah : Nat) (q : Addr) (told : Nat) (l : Addr) (x y : Option V) : L2.St :=
  [some (.ref L.w), some (.ref p), some (nv i), some (.ref pv), some (.str "rows"), some (nv t), some (nv s), some (nv at_), some (nv ah), some (.ref q), some (nv told), some (.ref l), x, y]
@[irreducible] def spTake : Sp := fun vs H Q _ => ∃ O L m rs i p t s at_ ah rws told v, vs = [.ref (WL.w L), .ref p, nv i, v] ∧ WorldIn .law H O L m rs ∧ L.ps[i]? = some p ∧ Im H (Lt.rows t s at_ ah rws told).data v ∧ m.lts.length < big ∧ m.acts.length < big ∧ at_ + rws.length < big ∧ 
  ∀ O' H', WorldIn .law H' O' L (m.take i t s at_ ah rws told) rs → Stp dA O H O' H' → Q .non H'
theorem sc_l_take : FnScope ["_law_world_here", "_law_hand_here", "_law_number_here", "_law_letter", "_law_word", "_law_term", "_law_sender", "_law_at", "_law_ahead", "_law_rows", "_law_told", "_law_log", "_law_place", "_law_end"] ["_law_world_here", "_law_hand_here", "_law_number_here", "_law_letter"] (defScope s_l_take) := ⟨rfl, rfl, rfl, by decide +kernel, rfl, by decide +kernel, by decide +kernel⟩
theorem ok_l_take (T : Tx w K mg) : FnI P w K mg base "_law_take" (3 + 1) ["_law_world_here", "_law_hand_here", "_law_number_here", "_law_letter"] spTake := by
  refine FnI.mk' T.f_l_take T.g_l_take sc_l_take (fun _ _ _ _ _ _ us hl => match us, hl with | [_, _, _, _], _ => rfl) (fun vs H Q E h => ?_) (fun cdv A outer s H vs Q E hr h => ?_)
  all_goals unfold spTake at h
  · obtain ⟨_, _, _, _, _, _, _, _, _, _, _, _, _, rfl, _⟩ := h
    rfl
  · obtain ⟨O, L, m, rs, i, p, t, s, at_, ah, rws, told, v, rfl, W, hp, hv, hb1, hb2, hb3, fin⟩ := h
    have hu := hu_of hr
    refine ⟨_, (pss_cons (ps_asg (pv 3) (pg_tup rfl (pgs_cons (pg_name (i := 4) sc_l_take.nd rfl (.inl rfl)) (pgs_cons (pg_name (i := 5) sc_l_take.nd rfl (.inl rfl)) (pgs_cons (pg_name (i := 6) sc_l_take.nd rfl (.inl rfl)) (pgs_cons (pg_name (i := 7) sc_l_take.nd rfl (.inl rfl)) (pgs_cons (pg_name (i := 8) sc_l_take.nd rfl (.inl rfl)) (pgs_cons (pg_name (i := 9) sc_l_take.nd rfl (.inl rfl)) (pgs_cons (pg_name (i := 10) sc_l_take.nd rfl (.inl rfl)) pgs_nil)))))))))
      (pss_cons (ps_expr (pe_callI (ok_l_role T) hr (pa_cons (pv 1) (pa_cons pe_str pa_nil))))
      (pss_cons (ps_set (i := 11) sc_l_take.nd rfl (.inl rfl) (pe_dget hu (pv 1) pe_str (fun _ _ => rfl)))
      (pss_cons (ps_if (pw_or (pt_cmpR op_gt (pv 7) (pe_callB (id := "len") (lenK K) (by rfl) T.n_len (by decide +kernel) (pa_cons (pv 11) pa_nil)) (nomark _)) (pw_or1 (pw_and (pt_val (pe_callI (ok_l_has T) hr (pa_cons (pv 0) (pa_cons pe_str pa_nil)))) (pw_and (pt_cmpR op_gt (pv 7) pe_int (nomark _)) (pw_and1 (pt_cmpR op_ne (pe_ix (ixT K) (pe_ix (ixT K) (pv 11) (pe_op op_sub (pv 7) pe_int) (fun _ _ => rfl)) pe_int (fun _ _ => rfl)) (pv 8) (nomark _))))).pt)).pt (pss_one (ps_ret pe_non)) pss_nil)
      (pss_cons (ps_par (i := 12) (j := 13) rfl sc_l_take.nd rfl rfl (by decide) rfl rfl (pa_cons (pv 7) (pa_cons (pe_op op_add (pv 7) (pe_callB (id := "len") (lenK K) (by rfl) T.n_len (by decide +kernel) (pa_cons (pv 9) pa_nil))) pa_nil)) rfl)
      (pss_cons (ps_if (pt_val (pe_callI (ok_l_has T) hr (pa_cons (pv 0) (pa_cons pe_str pa_nil)))) (pss_one (ps_while PassesOwn.never (pw_and (pt_cmpR op_lt (pv 12) (pv 13) (nomark _)) (pw_and (pt_cmpR op_lt (pv 12) (pe_callB (id := "len") (lenK K) (by rfl) T.n_len (by decide +kernel) (pa_cons (pv 11) pa_nil)) (nomark _)) (pw_and1 (pt_cmpR op_eq (pe_ix (ixT K) (pe_ix (ixT K) (pv 11) (pv 12) (fun _ _ => rfl)) pe_int (fun _ _ => rfl)) (pe_ix (ixT K) (pe_ix (ixT K) (pv 9) (pe_op op_sub (pv 12) (pv 7)) (fun _ _ => rfl)) pe_int (fun _ _ => rfl)) (nomark _))))).pt (pss_one (ps_set (i := 12) sc_l_take.nd rfl (.inl rfl) (pe_op op_add (pv 12) pe_int))))) pss_nil)
      (pss_cons (ps_if (pw_or (pt_not (pt_val (pe_callI (ok_l_has T) hr (pa_cons (pv 0) (pa_cons pe_str pa_nil))))) (pw_or1 (pt_cmpR op_lt (pv 12) (pv 13) (nomark _)))).pt (pss_one (ps_dput hu (pv 1) pe_str (pe_op op_catA (pe_slice (slT K) (pv 11) po_none (po_some (pv 12))) (pe_slice (slT K) (pv 9) (po_some (pe_op op_sub (pv 12) (pv 7))) po_none)) rfl)) pss_nil)
      (pss_cons (ps_expr (pe_callI (ok_l_post T) hr (pa_cons (pv 0) (pa_cons (pe_tup (pa_cons pe_str (pa_cons (pv 5) (pa_cons (pv 2) (pa_cons (pv 6) (pa_cons (pv 13) pa_nil)))))) pa_nil))))
      (pss_cons (ps_expr (pe_callI (ok_l_act T) hr (pa_cons (pv 0) (pa_cons (pv 1) (pa_cons (pv 2) (pa_cons (pe_callB (id := "min") (cr_min rfl) (by rfl) T.n_min (by decide +kernel) (pa_cons (pe_lst (pa_cons (pv 10) (pa_cons (pe_ifExp (pt_val (pe_callI (ok_l_has T) hr (pa_cons (pv 0) (pa_cons pe_str pa_nil)))) (pv 13) (pe_callB (id := "len") (lenK K) (by rfl) T.n_len (by decide +kernel) (pa_cons (pe_dget hu (pv 1) pe_str (fun _ _ => rfl)) pa_nil))) pa_nil))) pa_nil)) pa_nil))))))
      (pss_one (ps_ret pe_non))))))))))), ?_⟩
    obtain ⟨M, B⟩ := W.at_ hp
    have hi := W.lt hp
    generalize eh : m.hd i = h at B
    obtain ⟨pv0, q, rfl, hv1, hv2⟩ := im_rows.mp hv
    refine ⟨_, rfl, pv0, _, rfl, SqT.of hv1, rfl, _, _, rfl, _, _, rfl, _, _, rfl, _, _, rfl, _, _, rfl, _, _, rfl, _, _, rfl, rfl, ?_⟩
    refine ⟨_, rfl, role_w B .rests fun O1 H1 M1 B1 S1 => ⟨_, rfl, p, _, rfl, dg_log B1.obL, ?_⟩⟩
    obtain ⟨xs, hx, hlog⟩ := im_logr.mp B1.h.log
    have hv3 := Im.keep (S1.tk B.al) _ _ hv2
    obtain ⟨ys, hy, hrows⟩ := im_logr.mp hv3
    dsimp only
    refine seq_have (fun σ2 H2 => σ2 = [some (.ref L.w), some (.ref p), some (nv i), some (.ref pv0), some (.str "rows"), some (nv t), some (nv s), some (nv at_), some (nv ah), some (.ref q), some (nv told), some (.ref M1.l), none, none] ∧ H2 = H1 ∧ refuses m.pr (h.to .rests) at_ ah = false) ?_ (fun key => ?_)
    rotate_left
    · have no : refuses m.pr (h.to .rests) at_ ah = true → Q .non H1 := fun e => by
        refine fin O1 H1 ?_ S1.all
        have em : m.take i t s at_ ah rws told = m.set i (h.to .rests) := by
          unfold Wd.take
          rw [eh]
          exact if_pos e
        rw [em]
        exact B1.w
      refine ⟨_, rfl, _, rfl, _, xs, rfl, .inr (SqT.of hx), _, _, rfl, rfl, _, rfl, iteD (fun e1 => ?_) (fun e1 => ?_)⟩
      · rw [hlog.length] at e1
        refine iteT (no ?_)
        unfold refuses
        rw [decide_eq_true (by omega), Bool.true_or]
      rw [hlog.length] at e1
      have f1 : ¬ (h.to .rests).log.length < at_ := by omega
      refine ⟨_, rfl, has_w B1.w ⟨_, rfl, iteB (fun e2 => ?_) (fun e2 => ?_)⟩⟩
      rotate_left
      · refine iteF (key _ _ ⟨rfl, rfl, ?_⟩)
        unfold refuses
        rw [decide_eq_false f1, show m.pr.has "ahead" = false from e2]
        rfl
      refine ⟨_, rfl, _, _, rfl, rfl, _, rfl, iteD (fun e3 => ?_) (fun e3 => ?_)⟩
      rotate_left
      · refine iteF (key _ _ ⟨rfl, rfl, ?_⟩)
        unfold refuses
        rw [decide_eq_false f1, decide_eq_false (show ¬ 0 < at_ by omega)]
        simp
      have f3 : 0 < at_ := by omega
      obtain ⟨r, hr1, hr2⟩ := hlog.get (i := at_ - 1) (by omega)
      refine ⟨_, rfl, _, rfl, _, _, rfl, rfl, _, xs, _, _, rfl, rfl, SqT.of hx, atI_pred f3 hr1, r, _, 0, _, rfl, rfl, SqT.of hr2, rfl, _, rfl, rfl, _, rfl, ?_⟩
      rw [dec_nv]
      refine iteND (fun e4 => ?_) (fun e4 => ?_)
      · refine no ?_
        unfold refuses
        rw [show m.pr.has "ahead" = true from e2, decide_eq_true f3, decide_eq_true e4]
        simp
      · refine key _ _ ⟨rfl, rfl, ?_⟩
        unfold refuses
        rw [decide_eq_false f1, decide_eq_false (show ¬ ((h.to .rests).log.getD (at_ - 1) (0, 0)).1 ≠ ah from fun z => z e4)]
        simp
    rintro _ H2 ⟨rfl, rfl, ref⟩
    have ac : m.take i t s at_ ah rws told = ((m.set i { h.to .rests with log := cutLog m.pr (h.to .rests).log at_ rws }).post (.taken t i s (at_ + rws.length))).act i (min told (if m.pr.has "near" then at_ + rws.length else (cutLog m.pr (h.to .rests).log at_ rws).length)) := by
      unfold Wd.take
      rw [eh]
      exact if_neg (by rw [ref]; decide)
    have e13 : V.int ((at_ : Int) + (ys.length : Int)) = nv (at_ + rws.length) := by rw [hrows.length]; exact congrArg V.int (by omega)
    generalize h.to .rests = g at *
    refine ⟨_, rfl, _, rfl, _, rfl, q, ys, rfl, .inr (SqT.of hy), _, _, rfl, rfl, _, _, rfl, ?_⟩
    dsimp only
    rw [e13]
    refine seq_have (fun σ2 H3 => H3 = H2 ∧ ∃ j, σ2 = tkS L p i pv0 t s at_ ah q told M1.l (some (nv (at_ + j))) (some (nv (at_ + rws.length))) ∧ j ≤ rws.length ∧
      cutLog m.pr g.log at_ rws = if (!m.pr.has "cuts" || decide (j < rws.length)) = true then g.log.take (at_ + j) ++ rws.drop j else g.log) ?_ (fun key => ?_)
    rotate_left
    · refine ⟨_, rfl, has_w B1.w ⟨_, rfl, iteB (fun e => ?_) (fun e => ?_)⟩⟩
      rotate_left
      · refine key _ _ ⟨rfl, 0, rfl, Nat.zero_le _, ?_⟩
        have e' : m.pr.has "cuts" = false := e
        simp [cutLog, e']
      have e' : m.pr.has "cuts" = true := e
      have ec : cutLog m.pr g.log at_ rws = cutGo g.log at_ rws := by simp [cutLog, e']
      refine ⟨fun n σ2 H3 => H3 = H2 ∧ ∃ j, n + j = rws.length ∧ σ2 = tkS L p i pv0 t s at_ ah q told M1.l (some (nv (at_ + j))) (some (nv (at_ + rws.length))) ∧ cutGo g.log at_ rws = cutGo g.log (at_ + j) (rws.drop j), ⟨rws.length, rfl, 0, by omega, rfl, rfl⟩, ?_⟩
      rintro n _ H2 ⟨rfl, j, hj, rfl, hc⟩
      refine ⟨_, rfl, _, rfl, _, _, rfl, rfl, _, rfl, iteD (fun e1 => ?_) (fun e1 => ?_)⟩
      rotate_left
      · refine iteF (key _ _ ⟨rfl, j, rfl, by omega, ?_⟩)
        have ej : j = rws.length := by omega
        rw [ec, hc, e', ej, List.drop_length]
        simp [cutGo]
      have f1 : j < rws.length := by omega
      have er : rws.drop j = (rws.getD j (0, 0)) :: rws.drop (j + 1) := by
        rw [List.drop_eq_getElem_cons f1]
        simp [f1]
      refine ⟨_, rfl, _, rfl, _, xs, rfl, .inr (SqT.of hx), _, _, rfl, rfl, _, rfl, iteD (fun e2 => ?_) (fun e2 => ?_)⟩
      rotate_left
      · rw [hlog.length] at e2
        refine iteF (key _ _ ⟨rfl, j, rfl, by omega, ?_⟩)
        rw [ec, hc, decide_eq_true f1, Bool.or_true, if_pos rfl, er]
        exact cutGo_miss fun z => by omega
      rw [hlog.length] at e2
      have f2 : at_ + j < g.log.length := by omega
      obtain ⟨r1, g1, g2⟩ := hlog.get (i := at_ + j) f2
      obtain ⟨r2, g3, g4⟩ := hrows.get (i := j) f1
      refine ⟨_, rfl, _, rfl, _, xs, _, _, rfl, rfl, SqT.of hx, atI_nat g1, r1, _, 0, _, rfl, rfl, SqT.of g2, rfl, ?_⟩
      refine ⟨_, rfl, _, rfl, _, rfl, _, _, rfl, rfl, _, ys, _, _, rfl, rfl, SqT.of hy, atI_sub g3, r2, _, 0, _, rfl, rfl, SqT.of g4, rfl, rfl, _, rfl, ?_⟩
      rw [dec_nv]
      refine iteD (fun e3 => ?_) (fun e3 => ?_)
      rotate_left
      · refine key _ _ ⟨rfl, j, rfl, by omega, ?_⟩
        rw [ec, hc, decide_eq_true f1, Bool.or_true, if_pos rfl, er]
        exact cutGo_miss fun z => e3 z.2
      refine ⟨fun σ2 H3 => H3 = H2 ∧ σ2 = tkS L p i pv0 t s at_ ah q told M1.l (some (nv (at_ + (j + 1)))) (some (nv (at_ + rws.length))), fun σ2 H3 ⟨q1, q2⟩ => ⟨n - 1, by omega, q1, j + 1, by omega, q2, ?_⟩, ?_⟩
      · rw [hc, er, cutGo_hit f2 e3]
        rfl
      · refine ⟨_, rfl, _, _, rfl, rfl, rfl, ?_⟩
        exact congrArg (fun z => tkS L p i pv0 t s at_ ah q told M1.l (some z) (some (nv (at_ + rws.length)))) (congrArg V.int (by omega))
    rintro _ H3 ⟨rfl, j, rfl, hj, ecut⟩
    refine seq_have (fun σ2 H4 => σ2 = tkS L p i pv0 t s at_ ah q told M1.l (some (nv (at_ + j))) (some (nv (at_ + rws.length))) ∧ ∃ M4, At .law H4 O1 L m rs i p { g with log := cutLog m.pr g.log at_ rws } M4 ∧ Stp dA O H O1 H4) ?_ (fun key => ?_)
    rotate_left
    · refine if_have ((!m.pr.has "cuts" || decide (j < rws.length)) = true) ((!m.pr.has "cuts" || decide (j < rws.length)) = false) (fun e => ?_) (fun e => ?_) (fun k1 k0 => ?_)
      · rw [if_pos e] at ecut
        refine ⟨_, rfl, _, rfl, _, rfl, slice_to (at_ + j) hx hlog fun q1 G1 s1 m1 => ?_⟩
        refine ⟨_, rfl, _, rfl, _, rfl, _, _, rfl, rfl, (j : Int), congrArg V.int (by omega), ?_⟩
        dsimp only [tNoPart]
        refine slice_from j (s1 _ _ hy) (hrows.keep (same_tk s1)) fun q2 G2 s2 m2 => ?_
        refine cat_logs (Im.keep (same_tk s2) _ _ m1) m2 ?_ fun q3 G3 s3 m3 => ?_
        · rw [List.length_take, List.length_drop]
          have : big ≤ sizeLine := by decide
          omega
        have sm := s1.trans (s2.trans s3)
        have B3 := B1.same sm
        refine ⟨_, rfl, p, _, rfl, dp_log _ B3.obL, ?_⟩
        obtain ⟨B4, S4⟩ := B3.putLaw { g with log := cutLog m.pr g.log at_ rws } q3 (by show Im _ (logD (cutLog m.pr g.log at_ rws)) _; rw [ecut]; exact m3)
        exact key _ _ ⟨rfl, _, B4, S1.all.trans ((Stp.same B1.al sm).trans S4.all)⟩
      · rw [if_neg (by rw [e]; decide)] at ecut
        refine key _ _ ⟨rfl, M1, ?_, S1.all⟩
        rw [ecut]
        exact B1
      · refine ⟨_, rfl, has_w B1.w ⟨_, rfl, iteN (fun e => ?_) (fun e => ?_)⟩⟩
        · refine iteT (k1 ?_)
          rw [show m.pr.has "cuts" = false from e]
          rfl
        · refine ⟨_, rfl, _, rfl, _, _, rfl, rfl, _, rfl, iteD (fun e1 => k1 ?_) (fun e1 => k0 ?_)⟩
          · rw [decide_eq_true (by omega), Bool.or_true]
          · rw [decide_eq_false (by omega), show m.pr.has "cuts" = true from e]
            rfl
    rintro _ H4 ⟨rfl, M4, B4, S4⟩
    refine ⟨_, rfl, _, rfl, _, rfl, _, rfl, _, rfl, by show 5 ≤ sizeLine; decide, fun T hT => ?_⟩
    have sm := same_new (o := .tup [.str "taken", nv t, nv i, nv s, nv (at_ + rws.length)]) hT
    have B5 := B4.same sm
    refine post_w B5.w (l := .taken t i s (at_ + rws.length)) (im_taken.mpr ⟨T, rfl, upd_same⟩) hb1 fun H6 W6 S6 => ?_
    obtain ⟨M6, B6⟩ := W6.at_ hp
    rw [Wd.post_hd, Wd.hd_set hi] at B6
    obtain ⟨xs6, hx6, hl6⟩ := im_logr.mp B6.h.log
    refine ⟨_, rfl, _, rfl, _, rfl, _, rfl, tIf_have (nv (if m.pr.has "near" then at_ + rws.length else (cutLog m.pr g.log at_ rws).length)) ?_ (fun k => ?_)⟩
    · refine ⟨by show 2 ≤ sizeLine; decide, fun l hl => ⟨l, [(told : Int), _], rfl, SqL.of upd_same, by show 0 < 2; decide, fun mm h1 h2 => ?_⟩⟩
      rw [min_two h1 h2]
      have sm2 := same_new (o := .lst [nv told, nv (if m.pr.has "near" then at_ + rws.length else (cutLog m.pr g.log at_ rws).length)]) hl
      refine act_w (W6.same sm2) hp (by rw [Wd.post_acts]; exact hb2) fun H8 W8 S8 => ?_
      refine fin O1 H8 (by rw [ac]; exact W8) ?_
      exact S4.trans ((Stp.same B4.al sm).trans (S6.all.trans ((Stp.same S6.al sm2).trans S8)))
    · refine ⟨_, rfl, has_w W6 ⟨_, rfl, iteB (fun e => ?_) (fun e => ?_)⟩⟩
      · rw [Wd.post_pr] at e
        rw [if_pos (show m.pr.has "near" = true from e)] at k
        exact ⟨_, rfl, k⟩
      · rw [Wd.post_pr] at e
        rw [if_neg (by rw [show m.pr.has "near" = false from e]; decide)] at k
        refine ⟨_, rfl, p, _, rfl, dg_log B6.obL, _, xs6, rfl, .inr (SqT.of hx6), ?_⟩
        rw [hl6.length]
        exact k
theorem take_w {O : Own} {H : Hp} {L : WL} {m : Wd} {rs : List Dd} {i : Nat} {p : Addr} {Q : VK} {E : XK} {t s at_ ah told : Nat} {rws : Log} {v : V} (W : WorldIn .law H O L m rs) (hp : L.ps[i]? = some p) (hv : Im H (Lt.rows t s at_ ah rws told).data v)
    (h1 : m.lts.length < big) (h2 : m.acts.length < big) (h3 : at_ + rws.length < big) (k : ∀ O1 H1, WorldIn .law H1 O1 L (m.take i t s at_ ah rws told) rs → Stp dA O H O1 H1 → Q .non H1) : spTake [.ref L.w, .ref p, nv i, v] H Q E := by
  unfold spTake
  exact ⟨O, L, m, rs, i, p, t, s, at_, ah, rws, told, v, rfl, W, hp, hv, h1, h2, h3, k⟩
theorem lets_w {O : Own} {H : Hp} {L : WL} {m : Wd} {rs : List Dd} {i : Nat} {p t : Addr} {Q : VK} {E : XK} {a b : Nat} (W : WorldIn .law H O L m rs) (hl : LookOk m.pr) (hp : L.ps[i]? = some p) (ht : H t = some (.tup [nv a, nv b])) (k : ∀ H1, Same H H1 → Q (.bl (lets m.pr.look (a, b) (m.hd i).pair)) H1) :
    spLets [.ref L.w, .ref p, .ref t] H Q E := by
  unfold spLets
  exact ⟨O, L, m, rs, i, p, a, b, t, rfl, W, hl, hp, ht, k⟩
end
end Sr

set_option Elab.async false
set_option linter.all false
set_option maxRecDepth 100000
set_option maxHeartbeats 4000000
namespace Sr
open PySem PySem.Spec PyProof.Rows L2
local macro_rules | `(tactic| walk_at "hp") => `(tactic| (unfold upd at *; grind))
section
variable {P : Program} {w : World} {base : Heap} {K : PySem.W.Frag} {mg : Str → Option Value}
section
variable {j : Nat} {a b : Str} {t2 : TT} {u1 u : TS} {D : Ends} {σ : L2.St} {H : Hp}
theorem str_no (n : a ≠ b) : ¬ V.str a = V.str b := fun z => n (by injection z)
theorem skipA (e : σ[j]? = some (some (.str a))) (n : a ≠ b) (k : u D σ H) : tSeq (tIfS (tAnd (tTest (tOp rEq (tVar j) (tC (.str b)))) t2) u1 tNext) u D σ H :=
  ⟨_, e, rfl, _, rfl, iteD (fun z => (str_no n z).elim) fun _ => iteF k⟩
theorem skip1 (e : σ[j]? = some (some (.str a))) (n : a ≠ b) (k : u D σ H) : tSeq (tIfS (tTest (tOp rEq (tVar j) (tC (.str b)))) u1 tNext) u D σ H :=
  ⟨_, e, rfl, _, rfl, iteD (fun z => (str_no n z).elim) fun _ => k⟩
end
def Lt.word : Lt → Str
  | .ask .. => "ask"
  | .give .. => "give"
  | .rows .. => "rows"
  | .taken .. => "taken"
  | .see .. => "see"
  | .seen .. => "seen"
theorem im_word {H : Hp} {v : V} {l : Lt} (h : Im H l.data v) : ∃ b xs, v = .ref b ∧ H b = some (.tup (.str l.word :: nv l.term :: nv l.snd :: xs)) := by
  cases l with
  | ask t s a b => obtain ⟨p, q, e, h1, _⟩ := im_ask.mp h; exact ⟨p, _, e, h1⟩
  | give t s u => obtain ⟨p, e, h1⟩ := im_give.mp h; exact ⟨p, _, e, h1⟩
  | rows t s a b c d => obtain ⟨p, q, e, h1, _⟩ := im_rows.mp h; exact ⟨p, _, e, h1⟩
  | taken t s u c => obtain ⟨p, e, h1⟩ := im_taken.mp h; exact ⟨p, _, e, h1⟩
  | see t s n => obtain ⟨p, e, h1⟩ := im_see.mp h; exact ⟨p, _, e, h1⟩
  | seen t s u n => obtain ⟨p, e, h1⟩ := im_seen.mp h; exact ⟨p, _, e, h1⟩
theorem role_iff {r k : Role} : V.str r.str = V.str k.str ↔ r = k := by
  constructor
  · intro h
    injection h with h
    revert h
    cases r <;> cases k <;> first | exact fun _ => rfl | exact fun h => absurd h (by decide +kernel)
  · rintro rfl; rfl
theorem flat_vote (o : Option Nat) : flatV (voteV o) = true := by cases o <;> rfl
theorem flat_nats (l : List Nat) : (l.map nv).all flatV = true := by
  induction l with
  | nil => rfl
  | cons x l ih => simp [flatV]
theorem eqV_nat {a b : Nat} : eqV (nv a) (nv b) = decide (a = b) := by
  show (_ == _) = _
  by_cases e : a = b
  · subst e; simp
  · rw [decide_eq_false e]
    simp
    omega
theorem inV_nats (x : Nat) : ∀ l : List Nat, inV (nv x) (l.map nv) = decide (x ∈ l)
  | [] => by simp [inV]
  | y :: l => by
    have ih := inV_nats x l
    unfold inV at ih ⊢
    rw [List.map_cons, List.any_cons, ih, eqV_nat]
    by_cases e : y = x
    · subst e; simp
    · have e' : ¬ x = y := fun q => e q.symm
      simp [e, e']
theorem inV_vote (o : Option Nat) (s : Nat) : inV (voteV o) [.non, nv s] = decide (o = none ∨ o = some s) := by
  cases o with
  | none => rfl
  | some n =>
    unfold inV voteV
    rw [List.any_cons, List.any_cons, List.any_nil, eqV_nat]
    have : eqV .non (nv n) = false := rfl
    rw [this]
    by_cases e : s = n
    · subst e; simp
    · have e' : ¬ n = s := fun q => e q.symm
      simp [e, e']
/-- a letter of no lesser term is heard -/
def hear1 (pr : Pr) (w1 : Wd) (i : Nat) (h : Hd) : Lt → Wd
  | .ask t s a b => if (h.vote = none ∨ h.vote = some s) ∧ lets pr.look (a, b) h.pair = true then (w1.set i { h with vote := some s }).post (.give t i s) else w1
  | .give _ s _ => if h.role = .asks then w1.set i { h with got := addNew h.got s } else w1
  | .rows t s at_ ah rs told => if h.role = .leads then w1 else w1.take i t s at_ ah rs told
  | .taken _ s _ c => if h.role = .leads then w1.set i { h with known := aput h.known s (max c ((alook h.known s).getD 0)) } else w1
  | .see t s n => w1.post (.seen t i s n)
  | .seen _ s _ n => if h.role = .leads then w1.set i (h.seen n s) else w1
theorem hear_eq (m : Wd) (i : Nat) (l : Lt) (ne : ¬ l.term < (m.hd i).term) : m.hear i l = hear1 m.pr (m.set i ((m.hd i).meet l.term)) i ((m.hd i).meet l.term) l := by
  unfold Wd.hear
  rw [if_neg ne]
  cases l <;> rfl
theorem aput_same {α : Type} {l : List (Nat × α)} {k : Nat} {v : α} (h : alook l k = some v) (nd : (l.map (·.1)).Nodup) : aput l k v = l := by
  have e : (l.any fun p => decide (p.1 = k)) = true := by rw [← alook_any, h]; rfl
  unfold aput
  rw [if_pos e]
  have hm := alook_mem h
  have : l.map (fun p => if p.1 = k then (p.1, v) else p) = l.map id := by
    refine List.map_congr_left fun x hx => ?_
    by_cases q : x.1 = k
    · rw [if_pos q]
      have inj : ∀ {l : List (Nat × α)}, (l.map (·.1)).Nodup → ∀ {x y}, x ∈ l → y ∈ l → x.1 = y.1 → x = y := by
        intro l
        induction l with
        | nil => intro _ x y h; cases h
        | cons z l ih =>
          intro nd x y h1 h2 e
          rw [List.map_cons, List.nodup_cons] at nd
          rcases List.mem_cons.mp h1 with a1 | a1 <;> rcases List.mem_cons.mp h2 with a2 | a2
          · rw [a1, a2]
          · exact (nd.1 (by rw [← a1, e]; exact List.mem_map_of_mem a2)).elim
          · exact (nd.1 (by rw [← a2, ← e]; exact List.mem_map_of_mem a1)).elim
          · exact ih nd.2 a1 a2 e
      have := inj nd hx hm q
      subst this
      rfl
    · rw [if_neg q]; rfl
  rw [this, List.map_id]
def heS (L : WL) (p : Addr) (i : Nat) (v : V) (wd : Str) (t s : Nat) : L2.St := [some (.ref L.w), some (.ref p), some (nv i), some v, some (.str wd), some (nv t), some (nv s), none]
@[irreducible] def spHear : Sp := fun vs H Q _ => ∃ O L m rs i p l v n, vs = [.ref (WL.w L), .ref p, nv i, v] ∧ WorldIn .law H O L m rs ∧ L.ps[i]? = some p ∧ Im H (Lt.data l) v ∧ LookOk m.pr ∧ Fit n m ∧ n < big ∧ LFit n l ∧
  ∀ O' H', WorldIn .law H' O' L (m.hear i l) rs → Stp dA O H O' H' → Q .non H'
theorem sc_l_hear : FnScope ["_law_world_here", "_law_hand_here", "_law_number_here", "_law_letter", "_law_word", "_law_term", "_law_sender", "_law_seen"] ["_law_world_here", "_law_hand_here", "_law_number_here", "_law_letter"] (defScope s_l_hear) := ⟨rfl, rfl, rfl, by decide +kernel, rfl, by decide +kernel, by decide +kernel⟩
theorem ok_l_hear (T : Tx w K mg) : FnI P w K mg base "_law_hear" (5 + 1) ["_law_world_here", "_law_hand_here", "_law_number_here", "_law_letter"] spHear := by
  refine FnI.mk' T.f_l_hear T.g_l_hear sc_l_hear (fun _ _ _ _ _ _ us hl => match us, hl with | [_, _, _, _], _ => rfl) (fun vs H Q E h => ?_) (fun cdv A outer s H vs Q E hr h => ?_)
  all_goals unfold spHear at h
  · obtain ⟨_, _, _, _, _, _, _, _, _, rfl, _⟩ := h
    rfl
  · obtain ⟨O, L, m, rs, i, p, l, v, n, rfl, W, hp, hv, hlook, fit, hn, lfit, fin⟩ := h
    have hu := hu_of hr
    refine ⟨_, (pss_cons (ps_par3 (i := 4) (j := 5) (l := 6) rfl sc_l_hear.nd rfl rfl rfl (by decide) (by decide) (by decide) rfl rfl rfl (pa_cons (pe_ix (ixT K) (pv 3) pe_int (fun _ _ => rfl)) (pa_cons (pe_ix (ixT K) (pv 3) pe_int (fun _ _ => rfl)) (pa_cons (pe_ix (ixT K) (pv 3) pe_int (fun _ _ => rfl)) pa_nil))) rfl)
      (pss_cons (ps_if (pt_cmpR op_lt (pv 5) (pe_dget hu (pv 1) pe_str (fun _ _ => rfl)) (nomark _)) (pss_one (ps_ret pe_non)) pss_nil)
      (pss_cons (ps_if (pt_cmpR op_gt (pv 5) (pe_dget hu (pv 1) pe_str (fun _ _ => rfl)) (nomark _)) (pss_cons (ps_expr (pe_callI (ok_l_role T) hr (pa_cons (pv 1) (pa_cons pe_str pa_nil))))
      (pss_one (ps_asg (pe_tup (pa_cons (pv 5) (pa_cons pe_non pa_nil))) (pg_tup rfl (pgs_cons (pg_sub (pv 1) pe_str (set_dict hu)) (pgs_cons (pg_sub (pv 1) pe_str (set_dict hu)) pgs_nil)))))) pss_nil)
      (pss_cons (ps_if (pw_and (pt_cmpR op_eq (pv 4) pe_str (nomark _)) (pw_and (pt_cmpR op_in_seq (pe_dget hu (pv 1) pe_str (fun _ _ => rfl)) (pe_tup (pa_cons pe_non (pa_cons (pv 6) pa_nil))) rfl) (pw_and1 (pt_val (pe_callI (ok_l_lets T) hr (pa_cons (pv 0) (pa_cons (pv 1) (pa_cons (pe_ix (ixT K) (pv 3) pe_int (fun _ _ => rfl)) pa_nil)))))))).pt (pss_cons (ps_dput hu (pv 1) pe_str (pv 6) rfl)
      (pss_one (ps_expr (pe_callI (ok_l_post T) hr (pa_cons (pv 0) (pa_cons (pe_tup (pa_cons pe_str (pa_cons (pv 5) (pa_cons (pv 2) (pa_cons (pv 6) pa_nil))))) pa_nil)))))) pss_nil)
      (pss_cons (ps_if (pt_cmpR op_eq (pv 4) pe_str (nomark _)) (pss_one (ps_expr (pe_callI (ok_l_post T) hr (pa_cons (pv 0) (pa_cons (pe_tup (pa_cons pe_str (pa_cons (pv 5) (pa_cons (pv 2) (pa_cons (pv 6) (pa_cons (pe_ix (ixT K) (pv 3) pe_int (fun _ _ => rfl)) pa_nil)))))) pa_nil))))) pss_nil)
      (pss_cons (ps_if (pw_and (pt_cmpR op_eq (pv 4) pe_str (nomark _)) (pw_and1 (pt_cmpR op_ne (pe_dget hu (pv 1) pe_str (fun _ _ => rfl)) pe_str (nomark _)))).pt (pss_one (ps_expr (pe_callI (ok_l_take T) hr (pa_cons (pv 0) (pa_cons (pv 1) (pa_cons (pv 2) (pa_cons (pv 3) pa_nil))))))) pss_nil)
      (pss_cons (ps_if (pw_and (pt_cmpR op_eq (pv 4) pe_str (nomark _)) (pw_and (pt_cmpR op_eq (pe_dget hu (pv 1) pe_str (fun _ _ => rfl)) pe_str (nomark _)) (pw_and1 (pt_cmpR op_notIn_seq (pv 6) (pe_dget hu (pv 1) pe_str (fun _ _ => rfl)) rfl)))).pt (pss_one (ps_expr (pe_bm PySem.F.plainAttrs_list PySem.F.slot_list_append PySem.F.type_list_append mt_append (pe_dget hu (pv 1) pe_str (fun _ _ => rfl)) (pa_cons (pv 6) pa_nil)))) pss_nil)
      (pss_cons (ps_if (pw_and (pt_cmpR op_eq (pv 4) pe_str (nomark _)) (pw_and1 (pt_cmpR op_eq (pe_dget hu (pv 1) pe_str (fun _ _ => rfl)) pe_str (nomark _)))).pt (pss_one (ps_dput hu (pe_dget hu (pv 1) pe_str (fun _ _ => rfl)) (pv 6) (pe_callB (id := "max") (cr_max rfl) (by rfl) T.n_max (by decide +kernel) (pa_cons (pe_lst (pa_cons (pe_ix (ixT K) (pv 3) pe_int (fun _ _ => rfl)) (pa_cons (pe_dget2 hu (pe_dget hu (pv 1) pe_str (fun _ _ => rfl)) (pv 6) pe_int ⟨rfl, rfl, rfl, rfl⟩) pa_nil))) pa_nil)) rfl)) pss_nil)
      (pss_cons (ps_if (pw_and (pt_cmpR op_eq (pv 4) pe_str (nomark _)) (pw_and (pt_cmpR op_eq (pe_dget hu (pv 1) pe_str (fun _ _ => rfl)) pe_str (nomark _)) (pw_and1 (pt_cmp (pc_din hu (pe_ix (ixT K) (pv 3) pe_int (fun _ _ => rfl)) (pe_dget hu (pv 1) pe_str (fun _ _ => rfl))))))).pt (pss_cons (ps_set (i := 7) sc_l_hear.nd rfl (.inl rfl) (pe_dget hu (pe_dget hu (pv 1) pe_str (fun _ _ => rfl)) (pe_ix (ixT K) (pv 3) pe_int (fun _ _ => rfl)) (fun _ _ => rfl)))
      (pss_one (ps_if (pt_cmpR op_notIn_seq (pv 6) (pv 7) rfl) (pss_one (ps_expr (pe_bm PySem.F.plainAttrs_list PySem.F.slot_list_append PySem.F.type_list_append mt_append (pv 7) (pa_cons (pv 6) pa_nil)))) pss_nil))) pss_nil)
      (pss_one (ps_ret pe_non))))))))))), ?_⟩
    obtain ⟨M, B⟩ := W.at_ hp
    have hi := W.lt hp
    obtain ⟨b, xs, rfl, hvb⟩ := im_word hv
    generalize eh : m.hd i = h at B
    have hfit := fit.hd i
    rw [eh] at hfit
    refine ⟨_, rfl, b, _, 0, _, rfl, rfl, SqT.of hvb, atI_nat (j := 0) rfl, _, rfl, b, _, 1, _, rfl, rfl, SqT.of hvb, atI_nat (j := 1) rfl, _, rfl, b, _, 2, _, rfl, rfl, SqT.of hvb, atI_nat (j := 2) rfl, _, _, _, rfl, ?_⟩
    refine ⟨_, rfl, _, rfl, p, _, rfl, dg_term B.obL, _, _, rfl, rfl, _, rfl, iteD (fun e1 => ?_) (fun e1 => ?_)⟩
    · have em : m.hear i l = m := by
        unfold Wd.hear
        rw [eh]
        exact if_pos (by omega)
      rw [em] at fin
      exact fin O H W (Stp.refl W.al)
    have ne : ¬ l.term < h.term := by omega
    dsimp only [tNext]
    refine seq_have (fun σ2 H2 => σ2 = heS L p i (.ref b) l.word l.term l.snd ∧ ∃ O1 M1, At .law H2 O1 L m rs i p (h.meet l.term) M1 ∧ Stp dA O H O1 H2) ?_ (fun key => ?_)
    rotate_left
    · refine ⟨_, rfl, _, rfl, p, _, rfl, dg_term B.obL, _, _, rfl, rfl, _, rfl, iteD (fun e2 => ?_) (fun e2 => ?_)⟩
      · refine ⟨_, rfl, role_w B .rests fun O1 H1 M1 B1 S1 => ?_⟩
        refine ⟨_, rfl, by show 2 ≤ sizeLine; decide, fun T hT => ?_⟩
        have B3 := B1.same (same_new (o := .tup [nv l.term, .non]) hT)
        obtain ⟨B4, S4⟩ := B3.putLaw { h.to .rests with term := l.term, vote := none } M1.l B3.h.log
        refine ⟨T, _, rfl, SqT.of upd_same, rfl, _, _, rfl, _, rfl, p, _, rfl, dp_term _ B3.obL, _, _, rfl, _, rfl, p, _, rfl, dp_vote _ upd_same, rfl, ?_⟩
        rw [upd_upd]
        refine key _ _ ⟨rfl, O1, { M1 with l := M1.l }, ?_, ((S1.trans (Stp.new B1.al hT)).trans S4).all⟩
        have e' : h.meet l.term = _ := if_pos (show h.term < l.term by omega)
        rw [e']
        exact B4
      · refine key _ _ ⟨rfl, O, M, ?_, Stp.refl B.al⟩
        have e' : h.meet l.term = _ := if_neg (show ¬ h.term < l.term by omega)
        rw [e']
        exact B
    rintro _ H1 ⟨rfl, O1, M1, B1, S1⟩
    have f1 : HFit n m.asked.length (h.meet l.term) := by
      unfold Hd.meet
      split
      · exact ⟨hfit.log, Nat.zero_le _, Nat.zero_le _, Nat.zero_le _, List.Pairwise.nil, fun x hx => nomatch hx⟩
      · exact hfit
    have hv1 := Im.keep (S1.tk B.al) _ _ hv
    have he : ∀ O2 H2, WorldIn .law H2 O2 L (hear1 m.pr (m.set i (h.meet l.term)) i (h.meet l.term) l) rs → Stp dA O H O2 H2 → Q .non H2 := by
      intro O2 H2 W2 S2
      refine fin O2 H2 ?_ S2
      rw [hear_eq m i l (by rw [eh]; exact ne), eh]
      exact W2
    have hb1 : m.lts.length < big := Nat.lt_of_le_of_lt fit.lts hn
    have hb2 : m.acts.length < big := Nat.lt_of_le_of_lt fit.acts hn
    cases l with
    | ask t s a c =>
      dsimp only [Lt.term, Lt.snd, Lt.word] at *
      generalize h.meet t = g at *
      obtain ⟨b', q, eb, hvb1, hq⟩ := im_ask.mp hv1
      cases eb
      refine seq_have (fun σ2 H2 => σ2 = heS L p i (.ref b) "ask" t s ∧ ∃ O2, WorldIn .law H2 O2 L (hear1 m.pr (m.set i g) i g (.ask t s a c)) rs ∧ Stp dA O H O2 H2) ?_ (fun key => ?_)
      · rintro _ H2 ⟨rfl, O2, W2, S2⟩
        refine skip1 rfl (by decide +kernel) (skipA rfl (by decide +kernel) (skipA rfl (by decide +kernel) (skipA rfl (by decide +kernel) (skipA rfl (by decide +kernel) ?_))))
        exact he O2 H2 W2 S2
      · refine ⟨_, rfl, rfl, _, rfl, iteD (fun _ => ?_) (fun z => (z rfl).elim)⟩
        refine ⟨_, rfl, p, _, rfl, dg_vote B1.obL, _, rfl, by show 2 ≤ sizeLine; decide, fun T hT => ?_⟩
        have sm := same_new (o := .tup [.non, nv s]) hT
        have B2 := B1.same sm
        refine ⟨T, _, rfl, .inr (SqT.of upd_same), flat_vote _, rfl, _, rfl, ?_⟩
        show (if inV (voteV g.vote) [.non, nv s] = true then _ else _)
        rw [inV_vote]
        refine iteD (fun e3 => ?_) (fun e3 => ?_)
        rotate_left
        · refine iteF (key _ _ ⟨rfl, O1, ?_, S1.trans (Stp.same B1.al sm)⟩)
          have em : hear1 m.pr (m.set i g) i g (.ask t s a c) = m.set i g := if_neg fun z => e3 z.1
          rw [em]
          exact B2.w
        refine ⟨_, rfl, _, rfl, _, rfl, b, _, 3, _, rfl, rfl, SqT.of (sm _ _ hvb1), rfl, lets_w B2.w hlook hp (sm _ _ hq) fun H3 s3 => ⟨_, rfl, ?_⟩⟩
        rw [Wd.hd_set hi]
        have B3 := B2.same s3
        refine iteB (fun e4 => ?_) (fun e4 => ?_)
        · obtain ⟨B4, S4⟩ := B3.putLaw { g with vote := some s } M1.l B3.h.log
          refine ⟨_, rfl, _, rfl, p, _, rfl, dp_vote (nv s) B3.obL, ?_⟩
          refine ⟨_, rfl, _, rfl, _, rfl, _, rfl, by show 4 ≤ sizeLine; decide, fun T2 hT2 => ?_⟩
          have sm2 := same_new (o := .tup [.str "give", nv t, nv i, nv s]) hT2
          refine post_w (B4.same sm2).w (l := .give t i s) (im_give.mpr ⟨T2, rfl, upd_same⟩) hb1 fun H5 W5 S5 => ?_
          refine key _ _ ⟨rfl, O1, ?_, S1.trans ((Stp.same B1.al (sm.trans s3)).trans (S4.all.trans ((Stp.same S4.al sm2).trans S5.all)))⟩
          have em : hear1 m.pr (m.set i g) i g (.ask t s a c) = _ := if_pos ⟨e3, e4⟩
          rw [em, Wd.set_set]
          exact W5
        · have e4 : lets m.pr.look (a, c) g.pair = false := e4
          refine key _ _ ⟨rfl, O1, ?_, S1.trans (Stp.same B1.al (sm.trans s3))⟩
          have em : hear1 m.pr (m.set i g) i g (.ask t s a c) = m.set i g := if_neg fun z => by rw [e4] at z; cases z.2
          rw [em]
          exact B3.w
    | give t s u =>
      dsimp only [Lt.term, Lt.snd, Lt.word] at *
      generalize h.meet t = g at *
      refine skipA rfl (by decide +kernel) (skip1 rfl (by decide +kernel) (skipA rfl (by decide +kernel) ?_))
      refine seq_have (fun σ2 H2 => σ2 = heS L p i (.ref b) "give" t s ∧ ∃ O2, WorldIn .law H2 O2 L (hear1 m.pr (m.set i g) i g (.give t s u)) rs ∧ Stp dA O H O2 H2) ?_ (fun key => ?_)
      · rintro _ H2 ⟨rfl, O2, W2, S2⟩
        refine skipA rfl (by decide +kernel) (skipA rfl (by decide +kernel) ?_)
        exact he O2 H2 W2 S2
      · refine ⟨_, rfl, rfl, _, rfl, iteD (fun _ => ?_) (fun z => (z rfl).elim)⟩
        refine ⟨_, rfl, p, _, rfl, dg_role B1.obL, rfl, _, rfl, iteD (fun e3 => ?_) (fun e3 => ?_)⟩
        rotate_left
        · refine iteF (key _ _ ⟨rfl, O1, ?_, S1⟩)
          have em : hear1 m.pr (m.set i g) i g (.give t s u) = m.set i g := if_neg fun z => e3 (role_iff (k := .asks).mpr z)
          rw [em]
          exact B1.w
        have er : g.role = .asks := role_iff (k := .asks).mp e3
        have em : hear1 m.pr (m.set i g) i g (.give t s u) = _ := if_pos er
        rw [Wd.set_set] at em
        refine ⟨_, rfl, _, rfl, p, _, rfl, dg_got B1.obL, M1.g, _, rfl, .inl (SqL.of B1.h.got), rfl, flat_nats _, _, rfl, ?_⟩
        show (if (!inV (nv s) (g.got.map nv)) = true then _ else _)
        rw [inV_nats]
        refine iteND (fun e4 => ?_) (fun e4 => ?_)
        · refine ⟨_, rfl, p, _, rfl, dg_got B1.obL, .inl ⟨rfl, _, SqL.of B1.h.got⟩, _, rfl, _, _, _, rfl, rfl, B1.h.got, ?_, ?_⟩
          · rw [List.length_map]
            exact big_line (Nat.lt_of_le_of_lt f1.got hn)
          obtain ⟨B2, S2⟩ := B1.gotIn (addNew g.got s)
          have ea : addNew g.got s = g.got ++ [s] := if_neg e4
          have e5 : Side.set .law (addNew g.got s) = .lst (g.got.map nv ++ [nv s]) := by rw [ea]; show HO.lst _ = _; rw [List.map_append]; rfl
          rw [e5] at B2 S2
          refine key _ _ ⟨rfl, O1, ?_, S1.trans S2.all⟩
          rw [em]
          exact B2.w
        · refine key _ _ ⟨rfl, O1, ?_, S1⟩
          have ea : addNew g.got s = g.got := if_pos e4
          rw [em, ea]
          exact B1.w
    | rows t s at_ ah rws told =>
      dsimp only [Lt.term, Lt.snd, Lt.word] at *
      generalize h.meet t = g at *
      refine skipA rfl (by decide +kernel) (skip1 rfl (by decide +kernel) ?_)
      refine seq_have (fun σ2 H2 => σ2 = heS L p i (.ref b) "rows" t s ∧ ∃ O2, WorldIn .law H2 O2 L (hear1 m.pr (m.set i g) i g (.rows t s at_ ah rws told)) rs ∧ Stp dA O H O2 H2) ?_ (fun key => ?_)
      · rintro _ H2 ⟨rfl, O2, W2, S2⟩
        refine skipA rfl (by decide +kernel) (skipA rfl (by decide +kernel) (skipA rfl (by decide +kernel) ?_))
        exact he O2 H2 W2 S2
      · refine ⟨_, rfl, rfl, _, rfl, iteD (fun _ => ?_) (fun z => (z rfl).elim)⟩
        refine ⟨_, rfl, p, _, rfl, dg_role B1.obL, rfl, _, rfl, iteND (fun e3 => ?_) (fun e3 => ?_)⟩
        · have em : hear1 m.pr (m.set i g) i g (.rows t s at_ ah rws told) = _ := if_neg fun z => e3 (role_iff (k := .leads).mpr z)
          rw [em] at key
          exact ⟨_, rfl, _, rfl, _, rfl, _, rfl, take_w B1.w hp hv1 hb1 hb2 (Nat.lt_of_le_of_lt lfit hn) fun O3 H3 W3 S3 => key _ _ ⟨rfl, O3, W3, S1.trans S3⟩⟩
        · refine key _ _ ⟨rfl, O1, ?_, S1⟩
          have em : hear1 m.pr (m.set i g) i g (.rows t s at_ ah rws told) = m.set i g := if_pos (role_iff (k := .leads).mp e3)
          rw [em]
          exact B1.w
    | taken t s u c =>
      dsimp only [Lt.term, Lt.snd, Lt.word] at *
      generalize h.meet t = g at *
      obtain ⟨b', eb, hvb1⟩ := im_taken.mp hv1
      cases eb
      refine skipA rfl (by decide +kernel) (skip1 rfl (by decide +kernel) (skipA rfl (by decide +kernel) (skipA rfl (by decide +kernel) ?_)))
      refine seq_have (fun σ2 H2 => σ2 = heS L p i (.ref b) "taken" t s ∧ ∃ O2, WorldIn .law H2 O2 L (hear1 m.pr (m.set i g) i g (.taken t s u c)) rs ∧ Stp dA O H O2 H2) ?_ (fun key => ?_)
      · rintro _ H2 ⟨rfl, O2, W2, S2⟩
        refine skipA rfl (by decide +kernel) ?_
        exact he O2 H2 W2 S2
      · refine ⟨_, rfl, rfl, _, rfl, iteD (fun _ => ?_) (fun z => (z rfl).elim)⟩
        refine ⟨_, rfl, p, _, rfl, dg_role B1.obL, rfl, _, rfl, iteD (fun e3 => ?_) (fun e3 => ?_)⟩
        rotate_left
        · refine key _ _ ⟨rfl, O1, ?_, S1⟩
          have em : hear1 m.pr (m.set i g) i g (.taken t s u c) = m.set i g := if_neg fun z => e3 (role_iff (k := .leads).mpr z)
          rw [em]
          exact B1.w
        have em : hear1 m.pr (m.set i g) i g (.taken t s u c) = _ := if_pos (role_iff (k := .leads).mp e3)
        rw [Wd.set_set] at em
        have ek : (valV (g.known.map kn) (.inl (s : Int))).getD (.int 0) = nv ((alook g.known s).getD 0) := by
          rw [kn_eq, valV_kx]
          cases alook g.known s <;> rfl
        refine ⟨_, rfl, b, _, 4, _, rfl, rfl, SqT.of hvb1, rfl, _, rfl, p, _, rfl, dg_known B1.obL, M1.k, rfl, .inl ⟨_, .inl B1.h.kn⟩, _, rfl, _, DGet.k (k := .inl (s : Int)) B1.h.kn, ?_⟩
        rw [ek]
        refine ⟨by show 2 ≤ sizeLine; decide, fun l hl => ⟨l, [(c : Int), _], rfl, SqL.of upd_same, by show 0 < 2; decide, fun mm h1 h2 => ?_⟩⟩
        rw [max_two h1 h2]
        have sm := same_new (o := .lst [nv c, nv ((alook g.known s).getD 0)]) hl
        have B2 := B1.same sm
        have hl2 : (g.known.map kn).length < sizeLine := by
          rw [List.length_map]
          exact big_line (Nat.lt_of_le_of_lt f1.known hn)
        refine ⟨_, rfl, p, _, rfl, dg_known B2.obL, _, rfl, M1.k, _, rfl, DPut.k (k := .inl (s : Int)) B2.h.kn hl2, ?_⟩
        have ep : putK (g.known.map kn) (.inl (s : Int)) (nv (max c ((alook g.known s).getD 0))) = (aput g.known s (max c ((alook g.known s).getD 0))).map kn := by
          rw [kn_eq, putK_kx]
        rw [ep]
        obtain ⟨B3, S3⟩ := B2.knownIn (aput g.known s (max c ((alook g.known s).getD 0)))
        refine key _ _ ⟨rfl, O1, ?_, S1.trans ((Stp.same B1.al sm).trans S3.all)⟩
        rw [em]
        exact B3.w
    | see t s k =>
      dsimp only [Lt.term, Lt.snd, Lt.word] at *
      generalize h.meet t = g at *
      obtain ⟨b', eb, hvb1⟩ := im_see.mp hv1
      cases eb
      refine skipA rfl (by decide +kernel) ?_
      refine seq_have (fun σ2 H2 => σ2 = heS L p i (.ref b) "see" t s ∧ ∃ O2, WorldIn .law H2 O2 L (hear1 m.pr (m.set i g) i g (.see t s k)) rs ∧ Stp dA O H O2 H2) ?_ (fun key => ?_)
      · rintro _ H2 ⟨rfl, O2, W2, S2⟩
        refine skipA rfl (by decide +kernel) (skipA rfl (by decide +kernel) (skipA rfl (by decide +kernel) (skipA rfl (by decide +kernel) ?_)))
        exact he O2 H2 W2 S2
      · refine ⟨_, rfl, rfl, _, rfl, iteD (fun _ => ?_) (fun z => (z rfl).elim)⟩
        refine ⟨_, rfl, _, rfl, _, rfl, _, rfl, _, rfl, b, _, 3, _, rfl, rfl, SqT.of hvb1, rfl, by show 5 ≤ sizeLine; decide, fun T hT => ?_⟩
        have sm := same_new (o := .tup [.str "seen", nv t, nv i, nv s, nv k]) hT
        refine post_w (B1.same sm).w (l := .seen t i s k) (im_seen.mpr ⟨T, rfl, upd_same⟩) hb1 fun H5 W5 S5 => ?_
        exact key _ _ ⟨rfl, O1, W5, S1.trans ((Stp.same B1.al sm).trans S5.all)⟩
    | seen t s u k =>
      dsimp only [Lt.term, Lt.snd, Lt.word] at *
      generalize h.meet t = g at *
      obtain ⟨b', eb, hvb1⟩ := im_seen.mp hv1
      cases eb
      refine skipA rfl (by decide +kernel) (skip1 rfl (by decide +kernel) (skipA rfl (by decide +kernel) (skipA rfl (by decide +kernel) (skipA rfl (by decide +kernel) ?_))))
      refine seq_have (fun _ H2 => ∃ O2, WorldIn .law H2 O2 L (hear1 m.pr (m.set i g) i g (.seen t s u k)) rs ∧ Stp dA O H O2 H2) ?_ (fun key => ?_)
      · rintro _ H2 ⟨O2, W2, S2⟩
        exact he O2 H2 W2 S2
      · refine ⟨_, rfl, rfl, _, rfl, iteD (fun _ => ?_) (fun z => (z rfl).elim)⟩
        refine ⟨_, rfl, p, _, rfl, dg_role B1.obL, rfl, _, rfl, iteD (fun e3 => ?_) (fun e3 => ?_)⟩
        rotate_left
        · refine iteF (key [] _ ⟨O1, ?_, S1⟩)
          have em : hear1 m.pr (m.set i g) i g (.seen t s u k) = m.set i g := if_neg fun z => e3 (role_iff (k := .leads).mpr z)
          rw [em]
          exact B1.w
        have em : hear1 m.pr (m.set i g) i g (.seen t s u k) = _ := if_pos (role_iff (k := .leads).mp e3)
        rw [Wd.set_set] at em
        have ew : g.wishes = M1.ws.map (mv (Prod.fst (α := List Nat) (β := Addr))) := B1.h.ws
        have ev : valV (M1.ws.map wK) (.inl (k : Int)) = (alook M1.ws k).map (fun y => V.ref y.2) := by rw [wK_eq, valV_kx]
        have el : alook g.wishes k = (alook M1.ws k).map Prod.fst := by rw [ew, alook_mv]
        refine ⟨_, rfl, b, _, 4, _, rfl, rfl, SqT.of hvb1, rfl, _, rfl, p, _, rfl, dg_wishes B1.obL, M1.w, _, rfl, DGet.k (k := .inl (k : Int)) B1.h.wi, _, rfl, ?_⟩
        rw [ev]
        cases ea : alook M1.ws k with
        | none =>
          rw [ea] at el
          refine iteF (key [] _ ⟨O1, ?_, S1⟩)
          have eg : g.seen k s = g := by unfold Hd.seen; rw [el]; rfl
          rw [em, eg]
          exact B1.w
        | some y =>
          obtain ⟨l, a⟩ := y
          rw [ea] at el ev
          have eg : g.seen k s = { g with wishes := aput g.wishes k (addNew l s) } := by unfold Hd.seen; rw [el]; rfl
          have hsn := B1.h.sn _ (alook_mem ea)
          refine iteT ?_
          refine ⟨_, rfl, p, _, rfl, dg_wishes B1.obL, _, rfl, b, _, 4, _, rfl, rfl, SqT.of hvb1, rfl, M1.w, _, rfl, by have := DGet.k (k := .inl (k : Int)) B1.h.wi; rw [ev] at this; exact this, ?_⟩
          refine ⟨_, rfl, _, rfl, a, _, rfl, .inl (SqL.of hsn.1), rfl, flat_nats _, _, rfl, ?_⟩
          show (if (!inV (nv s) (l.map nv)) = true then _ else _)
          rw [inV_nats]
          have wlen := (f1.wl _ (by rw [ew]; exact List.mem_map_of_mem (alook_mem ea) : (mv Prod.fst (k, l, a)) ∈ g.wishes)).2
          refine iteND (fun e4 => ?_) (fun e4 => ?_)
          · refine ⟨_, rfl, .inl ⟨rfl, _, SqL.of hsn.1⟩, _, rfl, _, _, _, rfl, rfl, hsn.1, ?_, ?_⟩
            · rw [List.length_map]
              exact big_line (Nat.lt_of_le_of_lt wlen hn)
            obtain ⟨B2, S2⟩ := B1.seenIn ea f1.nd (addNew l s)
            have ea2 : addNew l s = l ++ [s] := if_neg e4
            have e5 : Side.set .law (addNew l s) = .lst (l.map nv ++ [nv s]) := by rw [ea2]; show HO.lst _ = _; rw [List.map_append]; rfl
            rw [e5] at B2 S2
            refine key [] _ ⟨O1, ?_, S1.trans S2.all⟩
            rw [em, eg]
            exact B2.w
          · refine key [] _ ⟨O1, ?_, S1⟩
            have ea2 : addNew l s = l := if_pos e4
            have e6 : aput g.wishes k l = g.wishes := aput_same el f1.nd
            rw [em, eg, ea2, e6]
            exact B1.w
end
end Sr

set_option Elab.async false
set_option linter.all false
set_option maxRecDepth 100000
set_option maxHeartbeats 4000000
namespace Sr
open PySem PySem.Spec PyProof.Rows L2
local macro_rules | `(tactic| walk_at "hp") => `(tactic| (unfold upd at *; grind))
section
variable {P : Program} {w : World} {base : Heap} {K : PySem.W.Frag} {mg : Str → Option Value}
theorem hear_w {O : Own} {H : Hp} {L : WL} {m : Wd} {rs : List Dd} {i n : Nat} {p : Addr} {Q : VK} {E : XK} {l : Lt} {v : V} (W : WorldIn .law H O L m rs) (hp : L.ps[i]? = some p) (hv : Im H l.data v) (hl : LookOk m.pr) (f : Fit n m) (hn : n < big) (lf : LFit n l)
    (k : ∀ O1 H1, WorldIn .law H1 O1 L (m.hear i l) rs → Stp dA O H O1 H1 → Q .non H1) : spHear [.ref L.w, .ref p, nv i, v] H Q E := by
  unfold spHear
  exact ⟨O, L, m, rs, i, p, l, v, n, rfl, W, hp, hv, hl, f, hn, lf, k⟩
theorem settles_w {O : Own} {H : Hp} {L : WL} {m : Wd} {rs : List Dd} {i c : Nat} {p : Addr} {Q : VK} {E : XK} (W : WorldIn .law H O L m rs) (hp : L.ps[i]? = some p) (hb : (m.hd i).known.length < big)
    (k : ∀ H1, Same H H1 → Q (.bl (canSettle m.pr (m.hd i) c)) H1) : spSettles [.ref L.w, .ref p, nv c] H Q E := by
  unfold spSettles
  exact ⟨O, L, m, rs, i, p, c, rfl, W, hp, hb, k⟩
theorem crash_w {O : Own} {H : Hp} {L : WL} {m : Wd} {rs : List Dd} {i : Nat} {p : Addr} {Q : VK} {E : XK} (W : WorldIn .law H O L m rs) (hp : L.ps[i]? = some p)
    (k : ∀ O1 H1, WorldIn .law H1 O1 L (m.set i ((m.hd i).crash m.pr)) rs → Stp dA O H O1 H1 → Q .non H1) : spCrash [.ref L.w, .ref p] H Q E := by
  unfold spCrash
  exact ⟨O, L, m, rs, i, p, rfl, W, hp, k⟩
section
variable {K : PySem.W.Frag} {x : Addr} {xs : List V} {j : Nat} {a b : Str} {u1 u : TS} {D : Ends} {σ : L2.St} {H : Hp}
theorem skipX (e : σ[j]? = some (some (.ref x))) (h : H x = some (.tup (.str a :: xs))) (n : a ≠ b) (k : u D σ H) : tSeq (tIfS (tTest (tOp rEq (tOp (rIxT K) (tVar j) (tC (.int 0))) (tC (.str b)))) u1 tNext) u D σ H :=
  ⟨_, e, x, _, 0, _, rfl, rfl, SqT.of h, atI_nat (j := 0) rfl, rfl, _, rfl, iteD (fun z => (str_no n z).elim) fun _ => k⟩
theorem hitX (e : σ[j]? = some (some (.ref x))) (h : H x = some (.tup (.str a :: xs))) (k : u1 { D with nx := u D } σ H) : tSeq (tIfS (tTest (tOp rEq (tOp (rIxT K) (tVar j) (tC (.int 0))) (tC (.str a)))) u1 tNext) u D σ H :=
  ⟨_, e, x, _, 0, _, rfl, rfl, SqT.of h, atI_nat (j := 0) rfl, rfl, _, rfl, iteD (fun _ => k) fun z => (z rfl).elim⟩
end
theorem im_to {H : Hp} {v : V} {l : Lt} (h : Im H l.data v) : ∃ b xs, v = .ref b ∧ H b = some (.tup (.str l.word :: nv l.term :: nv l.snd :: xs)) ∧ ((l.to? = none ∧ l.word ∉ (["give", "taken", "seen"] : List Str)) ∨ ∃ u r, l.to? = some u ∧ xs = nv u :: r ∧ l.word ∈ (["give", "taken", "seen"] : List Str)) := by
  cases l with
  | ask t s a b => obtain ⟨p, q, e, h1, _⟩ := im_ask.mp h; exact ⟨p, _, e, h1, .inl ⟨rfl, by dsimp only [Lt.word]; decide +kernel⟩⟩
  | give t s u => obtain ⟨p, e, h1⟩ := im_give.mp h; exact ⟨p, _, e, h1, .inr ⟨_, _, rfl, rfl, by dsimp only [Lt.word]; decide +kernel⟩⟩
  | rows t s a b c d => obtain ⟨p, q, e, h1, _⟩ := im_rows.mp h; exact ⟨p, _, e, h1, .inl ⟨rfl, by dsimp only [Lt.word]; decide +kernel⟩⟩
  | taken t s u c => obtain ⟨p, e, h1⟩ := im_taken.mp h; exact ⟨p, _, e, h1, .inr ⟨_, _, rfl, rfl, by dsimp only [Lt.word]; decide +kernel⟩⟩
  | see t s n => obtain ⟨p, e, h1⟩ := im_see.mp h; exact ⟨p, _, e, h1, .inl ⟨rfl, by dsimp only [Lt.word]; decide +kernel⟩⟩
  | seen t s u n => obtain ⟨p, e, h1⟩ := im_seen.mp h; exact ⟨p, _, e, h1, .inr ⟨_, _, rfl, rfl, by dsimp only [Lt.word]; decide +kernel⟩⟩
theorem canHear_none {i : Nat} {l : Lt} (h : l.to? = none) : canHear i l = decide (l.snd ≠ i) := by simp [canHear, h]
theorem canHear_some {i u : Nat} {l : Lt} (h : l.to? = some u) : canHear i l = (decide (l.snd ≠ i) && decide (u = i)) := by simp [canHear, h]
theorem dec_role {r : Role} (k : Role) : decide (V.str r.str = V.str k.str) = decide (r = k) := by
  by_cases e : r = k
  · rw [decide_eq_true e, decide_eq_true (role_iff.mpr e)]
  · rw [decide_eq_false e, decide_eq_false fun z => e (role_iff.mp z)]
@[irreducible] def spAble : Sp := fun vs H Q _ => ∃ O L m rs d v n, vs = [.ref (WL.w L), v] ∧ WorldIn .law H O L m rs ∧ Im H (Dd.data d) v ∧ d.hand < m.hs.length ∧ Fit n m ∧ n < big ∧ ∀ H', Same H H' → Q (.bl (m.able d)) H'
theorem sc_l_able : FnScope ["_law_world_here", "_law_deed", "_law_hand_here", "_law_letter"] ["_law_world_here", "_law_deed"] (defScope s_l_able) := ⟨rfl, rfl, rfl, by decide +kernel, rfl, by decide +kernel, by decide +kernel⟩
theorem ok_l_able (T : Tx w K mg) : FnI P w K mg base "_law_able" (5 + 1) ["_law_world_here", "_law_deed"] spAble := by
  refine FnI.mk' T.f_l_able T.g_l_able sc_l_able (fun _ _ _ _ _ _ us hl => match us, hl with | [_, _], _ => rfl) (fun vs H Q E h => ?_) (fun cdv A outer s H vs Q E hr h => ?_)
  all_goals unfold spAble at h
  · obtain ⟨_, _, _, _, _, _, _, rfl, _⟩ := h
    rfl
  · obtain ⟨O, L, m, rs, d, v, n, rfl, W, hv, hi, fit, hn, fin⟩ := h
    have hu := hu_of hr
    refine ⟨_, (pss_cons (ps_set (i := 2) sc_l_able.nd rfl (.inl rfl) (pe_ix (ixL K) (pe_dget hu (pv 0) pe_str (fun _ _ => rfl)) (pe_ix (ixT K) (pv 1) pe_int (fun _ _ => rfl)) (fun _ _ => rfl)))
      (pss_cons (ps_if (pt_cmpR op_eq (pe_ix (ixT K) (pv 1) pe_int (fun _ _ => rfl)) pe_str (nomark _)) (pss_cons (ps_if (pt_not (pt_chain op_le op_lt pe_int (pe_ix (ixT K) (pv 1) pe_int (fun _ _ => rfl)) (pe_callB (id := "len") (lenK K) (by rfl) T.n_len (by decide +kernel) (pa_cons (pe_dget hu (pv 0) pe_str (fun _ _ => rfl)) pa_nil)))) (pss_one (ps_ret pe_bl)) pss_nil)
      (pss_cons (ps_set (i := 3) sc_l_able.nd rfl (.inl rfl) (pe_ix (ixL K) (pe_dget hu (pv 0) pe_str (fun _ _ => rfl)) (pe_ix (ixT K) (pv 1) pe_int (fun _ _ => rfl)) (fun _ _ => rfl)))
      (pss_one (ps_ret (pe_and (pe_cmpR op_ne (pe_ix (ixT K) (pv 3) pe_int (fun _ _ => rfl)) (pe_ix (ixT K) (pv 1) pe_int (fun _ _ => rfl)) (nomark _)) (pe_one (pe_or (pe_cmpR op_notIn_seq (pe_ix (ixT K) (pv 3) pe_int (fun _ _ => rfl)) (pe_tup (pa_cons pe_str (pa_cons pe_str (pa_cons pe_str pa_nil)))) rfl) (pe_one (pe_cmpR op_eq (pe_ix (ixT K) (pv 3) pe_int (fun _ _ => rfl)) (pe_ix (ixT K) (pv 1) pe_int (fun _ _ => rfl)) (nomark _)))))))))) pss_nil)
      (pss_cons (ps_if (pt_cmpR op_eq (pe_ix (ixT K) (pv 1) pe_int (fun _ _ => rfl)) pe_str (nomark _)) (pss_one (ps_ret pe_bl)) pss_nil)
      (pss_cons (ps_if (pt_cmpR op_eq (pe_ix (ixT K) (pv 1) pe_int (fun _ _ => rfl)) pe_str (nomark _)) (pss_one (ps_ret (pe_cmpR op_ne (pe_dget hu (pv 2) pe_str (fun _ _ => rfl)) pe_str (nomark _)))) pss_nil)
      (pss_cons (ps_if (pt_cmpR op_eq (pe_ix (ixT K) (pv 1) pe_int (fun _ _ => rfl)) pe_str (nomark _)) (pss_one (ps_ret (pe_and (pe_cmpR op_eq (pe_dget hu (pv 2) pe_str (fun _ _ => rfl)) pe_str (nomark _)) (pe_one (pe_cmpR op_ge (pe_callB (id := "len") (lenK K) (by rfl) T.n_len (by decide +kernel) (pa_cons (pe_dget hu (pv 2) pe_str (fun _ _ => rfl)) pa_nil)) (pe_ix (ixT K) (pe_dget hu (pv 0) pe_str (fun _ _ => rfl)) pe_int (fun _ _ => rfl)) (nomark _)))))) pss_nil)
      (pss_cons (ps_if (pt_cmpR op_ne (pe_dget hu (pv 2) pe_str (fun _ _ => rfl)) pe_str (nomark _)) (pss_one (ps_ret pe_bl)) pss_nil)
      (pss_cons (ps_if (pt_cmpR op_eq (pe_ix (ixT K) (pv 1) pe_int (fun _ _ => rfl)) pe_str (nomark _)) (pss_one (ps_ret (pe_chain op_le op_le pe_int (pe_ix (ixT K) (pv 1) pe_int (fun _ _ => rfl)) pe_int))) pss_nil)
      (pss_cons (ps_if (pt_cmpR op_eq (pe_ix (ixT K) (pv 1) pe_int (fun _ _ => rfl)) pe_str (nomark _)) (pss_one (ps_ret (pe_and (pe_cmpR op_ge (pe_ix (ixT K) (pv 1) pe_int (fun _ _ => rfl)) pe_int (nomark _)) (pe_and (pe_cmpR op_ge (pe_ix (ixT K) (pv 1) pe_int (fun _ _ => rfl)) pe_int (nomark _)) (pe_one (pe_cmpR op_le (pe_op op_add (pe_ix (ixT K) (pv 1) pe_int (fun _ _ => rfl)) (pe_ix (ixT K) (pv 1) pe_int (fun _ _ => rfl))) (pe_callB (id := "len") (lenK K) (by rfl) T.n_len (by decide +kernel) (pa_cons (pe_dget hu (pv 2) pe_str (fun _ _ => rfl)) pa_nil)) (nomark _))))))) pss_nil)
      (pss_cons (ps_if (pt_cmpR op_eq (pe_ix (ixT K) (pv 1) pe_int (fun _ _ => rfl)) pe_str (nomark _)) (pss_one (ps_ret (pe_callI (ok_l_settles T) hr (pa_cons (pv 0) (pa_cons (pv 2) (pa_cons (pe_ix (ixT K) (pv 1) pe_int (fun _ _ => rfl)) pa_nil)))))) pss_nil)
      (pss_cons (ps_if (pt_cmpR op_eq (pe_ix (ixT K) (pv 1) pe_int (fun _ _ => rfl)) pe_str (nomark _)) (pss_one (ps_ret pe_bl)) pss_nil)
      (pss_cons (ps_if (pw_or (pt_cmp (pc_dnotin hu (pe_ix (ixT K) (pv 1) pe_int (fun _ _ => rfl)) (pe_dget hu (pv 2) pe_str (fun _ _ => rfl)))) (pw_or1 (pt_cmpR op_lt (pe_callB (id := "len") (lenK K) (by rfl) T.n_len (by decide +kernel) (pa_cons (pe_dget hu (pe_dget hu (pv 2) pe_str (fun _ _ => rfl)) (pe_ix (ixT K) (pv 1) pe_int (fun _ _ => rfl)) (fun _ _ => rfl)) pa_nil)) (pe_ix (ixT K) (pe_dget hu (pv 0) pe_str (fun _ _ => rfl)) pe_int (fun _ _ => rfl)) (nomark _)))).pt (pss_one (ps_ret pe_bl)) pss_nil)
      (pss_one (ps_ret (pe_or (pe_not (pe_callI (ok_l_has T) hr (pa_cons (pv 0) (pa_cons pe_str pa_nil)))) (pe_one (pe_cmpR op_ge (pe_dget hu (pv 2) pe_str (fun _ _ => rfl)) (pe_dget hu (pv 2) pe_str (fun _ _ => rfl)) (nomark _))))))))))))))))), ?_⟩
    obtain ⟨p, hp⟩ := W.get hi
    obtain ⟨M, B⟩ := W.at_ hp
    have fr := fin H (Same.refl H)
    have f1 := fit.hd d.hand
    obtain ⟨b, rfl, hvb⟩ := im_deed.mp hv
    have hps : (L.ps.map V.ref)[d.hand]? = some (.ref p) := by rw [List.getElem?_map, hp]; rfl
    refine ⟨_, rfl, L.w, _, rfl, dw_hands W.ob, _, rfl, b, _, 1, _, rfl, rfl, SqT.of hvb, atI_nat (j := 1) rfl, _, _, _, _, rfl, rfl, SqL.of W.hs, atI_nat hps, ?_⟩
    dsimp only
    obtain ⟨pa, pq, epr, hpr, _⟩ := im_pr.mp W.pr
    cases d with
    | hear i k =>
      dsimp only [Dd.word, Dd.hand, Dd.nums, List.map] at *
      obtain ⟨as, la, lb, _⟩ := W.lts
      have ll : (as.map V.ref).length = m.lts.length := lb.length.trans (List.length_map ..)
      refine hitX rfl hvb ?_
      refine ⟨_, rfl, b, _, 2, _, rfl, rfl, SqT.of hvb, rfl, _, _, rfl, rfl, _, rfl, iteD (fun _ => ?_) (fun z => (z (by omega)).elim)⟩
      refine ⟨_, rfl, L.w, _, rfl, dw_letters W.ob, _, _, rfl, .inl (SqL.of la), _, _, rfl, rfl, _, rfl, iteND (fun e1 => ?_) (fun e1 => ?_)⟩
      · rw [ll] at e1
        have e : m.able (.hear i k) = false := by have := List.getElem?_eq_none (show m.lts.length ≤ k by omega); simp [Wd.able, this]
        rw [e] at fr
        exact fr
      rw [ll] at e1
      have hk : k < m.lts.length := by omega
      obtain ⟨v, hv1, hv2⟩ := lb.get (i := k) (d := m.lts[k].data) (by simp [hk])
      have e : m.able (.hear i k) = canHear i m.lts[k] := by simp [Wd.able, List.getElem?_eq_getElem hk]
      rw [e] at fr
      obtain ⟨b2, xs, rfl, hb2, ht⟩ := im_to hv2
      refine ⟨_, rfl, L.w, _, rfl, dw_letters W.ob, _, rfl, b, _, 2, _, rfl, rfl, SqT.of hvb, rfl, _, _, _, _, rfl, rfl, SqL.of la, atI_nat hv1, ?_⟩
      refine ⟨_, rfl, b2, _, 2, _, rfl, rfl, SqT.of hb2, atI_nat (j := 2) rfl, _, rfl, b, _, 1, _, rfl, rfl, SqT.of hvb, rfl, rfl, _, rfl, ?_⟩
      rw [dec_nv]
      refine iteND (fun e2 => ?_) (fun e2 => ?_)
      rotate_left
      · have e3 : canHear i m.lts[k] = false := by simp [canHear, e2]
        rw [e3] at fr
        exact fr
      refine ⟨_, rfl, b2, _, 0, _, rfl, rfl, SqT.of hb2, atI_nat (j := 0) rfl, by show 3 ≤ sizeLine; decide, fun T hT => ?_⟩
      have sm := same_new (o := .tup [.str "give", .str "taken", .str "seen"]) hT
      have fr := fin _ sm
      rw [e] at fr
      refine ⟨T, _, rfl, .inr (SqT.of upd_same), rfl, rfl, _, rfl, ?_⟩
      show (if (!inV (.str (m.lts[k]).word) ((["give", "taken", "seen"] : List Str).map V.str)) = true then _ else _)
      rw [inV_strs]
      rcases ht with ⟨h1, h2⟩ | ⟨u, r, h1, rfl, h2⟩
      · rw [canHear_none h1, decide_eq_true e2] at fr
        refine iteND (fun _ => fr) (fun z => (h2 z).elim)
      · rw [canHear_some h1, decide_eq_true e2, Bool.true_and, ← dec_nv] at fr
        refine iteND (fun z => (z h2).elim) (fun _ => ?_)
        exact ⟨_, rfl, b2, _, 3, _, rfl, rfl, SqT.of (sm _ _ hb2), atI_nat (j := 3) rfl, _, rfl, b, _, 1, _, rfl, rfl, SqT.of (sm _ _ hvb), rfl, rfl, fr⟩
    | crash i =>
      dsimp only [Dd.word, Dd.hand, Dd.nums, List.map] at *
      refine skipX rfl hvb (by decide +kernel) (hitX rfl hvb fr)
    | stand i =>
      dsimp only [Dd.word, Dd.hand, Dd.nums, List.map] at *
      refine skipX rfl hvb (by decide +kernel) (skipX rfl hvb (by decide +kernel) (hitX rfl hvb ?_))
      refine ⟨_, rfl, p, _, rfl, dg_role B.obL, rfl, ?_⟩
      have e : (!decide (V.str (m.hd i).role.str = V.str (Role.str .leads))) = m.able (.stand i) := by rw [dec_role, ← decide_not]; rfl
      rw [← e] at fr
      exact fr
    | lead i =>
      dsimp only [Dd.word, Dd.hand, Dd.nums, List.map] at *
      refine skipX rfl hvb (by decide +kernel) (skipX rfl hvb (by decide +kernel) (skipX rfl hvb (by decide +kernel) (hitX rfl hvb ?_)))
      refine ⟨_, rfl, p, _, rfl, dg_role B.obL, rfl, _, rfl, iteD (fun e1 => ?_) (fun e1 => ?_)⟩
      rotate_left
      · have e : m.able (.lead i) = false := by simp [Wd.able, show ¬ (m.hd i).role = .asks from fun z => e1 (role_iff (k := .asks).mpr z)]
        rw [e] at fr
        exact fr
      have e : m.able (.lead i) = decide (m.pr.votes ≤ (m.hd i).got.length) := by simp [Wd.able, show (m.hd i).role = .asks from role_iff (k := .asks).mp e1]
      refine ⟨_, rfl, p, _, rfl, dg_got B.obL, M.g, _, rfl, .inl (SqL.of B.h.got), _, rfl, L.w, _, rfl, dw_protocol W.ob, _, _, 1, _, epr, rfl, SqT.of hpr, rfl, _, _, rfl, rfl, ?_⟩
      rw [e, ← dec_int] at fr
      rw [List.length_map]
      exact fr
    | put i k =>
      dsimp only [Dd.word, Dd.hand, Dd.nums, List.map] at *
      refine skipX rfl hvb (by decide +kernel) (skipX rfl hvb (by decide +kernel) (skipX rfl hvb (by decide +kernel) (skipX rfl hvb (by decide +kernel) ?_)))
      refine ⟨_, rfl, p, _, rfl, dg_role B.obL, rfl, _, rfl, iteND (fun e1 => ?_) (fun e1 => ?_)⟩
      · have e : m.able (.put i k) = false := by simp [Wd.able, show ¬ (m.hd i).role = .leads from fun z => e1 (role_iff (k := .leads).mpr z)]
        rw [e] at fr
        exact fr
      refine hitX rfl hvb ?_
      have e : m.able (.put i k) = decide (k ≤ 9) := by simp [Wd.able, show (m.hd i).role = .leads from role_iff (k := .leads).mp e1]
      rw [e] at fr
      refine ⟨_, rfl, b, _, 2, _, rfl, rfl, SqT.of hvb, rfl, _, _, rfl, rfl, _, rfl, iteD (fun _ => ?_) (fun z => (z (by omega)).elim)⟩
      refine ⟨_, _, rfl, rfl, ?_⟩
      rw [← dec_int] at fr
      exact fr
    | send i k k2 =>
      dsimp only [Dd.word, Dd.hand, Dd.nums, List.map] at *
      refine skipX rfl hvb (by decide +kernel) (skipX rfl hvb (by decide +kernel) (skipX rfl hvb (by decide +kernel) (skipX rfl hvb (by decide +kernel) ?_)))
      refine ⟨_, rfl, p, _, rfl, dg_role B.obL, rfl, _, rfl, iteND (fun e1 => ?_) (fun e1 => ?_)⟩
      · have e : m.able (.send i k k2) = false := by simp [Wd.able, show ¬ (m.hd i).role = .leads from fun z => e1 (role_iff (k := .leads).mpr z)]
        rw [e] at fr
        exact fr
      refine skipX rfl hvb (by decide +kernel) (hitX rfl hvb ?_)
      have e : m.able (.send i k k2) = decide (k + k2 ≤ (m.hd i).log.length) := by simp [Wd.able, show (m.hd i).role = .leads from role_iff (k := .leads).mp e1]
      rw [e] at fr
      obtain ⟨xs, hx, hlog⟩ := im_logr.mp B.h.log
      refine ⟨_, rfl, b, _, 2, _, rfl, rfl, SqT.of hvb, rfl, _, _, rfl, rfl, _, rfl, iteD (fun _ => ?_) (fun z => (z (by omega)).elim)⟩
      refine ⟨_, rfl, b, _, 3, _, rfl, rfl, SqT.of hvb, rfl, _, _, rfl, rfl, _, rfl, iteD (fun _ => ?_) (fun z => (z (by omega)).elim)⟩
      refine ⟨_, rfl, b, _, 2, _, rfl, rfl, SqT.of hvb, rfl, _, rfl, b, _, 3, _, rfl, rfl, SqT.of hvb, rfl, _, _, rfl, rfl, _, rfl, p, _, rfl, dg_log B.obL, _, xs, rfl, .inr (SqT.of hx), _, _, rfl, rfl, ?_⟩
      rw [hlog.length]
      rw [← dec_int] at fr
      exact fr
    | settle i c =>
      dsimp only [Dd.word, Dd.hand, Dd.nums, List.map] at *
      refine skipX rfl hvb (by decide +kernel) (skipX rfl hvb (by decide +kernel) (skipX rfl hvb (by decide +kernel) (skipX rfl hvb (by decide +kernel) ?_)))
      refine ⟨_, rfl, p, _, rfl, dg_role B.obL, rfl, _, rfl, iteND (fun e1 => ?_) (fun e1 => ?_)⟩
      · have e : m.able (.settle i c) = false := by simp [Wd.able, show ¬ (m.hd i).role = .leads from fun z => e1 (role_iff (k := .leads).mpr z)]
        rw [e] at fr
        exact fr
      refine skipX rfl hvb (by decide +kernel) (skipX rfl hvb (by decide +kernel) (hitX rfl hvb ?_))
      have e : m.able (.settle i c) = canSettle m.pr (m.hd i) c := by simp [Wd.able, show (m.hd i).role = .leads from role_iff (k := .leads).mp e1]
      rw [e] at fin
      exact ⟨_, rfl, _, rfl, _, rfl, b, _, 2, _, rfl, rfl, SqT.of hvb, rfl, settles_w W hp (Nat.lt_of_le_of_lt f1.known hn) fin⟩
    | wish i =>
      dsimp only [Dd.word, Dd.hand, Dd.nums, List.map] at *
      refine skipX rfl hvb (by decide +kernel) (skipX rfl hvb (by decide +kernel) (skipX rfl hvb (by decide +kernel) (skipX rfl hvb (by decide +kernel) ?_)))
      refine ⟨_, rfl, p, _, rfl, dg_role B.obL, rfl, _, rfl, iteND (fun e1 => ?_) (fun e1 => ?_)⟩
      · have e : m.able (.wish i) = false := by simp [Wd.able, show ¬ (m.hd i).role = .leads from fun z => e1 (role_iff (k := .leads).mpr z)]
        rw [e] at fr
        exact fr
      have e : m.able (.wish i) = true := by simp [Wd.able, show (m.hd i).role = .leads from role_iff (k := .leads).mp e1]
      rw [e] at fr
      exact skipX rfl hvb (by decide +kernel) (skipX rfl hvb (by decide +kernel) (skipX rfl hvb (by decide +kernel) (hitX rfl hvb fr)))
    | answer i k =>
      dsimp only [Dd.word, Dd.hand, Dd.nums, List.map] at *
      refine skipX rfl hvb (by decide +kernel) (skipX rfl hvb (by decide +kernel) (skipX rfl hvb (by decide +kernel) (skipX rfl hvb (by decide +kernel) ?_)))
      refine ⟨_, rfl, p, _, rfl, dg_role B.obL, rfl, _, rfl, iteND (fun e1 => ?_) (fun e1 => ?_)⟩
      · have e : m.able (.answer i k) = false := by simp [Wd.able, show ¬ (m.hd i).role = .leads from fun z => e1 (role_iff (k := .leads).mpr z)]
        rw [e] at fr
        exact fr
      refine skipX rfl hvb (by decide +kernel) (skipX rfl hvb (by decide +kernel) (skipX rfl hvb (by decide +kernel) (skipX rfl hvb (by decide +kernel) ?_)))
      have e : m.able (.answer i k) = canAnswer m.pr (m.hd i) k := by simp [Wd.able, show (m.hd i).role = .leads from role_iff (k := .leads).mp e1]
      rw [e] at fr
      generalize m.hd i = g at *
      have ew : g.wishes = M.ws.map (mv (Prod.fst (α := List Nat) (β := Addr))) := B.h.ws
      have ev : valV (M.ws.map wK) (.inl (k : Int)) = (alook M.ws k).map (fun y => V.ref y.2) := by rw [wK_eq, valV_kx]
      have el : alook g.wishes k = (alook M.ws k).map Prod.fst := by rw [ew, alook_mv]
      refine ⟨_, rfl, b, _, 2, _, rfl, rfl, SqT.of hvb, rfl, _, rfl, p, _, rfl, dg_wishes B.obL, M.w, _, rfl, DGet.k (k := .inl (k : Int)) B.h.wi, _, rfl, ?_⟩
      rw [ev]
      cases ea : alook M.ws k with
      | none =>
        rw [ea] at el
        have e3 : canAnswer m.pr g k = false := by unfold canAnswer; rw [el]; rfl
        rw [e3] at fr
        exact iteT (iteT fr)
      | some y =>
        obtain ⟨l, a⟩ := y
        rw [ea] at el ev
        have hsn := B.h.sn _ (alook_mem ea)
        dsimp only at hsn
        have e3 : canAnswer m.pr g k = (decide (m.pr.seers ≤ l.length) && (!m.pr.has "first" || decide (g.begun ≤ g.told))) := by unfold canAnswer; rw [el]; rfl
        rw [e3] at fr
        refine iteF ?_
        refine ⟨_, rfl, p, _, rfl, dg_wishes B.obL, _, rfl, b, _, 2, _, rfl, rfl, SqT.of hvb, rfl, M.w, _, rfl, by have := DGet.k (k := .inl (k : Int)) B.h.wi; rw [ev] at this; exact this, a, _, rfl, .inl (SqL.of hsn.1), ?_⟩
        refine ⟨_, rfl, L.w, _, rfl, dw_protocol W.ob, _, _, 3, _, epr, rfl, SqT.of hpr, rfl, _, _, rfl, rfl, _, rfl, ?_⟩
        rw [List.length_map]
        refine iteD (fun e4 => ?_) (fun e4 => ?_)
        · rw [decide_eq_false (show ¬ m.pr.seers ≤ l.length by omega), Bool.false_and] at fr
          exact fr
        rw [decide_eq_true (show m.pr.seers ≤ l.length by omega), Bool.true_and] at fr
        refine ⟨_, rfl, has_w W ⟨_, rfl, _, rfl, iteN (fun e5 => ?_) (fun e5 => ?_)⟩⟩
        · rw [show m.pr.has "first" = false from e5] at fr
          exact fr
        · rw [show m.pr.has "first" = true from e5, ← dec_int] at fr
          exact ⟨_, rfl, p, _, rfl, dg_told B.obL, _, rfl, p, _, rfl, dg_begun B.obL, _, _, rfl, rfl, fr⟩
end
end Sr

set_option Elab.async false
set_option linter.all false
set_option maxRecDepth 100000
set_option maxHeartbeats 4000000
namespace Sr
open PySem PySem.Spec PyProof.Rows L2
local macro_rules | `(tactic| walk_at "hp") => `(tactic| (unfold upd at *; grind))
section
variable {P : Program} {w : World} {base : Heap} {K : PySem.W.Frag} {mg : Str → Option Value}
section
variable {j : Nat} {a b : Str} {u1 u2 : TS} {D : Ends} {σ : L2.St} {H : Hp}
theorem skipE (e : σ[j]? = some (some (.str a))) (n : a ≠ b) (k : u2 D σ H) : tIfS (tTest (tOp rEq (tVar j) (tC (.str b)))) u1 u2 D σ H :=
  ⟨_, e, rfl, _, rfl, iteD (fun z => (str_no n z).elim) fun _ => k⟩
theorem hitE (e : σ[j]? = some (some (.str a))) (k : u1 D σ H) : tIfS (tTest (tOp rEq (tVar j) (tC (.str a)))) u1 u2 D σ H :=
  ⟨_, e, rfl, _, rfl, iteD (fun _ => k) fun z => (z rfl).elim⟩
end
section
variable {S : Side} {O O1 : Own} {H H1 : Hp} {L : WL} {m : Wd} {rs : List Dd} {i : Nat} {p a : Addr} {h : Hd} {M : HL} {o : HO} {c : Cell}
theorem HandIn.kept (W : HandIn S H O i p h M) (mono : ∀ b c, O b = some c → O1 b = some c) (same : ∀ b c, O b = some c → H1 b = H b) (tk : Tk H H1) : HandIn S H1 O1 i p h M where
  ob := Side.obj_eq (same _ _ W.op) W.ob
  op := mono _ _ W.op
  log := Im.keep tk _ _ W.log
  got := (same _ _ W.og).trans W.got
  og := mono _ _ W.og
  kn := (same _ _ W.ok).trans W.kn
  ok := mono _ _ W.ok
  ws := W.ws
  wi := (same _ _ W.ow).trans W.wi
  ow := mono _ _ W.ow
  sn := fun x hx => ⟨(same _ _ (W.sn x hx).2).trans (W.sn x hx).1, mono _ _ (W.sn x hx).2⟩
/-- a new object of this hand's -/
theorem At.own (A : At S H O L m rs i p h M) (ha : H a = none) (hc : c.ix = some i) (n : NoTup o) : At S (upd H a o) (updO O a c) L m rs i p h M ∧ Stp (dH i) O H (updO O a c) (upd H a o) ∧ (updO O a c) a = some c ∧ (upd H a o) a = some o := by
  have s : Stp (dH i) O H (updO O a c) (upd H a o) := Stp.own A.al ha hc n
  refine ⟨A.mov (D := dH i) s (A.h.kept s.mono (fun b c e => ?_) (s.tk A.al)), s, updO_same, upd_same⟩
  exact upd_ne (A.al.ne e ha)
/-- the hand's object written, another list of those it has got -/
theorem At.reGot (A : At .law H O L m rs i p h M) (h' : Hd) (g : Addr) (hg : H g = some (setL h'.got)) (og : O g = some (.got i)) (e0 : h'.log = h.log := by rfl) (e2 : h'.known = h.known := by rfl) (e3 : h'.wishes = h.wishes := by rfl) :
    At .law (upd H p (.dK (rh h' { M with g := g }).kvs)) O L m rs i p h' { M with g := g } ∧ Stp (dH i) O H O (upd H p (.dK (rh h' { M with g := g }).kvs)) := by
  have W := A.h
  have s : Stp (dH i) O H O (upd H p (.dK (rh h' { M with g := g }).kvs)) := Stp.put A.al W.op rfl noTup_dK
  have ne : ∀ {b : Addr} {c : Cell}, O b = some c → c ≠ .hand i → b ≠ p := fun h1 n => own_ne h1 W.op n
  refine ⟨A.mov (D := dH i) s ?_, s⟩
  exact {
    ob := upd_same
    op := W.op
    log := by rw [e0]; exact Im.keep (s.tk A.al) _ _ W.log
    got := by rw [upd_ne (ne og (by intro z; cases z))]; exact hg
    og := og
    kn := by rw [e2, upd_ne (ne W.ok (by intro z; cases z))]; exact W.kn
    ok := W.ok
    ws := e3.trans W.ws
    wi := by rw [upd_ne (ne W.ow (by intro z; cases z))]; exact W.wi
    ow := W.ow
    sn := fun x hx => ⟨by rw [upd_ne (ne (W.sn x hx).2 (by intro z; cases z))]; exact (W.sn x hx).1, (W.sn x hx).2⟩ }
end
@[irreducible] def spDo : Sp := fun vs H Q _ => ∃ O L m rs d v n, vs = [.ref (WL.w L), v] ∧ WorldIn .law H O L m rs ∧ Im H (Dd.data d) v ∧ d.hand < m.hs.length ∧ LookOk m.pr ∧ Fit n m ∧ n < big ∧ rs.length < big ∧ m.able d = true ∧
  ∀ O' H', WorldIn .law H' O' L (m.do d) (rs ++ [d]) → Stp dA O H O' H' → Q .non H'
theorem sc_l_do : FnScope ["_law_world_here", "_law_deed", "_law_word", "_law_number_here", "_law_hand_here", "_law_at", "_law_log", "_law_ahead", "_law_wish"] ["_law_world_here", "_law_deed"] (defScope s_l_do) := ⟨rfl, rfl, rfl, by decide +kernel, rfl, by decide +kernel, by decide +kernel⟩
theorem ok_l_do (T : Tx w K mg) : FnI P w K mg base "_law_do" (6 + 1) ["_law_world_here", "_law_deed"] spDo := by
  refine FnI.mk' T.f_l_do T.g_l_do sc_l_do (fun _ _ _ _ _ _ us hl => match us, hl with | [_, _], _ => rfl) (fun vs H Q E h => ?_) (fun cdv A outer s H vs Q E hr h => ?_)
  all_goals unfold spDo at h
  · obtain ⟨_, _, _, _, _, _, _, rfl, _⟩ := h
    rfl
  · obtain ⟨O, L, m, rs, d, v, n, rfl, W, hv, hi, hlook, fit, hn, hrs, hab, fin⟩ := h
    have hu := hu_of hr
    refine ⟨_, (pss_cons (ps_expr (pe_bm PySem.F.plainAttrs_list PySem.F.slot_list_append PySem.F.type_list_append mt_append (pe_dget hu (pv 0) pe_str (fun _ _ => rfl)) (pa_cons (pv 1) pa_nil)))
      (pss_cons (ps_par (i := 2) (j := 3) rfl sc_l_do.nd rfl rfl (by decide) rfl rfl (pa_cons (pe_ix (ixT K) (pv 1) pe_int (fun _ _ => rfl)) (pa_cons (pe_ix (ixT K) (pv 1) pe_int (fun _ _ => rfl)) pa_nil)) rfl)
      (pss_cons (ps_set (i := 4) sc_l_do.nd rfl (.inl rfl) (pe_ix (ixL K) (pe_dget hu (pv 0) pe_str (fun _ _ => rfl)) (pv 3) (fun _ _ => rfl)))
      (pss_one (ps_if (pt_cmpR op_eq (pv 2) pe_str (nomark _)) (pss_cons (ps_expr (pe_callI (ok_l_role T) hr (pa_cons (pv 4) (pa_cons pe_str pa_nil))))
      (pss_cons (ps_asg (pe_tup (pa_cons (pe_op op_add (pe_dget hu (pv 4) pe_str (fun _ _ => rfl)) pe_int) (pa_cons (pv 3) (pa_cons (pe_lst (pa_cons (pv 3) pa_nil)) pa_nil)))) (pg_tup rfl (pgs_cons (pg_sub (pv 4) pe_str (set_dict hu)) (pgs_cons (pg_sub (pv 4) pe_str (set_dict hu)) (pgs_cons (pg_sub (pv 4) pe_str (set_dict hu)) pgs_nil)))))
      (pss_one (ps_expr (pe_callI (ok_l_post T) hr (pa_cons (pv 0) (pa_cons (pe_tup (pa_cons pe_str (pa_cons (pe_dget hu (pv 4) pe_str (fun _ _ => rfl)) (pa_cons (pv 3) (pa_cons (pe_callI (ok_l_pair T) hr (pa_cons (pv 4) pa_nil)) pa_nil))))) pa_nil))))))) (pss_one (ps_if (pt_cmpR op_eq (pv 2) pe_str (nomark _)) (pss_cons (ps_expr (pe_bm PySem.F.plainAttrs_list PySem.F.slot_list_append PySem.F.type_list_append mt_append (pe_dget hu (pv 0) pe_str (fun _ _ => rfl)) (pa_cons (pe_tup (pa_cons (pe_dget hu (pv 4) pe_str (fun _ _ => rfl)) (pa_cons (pv 3) (pa_cons (pe_dget hu (pv 4) pe_str (fun _ _ => rfl)) pa_nil)))) pa_nil)))
      (pss_cons (ps_expr (pe_callI (ok_l_role T) hr (pa_cons (pv 4) (pa_cons pe_str pa_nil))))
      (pss_one (ps_dput hu (pv 4) pe_str (pe_callB (id := "len") (lenK K) (by rfl) T.n_len (by decide +kernel) (pa_cons (pe_dget hu (pv 4) pe_str (fun _ _ => rfl)) pa_nil)) rfl)))) (pss_one (ps_if (pt_cmpR op_eq (pv 2) pe_str (nomark _)) (pss_one (ps_dput hu (pv 4) pe_str (pe_op op_catA (pe_dget hu (pv 4) pe_str (fun _ _ => rfl)) (pe_tup (pa_cons (pe_tup (pa_cons (pe_dget hu (pv 4) pe_str (fun _ _ => rfl)) (pa_cons (pe_ix (ixT K) (pv 1) pe_int (fun _ _ => rfl)) pa_nil))) pa_nil))) rfl)) (pss_one (ps_if (pt_cmpR op_eq (pv 2) pe_str (nomark _)) (pss_cons (ps_par (i := 5) (j := 6) rfl sc_l_do.nd rfl rfl (by decide) rfl rfl (pa_cons (pe_ix (ixT K) (pv 1) pe_int (fun _ _ => rfl)) (pa_cons (pe_dget hu (pv 4) pe_str (fun _ _ => rfl)) pa_nil)) rfl)
      (pss_cons (ps_set (i := 7) sc_l_do.nd rfl (.inl rfl) (pe_ifExp (pt_cmpR op_gt (pv 5) pe_int (nomark _)) (pe_ix (ixT K) (pe_ix (ixT K) (pv 6) (pe_op op_sub (pv 5) pe_int) (fun _ _ => rfl)) pe_int (fun _ _ => rfl)) pe_int))
      (pss_one (ps_expr (pe_callI (ok_l_post T) hr (pa_cons (pv 0) (pa_cons (pe_tup (pa_cons pe_str (pa_cons (pe_dget hu (pv 4) pe_str (fun _ _ => rfl)) (pa_cons (pv 3) (pa_cons (pv 5) (pa_cons (pv 7) (pa_cons (pe_slice (slT K) (pv 6) (po_some (pv 5)) (po_some (pe_op op_add (pv 5) (pe_ix (ixT K) (pv 1) pe_int (fun _ _ => rfl))))) (pa_cons (pe_dget hu (pv 4) pe_str (fun _ _ => rfl)) pa_nil)))))))) pa_nil))))))) (pss_one (ps_if (pt_cmpR op_eq (pv 2) pe_str (nomark _)) (pss_cons (ps_dput hu (pv 4) pe_str (pe_ix (ixT K) (pv 1) pe_int (fun _ _ => rfl)) rfl)
      (pss_cons (ps_expr (pe_bm PySem.F.plainAttrs_list PySem.F.slot_list_append PySem.F.type_list_append mt_append (pe_dget hu (pv 0) pe_str (fun _ _ => rfl)) (pa_cons (pe_tup (pa_cons (pe_dget hu (pv 4) pe_str (fun _ _ => rfl)) (pa_cons (pv 3) (pa_cons (pe_slice (slT K) (pe_dget hu (pv 4) pe_str (fun _ _ => rfl)) po_none (po_some (pe_ix (ixT K) (pv 1) pe_int (fun _ _ => rfl)))) pa_nil)))) pa_nil)))
      (pss_one (ps_expr (pe_callI (ok_l_act T) hr (pa_cons (pv 0) (pa_cons (pv 4) (pa_cons (pv 3) (pa_cons (pe_ix (ixT K) (pv 1) pe_int (fun _ _ => rfl)) pa_nil))))))))) (pss_one (ps_if (pt_cmpR op_eq (pv 2) pe_str (nomark _)) (pss_one (ps_expr (pe_callI (ok_l_crash T) hr (pa_cons (pv 0) (pa_cons (pv 4) pa_nil))))) (pss_one (ps_if (pt_cmpR op_eq (pv 2) pe_str (nomark _)) (pss_one (ps_expr (pe_callI (ok_l_hear T) hr (pa_cons (pv 0) (pa_cons (pv 4) (pa_cons (pv 3) (pa_cons (pe_ix (ixL K) (pe_dget hu (pv 0) pe_str (fun _ _ => rfl)) (pe_ix (ixT K) (pv 1) pe_int (fun _ _ => rfl)) (fun _ _ => rfl)) pa_nil))))))) (pss_one (ps_if (pt_cmpR op_eq (pv 2) pe_str (nomark _)) (pss_cons (ps_set (i := 8) sc_l_do.nd rfl (.inl rfl) (pe_callB (id := "len") (lenK K) (by rfl) T.n_len (by decide +kernel) (pa_cons (pe_dget hu (pv 0) pe_str (fun _ _ => rfl)) pa_nil)))
      (pss_cons (ps_expr (pe_bm PySem.F.plainAttrs_list PySem.F.slot_list_append PySem.F.type_list_append mt_append (pe_dget hu (pv 0) pe_str (fun _ _ => rfl)) (pa_cons (pe_callB (id := "len") (lenK K) (by rfl) T.n_len (by decide +kernel) (pa_cons (pe_dget hu (pv 0) pe_str (fun _ _ => rfl)) pa_nil)) pa_nil)))
      (pss_cons (ps_dput hu (pe_dget hu (pv 4) pe_str (fun _ _ => rfl)) (pv 8) (pe_lst (pa_cons (pv 3) pa_nil)) rfl)
      (pss_one (ps_expr (pe_callI (ok_l_post T) hr (pa_cons (pv 0) (pa_cons (pe_tup (pa_cons pe_str (pa_cons (pe_dget hu (pv 4) pe_str (fun _ _ => rfl)) (pa_cons (pv 3) (pa_cons (pv 8) pa_nil))))) pa_nil)))))))) (pss_cons (ps_expr (pe_dpop1 (pe_dget hu (pv 4) pe_str (fun _ _ => rfl)) (pe_ix (ixT K) (pv 1) pe_int (fun _ _ => rfl)) ⟨rfl, rfl, rfl, rfl⟩))
      (pss_one (ps_expr (pe_bm PySem.F.plainAttrs_list PySem.F.slot_list_append PySem.F.type_list_append mt_append (pe_dget hu (pv 0) pe_str (fun _ _ => rfl)) (pa_cons (pe_tup (pa_cons (pe_ix (ixT K) (pv 1) pe_int (fun _ _ => rfl)) (pa_cons (pv 3) (pa_cons (pe_slice (slT K) (pe_dget hu (pv 4) pe_str (fun _ _ => rfl)) po_none (po_some (pe_dget hu (pv 4) pe_str (fun _ _ => rfl)))) pa_nil)))) pa_nil)))))))))))))))))))))))), ?_⟩
    obtain ⟨as, _, _, vs, hrun, hrun2⟩ := W.lts
    have hlen : vs.length < sizeLine := by
      have := hrun2.length
      rw [List.length_map] at this
      rw [this]
      exact big_line hrs
    obtain ⟨b, rfl, hvb⟩ := im_deed.mp hv
    refine ⟨_, rfl, L.w, _, rfl, dw_run W.ob, .inl ⟨rfl, _, SqL.of hrun⟩, _, rfl, _, _, _, rfl, rfl, hrun, hlen, ?_⟩
    obtain ⟨W1, S1⟩ := W.app_run (d := d) hrun hrun2 hv
    have hvb1 := S1.tk W.al _ _ hvb
    have S1 := S1.all
    generalize upd H L.x (.lst (vs ++ [.ref b])) = H1 at *
    obtain ⟨p, hp⟩ := W1.get hi
    have hps : (L.ps.map V.ref)[d.hand]? = some (.ref p) := by rw [List.getElem?_map, hp]; rfl
    refine ⟨_, rfl, b, _, 0, _, rfl, rfl, SqT.of hvb1, atI_nat (j := 0) rfl, _, rfl, b, _, 1, _, rfl, rfl, SqT.of hvb1, atI_nat (j := 1) rfl, _, _, rfl, ?_⟩
    refine ⟨_, rfl, L.w, _, rfl, dw_hands W1.ob, _, rfl, _, _, _, _, rfl, rfl, SqL.of W1.hs, atI_nat hps, ?_⟩
    dsimp only
    obtain ⟨M, B⟩ := W1.at_ hp
    have f1 := fit.hd d.hand
    have hb1 : m.lts.length < big := Nat.lt_of_le_of_lt fit.lts hn
    have hb2 : m.acts.length < big := Nat.lt_of_le_of_lt fit.acts hn
    have fin : ∀ O' H', WorldIn .law H' O' L (m.do d) (rs ++ [d]) → Stp dA O H1 O' H' → Q .non H' := fun O' H' a s => fin O' H' a (S1.trans s)
    cases d with
    | stand i =>
      dsimp only [Dd.word, Dd.hand, Dd.nums, List.map] at *
      have hi2 := W1.lt hp
      have em : m.do (.stand i) = (m.set i { (m.hd i).to .asks with term := (m.hd i).term + 1, vote := some i, got := [i] }).post (.ask ((m.hd i).term + 1) i (Hd.pair { (m.hd i).to .asks with term := (m.hd i).term + 1, vote := some i, got := [i] }).1 (Hd.pair { (m.hd i).to .asks with term := (m.hd i).term + 1, vote := some i, got := [i] }).2) := rfl
      rw [em] at fin
      generalize m.hd i = h at *
      refine hitE rfl ?_
      refine ⟨_, rfl, role_w B .asks fun O2 H2 M2 B2 S2 => ?_⟩
      refine ⟨_, rfl, p, _, rfl, dg_term B2.obL, _, _, rfl, rfl, _, rfl, _, rfl, by show 1 ≤ sizeLine; decide, fun g hg => ?_⟩
      obtain ⟨B3, S3, og, hg3⟩ := B2.own (a := g) (o := setL [i]) (c := .got i) hg rfl noTup_lst
      refine ⟨by show 3 ≤ sizeLine; decide, fun T hT => ?_⟩
      have sm := same_new (o := .tup [.int ((h.term : Int) + 1), nv i, .ref g]) hT
      have B4 := B3.same sm
      refine ⟨T, _, rfl, SqT.of upd_same, rfl, _, _, rfl, _, rfl, p, _, rfl, dp_term _ B4.obL, _, _, rfl, _, rfl, p, _, rfl, dp_vote _ upd_same, _, _, rfl, _, rfl, p, _, rfl, dp_got _ upd_same, rfl, ?_⟩
      rw [upd_upd, upd_upd]
      obtain ⟨B5, S5⟩ := B4.reGot { h.to .asks with term := h.term + 1, vote := some i, got := [i] } g (sm _ _ hg3) og
      have S5 := ((S2.trans S3).trans (Stp.same B3.al sm)).trans S5 |>.all
      refine ⟨_, rfl, _, rfl, p, _, rfl, dg_term B5.obL, _, rfl, _, rfl, pair_w B5.h fun T2 H6 s6 hT2 => ?_⟩
      refine ⟨by show 4 ≤ sizeLine; decide, fun T3 hT3 => ?_⟩
      have sm3 := same_new (o := .tup [.str "ask", nv (h.term + 1), nv i, .ref T2]) hT3
      have B7 := B5.same (s6.trans sm3)
      refine post_w B7.w (l := .ask (h.term + 1) i _ _) (im_ask.mpr ⟨T3, T2, rfl, upd_same, sm3 _ _ hT2⟩) hb1 fun H8 W8 S8 => ?_
      exact fin _ H8 W8 (S5.trans ((Stp.same B5.al (s6.trans sm3)).trans S8.all))
    | lead i =>
      dsimp only [Dd.word, Dd.hand, Dd.nums, List.map] at *
      have em : m.do (.lead i) = { m with leads := m.leads ++ [((m.hd i).term, i, (m.hd i).log, srt (m.hd i).got)] }.set i { (m.hd i).to .leads with begun := (m.hd i).log.length } := rfl
      rw [em] at fin
      refine skipE rfl (by decide +kernel) (hitE rfl ?_)
      obtain ⟨ls, hl1, hl2⟩ := W1.leads
      refine ⟨_, rfl, L.w, _, rfl, dw_leads W1.ob, .inl ⟨rfl, _, SqL.of hl1⟩, _, rfl, p, _, rfl, dg_term B.obL, _, rfl, _, rfl, p, _, rfl, dg_log B.obL, by show 3 ≤ sizeLine; decide, fun T hT => ?_⟩
      have sm := same_new (o := .tup [nv (m.hd i).term, nv i, .ref M.l]) hT
      have W2 := W1.same sm
      refine ⟨_, _, _, rfl, rfl, sm _ _ hl1, ?_, ?_⟩
      · have := hl2.length
        rw [List.length_map] at this
        rw [this]
        exact big_line (Nat.lt_of_le_of_lt fit.leads hn)
      obtain ⟨W3, S3⟩ := W2.app_leads (x := ((m.hd i).term, i, (m.hd i).log, srt (m.hd i).got)) (sm _ _ hl1) (ImAll.keep (same_tk sm) _ _ hl2) (v := .ref T) (im_lead.mpr ⟨T, M.l, rfl, upd_same, Im.keep (same_tk sm) _ _ B.h.log⟩)
      have S4 := (Stp.same (D := dA) W1.al sm).trans S3.all
      obtain ⟨M4, B4⟩ := W3.at_ hp
      have eg : ({ m with leads := m.leads ++ [((m.hd i).term, i, (m.hd i).log, srt (m.hd i).got)] } : Wd).hd i = m.hd i := rfl
      rw [eg] at B4
      generalize m.hd i = h at *
      refine ⟨_, rfl, role_w B4 .leads fun O5 H5 M5 B5 S5 => ?_⟩
      obtain ⟨xs, hx, hlog⟩ := im_logr.mp B5.h.log
      refine ⟨_, rfl, p, _, rfl, dg_log B5.obL, _, xs, rfl, .inr (SqT.of hx), _, rfl, p, _, rfl, dp_begun _ B5.obL, ?_⟩
      rw [hlog.length]
      obtain ⟨B6, S6⟩ := B5.putLaw { h.to .leads with begun := h.log.length } M5.l B5.h.log
      exact fin _ _ B6.w (S4.trans (S5.trans S6).all)
    | put i k =>
      dsimp only [Dd.word, Dd.hand, Dd.nums, List.map] at *
      have em : m.do (.put i k) = m.set i { m.hd i with log := (m.hd i).log ++ [((m.hd i).term, k)] } := rfl
      rw [em] at fin
      generalize m.hd i = h at *
      refine skipE rfl (by decide +kernel) (skipE rfl (by decide +kernel) (hitE rfl ?_))
      refine ⟨_, rfl, p, _, rfl, dg_log B.obL, _, rfl, p, _, rfl, dg_term B.obL, _, rfl, b, _, 2, _, rfl, rfl, SqT.of hvb1, rfl, by show 2 ≤ sizeLine; decide, fun T hT => ⟨by show 1 ≤ sizeLine; decide, fun T2 hT2 => ?_⟩⟩
      have s1 := same_new (o := .tup [nv h.term, nv k]) hT
      have s2 := same_new (o := .tup [.ref T]) hT2
      have hz : h.log.length + [(h.term, k)].length ≤ sizeLine := by
        have h1 := f1.log
        have h2 : big + 1 < sizeLine := by decide
        show h.log.length + 1 ≤ sizeLine
        omega
      refine cat_logs (l := h.log) (k := [(h.term, k)]) (Im.keep (same_tk (s1.trans s2)) _ _ B.h.log) (im_logr.mpr ⟨_, upd_same, ImAll.one (im_row.mpr ⟨T, rfl, s2 _ _ upd_same⟩)⟩) hz fun q H5 s3 hq => ?_
      have sm := s1.trans (s2.trans s3)
      have B5 := B.same sm
      obtain ⟨B6, S6⟩ := B5.putLaw { h with log := h.log ++ [(h.term, k)] } q hq
      exact ⟨_, rfl, p, _, rfl, dp_log _ B5.obL, fin _ _ B6.w ((Stp.same B.al sm).trans S6.all)⟩
    | send i k k2 =>
      dsimp only [Dd.word, Dd.hand, Dd.nums, List.map] at *
      have em : m.do (.send i k k2) = m.post (.rows (m.hd i).term i k (if 0 < k then ((m.hd i).log.getD (k - 1) (0, 0)).1 else 0) (((m.hd i).log.drop k).take k2) (m.hd i).told) := rfl
      rw [em] at fin
      have hab : k + k2 ≤ (m.hd i).log.length := by
        simp only [Wd.able, Bool.and_eq_true, decide_eq_true_eq] at hab
        exact hab.2
      obtain ⟨xs, hx, hlog⟩ := im_logr.mp B.h.log
      refine skipE rfl (by decide +kernel) (skipE rfl (by decide +kernel) (skipE rfl (by decide +kernel) (hitE rfl ?_)))
      refine ⟨_, rfl, b, _, 2, _, rfl, rfl, SqT.of hvb1, rfl, _, rfl, p, _, rfl, dg_log B.obL, _, _, rfl, ?_⟩
      dsimp only [tSeq, tAsg]
      refine tIf_have (nv (if 0 < k then ((m.hd i).log.getD (k - 1) (0, 0)).1 else 0)) ?_ (fun key => ?_)
      · refine ⟨_, rfl, _, rfl, p, _, rfl, dg_term B.obL, _, rfl, _, rfl, _, rfl, _, rfl, _, rfl, _, rfl, _, rfl, _, rfl, b, _, 3, _, rfl, rfl, SqT.of hvb1, rfl, _, _, rfl, rfl, _, rfl, ?_⟩
        refine slice_mid k k2 hx hlog fun q H5 s5 hq => ?_
        have B5 := B.same s5
        refine ⟨_, rfl, p, _, rfl, dg_told B5.obL, by show 7 ≤ sizeLine; decide, fun T hT => ?_⟩
        have sm := same_new (o := .tup [.str "rows", nv (m.hd i).term, nv i, nv k, nv (if 0 < k then ((m.hd i).log.getD (k - 1) (0, 0)).1 else 0), .ref q, nv (m.hd i).told]) hT
        refine post_w (W1.same (s5.trans sm)) (l := .rows _ i k _ _ _) (im_rows.mpr ⟨T, q, rfl, upd_same, Im.keep (same_tk sm) _ _ hq⟩) hb1 fun H8 W8 S8 => ?_
        exact fin _ H8 W8 ((Stp.same W1.al (s5.trans sm)).trans S8.all)
      · refine ⟨_, rfl, _, _, rfl, rfl, _, rfl, iteD (fun e1 => ?_) (fun e1 => ?_)⟩
        · have hk : 0 < k := by omega
          rw [if_pos hk] at key
          obtain ⟨r, g1, g2⟩ := hlog.get (i := k - 1) (by omega)
          exact ⟨_, rfl, _, rfl, _, _, rfl, rfl, _, xs, _, _, rfl, rfl, SqT.of hx, atI_pred hk g1, r, _, 0, _, rfl, rfl, SqT.of g2, rfl, key⟩
        · rw [if_neg (by omega)] at key
          exact key
    | settle i c =>
      dsimp only [Dd.word, Dd.hand, Dd.nums, List.map] at *
      have hi2 := W1.lt hp
      have em : m.do (.settle i c) = ({ (m.set i { m.hd i with told := c }) with settles := m.settles ++ [((m.hd i).term, i, (m.hd i).log.take c)] } : Wd).act i c := rfl
      rw [em] at fin
      refine skipE rfl (by decide +kernel) (skipE rfl (by decide +kernel) (skipE rfl (by decide +kernel) (skipE rfl (by decide +kernel) (hitE rfl ?_))))
      obtain ⟨B2, S2⟩ := B.putLaw { m.hd i with told := c } M.l B.h.log
      refine ⟨_, rfl, b, _, 2, _, rfl, rfl, SqT.of hvb1, rfl, _, rfl, p, _, rfl, dp_told (nv c) B.obL, ?_⟩
      have W2 := B2.w
      have ob2 := B2.obL
      have hvb2 := S2.tk B.al _ _ hvb1
      obtain ⟨xs, hx, hlog⟩ := im_logr.mp B2.h.log
      have wo2 := B2.wobL
      obtain ⟨ls, hl1, hl2⟩ := W2.settles
      refine ⟨_, rfl, L.w, _, rfl, dw_settles wo2, .inl ⟨rfl, _, SqL.of hl1⟩, _, rfl, p, _, rfl, dg_term ob2, _, rfl, _, rfl, p, _, rfl, dg_log ob2, _, rfl, b, _, 2, _, rfl, rfl, SqT.of hvb2, rfl, _, rfl, ?_⟩
      refine slice_to c hx hlog fun q H5 s5 hq => ?_
      refine ⟨by show 3 ≤ sizeLine; decide, fun T hT => ?_⟩
      have sm := s5.trans (same_new (o := .tup [nv (m.hd i).term, nv i, .ref q]) hT)
      have W3 := W2.same sm
      refine ⟨_, _, _, rfl, rfl, sm _ _ hl1, ?_, ?_⟩
      · have := hl2.length
        rw [List.length_map] at this
        rw [this]
        exact big_line (Nat.lt_of_le_of_lt fit.settles hn)
      obtain ⟨W4, S4⟩ := W3.app_settles (x := ((m.hd i).term, i, (m.hd i).log.take c)) (sm _ _ hl1) (ImAll.keep (same_tk sm) _ _ hl2) (v := .ref T) (im_tr.mpr ⟨T, q, rfl, upd_same, Im.keep (same_tk (same_new hT)) _ _ hq⟩)
      have hvb4 := S4.tk W3.al _ _ (sm _ _ hvb2)
      refine ⟨_, rfl, _, rfl, _, rfl, _, rfl, b, _, 2, _, rfl, rfl, SqT.of hvb4, rfl, act_w W4 hp hb2 fun H6 W6 S6 => ?_⟩
      exact fin _ H6 W6 (S2.all.trans ((Stp.same S2.al sm).trans (S4.all.trans S6)))
    | crash i =>
      dsimp only [Dd.word, Dd.hand, Dd.nums, List.map] at *
      refine skipE rfl (by decide +kernel) (skipE rfl (by decide +kernel) (skipE rfl (by decide +kernel) (skipE rfl (by decide +kernel) (skipE rfl (by decide +kernel) (hitE rfl ?_)))))
      exact ⟨_, rfl, _, rfl, crash_w W1 hp fun O2 H2 W2 S2 => fin O2 H2 W2 S2⟩
    | hear i k =>
      dsimp only [Dd.word, Dd.hand, Dd.nums, List.map] at *
      have hk : k < m.lts.length := by
        by_cases z : k < m.lts.length
        · exact z
        · simp [Wd.able, List.getElem?_eq_none (show m.lts.length ≤ k by omega)] at hab
      have em : m.do (.hear i k) = m.hear i m.lts[k] := by simp [Wd.do, List.getElem?_eq_getElem hk]
      rw [em] at fin
      obtain ⟨as1, la, lb, _⟩ := W1.lts
      obtain ⟨v, hv1, hv2⟩ := lb.get (i := k) (d := m.lts[k].data) (by simp [hk])
      refine skipE rfl (by decide +kernel) (skipE rfl (by decide +kernel) (skipE rfl (by decide +kernel) (skipE rfl (by decide +kernel) (skipE rfl (by decide +kernel) (skipE rfl (by decide +kernel) (hitE rfl ?_))))))
      exact ⟨_, rfl, _, rfl, _, rfl, _, rfl, L.w, _, rfl, dw_letters W1.ob, _, rfl, b, _, 2, _, rfl, rfl, SqT.of hvb1, rfl, _, _, _, _, rfl, rfl, SqL.of la, atI_nat hv1,
        hear_w W1 hp hv2 hlook fit hn (fit.lt _ (List.getElem_mem hk)) fun O2 H2 W2 S2 => fin O2 H2 W2 S2⟩
    | wish i =>
      dsimp only [Dd.word, Dd.hand, Dd.nums, List.map] at *
      have em : m.do (.wish i) = (({ m with asked := m.asked ++ [m.settles.length] } : Wd).set i { m.hd i with wishes := aput (m.hd i).wishes m.asked.length [i] }).post (.see (m.hd i).term i m.asked.length) := rfl
      rw [em] at fin
      obtain ⟨ls, hl1, hl2⟩ := W1.settles
      have hl3 : ls.length = m.settles.length := hl2.length.trans (List.length_map ..)
      have wo := W1.ob
      refine skipE rfl (by decide +kernel) (skipE rfl (by decide +kernel) (skipE rfl (by decide +kernel) (skipE rfl (by decide +kernel) (skipE rfl (by decide +kernel) (skipE rfl (by decide +kernel) (skipE rfl (by decide +kernel) (hitE rfl ?_)))))))
      refine ⟨_, rfl, L.w, _, rfl, dw_asked wo, _, _, rfl, .inl (SqL.of W1.asked), ?_⟩
      refine ⟨_, rfl, L.w, _, rfl, dw_asked wo, .inl ⟨rfl, _, SqL.of W1.asked⟩, _, rfl, L.w, _, rfl, dw_settles wo, _, _, rfl, .inl (SqL.of hl1), _, _, _, rfl, rfl, W1.asked, ?_, ?_⟩
      · rw [List.length_map]
        exact big_line (Nat.lt_of_le_of_lt fit.asked hn)
      rw [hl3, List.length_map]
      obtain ⟨W2, S2⟩ := W1.app_asked m.settles.length
      obtain ⟨M2, B2⟩ := W2.at_ hp
      have eg : ({ m with asked := m.asked ++ [m.settles.length] } : Wd).hd i = m.hd i := rfl
      rw [eg] at B2
      generalize m.hd i = h at *
      refine ⟨_, rfl, by show 1 ≤ sizeLine; decide, fun g hg => ?_⟩
      obtain ⟨B3, S3, og, hg3⟩ := B2.own (a := g) (o := setL [i]) (c := .seen i m.asked.length) hg rfl noTup_lst
      have ew : h.wishes = M2.ws.map (mv (Prod.fst (α := List Nat) (β := Addr))) := B2.h.ws
      have fresh : ∀ x ∈ M2.ws, x.1 ≠ m.asked.length := fun x hx e => by
        have := (f1.wl (mv (Prod.fst (α := List Nat) (β := Addr)) x) (by rw [ew]; exact List.mem_map_of_mem hx)).1
        have e2 : (mv (Prod.fst (α := List Nat) (β := Addr)) x).1 = x.1 := rfl
        omega
      have hw2 : (M2.ws.map wK).length < sizeLine := by
        rw [List.length_map]
        have := f1.wishes
        rw [ew, List.length_map] at this
        exact big_line (Nat.lt_of_le_of_lt this hn)
      refine ⟨_, rfl, p, _, rfl, dg_wishes B3.obL, _, rfl, M2.w, _, rfl, DPut.k (k := .inl (m.asked.length : Int)) B3.h.wi hw2, ?_⟩
      have ep : putK (M2.ws.map wK) (.inl (m.asked.length : Int)) (.ref g) = (M2.ws ++ [(m.asked.length, [i], g)]).map wK := by
        rw [wK_eq, putK_kx (fun y : List Nat × Addr => V.ref y.2) m.asked.length ([i], g), aput_new _ fresh]
      rw [ep]
      obtain ⟨B4, S4⟩ := B3.wishIn (M2.ws ++ [(m.asked.length, [i], g)]) (fun x hx => by
        rcases List.mem_append.mp hx with a | a
        · exact B3.h.sn x a
        · rw [List.mem_singleton.mp a]
          exact ⟨hg3, og⟩)
      have ea : aput h.wishes m.asked.length [i] = (M2.ws ++ [(m.asked.length, [i], g)]).map fun x => (x.1, x.2.1) := by
        have e1 := aput_mv (Prod.fst (α := List Nat) (β := Addr)) m.asked.length ([i], g) M2.ws
        rw [← ew, aput_new _ fresh] at e1
        exact e1
      rw [ea] at fin
      refine ⟨_, rfl, _, rfl, p, _, rfl, dg_term B4.obL, _, rfl, _, rfl, by show 4 ≤ sizeLine; decide, fun T hT => ?_⟩
      have sm := same_new (o := .tup [.str "see", nv h.term, nv i, nv m.asked.length]) hT
      refine post_w (B4.w.same sm) (l := .see h.term i m.asked.length) (im_see.mpr ⟨T, rfl, upd_same⟩) hb1 fun H6 W6 S6 => ?_
      exact fin _ H6 W6 (S2.all.trans ((S3.trans S4).all.trans ((Stp.same S4.al sm).trans S6.all)))
    | answer i k =>
      dsimp only [Dd.word, Dd.hand, Dd.nums, List.map] at *
      have em : m.do (.answer i k) = ({ (m.set i { m.hd i with wishes := adrop (m.hd i).wishes k }) with answers := m.answers ++ [(k, i, (m.hd i).log.take (m.hd i).told)] } : Wd) := rfl
      rw [em] at fin
      have ew : (m.hd i).wishes = M.ws.map (mv (Prod.fst (α := List Nat) (β := Addr))) := B.h.ws
      have ev : valV (M.ws.map wK) (.inl (k : Int)) = (alook M.ws k).map (fun y => V.ref y.2) := by rw [wK_eq, valV_kx]
      have el : alook (m.hd i).wishes k = (alook M.ws k).map Prod.fst := by rw [ew, alook_mv]
      obtain ⟨⟨l, a⟩, ea⟩ : ∃ y, alook M.ws k = some y := by
        cases e : alook M.ws k with
        | some y => exact ⟨y, rfl⟩
        | none =>
          rw [e] at el
          simp [Wd.able, canAnswer, el] at hab
      rw [ea] at ev
      refine skipE rfl (by decide +kernel) (skipE rfl (by decide +kernel) (skipE rfl (by decide +kernel) (skipE rfl (by decide +kernel) (skipE rfl (by decide +kernel) (skipE rfl (by decide +kernel) (skipE rfl (by decide +kernel) (skipE rfl (by decide +kernel) ?_)))))))
      refine ⟨_, rfl, p, _, rfl, dg_wishes B.obL, M.w, rfl, .inl ⟨_, .inl B.h.wi⟩, _, rfl, b, _, 2, _, rfl, rfl, SqT.of hvb1, rfl, _, .inl (k : Int), _, B.h.wi, rfl, ev, ?_⟩
      have ed : dropK (M.ws.map wK) (.inl (k : Int)) = (adrop M.ws k).map wK := by rw [wK_eq, dropK_kx]
      rw [ed]
      obtain ⟨B2, S2⟩ := B.wishIn (adrop M.ws k) (fun x hx => B.h.sn x (List.mem_filter.mp hx).1)
      have e2 : adrop (m.hd i).wishes k = (adrop M.ws k).map fun x => (x.1, x.2.1) := by
        rw [ew]
        exact adrop_mv (Prod.fst (α := List Nat) (β := Addr)) k M.ws
      rw [← e2] at B2
      have W2 := B2.w
      have ob2 := B2.obL
      have hvb2 := S2.tk B.al _ _ hvb1
      obtain ⟨xs, hx, hlog⟩ := im_logr.mp B2.h.log
      have wo2 := B2.wobL
      obtain ⟨ls, hl1, hl2⟩ := W2.answers
      refine ⟨_, rfl, L.w, _, rfl, dw_answers wo2, .inl ⟨rfl, _, SqL.of hl1⟩, _, rfl, b, _, 2, _, rfl, rfl, SqT.of hvb2, rfl, _, rfl, _, rfl, p, _, rfl, dg_log ob2, _, rfl, p, _, rfl, dg_told ob2, _, rfl, ?_⟩
      refine slice_to (m.hd i).told hx hlog fun q H5 s5 hq => ?_
      refine ⟨by show 3 ≤ sizeLine; decide, fun T hT => ?_⟩
      have sm := s5.trans (same_new (o := .tup [nv k, nv i, .ref q]) hT)
      have W3 := W2.same sm
      refine ⟨_, _, _, rfl, rfl, sm _ _ hl1, ?_, ?_⟩
      · have := hl2.length
        rw [List.length_map] at this
        rw [this]
        exact big_line (Nat.lt_of_le_of_lt fit.answers hn)
      obtain ⟨W4, S4⟩ := W3.app_answers (x := (k, i, (m.hd i).log.take (m.hd i).told)) (sm _ _ hl1) (ImAll.keep (same_tk sm) _ _ hl2) (v := .ref T) (im_tr.mpr ⟨T, q, rfl, upd_same, Im.keep (same_tk (same_new hT)) _ _ hq⟩)
      exact fin _ _ W4 (S2.all.trans ((Stp.same S2.al sm).trans S4.all))
end
end Sr

set_option Elab.async false
set_option linter.all false
set_option maxRecDepth 100000
set_option maxHeartbeats 4000000
namespace Sr
open PySem PySem.Spec PyProof.Rows L2
local macro_rules | `(tactic| walk_at "hp") => `(tactic| (unfold upd at *; grind))
section
variable {P : Program} {w : World} {base : Heap} {K : PySem.W.Frag} {mg : Str → Option Value}
theorem able_w {O : Own} {H : Hp} {L : WL} {m : Wd} {rs : List Dd} {d : Dd} {v : V} {n : Nat} {Q : VK} {E : XK} (W : WorldIn .law H O L m rs) (hv : Im H d.data v) (hi : d.hand < m.hs.length) (f : Fit n m) (hn : n < big) (k : ∀ H1, Same H H1 → Q (.bl (m.able d)) H1) :
    spAble [.ref L.w, v] H Q E := by
  unfold spAble
  exact ⟨O, L, m, rs, d, v, n, rfl, W, hv, hi, f, hn, k⟩
theorem do_w {O : Own} {H : Hp} {L : WL} {p : Pr} {m : Wd} {rs : List Dd} {d : Dd} {v : V} {Q : VK} {E : XK} (W : WorldIn .law H O L m rs) (R : Ru p rs m) (hl : LookOk p) (hv : Im H d.data v) (hi : d.hand < p.hands) (hb : rs.length < big) (hab : m.able d = true)
    (k : ∀ O1 H1, WorldIn .law H1 O1 L (m.do d) (rs ++ [d]) → Ru p (rs ++ [d]) (m.do d) → Stp dA O H O1 H1 → Q .non H1) : spDo [.ref L.w, v] H Q E := by
  obtain ⟨a, b, c⟩ := R.props
  unfold spDo
  exact ⟨O, L, m, rs, d, v, rs.length, rfl, W, hv, by rw [b]; exact hi, by rw [a]; exact hl, c, hb, hb, hab, fun O1 H1 W1 S1 => k O1 H1 W1 (.snoc R hab hi) S1⟩
@[irreducible] def spTry : Sp := fun vs H Q _ => ∃ O L p m rs d v, vs = [.ref (WL.w L), v] ∧ WorldIn .law H O L m rs ∧ Ru p rs m ∧ LookOk p ∧ rs.length < big ∧ d.hand < p.hands ∧ Im H (Dd.data d) v ∧
  ∀ O' H' rs', WorldIn .law H' O' L (m.try d) rs' → Ru p rs' (m.try d) → rs'.length ≤ rs.length + 1 → Stp dA O H O' H' → Q .non H'
theorem sc_l_try : FnScope ["_law_world_here", "_law_deed"] ["_law_world_here", "_law_deed"] (defScope s_l_try) := ⟨rfl, rfl, rfl, by decide +kernel, rfl, by decide +kernel, by decide +kernel⟩
theorem ok_l_try (T : Tx w K mg) : FnI P w K mg base "_law_try" (7 + 1) ["_law_world_here", "_law_deed"] spTry := by
  refine FnI.mk' T.f_l_try T.g_l_try sc_l_try (fun _ _ _ _ _ _ us hl => match us, hl with | [_, _], _ => rfl) (fun vs H Q E h => ?_) (fun cdv A outer s H vs Q E hr h => ?_)
  all_goals unfold spTry at h
  · obtain ⟨_, _, _, _, _, _, _, rfl, _⟩ := h
    rfl
  · obtain ⟨O, L, pr, m, rs, d, v, rfl, W, R, hl, hb, hi, hv, fin⟩ := h
    have hu := hu_of hr
    refine ⟨_, (pss_one (ps_if (pt_val (pe_callI (ok_l_able T) hr (pa_cons (pv 0) (pa_cons (pv 1) pa_nil)))) (pss_one (ps_expr (pe_callI (ok_l_do T) hr (pa_cons (pv 0) (pa_cons (pv 1) pa_nil))))) pss_nil)), ?_⟩
    obtain ⟨a, b, c⟩ := R.props
    refine ⟨_, rfl, _, rfl, able_w W hv (by rw [b]; exact hi) c hb fun H1 s1 => ⟨_, rfl, iteB (fun e => ?_) (fun e => ?_)⟩⟩
    · refine ⟨_, rfl, _, rfl, do_w (W.same s1) R hl (Im.keep (same_tk s1) _ _ hv) hi hb e fun O2 H2 W2 R2 S2 => ?_⟩
      have em : m.try d = m.do d := if_pos e
      rw [em] at fin
      exact fin O2 H2 _ W2 R2 (by rw [List.length_append]; exact Nat.le_refl _) ((Stp.same W.al s1).trans S2)
    · have em : m.try d = m := if_neg (by rw [e]; decide)
      rw [em] at fin
      exact fin O H1 rs (W.same s1) R (Nat.le_succ _) (Stp.same W.al s1)
theorem putK_snoc {kvs : List (Key × V)} {k : Key} {v : V} (h : k ∉ kvs.map (·.1)) : putK kvs k v = kvs ++ [(k, v)] := by
  unfold putK
  refine if_neg fun z => h ?_
  obtain ⟨x, h1, h2⟩ := List.any_eq_true.mp z
  rw [← of_decide_eq_true h2]
  exact List.mem_map_of_mem h1
theorem mergeK_go : ∀ (more kvs : List (Key × V)), ((kvs ++ more).map (·.1)).Nodup → mergeK kvs more = kvs ++ more
  | [], kvs, _ => (List.append_nil _).symm
  | x :: more, kvs, h => by
    have e : mergeK kvs (x :: more) = mergeK (putK kvs x.1 x.2) more := rfl
    have h2 : kvs ++ x :: more = (kvs ++ [x]) ++ more := by simp
    rw [e, putK_snoc, mergeK_go more _ (by rw [← h2]; exact h), h2]
    intro z
    rw [List.map_append, List.map_cons, List.nodup_append] at h
    exact h.2.2 _ z _ List.mem_cons_self rfl
/-- a display whose keys are all different -/
theorem mergeK_lit (kvs : List (Key × V)) (h : (kvs.map (·.1)).Nodup) : mergeK [] kvs = kvs := mergeK_go kvs [] h
/-! ### drawing: only the bounds -/
@[irreducible] def spCell : Sp := fun vs H Q _ => ∃ sc zs k, vs = [.ref sc, nv k] ∧ H sc = some (.lst (List.map V.int zs)) ∧ ∀ i, Q (.int i) H
theorem sc_l_cell_at : FnScope ["_law_script", "_law_k"] ["_law_script", "_law_k"] (defScope s_l_cell_at) := ⟨rfl, rfl, rfl, by decide +kernel, rfl, by decide +kernel, by decide +kernel⟩
theorem ok_l_cell_at (T : Tx w K mg) : FnI P w K mg base "_law_cell_at" (0 + 1) ["_law_script", "_law_k"] spCell := by
  refine FnI.mk' T.f_l_cell_at T.g_l_cell_at sc_l_cell_at (fun _ _ _ _ _ _ us hl => match us, hl with | [_, _], _ => rfl) (fun vs H Q E h => ?_) (fun cdv A outer s H vs Q E hr h => ?_)
  all_goals unfold spCell at h
  · obtain ⟨_, _, _, rfl, _⟩ := h
    rfl
  · obtain ⟨sc, zs, k, rfl, hs, fin⟩ := h
    have hu := hu_of hr
    refine ⟨_, (pss_cons (ps_if (pt_cmpR op_lt (pv 1) (pe_callB (id := "len") (lenK K) (by rfl) T.n_len (by decide +kernel) (pa_cons (pv 0) pa_nil)) (nomark _)) (pss_one (ps_ret (pe_ix (ixL K) (pv 0) (pv 1) (fun _ _ => rfl)))) pss_nil)
      (pss_one (ps_ret pe_int))), ?_⟩
    refine ⟨_, rfl, _, rfl, sc, _, rfl, .inl (SqL.of hs), _, _, rfl, rfl, _, rfl, iteD (fun e => ?_) (fun e => fin 0)⟩
    have hk : k < zs.length := by rw [List.length_map] at e; omega
    refine ⟨_, rfl, _, rfl, _, _, _, .int zs[k], rfl, rfl, SqL.of hs, atI_nat (by simp [hk]), fin _⟩
theorem int_nv {x : Int} (h : 0 ≤ x) : V.int x = nv x.toNat := congrArg V.int (Int.toNat_of_nonneg h).symm
theorem fin_mod {H H1 : Hp} {Q : VK} {x : Int} {b : Nat} (hb : 0 < b) (fin : ∀ n H', n < b → Same H H' → Q (nv n) H') (s : Same H H1) : Q (V.int (x % (b : Int))) H1 := by
  have h0 : 0 ≤ x % (b : Int) := Int.emod_nonneg _ (by omega)
  have h1 : x % (b : Int) < b := Int.emod_lt_of_pos _ (by omega)
  rw [int_nv h0]
  exact fin _ H1 (by omega) s
def primes : List Int := [1000003, 1000033, 1000037, 1000039, 1000081, 1000099, 1000117, 1000121, 1000133, 1000151, 1000159, 1000171, 1000183, 1000187, 1000193, 1000199]
theorem prime_at (k : Int) : ∃ q : Int, atI (primes.map V.int) (k % 16) = some (.int q) ∧ 0 < q := by
  have h0 : 0 ≤ k % 16 := Int.emod_nonneg _ (by omega)
  have h1 : k % 16 < 16 := Int.emod_lt_of_pos _ (by omega)
  obtain ⟨j, hj⟩ : ∃ j : Nat, k % 16 = (j : Int) := ⟨(k % 16).toNat, by omega⟩
  rw [hj] at h1 ⊢
  have hl : j < primes.length := by show _ < 16; omega
  have hp : ∀ x ∈ primes, 0 < x := by decide
  exact ⟨primes[j], atI_nat (by rw [List.getElem?_map, List.getElem?_eq_getElem hl]; rfl), hp _ (List.getElem_mem hl)⟩
@[irreducible] def spDraw : Sp := fun vs H Q _ => ∃ c k b, vs = [.int c, .int k, nv b] ∧ 0 < b ∧ ∀ n H', n < b → Same H H' → Q (nv n) H'
theorem sc_l_draw : FnScope ["_law_cell", "_law_k", "_law_bound", "_law_primes"] ["_law_cell", "_law_k", "_law_bound"] (defScope s_l_draw) := ⟨rfl, rfl, rfl, by decide +kernel, rfl, by decide +kernel, by decide +kernel⟩
theorem ok_l_draw (T : Tx w K mg) : FnI P w K mg base "_law_draw" (0 + 1) ["_law_cell", "_law_k", "_law_bound"] spDraw := by
  refine FnI.mk' T.f_l_draw T.g_l_draw sc_l_draw (fun _ _ _ _ _ _ us hl => match us, hl with | [_, _, _], _ => rfl) (fun vs H Q E h => ?_) (fun cdv A outer s H vs Q E hr h => ?_)
  all_goals unfold spDraw at h
  · obtain ⟨_, _, _, rfl, _⟩ := h
    rfl
  · obtain ⟨c, k, b, rfl, hb, fin⟩ := h
    have hu := hu_of hr
    refine ⟨_, (pss_cons (ps_set (i := 3) sc_l_draw.nd rfl (.inl rfl) (pe_tup (pa_cons pe_int (pa_cons pe_int (pa_cons pe_int (pa_cons pe_int (pa_cons pe_int (pa_cons pe_int (pa_cons pe_int (pa_cons pe_int (pa_cons pe_int (pa_cons pe_int (pa_cons pe_int (pa_cons pe_int (pa_cons pe_int (pa_cons pe_int (pa_cons pe_int (pa_cons pe_int pa_nil))))))))))))))))))
      (pss_one (ps_ret (pe_op op_mod (pe_op op_mod (pe_callTy (T := "int") call_int1 (by rfl) T.n_int (by decide +kernel) (pa_cons (pe_op op_add (pe_op op_mul (pv 0) pe_int) (pe_op op_mul (pv 1) pe_int)) pa_nil)) (pe_ix (ixT K) (pv 3) (pe_op op_mod (pe_callTy (T := "int") call_int1 (by rfl) T.n_int (by decide +kernel) (pa_cons (pv 1) pa_nil)) pe_int) (fun _ _ => rfl))) (pv 2))))), ?_⟩
    refine ⟨by show 16 ≤ sizeLine; decide, fun T hT => ?_⟩
    obtain ⟨q, hq1, hq2⟩ := prime_at k
    refine ⟨_, rfl, _, _, rfl, rfl, .inr ⟨by decide, by decide⟩, _, rfl, _, _, rfl, rfl, .inr ⟨by decide, by decide⟩, _, _, rfl, rfl, .inl ⟨_, rfl, ?_⟩⟩
    refine ⟨_, rfl, _, rfl, .inl ⟨_, rfl, _, _, rfl, rfl, (show (0 : Int) < 16 by decide), T, primes.map V.int, _, _, rfl, rfl, SqT.of upd_same, hq1, ?_⟩⟩
    exact ⟨_, _, rfl, rfl, hq2, _, rfl, _, _, rfl, rfl, by omega, fin_mod hb fin (same_new hT)⟩
theorem draw_w {H : Hp} {c k : Int} {b : Nat} {Q : VK} {E : XK} (hb : 0 < b) (fin : ∀ n H', n < b → Same H H' → Q (nv n) H') : spDraw [.int c, .int k, nv b] H Q E := by
  unfold spDraw
  exact ⟨c, k, b, rfl, hb, fin⟩
@[irreducible] def spNumber : Sp := fun vs H Q _ => ∃ c k b, vs = [.int c, nv k, nv b] ∧ k ≤ 12 ∧ 0 < b ∧ ∀ n H', n < b → Same H H' → Q (nv n) H'
theorem pow_b {i : Nat} (h : i < 24) : 0 < (1009 ^ i : Int) ∧ (1009 ^ i : Int).natAbs < 2 ^ 240 := by
  refine ⟨Int.pow_pos (by decide), ?_⟩
  have e : (1009 ^ i : Int).natAbs = 1009 ^ i := by rw [Int.natAbs_pow]; rfl
  rw [e]
  refine Nat.lt_of_le_of_lt (Nat.pow_le_pow_right (by decide) (show i ≤ 23 by omega)) (by decide)
theorem sc_l_number : FnScope ["_law_cell", "_law_k", "_law_bound", "_law_power", "_law_lap", "_law_remains", "_law_small"] ["_law_cell", "_law_k", "_law_bound"] (defScope s_l_number) := ⟨rfl, rfl, rfl, by decide +kernel, rfl, by decide +kernel, by decide +kernel⟩
theorem ok_l_number (T : Tx w K mg) : FnI P w K mg base "_law_number" (1 + 1) ["_law_cell", "_law_k", "_law_bound"] spNumber := by
  refine FnI.mk' T.f_l_number T.g_l_number sc_l_number (fun _ _ _ _ _ _ us hl => match us, hl with | [_, _, _], _ => rfl) (fun vs H Q E h => ?_) (fun cdv A outer s H vs Q E hr h => ?_)
  all_goals unfold spNumber at h
  · obtain ⟨_, _, _, rfl, _⟩ := h
    rfl
  · obtain ⟨c, k, b, rfl, hk, hb, fin⟩ := h
    have hu := hu_of hr
    refine ⟨_, (pss_cons (ps_set (i := 3) sc_l_number.nd rfl (.inl rfl) pe_int)
      (pss_cons (ps_for PassesOwn.never rfl (pi_range1 (by rfl) T.n_range (pa_cons (pe_op op_mod (pe_callTy (T := "int") call_int1 (by rfl) T.n_int (by decide +kernel) (pa_cons (pv 1) pa_nil)) pe_int) pa_nil)) (pg_name (i := 4) sc_l_number.nd rfl (Or.inl rfl)) (pss_one (ps_set (i := 3) sc_l_number.nd rfl (.inl rfl) (pe_op op_mul (pv 3) pe_int))))
      (pss_cons (ps_set (i := 5) sc_l_number.nd rfl (.inl rfl) (pe_op op_fdivW (pe_op op_sub (pv 0) (pe_op op_pow pe_int pe_int)) (pv 3)))
      (pss_cons (ps_if (pt_cmpR op_gt (pv 5) pe_int (nomark _)) (pss_one (ps_ret (pe_op op_mod (pe_op op_mod (pe_callTy (T := "int") call_int1 (by rfl) T.n_int (by decide +kernel) (pa_cons (pv 5) pa_nil)) pe_int) (pv 2)))) pss_nil)
      (pss_cons (ps_set (i := 6) sc_l_number.nd rfl (.inl rfl) (pe_op op_mod (pe_callTy (T := "int") call_int1 (by rfl) T.n_int (by decide +kernel) (pa_cons (pv 0) pa_nil)) pe_int))
      (pss_one (ps_ret (pe_op op_mod (pe_callI (ok_l_draw T) hr (pa_cons (pe_op op_mul (pe_op op_add (pv 6) (pe_op op_mul pe_int (pv 1))) (pe_op op_add (pe_op op_add (pv 6) (pe_op op_mul pe_int (pv 1))) pe_int)) (pa_cons (pe_op op_add (pe_op op_mod (pe_callTy (T := "int") call_int1 (by rfl) T.n_int (by decide +kernel) (pa_cons (pv 1) pa_nil)) pe_int) pe_int) (pa_cons pe_int pa_nil)))) (pv 2))))))))), ?_⟩
    have h0 : (0 : Int) ≤ (k : Int) % 24 := Int.emod_nonneg _ (by omega)
    have h1 : (k : Int) % 24 < 24 := Int.emod_lt_of_pos _ (by omega)
    refine ⟨_, rfl, .inl ⟨_, rfl, _, _, rfl, rfl, (show (0 : Int) < 24 by decide), _, rfl, by omega, by omega, ?_⟩⟩
    refine for_range (fun i σ2 H2 => H2 = H ∧ ∃ x, σ2 = [some (.int c), some (nv k), some (nv b), some (.int (1009 ^ i)), x, none, none]) ⟨rfl, none, rfl⟩ ?_ ?_
    · rintro i _ H2 hi ⟨rfl, x, rfl⟩
      refine ⟨_, rfl, _, _, rfl, rfl, .inr ⟨by decide, by decide⟩, rfl, some (.int (0 + (i : Int))), ?_⟩
      rw [Int.pow_succ]
      rfl
    rintro _ H2 ⟨rfl, x, rfl⟩
    have hlt : ((k : Int) % 24).toNat < 24 := by omega
    obtain ⟨p1, p2⟩ := pow_b hlt
    refine ⟨_, rfl, _, _, rfl, rfl, ⟨by decide, by decide, by decide⟩, _, _, rfl, rfl, _, rfl, _, _, rfl, rfl, wide_div p1 p2 (by decide) (by decide), ?_⟩
    refine ⟨_, rfl, _, _, rfl, rfl, _, rfl, iteD (fun e => ?_) (fun e => ?_)⟩
    · exact ⟨_, rfl, .inl ⟨_, rfl, _, _, rfl, rfl, (show (0 : Int) < 1009 by decide), _, rfl, _, _, rfl, rfl, by omega, fin_mod hb fin (Same.refl H2)⟩⟩
    refine ⟨_, rfl, .inl ⟨_, rfl, _, _, rfl, rfl, (show (0 : Int) < 1000003 by decide), ?_⟩⟩
    have s0 : 0 ≤ c % 1000003 := Int.emod_nonneg _ (by decide)
    have s1 : c % 1000003 < 1000003 := Int.emod_lt_of_pos _ (by decide)
    refine ⟨_, rfl, _, rfl, _, _, rfl, rfl, .inl ⟨by decide, by decide⟩, _, _, rfl, rfl, _, rfl, _, rfl, _, _, rfl, rfl, .inl ⟨by decide, by decide⟩, _, _, rfl, rfl, _, _, rfl, rfl, _, _, rfl, rfl, .inl ⟨by omega, by omega⟩, ?_⟩
    refine ⟨_, rfl, .inl ⟨_, rfl, _, _, rfl, rfl, (show (0 : Int) < 9 by decide), _, _, rfl, rfl, draw_w (b := 999983) (by decide) fun n H3 hn s3 => ?_⟩⟩
    exact ⟨_, rfl, _, _, rfl, rfl, by omega, fin_mod hb fin s3⟩
theorem number_w {H : Hp} {c : Int} {k b : Nat} {Q : VK} {E : XK} (hk : k ≤ 12) (hb : 0 < b) (fin : ∀ n H', n < b → Same H H' → Q (nv n) H') : spNumber [.int c, nv k, nv b] H Q E := by
  unfold spNumber
  exact ⟨c, k, b, rfl, hk, hb, fin⟩
theorem cell_w {H : Hp} {sc : Addr} {zs : List Int} {k : Nat} {Q : VK} {E : XK} (h : H sc = some (.lst (zs.map V.int))) (fin : ∀ i, Q (.int i) H) : spCell [.ref sc, nv k] H Q E := by
  unfold spCell
  exact ⟨sc, zs, k, rfl, h, fin⟩
/-- the draw stands -/
def Dr (H : Hp) (O : Own) (dw : Addr) : Prop := ∃ sc c zs, H dw = some (.lst [.ref sc, .int 0, nv c]) ∧ O dw = some .draw ∧ H sc = some (.lst (List.map V.int zs)) ∧ O sc = some .draw ∧ sc ≠ dw
theorem Dr.keep {D : Cell → Prop} {O O1 : Own} {H H1 : Hp} {dw : Addr} (d : Dr H O dw) (s : Stp D O H O1 H1) (n : ¬ D .draw) : Dr H1 O1 dw := by
  obtain ⟨sc, c, zs, h1, o1, h2, o2, ne⟩ := d
  exact ⟨sc, c, zs, (s.only _ _ o1 n).trans h1, s.mono _ _ o1, (s.only _ _ o2 n).trans h2, s.mono _ _ o2, ne⟩
theorem Dr.same {O : Own} {H H1 : Hp} {dw : Addr} (d : Dr H O dw) (s : Same H H1) : Dr H1 O dw := by
  obtain ⟨sc, c, zs, h1, o1, h2, o2, ne⟩ := d
  exact ⟨sc, c, zs, s _ _ h1, o1, s _ _ h2, o2, ne⟩
@[irreducible] def spNext : Sp := fun vs H Q _ => ∃ O dw b, vs = [.ref dw, nv b] ∧ Al O H ∧ Dr H O dw ∧ 0 < b ∧ ∀ n H', n < b → Dr H' O dw → Stp (fun c => c = .draw) O H O H' → Q (nv n) H'
theorem sc_l_next : FnScope ["_law_draw_here", "_law_bound", "_law_at", "_law_cell"] ["_law_draw_here", "_law_bound"] (defScope s_l_next) := ⟨rfl, rfl, rfl, by decide +kernel, rfl, by decide +kernel, by decide +kernel⟩
theorem ok_l_next (T : Tx w K mg) : FnI P w K mg base "_law_next" (2 + 1) ["_law_draw_here", "_law_bound"] spNext := by
  refine FnI.mk' T.f_l_next T.g_l_next sc_l_next (fun _ _ _ _ _ _ us hl => match us, hl with | [_, _], _ => rfl) (fun vs H Q E h => ?_) (fun cdv A outer s H vs Q E hr h => ?_)
  all_goals unfold spNext at h
  · obtain ⟨_, _, _, rfl, _⟩ := h
    rfl
  · obtain ⟨O, dw, b, rfl, al, ⟨sc, c, zs, h1, o1, h2, o2, nsc⟩, hb, fin⟩ := h
    have hu := hu_of hr
    refine ⟨_, (pss_cons (ps_asg (pe_op op_add (pe_ix (ixL K) (pv 0) pe_int (fun _ _ => rfl)) pe_int) (pg_sub (pv 0) pe_int set_list))
      (pss_cons (ps_set (i := 2) sc_l_next.nd rfl (.inl rfl) (pe_op op_fdivW (pe_ix (ixL K) (pv 0) pe_int (fun _ _ => rfl)) pe_int))
      (pss_cons (ps_set (i := 3) sc_l_next.nd rfl (.inl rfl) (pe_op op_add (pe_callI (ok_l_cell_at T) hr (pa_cons (pe_ix (ixL K) (pv 0) pe_int (fun _ _ => rfl)) (pa_cons (pe_op op_add (pe_ix (ixL K) (pv 0) pe_int (fun _ _ => rfl)) (pv 2)) pa_nil))) (pe_op op_mul pe_int (pv 2))))
      (pss_one (ps_ret (pe_callI (ok_l_number T) hr (pa_cons (pv 3) (pa_cons (pe_op op_add (pe_op op_mod (pe_callTy (T := "int") call_int1 (by rfl) T.n_int (by decide +kernel) (pa_cons (pe_ix (ixL K) (pv 0) pe_int (fun _ _ => rfl)) pa_nil)) pe_int) pe_int) (pa_cons (pv 1) pa_nil))))))))), ?_⟩
    refine ⟨_, rfl, dw, _, 2, _, rfl, rfl, SqL.of h1, rfl, _, _, rfl, rfl, _, rfl, dw, _, 2, 2, rfl, rfl, h1, rfl, ?_⟩
    have S1 : Stp (fun c => c = .draw) O H O (upd H dw (.lst [.ref sc, .int 0, nv (c + 1)])) := Stp.put al o1 rfl noTup_lst
    have g1 : (upd H dw (.lst [.ref sc, .int 0, nv (c + 1)])) dw = some (.lst [.ref sc, .int 0, nv (c + 1)]) := upd_same
    have g2 : (upd H dw (.lst [.ref sc, .int 0, nv (c + 1)])) sc = some (.lst (zs.map V.int)) := by rw [upd_ne nsc]; exact h2
    have D1 : Dr (upd H dw (.lst [.ref sc, .int 0, nv (c + 1)])) O dw := ⟨sc, c + 1, zs, g1, o1, g2, o2, nsc⟩
    have ec : (V.int ((c : Int) + 1)) = nv (c + 1) := congrArg V.int (by omega)
    dsimp only [List.set]
    rw [ec]
    generalize upd H dw (.lst [.ref sc, .int 0, nv (c + 1)]) = H1 at *
    have f0 : (0 : Int) ≤ ((c + 1 : Nat) : Int) / 12 := Int.ediv_nonneg (by omega) (by decide)
    refine ⟨_, rfl, dw, _, 2, _, rfl, rfl, SqL.of g1, rfl, _, _, rfl, rfl, ⟨by decide, by decide⟩, ?_⟩
    have e0 : (V.int (0 + ((c + 1 : Nat) : Int) / 12)) = nv (((c + 1 : Nat) : Int) / 12).toNat := by rw [Int.zero_add]; exact int_nv f0
    refine ⟨_, rfl, dw, _, 0, _, rfl, rfl, SqL.of g1, rfl, _, rfl, dw, _, 1, _, rfl, rfl, SqL.of g1, rfl, _, rfl, _, _, rfl, rfl, ?_⟩
    dsimp only [List.append]
    rw [e0]
    refine cell_w g2 fun i => ⟨_, rfl, _, _, rfl, rfl, .inl ⟨by decide, by decide⟩, _, _, rfl, rfl, ?_⟩
    have m0 : (0 : Int) ≤ ((c + 1 : Nat) : Int) % 12 + 1 := by have := Int.emod_nonneg ((c + 1 : Nat) : Int) (show (12 : Int) ≠ 0 by decide); omega
    have m1 : ((c + 1 : Nat) : Int) % 12 + 1 ≤ 12 := by have := Int.emod_lt_of_pos ((c + 1 : Nat) : Int) (show (0 : Int) < 12 by decide); omega
    refine ⟨_, rfl, _, rfl, dw, _, 2, _, rfl, rfl, SqL.of g1, rfl, .inl ⟨_, rfl, _, _, rfl, rfl, (show (0 : Int) < 12 by decide), _, _, rfl, rfl, _, rfl, ?_⟩⟩
    dsimp only [List.append]
    rw [int_nv m0]
    exact number_w (by omega) hb fun n H2 hn s2 => fin n H2 hn (D1.same s2) (S1.trans (Stp.same S1.al s2))
theorem next_wI {O : Own} {H : Hp} {dw : Addr} {x : Int} {Q : VK} {E : XK} (al : Al O H) (D : Dr H O dw) (hx : 0 < x) (fin : ∀ (n : Nat) H', (n : Int) < x → Dr H' O dw → Stp (fun c => c = .draw) O H O H' → Q (nv n) H') : spNext [.ref dw, .int x] H Q E := by
  rw [int_nv (Int.le_of_lt hx)]
  unfold spNext
  exact ⟨O, dw, x.toNat, rfl, al, D, by omega, fun n H1 hn => fin n H1 (by omega)⟩
theorem next_w {O : Own} {H : Hp} {dw : Addr} {b : Nat} {Q : VK} {E : XK} (al : Al O H) (D : Dr H O dw) (hb : 0 < b) (fin : ∀ n H', n < b → Dr H' O dw → Stp (fun c => c = .draw) O H O H' → Q (nv n) H') : spNext [.ref dw, nv b] H Q E := by
  unfold spNext
  exact ⟨O, dw, b, rfl, al, D, hb, fin⟩
@[irreducible] def spPick : Sp := fun vs H Q _ => ∃ O dw t xs, vs = [.ref dw, .ref t] ∧ Al O H ∧ Dr H O dw ∧ H t = some (.lst xs) ∧ O t = none ∧ 0 < xs.length ∧ ∀ v H', v ∈ xs → Dr H' O dw → Stp (fun c => c = .draw) O H O H' → Q v H'
theorem sc_l_pick : FnScope ["_law_draw_here", "_law_things"] ["_law_draw_here", "_law_things"] (defScope s_l_pick) := ⟨rfl, rfl, rfl, by decide +kernel, rfl, by decide +kernel, by decide +kernel⟩
theorem ok_l_pick (T : Tx w K mg) : FnI P w K mg base "_law_pick" (3 + 1) ["_law_draw_here", "_law_things"] spPick := by
  refine FnI.mk' T.f_l_pick T.g_l_pick sc_l_pick (fun _ _ _ _ _ _ us hl => match us, hl with | [_, _], _ => rfl) (fun vs H Q E h => ?_) (fun cdv A outer s H vs Q E hr h => ?_)
  all_goals unfold spPick at h
  · obtain ⟨_, _, _, _, rfl, _⟩ := h
    rfl
  · obtain ⟨O, dw, t, xs, rfl, al, D, ht, ot, h0, fin⟩ := h
    have hu := hu_of hr
    refine ⟨_, (pss_one (ps_ret (pe_ix (ixL K) (pv 1) (pe_callI (ok_l_next T) hr (pa_cons (pv 0) (pa_cons (pe_callB (id := "len") (lenK K) (by rfl) T.n_len (by decide +kernel) (pa_cons (pv 1) pa_nil)) pa_nil))) (fun _ _ => rfl)))), ?_⟩
    refine ⟨_, rfl, _, rfl, _, rfl, _, _, rfl, .inl (SqL.of ht), next_w al D h0 fun n H1 hn D1 S1 => ?_⟩
    exact ⟨t, xs, _, xs[n], rfl, rfl, SqL.of (S1.keep _ _ ht ot), atI_nat (by simp [hn]), fin _ H1 (List.getElem_mem hn) D1 S1⟩
theorem pick_w {O : Own} {H : Hp} {dw t : Addr} {xs : List V} {Q : VK} {E : XK} (al : Al O H) (D : Dr H O dw) (ht : H t = some (.lst xs)) (ot : O t = none) (h0 : 0 < xs.length) (fin : ∀ v H', v ∈ xs → Dr H' O dw → Stp (fun c => c = .draw) O H O H' → Q v H') :
    spPick [.ref dw, .ref t] H Q E := by
  unfold spPick
  exact ⟨O, dw, t, xs, rfl, al, D, ht, ot, h0, fin⟩
@[irreducible] def spHand : Sp := fun vs H Q _ => ∃ O i, vs = [] ∧ Al O H ∧ ∀ p O' H', HandAt .law H' O' i p Hd.new → Stp (dH i) O H O' H' → Q (.ref p) H'
theorem sc_l_hand : FnScope [] [] (defScope s_l_hand) := ⟨rfl, rfl, rfl, by decide +kernel, rfl, by decide +kernel, by decide +kernel⟩
theorem ok_l_hand (T : Tx w K mg) : FnI P w K mg base "_law_hand" (0 + 1) [] spHand := by
  refine FnI.mk' T.f_l_hand T.g_l_hand sc_l_hand (fun _ _ _ _ _ _ us hl => match us, hl with | [], _ => rfl) (fun vs H Q E h => ?_) (fun cdv A outer s H vs Q E hr h => ?_)
  all_goals unfold spHand at h
  · obtain ⟨_, _, rfl, _⟩ := h
    rfl
  · obtain ⟨O, i, rfl, al, fin⟩ := h
    have hu := hu_of hr
    refine ⟨_, (pss_one (ps_ret (pe_disp (pps_cons pe_str pe_int (pps_cons pe_str pe_non (pps_cons pe_str (pe_tup pa_nil) (pps_cons pe_str pe_int (pps_cons pe_str pe_str (pps_cons pe_str (pe_lst pa_nil) (pps_cons pe_str pe_dnewK (pps_cons pe_str pe_int (pps_cons pe_str pe_int (pps_cons pe_str pe_dnewK pps_nil)))))))))) (by rfl) (by rfl) (fun z => by cases z) (by decide)))), ?_⟩
    intro p hp
    have S1 : Stp (dH i) O H (updO O p (.hand i)) (upd H p (.dK [])) := .own al hp rfl noTup_dK
    refine ⟨Nat.zero_le _, fun l hl => ?_⟩
    have S2 := S1.trans (Stp.new (o := .tup []) S1.al hl)
    refine ⟨Nat.zero_le _, fun g hg => ?_⟩
    have T3 := Stp.own (D := dH i) (c := .got i) (o := .lst []) S2.al hg rfl noTup_lst
    have S3 := S2.trans T3
    intro k hk
    have T4 := Stp.own (D := dH i) (c := .known i) (o := .dK []) S3.al hk rfl noTup_dK
    have S4 := S3.trans T4
    intro ws hw
    have T5 := Stp.own (D := dH i) (c := .wishes i) (o := .dK []) S4.al hw rfl noTup_dK
    have S5 := S4.trans T5
    have op : updO (updO (updO (updO O p (.hand i)) g (.got i)) k (.known i)) ws (.wishes i) p = some (.hand i) := T5.mono _ _ (T4.mono _ _ (T3.mono _ _ updO_same))
    have og : updO (updO (updO (updO O p (.hand i)) g (.got i)) k (.known i)) ws (.wishes i) g = some (.got i) := T5.mono _ _ (T4.mono _ _ updO_same)
    have ok : updO (updO (updO (updO O p (.hand i)) g (.got i)) k (.known i)) ws (.wishes i) k = some (.known i) := T5.mono _ _ updO_same
    have ow : updO (updO (updO (updO O p (.hand i)) g (.got i)) k (.known i)) ws (.wishes i) ws = some (.wishes i) := updO_same
    have S6 := S5.trans (Stp.put (o := .dK (rh Hd.new ⟨l, g, k, ws, []⟩).kvs) S5.al op rfl noTup_dK)
    have npl : p ≠ l := fun z => by rw [← z, upd_same] at hl; cases hl
    have hp2 : (upd (upd (upd (upd (upd H p (.dK [])) l (.tup [])) g (.lst [])) k (.dK [])) ws (.dK [])) p = some (.dK []) := by
      rw [upd_ne (own_ne op ow (by intro z; cases z)), upd_ne (own_ne op ok (by intro z; cases z)), upd_ne (own_ne op og (by intro z; cases z)), upd_ne npl, upd_same]
    refine ⟨hp2, [(.inr "term", _), (.inr "vote", _), (.inr "log", _), (.inr "sure", _), (.inr "role", _), (.inr "got", _), (.inr "known", _), (.inr "told", _), (.inr "begun", _), (.inr "wishes", _)], rfl, by show 10 ≤ 15; decide, ?_⟩
    rw [mergeK_lit]
    case h =>
      show ([.inr "term", .inr "vote", .inr "log", .inr "sure", .inr "role", .inr "got", .inr "known", .inr "told", .inr "begun", .inr "wishes"] : List Key).Nodup
      decide +kernel
    have ngk : g ≠ k := own_ne og ok (by intro z; cases z)
    have ngw : g ≠ ws := own_ne og ow (by intro z; cases z)
    have nkw : k ≠ ws := own_ne ok ow (by intro z; cases z)
    refine fin p _ _ ⟨⟨l, g, k, ws, []⟩, ?_⟩ S6
    have hl2 := S6.keep
    exact {
      ob := upd_same
      op := op
      log := by
        refine im_logr.mpr ⟨[], ?_, ImAll.nil'⟩
        have q := (T3.trans (T4.trans (T5.trans (Stp.put (D := dH i) (o := .dK (rh Hd.new ⟨l, g, k, ws, []⟩).kvs) S5.al op rfl noTup_dK)))).tk S2.al
        exact q _ _ upd_same
      got := by rw [upd_ne (own_ne og op (by intro z; cases z)), upd_ne ngw, upd_ne ngk, upd_same]; rfl
      og := og
      kn := by rw [upd_ne (own_ne ok op (by intro z; cases z)), upd_ne nkw, upd_same]; rfl
      ok := ok
      ws := rfl
      wi := by rw [upd_ne (own_ne ow op (by intro z; cases z)), upd_same]; rfl
      ow := ow
      sn := fun x hx => nomatch hx }
theorem hand_w {O : Own} {H : Hp} {Q : VK} {E : XK} (i : Nat) (al : Al O H) (fin : ∀ p O' H', HandAt .law H' O' i p Hd.new → Stp (dH i) O H O' H' → Q (.ref p) H') : spHand [] H Q E := by
  unfold spHand
  exact ⟨O, i, rfl, al, fin⟩
end
end Sr

set_option Elab.async false
set_option linter.all false
set_option maxRecDepth 100000
set_option maxHeartbeats 4000000
namespace Sr
open PySem PySem.Spec PyProof.Rows L2
local macro_rules | `(tactic| walk_at "hp") => `(tactic| (unfold upd at *; grind))
section
variable {P : Program} {w : World} {base : Heap} {K : PySem.W.Frag} {mg : Str → Option Value}
/-! ### the words of the rules -/
def ruleWords : List Str := ["ahead", "cuts", "first", "near", "own", "rows", "votes"]
def ascS : List Str → Bool
  | [] => true
  | [_] => true
  | x :: y :: r => decide (x.cps.toList < y.cps.toList) && ascS (y :: r)
structure RulesOk (rs : List Str) : Prop where
  mem : ∀ r ∈ rs, r ∈ ruleWords
  asc : ascS rs = true
  len : rs.length ≤ 20
theorem asc_pair : ∀ {l : List Str}, l.Pairwise (fun a b => a.cps.toList < b.cps.toList) → ascS l = true
  | [], _ => rfl
  | [_], _ => rfl
  | x :: y :: r, h => by
    have h1 := List.rel_of_pairwise_cons h (List.mem_cons_self ..)
    simp only [ascS, decide_eq_true h1, Bool.true_and]
    exact asc_pair (List.pairwise_cons.mp h).2
theorem words_asc : ruleWords.Pairwise (fun a b => a.cps.toList < b.cps.toList) := by decide +kernel
theorem words_tri : ∀ a ∈ ruleWords, ∀ b ∈ ruleWords, a ≠ b → ltCps b.cps.toList a.cps.toList = false → a.cps.toList < b.cps.toList := by decide +kernel
theorem rules_sub {rs : List Str} (h : rs.Sublist ruleWords) : RulesOk rs :=
  ⟨fun r hr => h.subset hr, asc_pair (words_asc.sublist h), Nat.le_trans h.length_le (by decide)⟩
theorem asc_sorted : ∀ {l : List Str}, l.Nodup → (∀ r ∈ l, r ∈ ruleWords) → sortedS l = true → ascS l = true
  | [], _, _, _ => rfl
  | [_], _, _, _ => rfl
  | x :: y :: r, nd, sub, h => by
    have h : (!ltCps y.cps.toList x.cps.toList && risingS y r) = true := h
    rw [Bool.and_eq_true, Bool.not_eq_true'] at h
    have ne : x ≠ y := fun e => by
      rw [List.nodup_cons] at nd
      exact nd.1 (by rw [e]; exact List.mem_cons_self)
    have h1 := words_tri x (sub x List.mem_cons_self) y (sub y (List.mem_cons_of_mem _ List.mem_cons_self)) ne h.1
    simp only [ascS, decide_eq_true h1, Bool.true_and]
    exact asc_sorted (List.nodup_cons.mp nd).2 (fun z hz => sub z (List.mem_cons_of_mem _ hz)) h.2
def mixWords : List Str := ["first", "near", "rows", "votes", "ahead", "cuts", "own"]
theorem rules_sorted {xs ys : List Str} (h : xs.Sublist mixWords) (p : ys.Perm xs) (s : sortedS ys = true) : RulesOk ys := by
  have nd : xs.Nodup := (show mixWords.Nodup by decide +kernel).sublist h
  have sub : ∀ r ∈ ys, r ∈ ruleWords := fun r hr => (show ∀ r ∈ mixWords, r ∈ ruleWords by decide +kernel) r (h.subset (p.subset hr))
  refine ⟨sub, asc_sorted (p.symm.nodup nd) sub s, ?_⟩
  rw [p.length_eq]
  exact Nat.le_trans h.length_le (by decide)
structure PrOk (p : Pr) : Prop where
  h1 : 1 ≤ p.hands
  h2 : p.hands ≤ 4
  v1 : 1 ≤ p.votes
  v2 : p.votes ≤ p.hands
  s1 : 1 ≤ p.settlers
  s2 : p.settlers ≤ p.hands
  r1 : 1 ≤ p.seers
  r2 : p.seers ≤ p.hands
  look : LookOk p
  rules : RulesOk p.rules
/-! ### while drawing, a new list grows -/
theorem Stp.grow {D : Cell → Prop} {O : Own} {H H1 : Hp} {a : Addr} {o : HO} (s : Stp D O H O H1) (hH : H a = none) (hO : O a = none) : Stp D O H O (upd H1 a o) where
  mono := s.mono
  fresh := fun b c h => .inl h
  keep := fun b u e z => by rw [upd_ne (ne_of_none e hH)]; exact s.keep b u e z
  only := fun b c e n => by
    rw [upd_ne (fun z => by subst z; rw [hO] at e; cases e)]
    exact s.only b c e n
  al := fun b c e => by
    rw [upd_ne (fun z => by subst z; rw [hO] at e; cases e)]
    exact s.al b c e
def onD : Cell → Prop := fun c => c = .draw
structure Pk (O : Own) (H : Hp) (dw D : Addr) (ws : List Str) (j : Nat) (H2 : Hp) : Prop where
  ex : ∃ acc : List Str, acc.Sublist (ws.take j) ∧ H2 D = some (.lst (acc.map V.str))
  dr : Dr H2 O dw
  st : Stp onD O H O H2
section
variable {O : Own} {H H2 H3 : Hp} {dw D : Addr} {ws : List Str} {j : Nat} {x : Str}
theorem Pk.no (k : Pk O H dw D ws j H2) (hO : O D = none) (d : Dr H3 O dw) (s : Stp onD O H2 O H3) : Pk O H dw D ws (j + 1) H3 := by
  obtain ⟨acc, h1, h2⟩ := k.ex
  refine ⟨⟨acc, h1.trans ?_, s.keep _ _ h2 hO⟩, d, k.st.trans s⟩
  rw [List.take_add_one]
  exact List.sublist_append_left _ _
theorem Pk.yes (k : Pk O H dw D ws j H2) (hH : H D = none) (hO : O D = none) (nd : dw ≠ D) (d : Dr H3 O dw) (s : Stp onD O H2 O H3) (hx : ws[j]? = some x) (hl : ws.length < 64) : ∃ acc, H3 D = some (.lst acc) ∧ acc.length < sizeLine ∧ Pk O H dw D ws (j + 1) (upd H3 D (.lst (acc ++ [.str x]))) := by
  obtain ⟨acc, h1, h2⟩ := k.ex
  refine ⟨_, s.keep _ _ h2 hO, ?_, ⟨acc ++ [x], ?_, ?_⟩, ?_, (k.st.trans s).grow hH hO⟩
  · rw [List.length_map]
    have := h1.length_le
    rw [List.length_take] at this
    have : (64 : Nat) < sizeLine := by decide
    omega
  · rw [List.take_add_one, hx]
    exact h1.append (List.Sublist.refl _)
  · rw [upd_same, List.map_append]
    rfl
  · obtain ⟨sc, c, zs, g1, o1, g2, o2, ne⟩ := d
    exact ⟨sc, c, zs, by rw [upd_ne nd]; exact g1, o1, by rw [upd_ne (fun z => by subst z; rw [hO] at o2; cases o2)]; exact g2, o2, ne⟩
end
theorem Dr.ne {O : Own} {H : Hp} {dw D : Addr} (d : Dr H O dw) (h : O D = none) : dw ≠ D := fun z => by
  obtain ⟨_, _, _, _, o, _⟩ := d
  subst z
  rw [h] at o
  cases o
@[irreducible] def spRules : Sp := fun vs H Q _ => ∃ O dw b, vs = [.ref dw, nv b] ∧ Al O H ∧ Dr H O dw ∧ 0 < b ∧ ∀ T H' rs, RulesOk rs → H' T = some (.tup (rs.map V.str)) → Dr H' O dw → Stp onD O H O H' → Q (.ref T) H'
theorem sc_l_rules : FnScope ["_law_draw_here", "_law_odds", "_law_words", "_law_word"] ["_law_draw_here", "_law_odds"] (defScope s_l_rules) := ⟨rfl, rfl, rfl, by decide +kernel, rfl, by decide +kernel, by decide +kernel⟩
theorem ok_l_rules (T : Tx w K mg) : FnI P w K mg base "_law_rules" (3 + 1) ["_law_draw_here", "_law_odds"] spRules := by
  refine FnI.mk' T.f_l_rules T.g_l_rules sc_l_rules (fun _ _ _ _ _ _ us hl => match us, hl with | [_, _], _ => rfl) (fun vs H Q E h => ?_) (fun cdv A outer s H vs Q E hr h => ?_)
  all_goals unfold spRules at h
  · obtain ⟨_, _, _, rfl, _⟩ := h
    rfl
  · obtain ⟨O, dw, b, rfl, al, Dd, hb, fin⟩ := h
    have hu := hu_of hr
    refine ⟨_, (pss_cons (ps_set (i := 2) sc_l_rules.nd rfl (.inl rfl) (pe_lst (pa_cons pe_str (pa_cons pe_str (pa_cons pe_str (pa_cons pe_str (pa_cons pe_str (pa_cons pe_str (pa_cons pe_str pa_nil)))))))))
      (pss_one (ps_ret (pe_callTy (T := "tuple") (tupleK K) (by rfl) T.n_tuple (by decide +kernel) (pa_cons (pe_lc (own := [("_law_word", 3)]) (g := gName 3) rfl sc_l_rules.nd (pi_list (pv 2)) (blkOk_by (own := [("_law_word", 3)]) (N := ["_law_draw_here", "_law_odds", "_law_words", "_law_word"]) (sc := defScope s_l_rules) (by decide +kernel)) (fun _ _ _ _ _ => (pg_name (i := 3) sc_l_rules.nd rfl (Or.inl rfl))) (fun _ _ _ _ _ => (pts_one (pt_cmpR op_gt (pe_callI (ok_l_next T) hr (pa_cons (pv 0) (pa_cons (pv 1) pa_nil))) pe_int (nomark _)))) (fun _ _ _ _ _ => (pv 3))) pa_nil))))), ?_⟩
    refine ⟨by show 7 ≤ sizeLine; decide, fun wl hwl => ?_⟩
    have s1 := same_new (o := .lst (ruleWords.map V.str)) hwl
    have ow : O wl = none := al.fresh hwl
    have hw1 : (upd H wl (.lst (ruleWords.map V.str))) wl = some (.lst (ruleWords.map V.str)) := upd_same
    refine ⟨_, rfl, wl, rfl, ⟨_, SqL.of hw1⟩, fun D hD => ?_⟩
    have al1 := same_al s1 al
    have oD : O D = none := al1.fresh hD
    have D1 := Dd.same s1
    have nd := D1.ne oD
    have e0 : Stp onD O H O (upd H wl (.lst (ruleWords.map V.str))) := Stp.same al s1
    refine lc_it (walk_list (xs := ruleWords.map V.str)) (Pk O (upd H wl (.lst (ruleWords.map V.str))) dw D ruleWords) ?_ ?_ ?_ ?_
    · exact ⟨⟨[], List.nil_sublist _, upd_same⟩, D1.same (same_new hD), Stp.new al1 hD⟩
    · intro j H2 _ k
      exact SqL.of (k.st.keep _ _ hw1 ow)
    · rintro j x H2 _ hj k ⟨rfl, ex⟩
      rw [List.getElem?_map] at ex
      cases eq : ruleWords[j]? with
      | none => rw [eq] at ex; cases ex
      | some wd =>
        rw [eq] at ex
        cases ex
        refine ⟨rfl, _, rfl, _, rfl, next_w k.st.al k.dr hb fun n H3 hn D3 S3 => ⟨_, _, rfl, rfl, _, rfl, iteD (fun e => ?_) (fun e => ?_)⟩⟩
        · exact ⟨_, rfl, k.yes hD oD nd D3 S3 eq (by decide)⟩
        · exact k.no oD D3 S3
    · intro H2 k
      obtain ⟨acc, h1, h2⟩ := k.ex
      refine ⟨D, _, rfl, .inl ⟨SqL.of h2, fun T hT => ?_⟩⟩
      have s4 := same_new (o := .tup (acc.map V.str)) hT
      refine fin T _ acc (rules_sub (by simpa using h1)) upd_same (k.dr.same s4) (e0.trans (k.st.trans (Stp.same k.st.al s4)))
theorem rules_w {O : Own} {H : Hp} {dw : Addr} {b : Nat} {Q : VK} {E : XK} (al : Al O H) (D : Dr H O dw) (hb : 0 < b) (fin : ∀ T H' rs, RulesOk rs → H' T = some (.tup (rs.map V.str)) → Dr H' O dw → Stp onD O H O H' → Q (.ref T) H') : spRules [.ref dw, nv b] H Q E := by
  unfold spRules
  exact ⟨O, dw, b, rfl, al, D, hb, fin⟩
end
end Sr

set_option Elab.async false
set_option linter.all false
set_option maxRecDepth 100000
set_option maxHeartbeats 4000000
namespace Sr
open PySem PySem.Spec PyProof.Rows L2
local macro_rules | `(tactic| walk_at "hp") => `(tactic| (unfold upd at *; grind))
section
variable {P : Program} {w : World} {base : Heap} {K : PySem.W.Frag} {mg : Str → Option Value}
theorem cat_tups {K : PySem.W.Frag} {H : Hp} {a b : Addr} {xs ys : List V} {Q : VK} (hx : H a = some (.tup xs)) (hy : H b = some (.tup ys)) (h1 : xs ≠ []) (h2 : ys ≠ []) (hz : xs.length + ys.length ≤ sizeLine) (k : ∀ p, H p = none → Q (.ref p) (upd H p (.tup (xs ++ ys)))) : rCatA K (.ref a) (.ref b) H Q :=
  ⟨a, b, xs, ys, rfl, rfl, SqT.of hx, SqT.of hy, hz, fun e => (h1 e).elim, fun _ e => (h2 e).elim, fun _ _ p hp => k p hp⟩
theorem im_int {H : Hp} {x : Int} (h : 0 ≤ x) : Im H (natD x.toNat) (.int x) := by
  rw [im_nat]
  exact int_nv h
/-- the numbers of a protocol, while drawn -/
structure Nk (O : Own) (H : Hp) (dw D : Addr) (b j : Nat) (H2 : Hp) : Prop where
  ex : ∃ ns : List Nat, ns.length = j ∧ (∀ x ∈ ns, 1 ≤ x ∧ x ≤ b) ∧ H2 D = some (.lst (ns.map nv))
  dr : Dr H2 O dw
  st : Stp onD O H O H2
theorem im_pr' {H : Hp} {p : Pr} {v : V} {a r : Addr} (e : v = .ref a) (h1 : H a = some (.tup [nv p.hands, nv p.votes, nv p.settlers, nv p.seers, .str p.look, .ref r])) (h2 : H r = some (.tup (p.rules.map V.str))) : Im H p.data v := im_pr.mpr ⟨a, r, e, h1, h2⟩
@[irreducible] def spProto : Sp := fun vs H Q _ => ∃ O dw b c, vs = [.ref dw, nv b, nv c] ∧ Al O H ∧ Dr H O dw ∧ 0 < b ∧ b ≤ 4 ∧ 0 < c ∧ ∀ v H' pr, PrOk pr → Im H' pr.data v → Dr H' O dw → Stp onD O H O H' → Q v H'
theorem sc_l_protocol : FnScope ["_law_draw_here", "_law_most", "_law_odds", "_law_hands", "_law_numbers", "_law_turn", "_law_look"] ["_law_draw_here", "_law_most", "_law_odds"] (defScope s_l_protocol) := ⟨rfl, rfl, rfl, by decide +kernel, rfl, by decide +kernel, by decide +kernel⟩
theorem ok_l_protocol (T : Tx w K mg) : FnI P w K mg base "_law_protocol" (4 + 1) ["_law_draw_here", "_law_most", "_law_odds"] spProto := by
  refine FnI.mk' T.f_l_protocol T.g_l_protocol sc_l_protocol (fun _ _ _ _ _ _ us hl => match us, hl with | [_, _, _], _ => rfl) (fun vs H Q E h => ?_) (fun cdv A outer s H vs Q E hr h => ?_)
  all_goals unfold spProto at h
  · obtain ⟨_, _, _, _, rfl, _⟩ := h
    rfl
  · obtain ⟨O, dw, b, c, rfl, al, Dd, hb, hb4, hc, fin⟩ := h
    have hu := hu_of hr
    refine ⟨_, (pss_cons (ps_set (i := 3) sc_l_protocol.nd rfl (.inr rfl) (pe_op op_add pe_int (pe_callI (ok_l_next T) hr (pa_cons (pv 0) (pa_cons (pv 1) pa_nil)))))
      (pss_cons (ps_set (i := 4) sc_l_protocol.nd rfl (.inl rfl) (pe_callTy (T := "tuple") (tupleK K) (by rfl) T.n_tuple (by decide +kernel) (pa_cons (pe_lc (own := [("_law_turn", 5)]) (g := gName 5) rfl sc_l_protocol.nd (pi_range1 (by rfl) T.n_range (pa_cons pe_int pa_nil)) (blkOk_by (own := [("_law_turn", 5)]) (N := ["_law_draw_here", "_law_most", "_law_odds", "_law_hands", "_law_numbers", "_law_turn", "_law_look"]) (sc := defScope s_l_protocol) (by decide +kernel)) (fun _ _ _ _ _ => (pg_name (i := 5) sc_l_protocol.nd rfl (Or.inl rfl))) (fun _ _ _ _ _ => pts_nil) (fun _ _ _ _ _ => (pe_op op_add pe_int (pe_callI (ok_l_next T) hr (pa_cons (pv 0) (pa_cons (pv 3) pa_nil)))))) pa_nil)))
      (pss_cons (ps_set (i := 6) sc_l_protocol.nd rfl (.inl rfl) (pe_callI (ok_l_pick T) hr (pa_cons (pv 0) (pa_cons (pe_lst (pa_cons pe_str (pa_cons pe_str (pa_cons pe_str (pa_cons pe_str (pa_cons pe_str pa_nil)))))) pa_nil))))
      (pss_one (ps_ret (pe_op op_catA (pe_op op_catA (pe_tup (pa_cons (pv 3) pa_nil)) (pv 4)) (pe_tup (pa_cons (pv 6) (pa_cons (pe_callI (ok_l_rules T) hr (pa_cons (pv 0) (pa_cons (pv 2) pa_nil))) pa_nil))))))))), ?_⟩
    refine ⟨_, rfl, _, rfl, next_w al Dd hb fun n H1 hn D1 S1 => ⟨_, _, rfl, rfl, ?_⟩⟩
    refine ⟨_, rfl, by decide, by decide, fun D hD => ?_⟩
    have oD : O D = none := S1.al.fresh hD
    have nd := D1.ne oD
    refine lc_it (walk_range (lo := 0) (n := 3)) (Nk O H1 dw D (1 + n)) ?_ ?_ ?_ ?_
    · exact ⟨⟨[], rfl, (fun x hx => nomatch hx), upd_same⟩, D1.same (same_new hD), Stp.new S1.al hD⟩
    · exact fun _ _ _ _ => trivial
    · rintro j x H2 _ hj k ⟨rfl, rfl⟩
      refine ⟨rfl, ?_⟩
      refine ⟨_, rfl, _, rfl, next_w (b := 1 + n) k.st.al k.dr (by omega) fun n2 H3 hn2 D3 S3 => ⟨_, _, rfl, rfl, ?_⟩⟩
      obtain ⟨ns, g1, g2, g3⟩ := k.ex
      refine ⟨_, S3.keep _ _ g3 oD, ?_, ⟨ns ++ [1 + n2], ?_, ?_, ?_⟩, ?_, (k.st.trans S3).grow hD oD⟩
      · rw [List.length_map, g1]
        have : (64 : Nat) < sizeLine := by decide
        omega
      · rw [List.length_append, g1]; rfl
      · intro x hx
        rcases List.mem_append.mp hx with z | z
        · exact g2 x z
        · rw [List.mem_singleton.mp z]
          omega
      · rw [upd_same, List.map_append]
        rfl
      · obtain ⟨sc, c, zs, g1, o1, g2, o2, ne⟩ := D3
        exact ⟨sc, c, zs, by rw [upd_ne nd]; exact g1, o1, by rw [upd_ne (fun z => by subst z; rw [oD] at o2; cases o2)]; exact g2, o2, ne⟩
    · intro H2 k
      obtain ⟨ns, g1, g2, g3⟩ := k.ex
      refine ⟨D, _, rfl, .inl ⟨SqL.of g3, fun T hT => ?_⟩⟩
      have s3 := same_new (o := .tup (ns.map nv)) hT
      have t3 : (upd H2 T (.tup (ns.map nv))) T = some (.tup (ns.map nv)) := upd_same
      have S3 := k.st.trans (Stp.same k.st.al s3)
      have D3 := k.dr.same s3
      refine ⟨_, rfl, by show 5 ≤ sizeLine; decide, fun l hl => ?_⟩
      have s4 := same_new (o := .lst [.str "both", .str "both", .str "none", .str "count", .str "term"]) hl
      have al4 := same_al s4 S3.al
      refine pick_w al4 (D3.same s4) (upd_same (a := l) (o := .lst [.str "both", .str "both", .str "none", .str "count", .str "term"])) (S3.al.fresh hl) (by show 0 < 5; decide) fun v H5 hv D5 S5 => ?_
      obtain ⟨look, rfl, hlook⟩ : ∃ s : Str, v = .str s ∧ (s = "none" ∨ s = "count" ∨ s = "term" ∨ s = "both") := by
        simp only [List.mem_cons, List.not_mem_nil, or_false] at hv
        rcases hv with rfl | rfl | rfl | rfl | rfl
        · exact ⟨_, rfl, .inr (.inr (.inr rfl))⟩
        · exact ⟨_, rfl, .inr (.inr (.inr rfl))⟩
        · exact ⟨_, rfl, .inl rfl⟩
        · exact ⟨_, rfl, .inr (.inl rfl)⟩
        · exact ⟨_, rfl, .inr (.inr (.inl rfl))⟩
      have t5 := S5.keep _ _ (s4 _ _ t3) (by
        have := k.st.al.fresh hT
        exact this)
      have St5 : Stp onD O H O H5 := S1.trans (S3.trans ((Stp.same S3.al s4).trans S5))
      refine ⟨_, rfl, by show 1 ≤ sizeLine; decide, fun T1 hT1 => ⟨_, rfl, ?_⟩⟩
      have s6 := same_new (o := .tup [nv (1 + n)]) hT1
      refine cat_tups (xs := [nv (1 + n)]) (ys := ns.map nv) upd_same (s6 _ _ t5) (by simp) (by intro e; rw [List.map_eq_nil_iff] at e; rw [e] at g1; cases g1) (by rw [List.length_map, g1]; show 4 ≤ sizeLine; decide) fun T2 hT2 => ?_
      have s7 := same_new (o := .tup ([nv (1 + n)] ++ ns.map nv)) hT2
      have t7 : (upd (upd H5 T1 (.tup [nv (1 + n)])) T2 (.tup ([nv (1 + n)] ++ ns.map nv))) T2 = some (.tup ([nv (1 + n)] ++ ns.map nv)) := upd_same
      have s67 := s6.trans s7
      have al7 := same_al s67 S5.al
      refine ⟨_, rfl, _, rfl, _, rfl, rules_w al7 (D5.same s67) hc fun T3 H8 rs hrs hT3 D8 S8 => ?_⟩
      refine ⟨by show 2 ≤ sizeLine; decide, fun T4 hT4 => ?_⟩
      have s9 := same_new (o := .tup [.str look, .ref T3]) hT4
      have oT2 : O T2 = none := (same_al s6 S5.al).fresh hT2
      refine cat_tups (xs := [nv (1 + n)] ++ ns.map nv) (ys := [.str look, .ref T3]) (s9 _ _ (S8.keep _ _ t7 oT2)) upd_same (by simp) (by simp) (by rw [List.length_append, List.length_map, g1]; show 6 ≤ sizeLine; decide) fun T5 hT5 => ?_
      have s10 := same_new (o := .tup ([nv (1 + n)] ++ ns.map nv ++ [.str look, .ref T3])) hT5
      have s910 := s9.trans s10
      match ns, g1, g2 with
      | [a1, a2, a3], _, g2 =>
        have q1 := g2 a1 (by simp)
        have q2 := g2 a2 (by simp)
        have q3 := g2 a3 (by simp)
        refine fin _ _ ⟨1 + n, a1, a2, a3, look, rs⟩ ⟨by show 1 ≤ 1 + n; omega, by show 1 + n ≤ 4; omega, q1.1, q1.2, q2.1, q2.2, q3.1, q3.2, hlook, hrs⟩ (im_pr' rfl upd_same (s910 _ _ hT3)) (D8.same s910) (St5.trans ((Stp.same S5.al s67).trans (S8.trans (Stp.same S8.al s910))))
theorem proto_w {O : Own} {H : Hp} {dw : Addr} {b c : Nat} {Q : VK} {E : XK} (al : Al O H) (D : Dr H O dw) (hb : 0 < b) (hb4 : b ≤ 4) (hc : 0 < c) (fin : ∀ v H' pr, PrOk pr → Im H' pr.data v → Dr H' O dw → Stp onD O H O H' → Q v H') : spProto [.ref dw, nv b, nv c] H Q E := by
  unfold spProto
  exact ⟨O, dw, b, c, rfl, al, D, hb, hb4, hc, fin⟩
end
end Sr

set_option Elab.async false
set_option linter.all false
set_option maxRecDepth 100000
set_option maxHeartbeats 4000000
namespace Sr
open PySem PySem.Spec PyProof.Rows L2
local macro_rules | `(tactic| walk_at "hp") => `(tactic| (unfold upd at *; grind))
section
variable {P : Program} {w : World} {base : Heap} {K : PySem.W.Frag} {mg : Str → Option Value}
theorem im_prI {H : Hp} {a q : Addr} {h v s r : Int} {look : Str} {rs : List Str} (h0 : 0 ≤ h) (v0 : 0 ≤ v) (s0 : 0 ≤ s) (r0 : 0 ≤ r) (e : H a = some (.tup [.int h, .int v, .int s, .int r, .str look, .ref q])) (e2 : H q = some (.tup (rs.map V.str))) :
    Im H (Pr.data ⟨h.toNat, v.toNat, s.toNat, r.toNat, look, rs⟩) (.ref a) := im_pr' rfl (by rw [e, int_nv h0, int_nv v0, int_nv s0, int_nv r0]) e2
theorem prOkI {h v s r : Int} {look : Str} {rs : List Str} (h1 : 1 ≤ h) (h2 : h ≤ 4) (v1 : 1 ≤ v) (v2 : v ≤ h) (s1 : 1 ≤ s) (s2 : s ≤ h) (r1 : 1 ≤ r) (r2 : r ≤ h) (lo : look = "none" ∨ look = "count" ∨ look = "term" ∨ look = "both") (ro : RulesOk rs) : PrOk ⟨h.toNat, v.toNat, s.toNat, r.toNat, look, rs⟩ where
  h1 := by show 1 ≤ h.toNat; omega
  h2 := by show h.toNat ≤ 4; omega
  v1 := by show 1 ≤ v.toNat; omega
  v2 := by show v.toNat ≤ h.toNat; omega
  s1 := by show 1 ≤ s.toNat; omega
  s2 := by show s.toNat ≤ h.toNat; omega
  r1 := by show 1 ≤ r.toNat; omega
  r2 := by show r.toNat ≤ h.toNat; omega
  look := lo
  rules := ro
theorem look_in {v : V} {ls : List Str} (h : v ∈ ls.map V.str) (hs : ∀ x ∈ ls, x = "none" ∨ x = "count" ∨ x = "term" ∨ x = "both") : ∃ s : Str, v = .str s ∧ (s = "none" ∨ s = "count" ∨ s = "term" ∨ s = "both") := by
  obtain ⟨x, hx, rfl⟩ := List.mem_map.mp h
  exact ⟨x, rfl, hs x hx⟩
@[irreducible] def spGood : Sp := fun vs H Q _ => ∃ O dw, vs = [.ref dw, .int 4] ∧ Al O H ∧ Dr H O dw ∧ ∀ v H' pr, PrOk pr → Im H' pr.data v → Dr H' O dw → Stp onD O H O H' → Q v H'
theorem sc_l_good : FnScope ["_law_draw_here", "_law_most", "_law_hands", "_law_votes", "_law_settlers", "_law_kind", "_law_rules_here", "_law_word", "_law_more", "_law_look"] ["_law_draw_here", "_law_most"] (defScope s_l_good) := ⟨rfl, rfl, rfl, by decide +kernel, rfl, by decide +kernel, by decide +kernel⟩
theorem ok_l_good (T : Tx w K mg) : FnI P w K mg base "_law_good" (4 + 1) ["_law_draw_here", "_law_most"] spGood := by
  refine FnI.mk' T.f_l_good T.g_l_good sc_l_good (fun _ _ _ _ _ _ us hl => match us, hl with | [_, _], _ => rfl) (fun vs H Q E h => ?_) (fun cdv A outer s H vs Q E hr h => ?_)
  all_goals unfold spGood at h
  · obtain ⟨_, _, rfl, _⟩ := h
    rfl
  · obtain ⟨O, dw, rfl, al, Dd, fin⟩ := h
    have hu := hu_of hr
    refine ⟨_, (pss_cons (ps_set (i := 2) sc_l_good.nd rfl (.inl rfl) (pe_op op_add pe_int (pe_callI (ok_l_next T) hr (pa_cons (pv 0) (pa_cons (pe_op op_sub (pv 1) pe_int) pa_nil)))))
      (pss_cons (ps_set (i := 3) sc_l_good.nd rfl (.inl rfl) (pe_op op_add (pe_op op_add (pe_op op_fdivW (pv 2) pe_int) pe_int) (pe_callI (ok_l_next T) hr (pa_cons (pv 0) (pa_cons (pe_op op_sub (pv 2) (pe_op op_fdivW (pv 2) pe_int)) pa_nil)))))
      (pss_cons (ps_set (i := 4) sc_l_good.nd rfl (.inl rfl) (pe_op op_add (pe_op op_add (pe_op op_sub (pv 2) (pv 3)) pe_int) (pe_callI (ok_l_next T) hr (pa_cons (pv 0) (pa_cons (pv 3) pa_nil)))))
      (pss_cons (ps_set (i := 5) sc_l_good.nd rfl (.inl rfl) (pe_callI (ok_l_next T) hr (pa_cons (pv 0) (pa_cons pe_int pa_nil))))
      (pss_cons (ps_set (i := 6) sc_l_good.nd rfl (.inl rfl) (pe_op op_cat (pe_lc (own := [("_law_word", 7)]) (g := gName 7) rfl sc_l_good.nd (pi_tup (pe_tup (pa_cons pe_str (pa_cons pe_str pa_nil)))) (blkOk_by (own := [("_law_word", 7)]) (N := ["_law_draw_here", "_law_most", "_law_hands", "_law_votes", "_law_settlers", "_law_kind", "_law_rules_here", "_law_word", "_law_more", "_law_look"]) (sc := defScope s_l_good) (by decide +kernel)) (fun _ _ _ _ _ => (pg_name (i := 7) sc_l_good.nd rfl (Or.inl rfl))) (fun _ _ _ _ _ => (pts_one (pt_cmpR op_gt (pe_callI (ok_l_next T) hr (pa_cons (pv 0) (pa_cons pe_int pa_nil))) pe_int (nomark _)))) (fun _ _ _ _ _ => (pv 7))) (pe_lst (pa_cons pe_str (pa_cons pe_str pa_nil)))))
      (pss_cons (ps_if (pt_cmpR op_eq (pv 5) pe_int (nomark _)) (pss_cons (ps_setLc (i := 8) (own := [("_law_word", 7)]) (g := gName 7) rfl sc_l_good.nd rfl rfl (sw_true rfl rfl rfl (by decide +kernel)) (pi_tup (pe_tup (pa_cons pe_str (pa_cons pe_str (pa_cons pe_str pa_nil))))) (blkOk_by (own := [("_law_word", 7)]) (N := ["_law_draw_here", "_law_most", "_law_hands", "_law_votes", "_law_settlers", "_law_kind", "_law_rules_here", "_law_word", "_law_more", "_law_look"]) (sc := defScope s_l_good) (by decide +kernel)) (fun _ _ _ _ _ => (pg_name (i := 7) sc_l_good.nd rfl (Or.inl rfl))) (fun _ _ _ _ _ => (pts_one (pt_cmpR op_eq (pe_callI (ok_l_next T) hr (pa_cons (pv 0) (pa_cons pe_int pa_nil))) pe_int (nomark _)))) (fun _ _ _ _ _ => (pv 7)))
      (pss_one (ps_ret (pe_tup (pa_cons (pv 2) (pa_cons (pv 2) (pa_cons (pe_op op_add pe_int (pe_callI (ok_l_next T) hr (pa_cons (pv 0) (pa_cons (pv 2) pa_nil)))) (pa_cons pe_int (pa_cons (pe_callI (ok_l_pick T) hr (pa_cons (pv 0) (pa_cons (pe_lst (pa_cons pe_str (pa_cons pe_str pa_nil))) pa_nil))) (pa_cons (pe_callTy (T := "tuple") (tupleK K) (by rfl) T.n_tuple (by decide +kernel) (pa_cons (pe_callB (id := "sorted") cr_sortedS (by rfl) T.n_sorted (by decide +kernel) (pa_cons (pe_op op_cat (pv 6) (pv 8)) pa_nil)) pa_nil)) pa_nil)))))))))) pss_nil)
      (pss_cons (ps_if (pt_cmpR op_eq (pv 5) pe_int (nomark _)) (pss_cons (ps_set (i := 9) sc_l_good.nd rfl (.inl rfl) (pe_callI (ok_l_pick T) hr (pa_cons (pv 0) (pa_cons (pe_lst (pa_cons pe_str (pa_cons pe_str (pa_cons pe_str (pa_cons pe_str pa_nil))))) pa_nil))))
      (pss_one (ps_ret (pe_tup (pa_cons (pv 2) (pa_cons (pv 3) (pa_cons (pv 2) (pa_cons (pe_op op_add pe_int (pe_callI (ok_l_next T) hr (pa_cons (pv 0) (pa_cons (pv 2) pa_nil)))) (pa_cons (pv 9) (pa_cons (pe_callTy (T := "tuple") (tupleK K) (by rfl) T.n_tuple (by decide +kernel) (pa_cons (pe_callB (id := "sorted") cr_sortedS (by rfl) T.n_sorted (by decide +kernel) (pa_cons (pe_op op_cat (pv 6) (pe_lst (pa_cons pe_str (pa_cons pe_str pa_nil)))) pa_nil)) pa_nil)) pa_nil)))))))))) pss_nil)
      (pss_one (ps_ret (pe_tup (pa_cons (pv 2) (pa_cons (pv 3) (pa_cons (pv 4) (pa_cons (pe_op op_add pe_int (pe_callI (ok_l_next T) hr (pa_cons (pv 0) (pa_cons (pv 2) pa_nil)))) (pa_cons pe_str (pa_cons (pe_callTy (T := "tuple") (tupleK K) (by rfl) T.n_tuple (by decide +kernel) (pa_cons (pe_callB (id := "sorted") cr_sortedS (by rfl) T.n_sorted (by decide +kernel) (pa_cons (pe_op op_cat (pv 6) (pe_lst (pa_cons pe_str (pa_cons pe_str (pa_cons pe_str pa_nil))))) pa_nil)) pa_nil)) pa_nil)))))))))))))))), ?_⟩
    refine ⟨_, rfl, _, rfl, _, _, rfl, rfl, next_wI al Dd (by decide) fun n H1 hn D1 S1 => ⟨_, _, rfl, rfl, ?_⟩⟩
    have hn : (n : Int) < 3 := hn
    refine ⟨_, rfl, _, _, rfl, rfl, ⟨by decide, by decide⟩, _, _, rfl, rfl, _, rfl, _, rfl, _, rfl, _, _, rfl, rfl, ⟨by decide, by decide⟩, _, _, rfl, rfl, next_wI S1.al D1 (by show 0 < (2 + (n : Int)) - (2 + (n : Int)) / 2; omega) fun v H2 hv D2 S2 => ⟨_, _, rfl, rfl, ?_⟩⟩
    have hv : (v : Int) < (2 + (n : Int)) - (2 + (n : Int)) / 2 := hv
    have S2 := S1.trans S2
    refine ⟨_, rfl, _, rfl, _, _, rfl, rfl, _, _, rfl, rfl, _, rfl, _, rfl, next_wI S2.al D2 (by show 0 < (2 + (n : Int)) / 2 + 1 + (v : Int); omega) fun s H3 hs D3 S3 => ⟨_, _, rfl, rfl, ?_⟩⟩
    have hs : (s : Int) < (2 + (n : Int)) / 2 + 1 + (v : Int) := hs
    have S3 := S2.trans S3
    refine ⟨_, rfl, next_wI S3.al D3 (by decide) fun kd H4 hkd D4 S4 => ?_⟩
    have S4 := S3.trans S4
    clear S1 S2 S3 D1 D2 D3
    dsimp only
    refine seq_have (fun σ2 H8 => ∃ (l6 : Addr) (xs : List Str), σ2 = [some (.ref dw), some (.int 4), some (.int (2 + (n : Int))), some (.int ((2 + (n : Int)) / 2 + 1 + (v : Int))), some (.int ((2 + (n : Int)) - ((2 + (n : Int)) / 2 + 1 + (v : Int)) + 1 + (s : Int))), some (nv kd), some (.ref l6), none, none, none] ∧
      H8 l6 = some (.lst (xs.map V.str)) ∧ O l6 = none ∧ xs.Sublist (["first", "near", "rows", "votes"] : List Str) ∧ Dr H8 O dw ∧ Stp onD O H O H8) ?_ (fun key => ?_)
    rotate_left
    · refine ⟨by show 2 ≤ sizeLine; decide, fun tw htw => ⟨tw, rfl, ⟨_, SqT.of upd_same⟩, fun D hD => ?_⟩⟩
      have s5 := same_new (o := .tup ((["first", "near"] : List Str).map V.str)) htw
      have al5 := same_al s5 S4.al
      have oD : O D = none := al5.fresh hD
      have D5 := D4.same s5
      have nd := D5.ne oD
      have S5 := S4.trans (Stp.same S4.al s5)
      have otw : O tw = none := S4.al.fresh htw
      refine lc_it (walk_tup (xs := (["first", "near"] : List Str).map V.str)) (Pk O (upd H4 tw (.tup ((["first", "near"] : List Str).map V.str))) dw D ["first", "near"]) ?_ ?_ ?_ ?_
      · exact ⟨⟨[], List.nil_sublist _, upd_same⟩, D5.same (same_new hD), Stp.new al5 hD⟩
      · intro j H6 _ k
        exact SqT.of (k.st.keep _ _ upd_same otw)
      · rintro j x H6 _ hj k ⟨rfl, ex⟩
        rw [List.getElem?_map] at ex
        cases eq : (["first", "near"] : List Str)[j]? with
        | none => rw [eq] at ex; cases ex
        | some wd =>
          rw [eq] at ex
          cases ex
          refine ⟨rfl, _, rfl, next_wI k.st.al k.dr (by decide) fun n H7 hn D7 S7 => ⟨_, _, rfl, rfl, _, rfl, iteD (fun e => ?_) (fun e => ?_)⟩⟩
          · exact ⟨_, rfl, k.yes hD oD nd D7 S7 eq (by decide)⟩
          · exact k.no oD D7 S7
      intro H6 k
      obtain ⟨acc, a1, h6⟩ := k.ex
      have a1 : acc.Sublist ["first", "near"] := by simpa using a1
      have D6 := k.dr
      have S6 := S5.trans k.st
      have la := a1.length_le
      refine ⟨by show 2 ≤ sizeLine; decide, fun l2 hl2 => ?_⟩
      have s7 := same_new (o := .lst ((["rows", "votes"] : List Str).map V.str)) hl2
      refine ⟨D, l2, _, _, rfl, rfl, s7 _ _ h6, upd_same, by
        rw [List.length_map]
        have : (64 : Nat) < sizeLine := by decide
        show acc.length + 2 ≤ sizeLine
        have la : acc.length ≤ 2 := la
        omega, fun l6 hl6 => ?_⟩
      have s8 := same_new (o := .lst (acc.map V.str ++ (["rows", "votes"] : List Str).map V.str)) hl6
      have s78 := s7.trans s8
      refine key _ _ ⟨l6, acc ++ (["rows", "votes"] : List Str), rfl, ?_, (same_al s7 S6.al).fresh hl6, a1.append (List.Sublist.refl _), D6.same s78, S6.trans (Stp.same S6.al s78)⟩
      rw [upd_same, List.map_append]
      rfl
    rintro _ H8 ⟨l6, xs, rfl, h8, ol6, hxs, D8, S8⟩
    clear S4 D4
    have lx : xs.length ≤ 4 := hxs.length_le
    have hsz : (64 : Nat) < sizeLine := by decide
    refine ⟨_, rfl, rfl, _, rfl, iteD (fun ek => ?_) (fun ek => ?_)⟩
    · dsimp only
      refine seq_have (fun σ2 H9 => ∃ (l9 : Addr) (ys : List Str), σ2 = [some (.ref dw), some (.int 4), some (.int (2 + (n : Int))), some (.int ((2 + (n : Int)) / 2 + 1 + (v : Int))), some (.int ((2 + (n : Int)) - ((2 + (n : Int)) / 2 + 1 + (v : Int)) + 1 + (s : Int))), some (nv kd), some (.ref l6), none, some (.ref l9), none] ∧
        H9 l9 = some (.lst (ys.map V.str)) ∧ O l9 = none ∧ H9 l6 = some (.lst (xs.map V.str)) ∧ ys.Sublist (["ahead", "cuts", "own"] : List Str) ∧ Dr H9 O dw ∧ Stp onD O H O H9) ?_ (fun key => ?_)
      rotate_left
      · refine ⟨by show 3 ≤ sizeLine; decide, fun tw htw => ⟨tw, rfl, ⟨_, SqT.of upd_same⟩, fun D hD => ?_⟩⟩
        have s5 := same_new (o := .tup ((["ahead", "cuts", "own"] : List Str).map V.str)) htw
        have al5 := same_al s5 S8.al
        have oD : O D = none := al5.fresh hD
        have D5 := D8.same s5
        have nd := D5.ne oD
        have S5 := S8.trans (Stp.same S8.al s5)
        have otw : O tw = none := S8.al.fresh htw
        refine lc_it (walk_tup (xs := (["ahead", "cuts", "own"] : List Str).map V.str)) (Pk O (upd H8 tw (.tup ((["ahead", "cuts", "own"] : List Str).map V.str))) dw D ["ahead", "cuts", "own"]) ?_ ?_ ?_ ?_
        · exact ⟨⟨[], List.nil_sublist _, upd_same⟩, D5.same (same_new hD), Stp.new al5 hD⟩
        · intro j H6 _ k
          exact SqT.of (k.st.keep _ _ upd_same otw)
        · rintro j x H6 _ hj k ⟨rfl, ex⟩
          rw [List.getElem?_map] at ex
          cases eq : (["ahead", "cuts", "own"] : List Str)[j]? with
          | none => rw [eq] at ex; cases ex
          | some wd =>
            rw [eq] at ex
            cases ex
            refine ⟨rfl, _, rfl, next_wI k.st.al k.dr (by decide) fun n H7 hn D7 S7 => ⟨rfl, _, rfl, iteD (fun e => ?_) (fun e => ?_)⟩⟩
            · exact ⟨_, rfl, k.yes hD oD nd D7 S7 eq (by decide)⟩
            · exact k.no oD D7 S7
        intro H6 k
        obtain ⟨acc, a1, h6⟩ := k.ex
        exact key _ _ ⟨D, acc, rfl, h6, oD, k.st.keep _ _ (s5 _ _ h8) ol6, by simpa using a1, k.dr, S5.trans k.st⟩
      rintro _ H9 ⟨l9, ys, rfl, h9, ol9, h86, hys, D9, S9⟩
      have ly : ys.length ≤ 3 := hys.length_le
      refine ⟨_, rfl, _, rfl, _, rfl, _, rfl, next_wI S9.al D9 (by show 0 < 2 + (n : Int); omega) fun x H10 hx D10 S10 => ⟨_, _, rfl, rfl, ?_⟩⟩
      have hx : (x : Int) < 2 + (n : Int) := hx
      refine ⟨_, rfl, by show 2 ≤ sizeLine; decide, fun l hl => ?_⟩
      have s11 := same_new (o := .lst ((["count", "both"] : List Str).map V.str)) hl
      refine pick_w (same_al s11 S10.al) (D10.same s11) (upd_same (a := l) (o := .lst ((["count", "both"] : List Str).map V.str))) (S10.al.fresh hl) (by show 0 < 2; decide) fun lv H12 hlv D12 S12 => ?_
      obtain ⟨look, rfl, hlook⟩ := look_in hlv (by
        intro x hx
        simp only [List.mem_cons, List.not_mem_nil, or_false] at hx
        rcases hx with rfl | rfl
        · exact .inr (.inl rfl)
        · exact .inr (.inr (.inr rfl)))
      have S12 := S10.trans ((Stp.same S10.al s11).trans S12)
      have g6 := S12.keep _ _ h86 ol6
      have g9 := S12.keep _ _ h9 ol9
      refine ⟨_, rfl, _, rfl, l6, l9, _, _, rfl, rfl, g6, g9, by rw [List.length_map, List.length_map]; omega, fun p hp => ?_⟩
      have s13 := same_new (o := .lst (xs.map V.str ++ ys.map V.str)) hp
      refine ⟨p, xs ++ ys, rfl, SqL.of (by rw [upd_same, List.map_append]), by rw [List.length_append]; omega, fun zs p2 hperm hsrt hp2 => ⟨p2, _, rfl, .inl ⟨SqL.of upd_same, fun T hT => ?_⟩⟩⟩
      refine ⟨by show 6 ≤ sizeLine; decide, fun T2 hT2 => ?_⟩
      have hr : RulesOk zs := rules_sorted (hxs.append hys) hperm hsrt
      have s14 := same_new (o := .lst (zs.map V.str)) hp2
      have s15 := same_new (o := .tup (zs.map V.str)) hT
      have s16 := same_new (o := .tup [.int (2 + (n : Int)), .int (2 + (n : Int)), .int (1 + (x : Int)), .int 1, .str look, .ref T]) hT2
      have sm := s13.trans (s14.trans (s15.trans s16))
      exact fin _ _ _ (prOkI (h := 2 + (n : Int)) (v := 2 + (n : Int)) (s := 1 + (x : Int)) (r := 1) (by omega) (by omega) (by omega) (by omega) (by omega) (by omega) (by omega) (by omega) hlook hr)
        (im_prI (by omega) (by omega) (by omega) (by omega) upd_same (s16 _ _ upd_same)) (D12.same sm) (S9.trans (S12.trans (Stp.same S12.al sm)))
    refine ⟨_, rfl, rfl, _, rfl, iteD (fun ek1 => ?_) (fun ek1 => ?_)⟩
    · refine ⟨_, rfl, by show 4 ≤ sizeLine; decide, fun l hl => ?_⟩
      have s11 := same_new (o := .lst ((["none", "count", "term", "both"] : List Str).map V.str)) hl
      refine pick_w (same_al s11 S8.al) (D8.same s11) (upd_same (a := l) (o := .lst ((["none", "count", "term", "both"] : List Str).map V.str))) (S8.al.fresh hl) (by show 0 < 4; decide) fun lv H9 hlv D9 S9 => ?_
      obtain ⟨look, rfl, hlook⟩ := look_in hlv (by
        intro x hx
        simpa only [List.mem_cons, List.not_mem_nil, or_false] using hx)
      have S9 := (Stp.same S8.al s11).trans S9
      have g6 := S9.keep _ _ h8 ol6
      refine ⟨_, rfl, _, rfl, _, rfl, _, rfl, _, rfl, next_wI S9.al D9 (by show 0 < 2 + (n : Int); omega) fun x H10 hx D10 S10 => ⟨_, _, rfl, rfl, ?_⟩⟩
      have hx : (x : Int) < 2 + (n : Int) := hx
      have g6 := S10.keep _ _ g6 ol6
      refine ⟨_, rfl, _, rfl, by show 2 ≤ sizeLine; decide, fun l9 hl9 => ?_⟩
      have s12 := same_new (o := .lst ((["ahead", "cuts"] : List Str).map V.str)) hl9
      refine ⟨l6, l9, _, _, rfl, rfl, s12 _ _ g6, upd_same, by
        rw [List.length_map]
        show xs.length + 2 ≤ sizeLine
        omega, fun p hp => ?_⟩
      have s13 := same_new (o := .lst (xs.map V.str ++ (["ahead", "cuts"] : List Str).map V.str)) hp
      refine ⟨p, xs ++ (["ahead", "cuts"] : List Str), rfl, SqL.of (by rw [upd_same, List.map_append]; rfl), by rw [List.length_append]; show xs.length + 2 < 64; omega, fun zs p2 hperm hsrt hp2 => ⟨p2, _, rfl, .inl ⟨SqL.of upd_same, fun T hT => ?_⟩⟩⟩
      refine ⟨by show 6 ≤ sizeLine; decide, fun T2 hT2 => ?_⟩
      have hr : RulesOk zs := rules_sorted ((hxs.append (List.Sublist.refl (["ahead", "cuts"] : List Str))).trans (show List.Sublist ((["first", "near", "rows", "votes"] : List Str) ++ (["ahead", "cuts"] : List Str)) mixWords by decide +kernel)) hperm hsrt
      have s14 := same_new (o := .lst (zs.map V.str)) hp2
      have s15 := same_new (o := .tup (zs.map V.str)) hT
      have s16 := same_new (o := .tup [.int (2 + (n : Int)), .int ((2 + (n : Int)) / 2 + 1 + (v : Int)), .int (2 + (n : Int)), .int (1 + (x : Int)), .str look, .ref T]) hT2
      have sm := s12.trans (s13.trans (s14.trans (s15.trans s16)))
      exact fin _ _ _ (prOkI (h := 2 + (n : Int)) (v := (2 + (n : Int)) / 2 + 1 + (v : Int)) (s := 2 + (n : Int)) (r := 1 + (x : Int)) (by omega) (by omega) (by omega) (by omega) (by omega) (by omega) (by omega) (by omega) hlook hr)
        (im_prI (by omega) (by omega) (by omega) (by omega) upd_same (s16 _ _ upd_same)) (D10.same sm) (S8.trans (S9.trans (S10.trans (Stp.same S10.al sm))))
    · refine ⟨_, rfl, _, rfl, _, rfl, _, rfl, _, rfl, next_wI S8.al D8 (by show 0 < 2 + (n : Int); omega) fun x H10 hx D10 S10 => ⟨_, _, rfl, rfl, ?_⟩⟩
      have hx : (x : Int) < 2 + (n : Int) := hx
      have g6 := S10.keep _ _ h8 ol6
      refine ⟨_, rfl, by show 3 ≤ sizeLine; decide, fun l9 hl9 => ?_⟩
      have s12 := same_new (o := .lst ((["ahead", "cuts", "own"] : List Str).map V.str)) hl9
      refine ⟨l6, l9, _, _, rfl, rfl, s12 _ _ g6, upd_same, by
        rw [List.length_map]
        show xs.length + 3 ≤ sizeLine
        omega, fun p hp => ?_⟩
      have s13 := same_new (o := .lst (xs.map V.str ++ (["ahead", "cuts", "own"] : List Str).map V.str)) hp
      refine ⟨p, xs ++ (["ahead", "cuts", "own"] : List Str), rfl, SqL.of (by rw [upd_same, List.map_append]; rfl), by rw [List.length_append]; show xs.length + 3 < 64; omega, fun zs p2 hperm hsrt hp2 => ⟨p2, _, rfl, .inl ⟨SqL.of upd_same, fun T hT => ?_⟩⟩⟩
      refine ⟨by show 6 ≤ sizeLine; decide, fun T2 hT2 => ?_⟩
      have hr : RulesOk zs := rules_sorted (hxs.append (List.Sublist.refl (["ahead", "cuts", "own"] : List Str))) hperm hsrt
      have s14 := same_new (o := .lst (zs.map V.str)) hp2
      have s15 := same_new (o := .tup (zs.map V.str)) hT
      have s16 := same_new (o := .tup [.int (2 + (n : Int)), .int ((2 + (n : Int)) / 2 + 1 + (v : Int)), .int ((2 + (n : Int)) - ((2 + (n : Int)) / 2 + 1 + (v : Int)) + 1 + (s : Int)), .int (1 + (x : Int)), .str "both", .ref T]) hT2
      have sm := s12.trans (s13.trans (s14.trans (s15.trans s16)))
      exact fin _ _ _ (prOkI (h := 2 + (n : Int)) (v := (2 + (n : Int)) / 2 + 1 + (v : Int)) (s := (2 + (n : Int)) - ((2 + (n : Int)) / 2 + 1 + (v : Int)) + 1 + (s : Int)) (r := 1 + (x : Int)) (look := "both") (by omega) (by omega) (by omega) (by omega) (by omega) (by omega) (by omega) (by omega) (.inr (.inr (.inr rfl))) hr)
        (im_prI (by omega) (by omega) (by omega) (by omega) upd_same (s16 _ _ upd_same)) (D10.same sm) (S8.trans (S10.trans (Stp.same S10.al sm)))
theorem good_w {O : Own} {H : Hp} {dw : Addr} {Q : VK} {E : XK} (al : Al O H) (D : Dr H O dw) (fin : ∀ v H' pr, PrOk pr → Im H' pr.data v → Dr H' O dw → Stp onD O H O H' → Q v H') : spGood [.ref dw, .int 4] H Q E := by
  unfold spGood
  exact ⟨O, dw, rfl, al, D, fin⟩
end
end Sr

set_option Elab.async false
set_option linter.all false
set_option maxRecDepth 100000
set_option maxHeartbeats 4000000
namespace Sr
open PySem PySem.Spec PyProof.Rows L2
local macro_rules | `(tactic| walk_at "hp") => `(tactic| (unfold upd at *; grind))
section
variable {P : Program} {w : World} {base : Heap} {K : PySem.W.Frag} {mg : Str → Option Value}
/-- cells of no hand, not the draw's -/
def dW : Cell → Prop := fun c => c.ix = none ∧ c ≠ .draw
theorem wd_new_hd (p : Pr) (i : Nat) : (Wd.new p).hd i = Hd.new := by
  show (List.replicate p.hands Hd.new).getD i Hd.new = Hd.new
  rw [List.getD_eq_getElem?_getD, List.getElem?_replicate]
  split <;> rfl
structure Hk (S : Side) (O : Own) (H : Hp) (D : Addr) (j : Nat) (O2 : Own) (H2 : Hp) (ps : List Addr) : Prop where
  lst : H2 D = some (.lst (ps.map V.ref))
  len : ps.length = j
  hd : ∀ i q, ps[i]? = some q → HandAt S H2 O2 i q Hd.new
  st : Stp dA O H O2 H2
  od : O2 D = some .hs
theorem Hk.snoc {S : Side} {O O2 O3 : Own} {H H2 H3 : Hp} {D q : Addr} {j : Nat} {ps : List Addr} (k : Hk S O H D j O2 H2 ps) (s : Stp (dH j) O2 H2 O3 H3) (hq : HandAt S H3 O3 j q Hd.new) : H3 D = some (.lst (ps.map V.ref)) ∧ Hk S O H D (j + 1) O3 (upd H3 D (.lst (ps.map V.ref ++ [.ref q]))) (ps ++ [q]) := by
  have nD : ¬ dH j .hs := fun z => nomatch z
  have s2 : Stp (fun c => c = .hs) O3 H3 O3 (upd H3 D (.lst (ps.map V.ref ++ [.ref q]))) := Stp.put s.al (s.mono _ _ k.od) rfl noTup_lst
  have no : ∀ (i : Nat) (c : Cell), c.ix = some i → ¬ (fun c : Cell => c = .hs) c := fun i c e z => by rw [show c = .hs from z] at e; cases e
  refine ⟨(s.only _ _ k.od nD).trans k.lst, ⟨?_, ?_, fun i q' hi => ?_, k.st.trans (s.all.trans s2.all), s.mono _ _ k.od⟩⟩
  · rw [upd_same, List.map_append]; rfl
  · rw [List.length_append, k.len]; rfl
  · by_cases e : i < j
    · rw [List.getElem?_append_left (by rw [k.len]; exact e)] at hi
      have h1 := (k.hd i q' hi).keep k.st.al s fun c hc z => by
        have z : c.ix = some j := z
        rw [hc] at z
        cases z
        omega
      exact h1.keep s.al s2 (no i)
    · rw [List.getElem?_append_right (by rw [k.len]; omega), k.len] at hi
      have e2 : i - j = 0 := by
        have := (List.getElem?_eq_some_iff.mp hi).1
        simp at this
        omega
      rw [e2] at hi
      cases hi
      have e3 : i = j := by omega
      subst e3
      exact hq.keep s.al s2 (no i)
@[irreducible] def spWorld : Sp := fun vs H Q _ => ∃ O pr v, vs = [v] ∧ Im H (Pr.data pr) v ∧ Al O H ∧ pr.hands < big ∧ ∀ L O' H', WorldIn .law H' O' L (Wd.new pr) [] → Stp dA O H O' H' → Q (.ref L.w) H'
theorem sc_l_world : FnScope ["_law_protocol_here", "_law_hand_here"] ["_law_protocol_here"] (defScope s_l_world) := ⟨rfl, rfl, rfl, by decide +kernel, rfl, by decide +kernel, by decide +kernel⟩
theorem ok_l_world (T : Tx w K mg) : FnI P w K mg base "_law_world" (1 + 1) ["_law_protocol_here"] spWorld := by
  refine FnI.mk' T.f_l_world T.g_l_world sc_l_world (fun _ _ _ _ _ _ us hl => match us, hl with | [_], _ => rfl) (fun vs H Q E h => ?_) (fun cdv A outer s H vs Q E hr h => ?_)
  all_goals unfold spWorld at h
  · obtain ⟨_, _, _, rfl, _⟩ := h
    rfl
  · obtain ⟨O, pr, v, rfl, hv, al, hb, fin⟩ := h
    have hu := hu_of hr
    refine ⟨_, (pss_one (ps_ret (pe_disp (pps_cons pe_str (pv 0) (pps_cons pe_str (pe_lc (own := [("_law_hand_here", 1)]) (g := gName 1) rfl sc_l_world.nd (pi_range1 (by rfl) T.n_range (pa_cons (pe_ix (ixT K) (pv 0) pe_int (fun _ _ => rfl)) pa_nil)) (blkOk_by (own := [("_law_hand_here", 1)]) (N := ["_law_protocol_here", "_law_hand_here"]) (sc := defScope s_l_world) (by decide +kernel)) (fun _ _ _ _ _ => (pg_name (i := 1) sc_l_world.nd rfl (Or.inl rfl))) (fun _ _ _ _ _ => pts_nil) (fun _ _ _ _ _ => (pe_callI0 (ok_l_hand T) hr))) (pps_cons pe_str (pe_lst pa_nil) (pps_cons pe_str (pe_lst pa_nil) (pps_cons pe_str (pe_lst pa_nil) (pps_cons pe_str (pe_lst pa_nil) (pps_cons pe_str (pe_lst pa_nil) (pps_cons pe_str (pe_lst pa_nil) (pps_cons pe_str (pe_lst pa_nil) pps_nil))))))))) (by rfl) (by rfl) (fun z => by cases z) (by decide)))), ?_⟩
    obtain ⟨pa, pq, rfl, h1, h2⟩ := im_pr.mp hv
    intro p hp
    have T1 : Stp dA O H (updO O p .w) (upd H p (.dK [])) := .own al hp (by intro z; cases z) noTup_dK
    have h1' := T1.tk al _ _ h1
    refine ⟨_, rfl, _, rfl, pa, _, 0, _, rfl, rfl, SqT.of h1', rfl, _, rfl, by omega, (by have h3 : big < 2 ^ 61 := (by decide); omega), fun D hD => ?_⟩
    have T2 : Stp dA (updO O p .w) (upd H p (.dK [])) (updO (updO O p .w) D .hs) (upd (upd H p (.dK [])) D (.lst [])) := .own T1.al hD (by intro z; cases z) noTup_lst
    have ow2 : updO (updO O p .w) D .hs p = some .w := T2.mono _ _ updO_same
    have T12 := T1.trans T2
    have en : ((pr.hands : Int)).toNat = pr.hands := Int.toNat_natCast _
    rw [en]
    refine lc_it (walk_range (lo := 0) (n := pr.hands)) (fun j H2 => ∃ O2 ps, Hk .law (updO (updO O p .w) D .hs) (upd (upd H p (.dK [])) D (.lst [])) D j O2 H2 ps ∧ H2 p = some (.dK [])) ?_ ?_ ?_ ?_
    · refine ⟨_, [], ⟨upd_same, rfl, (fun i q hi => nomatch hi), Stp.refl T2.al, updO_same⟩, ?_⟩
      rw [upd_ne (own_ne ow2 updO_same (by intro z; cases z)), upd_same]
    · exact fun _ _ _ _ => trivial
    · rintro j x H2 _ hj ⟨O2, ps, k, kp⟩ ⟨rfl, rfl⟩
      refine ⟨rfl, hand_w j k.st.al fun q O3 H3 hq S3 => ?_⟩
      obtain ⟨g1, g2⟩ := k.snoc S3 hq
      have op2 : O2 p = some .w := k.st.mono _ _ ow2
      refine ⟨_, g1, ?_, O3, ps ++ [q], g2, ?_⟩
      · rw [List.length_map, k.len]
        exact big_line (by omega)
      · rw [upd_ne (own_ne (S3.mono _ _ op2) (S3.mono _ _ k.od) (by intro z; cases z))]
        exact (S3.only _ _ op2 fun z => nomatch z).trans kp
    intro H2 ⟨O2, ps, k, kp⟩
    have op2 : O2 p = some .w := k.st.mono _ _ ow2
    have oh2 := k.od
    have S0 := T12.trans k.st
    refine ⟨Nat.zero_le _, fun a1 n1 => ?_⟩
    have U1 : Stp dW O2 H2 (updO O2 a1 .lts) (upd H2 a1 (.lst [])) := .own k.st.al n1 ⟨rfl, by intro z; cases z⟩ noTup_lst
    refine ⟨Nat.zero_le _, fun a2 n2 => ?_⟩
    have U2 := U1.trans (Stp.own (c := .leads) (o := .lst []) U1.al n2 ⟨rfl, by intro z; cases z⟩ noTup_lst)
    refine ⟨Nat.zero_le _, fun a3 n3 => ?_⟩
    have U3 := U2.trans (Stp.own (c := .settles) (o := .lst []) U2.al n3 ⟨rfl, by intro z; cases z⟩ noTup_lst)
    refine ⟨Nat.zero_le _, fun a4 n4 => ?_⟩
    have U4 := U3.trans (Stp.own (c := .answers) (o := .lst []) U3.al n4 ⟨rfl, by intro z; cases z⟩ noTup_lst)
    refine ⟨Nat.zero_le _, fun a5 n5 => ?_⟩
    have U5 := U4.trans (Stp.own (c := .acts) (o := .lst []) U4.al n5 ⟨rfl, by intro z; cases z⟩ noTup_lst)
    refine ⟨Nat.zero_le _, fun a6 n6 => ?_⟩
    have U6 := U5.trans (Stp.own (c := .asked) (o := .lst []) U5.al n6 ⟨rfl, by intro z; cases z⟩ noTup_lst)
    refine ⟨Nat.zero_le _, fun a7 n7 => ?_⟩
    have U7 := U6.trans (Stp.own (c := .run) (o := .lst []) U6.al n7 ⟨rfl, by intro z; cases z⟩ noTup_lst)
    have m2 := (Stp.own (D := dW) (c := .leads) (o := .lst []) U1.al n2 ⟨rfl, by intro z; cases z⟩ noTup_lst).mono
    have m3 := (Stp.own (D := dW) (c := .settles) (o := .lst []) U2.al n3 ⟨rfl, by intro z; cases z⟩ noTup_lst).mono
    have m4 := (Stp.own (D := dW) (c := .answers) (o := .lst []) U3.al n4 ⟨rfl, by intro z; cases z⟩ noTup_lst).mono
    have m5 := (Stp.own (D := dW) (c := .acts) (o := .lst []) U4.al n5 ⟨rfl, by intro z; cases z⟩ noTup_lst).mono
    have m6 := (Stp.own (D := dW) (c := .asked) (o := .lst []) U5.al n6 ⟨rfl, by intro z; cases z⟩ noTup_lst).mono
    have m7 := (Stp.own (D := dW) (c := .run) (o := .lst []) U6.al n7 ⟨rfl, by intro z; cases z⟩ noTup_lst).mono
    have o1 := m7 _ _ (m6 _ _ (m5 _ _ (m4 _ _ (m3 _ _ (m2 _ _ (updO_same (O := O2) (a := a1) (c := .lts)))))))
    have o2 := m7 _ _ (m6 _ _ (m5 _ _ (m4 _ _ (m3 _ _ (updO_same (O := updO O2 a1 .lts) (a := a2) (c := .leads))))))
    have o3 := m7 _ _ (m6 _ _ (m5 _ _ (m4 _ _ (updO_same (O := updO (updO O2 a1 .lts) a2 .leads) (a := a3) (c := .settles)))))
    have o4 := m7 _ _ (m6 _ _ (m5 _ _ (updO_same (O := updO (updO (updO O2 a1 .lts) a2 .leads) a3 .settles) (a := a4) (c := .answers))))
    have o5 := m7 _ _ (m6 _ _ (updO_same (O := updO (updO (updO (updO O2 a1 .lts) a2 .leads) a3 .settles) a4 .answers) (a := a5) (c := .acts)))
    have o6 := m7 _ _ (updO_same (O := updO (updO (updO (updO (updO O2 a1 .lts) a2 .leads) a3 .settles) a4 .answers) a5 .acts) (a := a6) (c := .asked))
    have o7 := updO_same (O := updO (updO (updO (updO (updO (updO O2 a1 .lts) a2 .leads) a3 .settles) a4 .answers) a5 .acts) a6 .asked) (a := a7) (c := .run)
    have op7 := U7.mono _ _ op2
    have oh7 := U7.mono _ _ oh2
    generalize eO : updO (updO (updO (updO (updO (updO (updO O2 a1 .lts) a2 .leads) a3 .settles) a4 .answers) a5 .acts) a6 .asked) a7 .run = O7 at o1 o2 o3 o4 o5 o6 o7 op7 oh7 U7
    have N : ∀ {x y : Addr} {c d : Cell}, O7 x = some c → O7 y = some d → c ≠ d → x ≠ y := fun a b c => own_ne a b c
    let L : WL := ⟨p, D, a1, a2, a3, a4, a5, a6, a7, ps, .ref pa⟩
    have U8 := U7.trans (Stp.put (D := dW) (o := .dK (lawKvs L)) U7.al op7 ⟨rfl, by intro z; cases z⟩ noTup_dK)
    have kp7 : (upd (upd (upd (upd (upd (upd (upd H2 a1 (.lst [])) a2 (.lst [])) a3 (.lst [])) a4 (.lst [])) a5 (.lst [])) a6 (.lst [])) a7 (.lst [])) p = some (.dK []) := by
      rw [upd_ne (N op7 o7 (by intro z; cases z)), upd_ne (N op7 o6 (by intro z; cases z)), upd_ne (N op7 o5 (by intro z; cases z)), upd_ne (N op7 o4 (by intro z; cases z)), upd_ne (N op7 o3 (by intro z; cases z)), upd_ne (N op7 o2 (by intro z; cases z)), upd_ne (N op7 o1 (by intro z; cases z))]
      exact kp
    refine ⟨kp7, [(.inr "protocol", _), (.inr "hands", _), (.inr "letters", _), (.inr "leads", _), (.inr "settles", _), (.inr "answers", _), (.inr "acts", _), (.inr "asked", _), (.inr "run", _)], rfl, by show 9 ≤ 15; decide, ?_⟩
    rw [mergeK_lit]
    case h =>
      show ([.inr "protocol", .inr "hands", .inr "letters", .inr "leads", .inr "settles", .inr "answers", .inr "acts", .inr "asked", .inr "run"] : List Key).Nodup
      decide +kernel
    refine fin L O7 _ ?_ (S0.trans (U8.wide fun c z => z.2))
    exact {
      al := U8.al
      ob := upd_same
      ow := op7
      pr := Im.keep (T12.tk al |>.trans (k.st.tk T2.al) |>.trans (U8.tk k.st.al)) _ _ hv
      hs := by
        rw [upd_ne (N oh7 op7 (by intro z; cases z)), upd_ne (N oh7 o7 (by intro z; cases z)), upd_ne (N oh7 o6 (by intro z; cases z)), upd_ne (N oh7 o5 (by intro z; cases z)), upd_ne (N oh7 o4 (by intro z; cases z)), upd_ne (N oh7 o3 (by intro z; cases z)), upd_ne (N oh7 o2 (by intro z; cases z)), upd_ne (N oh7 o1 (by intro z; cases z))]
        exact k.lst
      ohs := oh7
      lts := by
        refine ⟨[], ?_, ImAll.nil', [], ?_, ImAll.nil'⟩
        · rw [upd_ne (N o1 op7 (by intro z; cases z)), upd_ne (N o1 o7 (by intro z; cases z)), upd_ne (N o1 o6 (by intro z; cases z)), upd_ne (N o1 o5 (by intro z; cases z)), upd_ne (N o1 o4 (by intro z; cases z)), upd_ne (N o1 o3 (by intro z; cases z)), upd_ne (N o1 o2 (by intro z; cases z)), upd_same]
          rfl
        · rw [upd_ne (N o7 op7 (by intro z; cases z)), upd_same]
      olts := o1
      leads := by
        refine ⟨[], ?_, ImAll.nil'⟩
        rw [upd_ne (N o2 op7 (by intro z; cases z)), upd_ne (N o2 o7 (by intro z; cases z)), upd_ne (N o2 o6 (by intro z; cases z)), upd_ne (N o2 o5 (by intro z; cases z)), upd_ne (N o2 o4 (by intro z; cases z)), upd_ne (N o2 o3 (by intro z; cases z)), upd_same]
      oleads := o2
      settles := by
        refine ⟨[], ?_, ImAll.nil'⟩
        rw [upd_ne (N o3 op7 (by intro z; cases z)), upd_ne (N o3 o7 (by intro z; cases z)), upd_ne (N o3 o6 (by intro z; cases z)), upd_ne (N o3 o5 (by intro z; cases z)), upd_ne (N o3 o4 (by intro z; cases z)), upd_same]
      osettles := o3
      answers := by
        refine ⟨[], ?_, ImAll.nil'⟩
        rw [upd_ne (N o4 op7 (by intro z; cases z)), upd_ne (N o4 o7 (by intro z; cases z)), upd_ne (N o4 o6 (by intro z; cases z)), upd_ne (N o4 o5 (by intro z; cases z)), upd_same]
      oanswers := o4
      acts := by
        refine ⟨[], ?_, ImAll.nil'⟩
        rw [upd_ne (N o5 op7 (by intro z; cases z)), upd_ne (N o5 o7 (by intro z; cases z)), upd_ne (N o5 o6 (by intro z; cases z)), upd_same]
      oacts := o5
      asked := by
        rw [upd_ne (N o6 op7 (by intro z; cases z)), upd_ne (N o6 o7 (by intro z; cases z)), upd_same]
        rfl
      oasked := o6
      ox := o7
      len := k.len.trans (List.length_replicate).symm
      hd := fun i q hi => by
        rw [wd_new_hd]
        exact (k.hd i q hi).keep k.st.al U8 fun c hc z => by rw [z.1] at hc; cases hc
      n := List.length_replicate }
theorem world_w {O : Own} {H : Hp} {pr : Pr} {v : V} {Q : VK} {E : XK} (hv : Im H (Pr.data pr) v) (al : Al O H) (hb : pr.hands < big) (fin : ∀ L O' H', WorldIn .law H' O' L (Wd.new pr) [] → Stp dA O H O' H' → Q (.ref L.w) H') : spWorld [v] H Q E := by
  unfold spWorld
  exact ⟨O, pr, v, rfl, hv, al, hb, fin⟩
end
end Sr

set_option Elab.async false
set_option linter.all false
set_option maxRecDepth 100000
set_option maxHeartbeats 4000000
namespace Sr
open PySem PySem.Spec PyProof.Rows L2
local macro_rules | `(tactic| walk_at "hp") => `(tactic| (unfold upd at *; grind))
section
variable {P : Program} {w : World} {base : Heap} {K : PySem.W.Frag} {mg : Str → Option Value}
def dT : Cell → Prop := fun _ => True
theorem Stp.top {D : Cell → Prop} {O O1 : Own} {H H1 : Hp} (s : Stp D O H O1 H1) : Stp dT O H O1 H1 := s.wide fun _ _ => trivial
/-- a run under way, with its draw -/
def Dd.isWish : Dd → Bool
  | .wish _ => true
  | _ => false
structure Pl (H : Hp) (O : Own) (L : WL) (p : Pr) (dw : Addr) (wk : Nat) (rs : List Dd) (m : Wd) : Prop where
  w : WorldIn .law H O L m rs
  r : Ru p rs m
  d : Dr H O dw
  ok : PrOk p
  ask : m.asked.length ≤ wk
theorem Wd.act_asked (m : Wd) (i c : Nat) : (m.act i c).asked = m.asked := by unfold Wd.act; split <;> rfl
theorem Wd.post_asked (m : Wd) (l : Lt) : (m.post l).asked = m.asked := by unfold Wd.post; split <;> rfl
theorem Wd.hear_asked (m : Wd) (i : Nat) (l : Lt) : (m.hear i l).asked = m.asked := by
  unfold Wd.hear
  split
  · rfl
  cases l with
  | ask t s a b => dsimp only; split <;> simp [Wd.set, Wd.post_asked]
  | give t s u => dsimp only; split <;> simp [Wd.set]
  | rows t s at_ ah rs told =>
    dsimp only
    split
    · simp [Wd.set]
    · unfold Wd.take
      dsimp only
      split
      · simp [Wd.set]
      · rw [Wd.act_asked, Wd.post_asked]; rfl
  | taken t s u c => dsimp only; split <;> simp [Wd.set]
  | see t s k => simp [Wd.set, Wd.post_asked]
  | seen t s u k => dsimp only; split <;> simp [Wd.set]
theorem Wd.do_asked (m : Wd) (d : Dd) (h : d.isWish = false) : (m.do d).asked = m.asked := by
  cases d with
  | wish i => cases h
  | stand i => simp [Wd.do, Wd.set, Wd.post_asked]
  | lead i => rfl
  | put i v => rfl
  | send i a c => simp [Wd.do, Wd.post_asked]
  | settle i c => simp [Wd.do, Wd.act_asked, Wd.set]
  | crash i => rfl
  | hear i k =>
    show (match m.lts[k]? with | none => m | some l => m.hear i l).asked = _
    cases m.lts[k]? with
    | none => rfl
    | some l => exact Wd.hear_asked m i l
  | answer i k => rfl
theorem Wd.do_asked1 (m : Wd) (d : Dd) : (m.do d).asked.length ≤ m.asked.length + 1 := by
  cases e : d.isWish with
  | false => rw [Wd.do_asked m d e]; omega
  | true =>
    cases d with
    | wish i => simp [Wd.do, Wd.post_asked, Wd.set]
    | _ => cases e
section
variable {H H1 : Hp} {O O1 : Own} {L : WL} {p : Pr} {dw : Addr} {wk : Nat} {rs : List Dd} {m : Wd} {d : Dd} {v : V} {Q : VK} {E : XK}
theorem Pl.same (P : Pl H O L p dw wk rs m) (s : Same H H1) : Pl H1 O L p dw wk rs m := ⟨P.w.same s, P.r, P.d.same s, P.ok, P.ask⟩
theorem Pl.draw (P : Pl H O L p dw wk rs m) (d : Dr H1 O dw) (s : Stp onD O H O H1) : Pl H1 O L p dw wk rs m := ⟨P.w.draw s, P.r, d, P.ok, P.ask⟩
theorem Pl.al (P : Pl H O L p dw wk rs m) : Al O H := P.w.al
theorem Pl.fit (P : Pl H O L p dw wk rs m) : Fit rs.length m := P.r.props.2.2
theorem Pl.pr (P : Pl H O L p dw wk rs m) : m.pr = p := P.r.props.1
theorem Pl.hs (P : Pl H O L p dw wk rs m) : m.hs.length = p.hands := P.r.props.2.1
theorem Pl.get (P : Pl H O L p dw wk rs m) {i : Nat} (hi : i < p.hands) : ∃ q, L.ps[i]? = some q ∧ (L.ps.map V.ref)[i]? = some (.ref q) := by
  obtain ⟨q, hq⟩ := P.w.get (i := i) (by rw [P.hs]; exact hi)
  exact ⟨q, hq, by rw [List.getElem?_map, hq]; rfl⟩
theorem try_p (P : Pl H O L p dw wk rs m) (hb : rs.length < big) (hi : d.hand < p.hands) (hv : Im H d.data v) (k : ∀ O1 H1 rs1, Pl H1 O1 L p dw wk rs1 (m.try d) → rs1.length ≤ rs.length + 1 → Stp dT O H O1 H1 → Q .non H1) (hw : d.isWish = false := by rfl) : spTry [.ref L.w, v] H Q E := by
  unfold spTry
  exact ⟨O, L, p, m, rs, d, v, rfl, P.w, P.r, P.ok.look, hb, hi, hv, fun O1 H1 rs1 W1 R1 h1 S1 => k O1 H1 rs1 ⟨W1, R1, P.d.keep S1 fun z => z rfl, P.ok, by unfold Wd.try; split; rw [Wd.do_asked m d hw]; exact P.ask; exact P.ask⟩ h1 S1.top⟩
theorem do_p (P : Pl H O L p dw wk rs m) (hb : rs.length < big) (hi : d.hand < p.hands) (hv : Im H d.data v) (hab : m.able d = true) (k : ∀ O1 H1, (∀ wk2, (m.do d).asked.length ≤ wk2 → Pl H1 O1 L p dw wk2 (rs ++ [d]) (m.do d)) → Stp dT O H O1 H1 → Q .non H1) : spDo [.ref L.w, v] H Q E :=
  do_w P.w P.r P.ok.look hv hi hb hab fun O1 H1 W1 R1 S1 => k O1 H1 (fun wk2 hw2 => ⟨W1, R1, P.d.keep S1 fun z => z rfl, P.ok, hw2⟩) S1.top
theorem next_p {x : Int} (P : Pl H O L p dw wk rs m) (hx : 0 < x) (k : ∀ (n : Nat) H1, (n : Int) < x → Pl H1 O L p dw wk rs m → Stp dT O H O H1 → Q (nv n) H1) : spNext [.ref dw, .int x] H Q E :=
  next_wI P.al P.d hx fun n H1 hn D1 S1 => k n H1 hn (P.draw D1 S1) S1.top
theorem pick_p {t : Addr} {xs : List V} (P : Pl H O L p dw wk rs m) (ht : H t = some (.lst xs)) (ot : O t = none) (h0 : 0 < xs.length) (k : ∀ v H1, v ∈ xs → Pl H1 O L p dw wk rs m → Stp dT O H O H1 → Q v H1) : spPick [.ref dw, .ref t] H Q E :=
  pick_w P.al P.d ht ot h0 fun v H1 hv D1 S1 => k v H1 hv (P.draw D1 S1) S1.top
end
theorem first_at {α : Type} {q : α → Bool} : ∀ {l : List α} {x : α}, x ∈ l → q x = true → ∃ (j : Nat) (z : α), l[j]? = some z ∧ q z = true ∧ ∀ (k : Nat) (z' : α), k < j → l[k]? = some z' → q z' = false
  | y :: l, x, h, e => by
    by_cases c : q y = true
    · exact ⟨0, y, rfl, c, fun k z' hk => absurd hk (Nat.not_lt_zero k)⟩
    · have c : q y = false := by simpa using c
      rcases List.mem_cons.mp h with rfl | h
      · rw [e] at c; cases c
      · obtain ⟨j, z, h1, h2, h3⟩ := first_at h e
        refine ⟨j + 1, z, h1, h2, fun k z' hk hz => ?_⟩
        cases k with
        | zero => cases hz; exact c
        | succ k => exact h3 k z' (by omega) hz
@[irreducible] def spAllHear : Sp := fun vs H Q _ => ∃ O L p dw wk rs m l v b, vs = [.ref dw, .ref (WL.w L), v, .int b] ∧ Pl H O L p dw wk rs m ∧ l ∈ m.lts ∧ Im H (Lt.data l) v ∧ 0 < b ∧ rs.length + 4 < big ∧
  ∀ O1 H1 rs1 m1, Pl H1 O1 L p dw wk rs1 m1 → rs1.length ≤ rs.length + 4 → Stp dT O H O1 H1 → Q .non H1
theorem sc_l_all_hear : FnScope ["_law_draw_here", "_law_world_here", "_law_letter", "_law_odds", "_law_number_here", "_law_hand_here"] ["_law_draw_here", "_law_world_here", "_law_letter", "_law_odds"] (defScope s_l_all_hear) := ⟨rfl, rfl, rfl, by decide +kernel, rfl, by decide +kernel, by decide +kernel⟩
theorem ok_l_all_hear (T : Tx w K mg) : FnI P w K mg base "_law_all_hear" (8 + 1) ["_law_draw_here", "_law_world_here", "_law_letter", "_law_odds"] spAllHear := by
  refine FnI.mk' T.f_l_all_hear T.g_l_all_hear sc_l_all_hear (fun _ _ _ _ _ _ us hl => match us, hl with | [_, _, _, _], _ => rfl) (fun vs H Q E h => ?_) (fun cdv A outer s H vs Q E hr h => ?_)
  all_goals unfold spAllHear at h
  · obtain ⟨_, _, _, _, _, _, _, _, _, _, rfl, _⟩ := h
    rfl
  · obtain ⟨O, L, p, dw, wk, rs, m, l, v, b, rfl, P, hl, hv, hb, hbig, fin⟩ := h
    have hu := hu_of hr
    have hu65 := room65 hr
    refine ⟨_, (pss_cons (ps_set (i := 4) sc_l_all_hear.nd rfl (.inl rfl) (pe_bm PySem.F.plainAttrs_list PySem.F.slot_list_index PySem.F.type_list_index (mt_indexD hu65) (pe_dget hu (pv 1) pe_str (fun _ _ => rfl)) (pa_cons (pv 2) pa_nil)))
      (pss_one (ps_for PassesOwn.never rfl (pi_range1 (by rfl) T.n_range (pa_cons (pe_ix (ixT K) (pe_dget hu (pv 1) pe_str (fun _ _ => rfl)) pe_int (fun _ _ => rfl)) pa_nil)) (pg_name (i := 5) sc_l_all_hear.nd rfl (Or.inl rfl)) (pss_one (ps_if (pt_cmpR op_gt (pe_callI (ok_l_next T) hr (pa_cons (pv 0) (pa_cons (pv 3) pa_nil))) pe_int (nomark _)) (pss_one (ps_expr (pe_callI (ok_l_try T) hr (pa_cons (pv 1) (pa_cons (pe_tup (pa_cons pe_str (pa_cons (pv 5) (pa_cons (pv 4) pa_nil)))) pa_nil))))) pss_nil))))), ?_⟩
    obtain ⟨as, la, lb, _⟩ := P.w.lts
    obtain ⟨lv, rfl⟩ : ∃ a, v = .ref a := by
      obtain ⟨a, _, rfl, _⟩ := im_word hv
      exact ⟨a, rfl⟩
    obtain ⟨j, z, g1, g2, g3⟩ := first_at (q := fun z => PyData.eqv z l.data) (List.mem_map_of_mem (f := Lt.data) hl) (SeqAt.eqv_refl _ (sh_lt l).1)
    refine ⟨_, rfl, L.w, _, rfl, dw_letters P.w.ob, .inl ⟨rfl, _, SqL.of la⟩, _, rfl, L.lts, _, l.data, m.lts.map Lt.data, j, z, rfl, rfl, .lst (SqL.of la) (ImAll.dp _ _ lb), Im.dp _ _ hv, (sh_list (.map sh_lt _)).ok, (sh_lt l).ok, g1, g2, g3, ?_⟩
    obtain ⟨pa, pq, epr, hpr, _⟩ := im_pr.mp P.w.pr
    have h4 := P.ok.h2
    have hp4 := P.pr
    refine ⟨_, rfl, L.w, _, rfl, dw_protocol P.w.ob, _, _, 0, _, epr, rfl, SqT.of hpr, rfl, _, rfl, by omega, by rw [hp4]; omega, ?_⟩
    rw [hp4, Int.toNat_natCast]
    refine for_range (fun k σ2 H2 => ∃ O2 rs2 m2 x, σ2 = [some (.ref dw), some (.ref L.w), some (.ref lv), some (.int b), some (nv j), x] ∧ Pl H2 O2 L p dw wk rs2 m2 ∧ rs2.length ≤ rs.length + k ∧ Stp dT O H O2 H2) ⟨O, rs, m, none, rfl, P, Nat.le_refl _, Stp.refl P.al⟩ ?_ ?_
    · rintro k _ H2 hk ⟨O2, rs2, m2, x, rfl, P2, h2, S2⟩
      refine ⟨_, rfl, _, rfl, next_p P2 hb fun n H3 hn P3 S3 => ⟨_, _, rfl, rfl, _, rfl, iteD (fun e => ?_) (fun e => ?_)⟩⟩
      · refine ⟨_, rfl, _, rfl, _, rfl, by show 3 ≤ sizeLine; decide, fun T hT => ?_⟩
        have ek : V.int (0 + (k : Int)) = nv k := congrArg V.int (by omega)
        have s4 := same_new (o := .tup [.str "hear", .int (0 + (k : Int)), nv j]) hT
        refine try_p (d := .hear k j) (P3.same s4) (by omega) hk (im_deed.mpr ⟨T, rfl, by rw [upd_same, ek]; rfl⟩) fun O5 H5 rs5 P5 h5 S5 => ?_
        exact ⟨O5, rs5, _, some (.int (0 + (k : Int))), rfl, P5, by omega, S2.trans (S3.trans ((Stp.same P3.al s4).trans S5))⟩
      · exact ⟨O2, rs2, m2, some (.int (0 + (k : Int))), rfl, P3, by omega, S2.trans S3⟩
    · rintro _ H2 ⟨O2, rs2, m2, x, rfl, P2, h2, S2⟩
      exact fin O2 H2 rs2 m2 P2 (by omega) S2
theorem all_p {H : Hp} {O : Own} {L : WL} {p : Pr} {dw : Addr} {wk : Nat} {rs : List Dd} {m : Wd} {l : Lt} {v : V} {b : Int} {Q : VK} {E : XK} (P : Pl H O L p dw wk rs m) (hl : l ∈ m.lts) (hv : Im H (Lt.data l) v) (hb : 0 < b) (hbig : rs.length + 4 < big)
    (fin : ∀ O1 H1 rs1 m1, Pl H1 O1 L p dw wk rs1 m1 → rs1.length ≤ rs.length + 4 → Stp dT O H O1 H1 → Q .non H1) : spAllHear [.ref dw, .ref L.w, v, .int b] H Q E := by
  unfold spAllHear
  exact ⟨O, L, p, dw, wk, rs, m, l, v, b, rfl, P, hl, hv, hb, hbig, fin⟩
@[irreducible] def spHearOwn : Sp := fun vs H Q _ => ∃ O L p dw wk rs m i wd, vs = [.ref (WL.w L), nv i, .str wd] ∧ Pl H O L p dw wk rs m ∧ i < p.hands ∧ wd ∈ (["give", "taken", "seen"] : List Str) ∧ rs.length + rs.length < big ∧
  ∀ O1 H1 rs1 m1, Pl H1 O1 L p dw wk rs1 m1 → rs1.length ≤ rs.length + rs.length → Stp dT O H O1 H1 → Q .non H1
theorem sc_l_hear_own : FnScope ["_law_world_here", "_law_hand_here", "_law_word", "_law_number_here", "_law_letter"] ["_law_world_here", "_law_hand_here", "_law_word"] (defScope s_l_hear_own) := ⟨rfl, rfl, rfl, by decide +kernel, rfl, by decide +kernel, by decide +kernel⟩
theorem ok_l_hear_own (T : Tx w K mg) : FnI P w K mg base "_law_hear_own" (8 + 1) ["_law_world_here", "_law_hand_here", "_law_word"] spHearOwn := by
  refine FnI.mk' T.f_l_hear_own T.g_l_hear_own sc_l_hear_own (fun _ _ _ _ _ _ us hl => match us, hl with | [_, _, _], _ => rfl) (fun vs H Q E h => ?_) (fun cdv A outer s H vs Q E hr h => ?_)
  all_goals unfold spHearOwn at h
  · obtain ⟨_, _, _, _, _, _, _, _, _, rfl, _⟩ := h
    rfl
  · obtain ⟨O, L, p, dw, wk, rs, m, i, wd, rfl, P, hi, hwd, hbig, fin⟩ := h
    have hu := hu_of hr
    refine ⟨_, (pss_one (ps_for PassesOwn.never rfl (pi_enum (by rfl) T.n_enumerate (pa_cons (pe_callTy (T := "list") call_list_of (by rfl) T.n_list (by decide +kernel) (pa_cons (pe_dget hu (pv 0) pe_str (fun _ _ => rfl)) pa_nil)) pa_nil)) (pg_tup rfl (pgs_cons (pg_name (i := 3) sc_l_hear_own.nd rfl (Or.inl rfl)) (pgs_cons (pg_name (i := 4) sc_l_hear_own.nd rfl (Or.inl rfl)) pgs_nil))) (pss_one (ps_if (pw_and (pt_cmpR op_eq (pe_ix (ixT K) (pv 4) pe_int (fun _ _ => rfl)) (pv 2) (nomark _)) (pw_and (pt_cmpR op_eq (pe_ix (ixT K) (pv 4) pe_int (fun _ _ => rfl)) (pv 1) (nomark _)) (pw_and1 (pt_cmpR op_eq (pe_ix (ixT K) (pv 4) pe_int (fun _ _ => rfl)) (pe_dget hu (pe_ix (ixL K) (pe_dget hu (pv 0) pe_str (fun _ _ => rfl)) (pv 1) (fun _ _ => rfl)) pe_str (fun _ _ => rfl)) (nomark _))))).pt (pss_one (ps_expr (pe_callI (ok_l_try T) hr (pa_cons (pv 0) (pa_cons (pe_tup (pa_cons pe_str (pa_cons (pv 1) (pa_cons (pv 3) pa_nil)))) pa_nil))))) pss_nil)))), ?_⟩
    obtain ⟨as, la, lb, _⟩ := P.w.lts
    have ll : (as.map V.ref).length = m.lts.length := lb.length.trans (List.length_map ..)
    have hll := P.fit.lts
    refine ⟨_, rfl, L.w, _, rfl, dw_letters P.w.ob, _, _, rfl, .inl (SqL.of la), fun sl hsl => ⟨sl, _, rfl, SqL.of upd_same, ?_⟩⟩
    have s1 := same_new (o := .lst (as.map V.ref)) hsl
    have osl : O sl = none := P.al.fresh hsl
    have hsl1 : (upd H sl (.lst (as.map V.ref))) sl = some (.lst (as.map V.ref)) := upd_same
    have P1 := P.same s1
    have lb1 := ImAll.keep (same_tk s1) _ _ lb
    have S1 : Stp dT O H O (upd H sl (.lst (as.map V.ref))) := Stp.same P.al s1
    generalize upd H sl (.lst (as.map V.ref)) = H1 at *
    refine for_it (walk_enum (xs := as.map V.ref)) (fun k σ2 H2 => ∃ O2 rs2 m2 x y, σ2 = [some (.ref L.w), some (nv i), some (.str wd), x, y] ∧ Pl H2 O2 L p dw wk rs2 m2 ∧ rs2.length ≤ rs.length + k ∧ Stp dT O H1 O2 H2) ⟨O, rs, m, none, none, rfl, P1, Nat.le_refl _, Stp.refl P1.al⟩ ?_ ?_ ?_
    · rintro k _ H2 _ ⟨O2, rs2, m2, x, y, _, _, _, S2⟩
      exact SqL.of (S2.keep _ _ hsl1 osl)
    · rintro k T _ H2 _ hk ⟨O2, rs2, m2, x, y, rfl, P2, h2, S2⟩ ⟨T, a, b, rfl, hT, rfl, ea, eb⟩
      cases ea
      obtain ⟨dd, hd1, hd2⟩ := lb1.got eb
      rw [List.getElem?_map] at hd1
      obtain ⟨l, hl1, rfl⟩ := Option.map_eq_some_iff.mp hd1
      obtain ⟨lv, xs, rfl, hlv, hto⟩ := im_to hd2
      have s3 := same_new (o := .tup [.int (k : Nat), .ref lv]) hT
      have P3 := P2.same s3
      have S3 := S2.trans (Stp.same (D := dT) P2.al s3)
      have hlv3 := S3.tk P1.al _ _ hlv
      have next : ∀ (H4 : Hp) (O4 : Own) (rs4 : List Dd) (m4 : Wd), Pl H4 O4 L p dw wk rs4 m4 → rs4.length ≤ rs.length + (k + 1) → Stp dT O H1 O4 H4 → ∃ O2 rs2 m2 x y, [some (.ref L.w), some (nv i), some (.str wd), some (.int (k : Nat)), some (.ref lv)] = [some (.ref L.w), some (nv i), some (.str wd), x, y] ∧ Pl H4 O2 L p dw wk rs2 m2 ∧ rs2.length ≤ rs.length + (k + 1) ∧ Stp dT O H1 O2 H4 :=
        fun H4 O4 rs4 m4 a b c => ⟨O4, rs4, m4, _, _, rfl, a, b, c⟩
      refine ⟨T, _, rfl, SqT.of upd_same, rfl, _, _, rfl, _, _, rfl, rfl, ?_⟩
      refine ⟨_, rfl, lv, _, 0, _, rfl, rfl, SqT.of hlv3, atI_nat (j := 0) rfl, _, rfl, rfl, _, rfl, iteD (fun e1 => ?_) (fun e1 => ?_)⟩
      rotate_left
      · exact iteF (next _ _ _ _ P3 (by omega) S3)
      have e1 : l.word = wd := by injection e1
      rcases hto with ⟨_, h2'⟩ | ⟨u, r, h1', rfl, _⟩
      · rw [e1] at h2'; exact (h2' hwd).elim
      refine ⟨_, rfl, lv, _, 3, _, rfl, rfl, SqT.of hlv3, atI_nat (j := 3) rfl, _, rfl, rfl, _, rfl, iteD (fun e2 => ?_) (fun e2 => ?_)⟩
      rotate_left
      · exact iteF (next _ _ _ _ P3 (by omega) S3)
      obtain ⟨q, hq, hq2⟩ := P3.get hi
      obtain ⟨M, B⟩ := P3.w.at_ hq
      refine ⟨_, rfl, lv, _, 1, _, rfl, rfl, SqT.of hlv3, atI_nat (j := 1) rfl, _, rfl, L.w, _, rfl, dw_hands P3.w.ob, _, rfl, _, _, _, _, rfl, rfl, SqL.of P3.w.hs, atI_nat hq2, q, _, rfl, dg_term B.obL, rfl, _, rfl, iteD (fun e3 => ?_) (fun e3 => ?_)⟩
      rotate_left
      · exact next _ _ _ _ P3 (by omega) S3
      refine ⟨_, rfl, _, rfl, _, rfl, by show 3 ≤ sizeLine; decide, fun T2 hT2 => ?_⟩
      have s4 := same_new (o := .tup [.str "hear", nv i, .int (k : Nat)]) hT2
      refine try_p (d := .hear i k) (P3.same s4) (by rw [ll] at hk; omega) hi (im_deed.mpr ⟨T2, rfl, upd_same⟩) fun O5 H5 rs5 P5 h5 S5 => ?_
      exact next _ _ _ _ P5 (by omega) (S3.trans ((Stp.same P3.al s4).trans S5))
    · rintro _ H2 ⟨O2, rs2, m2, x, y, rfl, P2, h2, S2⟩
      rw [ll] at h2
      exact fin O2 H2 rs2 m2 P2 (by omega) (S1.trans S2)
theorem own_p {H : Hp} {O : Own} {L : WL} {p : Pr} {dw : Addr} {wk : Nat} {rs : List Dd} {m : Wd} {i : Nat} {wd : Str} {Q : VK} {E : XK} (P : Pl H O L p dw wk rs m) (hi : i < p.hands) (hwd : wd ∈ (["give", "taken", "seen"] : List Str)) (hbig : rs.length + rs.length < big)
    (fin : ∀ O1 H1 rs1 m1, Pl H1 O1 L p dw wk rs1 m1 → rs1.length ≤ rs.length + rs.length → Stp dT O H O1 H1 → Q .non H1) : spHearOwn [.ref L.w, nv i, .str wd] H Q E := by
  unfold spHearOwn
  exact ⟨O, L, p, dw, wk, rs, m, i, wd, rfl, P, hi, hwd, hbig, fin⟩
end
end Sr

set_option Elab.async false
set_option linter.all false
set_option maxRecDepth 100000
set_option maxHeartbeats 4000000
namespace Sr
open PySem PySem.Spec PyProof.Rows L2
local macro_rules | `(tactic| walk_at "hp") => `(tactic| (unfold upd at *; grind))
section
variable {P : Program} {w : World} {base : Heap} {K : PySem.W.Frag} {mg : Str → Option Value}
theorem crash_role (p : Pr) (h : Hd) : (Hd.crash p h).role = .rests := by
  unfold Hd.crash
  dsimp only
  split <;> split <;> rfl
theorem post_mem (m : Wd) (l : Lt) : l ∈ (m.post l).lts := by
  unfold Wd.post
  split
  · assumption
  · exact List.mem_append_right _ (List.mem_singleton.mpr rfl)
theorem try_able {m : Wd} {d : Dd} (h : m.able d = true) : m.try d = m.do d := if_pos h
def askOf (m : Wd) (i : Nat) : Lt := .ask (m.hd i).term i (m.hd i).pair.1 (m.hd i).pair.2
theorem stand_hd {m : Wd} {i : Nat} (hi : i < m.hs.length) (hr : (m.hd i).role ≠ .leads) : ((m.try (.stand i)).hd i).role ≠ .leads ∧ askOf (m.try (.stand i)) i ∈ (m.try (.stand i)).lts := by
  have hab : m.able (.stand i) = true := by simp [Wd.able, hr]
  rw [try_able hab]
  have e : m.do (.stand i) = (m.set i { (m.hd i).to .asks with term := (m.hd i).term + 1, vote := some i, got := [i] }).post (.ask ((m.hd i).term + 1) i (Hd.pair { (m.hd i).to .asks with term := (m.hd i).term + 1, vote := some i, got := [i] }).1 (Hd.pair { (m.hd i).to .asks with term := (m.hd i).term + 1, vote := some i, got := [i] }).2) := rfl
  have eh : (m.do (.stand i)).hd i = { (m.hd i).to .asks with term := (m.hd i).term + 1, vote := some i, got := [i] } := by rw [e, Wd.post_hd, Wd.hd_set hi]
  refine ⟨(by rw [eh]; intro z; cases z), ?_⟩
  unfold askOf
  rw [eh]
  exact post_mem _ _
@[irreducible] def spElect : Sp := fun vs H Q _ => ∃ O L p dw wk rs m i, vs = [.ref dw, .ref (WL.w L), nv i] ∧ Pl H O L p dw wk rs m ∧ i < p.hands ∧ 3 * rs.length + 21 < big ∧
  ∀ O1 H1 rs1 m1, Pl H1 O1 L p dw wk rs1 m1 → rs1.length ≤ 3 * rs.length + 21 → Stp dT O H O1 H1 → Q .non H1
theorem sc_l_elect : FnScope ["_law_draw_here", "_law_world_here", "_law_hand_here", "_law_own", "_law_turn"] ["_law_draw_here", "_law_world_here", "_law_hand_here"] (defScope s_l_elect) := ⟨rfl, rfl, rfl, by decide +kernel, rfl, by decide +kernel, by decide +kernel⟩
theorem ok_l_elect (T : Tx w K mg) : FnI P w K mg base "_law_elect" (9 + 1) ["_law_draw_here", "_law_world_here", "_law_hand_here"] spElect := by
  refine FnI.mk' T.f_l_elect T.g_l_elect sc_l_elect (fun _ _ _ _ _ _ us hl => match us, hl with | [_, _, _], _ => rfl) (fun vs H Q E h => ?_) (fun cdv A outer s H vs Q E hr h => ?_)
  all_goals unfold spElect at h
  · obtain ⟨_, _, _, _, _, _, _, _, rfl, _⟩ := h
    rfl
  · obtain ⟨O, L, p, dw, wk, rs, m, i, rfl, P, hi, hbig, fin⟩ := h
    have hu := hu_of hr
    refine ⟨_, (pss_cons (ps_set (i := 3) sc_l_elect.nd rfl (.inl rfl) (pe_ix (ixL K) (pe_dget hu (pv 1) pe_str (fun _ _ => rfl)) (pv 2) (fun _ _ => rfl)))
      (pss_cons (ps_if (pt_cmpR op_eq (pe_dget hu (pv 3) pe_str (fun _ _ => rfl)) pe_str (nomark _)) (pss_one (ps_expr (pe_callI (ok_l_try T) hr (pa_cons (pv 1) (pa_cons (pe_tup (pa_cons pe_str (pa_cons (pv 2) pa_nil))) pa_nil))))) pss_nil)
      (pss_cons (ps_for PassesOwn.never rfl (pi_range1 (by rfl) T.n_range (pa_cons (pe_op op_add pe_int (pe_callTy (T := "int") call_int1 (by rfl) T.n_int (by decide +kernel) (pa_cons (pe_cmpR op_eq (pe_callI (ok_l_next T) hr (pa_cons (pv 0) (pa_cons pe_int pa_nil))) pe_int (nomark _)) pa_nil))) pa_nil)) (pg_name (i := 4) sc_l_elect.nd rfl (Or.inl rfl)) (pss_one (ps_expr (pe_callI (ok_l_try T) hr (pa_cons (pv 1) (pa_cons (pe_tup (pa_cons pe_str (pa_cons (pv 2) pa_nil))) pa_nil))))))
      (pss_cons (ps_expr (pe_callI (ok_l_all_hear T) hr (pa_cons (pv 0) (pa_cons (pv 1) (pa_cons (pe_tup (pa_cons pe_str (pa_cons (pe_dget hu (pv 3) pe_str (fun _ _ => rfl)) (pa_cons (pv 2) (pa_cons (pe_callI (ok_l_pair T) hr (pa_cons (pv 3) pa_nil)) pa_nil))))) (pa_cons pe_int pa_nil))))))
      (pss_cons (ps_expr (pe_callI (ok_l_hear_own T) hr (pa_cons (pv 1) (pa_cons (pv 2) (pa_cons pe_str pa_nil)))))
      (pss_one (ps_expr (pe_callI (ok_l_try T) hr (pa_cons (pv 1) (pa_cons (pe_tup (pa_cons pe_str (pa_cons (pv 2) pa_nil))) pa_nil)))))))))), ?_⟩
    obtain ⟨q, hq, hq2⟩ := P.get hi
    obtain ⟨M, B⟩ := P.w.at_ hq
    have hil : i < m.hs.length := by rw [P.hs]; exact hi
    refine ⟨_, rfl, L.w, _, rfl, dw_hands P.w.ob, _, rfl, _, _, _, _, rfl, rfl, SqL.of P.w.hs, atI_nat hq2, ?_⟩
    dsimp only
    refine seq_have (fun σ2 H2 => σ2 = [some (.ref dw), some (.ref L.w), some (nv i), some (.ref q), none] ∧ ∃ O2 rs2 m2, Pl H2 O2 L p dw wk rs2 m2 ∧ rs2.length ≤ rs.length + 1 ∧ (m2.hd i).role ≠ .leads ∧ Stp dT O H O2 H2) ?_ (fun key => ?_)
    rotate_left
    · refine ⟨_, rfl, q, _, rfl, dg_role B.obL, rfl, _, rfl, iteD (fun e1 => ?_) (fun e1 => ?_)⟩
      · refine ⟨_, rfl, _, rfl, by show 2 ≤ sizeLine; decide, fun T hT => ?_⟩
        have s1 := same_new (o := .tup [.str "crash", nv i]) hT
        refine try_p (d := .crash i) (P.same s1) (by omega) hi (im_deed.mpr ⟨T, rfl, upd_same⟩) fun O2 H2 rs2 P2 h2 S2 => ?_
        refine key _ _ ⟨rfl, O2, rs2, _, P2, h2, ?_, (Stp.same P.al s1).trans S2⟩
        have e2 : m.try (.crash i) = m.set i ((m.hd i).crash m.pr) := try_able rfl
        rw [e2, Wd.hd_set hil, crash_role]
        intro z; cases z
      · exact key _ _ ⟨rfl, O, rs, m, P, Nat.le_succ _, (fun z => e1 (role_iff (k := .leads).mpr z)), Stp.refl P.al⟩
    rintro _ H2 ⟨rfl, O2, rs2, m2, P2, h2, r2, S2⟩
    refine seq_have (fun σ3 H3 => ∃ x, σ3 = [some (.ref dw), some (.ref L.w), some (nv i), some (.ref q), x] ∧ ∃ O3 rs3 m3, Pl H3 O3 L p dw wk rs3 m3 ∧ rs3.length ≤ rs.length + 3 ∧ askOf m3 i ∈ m3.lts ∧ Stp dT O H O3 H3) ?_ (fun key => ?_)
    rotate_left
    · refine ⟨_, rfl, next_p P2 (by decide) fun n H3 hn P3 S3 => ?_⟩
      have c0 : ∃ c : Nat, (1 : Int) + (if decide (nv n = V.int 0) = true then 1 else 0) = (c : Int) ∧ 1 ≤ c ∧ c ≤ 2 := by
        split
        · exact ⟨2, rfl, by omega, by omega⟩
        · exact ⟨1, rfl, by omega, by omega⟩
      obtain ⟨c, ec, c1, c2⟩ := c0
      refine ⟨rfl, .inr ⟨_, rfl, _, _, rfl, rfl, (c : Int), congrArg (fun z => [V.int z]) ec, by omega, by omega, ?_⟩⟩
      rw [Int.toNat_natCast]
      refine for_range (fun k σ3 H4 => ∃ x, σ3 = [some (.ref dw), some (.ref L.w), some (nv i), some (.ref q), x] ∧ ∃ O3 rs3 m3, Pl H4 O3 L p dw wk rs3 m3 ∧ rs3.length ≤ rs.length + 1 + k ∧ (m3.hd i).role ≠ .leads ∧ (0 < k → askOf m3 i ∈ m3.lts) ∧ Stp dT O H O3 H4) ⟨none, rfl, O2, rs2, m2, P3, h2, r2, (fun z => absurd z (Nat.lt_irrefl 0)), S2.trans S3⟩ ?_ ?_
      · rintro k _ H4 hk ⟨x, rfl, O4, rs4, m4, P4, h4, r4, _, S4⟩
        refine ⟨_, rfl, _, rfl, by show 2 ≤ sizeLine; decide, fun T hT => ?_⟩
        have s5 := same_new (o := .tup [.str "stand", nv i]) hT
        refine try_p (d := .stand i) (P4.same s5) (by omega) hi (im_deed.mpr ⟨T, rfl, upd_same⟩) fun O6 H6 rs6 P6 h6 S6 => ?_
        obtain ⟨g1, g2⟩ := stand_hd (m := m4) (i := i) (by rw [P4.hs]; exact hi) r4
        exact ⟨_, rfl, O6, rs6, _, P6, by omega, g1, (fun _ => g2), S4.trans ((Stp.same P4.al s5).trans S6)⟩
      · rintro _ H4 ⟨x, rfl, O4, rs4, m4, P4, h4, r4, a4, S4⟩
        exact key _ _ ⟨x, rfl, O4, rs4, m4, P4, by omega, a4 (by omega), S4⟩
    rintro _ H3 ⟨x, rfl, O3, rs3, m3, P3, h3, a3, S3⟩
    obtain ⟨M3, B3⟩ := P3.w.at_ hq
    refine ⟨_, rfl, _, rfl, _, rfl, q, _, rfl, dg_term B3.obL, _, rfl, _, rfl, pair_w B3.h fun T1 H4 s4 hT1 => ⟨by show 4 ≤ sizeLine; decide, fun T2 hT2 => ?_⟩⟩
    have s5 := s4.trans (same_new (o := .tup [.str "ask", nv (m3.hd i).term, nv i, .ref T1]) hT2)
    refine all_p (P3.same s5) a3 (im_ask.mpr ⟨T2, T1, rfl, upd_same, same_new hT2 _ _ hT1⟩) (by decide) (by omega) fun O6 H6 rs6 m6 P6 h6 S6 => ?_
    refine ⟨_, rfl, _, rfl, own_p P6 hi (by decide +kernel) (by omega) fun O7 H7 rs7 m7 P7 h7 S7 => ?_⟩
    refine ⟨_, rfl, _, rfl, by show 2 ≤ sizeLine; decide, fun T3 hT3 => ?_⟩
    have s8 := same_new (o := .tup [.str "lead", nv i]) hT3
    refine try_p (d := .lead i) (P7.same s8) (by omega) hi (im_deed.mpr ⟨T3, rfl, upd_same⟩) fun O9 H9 rs9 P9 h9 S9 => ?_
    exact fin O9 H9 rs9 _ P9 (by omega) (S3.trans ((Stp.same P3.al s5).trans (S6.trans (S7.trans ((Stp.same P7.al s8).trans S9)))))
@[irreducible] def spRead : Sp := fun vs H Q _ => ∃ O L p dw wk rs m i, vs = [.ref dw, .ref (WL.w L), nv i] ∧ Pl H O L p dw wk rs m ∧ i < p.hands ∧ 3 * rs.length + 21 < big ∧
  ∀ O1 H1 rs1 m1, Pl H1 O1 L p dw (wk + 1) rs1 m1 → rs1.length ≤ 3 * rs.length + 21 → Stp dT O H O1 H1 → Q .non H1
theorem sc_l_read : FnScope ["_law_draw_here", "_law_world_here", "_law_hand_here", "_law_number_here"] ["_law_draw_here", "_law_world_here", "_law_hand_here"] (defScope s_l_read) := ⟨rfl, rfl, rfl, by decide +kernel, rfl, by decide +kernel, by decide +kernel⟩
theorem ok_l_read (T : Tx w K mg) : FnI P w K mg base "_law_read" (9 + 1) ["_law_draw_here", "_law_world_here", "_law_hand_here"] spRead := by
  refine FnI.mk' T.f_l_read T.g_l_read sc_l_read (fun _ _ _ _ _ _ us hl => match us, hl with | [_, _, _], _ => rfl) (fun vs H Q E h => ?_) (fun cdv A outer s H vs Q E hr h => ?_)
  all_goals unfold spRead at h
  · obtain ⟨_, _, _, _, _, _, _, _, rfl, _⟩ := h
    rfl
  · obtain ⟨O, L, p, dw, wk, rs, m, i, rfl, P, hi, hbig, fin⟩ := h
    have hu := hu_of hr
    refine ⟨_, (pss_cons (ps_set (i := 3) sc_l_read.nd rfl (.inl rfl) (pe_callB (id := "len") (lenK K) (by rfl) T.n_len (by decide +kernel) (pa_cons (pe_dget hu (pv 1) pe_str (fun _ _ => rfl)) pa_nil)))
      (pss_one (ps_if (pt_cmpR op_eq (pe_dget hu (pe_ix (ixL K) (pe_dget hu (pv 1) pe_str (fun _ _ => rfl)) (pv 2) (fun _ _ => rfl)) pe_str (fun _ _ => rfl)) pe_str (nomark _)) (pss_cons (ps_expr (pe_callI (ok_l_do T) hr (pa_cons (pv 1) (pa_cons (pe_tup (pa_cons pe_str (pa_cons (pv 2) pa_nil))) pa_nil))))
      (pss_cons (ps_expr (pe_callI (ok_l_all_hear T) hr (pa_cons (pv 0) (pa_cons (pv 1) (pa_cons (pe_tup (pa_cons pe_str (pa_cons (pe_dget hu (pe_ix (ixL K) (pe_dget hu (pv 1) pe_str (fun _ _ => rfl)) (pv 2) (fun _ _ => rfl)) pe_str (fun _ _ => rfl)) (pa_cons (pv 2) (pa_cons (pv 3) pa_nil))))) (pa_cons pe_int pa_nil))))))
      (pss_cons (ps_expr (pe_callI (ok_l_hear_own T) hr (pa_cons (pv 1) (pa_cons (pv 2) (pa_cons pe_str pa_nil)))))
      (pss_one (ps_expr (pe_callI (ok_l_try T) hr (pa_cons (pv 1) (pa_cons (pe_tup (pa_cons pe_str (pa_cons (pv 2) (pa_cons (pv 3) pa_nil)))) pa_nil)))))))) pss_nil))), ?_⟩
    obtain ⟨q, hq, hq2⟩ := P.get hi
    obtain ⟨M, B⟩ := P.w.at_ hq
    refine ⟨_, rfl, L.w, _, rfl, dw_asked P.w.ob, _, _, rfl, .inl (SqL.of P.w.asked), ?_⟩
    refine ⟨_, rfl, L.w, _, rfl, dw_hands P.w.ob, _, rfl, _, _, _, _, rfl, rfl, SqL.of P.w.hs, atI_nat hq2, q, _, rfl, dg_role B.obL, rfl, _, rfl, iteD (fun e1 => ?_) (fun e1 => ?_)⟩
    rotate_left
    · exact fin O H rs m ⟨P.w, P.r, P.d, P.ok, Nat.le_succ_of_le P.ask⟩ (by omega) (Stp.refl P.al)
    have er : (m.hd i).role = .leads := role_iff (k := .leads).mp e1
    rw [List.length_map]
    refine ⟨_, rfl, _, rfl, by show 2 ≤ sizeLine; decide, fun T hT => ?_⟩
    have s1 := same_new (o := .tup [.str "wish", nv i]) hT
    refine do_p (d := .wish i) (P.same s1) (by omega) hi (im_deed.mpr ⟨T, rfl, upd_same⟩) (by simp [Wd.able, er]) fun O2 H2 P2 S2 => ?_
    have P2 := P2 (wk + 1) (Nat.le_trans (Wd.do_asked1 m _) (Nat.succ_le_succ P.ask))
    have em : m.do (.wish i) = (({ m with asked := m.asked ++ [m.settles.length] } : Wd).set i { m.hd i with wishes := aput (m.hd i).wishes m.asked.length [i] }).post (.see (m.hd i).term i m.asked.length) := rfl
    have et : ((m.do (.wish i)).hd i).term = (m.hd i).term := by
      rw [em, Wd.post_hd, Wd.hd_set (by rw [show (({ m with asked := m.asked ++ [m.settles.length] } : Wd)).hs = m.hs from rfl, P.hs]; exact hi)]
    have hmem : Lt.see (m.hd i).term i m.asked.length ∈ (m.do (.wish i)).lts := by rw [em]; exact post_mem _ _
    obtain ⟨M2, B2⟩ := P2.w.at_ hq
    refine ⟨_, rfl, _, rfl, _, rfl, L.w, _, rfl, dw_hands P2.w.ob, _, rfl, _, _, _, _, rfl, rfl, SqL.of P2.w.hs, atI_nat hq2, q, _, rfl, dg_term B2.obL, _, rfl, _, rfl, by show 4 ≤ sizeLine; decide, fun T2 hT2 => ?_⟩
    have s3 := same_new (o := .tup [.str "see", nv ((m.do (.wish i)).hd i).term, nv i, nv m.asked.length]) hT2
    refine all_p (P2.same s3) hmem (im_see.mpr ⟨T2, rfl, by rw [upd_same]; dsimp only [rh]; rw [et]⟩) (by decide) (by rw [List.length_append]; show rs.length + 1 + 4 < big; omega) fun O6 H6 rs6 m6 P6 h6 S6 => ?_
    rw [List.length_append] at h6
    have h6 : rs6.length ≤ rs.length + 1 + 4 := h6
    refine ⟨_, rfl, _, rfl, own_p P6 hi (by decide +kernel) (by omega) fun O7 H7 rs7 m7 P7 h7 S7 => ?_⟩
    refine ⟨_, rfl, _, rfl, _, rfl, by show 3 ≤ sizeLine; decide, fun T3 hT3 => ?_⟩
    have s8 := same_new (o := .tup [.str "answer", nv i, nv m.asked.length]) hT3
    refine try_p (d := .answer i m.asked.length) (P7.same s8) (by omega) hi (im_deed.mpr ⟨T3, rfl, upd_same⟩) fun O9 H9 rs9 P9 h9 S9 => ?_
    exact fin O9 H9 rs9 _ P9 (by omega) ((Stp.same P.al s1).trans (S2.trans ((Stp.same P2.al s3).trans (S6.trans (S7.trans ((Stp.same P7.al s8).trans S9))))))
end
end Sr

set_option Elab.async false
set_option linter.all false
set_option maxRecDepth 100000
set_option maxHeartbeats 4000000
namespace Sr
open PySem PySem.Spec PyProof.Rows L2
local macro_rules | `(tactic| walk_at "hp") => `(tactic| (unfold upd at *; grind))
section
variable {P : Program} {w : World} {base : Heap} {K : PySem.W.Frag} {mg : Str → Option Value}
@[irreducible] def spCopy : Sp := fun vs H Q _ => ∃ O L p dw wk rs m i, vs = [.ref dw, .ref (WL.w L), nv i] ∧ Pl H O L p dw wk rs m ∧ i < p.hands ∧ 3 * rs.length + 21 < big ∧
  ∀ O1 H1 rs1 m1, Pl H1 O1 L p dw wk rs1 m1 → rs1.length ≤ 3 * rs.length + 21 → Stp dT O H O1 H1 → Q .non H1
theorem sc_l_copy : FnScope ["_law_draw_here", "_law_world_here", "_law_hand_here", "_law_own", "_law_turn", "_law_at", "_law_many", "_law_log", "_law_letter", "_law_count"] ["_law_draw_here", "_law_world_here", "_law_hand_here"] (defScope s_l_copy) := ⟨rfl, rfl, rfl, by decide +kernel, rfl, by decide +kernel, by decide +kernel⟩
theorem ok_l_copy (T : Tx w K mg) : FnI P w K mg base "_law_copy" (9 + 1) ["_law_draw_here", "_law_world_here", "_law_hand_here"] spCopy := by
  refine FnI.mk' T.f_l_copy T.g_l_copy sc_l_copy (fun _ _ _ _ _ _ us hl => match us, hl with | [_, _, _], _ => rfl) (fun vs H Q E h => ?_) (fun cdv A outer s H vs Q E hr h => ?_)
  all_goals unfold spCopy at h
  · obtain ⟨_, _, _, _, _, _, _, _, rfl, _⟩ := h
    rfl
  · obtain ⟨O, L, p, dw, wk, rs, m, i, rfl, P, hi, hbig, fin⟩ := h
    have hu := hu_of hr
    refine ⟨_, (pss_cons (ps_set (i := 3) sc_l_copy.nd rfl (.inl rfl) (pe_ix (ixL K) (pe_dget hu (pv 1) pe_str (fun _ _ => rfl)) (pv 2) (fun _ _ => rfl)))
      (pss_cons (ps_for PassesOwn.never rfl (pi_range1 (by rfl) T.n_range (pa_cons (pe_callI (ok_l_next T) hr (pa_cons (pv 0) (pa_cons pe_int pa_nil))) pa_nil)) (pg_name (i := 4) sc_l_copy.nd rfl (Or.inl rfl)) (pss_one (ps_expr (pe_callI (ok_l_try T) hr (pa_cons (pv 1) (pa_cons (pe_tup (pa_cons pe_str (pa_cons (pv 2) (pa_cons (pe_callI (ok_l_next T) hr (pa_cons (pv 0) (pa_cons pe_int pa_nil))) pa_nil)))) pa_nil))))))
      (pss_cons (ps_set (i := 5) sc_l_copy.nd rfl (.inl rfl) (pe_callI (ok_l_pick T) hr (pa_cons (pv 0) (pa_cons (pe_lst (pa_cons pe_int (pa_cons pe_int (pa_cons (pe_callI (ok_l_next T) hr (pa_cons (pv 0) (pa_cons (pe_op op_add (pe_callB (id := "len") (lenK K) (by rfl) T.n_len (by decide +kernel) (pa_cons (pe_dget hu (pv 3) pe_str (fun _ _ => rfl)) pa_nil)) pe_int) pa_nil))) pa_nil)))) pa_nil))))
      (pss_cons (ps_set (i := 6) sc_l_copy.nd rfl (.inl rfl) (pe_callI (ok_l_pick T) hr (pa_cons (pv 0) (pa_cons (pe_lst (pa_cons (pe_op op_sub (pe_callB (id := "len") (lenK K) (by rfl) T.n_len (by decide +kernel) (pa_cons (pe_dget hu (pv 3) pe_str (fun _ _ => rfl)) pa_nil)) (pv 5)) (pa_cons (pe_op op_sub (pe_callB (id := "len") (lenK K) (by rfl) T.n_len (by decide +kernel) (pa_cons (pe_dget hu (pv 3) pe_str (fun _ _ => rfl)) pa_nil)) (pv 5)) (pa_cons (pe_callI (ok_l_next T) hr (pa_cons (pv 0) (pa_cons (pe_op op_add (pe_op op_sub (pe_callB (id := "len") (lenK K) (by rfl) T.n_len (by decide +kernel) (pa_cons (pe_dget hu (pv 3) pe_str (fun _ _ => rfl)) pa_nil)) (pv 5)) pe_int) pa_nil))) pa_nil)))) pa_nil))))
      (pss_one (ps_if (pt_cmpR op_eq (pe_dget hu (pv 3) pe_str (fun _ _ => rfl)) pe_str (nomark _)) (pss_cons (ps_expr (pe_callI (ok_l_do T) hr (pa_cons (pv 1) (pa_cons (pe_tup (pa_cons pe_str (pa_cons (pv 2) (pa_cons (pv 5) (pa_cons (pv 6) pa_nil))))) pa_nil))))
      (pss_cons (ps_set (i := 7) sc_l_copy.nd rfl (.inl rfl) (pe_dget hu (pv 3) pe_str (fun _ _ => rfl)))
      (pss_cons (ps_set (i := 8) sc_l_copy.nd rfl (.inl rfl) (pe_tup (pa_cons pe_str (pa_cons (pe_dget hu (pv 3) pe_str (fun _ _ => rfl)) (pa_cons (pv 2) (pa_cons (pv 5) (pa_cons (pe_ifExp (pt_cmpR op_gt (pv 5) pe_int (nomark _)) (pe_ix (ixT K) (pe_ix (ixT K) (pv 7) (pe_op op_sub (pv 5) pe_int) (fun _ _ => rfl)) pe_int (fun _ _ => rfl)) pe_int) (pa_cons (pe_slice (slT K) (pv 7) (po_some (pv 5)) (po_some (pe_op op_add (pv 5) (pv 6)))) (pa_cons (pe_dget hu (pv 3) pe_str (fun _ _ => rfl)) pa_nil)))))))))
      (pss_cons (ps_expr (pe_callI (ok_l_all_hear T) hr (pa_cons (pv 0) (pa_cons (pv 1) (pa_cons (pv 8) (pa_cons pe_int pa_nil))))))
      (pss_cons (ps_expr (pe_callI (ok_l_hear_own T) hr (pa_cons (pv 1) (pa_cons (pv 2) (pa_cons pe_str pa_nil)))))
      (pss_one (ps_for PassesOwn.never rfl (pi_range3 (by rfl) T.n_range (pa_cons (pe_callB (id := "len") (lenK K) (by rfl) T.n_len (by decide +kernel) (pa_cons (pv 7) pa_nil)) (pa_cons pe_int (pa_cons (pe_un un_neg pe_int) pa_nil)))) (pg_name (i := 9) sc_l_copy.nd rfl (Or.inl rfl)) (pss_one (ps_expr (pe_callI (ok_l_try T) hr (pa_cons (pv 1) (pa_cons (pe_tup (pa_cons pe_str (pa_cons (pv 2) (pa_cons (pv 9) pa_nil)))) pa_nil)))))))))))) pss_nil)))))), ?_⟩
    obtain ⟨q, hq, hq2⟩ := P.get hi
    refine ⟨_, rfl, L.w, _, rfl, dw_hands P.w.ob, _, rfl, _, _, _, _, rfl, rfl, SqL.of P.w.hs, atI_nat hq2, ?_⟩
    dsimp only
    refine seq_have (fun σ3 H3 => ∃ x, σ3 = [some (.ref dw), some (.ref L.w), some (nv i), some (.ref q), x, none, none, none, none, none] ∧ ∃ O3 rs3 m3, Pl H3 O3 L p dw wk rs3 m3 ∧ rs3.length ≤ rs.length + 2 ∧ Stp dT O H O3 H3) ?_ (fun key => ?_)
    rotate_left
    · refine ⟨_, rfl, next_p P (by decide) fun n H3 hn P3 S3 => ?_⟩
      have hn : (n : Int) < 3 := hn
      refine ⟨_, rfl, by omega, by omega, ?_⟩
      rw [Int.toNat_natCast]
      refine for_range (fun k σ3 H4 => ∃ x, σ3 = [some (.ref dw), some (.ref L.w), some (nv i), some (.ref q), x, none, none, none, none, none] ∧ ∃ O3 rs3 m3, Pl H4 O3 L p dw wk rs3 m3 ∧ rs3.length ≤ rs.length + k ∧ Stp dT O H O3 H4) ⟨none, rfl, O, rs, m, P3, Nat.le_refl _, S3⟩ ?_ ?_
      · rintro k _ H4 hk ⟨x, rfl, O4, rs4, m4, P4, h4, S4⟩
        refine ⟨_, rfl, _, rfl, _, rfl, next_p P4 (by decide) fun v H5 hv P5 S5 => ⟨by show 3 ≤ sizeLine; decide, fun T hT => ?_⟩⟩
        have s5 := same_new (o := .tup [.str "put", nv i, nv v]) hT
        refine try_p (d := .put i v) (P5.same s5) (by omega) hi (im_deed.mpr ⟨T, rfl, upd_same⟩) fun O6 H6 rs6 P6 h6 S6 => ?_
        exact ⟨_, rfl, O6, rs6, _, P6, by omega, S4.trans (S5.trans ((Stp.same P5.al s5).trans S6))⟩
      · rintro _ H4 ⟨x, rfl, O4, rs4, m4, P4, h4, S4⟩
        exact key _ _ ⟨x, rfl, O4, rs4, m4, P4, by omega, S4⟩
    rintro _ H3 ⟨x, rfl, O3, rs3, m3, P3, h3, S3⟩
    refine seq_have (fun σ4 H4 => ∃ at_ : Nat, σ4 = [some (.ref dw), some (.ref L.w), some (nv i), some (.ref q), x, some (nv at_), none, none, none, none] ∧ Pl H4 O3 L p dw wk rs3 m3 ∧ at_ ≤ (m3.hd i).log.length ∧ Stp dT O3 H3 O3 H4) ?_ (fun key => ?_)
    rotate_left
    · obtain ⟨M, B⟩ := P3.w.at_ hq
      obtain ⟨xs, hx, hlog⟩ := im_logr.mp B.h.log
      refine ⟨_, rfl, _, rfl, _, rfl, q, _, rfl, dg_log B.obL, _, xs, rfl, .inr (SqT.of hx), _, _, rfl, rfl, next_p P3 (by show 0 < (xs.length : Int) + 1; omega) fun a H4 ha P4 S4 => ⟨by show 3 ≤ sizeLine; decide, fun l hl => ?_⟩⟩
      have ha : (a : Int) < (xs.length : Int) + 1 := ha
      rw [hlog.length] at ha
      have s5 := same_new (o := .lst [.int 0, .int 0, nv a]) hl
      refine pick_p (P4.same s5) (upd_same (a := l) (o := .lst [.int 0, .int 0, nv a])) (P4.al.fresh hl) (by show 0 < 3; decide) fun v H6 hv P6 S6 => ?_
      have hat : ∃ at_ : Nat, v = nv at_ ∧ at_ ≤ (m3.hd i).log.length := by
        simp only [List.mem_cons, List.not_mem_nil, or_false] at hv
        rcases hv with rfl | rfl | rfl
        · exact ⟨0, rfl, Nat.zero_le _⟩
        · exact ⟨0, rfl, Nat.zero_le _⟩
        · exact ⟨a, rfl, by omega⟩
      obtain ⟨at_, rfl, hat⟩ := hat
      exact key _ _ ⟨at_, rfl, P6, hat, S4.trans ((Stp.same P4.al s5).trans S6)⟩
    rintro _ H4 ⟨at_, rfl, P4, hat, S4⟩
    refine seq_have (fun σ5 H5 => ∃ many : Nat, σ5 = [some (.ref dw), some (.ref L.w), some (nv i), some (.ref q), x, some (nv at_), some (nv many), none, none, none] ∧ Pl H5 O3 L p dw wk rs3 m3 ∧ at_ + many ≤ (m3.hd i).log.length ∧ Stp dT O3 H3 O3 H5) ?_ (fun key => ?_)
    rotate_left
    · obtain ⟨M, B⟩ := P4.w.at_ hq
      obtain ⟨xs, hx, hlog⟩ := im_logr.mp B.h.log
      have hll := hlog.length
      refine ⟨_, rfl, _, rfl, q, _, rfl, dg_log B.obL, _, xs, rfl, .inr (SqT.of hx), _, rfl, _, _, rfl, rfl, _, rfl, q, _, rfl, dg_log B.obL, _, xs, rfl, .inr (SqT.of hx), _, rfl, _, _, rfl, rfl, ?_⟩
      refine ⟨_, rfl, _, rfl, q, _, rfl, dg_log B.obL, _, xs, rfl, .inr (SqT.of hx), _, rfl, _, _, rfl, rfl, _, _, rfl, rfl, next_p P4 (by show 0 < (xs.length : Int) - (at_ : Int) + 1; omega) fun a H5 ha P5 S5 => ⟨by show 3 ≤ sizeLine; decide, fun l hl => ?_⟩⟩
      have ha : (a : Int) < (xs.length : Int) - (at_ : Int) + 1 := ha
      have s6 := same_new (o := .lst [.int ((xs.length : Int) - (at_ : Int)), .int ((xs.length : Int) - (at_ : Int)), nv a]) hl
      refine pick_p (P5.same s6) (upd_same (a := l) (o := .lst [.int ((xs.length : Int) - (at_ : Int)), .int ((xs.length : Int) - (at_ : Int)), nv a])) (P5.al.fresh hl) (by show 0 < 3; decide) fun v H7 hv P7 S7 => ?_
      have hmany : ∃ many : Nat, v = nv many ∧ at_ + many ≤ (m3.hd i).log.length := by
        simp only [List.mem_cons, List.not_mem_nil, or_false] at hv
        rcases hv with rfl | rfl | rfl
        · exact ⟨xs.length - at_, congrArg V.int (by omega), by omega⟩
        · exact ⟨xs.length - at_, congrArg V.int (by omega), by omega⟩
        · exact ⟨a, rfl, by omega⟩
      obtain ⟨many, rfl, hmany⟩ := hmany
      exact key _ _ ⟨many, rfl, P7, hmany, S4.trans (S5.trans ((Stp.same P5.al s6).trans S7))⟩
    rintro _ H5 ⟨many, rfl, P5, hmany, S5⟩
    obtain ⟨M5, B5⟩ := P5.w.at_ hq
    refine ⟨_, rfl, q, _, rfl, dg_role B5.obL, rfl, _, rfl, iteD (fun e1 => ?_) (fun e1 => ?_)⟩
    rotate_left
    · exact fin O3 H5 rs3 m3 P5 (by omega) (S3.trans S5)
    have er : (m3.hd i).role = .leads := role_iff (k := .leads).mp e1
    refine ⟨_, rfl, _, rfl, _, rfl, _, rfl, by show 4 ≤ sizeLine; decide, fun T hT => ?_⟩
    have s6 := same_new (o := .tup [.str "send", nv i, nv at_, nv many]) hT
    refine do_p (d := .send i at_ many) (P5.same s6) (by omega) hi (im_deed.mpr ⟨T, rfl, upd_same⟩) (by simp [Wd.able, er, hmany]) fun O7 H7 P7 S7 => ?_
    have P7 := P7 wk (by rw [Wd.do_asked _ _ rfl]; exact P5.ask)
    have em : m3.do (.send i at_ many) = m3.post (.rows (m3.hd i).term i at_ (if 0 < at_ then ((m3.hd i).log.getD (at_ - 1) (0, 0)).1 else 0) (((m3.hd i).log.drop at_).take many) (m3.hd i).told) := rfl
    have eh : (m3.do (.send i at_ many)).hd i = m3.hd i := by rw [em, Wd.post_hd]
    have hmem : Lt.rows (m3.hd i).term i at_ (if 0 < at_ then ((m3.hd i).log.getD (at_ - 1) (0, 0)).1 else 0) (((m3.hd i).log.drop at_).take many) (m3.hd i).told ∈ (m3.do (.send i at_ many)).lts := by rw [em]; exact post_mem _ _
    have hr7 : (rs3 ++ [Dd.send i at_ many]).length = rs3.length + 1 := by rw [List.length_append]; rfl
    generalize m3.do (.send i at_ many) = m7 at P7 eh hmem
    generalize rs3 ++ [Dd.send i at_ many] = rs7 at P7 hr7
    have S7 := S3.trans (S5.trans ((Stp.same P5.al s6).trans S7))
    obtain ⟨M7, B7⟩ := P7.w.at_ hq
    rw [eh] at B7
    generalize m3.hd i = g at *
    obtain ⟨xs, hx, hlog⟩ := im_logr.mp B7.h.log
    have hll := hlog.length
    have hlen : xs.length ≤ rs7.length := by
      have := (P7.fit.hd i).log
      rw [eh] at this
      omega
    refine ⟨_, rfl, q, _, rfl, dg_log B7.obL, ?_⟩
    dsimp only
    refine seq_have (fun σ8 H8 => ∃ T8 : Addr, σ8 = [some (.ref dw), some (.ref L.w), some (nv i), some (.ref q), x, some (nv at_), some (nv many), some (.ref M7.l), some (.ref T8), none] ∧
      Im H8 (Lt.rows g.term i at_ (if 0 < at_ then (g.log.getD (at_ - 1) (0, 0)).1 else 0) ((g.log.drop at_).take many) g.told).data (.ref T8) ∧ Same H7 H8) ?_ (fun key => ?_)
    rotate_left
    · refine ⟨_, rfl, q, _, rfl, dg_term B7.obL, _, rfl, _, rfl, tIf_have (nv (if 0 < at_ then (g.log.getD (at_ - 1) (0, 0)).1 else 0)) ?_ (fun k => ?_)⟩
      · refine ⟨_, rfl, _, rfl, _, rfl, _, rfl, _, rfl, _, _, rfl, rfl, _, rfl, ?_⟩
        refine slice_mid at_ many hx hlog fun q2 H8 s8 hq8 => ?_
        have B8 := B7.same s8
        refine ⟨_, rfl, q, _, rfl, dg_told B8.obL, by show 7 ≤ sizeLine; decide, fun T8 hT8 => ?_⟩
        exact key _ _ ⟨T8, rfl, im_rows.mpr ⟨T8, q2, rfl, upd_same, Im.keep (same_tk (same_new hT8)) _ _ hq8⟩, s8.trans (same_new hT8)⟩
      · refine ⟨_, rfl, _, _, rfl, rfl, _, rfl, iteD (fun e1 => ?_) (fun e1 => ?_)⟩
        · have hk : 0 < at_ := by omega
          rw [if_pos hk] at k
          obtain ⟨r, g1, g2⟩ := hlog.get (i := at_ - 1) (by omega)
          exact ⟨_, rfl, _, rfl, _, _, rfl, rfl, _, xs, _, _, rfl, rfl, SqT.of hx, atI_pred hk g1, r, _, 0, _, rfl, rfl, SqT.of g2, rfl, k⟩
        · rw [if_neg (by omega)] at k
          exact k
    rintro _ H8 ⟨T8, rfl, hT8, s8⟩
    refine ⟨_, rfl, _, rfl, _, rfl, all_p (P7.same s8) hmem hT8 (by decide) (by omega) fun O9 H9 rs9 m9 P9 h9 S9 => ?_⟩
    refine ⟨_, rfl, _, rfl, own_p P9 hi (by decide +kernel) (by omega) fun O10 H10 rs10 m10 P10 h10 S10 => ?_⟩
    have S10 := S7.trans ((Stp.same P7.al s8).trans (S9.trans S10))
    have hx10 : H10 M7.l = some (.tup xs) := by
      have t1 := same_tk s8 _ _ hx
      exact (by
        have := (‹Stp dT O9 H9 O10 H10›).tk P9.al
        exact this _ _ (S9.tk (P7.same s8).al _ _ t1))
    refine ⟨_, rfl, _, xs, rfl, .inr (SqT.of hx10), _, rfl, _, _, _, _, rfl, RgC.neg (by omega) (by have : big < 2 ^ 61 := (by decide); omega) (by decide) (by decide), ?_⟩
    refine for_rangeC (fun k σ3 H4 => ∃ y, σ3 = [some (.ref dw), some (.ref L.w), some (nv i), some (.ref q), x, some (nv at_), some (nv many), some (.ref M7.l), some (.ref T8), y] ∧ ∃ O3 rs3 m3, Pl H4 O3 L p dw wk rs3 m3 ∧ rs3.length ≤ rs10.length + k ∧ Stp dT O H O3 H4) ⟨none, rfl, O10, rs10, m10, P10, Nat.le_refl _, S10⟩ ?_ ?_
    · rintro k _ H4 hk ⟨y, rfl, O4, rs4, m4, P4, h4, S4⟩
      have ek : (xs.length : Int) + (k : Int) * (-1) = ((xs.length - k : Nat) : Int) := by omega
      refine ⟨_, rfl, _, rfl, _, rfl, by show 3 ≤ sizeLine; decide, fun T hT => ?_⟩
      have s5 := same_new (o := .tup [.str "settle", nv i, .int ((xs.length : Int) + (k : Int) * (-1))]) hT
      refine try_p (d := .settle i (xs.length - k)) (P4.same s5) (by omega) hi (im_deed.mpr ⟨T, rfl, by rw [upd_same, ek]; rfl⟩) fun O6 H6 rs6 P6 h6 S6 => ?_
      exact ⟨_, rfl, O6, rs6, _, P6, by omega, S4.trans ((Stp.same P4.al s5).trans S6)⟩
    · rintro _ H4 ⟨y, rfl, O4, rs4, m4, P4, h4, S4⟩
      exact fin O4 H4 rs4 m4 P4 (by omega) S4
end
end Sr

set_option Elab.async false
set_option linter.all false
set_option maxRecDepth 100000
set_option maxHeartbeats 4000000
namespace Sr
open PySem PySem.Spec PyProof.Rows L2
local macro_rules | `(tactic| walk_at "hp") => `(tactic| (unfold upd at *; grind))
section
variable {P : Program} {w : World} {base : Heap} {K : PySem.W.Frag} {mg : Str → Option Value}
section
variable {H : Hp} {O : Own} {L : WL} {p : Pr} {dw : Addr} {wk : Nat} {rs : List Dd} {m : Wd} {i : Nat} {Q : VK} {E : XK}
theorem elect_p (P : Pl H O L p dw wk rs m) (hi : i < p.hands) (hbig : 3 * rs.length + 21 < big) (fin : ∀ O1 H1 rs1 m1, Pl H1 O1 L p dw wk rs1 m1 → rs1.length ≤ 3 * rs.length + 21 → Stp dT O H O1 H1 → Q .non H1) : spElect [.ref dw, .ref L.w, nv i] H Q E := by
  unfold spElect
  exact ⟨O, L, p, dw, wk, rs, m, i, rfl, P, hi, hbig, fin⟩
theorem copy_p (P : Pl H O L p dw wk rs m) (hi : i < p.hands) (hbig : 3 * rs.length + 21 < big) (fin : ∀ O1 H1 rs1 m1, Pl H1 O1 L p dw wk rs1 m1 → rs1.length ≤ 3 * rs.length + 21 → Stp dT O H O1 H1 → Q .non H1) : spCopy [.ref dw, .ref L.w, nv i] H Q E := by
  unfold spCopy
  exact ⟨O, L, p, dw, wk, rs, m, i, rfl, P, hi, hbig, fin⟩
theorem read_p (P : Pl H O L p dw wk rs m) (hi : i < p.hands) (hbig : 3 * rs.length + 21 < big) (fin : ∀ O1 H1 rs1 m1, Pl H1 O1 L p dw (wk + 1) rs1 m1 → rs1.length ≤ 3 * rs.length + 21 → Stp dT O H O1 H1 → Q .non H1) : spRead [.ref dw, .ref L.w, nv i] H Q E := by
  unfold spRead
  exact ⟨O, L, p, dw, wk, rs, m, i, rfl, P, hi, hbig, fin⟩
end
theorem if_haveH {c : TT} {t u : TS} {D : Ends} {σ : L2.St} {H : Hp} (P1 P0 : Hp → Prop) (h1 : ∀ H1, P1 H1 → t D σ H1) (h0 : ∀ H1, P0 H1 → u D σ H1) (h : (∀ H1, P1 H1 → t D σ H1) → (∀ H1, P0 H1 → u D σ H1) → c σ H fun b H1 => if b = true then t D σ H1 else u D σ H1) : tIfS c t u D σ H := h h1 h0
theorem nats_empty (l : List Nat) : PyData.eqv (.list (l.map natD)) (.list []) = decide (l = []) := by
  cases l <;> simp [PyData.eqv, PyData.eqvAll]
theorem lts_empty (l : List Lt) : PyData.eqv (.list (l.map Lt.data)) (.list []) = decide (l = []) := by
  cases l <;> simp [PyData.eqv, PyData.eqvAll]
def gb : Nat → Nat
  | 0 => 0
  | k + 1 => 3 * gb k + 21
theorem gb_big {k : Nat} (h : k < 10) : 3 * gb k + 21 < big := by
  have : ∀ k < 10, 3 * gb k + 21 < big := by decide
  exact this k h
def plS (dw : Addr) (L : WL) (a b c d : Option V) : L2.St := [some (.ref dw), some (.ref L.w), some (.int 10), a, b, c, d, none]
@[irreducible] def spPlay : Sp := fun vs H Q _ => ∃ O L p dw, vs = [.ref dw, .ref (WL.w L), .int 10] ∧ Pl H O L p dw 0 [] (Wd.new p) ∧ ∀ O1 H1 rs1 m1, Pl H1 O1 L p dw 10 rs1 m1 → rs1.length < big → Stp dT O H O1 H1 → Q .non H1
theorem sc_l_play : FnScope ["_law_draw_here", "_law_world_here", "_law_turns", "_law_turn", "_law_hand_here", "_law_kind", "_law_leading", "_law_one"] ["_law_draw_here", "_law_world_here", "_law_turns"] (defScope s_l_play) := ⟨rfl, rfl, rfl, by decide +kernel, rfl, by decide +kernel, by decide +kernel⟩
theorem ok_l_play (T : Tx w K mg) : FnI P w K mg base "_law_play" (10 + 1) ["_law_draw_here", "_law_world_here", "_law_turns"] spPlay := by
  refine FnI.mk' T.f_l_play T.g_l_play sc_l_play (fun _ _ _ _ _ _ us hl => match us, hl with | [_, _, _], _ => rfl) (fun vs H Q E h => ?_) (fun cdv A outer s H vs Q E hr h => ?_)
  all_goals unfold spPlay at h
  · obtain ⟨_, _, _, _, rfl, _⟩ := h
    rfl
  · obtain ⟨O, L, p, dw, rfl, P, fin⟩ := h
    have hu := hu_of hr
    have hu64 := hr.units
    refine ⟨_, (pss_one (ps_for PassesOwn.never rfl (pi_range1 (by rfl) T.n_range (pa_cons (pv 2) pa_nil)) (pg_name (i := 3) sc_l_play.nd rfl (Or.inl rfl)) (pss_cons (ps_par (i := 4) (j := 5) rfl sc_l_play.nd rfl rfl (by decide) rfl rfl (pa_cons (pe_callI (ok_l_next T) hr (pa_cons (pv 0) (pa_cons (pe_ix (ixT K) (pe_dget hu (pv 1) pe_str (fun _ _ => rfl)) pe_int (fun _ _ => rfl)) pa_nil))) (pa_cons (pe_callI (ok_l_next T) hr (pa_cons (pv 0) (pa_cons pe_int pa_nil))) pa_nil)) rfl)
      (pss_cons (ps_setLc (i := 6) (own := [("_law_one", 7)]) (g := gName 7) rfl sc_l_play.nd rfl rfl (sw_true rfl rfl rfl (by decide +kernel)) (pi_range1 (by rfl) T.n_range (pa_cons (pe_ix (ixT K) (pe_dget hu (pv 1) pe_str (fun _ _ => rfl)) pe_int (fun _ _ => rfl)) pa_nil)) (blkOk_by (own := [("_law_one", 7)]) (N := ["_law_draw_here", "_law_world_here", "_law_turns", "_law_turn", "_law_hand_here", "_law_kind", "_law_leading", "_law_one"]) (sc := defScope s_l_play) (by decide +kernel)) (fun _ _ _ _ _ => (pg_name (i := 7) sc_l_play.nd rfl (Or.inl rfl))) (fun _ _ _ _ _ => (pts_one (pt_cmpR op_eq (pe_dget hu (pe_ix (ixL K) (pe_dget hu (pv 1) pe_str (fun _ _ => rfl)) (pv 7) (fun _ _ => rfl)) pe_str (fun _ _ => rfl)) pe_str (nomark _)))) (fun _ _ _ _ _ => (pv 7)))
      (pss_one (ps_if (pw_or (pt_cmpR op_lt (pv 5) pe_int (nomark _)) (pw_or1 (pw_and (pt_cmpR (op_eqD hu64) (pv 6) (pe_lst pa_nil) (nomark _)) (pw_and1 (pt_cmpR op_lt (pv 5) pe_int (nomark _)))).pt)).pt (pss_one (ps_expr (pe_callI (ok_l_elect T) hr (pa_cons (pv 0) (pa_cons (pv 1) (pa_cons (pv 4) pa_nil)))))) (pss_one (ps_if (pw_and (pt_cmpR op_lt (pv 5) pe_int (nomark _)) (pw_and1 (pt_cmpR (op_neD hu64) (pv 6) (pe_lst pa_nil) (nomark _)))).pt (pss_one (ps_expr (pe_callI (ok_l_copy T) hr (pa_cons (pv 0) (pa_cons (pv 1) (pa_cons (pe_callI (ok_l_pick T) hr (pa_cons (pv 0) (pa_cons (pv 6) pa_nil))) pa_nil)))))) (pss_one (ps_if (pw_and (pt_cmpR op_eq (pv 5) pe_int (nomark _)) (pw_and1 (pt_cmpR (op_neD hu64) (pv 6) (pe_lst pa_nil) (nomark _)))).pt (pss_one (ps_expr (pe_callI (ok_l_read T) hr (pa_cons (pv 0) (pa_cons (pv 1) (pa_cons (pe_callI (ok_l_pick T) hr (pa_cons (pv 0) (pa_cons (pv 6) pa_nil))) pa_nil)))))) (pss_one (ps_if (pt_cmpR op_eq (pv 5) pe_int (nomark _)) (pss_one (ps_expr (pe_callI (ok_l_try T) hr (pa_cons (pv 1) (pa_cons (pe_tup (pa_cons pe_str (pa_cons (pv 4) pa_nil))) pa_nil))))) (pss_one (ps_if (pt_cmpR (op_neD hu64) (pe_dget hu (pv 1) pe_str (fun _ _ => rfl)) (pe_lst pa_nil) (nomark _)) (pss_one (ps_expr (pe_callI (ok_l_try T) hr (pa_cons (pv 1) (pa_cons (pe_tup (pa_cons pe_str (pa_cons (pv 4) (pa_cons (pe_callI (ok_l_next T) hr (pa_cons (pv 0) (pa_cons (pe_callB (id := "len") (lenK K) (by rfl) T.n_len (by decide +kernel) (pa_cons (pe_dget hu (pv 1) pe_str (fun _ _ => rfl)) pa_nil)) pa_nil))) pa_nil)))) pa_nil))))) pss_nil)))))))))))))), ?_⟩
    refine ⟨_, rfl, _, rfl, by decide, by decide, ?_⟩
    refine for_range (fun k σ2 H2 => ∃ a b c d, σ2 = plS dw L a b c d ∧ ∃ O2 rs2 m2, Pl H2 O2 L p dw k rs2 m2 ∧ rs2.length ≤ gb k ∧ Stp dT O H O2 H2) ⟨none, none, none, none, rfl, O, [], _, P, Nat.le_refl _, Stp.refl P.al⟩ ?_ ?_
    rotate_left
    · rintro _ H2 ⟨a, b, c, d, rfl, O2, rs2, m2, P2, h2, S2⟩
      refine fin O2 H2 rs2 m2 P2 (Nat.lt_of_le_of_lt h2 ?_) S2
      show gb 10 < big
      decide
    rintro k _ H2 hk ⟨a, b, c, d, rfl, O2, rs2, m2, P2, h2, S2⟩
    have hk : k < 10 := hk
    have hg := gb_big hk
    obtain ⟨pa, pq, epr, hpr, _⟩ := im_pr.mp P2.w.pr
    have hp4 := P2.pr
    have q1 := P2.ok.h1
    have q4 := P2.ok.h2
    refine ⟨_, rfl, _, rfl, L.w, _, rfl, dw_protocol P2.w.ob, _, _, 0, _, epr, rfl, SqT.of hpr, rfl, next_p P2 (by rw [hp4]; show (0 : Int) < (p.hands : Int); omega) fun i H3 hi P3 S3 => ?_⟩
    rw [hp4] at hi
    have hi : i < p.hands := by omega
    refine ⟨_, rfl, next_p P3 (by decide) fun kd H4 hkd P4 S4 => ⟨_, _, rfl, ?_⟩⟩
    have S4 := S2.trans (S3.trans S4)
    clear S3 P3 P2
    dsimp only
    refine seq_have (fun σ5 H5 => ∃ (D : Addr) (acc : List Nat), σ5 = plS dw L (some (.int (0 + (k : Int)))) (some (nv i)) (some (nv kd)) (some (.ref D)) ∧ H5 D = some (.lst (acc.map nv)) ∧ O2 D = none ∧ acc.length ≤ 4 ∧ (∀ x ∈ acc, x < p.hands) ∧ Same H4 H5) ?_ (fun key => ?_)
    rotate_left
    · obtain ⟨pa, pq, epr, hpr, _⟩ := im_pr.mp P4.w.pr
      refine ⟨_, rfl, L.w, _, rfl, dw_protocol P4.w.ob, _, _, 0, _, epr, rfl, SqT.of hpr, rfl, _, rfl, by omega, by rw [hp4]; omega, fun D hD => ?_⟩
      rw [hp4, Int.toNat_natCast]
      have sD : ∀ l : List Nat, Same H4 (upd H4 D (.lst (l.map nv))) := fun l => same_new hD
      refine lc_it (walk_range (lo := 0) (n := p.hands)) (fun j H5 => ∃ acc : List Nat, H5 = upd H4 D (.lst (acc.map nv)) ∧ acc.length ≤ j ∧ ∀ x ∈ acc, x < p.hands) ?_ ?_ ?_ ?_
      · exact ⟨[], rfl, Nat.le_refl _, fun x hx => nomatch hx⟩
      · exact fun _ _ _ _ => trivial
      · rintro j x _ _ hj ⟨acc, rfl, h1, h2⟩ ⟨rfl, rfl⟩
        have P5 := P4.same (sD acc)
        obtain ⟨q, hq, hq2⟩ := P5.get hj
        obtain ⟨M, B⟩ := P5.w.at_ hq
        have ej : V.int (0 + (j : Int)) = nv j := congrArg V.int (by omega)
        refine ⟨rfl, ?_⟩
        refine ⟨_, rfl, L.w, _, rfl, dw_hands P5.w.ob, _, rfl, _, _, _, _, rfl, rfl, SqL.of P5.w.hs, (by rw [show (0 : Int) + (j : Int) = (j : Int) by omega]; exact atI_nat hq2), q, _, rfl, dg_role B.obL, rfl, _, rfl, iteD (fun e => ?_) (fun e => ?_)⟩
        · refine ⟨_, rfl, _, upd_same, ?_, acc ++ [j], ?_, ?_, ?_⟩
          · rw [List.length_map]
            have : (64 : Nat) < sizeLine := by decide
            omega
          · rw [upd_upd, List.map_append]
            show upd H4 D (.lst (acc.map nv ++ [V.int (0 + (j : Int))])) = _
            rw [ej]
            rfl
          · rw [List.length_append]
            exact Nat.succ_le_succ h1
          · intro x hx
            rcases List.mem_append.mp hx with z | z
            · exact h2 x z
            · rw [List.mem_singleton.mp z]; exact hj
        · exact ⟨acc, rfl, Nat.le_succ_of_le h1, h2⟩
      · rintro _ ⟨acc, rfl, h1, h2⟩
        exact key _ _ ⟨D, acc, rfl, upd_same, P4.al.fresh hD, Nat.le_trans h1 q4, h2, sD acc⟩
    rintro _ H5 ⟨D, acc, rfl, hD, oD, ha1, ha2, s5⟩
    have P5 := P4.same s5
    have S5 := S4.trans (Stp.same (D := dT) P4.al s5)
    clear P4 S4
    have step : ∀ O6 H6 rs6 m6, Pl H6 O6 L p dw (k + 1) rs6 m6 → rs6.length ≤ 3 * rs2.length + 21 → Stp dT O2 H5 O6 H6 → ∃ a b c d, plS dw L (some (.int (0 + (k : Int)))) (some (nv i)) (some (nv kd)) (some (.ref D)) = plS dw L a b c d ∧ ∃ O2 rs2 m2, Pl H6 O2 L p dw (k + 1) rs2 m2 ∧ rs2.length ≤ gb (k + 1) ∧ Stp dT O H O2 H6 :=
      fun O6 H6 rs6 m6 P6 h6 S6 => ⟨_, _, _, _, rfl, O6, rs6, m6, P6, by show rs6.length ≤ 3 * gb k + 21; omega, S5.trans S6⟩
    have hb2 : 3 * rs2.length + 21 < big := by omega
    have up : ∀ {O6 : Own} {H6 : Hp} {rs6 : List Dd} {m6 : Wd}, Pl H6 O6 L p dw k rs6 m6 → Pl H6 O6 L p dw (k + 1) rs6 m6 := fun P => ⟨P.w, P.r, P.d, P.ok, Nat.le_succ_of_le P.ask⟩
    have dpl : ∀ {H6 : Hp}, Same H5 H6 → Dp K H6 (.ref D) (.list (acc.map natD)) := fun s => .lst (SqL.of (s _ _ hD)) (ImAll.dp _ _ (imAll_nats.mpr rfl))
    have shl : SeqAt.shaped (.list (acc.map natD)) = true := (sh_list (n := 0) (.map (fun n => sh_nat) acc)).ok
    have she : SeqAt.shaped (.list []) = true := (sh_list (n := 0) .nil).ok
    refine if_haveH (fun H6 => Same H5 H6) (fun H6 => Same H5 H6) (fun H6 s6 => ?_) (fun H6 s6 => ?_) (fun k1 k0 => ?_)
    · refine ⟨_, rfl, _, rfl, _, rfl, elect_p (P5.same s6) hi hb2 fun O7 H7 rs7 m7 P7 h7 S7 => step O7 H7 rs7 m7 (up P7) h7 ((Stp.same P5.al s6).trans S7)⟩
    · refine if_haveH (fun H7 => Same H5 H7 ∧ acc ≠ []) (fun H7 => Same H5 H7) (fun H7 ⟨s7, ne⟩ => ?_) (fun H7 s7 => ?_) (fun k1 k0 => ?_)
      · refine ⟨_, rfl, _, rfl, _, rfl, _, rfl, pick_p (P5.same s7) (s7 _ _ hD) oD (by rw [List.length_map]; exact List.length_pos_iff.mpr ne) fun v H8 hv P8 S8 => ?_⟩
        obtain ⟨x, hx, rfl⟩ := List.mem_map.mp hv
        exact copy_p P8 (ha2 x hx) hb2 fun O9 H9 rs9 m9 P9 h9 S9 => step O9 H9 rs9 m9 (up P9) h9 ((Stp.same P5.al s7).trans (S8.trans S9))
      · refine if_haveH (fun H8 => Same H5 H8 ∧ acc ≠ []) (fun H8 => Same H5 H8) (fun H8 ⟨s8, ne⟩ => ?_) (fun H8 s8 => ?_) (fun k1 k0 => ?_)
        · refine ⟨_, rfl, _, rfl, _, rfl, _, rfl, pick_p (P5.same s8) (s8 _ _ hD) oD (by rw [List.length_map]; exact List.length_pos_iff.mpr ne) fun v H9 hv P9 S9 => ?_⟩
          obtain ⟨x, hx, rfl⟩ := List.mem_map.mp hv
          exact read_p P9 (ha2 x hx) hb2 fun O10 H10 rs10 m10 P10 h10 S10 => step O10 H10 rs10 m10 P10 h10 ((Stp.same P5.al s8).trans (S9.trans S10))
        · have P8 := P5.same s8
          refine ⟨_, rfl, rfl, _, rfl, iteD (fun e7 => ?_) (fun e7 => ?_)⟩
          · refine ⟨_, rfl, _, rfl, by show 2 ≤ sizeLine; decide, fun T hT => ?_⟩
            have s9 := same_new (o := .tup [.str "crash", nv i]) hT
            exact try_p (d := .crash i) (P8.same s9) (by omega) hi (im_deed.mpr ⟨T, rfl, upd_same⟩) fun O10 H10 rs10 P10 h10 S10 => step O10 H10 rs10 _ (up P10) (by omega) ((Stp.same P5.al (s8.trans s9)).trans S10)
          · obtain ⟨as, la, lb, _⟩ := P8.w.lts
            refine ⟨_, rfl, L.w, _, rfl, dw_letters P8.w.ob, Nat.zero_le _, fun l hl => ?_⟩
            have s9 := same_new (o := .lst []) hl
            have P9 := P8.same s9
            have la9 := s9 _ _ la
            have lb9 := ImAll.keep (same_tk s9) _ _ lb
            refine ⟨.list (m2.lts.map Lt.data), .list [], .lst (SqL.of la9) (ImAll.dp _ _ lb9), .lst (SqL.of upd_same) .nil, (sh_list (.map sh_lt _)).ok, she, _, rfl, ?_⟩
            rw [lts_empty]
            have ll : (as.map V.ref).length = m2.lts.length := lb.length.trans (List.length_map ..)
            refine iteND (fun en => ?_) (fun en => ?_)
            · have hpos : 0 < m2.lts.length := List.length_pos_iff.mpr en
              refine ⟨_, rfl, _, rfl, _, rfl, _, rfl, L.w, _, rfl, dw_letters P9.w.ob, _, _, rfl, .inl (SqL.of la9), next_p P9 (by rw [ll]; omega) fun n H10 hn P10 S10 => ⟨by show 3 ≤ sizeLine; decide, fun T hT => ?_⟩⟩
              have s11 := same_new (o := .tup [.str "hear", nv i, nv n]) hT
              exact try_p (d := .hear i n) (P10.same s11) (by omega) hi (im_deed.mpr ⟨T, rfl, upd_same⟩) fun O12 H12 rs12 P12 h12 S12 => step O12 H12 rs12 _ (up P12) (by omega) ((Stp.same P5.al (s8.trans s9)).trans (S10.trans ((Stp.same P10.al s11).trans S12)))
            · exact step O2 _ rs2 m2 (up P9) (by omega) (Stp.same P5.al (s8.trans s9))
        · refine ⟨_, rfl, rfl, _, rfl, iteD (fun e1 => ?_) (fun e1 => ?_)⟩
          · refine ⟨_, rfl, Nat.zero_le _, fun l hl => ⟨_, _, dpl (s7.trans (same_new hl)), .lst (SqL.of upd_same) .nil, shl, she, _, rfl, ?_⟩⟩
            rw [nats_empty]
            exact iteND (fun en => k1 _ ⟨s7.trans (same_new hl), en⟩) (fun _ => k0 _ (s7.trans (same_new hl)))
          · exact iteF (k0 _ s7)
      · refine ⟨_, rfl, _, _, rfl, rfl, _, rfl, iteD (fun e1 => ?_) (fun e1 => ?_)⟩
        · refine ⟨_, rfl, Nat.zero_le _, fun l hl => ⟨_, _, dpl (s6.trans (same_new hl)), .lst (SqL.of upd_same) .nil, shl, she, _, rfl, ?_⟩⟩
          rw [nats_empty]
          exact iteND (fun en => k1 _ ⟨s6.trans (same_new hl), en⟩) (fun _ => k0 _ (s6.trans (same_new hl)))
        · exact iteF (k0 _ s6)
    · refine ⟨_, rfl, _, _, rfl, rfl, _, rfl, iteD (fun e1 => iteT (k1 _ (Same.refl H5))) (fun e1 => ?_)⟩
      refine ⟨_, rfl, Nat.zero_le _, fun l hl => ⟨_, _, dpl (same_new hl), .lst (SqL.of upd_same) .nil, shl, she, _, rfl, ?_⟩⟩
      rw [nats_empty]
      refine iteD (fun en => ?_) (fun en => iteF (k0 _ (same_new hl)))
      exact ⟨_, rfl, _, _, rfl, rfl, _, rfl, iteD (fun _ => k1 _ (same_new hl)) (fun _ => k0 _ (same_new hl))⟩
@[irreducible] def spRun : Sp := fun vs H Q _ => ∃ O p dw v, vs = [.ref dw, v, .int 10] ∧ Al O H ∧ Dr H O dw ∧ PrOk p ∧ Im H (Pr.data p) v ∧ ∀ O1 H1 L rs1 m1, Pl H1 O1 L p dw 10 rs1 m1 → rs1.length < big → Stp dT O H O1 H1 → Q (.ref L.w) H1
theorem sc_l_run : FnScope ["_law_draw_here", "_law_protocol_here", "_law_turns", "_law_world_here"] ["_law_draw_here", "_law_protocol_here", "_law_turns"] (defScope s_l_run) := ⟨rfl, rfl, rfl, by decide +kernel, rfl, by decide +kernel, by decide +kernel⟩
theorem ok_l_run (T : Tx w K mg) : FnI P w K mg base "_law_run" (11 + 1) ["_law_draw_here", "_law_protocol_here", "_law_turns"] spRun := by
  refine FnI.mk' T.f_l_run T.g_l_run sc_l_run (fun _ _ _ _ _ _ us hl => match us, hl with | [_, _, _], _ => rfl) (fun vs H Q E h => ?_) (fun cdv A outer s H vs Q E hr h => ?_)
  all_goals unfold spRun at h
  · obtain ⟨_, _, _, _, rfl, _⟩ := h
    rfl
  · obtain ⟨O, p, dw, v, rfl, al, Dd, ok, hv, fin⟩ := h
    have hu := hu_of hr
    refine ⟨_, (pss_cons (ps_set (i := 3) sc_l_run.nd rfl (.inl rfl) (pe_callI (ok_l_world T) hr (pa_cons (pv 1) pa_nil)))
      (pss_cons (ps_expr (pe_callI (ok_l_play T) hr (pa_cons (pv 0) (pa_cons (pv 3) (pa_cons (pv 2) pa_nil)))))
      (pss_one (ps_ret (pv 3))))), ?_⟩
    have h4 := ok.h2
    have h5 : 4 < big := by decide
    refine ⟨_, rfl, world_w hv al (by omega) fun L O2 H2 W2 S2 => ?_⟩
    have P2 : Pl H2 O2 L p dw 0 [] (Wd.new p) := ⟨W2, .nil, Dd.keep S2 fun z => z rfl, ok, Nat.le_refl _⟩
    refine ⟨_, rfl, _, rfl, _, rfl, ?_⟩
    show spPlay [.ref dw, .ref L.w, .int 10] H2 _ _
    unfold spPlay
    exact ⟨O2, L, p, dw, rfl, P2, fun O3 H3 rs3 m3 P3 h3 S3 => ⟨_, rfl, fin O3 H3 L rs3 m3 P3 h3 (S2.top.trans S3)⟩⟩
theorem run_w {O : Own} {H : Hp} {p : Pr} {dw : Addr} {v : V} {Q : VK} {E : XK} (al : Al O H) (D : Dr H O dw) (ok : PrOk p) (hv : Im H (Pr.data p) v) (fin : ∀ O1 H1 L rs1 m1, Pl H1 O1 L p dw 10 rs1 m1 → rs1.length < big → Stp dT O H O1 H1 → Q (.ref L.w) H1) : spRun [.ref dw, v, .int 10] H Q E := by
  unfold spRun
  exact ⟨O, p, dw, v, rfl, al, D, ok, hv, fin⟩
end
end Sr

set_option Elab.async false
set_option linter.all false
set_option maxRecDepth 100000
set_option maxHeartbeats 4000000
namespace Sr
open PySem PySem.Spec PyProof.Rows L2
local macro_rules | `(tactic| walk_at "hp") => `(tactic| (unfold upd at *; grind))
section
variable {P : Program} {w : World} {base : Heap} {K : PySem.W.Frag} {mg : Str → Option Value}
/-! ### a hand of the package -/
def role6 (r : Str) (g k y : Addr) (fs : List (Str × V)) : List (Str × V) := putF "wishes" (.ref y) (putF "begun" (.int 0) (putF "told" (.int 0) (putF "known" (.ref k) (putF "got" (.ref g) (putF "role" (.str r) fs)))))
@[irreducible] def spRoleP (P : Program) (w : World) (K : PySem.W.Frag) : Sp := fun vs H Q _ => ∃ p dx fs r, vs = [.ref p, .str r] ∧ H p = some (.ins (CH K) dx fs) ∧ fs.length < 900 ∧
  ∀ g k y H', H g = none → H k = none → H y = none → g ≠ k → g ≠ y → k ≠ y → H' p = some (.ins (CH K) dx (role6 r g k y fs)) → H' g = some (.dK []) → H' k = some (.dK []) → H' y = some (.dK []) → (∀ b o, H b = some o → b ≠ p → H' b = some o) → Q .non H'
theorem sc_h_take_role : FnScope ["self", "role"] ["self", "role"] (defScope s_h_take_role) := ⟨rfl, rfl, rfl, by decide +kernel, rfl, by decide +kernel, by decide +kernel⟩
theorem ok_h_take_role (T : Tx w K mg) : MeI P w K mg base (He.ga K "Hand") "take_role" (0 + 1) ["self", "role"] (spRoleP P w K) := by
  refine MeI.mk' T.f_h_take_role T.cl_Hand T.m_Hand_take_role sc_h_take_role (fun _ _ _ _ _ _ us hl => match us, hl with | [_, _], _ => rfl) (fun vs H Q E h => ?_) (fun cdv A outer s H vs Q E hr h => ?_)
  all_goals unfold spRoleP at h
  · obtain ⟨_, _, _, _, rfl, _⟩ := h
    rfl
  · obtain ⟨p, dx, fs, r, rfl, ob, hl, fin⟩ := h
    have hu := hu_of hr
    refine ⟨_, (pss_cons (ps_fld (pv 0) (pv 1) rfl)
      (pss_cons (ps_fld (pv 0) pe_dnewK rfl)
      (pss_cons (ps_fld (pv 0) pe_dnewK rfl)
      (pss_cons (ps_fld (pv 0) pe_int rfl)
      (pss_cons (ps_fld (pv 0) pe_int rfl)
      (pss_one (ps_fld (pv 0) pe_dnewK rfl))))))), ?_⟩
    have l1 := length_putF "role" (.str r) fs
    refine ⟨_, rfl, _, rfl, p, _, _, _, rfl, ob, T.cl_Hand, T.no_Hand_role, by omega, fun g hg => ?_⟩
    have npg : p ≠ g := ne_of_none upd_same hg
    have l2 := length_putF "got" (.ref g) (putF "role" (.str r) fs)
    refine ⟨_, rfl, p, _, _, _, rfl, (by rw [upd_ne npg, upd_same]), T.cl_Hand, T.no_Hand_got, by omega, fun k hk => ?_⟩
    have npk : p ≠ k := ne_of_none upd_same hk
    have ngk : g ≠ k := ne_of_none (by rw [upd_ne npg.symm, upd_same]) hk
    have l3 := length_putF "known" (.ref k) (putF "got" (.ref g) (putF "role" (.str r) fs))
    refine ⟨_, rfl, p, _, _, _, rfl, (by rw [upd_ne npk, upd_same]), T.cl_Hand, T.no_Hand_known, by omega, ?_⟩
    have l4 := length_putF "told" (.int 0) (putF "known" (.ref k) (putF "got" (.ref g) (putF "role" (.str r) fs)))
    refine ⟨_, rfl, p, _, _, _, rfl, upd_same, T.cl_Hand, T.no_Hand_told, by omega, ?_⟩
    have l5 := length_putF "begun" (.int 0) (putF "told" (.int 0) (putF "known" (.ref k) (putF "got" (.ref g) (putF "role" (.str r) fs))))
    refine ⟨_, rfl, p, _, _, _, rfl, upd_same, T.cl_Hand, T.no_Hand_begun, by omega, fun y hy => ?_⟩
    have npy : p ≠ y := ne_of_none upd_same hy
    have ngy : g ≠ y := ne_of_none (by rw [upd_ne npg.symm, upd_ne npg.symm, upd_ne npg.symm, upd_ne ngk, upd_ne npg.symm, upd_same]) hy
    have nky : k ≠ y := ne_of_none (by rw [upd_ne npk.symm, upd_ne npk.symm, upd_ne npk.symm, upd_same]) hy
    refine ⟨_, rfl, p, _, _, _, rfl, (by rw [upd_ne npy, upd_same]), T.cl_Hand, T.no_Hand_wishes, by omega, ?_⟩
    rw [upd_ne npg.symm] at hg
    rw [upd_ne npk.symm, upd_ne ngk.symm, upd_ne npk.symm] at hk
    rw [upd_ne npy.symm, upd_ne npy.symm, upd_ne npy.symm, upd_ne nky.symm, upd_ne npy.symm, upd_ne ngy.symm, upd_ne npy.symm] at hy
    refine fin g k y _ hg hk hy ngk ngy nky upd_same ?_ ?_ ?_ ?_
    · rw [upd_ne npg.symm, upd_ne ngy, upd_ne npg.symm, upd_ne npg.symm, upd_ne npg.symm, upd_ne ngk, upd_ne npg.symm, upd_same]
    · rw [upd_ne npk.symm, upd_ne nky, upd_ne npk.symm, upd_ne npk.symm, upd_ne npk.symm, upd_same]
    · rw [upd_ne npy.symm, upd_same]
    · intro b o e n
      rw [upd_ne n, upd_ne (ne_of_none e hy), upd_ne n, upd_ne n, upd_ne n, upd_ne (ne_of_none e hk), upd_ne n, upd_ne (ne_of_none e hg), upd_ne n]
      exact e
/-- from what has been laid to owners -/
theorem stp3 {O : Own} {H H1 : Hp} {i : Nat} {p g k y : Addr} {op : HO} (al : Al O H) (opp : O p = some (.hand i)) (hg : H g = none) (hk : H k = none) (hy : H y = none) (ngk : g ≠ k) (ngy : g ≠ y) (nky : k ≠ y) (h1 : H1 p = some op) (n1 : NoTup op) (h2 : H1 g = some (.dK [])) (h3 : H1 k = some (.dK [])) (h4 : H1 y = some (.dK []))
    (keep : ∀ b o, H b = some o → b ≠ p → H1 b = some o) : Stp (dH i) O H (updO (updO (updO O g (.got i)) k (.known i)) y (.wishes i)) H1 where
  mono := fun b c e => by
    rw [updO_ne (al.ne e hy), updO_ne (al.ne e hk), updO_ne (al.ne e hg)]
    exact e
  fresh := fun b c e => by
    by_cases q1 : b = y
    · subst q1; rw [updO_same] at e; cases e; exact .inr ⟨hy, rfl⟩
    rw [updO_ne q1] at e
    by_cases q2 : b = k
    · subst q2; rw [updO_same] at e; cases e; exact .inr ⟨hk, rfl⟩
    rw [updO_ne q2] at e
    by_cases q3 : b = g
    · subst q3; rw [updO_same] at e; cases e; exact .inr ⟨hg, rfl⟩
    rw [updO_ne q3] at e
    exact .inl e
  keep := fun b o e z => keep b o e fun q => by subst q; rw [opp] at z; cases z
  only := fun b c e n => by
    obtain ⟨o, q, _⟩ := al b c e
    rw [q]
    refine keep b o q fun q => ?_
    subst q
    rw [opp] at e
    cases e
    exact n rfl
  al := fun b c e => by
    by_cases q1 : b = y
    · subst q1; exact ⟨_, h4, noTup_dK⟩
    rw [updO_ne q1] at e
    by_cases q2 : b = k
    · subst q2; exact ⟨_, h3, noTup_dK⟩
    rw [updO_ne q2] at e
    by_cases q3 : b = g
    · subst q3; exact ⟨_, h2, noTup_dK⟩
    rw [updO_ne q3] at e
    by_cases q4 : b = p
    · subst q4; exact ⟨_, h1, n1⟩
    obtain ⟨o, q, n⟩ := al b c e
    exact ⟨o, keep b o q q4, n⟩
section
variable {O : Own} {H : Hp} {L : WL} {m : Wd} {rs : List Dd} {i : Nat} {p : Addr} {h : Hd} {M : HL} {Q : VK} {E : XK}
theorem role_h (B : HandIn (.prog P w K) H O i p h M) (al : Al O H) (ro : Role) (c : ∀ O1 H1 M1, HandIn (.prog P w K) H1 O1 i p (h.to ro) M1 → Stp (dH i) O H O1 H1 → Q .non H1) : spRoleP P w K [.ref p, .str ro.str] H Q E := by
  unfold spRoleP
  obtain ⟨dx, ob⟩ := B.ob
  refine ⟨p, dx, _, _, rfl, ob, by show 10 < 900; decide, fun g k y H1 hg hk hy ngk ngy nky h1 h2 h3 h4 keep => ?_⟩
  have s := stp3 (i := i) al B.op hg hk hy ngk ngy nky h1 noTup_ins h2 h3 h4 keep
  refine c _ _ ⟨M.l, g, k, y, []⟩ ?_ s
  exact {
    ob := ⟨dx, h1⟩
    op := s.mono _ _ B.op
    log := Im.keep (s.tk al) _ _ B.log
    got := h2
    og := by rw [updO_ne ngy, updO_ne ngk, updO_same]
    kn := h3
    ok := by rw [updO_ne nky, updO_same]
    ws := rfl
    wi := h4
    ow := updO_same
    sn := fun x hx => nomatch hx }
theorem role_p (B : At (.prog P w K) H O L m rs i p h M) (ro : Role) (c : ∀ O1 H1 M1, At (.prog P w K) H1 O1 L m rs i p (h.to ro) M1 → Stp (dH i) O H O1 H1 → Q .non H1) : spRoleP P w K [.ref p, .str ro.str] H Q E :=
  role_h B.h B.al ro fun O1 H1 M1 B1 s => c O1 H1 M1 (B.mov (D := dH i) s B1) s
end
@[irreducible] def spRest (P : Program) (w : World) (K : PySem.W.Frag) : Sp := fun vs H Q _ => ∃ p dx fs, vs = [.ref p] ∧ H p = some (.ins (CH K) dx fs) ∧ fs.lookup ("take_role" : Str) = none ∧ ∀ E, spRoleP P w K [.ref p, .str "rests"] H (fun _ H1 => Q .non H1) E
theorem sc_h_rest : FnScope ["self"] ["self"] (defScope s_h_rest) := ⟨rfl, rfl, rfl, by decide +kernel, rfl, by decide +kernel, by decide +kernel⟩
theorem ok_h_rest (T : Tx w K mg) : MeI P w K mg base (He.ga K "Hand") "rest" (1 + 1) ["self"] (spRest P w K) := by
  refine MeI.mk' T.f_h_rest T.cl_Hand T.m_Hand_rest sc_h_rest (fun _ _ _ _ _ _ us hl => match us, hl with | [_], _ => rfl) (fun vs H Q E h => ?_) (fun cdv A outer s H vs Q E hr h => ?_)
  all_goals unfold spRest at h
  · obtain ⟨_, _, _, rfl, _⟩ := h
    rfl
  · obtain ⟨p, dx, fs, rfl, ob, no, fin⟩ := h
    have hu := hu_of hr
    refine ⟨_, (pss_one (ps_expr (pe_methI (ok_h_take_role T) hr (pv 0) (pa_cons pe_str pa_nil)))), ?_⟩
    refine ⟨_, rfl, p, dx, fs, rfl, ob, no, ?_⟩
    exact fin _
theorem rest_p {O : Own} {H : Hp} {L : WL} {m : Wd} {rs : List Dd} {i : Nat} {p : Addr} {h : Hd} {M : HL} {Q : VK} {E : XK} (B : At (.prog P w K) H O L m rs i p h M) (c : ∀ O1 H1 M1, At (.prog P w K) H1 O1 L m rs i p (h.to .rests) M1 → Stp (dH i) O H O1 H1 → Q .non H1) : spRest P w K [.ref p] H Q E := by
  unfold spRest
  obtain ⟨dx, ob⟩ := B.h.ob
  exact ⟨p, dx, _, rfl, ob, rfl, fun E => role_p B .rests c⟩
/-! the last pair -/
@[irreducible] def spPairP (P : Program) (w : World) (K : PySem.W.Frag) : Sp := fun vs H Q _ => ∃ O i p h M, vs = [.ref p] ∧ HandIn (.prog P w K) H O i p h M ∧ ∀ T H', Same H H' → H' T = some (.tup [nv h.pair.1, nv h.pair.2]) → Q (.ref T) H'
theorem sc_h_pair : FnScope ["self"] ["self"] (defScope s_h_pair) := ⟨rfl, rfl, rfl, by decide +kernel, rfl, by decide +kernel, by decide +kernel⟩
theorem ok_h_pair (T : Tx w K mg) : MeI P w K mg base (He.ga K "Hand") "pair" (0 + 1) ["self"] (spPairP P w K) := by
  refine MeI.mk' T.f_h_pair T.cl_Hand T.m_Hand_pair sc_h_pair (fun _ _ _ _ _ _ us hl => match us, hl with | [_], _ => rfl) (fun vs H Q E h => ?_) (fun cdv A outer s H vs Q E hr h => ?_)
  all_goals unfold spPairP at h
  · obtain ⟨_, _, _, _, _, rfl, _⟩ := h
    rfl
  · obtain ⟨O, i, p, h, M, rfl, W, c⟩ := h
    have hu := hu_of hr
    have hu64 := hr.units
    refine ⟨_, (pss_one (ps_ret (pe_ifExp (pt_cmpR (op_neD hu64) (fldK K (pv 0)) (pe_tup pa_nil) (nomark _)) (pe_tup (pa_cons (pe_ix (ixT K) (pe_ix (ixT K) (fldK K (pv 0)) (pe_un un_neg pe_int) (fun _ _ => rfl)) pe_int (fun _ _ => rfl)) (pa_cons (pe_callB (id := "len") (lenK K) (by rfl) T.n_len (by decide +kernel) (pa_cons (fldK K (pv 0)) pa_nil)) pa_nil))) (pe_tup (pa_cons pe_int (pa_cons pe_int pa_nil)))))), ?_⟩
    obtain ⟨xs, hx, hlog⟩ := im_logr.mp W.log
    obtain ⟨dx, ob⟩ := W.ob
    refine ⟨_, rfl, p, _, _, _, _, rfl, ob, T.cl_Hand, T.no_Hand_log, fl_log, Nat.zero_le _, fun q hq => ?_⟩
    have Sm : Same H (upd H q (.tup [])) := same_new hq
    have ob' := Sm _ _ ob
    have hx' := Sm _ _ hx
    refine ⟨logD h.log, .tuple [], Im.dp _ _ (Im.keep (same_tk Sm) _ _ W.log), Im.dp _ _ (Im.tup' upd_same ImAll.nil'), (sh_log (n := 0) _).ok, (sh_empty (n := 0)).ok, _, rfl, ?_⟩
    rw [log_empty]
    refine iteND (fun e => ?_) (fun e => ?_)
    · have hl : h.log.length - 1 < h.log.length := by
        cases q : h.log with
        | nil => exact (e q).elim
        | cons => simp
      obtain ⟨r, hr1, hr2⟩ := hlog.get hl
      have hr3 : xs[xs.length - 1]? = some (.ref r) := by rw [hlog.length]; exact hr1
      refine ⟨_, rfl, p, _, _, _, _, rfl, ob', T.cl_Hand, T.no_Hand_log, fl_log, _, rfl, _, xs, _, _, rfl, rfl, SqT.of hx', atI_neg hr3, r, _, 0, _, rfl, rfl, SqT.of (Sm _ _ hr2), rfl, _, rfl, p, _, _, _, _, rfl, ob', T.cl_Hand, T.no_Hand_log, fl_log, _, xs, rfl, .inr (SqT.of hx'), ?_⟩
      refine ⟨by show 2 ≤ sizeLine; decide, fun T1 hT => ?_⟩
      refine c T1 _ (Sm.trans (same_new hT)) ?_
      rw [upd_same, Hd.pair_at e, hlog.length]
    · refine ⟨by show 2 ≤ sizeLine; decide, fun T1 hT => ?_⟩
      refine c T1 _ (Sm.trans (same_new hT)) ?_
      rw [upd_same, Hd.pair_nil e] <;> rfl
theorem pair_p {O : Own} {H : Hp} {i : Nat} {p : Addr} {h : Hd} {M : HL} {Q : VK} {E : XK} (B : HandIn (.prog P w K) H O i p h M) (c : ∀ T H1, Same H H1 → H1 T = some (.tup [nv h.pair.1, nv h.pair.2]) → Q (.ref T) H1) : spPairP P w K [.ref p] H Q E := by
  unfold spPairP
  exact ⟨O, i, p, h, M, rfl, B, c⟩
/-! a greater term -/
@[irreducible] def spRise (P : Program) (w : World) (K : PySem.W.Frag) : Sp := fun vs H Q _ => ∃ O L m rs i p h M t, vs = [.ref p, nv t] ∧ At (.prog P w K) H O L m rs i p h M ∧ ∀ O1 H1 M1, At (.prog P w K) H1 O1 L m rs i p (h.rise t) M1 → Stp (dH i) O H O1 H1 → Q .non H1
theorem sc_h_rise : FnScope ["self", "term"] ["self", "term"] (defScope s_h_rise) := ⟨rfl, rfl, rfl, by decide +kernel, rfl, by decide +kernel, by decide +kernel⟩
theorem ok_h_rise (T : Tx w K mg) : MeI P w K mg base (He.ga K "Hand") "rise" (2 + 1) ["self", "term"] (spRise P w K) := by
  refine MeI.mk' T.f_h_rise T.cl_Hand T.m_Hand_rise sc_h_rise (fun _ _ _ _ _ _ us hl => match us, hl with | [_, _], _ => rfl) (fun vs H Q E h => ?_) (fun cdv A outer s H vs Q E hr h => ?_)
  all_goals unfold spRise at h
  · obtain ⟨_, _, _, _, _, _, _, _, _, rfl, _⟩ := h
    rfl
  · obtain ⟨O, L, m, rs, i, p, h, M, t, rfl, B, fin⟩ := h
    have hu := hu_of hr
    refine ⟨_, (pss_cons (ps_fld (pv 0) (pv 1) rfl)
      (pss_cons (ps_fld (pv 0) pe_non rfl)
      (pss_one (ps_expr (pe_methI0 (ok_h_rest T) hr (pv 0)))))), ?_⟩
    obtain ⟨dx, ob⟩ := B.h.ob
    obtain ⟨B1, S1⟩ := B.putProg dx { h with term := t } M.l B.h.log
    refine ⟨_, rfl, _, rfl, p, _, _, _, rfl, ob, T.cl_Hand, T.no_Hand_term, by show 10 < 1000; decide, ?_⟩
    obtain ⟨B2, S2⟩ := B1.putProg dx { h with term := t, vote := none } M.l B1.h.log
    refine ⟨_, rfl, p, _, _, _, rfl, upd_same, T.cl_Hand, T.no_Hand_vote, by show 10 < 1000; decide, ?_⟩
    obtain ⟨dx2, ob2⟩ := B2.h.ob
    refine ⟨_, rfl, p, _, _, rfl, upd_same, rfl, rest_p B2 fun O3 H3 M3 B3 S3 => ?_⟩
    exact fin O3 H3 M3 B3 (S1.trans (S2.trans S3))
theorem rise_p {O : Own} {H : Hp} {L : WL} {m : Wd} {rs : List Dd} {i t : Nat} {p : Addr} {h : Hd} {M : HL} {Q : VK} {E : XK} (B : At (.prog P w K) H O L m rs i p h M) (c : ∀ O1 H1 M1, At (.prog P w K) H1 O1 L m rs i p (h.rise t) M1 → Stp (dH i) O H O1 H1 → Q .non H1) : spRise P w K [.ref p, nv t] H Q E := by
  unfold spRise
  exact ⟨O, L, m, rs, i, p, h, M, t, rfl, B, c⟩
/-! a new hand -/
@[irreducible] def spInit (P : Program) (w : World) (K : PySem.W.Frag) : Sp := fun vs H Q _ => ∃ p dx, vs = [.ref p] ∧ H p = some (.ins (CH K) dx []) ∧
  ∀ l g k y H', H l = none → H g = none → H k = none → H y = none → ([l, g, k, y] : List Addr).Nodup → H' p = some (.ins (CH K) dx (rh Hd.new ⟨l, g, k, y, []⟩).fs) → H' l = some (.tup []) → H' g = some (.dK []) → H' k = some (.dK []) → H' y = some (.dK []) → (∀ b o, H b = some o → b ≠ p → H' b = some o) → Q .non H'
theorem sc_h_init : FnScope ["self"] ["self"] (defScope s_h_init) := ⟨rfl, rfl, rfl, by decide +kernel, rfl, by decide +kernel, by decide +kernel⟩
theorem ok_h_init (T : Tx w K mg) : MkI P w K mg base "Hand" (He.ga K "Hand") (2 + 1) ["self"] (spInit P w K) := by
  refine MkI.mk' T.f_h_init T.g_Hand T.mk_Hand sc_h_init (fun _ _ _ _ _ _ us hl => match us, hl with | [_], _ => rfl) (fun vs H Q E h => ?_) (fun cdv A outer s H vs Q E hr h => ?_)
  all_goals unfold spInit at h
  · obtain ⟨_, _, rfl, _⟩ := h
    rfl
  · obtain ⟨p, dx, rfl, ob, fin⟩ := h
    have hu := hu_of hr
    refine ⟨_, (pss_cons (ps_fld (pv 0) pe_int rfl)
      (pss_cons (ps_fld (pv 0) pe_non rfl)
      (pss_cons (ps_fld (pv 0) (pe_tup pa_nil) rfl)
      (pss_cons (ps_fld (pv 0) pe_int rfl)
      (pss_one (ps_expr (pe_methI0 (ok_h_rest T) hr (pv 0)))))))), ?_⟩
    refine ⟨_, rfl, p, _, _, _, rfl, ob, T.cl_Hand, T.no_Hand_term, by decide, ?_⟩
    refine ⟨_, rfl, p, _, _, _, rfl, upd_same, T.cl_Hand, T.no_Hand_vote, by show 1 < 1000; decide, Nat.zero_le _, fun l hl => ?_⟩
    have npl : p ≠ l := ne_of_none upd_same hl
    refine ⟨_, rfl, p, _, _, _, rfl, (by rw [upd_ne npl, upd_same]), T.cl_Hand, T.no_Hand_log, by show 2 < 1000; decide, ?_⟩
    refine ⟨_, rfl, p, _, _, _, rfl, upd_same, T.cl_Hand, T.no_Hand_sure, by show 3 < 1000; decide, ?_⟩
    refine ⟨_, rfl, p, _, _, rfl, upd_same, rfl, ?_⟩
    show spRest P w K [.ref p] _ _ _
    unfold spRest
    refine ⟨p, _, _, rfl, upd_same, rfl, fun E => ?_⟩
    unfold spRoleP
    refine ⟨p, _, _, _, rfl, upd_same, by show 4 < 900; decide, fun g k y H1 hg hk hy ngk ngy nky h1 h2 h3 h4 keep => ?_⟩
    have back : ∀ {b : Addr}, (upd (upd (upd (upd (upd H p (.ins (CH K) dx (putF "term" (.int 0) []))) p (.ins (CH K) dx (putF "vote" .non (putF "term" (.int 0) [])))) l (.tup [])) p (.ins (CH K) dx (putF "log" (.ref l) (putF "vote" .non (putF "term" (.int 0) []))))) p (.ins (CH K) dx (putF "sure" (.int 0) (putF "log" (.ref l) (putF "vote" .non (putF "term" (.int 0) [])))))) b = none → H b = none ∧ b ≠ l := fun {b} e => by
      have n1 : b ≠ p := fun z => by subst z; rw [upd_same] at e; cases e
      rw [upd_ne n1, upd_ne n1] at e
      have n2 : b ≠ l := fun z => by subst z; rw [upd_same] at e; cases e
      rw [upd_ne n2, upd_ne n1, upd_ne n1] at e
      exact ⟨e, n2⟩
    obtain ⟨g0, gl⟩ := back hg
    obtain ⟨k0, kl⟩ := back hk
    obtain ⟨y0, yl⟩ := back hy
    rw [upd_ne npl.symm, upd_ne npl.symm] at hl
    refine fin l g k y H1 hl g0 k0 y0 ?_ h1 ?_ h2 h3 h4 ?_
    · simp only [List.nodup_cons, List.mem_cons, List.not_mem_nil, or_false, not_or, not_false_eq_true, List.nodup_nil, and_true]
      exact ⟨⟨gl.symm, kl.symm, yl.symm⟩, ⟨ngk, ngy⟩, nky⟩
    · refine keep l _ ?_ npl.symm
      rw [upd_ne npl.symm, upd_ne npl.symm, upd_same]
    · intro b o e n
      refine keep b o ?_ n
      rw [upd_ne n, upd_ne n, upd_ne (ne_of_none e hl), upd_ne n, upd_ne n]
      exact e
end
end Sr

set_option Elab.async false
set_option linter.all false
set_option maxRecDepth 100000
set_option maxHeartbeats 4000000
namespace Sr
open PySem PySem.Spec PyProof.Rows L2
local macro_rules | `(tactic| walk_at "hp") => `(tactic| (unfold upd at *; grind))
section
variable {P : Program} {w : World} {base : Heap} {K : PySem.W.Frag} {mg : Str → Option Value}
@[irreducible] def spHasP (P : Program) (w : World) (K : PySem.W.Frag) : Sp := fun vs H Q _ => ∃ O L m rs r, vs = [.ref (WL.w L), .str r] ∧ WorldIn (.prog P w K) H O L m rs ∧ Q (.bl (m.pr.has r)) H
theorem sc_w_has : FnScope ["self", "rule"] ["self", "rule"] (defScope s_w_has) := ⟨rfl, rfl, rfl, by decide +kernel, rfl, by decide +kernel, by decide +kernel⟩
theorem ok_w_has (T : Tx w K mg) : MeI P w K mg base (He.ga K "World") "has" (0 + 1) ["self", "rule"] (spHasP P w K) := by
  refine MeI.mk' T.f_w_has T.cl_World T.m_World_has sc_w_has (fun _ _ _ _ _ _ us hl => match us, hl with | [_, _], _ => rfl) (fun vs H Q E h => ?_) (fun cdv A outer s H vs Q E hr h => ?_)
  all_goals unfold spHasP at h
  · obtain ⟨_, _, _, _, _, rfl, _⟩ := h
    rfl
  · obtain ⟨O, L, m, rs, r, rfl, W, fin⟩ := h
    have hu := hu_of hr
    refine ⟨_, (pss_one (ps_ret (pe_cmpR op_in_seq (pv 1) (pe_ix (ixT K) (fldK K (pv 0)) pe_int (fun _ _ => rfl)) rfl))), ?_⟩
    obtain ⟨dx, q, xs, wob, _⟩ := W.ob
    obtain ⟨a, q2, e, h1, h2⟩ := im_pr.mp W.pr
    refine ⟨_, rfl, _, rfl, L.w, _, _, _, _, rfl, wob, T.cl_World, T.no_World_protocol, fw_protocol, _, _, 5, _, e, rfl, SqT.of h1, rfl, q2, _, rfl, .inr (SqT.of h2), rfl, flat_strs _, ?_⟩
    show Q (.bl (inV (.str r) (m.pr.rules.map V.str))) H
    rw [inV_strs]
    exact fin
theorem has_p {O : Own} {H : Hp} {L : WL} {m : Wd} {rs : List Dd} {r : Str} {Q : VK} {E : XK} (W : WorldIn (.prog P w K) H O L m rs) (k : Q (.bl (m.pr.has r)) H) : spHasP P w K [.ref L.w, .str r] H Q E := by
  unfold spHasP
  exact ⟨O, L, m, rs, r, rfl, W, k⟩
/-! a letter is sent -/
def d3 : Cell → Prop := fun c => c = .lts ∨ c = .run ∨ c = .posted
theorem lt_depth (l : Lt) : l.data.depth ≤ 8 := Nat.le_trans (sh_lt l).2 (by decide)
theorem keys_at {H : Hp} : ∀ {ls : List Lt} {as : List Addr}, ImAll H (ls.map Lt.data) (as.map V.ref) → KeysAt H ((ls.map fun l => keyOf l.data).zip as)
  | [], as, _ => fun p hp => by cases hp
  | l :: ls, [], h => fun p hp => by simp at hp
  | l :: ls, a :: as, h => by
    simp only [List.map_cons, ImAll] at h
    obtain ⟨v, r, e, h1, h2⟩ := h
    cases e
    intro p hp
    rw [List.map_cons, List.zip_cons_cons] at hp
    rcases List.mem_cons.mp hp with rfl | z
    · exact ⟨_, h1, rfl, lt_depth l⟩
    · exact keys_at h2 p z
theorem zip_fst {α β : Type} : ∀ {xs : List α} {ys : List β}, xs.length = ys.length → (xs.zip ys).map (·.1) = xs
  | [], _, _ => by simp
  | x :: xs, [], h => by simp at h
  | x :: xs, y :: ys, h => by
    rw [List.zip_cons_cons, List.map_cons, zip_fst (Nat.succ.inj h)]
@[irreducible] def spPostP (P : Program) (w : World) (K : PySem.W.Frag) : Sp := fun vs H Q _ => ∃ O L m rs l v, vs = [.ref (WL.w L), v] ∧ WorldIn (.prog P w K) H O L m rs ∧ Im H (Lt.data l) v ∧ m.lts.length < big ∧ rs.length < big ∧
  ∀ H' rs', rs'.length ≤ rs.length + 1 → WorldIn (.prog P w K) H' O L (m.post l) rs' → Stp dA O H O H' → Q .non H'
theorem sc_w_post : FnScope ["self", "letter"] ["self", "letter"] (defScope s_w_post) := ⟨rfl, rfl, rfl, by decide +kernel, rfl, by decide +kernel, by decide +kernel⟩
theorem ok_w_post (T : Tx w K mg) : MeI P w K mg base (He.ga K "World") "post" (0 + 1) ["self", "letter"] (spPostP P w K) := by
  refine MeI.mk' T.f_w_post T.cl_World T.m_World_post sc_w_post (fun _ _ _ _ _ _ us hl => match us, hl with | [_, _], _ => rfl) (fun vs H Q E h => ?_) (fun cdv A outer s H vs Q E hr h => ?_)
  all_goals unfold spPostP at h
  · obtain ⟨_, _, _, _, _, _, rfl, _⟩ := h
    rfl
  · obtain ⟨O, L, m, rs, l, v, rfl, W, hv, hb, hb2, fin⟩ := h
    have hu := hu_of hr
    have hu64 := hr.units
    refine ⟨_, (pss_cons (ps_expr (pe_bm PySem.F.plainAttrs_list PySem.F.slot_list_append PySem.F.type_list_append mt_append (fldK K (pv 0)) (pa_cons (pv 1) pa_nil)))
      (pss_one (ps_if (pt_cmp (pc_nnotin hu64 (pv 1) (fldK K (pv 0)))) (pss_cons (ps_nput hu64 (fldK K (pv 0)) (pv 1) (pe_callB (id := "len") (lenK K) (by rfl) T.n_len (by decide +kernel) (pa_cons (fldK K (pv 0)) pa_nil)))
      (pss_one (ps_expr (pe_bm PySem.F.plainAttrs_list PySem.F.slot_list_append PySem.F.type_list_append mt_append (fldK K (pv 0)) (pa_cons (pv 1) pa_nil))))) pss_nil))), ?_⟩
    obtain ⟨dx, q, xs, wob, hq, hxl, oq⟩ := W.ob
    obtain ⟨b, ys, rfl, _⟩ := im_word hv
    obtain ⟨as, la, lb, hx⟩ := W.lts
    have las : as.length = m.lts.length := by
      have := lb.length
      rw [List.length_map, List.length_map] at this
      exact this
    refine ⟨_, rfl, L.w, _, _, _, _, rfl, wob, T.cl_World, T.no_World_posted, fw_posted, .inl ⟨rfl, _, SqL.of hq⟩, _, rfl, _, _, _, rfl, rfl, hq, by rw [hxl]; exact big_line hb2, ?_⟩
    have S1 : Stp d3 O H O (upd H q (.lst (xs ++ [.ref b]))) := Stp.put W.al oq (.inr (.inr rfl)) noTup_lst
    have q1 : (upd H q (.lst (xs ++ [.ref b]))) q = some (.lst (xs ++ [.ref b])) := upd_same
    have wob1 : (upd H q (.lst (xs ++ [.ref b]))) L.w = _ := (upd_ne (own_ne W.ow oq (by intro z; cases z))).trans wob
    have hx1 : (upd H q (.lst (xs ++ [.ref b]))) L.x = _ := (upd_ne (own_ne W.ox oq (by intro z; cases z))).trans hx
    have la1 : (upd H q (.lst (xs ++ [.ref b]))) L.lts = _ := (upd_ne (own_ne W.olts oq (by intro z; cases z))).trans la
    generalize upd H q (.lst (xs ++ [.ref b])) = H1 at *
    have lb1 := ImAll.keep (S1.tk W.al) _ _ lb
    have hv1 := Im.keep (S1.tk W.al) _ _ hv
    have ek : (((m.lts.map fun l => keyOf l.data).zip as).map (·.1)) = m.lts.map fun l => keyOf l.data := zip_fst (by rw [List.length_map, las])
    have all : ∀ c : Cell, d3 c → c ≠ .draw := by
      rintro c (rfl | rfl | rfl) z <;> cases z
    have hxs : (xs ++ [V.ref b]).length = rs.length + 1 := by rw [List.length_append, hxl]; rfl
    have n3 : ∀ c : Cell, c ≠ .lts → c ≠ .run → c ≠ .posted → ¬ d3 c := fun c a b d z => by rcases z with z | z | z <;> contradiction
    have ix : ∀ c : Cell, c.ix ≠ none → ¬ d3 c := fun c a z => by rcases z with rfl | rfl | rfl <;> exact a rfl
    refine ⟨_, rfl, _, rfl, L.w, _, _, _, _, rfl, wob1, T.cl_World, T.no_World_numbers, fw_numbers, L.x, b, _, l.data, rfl, rfl, hx1, keys_at lb1, hv1, lt_depth l, _, rfl, ?_⟩
    rw [ek]
    refine iteND (fun e => ?_) (fun e => ?_)
    · have nm : l ∉ m.lts := fun z => e ((key_mem l m.lts).mpr z)
      refine ⟨_, rfl, L.w, _, _, _, _, rfl, wob1, T.cl_World, T.no_World_bag, fw_bag, _, _, rfl, .inl (SqL.of la1), _, rfl, L.w, _, _, _, _, rfl, wob1, T.cl_World, T.no_World_numbers, fw_numbers, _, rfl, L.x, b, _, l.data, rfl, rfl, hx1, keys_at lb1, hv1, lt_depth l, by rw [ek]; exact e, ?_, ?_⟩
      · rw [List.length_zip, List.length_map, las, Nat.min_self]
        exact big_line hb
      have S2 : Stp d3 O H1 O (upd H1 L.x (NestO P w L.x ((m.lts.map fun l => keyOf l.data).zip as ++ [(keyOf l.data, b)]))) := Stp.put S1.al W.ox (.inr (.inl rfl)) noTup_nest
      have wob2 : (upd H1 L.x (NestO P w L.x ((m.lts.map fun l => keyOf l.data).zip as ++ [(keyOf l.data, b)]))) L.w = _ := (upd_ne (own_ne W.ow W.ox (by intro z; cases z))).trans wob1
      have la2 : (upd H1 L.x (NestO P w L.x ((m.lts.map fun l => keyOf l.data).zip as ++ [(keyOf l.data, b)]))) L.lts = _ := (upd_ne (own_ne W.olts W.ox (by intro z; cases z))).trans la1
      refine ⟨_, rfl, L.w, _, _, _, _, rfl, wob2, T.cl_World, T.no_World_bag, fw_bag, .inl ⟨rfl, _, SqL.of la2⟩, _, rfl, _, _, _, rfl, rfl, la2, by rw [List.length_map, las]; exact big_line hb, ?_⟩
      have S3 : Stp d3 O (upd H1 L.x (NestO P w L.x ((m.lts.map fun l => keyOf l.data).zip as ++ [(keyOf l.data, b)]))) O (upd (upd H1 L.x (NestO P w L.x ((m.lts.map fun l => keyOf l.data).zip as ++ [(keyOf l.data, b)]))) L.lts (.lst (as.map V.ref ++ [.ref b]))) := Stp.put S2.al W.olts (.inl rfl) noTup_lst
      have S := S1.trans (S2.trans S3)
      have em : m.post l = { m with lts := m.lts ++ [l] } := by simp [Wd.post, nm]
      rw [em] at fin
      have nqw : q ≠ L.x := own_ne oq W.ox (by intro z; cases z)
      have nql : q ≠ L.lts := own_ne oq W.olts (by intro z; cases z)
      refine fin _ (rs ++ [.stand 0]) (by rw [List.length_append]; exact Nat.le_refl _) ?_ (S.wide all)
      refine W.rest S rfl rfl ix (n3 _ (by intro z; cases z) (by intro z; cases z) (by intro z; cases z)) ?_ ?_ (W.leads_k S (n3 _ (by intro z; cases z) (by intro z; cases z) (by intro z; cases z))) (W.settles_k S (n3 _ (by intro z; cases z) (by intro z; cases z) (by intro z; cases z)))
        (W.answers_k S (n3 _ (by intro z; cases z) (by intro z; cases z) (by intro z; cases z))) (W.acts_k S (n3 _ (by intro z; cases z) (by intro z; cases z) (by intro z; cases z))) (W.asked_k S (n3 _ (by intro z; cases z) (by intro z; cases z) (by intro z; cases z)))
      · refine ⟨dx, q, xs ++ [.ref b], ?_, ?_, ?_, oq⟩
        · rw [upd_ne (own_ne W.ow W.olts (by intro z; cases z))]
          exact wob2
        · rw [upd_ne nql, upd_ne nqw]
          exact q1
        · rw [hxs, List.length_append]; rfl
      · refine ⟨as ++ [b], by rw [upd_same, List.map_append]; rfl, ?_, ?_⟩
        · rw [List.map_append, List.map_append]
          exact ImAll.append (ImAll.keep (S.tk W.al) _ _ lb) (ImAll.one (Im.keep (S.tk W.al) _ _ hv))
        · show _ = _
          rw [upd_ne (own_ne W.ox W.olts (by intro z; cases z)), upd_same, List.map_append, List.zip_append (by rw [List.length_map, las])]
          rfl
    · have hm : l ∈ m.lts := (key_mem l m.lts).mp e
      have em : m.post l = m := by simp [Wd.post, hm]
      rw [em] at fin
      refine fin _ (rs ++ [.stand 0]) (by rw [List.length_append]; exact Nat.le_refl _) ?_ (S1.wide all)
      refine W.rest S1 rfl rfl ix (n3 _ (by intro z; cases z) (by intro z; cases z) (by intro z; cases z)) ?_ ⟨as, la1, lb1, hx1⟩ (W.leads_k S1 (n3 _ (by intro z; cases z) (by intro z; cases z) (by intro z; cases z))) (W.settles_k S1 (n3 _ (by intro z; cases z) (by intro z; cases z) (by intro z; cases z)))
        (W.answers_k S1 (n3 _ (by intro z; cases z) (by intro z; cases z) (by intro z; cases z))) (W.acts_k S1 (n3 _ (by intro z; cases z) (by intro z; cases z) (by intro z; cases z))) (W.asked_k S1 (n3 _ (by intro z; cases z) (by intro z; cases z) (by intro z; cases z)))
      exact ⟨dx, q, _, wob1, q1, by rw [hxs, List.length_append]; rfl, oq⟩
theorem post_p {O : Own} {H : Hp} {L : WL} {m : Wd} {rs : List Dd} {l : Lt} {v : V} {Q : VK} {E : XK} (W : WorldIn (.prog P w K) H O L m rs) (hv : Im H (Lt.data l) v) (hb : m.lts.length < big) (hb2 : rs.length < big)
    (fin : ∀ H' rs', rs'.length ≤ rs.length + 1 → WorldIn (.prog P w K) H' O L (m.post l) rs' → Stp dA O H O H' → Q .non H') : spPostP P w K [.ref L.w, v] H Q E := by
  unfold spPostP
  exact ⟨O, L, m, rs, l, v, rfl, W, hv, hb, hb2, fin⟩
/-! a hand becomes sure -/
@[irreducible] def spActP (P : Program) (w : World) (K : PySem.W.Frag) : Sp := fun vs H Q _ => ∃ O L m rs i p c, vs = [.ref (WL.w L), .ref p, nv i, nv c] ∧ WorldIn (.prog P w K) H O L m rs ∧ L.ps[i]? = some p ∧ m.acts.length < big ∧ ∀ H', WorldIn (.prog P w K) H' O L (m.act i c) rs → Stp dA O H O H' → Q .non H'
theorem sc_w_act : FnScope ["self", "hand", "number", "count"] ["self", "hand", "number", "count"] (defScope s_w_act) := ⟨rfl, rfl, rfl, by decide +kernel, rfl, by decide +kernel, by decide +kernel⟩
theorem ok_w_act (T : Tx w K mg) : MeI P w K mg base (He.ga K "World") "act" (0 + 1) ["self", "hand", "number", "count"] (spActP P w K) := by
  refine MeI.mk' T.f_w_act T.cl_World T.m_World_act sc_w_act (fun _ _ _ _ _ _ us hl => match us, hl with | [_, _, _, _], _ => rfl) (fun vs H Q E h => ?_) (fun cdv A outer s H vs Q E hr h => ?_)
  all_goals unfold spActP at h
  · obtain ⟨_, _, _, _, _, _, _, rfl, _⟩ := h
    rfl
  · obtain ⟨O, L, m, rs, i, p, c, rfl, W, hp, hb, fin⟩ := h
    have hu := hu_of hr
    refine ⟨_, (pss_one (ps_if (pt_cmpR op_gt (pv 3) (fldK K (pv 1)) (nomark _)) (pss_cons (ps_fld (pv 1) (pv 3) rfl)
      (pss_one (ps_expr (pe_bm PySem.F.plainAttrs_list PySem.F.slot_list_append PySem.F.type_list_append mt_append (fldK K (pv 0)) (pa_cons (pe_tup (pa_cons (pv 2) (pa_cons (pe_slice (slT K) (fldK K (pv 1)) po_none (po_some (pv 3))) pa_nil))) pa_nil))))) pss_nil)), ?_⟩
    obtain ⟨M, HW⟩ := W.hd i p hp
    obtain ⟨dx, ob⟩ := HW.ob
    obtain ⟨xs, hx, hlog⟩ := im_logr.mp HW.log
    refine ⟨_, rfl, _, rfl, p, _, _, _, _, rfl, ob, T.cl_Hand, T.no_Hand_sure, fl_sure, _, _, rfl, rfl, _, rfl, iteD (fun e => ?_) (fun e => ?_)⟩
    · have e : (m.hd i).sure < c := by omega
      obtain ⟨HW2, S1⟩ := HW.putProg W.al dx { m.hd i with sure := c } M.l HW.log
      have W2 := W.hand hp S1 ⟨_, HW2⟩
      obtain ⟨dw, q, ys, wob2, _⟩ := W2.ob
      obtain ⟨vs, h1, h2⟩ := W2.acts
      obtain ⟨xs2, hx2, hl2⟩ := im_logr.mp HW2.log
      refine ⟨_, rfl, _, rfl, p, _, _, _, rfl, ob, T.cl_Hand, T.no_Hand_sure, by show 10 < 1000; decide, ?_⟩
      refine ⟨_, rfl, L.w, _, _, _, _, rfl, wob2, T.cl_World, T.no_World_acts, fw_acts, .inl ⟨rfl, _, SqL.of h1⟩, _, rfl, _, rfl, p, _, _, _, _, rfl, upd_same, T.cl_Hand, T.no_Hand_log, rfl, _, rfl, _, rfl, ?_⟩
      refine slice_to c hx2 hl2 fun q H2 s2 him => ?_
      refine ⟨by show 2 ≤ sizeLine; decide, fun T1 hT => ?_⟩
      have s3 := s2.trans (same_new (o := .tup [nv i, .ref q]) hT)
      have W3 := W2.same s3
      have hlen : vs.length < sizeLine := by
        have := h2.length
        rw [List.length_map] at this
        rw [this]
        exact big_line hb
      refine ⟨_, _, _, rfl, rfl, s3 _ _ h1, hlen, ?_⟩
      obtain ⟨W4, S4⟩ := W3.app_acts (x := (i, (m.hd i).log.take c)) (s3 _ _ h1) (ImAll.keep (same_tk s3) _ _ h2) (v := .ref T1) (im_t2.mpr ⟨T1, _, _, rfl, upd_same, im_nat.mpr rfl, Im.keep (same_tk (same_new hT)) _ _ him⟩)
      have em : m.act i c = { m.set i { m.hd i with sure := c } with acts := m.acts ++ [(i, (m.hd i).log.take c)] } := by unfold Wd.act; rw [if_pos e]
      rw [em] at fin
      exact fin _ W4 (S1.all.trans ((Stp.same S1.al s3).trans S4.all))
    · have e : ¬ (m.hd i).sure < c := by omega
      have em : m.act i c = m := by unfold Wd.act; rw [if_neg e]
      rw [em] at fin
      exact fin H W (Stp.refl W.al)
theorem act_p {O : Own} {H : Hp} {L : WL} {m : Wd} {rs : List Dd} {i c : Nat} {p : Addr} {Q : VK} {E : XK} (W : WorldIn (.prog P w K) H O L m rs) (hp : L.ps[i]? = some p) (hb : m.acts.length < big) (k : ∀ H1, WorldIn (.prog P w K) H1 O L (m.act i c) rs → Stp dA O H O H1 → Q .non H1) : spActP P w K [.ref L.w, .ref p, nv i, nv c] H Q E := by
  unfold spActP
  exact ⟨O, L, m, rs, i, p, c, rfl, W, hp, hb, k⟩
end
end Sr

set_option Elab.async false
set_option linter.all false
set_option maxRecDepth 100000
set_option maxHeartbeats 4000000
namespace Sr
open PySem PySem.Spec PyProof.Rows L2
local macro_rules | `(tactic| walk_at "hp") => `(tactic| (unfold upd at *; grind))
section
variable {P : Program} {w : World} {base : Heap} {K : PySem.W.Frag} {mg : Str → Option Value}
@[irreducible] def spCrashP (P : Program) (w : World) (K : PySem.W.Frag) : Sp := fun vs H Q _ => ∃ O L m rs i p, vs = [.ref (WL.w L), .ref p] ∧ WorldIn (.prog P w K) H O L m rs ∧ L.ps[i]? = some p ∧ ∀ O' H', WorldIn (.prog P w K) H' O' L (m.set i ((m.hd i).crash m.pr)) rs → Stp dA O H O' H' → Q .non H'
theorem sc_w_crash : FnScope ["self", "hand"] ["self", "hand"] (defScope s_w_crash) := ⟨rfl, rfl, rfl, by decide +kernel, rfl, by decide +kernel, by decide +kernel⟩
theorem ok_w_crash (T : Tx w K mg) : MeI P w K mg base (He.ga K "World") "crash" (2 + 1) ["self", "hand"] (spCrashP P w K) := by
  refine MeI.mk' T.f_w_crash T.cl_World T.m_World_crash sc_w_crash (fun _ _ _ _ _ _ us hl => match us, hl with | [_, _], _ => rfl) (fun vs H Q E h => ?_) (fun cdv A outer s H vs Q E hr h => ?_)
  all_goals unfold spCrashP at h
  · obtain ⟨_, _, _, _, _, _, rfl, _⟩ := h
    rfl
  · obtain ⟨O, L, m, rs, i, p, rfl, W, hp, fin⟩ := h
    have hu := hu_of hr
    refine ⟨_, (pss_cons (ps_expr (pe_methI0 (ok_h_rest T) hr (pv 1)))
      (pss_cons (ps_fld (pv 1) pe_int rfl)
      (pss_cons (ps_if (pt_not (pt_val (pe_methI (ok_w_has T) hr (pv 0) (pa_cons pe_str pa_nil)))) (pss_cons (ps_fld (pv 1) pe_int rfl)
      (pss_one (ps_fld (pv 1) pe_non rfl))) pss_nil)
      (pss_one (ps_if (pt_not (pt_val (pe_methI (ok_w_has T) hr (pv 0) (pa_cons pe_str pa_nil)))) (pss_one (ps_fld (pv 1) (pe_tup pa_nil) rfl)) pss_nil))))), ?_⟩
    obtain ⟨M, B⟩ := W.at_ hp
    generalize m.hd i = h at B fin
    obtain ⟨dx, ob⟩ := B.h.ob
    refine ⟨_, rfl, p, _, _, rfl, ob, rfl, rest_p B fun O1 H1 M1 B1 S1 => ?_⟩
    obtain ⟨dx1, ob1⟩ := B1.h.ob
    obtain ⟨B2, S2⟩ := B1.putProg dx1 { h.to .rests with sure := 0 } M1.l B1.h.log
    refine ⟨_, rfl, p, _, _, _, rfl, ob1, T.cl_Hand, T.no_Hand_sure, by show 10 < 1000; decide, ?_⟩
    dsimp only
    refine seq_have (fun σ2 H2 => σ2 = [some (.ref L.w), some (.ref p)] ∧ ∃ M2, At (.prog P w K) H2 O1 L m rs i p (crash1 m.pr h) M2 ∧ Stp dA O H O1 H2) ?_ (fun key => ?_)
    · rintro _ H2 ⟨rfl, M2, B2, S2⟩
      obtain ⟨dw, qw, yw, wob, _⟩ := B2.w.ob
      obtain ⟨dx2, ob2⟩ := B2.h.ob
      refine ⟨_, rfl, L.w, _, _, rfl, wob, rfl, has_p B2.w ⟨_, rfl, iteN (fun e => ?_) (fun e => ?_)⟩⟩
      · refine ⟨Nat.zero_le _, fun q hq => ?_⟩
        have s3 := same_new (o := .tup []) hq
        have B3 := B2.same s3
        obtain ⟨B4, S4⟩ := B3.putProg dx2 { (crash1 m.pr h) with log := [] } q (im_logr.mpr ⟨[], upd_same, imAll_nil⟩) (by rfl) (by rfl) (by rfl)
        refine ⟨_, rfl, p, _, _, _, rfl, s3 _ _ ob2, T.cl_Hand, T.no_Hand_log, by show 10 < 1000; decide, ?_⟩
        refine fin O1 _ ?_ ((S2.trans (Stp.new B2.al hq)).trans S4.all)
        have e' : m.pr.has "rows" = false := e
        rw [crash_eq, e']
        exact B4.w
      · refine fin O1 _ ?_ S2
        have e' : m.pr.has "rows" = true := e
        rw [crash_eq, e']
        exact B2.w
    · obtain ⟨dw, qw, yw, wob, _⟩ := B2.w.ob
      refine ⟨_, rfl, L.w, _, _, rfl, wob, rfl, has_p B2.w ⟨_, rfl, iteN (fun e => ?_) (fun e => ?_)⟩⟩
      · obtain ⟨B3, S3⟩ := B2.putProg dx1 { h.to .rests with sure := 0, term := 0 } M1.l B2.h.log
        obtain ⟨B4, S4⟩ := B3.putProg dx1 { h.to .rests with sure := 0, term := 0, vote := none } M1.l B3.h.log
        refine ⟨_, rfl, p, _, _, _, rfl, upd_same, T.cl_Hand, T.no_Hand_term, by show 10 < 1000; decide, ?_⟩
        refine ⟨_, rfl, p, _, _, _, rfl, upd_same, T.cl_Hand, T.no_Hand_vote, by show 10 < 1000; decide, ?_⟩
        refine key _ _ ⟨rfl, { M1 with l := M1.l }, ?_, (S1.trans (S2.trans (S3.trans S4))).all⟩
        have e' : crash1 m.pr h = _ := if_neg (by rw [show m.pr.has "votes" = false from e]; decide)
        rw [e']
        exact B4
      · refine key _ _ ⟨rfl, { M1 with l := M1.l }, ?_, (S1.trans S2).all⟩
        have e' : crash1 m.pr h = _ := if_pos e
        rw [e']
        exact B2
@[irreducible] def spStandP (P : Program) (w : World) (K : PySem.W.Frag) : Sp := fun vs H Q _ => ∃ O L m rs i p, vs = [.ref (WL.w L), .ref p, nv i] ∧ WorldIn (.prog P w K) H O L m rs ∧ L.ps[i]? = some p ∧ m.lts.length < big ∧ rs.length < big ∧
  ∀ O' H' rs', rs'.length ≤ rs.length + 1 → WorldIn (.prog P w K) H' O' L (m.do (.stand i)) rs' → Stp dA O H O' H' → Q .non H'
theorem sc_w_stand : FnScope ["self", "hand", "number"] ["self", "hand", "number"] (defScope s_w_stand) := ⟨rfl, rfl, rfl, by decide +kernel, rfl, by decide +kernel, by decide +kernel⟩
theorem ok_w_stand (T : Tx w K mg) : MeI P w K mg base (He.ga K "World") "stand" (1 + 1) ["self", "hand", "number"] (spStandP P w K) := by
  refine MeI.mk' T.f_w_stand T.cl_World T.m_World_stand sc_w_stand (fun _ _ _ _ _ _ us hl => match us, hl with | [_, _, _], _ => rfl) (fun vs H Q E h => ?_) (fun cdv A outer s H vs Q E hr h => ?_)
  all_goals unfold spStandP at h
  · obtain ⟨_, _, _, _, _, _, rfl, _⟩ := h
    rfl
  · obtain ⟨O, L, m, rs, i, p, rfl, W, hp, hb, hb2, fin⟩ := h
    have hu := hu_of hr
    refine ⟨_, (pss_cons (ps_fldaug (pv 1) pe_int in_add)
      (pss_cons (ps_expr (pe_methI (ok_h_take_role T) hr (pv 1) (pa_cons pe_str pa_nil)))
      (pss_cons (ps_fld (pv 1) (pv 2) rfl)
      (pss_cons (ps_dput hu (fldK K (pv 1)) (pv 2) pe_bl rfl)
      (pss_one (ps_expr (pe_methI (ok_w_post T) hr (pv 0) (pa_cons (pe_tup (pa_cons pe_str (pa_cons (fldK K (pv 1)) (pa_cons (pv 2) (pa_cons (pe_methI0 (ok_h_pair T) hr (pv 1)) pa_nil))))) pa_nil)))))))), ?_⟩
    obtain ⟨M, B⟩ := W.at_ hp
    have em : m.do (.stand i) = (m.set i { (m.hd i).to .asks with term := (m.hd i).term + 1, vote := some i, got := [i] }).post (.ask ((m.hd i).term + 1) i (Hd.pair { (m.hd i).to .asks with term := (m.hd i).term + 1, vote := some i, got := [i] }).1 (Hd.pair { (m.hd i).to .asks with term := (m.hd i).term + 1, vote := some i, got := [i] }).2) := rfl
    rw [em] at fin
    generalize m.hd i = h at B fin
    obtain ⟨dx, ob⟩ := B.h.ob
    obtain ⟨B1, S1⟩ := B.putProg dx { h with term := h.term + 1 } M.l B.h.log
    refine ⟨_, rfl, p, _, _, _, _, rfl, ob, T.cl_Hand, T.no_Hand_term, fl_term, _, _, rfl, rfl, dx, _, ob, by show 10 < 1000; decide, ?_⟩
    refine ⟨_, rfl, p, _, _, rfl, upd_same, rfl, ?_⟩
    show spRoleP P w K [.ref p, .str (Role.str .asks)] _ _ _
    refine role_p B1 .asks fun O2 H2 M2 B2 S2 => ?_
    obtain ⟨dx2, ob2⟩ := B2.h.ob
    obtain ⟨B3, S3⟩ := B2.putProg dx2 { h.to .asks with term := h.term + 1, vote := some i } M2.l B2.h.log
    refine ⟨_, rfl, _, rfl, p, _, _, _, rfl, ob2, T.cl_Hand, T.no_Hand_vote, by show 10 < 1000; decide, ?_⟩
    obtain ⟨B4, S4⟩ := B3.gotIn [i]
    refine ⟨_, rfl, p, _, _, _, _, rfl, upd_same, T.cl_Hand, T.no_Hand_got, fl_got, _, rfl, M2.g, _, rfl, DPut.k (k := .inl (i : Int)) B3.h.got (by show 0 < sizeLine; decide), ?_⟩
    obtain ⟨dw, qw, yw, wob, _⟩ := B4.w.ob
    obtain ⟨dx4, ob4⟩ := B4.h.ob
    refine ⟨_, rfl, L.w, _, _, rfl, wob, rfl, _, rfl, p, _, _, _, _, rfl, ob4, T.cl_Hand, T.no_Hand_term, fl_term, _, rfl, _, rfl, p, _, _, rfl, ob4, rfl, pair_p B4.h fun T1 H5 s5 hT1 => ?_⟩
    refine ⟨by show 4 ≤ sizeLine; decide, fun T2 hT2 => ?_⟩
    have s6 := s5.trans (same_new (o := .tup [.str "ask", nv (h.term + 1), nv i, .ref T1]) hT2)
    refine post_p (l := .ask (h.term + 1) i _ _) (B4.w.same s6) (im_ask.mpr ⟨T2, T1, rfl, upd_same, same_new hT2 _ _ hT1⟩) hb hb2 fun H7 rs7 h7 W7 S7 => ?_
    exact fin O2 H7 rs7 h7 W7 ((S1.trans (S2.trans (S3.trans S4))).all.trans ((Stp.same S4.al s6).trans S7))
@[irreducible] def spSendP (P : Program) (w : World) (K : PySem.W.Frag) : Sp := fun vs H Q _ => ∃ O L m rs i p a c, vs = [.ref (WL.w L), .ref p, nv i, nv a, nv c] ∧ WorldIn (.prog P w K) H O L m rs ∧ L.ps[i]? = some p ∧ m.lts.length < big ∧ rs.length < big ∧ a + c ≤ (m.hd i).log.length ∧
  ∀ O' H' rs', rs'.length ≤ rs.length + 1 → WorldIn (.prog P w K) H' O' L (m.do (.send i a c)) rs' → Stp dA O H O' H' → Q .non H'
theorem sc_w_send : FnScope ["self", "hand", "number", "at", "many", "ahead"] ["self", "hand", "number", "at", "many"] (defScope s_w_send) := ⟨rfl, rfl, rfl, by decide +kernel, rfl, by decide +kernel, by decide +kernel⟩
theorem ok_w_send (T : Tx w K mg) : MeI P w K mg base (He.ga K "World") "send" (1 + 1) ["self", "hand", "number", "at", "many"] (spSendP P w K) := by
  refine MeI.mk' T.f_w_send T.cl_World T.m_World_send sc_w_send (fun _ _ _ _ _ _ us hl => match us, hl with | [_, _, _, _, _], _ => rfl) (fun vs H Q E h => ?_) (fun cdv A outer s H vs Q E hr h => ?_)
  all_goals unfold spSendP at h
  · obtain ⟨_, _, _, _, _, _, _, _, rfl, _⟩ := h
    rfl
  · obtain ⟨O, L, m, rs, i, p, a, c, rfl, W, hp, hb, hb2, hac, fin⟩ := h
    have hu := hu_of hr
    refine ⟨_, (pss_cons (ps_set (i := 5) sc_w_send.nd rfl (.inl rfl) (pe_ifExp (pt_cmpR op_gt (pv 3) pe_int (nomark _)) (pe_ix (ixT K) (pe_ix (ixT K) (fldK K (pv 1)) (pe_op op_sub (pv 3) pe_int) (fun _ _ => rfl)) pe_int (fun _ _ => rfl)) pe_int))
      (pss_one (ps_expr (pe_methI (ok_w_post T) hr (pv 0) (pa_cons (pe_tup (pa_cons pe_str (pa_cons (fldK K (pv 1)) (pa_cons (pv 2) (pa_cons (pv 3) (pa_cons (pv 5) (pa_cons (pe_slice (slT K) (fldK K (pv 1)) (po_some (pv 3)) (po_some (pe_op op_add (pv 3) (pv 4)))) (pa_cons (fldK K (pv 1)) pa_nil)))))))) pa_nil))))), ?_⟩
    obtain ⟨M, B⟩ := W.at_ hp
    have em : m.do (.send i a c) = m.post (.rows (m.hd i).term i a (if 0 < a then ((m.hd i).log.getD (a - 1) (0, 0)).1 else 0) (((m.hd i).log.drop a).take c) (m.hd i).told) := rfl
    rw [em] at fin
    obtain ⟨dx, ob⟩ := B.h.ob
    obtain ⟨xs, hx, hlog⟩ := im_logr.mp B.h.log
    obtain ⟨dw, qw, yw, wob, _⟩ := W.ob
    dsimp only [tSeq, tAsg]
    refine tIf_have (nv (if 0 < a then ((m.hd i).log.getD (a - 1) (0, 0)).1 else 0)) ?_ (fun key => ?_)
    · refine ⟨_, rfl, L.w, _, _, rfl, wob, rfl, _, rfl, p, _, _, _, _, rfl, ob, T.cl_Hand, T.no_Hand_term, fl_term, _, rfl, _, rfl, _, rfl, _, rfl, p, _, _, _, _, rfl, ob, T.cl_Hand, T.no_Hand_log, fl_log, _, rfl, _, rfl, _, rfl, _, rfl, _, _, rfl, rfl, _, rfl, ?_⟩
      refine slice_mid a c hx hlog fun q H5 s5 hq => ?_
      refine ⟨_, rfl, p, _, _, _, _, rfl, s5 _ _ ob, T.cl_Hand, T.no_Hand_told, fl_told, by show 7 ≤ sizeLine; decide, fun T1 hT => ?_⟩
      have sm := same_new (o := .tup [.str "rows", nv (m.hd i).term, nv i, nv a, nv (if 0 < a then ((m.hd i).log.getD (a - 1) (0, 0)).1 else 0), .ref q, nv (m.hd i).told]) hT
      refine post_p (W.same (s5.trans sm)) (l := .rows _ i a _ _ _) (im_rows.mpr ⟨T1, q, rfl, upd_same, Im.keep (same_tk sm) _ _ hq⟩) hb hb2 fun H8 rs8 h8 W8 S8 => ?_
      exact fin _ H8 rs8 h8 W8 ((Stp.same W.al (s5.trans sm)).trans S8)
    · refine ⟨_, rfl, _, _, rfl, rfl, _, rfl, iteD (fun e1 => ?_) (fun e1 => ?_)⟩
      · have hk : 0 < a := by omega
        rw [if_pos hk] at key
        obtain ⟨r, g1, g2⟩ := hlog.get (i := a - 1) (by omega)
        exact ⟨_, rfl, p, _, _, _, _, rfl, ob, T.cl_Hand, T.no_Hand_log, fl_log, _, rfl, _, _, rfl, rfl, _, xs, _, _, rfl, rfl, SqT.of hx, atI_pred hk g1, r, _, 0, _, rfl, rfl, SqT.of g2, rfl, key⟩
      · rw [if_neg (by omega)] at key
        exact key
@[irreducible] def spLetsP (P : Program) (w : World) (K : PySem.W.Frag) : Sp := fun vs H Q _ => ∃ O L m rs i p a b t, vs = [.ref (WL.w L), .ref p, .ref t] ∧ WorldIn (.prog P w K) H O L m rs ∧ L.ps[i]? = some p ∧ H t = some (.tup [nv a, nv b]) ∧ ∀ H', Same H H' → Q (.bl (lets m.pr.look (a, b) (m.hd i).pair)) H'
theorem sc_w_lets : FnScope ["self", "hand", "pair", "look", "mine"] ["self", "hand", "pair"] (defScope s_w_lets) := ⟨rfl, rfl, rfl, by decide +kernel, rfl, by decide +kernel, by decide +kernel⟩
theorem ok_w_lets (T : Tx w K mg) : MeI P w K mg base (He.ga K "World") "lets" (1 + 1) ["self", "hand", "pair"] (spLetsP P w K) := by
  refine MeI.mk' T.f_w_lets T.cl_World T.m_World_lets sc_w_lets (fun _ _ _ _ _ _ us hl => match us, hl with | [_, _, _], _ => rfl) (fun vs H Q E h => ?_) (fun cdv A outer s H vs Q E hr h => ?_)
  all_goals unfold spLetsP at h
  · obtain ⟨_, _, _, _, _, _, _, _, _, rfl, _⟩ := h
    rfl
  · obtain ⟨O, L, m, rs, i, p, a, b, t, rfl, W, hp, ht, fin⟩ := h
    have hu := hu_of hr
    have hu0 := Nat.lt_of_succ_lt hu
    refine ⟨_, (pss_cons (ps_par (i := 3) (j := 4) rfl sc_w_lets.nd rfl rfl (by decide) rfl rfl (pa_cons (pe_ix (ixT K) (fldK K (pv 0)) pe_int (fun _ _ => rfl)) (pa_cons (pe_methI0 (ok_h_pair T) hr (pv 1)) pa_nil)) rfl)
      (pss_cons (ps_if (pt_cmpR op_eq (pv 3) pe_str (nomark _)) (pss_one (ps_ret (pe_cmpR op_ge (pe_ix (ixT K) (pv 2) pe_int (fun _ _ => rfl)) (pe_ix (ixT K) (pv 4) pe_int (fun _ _ => rfl)) (nomark _)))) pss_nil)
      (pss_cons (ps_if (pt_cmpR op_eq (pv 3) pe_str (nomark _)) (pss_one (ps_ret (pe_cmpR op_ge (pe_ix (ixT K) (pv 2) pe_int (fun _ _ => rfl)) (pe_ix (ixT K) (pv 4) pe_int (fun _ _ => rfl)) (nomark _)))) pss_nil)
      (pss_one (ps_ret (pe_or (pe_cmpR op_eq (pv 3) pe_str (nomark _)) (pe_one (pe_cmpR (op_geT hu0) (pv 2) (pv 4) (nomark _))))))))), ?_⟩
    obtain ⟨M, B⟩ := W.at_ hp
    generalize m.hd i = h at B fin
    obtain ⟨dx, ob⟩ := B.h.ob
    obtain ⟨dw, qw, yw, wob, _⟩ := W.ob
    obtain ⟨pa, pq, e, h1, h2⟩ := im_pr.mp B.pr
    refine ⟨_, rfl, L.w, _, _, _, _, rfl, wob, T.cl_World, T.no_World_protocol, fw_protocol, _, _, 4, _, e, rfl, SqT.of h1, rfl, _, rfl, p, _, _, rfl, ob, rfl, pair_p B.h fun T1 H1 s1 hT => ⟨_, _, rfl, ?_⟩⟩
    have ht1 := s1 _ _ ht
    have fin := fin H1 s1
    have el : (m.set i h).pr.look = m.pr.look := rfl
    refine ⟨_, rfl, rfl, _, rfl, iteD (fun e1 => ?_) (fun e1 => ?_)⟩
    · have e1 : m.pr.look = "count" := by injection e1
      rw [e1, lets_count, ← dec_int] at fin
      exact ⟨_, rfl, t, _, 1, _, rfl, rfl, SqT.of ht1, rfl, _, rfl, T1, _, 1, _, rfl, rfl, SqT.of hT, rfl, _, _, rfl, rfl, fin⟩
    refine ⟨_, rfl, rfl, _, rfl, iteD (fun e2 => ?_) (fun e2 => ?_)⟩
    · have e2 : m.pr.look = "term" := by injection e2
      rw [e2, lets_term, ← dec_int] at fin
      exact ⟨_, rfl, t, _, 0, _, rfl, rfl, SqT.of ht1, rfl, _, rfl, T1, _, 0, _, rfl, rfl, SqT.of hT, rfl, _, _, rfl, rfl, fin⟩
    have f1 : ¬ m.pr.look = "count" := fun z => e1 (congrArg V.str z)
    have f2 : ¬ m.pr.look = "term" := fun z => e2 (congrArg V.str z)
    refine ⟨_, rfl, rfl, _, rfl, iteD (fun e3 => ?_) (fun e3 => ?_)⟩
    · have e3 : m.pr.look = "none" := by injection e3
      rw [e3, lets_none] at fin
      exact fin
    have f3 : ¬ m.pr.look = "none" := fun z => e3 (congrArg V.str z)
    refine ⟨_, rfl, _, rfl, t, T1, _, _, _, _, rfl, rfl, SqT.of ht1, SqT.of hT, ?_⟩
    have e4 : lets m.pr.look (a, b) h.pair = (decide (h.pair.1 < a) || (decide (h.pair.1 = a) && decide (h.pair.2 ≤ b))) := by
      unfold lets
      rw [if_neg f1, if_neg f2, if_neg f3]
    rw [e4, ← dec_int, ← dec_lt, ← dec_ieq] at fin
    exact fin
@[irreducible] def spCanHearP (P : Program) (w : World) (K : PySem.W.Frag) : Sp := fun vs H Q _ => ∃ i l v x, vs = [x, nv i, v] ∧ Im H (Lt.data l) v ∧ ∀ H', Same H H' → Q (.bl (canHear i l)) H'
theorem sc_w_can_hear : FnScope ["self", "number", "letter"] ["self", "number", "letter"] (defScope s_w_can_hear) := ⟨rfl, rfl, rfl, by decide +kernel, rfl, by decide +kernel, by decide +kernel⟩
theorem ok_w_can_hear (T : Tx w K mg) : MeI P w K mg base (He.ga K "World") "can_hear" (0 + 1) ["self", "number", "letter"] (spCanHearP P w K) := by
  refine MeI.mk' T.f_w_can_hear T.cl_World T.m_World_can_hear sc_w_can_hear (fun _ _ _ _ _ _ us hl => match us, hl with | [_, _, _], _ => rfl) (fun vs H Q E h => ?_) (fun cdv A outer s H vs Q E hr h => ?_)
  all_goals unfold spCanHearP at h
  · obtain ⟨_, _, _, _, rfl, _⟩ := h
    rfl
  · obtain ⟨i, l, v, x, rfl, hv, fin⟩ := h
    have hu := hu_of hr
    refine ⟨_, (pss_cons (ps_if (pt_cmpR op_eq (pe_ix (ixT K) (pv 2) pe_int (fun _ _ => rfl)) (pv 1) (nomark _)) (pss_one (ps_ret pe_bl)) pss_nil)
      (pss_one (ps_ret (pe_or (pe_cmpR op_notIn_seq (pe_ix (ixT K) (pv 2) pe_int (fun _ _ => rfl)) (pe_tup (pa_cons pe_str (pa_cons pe_str (pa_cons pe_str pa_nil)))) rfl) (pe_one (pe_cmpR op_eq (pe_ix (ixT K) (pv 2) pe_int (fun _ _ => rfl)) (pv 1) (nomark _))))))), ?_⟩
    obtain ⟨b2, xs, rfl, hb2, ht⟩ := im_to hv
    refine ⟨_, rfl, b2, _, 2, _, rfl, rfl, SqT.of hb2, atI_nat (j := 2) rfl, _, rfl, rfl, _, rfl, ?_⟩
    rw [dec_nv]
    refine iteD (fun e2 => ?_) (fun e2 => ?_)
    · have fr := fin H (Same.refl H)
      rw [show canHear i l = false by simp [canHear, e2]] at fr
      exact fr
    refine ⟨_, rfl, b2, _, 0, _, rfl, rfl, SqT.of hb2, atI_nat (j := 0) rfl, by show 3 ≤ sizeLine; decide, fun T1 hT => ?_⟩
    have sm := same_new (o := .tup [.str "give", .str "taken", .str "seen"]) hT
    have fr := fin _ sm
    refine ⟨T1, _, rfl, .inr (SqT.of upd_same), rfl, rfl, _, rfl, ?_⟩
    show (if (!inV (.str l.word) ((["give", "taken", "seen"] : List Str).map V.str)) = true then _ else _)
    rw [inV_strs]
    rcases ht with ⟨h1, h2⟩ | ⟨u, r, h1, rfl, h2⟩
    · rw [canHear_none h1, decide_eq_true e2] at fr
      refine iteND (fun _ => fr) (fun z => (h2 z).elim)
    · rw [canHear_some h1, decide_eq_true e2, Bool.true_and, ← dec_nv] at fr
      refine iteND (fun z => (z h2).elim) (fun _ => ?_)
      exact ⟨_, rfl, b2, _, 3, _, rfl, rfl, SqT.of (sm _ _ hb2), atI_nat (j := 3) rfl, _, rfl, rfl, fr⟩
end
end Sr

set_option Elab.async false
set_option linter.all false
set_option maxRecDepth 100000
set_option maxHeartbeats 4000000
namespace Sr
open PySem PySem.Spec PyProof.Rows L2
local macro_rules | `(tactic| walk_at "hp") => `(tactic| (unfold upd at *; grind))
section
variable {P : Program} {w : World} {base : Heap} {K : PySem.W.Frag} {mg : Str → Option Value}
@[irreducible] def spCanSettleP (P : Program) (w : World) (K : PySem.W.Frag) : Sp := fun vs H Q _ => ∃ O L m rs i p c, vs = [.ref (WL.w L), .ref p, nv c] ∧ WorldIn (.prog P w K) H O L m rs ∧ L.ps[i]? = some p ∧ (m.hd i).known.length < big ∧ ∀ H', Same H H' → Q (.bl (canSettle m.pr (m.hd i) c)) H'
theorem sc_w_can_settle : FnScope ["self", "hand", "count", "one"] ["self", "hand", "count"] (defScope s_w_can_settle) := ⟨rfl, rfl, rfl, by decide +kernel, rfl, by decide +kernel, by decide +kernel⟩
theorem ok_w_can_settle (T : Tx w K mg) : MeI P w K mg base (He.ga K "World") "can_settle" (1 + 1) ["self", "hand", "count"] (spCanSettleP P w K) := by
  refine MeI.mk' T.f_w_can_settle T.cl_World T.m_World_can_settle sc_w_can_settle (fun _ _ _ _ _ _ us hl => match us, hl with | [_, _, _], _ => rfl) (fun vs H Q E h => ?_) (fun cdv A outer s H vs Q E hr h => ?_)
  all_goals unfold spCanSettleP at h
  · obtain ⟨_, _, _, _, _, _, _, rfl, _⟩ := h
    rfl
  · obtain ⟨O, L, m, rs, i, p, c, rfl, W, hp, hb, fin⟩ := h
    have hu := hu_of hr
    refine ⟨_, (pss_cons (ps_if (pt_not (pt_chain op_lt op_le (fldK K (pv 1)) (pv 2) (pe_callB (id := "len") (lenK K) (by rfl) T.n_len (by decide +kernel) (pa_cons (fldK K (pv 1)) pa_nil)))) (pss_one (ps_ret pe_bl)) pss_nil)
      (pss_cons (ps_if (pt_cmpR op_lt (pe_op op_add pe_int (pe_callB (id := "len") (lenK K) (by rfl) T.n_len (by decide +kernel) (pa_cons (pe_lock (pe_lc (own := [("one", 3)]) (g := gName 3) rfl sc_w_can_settle.nd (pi_values (fldK K (pv 1))) (blkOk_by (own := [("one", 3)]) (N := ["self", "hand", "count", "one"]) (sc := defScope s_w_can_settle) (by decide +kernel)) (fun _ _ _ _ _ => (pg_name (i := 3) sc_w_can_settle.nd rfl (Or.inl rfl))) (fun _ _ _ _ _ => (pts_one (pt_cmpR op_ge (pv 3) (pv 2) (nomark _)))) (fun _ _ _ _ _ => (pv 3)))) pa_nil))) (pe_ix (ixT K) (fldK K (pv 0)) pe_int (fun _ _ => rfl)) (nomark _)) (pss_one (ps_ret pe_bl)) pss_nil)
      (pss_one (ps_ret (pe_or (pe_not (pe_methI (ok_w_has T) hr (pv 0) (pa_cons pe_str pa_nil))) (pe_one (pe_cmpR op_eq (pe_ix (ixT K) (pe_ix (ixT K) (fldK K (pv 1)) (pe_op op_sub (pv 2) pe_int) (fun _ _ => rfl)) pe_int (fun _ _ => rfl)) (fldK K (pv 1)) (nomark _)))))))), ?_⟩
    obtain ⟨M, B⟩ := W.at_ hp
    generalize m.hd i = h at B fin hb
    obtain ⟨xs, hx, hlog⟩ := im_logr.mp B.h.log
    obtain ⟨dx, ob⟩ := B.h.ob
    have no : ∀ {b : Bool}, b = false → canSettle m.pr h c = b → Q (.bl false) H := fun e q => by
      have := fin H (Same.refl H)
      rw [q, e] at this
      exact this
    refine ⟨_, rfl, p, _, _, _, _, rfl, ob, T.cl_Hand, T.no_Hand_told, fl_told, _, rfl, _, _, rfl, rfl, _, rfl, iteD (fun e1 => ?_) (fun e1 => ?_)⟩
    rotate_left
    · refine ⟨_, rfl, iteT ?_⟩
      exact no rfl (by simp [canSettle, show ¬ h.told < c by omega])
    refine ⟨_, rfl, p, _, _, _, _, rfl, ob, T.cl_Hand, T.no_Hand_log, fl_log, _, xs, rfl, .inr (SqT.of hx), _, _, rfl, rfl, _, rfl, iteND (fun e2 => ?_) (fun e2 => ?_)⟩
    · rw [hlog.length] at e2
      exact no rfl (by simp [canSettle, show ¬ c ≤ h.log.length by omega])
    rw [hlog.length] at e2
    have f1 : h.told < c := by omega
    have f2 : c ≤ h.log.length := by omega
    refine ⟨M.k, _, B.h.kn, trivial, fun od => ?_⟩
    have npk : p ≠ M.k := own_ne B.h.op B.h.ok (by intro z; cases z)
    have ob1 : (upd H M.k (.frz od (.dK (h.known.map kn)))) p = some (.ins (CH K) dx (rh h M).fs) := by rw [upd_ne npk]; exact ob
    refine ⟨_, rfl, p, _, _, _, _, rfl, ob1, T.cl_Hand, T.no_Hand_known, fl_known, M.k, _, _, rfl, upd_same, fun D hD => ?_⟩
    have nD := (lock_free B.h.kn hD).2
    refine lc_it walk_values (fun j H2 => H2 = upd (upd H M.k (.frz od (.dK (h.known.map kn)))) D (.lst (((h.known.take j).filter (fun q => decide (c ≤ q.2))).map fun q => nv q.2))) ?_ ?_ ?_ ?_
    · rfl
    · rintro j _ _ rfl
      rw [upd_ne nD.symm, upd_same]
    · rintro j x _ _ hj rfl ⟨rfl, k, ek⟩
      rw [List.getElem?_map] at ek
      cases eq : h.known[j]? with
      | none => rw [eq] at ek; cases ek
      | some q =>
        rw [eq] at ek
        cases ek
        have kq := knowns (c := c) eq
        refine ⟨rfl, _, rfl, _, rfl, _, _, rfl, rfl, _, rfl, iteD (fun e3 => ?_) (fun e3 => ?_)⟩
        · refine ⟨_, rfl, _, upd_same, ?_, ?_⟩
          · rw [List.length_map]
            refine Nat.lt_of_le_of_lt (Nat.le_trans (List.length_filter_le _ _) ?_) (big_line hb)
            rw [List.length_take]
            exact Nat.min_le_right _ _
          · rw [upd_upd, kq, if_pos (by omega), List.map_append]
            rfl
        · rw [kq, if_neg (by omega), List.append_nil]
    rintro _ rfl
    obtain ⟨sm, hl⟩ := lock_same (o := .lst (((h.known.take (h.known.map kn).length).filter (fun q => decide (c ≤ q.2))).map fun q => nv q.2)) (f := .frz od (.dK (h.known.map kn))) B.h.kn hD
    refine ⟨by rw [upd_ne nD.symm, upd_same], ?_⟩
    generalize upd (upd (upd H M.k (.frz od (.dK (h.known.map kn)))) D (.lst (((h.known.take (h.known.map kn).length).filter (fun q => decide (c ≤ q.2))).map fun q => nv q.2))) M.k (.dK (h.known.map kn)) = H2 at sm hl
    have B2 := B.same sm
    obtain ⟨dw, qw, yw, wob, _⟩ := B2.w.ob
    have ob2 := sm _ _ ob
    obtain ⟨pa, pq, e, h1, h2⟩ := im_pr.mp B2.pr
    have ll : (((h.known.take (h.known.map kn).length).filter (fun q => decide (c ≤ q.2))).map fun q => nv q.2).length = h.known_ge c := by
      rw [List.length_map, List.length_map, List.take_length]
      rfl
    refine ⟨_, _, rfl, .inl (SqL.of hl), _, _, rfl, rfl, _, rfl, L.w, _, _, _, _, rfl, wob, T.cl_World, T.no_World_protocol, fw_protocol, _, _, 2, _, e, rfl, SqT.of h1, rfl, _, _, rfl, rfl, _, rfl, iteD (fun e3 => ?_) (fun e3 => ?_)⟩
    · rw [ll] at e3
      have := fin H2 sm
      rw [show canSettle m.pr h c = false by simp [canSettle, show ¬ m.pr.settlers ≤ 1 + h.known_ge c by omega]] at this
      exact this
    rw [ll] at e3
    refine ⟨_, rfl, L.w, _, _, rfl, wob, rfl, has_p B2.w ⟨_, rfl, ?_⟩⟩
    have f3 : m.pr.settlers ≤ 1 + h.known_ge c := by omega
    refine ⟨_, rfl, iteN (fun e4 => ?_) (fun e4 => ?_)⟩
    · have e4 : m.pr.has "own" = false := e4
      have := fin H2 sm
      rw [show canSettle m.pr h c = true by simp [canSettle, f1, f2, f3, e4]] at this
      exact this
    · have e4 : m.pr.has "own" = true := e4
      obtain ⟨r, hr1, hr2⟩ := (hlog.keep (same_tk sm)).get (i := c - 1) (by omega)
      refine ⟨_, rfl, p, _, _, _, _, rfl, ob2, T.cl_Hand, T.no_Hand_log, fl_log, _, rfl, _, _, rfl, rfl, _, xs, _, _, rfl, rfl, SqT.of (sm _ _ hx), atI_pred (by omega) hr1, r, _, 0, _, rfl, rfl, SqT.of hr2, rfl, _, rfl, p, _, _, _, _, rfl, ob2, T.cl_Hand, T.no_Hand_term, fl_term, rfl, ?_⟩
      have := fin H2 sm
      rw [show canSettle m.pr h c = decide ((h.log.getD (c - 1) (0, 0)).1 = h.term) by simp [canSettle, f1, f2, f3, e4]] at this
      rw [← dec_nv] at this
      exact this
/-! rows cut in -/
theorem walk_enumT {K : PySem.W.Frag} {a : Addr} {xs : List V} : Walk (IteT K a) xs.length (fun H => SqT K H a xs) (YPair (fun i => some (.int (i : Nat))) (fun i => xs[i]?)) := by
  refine ⟨fun i _ lt row => ⟨xs, xs[i], row, by simp [lt]⟩, fun _ row => ⟨xs, row, Nat.le_refl _⟩, fun i H v H' _ row got => ?_⟩
  obtain ⟨T, x, ev, fresh, eH, item⟩ := got
  exact ⟨T, .int (i : Nat), x, ev, fresh, eH, rfl, item xs row⟩
@[irreducible] def spCutP (P : Program) (w : World) (K : PySem.W.Frag) : Sp := fun vs H Q _ => ∃ lg at_ q log rows, vs = [.ref lg, nv at_, .ref q] ∧ Im H (logD log) (.ref lg) ∧ Im H (logD rows) (.ref q) ∧ at_ + rows.length < big ∧ ∀ r H', Same H H' → Im H' (logD (cutGo log at_ rows)) (.ref r) → Q (.ref r) H'
theorem sc_p_cut_where_unlike : FnScope ["log", "at", "rows", "index", "row", "place"] ["log", "at", "rows"] (defScope s_p_cut_where_unlike) := ⟨rfl, rfl, rfl, by decide +kernel, rfl, by decide +kernel, by decide +kernel⟩
theorem ok_p_cut_where_unlike (T : Tx w K mg) : FnI P w K mg base "cut_where_unlike" (0 + 1) ["log", "at", "rows"] (spCutP P w K) := by
  refine FnI.mk' T.f_p_cut_where_unlike T.g_cut_where_unlike sc_p_cut_where_unlike (fun _ _ _ _ _ _ us hl => match us, hl with | [_, _, _], _ => rfl) (fun vs H Q E h => ?_) (fun cdv A outer s H vs Q E hr h => ?_)
  all_goals unfold spCutP at h
  · obtain ⟨_, _, _, _, _, rfl, _⟩ := h
    rfl
  · obtain ⟨lg, at_, q, log, rows, rfl, hl, hq, hb, fin⟩ := h
    have hu := hu_of hr
    refine ⟨_, (pss_cons (ps_for PassesOwn.never rfl (pi_enumA (by rfl) T.n_enumerate (pa_cons (pv 2) pa_nil)) (pg_tup rfl (pgs_cons (pg_name (i := 3) sc_p_cut_where_unlike.nd rfl (Or.inl rfl)) (pgs_cons (pg_name (i := 4) sc_p_cut_where_unlike.nd rfl (Or.inl rfl)) pgs_nil))) (pss_cons (ps_set (i := 5) sc_p_cut_where_unlike.nd rfl (.inl rfl) (pe_op op_add (pv 1) (pv 3)))
      (pss_one (ps_if (pw_or (pt_cmpR op_ge (pv 5) (pe_callB (id := "len") (lenK K) (by rfl) T.n_len (by decide +kernel) (pa_cons (pv 0) pa_nil)) (nomark _)) (pw_or1 (pt_cmpR op_ne (pe_ix (ixT K) (pe_ix (ixT K) (pv 0) (pv 5) (fun _ _ => rfl)) pe_int (fun _ _ => rfl)) (pe_ix (ixT K) (pv 4) pe_int (fun _ _ => rfl)) (nomark _)))).pt (pss_one (ps_ret (pe_tup (StX.pa_star (pe_slice (slT K) (pv 0) po_none (po_some (pv 5))) (StX.pa_star (pe_slice (slT K) (pv 2) (po_some (pv 3)) po_none) pa_nil))))) pss_nil))))
      (pss_one (ps_ret (pv 0)))), ?_⟩
    obtain ⟨xs, hx, hlog⟩ := im_logr.mp hl
    obtain ⟨ys, hy, hrows⟩ := im_logr.mp hq
    refine ⟨_, rfl, q, ys, rfl, .inr ⟨SqT.of hy, ?_⟩⟩
    refine for_it (walk_enumT (xs := ys)) (fun j σ2 H2 => Same H H2 ∧ ∃ a b c, σ2 = [some (.ref lg), some (nv at_), some (.ref q), a, b, c] ∧ cutGo log at_ rows = cutGo log (at_ + j) (rows.drop j)) ⟨Same.refl H, none, none, none, rfl, rfl⟩ ?_ ?_ ?_
    · rintro j _ H2 _ ⟨s2, _⟩
      exact SqT.of (s2 _ _ hy)
    · rintro j x _ H2 _ hj ⟨s2, a, b, c, rfl, hc⟩ ⟨T1, x1, x2, rfl, hT, rfl, ex1, ex2⟩
      cases ex1
      rw [hrows.length] at hj
      obtain ⟨r2, g3, g4⟩ := (hrows.keep (same_tk s2)).get (i := j) hj
      have ex2' : x2 = .ref r2 := by have := ex2.symm.trans g3; exact Option.some.inj this
      subst ex2'
      have s3 := same_new (o := .tup [.int (j : Nat), .ref r2]) hT
      have sm := s2.trans s3
      have g4 := s3 _ _ g4
      have hl3 := hlog.keep (same_tk sm)
      have hr3 := hrows.keep (same_tk sm)
      have er : rows.drop j = (rows.getD j (0, 0)) :: rows.drop (j + 1) := by
        rw [List.drop_eq_getElem_cons hj]
        simp [hj]
      refine ⟨T1, _, rfl, SqT.of upd_same, rfl, _, _, rfl, _, _, rfl, rfl, _, rfl, _, rfl, _, _, rfl, rfl, ?_⟩
      have ret : ¬ (at_ + j < log.length ∧ (log.getD (at_ + j) (0, 0)).1 = (rows.getD j (0, 0)).1) → ∀ r H', Same (upd H2 T1 (.tup [.int (j : Nat), .ref r2])) H' → Im H' (logD (log.take (at_ + j) ++ rows.drop j)) (.ref r) → Q (.ref r) H' := fun z r H' s h => by
        refine fin r H' (sm.trans s) ?_
        rw [hc, er, cutGo_miss z, ← er]
        exact h
      dsimp only [gName]
      refine if_have (¬ (at_ + j < log.length ∧ (log.getD (at_ + j) (0, 0)).1 = (rows.getD j (0, 0)).1)) (at_ + j < log.length ∧ (log.getD (at_ + j) (0, 0)).1 = (rows.getD j (0, 0)).1) (fun z => ?_) (fun z => ?_) (fun k1 k0 => ?_)
      · refine ⟨_, rfl, _, rfl, _, rfl, slice_to (at_ + j) (sm _ _ hx) hl3 fun q1 H5 s5 m5 => ?_⟩
        obtain ⟨us, hu1, hu2⟩ := im_logr.mp m5
        refine ⟨_, _, rfl, .inl (SqT.of hu1), _, rfl, _, rfl, _, rfl, ?_⟩
        dsimp only [tNoPart]
        refine slice_from j (s5 _ _ (sm _ _ hy)) (hr3.keep (same_tk s5)) fun q2 H6 s6 m6 => ?_
        obtain ⟨vs, hv1, hv2⟩ := im_logr.mp m6
        refine ⟨_, _, rfl, .inl (SqT.of hv1), ?_⟩
        have hlu := hu2.length
        have hlv := hv2.length
        rw [List.length_take] at hlu
        rw [List.length_drop] at hlv
        have hsz : big ≤ sizeLine := by decide
        refine ⟨by rw [List.append_nil, List.length_append]; omega, fun T2 hT2 => ?_⟩
        have s7 := same_new (o := .tup (us ++ (vs ++ []))) hT2
        refine ret z T2 _ (s5.trans (s6.trans s7)) (im_logr.mpr ⟨_, upd_same, ?_⟩)
        have en : us ++ (vs ++ []) = us ++ vs := by rw [List.append_nil]
        show LogAt _ _ (us ++ (vs ++ []))
        rw [show LogAt (upd H6 T2 (.tup (us ++ (vs ++ [])))) (log.take (at_ + j) ++ rows.drop j) (us ++ (vs ++ [])) = LogAt (upd H6 T2 (.tup (us ++ (vs ++ [])))) (log.take (at_ + j) ++ rows.drop j) (us ++ vs) by rw [en]]
        exact (hu2.keep (same_tk (s6.trans s7))).append (hv2.keep (same_tk s7))
      · refine ⟨sm, _, _, _, rfl, ?_⟩
        rw [hc, er, cutGo_hit z.1 z.2]
        rfl
      · refine ⟨_, rfl, _, rfl, _, xs, rfl, .inr (SqT.of (sm _ _ hx)), _, _, rfl, rfl, _, rfl, ?_⟩
        rw [hlog.length]
        refine iteD (fun e1 => ?_) (fun e1 => ?_)
        · exact iteT (k1 fun z => by omega)
        have f2 : at_ + j < log.length := by omega
        obtain ⟨r1, g1, g2⟩ := hl3.get (i := at_ + j) f2
        refine ⟨_, rfl, _, rfl, _, xs, _, _, rfl, rfl, SqT.of (sm _ _ hx), atI_nat g1, r1, _, 0, _, rfl, rfl, SqT.of g2, rfl, _, rfl, r2, _, 0, _, rfl, rfl, SqT.of g4, rfl, rfl, _, rfl, ?_⟩
        rw [dec_nv]
        exact iteND (fun e2 => k1 fun z => e2 z.2) (fun e2 => k0 ⟨f2, e2⟩)
    · rintro _ H2 ⟨s2, a, b, c, rfl, hc⟩
      refine ⟨_, rfl, fin lg H2 s2 ?_⟩
      rw [hc, hrows.length, List.drop_length]
      simp only [cutGo]
      exact Im.keep (same_tk s2) _ _ hl
theorem cut_p {H : Hp} {lg q : Addr} {at_ : Nat} {log rows : Log} {Q : VK} {E : XK} (hl : Im H (logD log) (.ref lg)) (hq : Im H (logD rows) (.ref q)) (hb : at_ + rows.length < big) (fin : ∀ r H', Same H H' → Im H' (logD (cutGo log at_ rows)) (.ref r) → Q (.ref r) H') : spCutP P w K [.ref lg, nv at_, .ref q] H Q E := by
  unfold spCutP
  exact ⟨lg, at_, q, log, rows, rfl, hl, hq, hb, fin⟩
end
end Sr

set_option Elab.async false
set_option linter.all false
set_option maxRecDepth 100000
set_option maxHeartbeats 4000000
namespace Sr
open PySem PySem.Spec PyProof.Rows L2
local macro_rules | `(tactic| walk_at "hp") => `(tactic| (unfold upd at *; grind))
section
variable {P : Program} {w : World} {base : Heap} {K : PySem.W.Frag} {mg : Str → Option Value}
theorem can_p {O : Own} {H : Hp} {L : WL} {m : Wd} {rs : List Dd} {i c : Nat} {p : Addr} {Q : VK} {E : XK} (W : WorldIn (.prog P w K) H O L m rs) (hp : L.ps[i]? = some p) (hb : (m.hd i).known.length < big) (k : ∀ H1, Same H H1 → Q (.bl (canSettle m.pr (m.hd i) c)) H1) : spCanSettleP P w K [.ref L.w, .ref p, nv c] H Q E := by
  unfold spCanSettleP
  exact ⟨O, L, m, rs, i, p, c, rfl, W, hp, hb, k⟩
theorem min_if {told e : Nat} : V.int (if (e : Int) < (told : Int) then (e : Int) else (told : Int)) = nv (min told e) := by
  refine congrArg V.int ?_
  split <;> omega
theorem max_if {c e : Nat} : V.int (if (e : Int) > (c : Int) then (e : Int) else (c : Int)) = nv (max c e) := by
  refine congrArg V.int ?_
  split <;> omega
def tkP (L : WL) (p : Addr) (i : Nat) (pv : Addr) (t s at_ ah : Nat) (q : Addr) (told : Nat) : L2.St :=
  [some (.ref L.w), some (.ref p), some (nv i), some (.ref pv), some (.str "rows"), some (nv t), some (nv s), some (nv at_), some (nv ah), some (.ref q), some (nv told)]
@[irreducible] def spTakeP (P : Program) (w : World) (K : PySem.W.Frag) : Sp := fun vs H Q _ => ∃ O L m rs i p t s at_ ah rws told v, vs = [.ref (WL.w L), .ref p, nv i, v] ∧ WorldIn (.prog P w K) H O L m rs ∧ L.ps[i]? = some p ∧ Im H (Lt.rows t s at_ ah rws told).data v ∧ m.lts.length < big ∧ m.acts.length < big ∧ rs.length < big ∧ at_ + rws.length < big ∧
  ∀ O' H' rs', rs'.length ≤ rs.length + 1 → WorldIn (.prog P w K) H' O' L (m.take i t s at_ ah rws told) rs' → Stp dA O H O' H' → Q .non H'
theorem sc_w_take : FnScope ["self", "hand", "number", "letter", "word", "term", "sender", "at", "ahead", "rows", "told"] ["self", "hand", "number", "letter"] (defScope s_w_take) := ⟨rfl, rfl, rfl, by decide +kernel, rfl, by decide +kernel, by decide +kernel⟩
theorem ok_w_take (T : Tx w K mg) : MeI P w K mg base (He.ga K "World") "take" (2 + 1) ["self", "hand", "number", "letter"] (spTakeP P w K) := by
  refine MeI.mk' T.f_w_take T.cl_World T.m_World_take sc_w_take (fun _ _ _ _ _ _ us hl => match us, hl with | [_, _, _, _], _ => rfl) (fun vs H Q E h => ?_) (fun cdv A outer s H vs Q E hr h => ?_)
  all_goals unfold spTakeP at h
  · obtain ⟨_, _, _, _, _, _, _, _, _, _, _, _, _, rfl, _⟩ := h
    rfl
  · obtain ⟨O, L, m, rs, i, p, t, s, at_, ah, rws, told, v, rfl, W, hp, hv, hb1, hb2, hb5, hb4, fin⟩ := h
    have hu := hu_of hr
    refine ⟨_, (pss_cons (ps_asg (pv 3) (pg_tup rfl (pgs_cons (pg_name (i := 4) sc_w_take.nd rfl (.inl rfl)) (pgs_cons (pg_name (i := 5) sc_w_take.nd rfl (.inl rfl)) (pgs_cons (pg_name (i := 6) sc_w_take.nd rfl (.inl rfl)) (pgs_cons (pg_name (i := 7) sc_w_take.nd rfl (.inl rfl)) (pgs_cons (pg_name (i := 8) sc_w_take.nd rfl (.inl rfl)) (pgs_cons (pg_name (i := 9) sc_w_take.nd rfl (.inl rfl)) (pgs_cons (pg_name (i := 10) sc_w_take.nd rfl (.inl rfl)) pgs_nil)))))))))
      (pss_cons (ps_expr (pe_methI0 (ok_h_rest T) hr (pv 1)))
      (pss_cons (ps_if (pw_or (pt_cmpR op_gt (pv 7) (pe_callB (id := "len") (lenK K) (by rfl) T.n_len (by decide +kernel) (pa_cons (fldK K (pv 1)) pa_nil)) (nomark _)) (pw_or1 (pw_and (pt_val (pe_methI (ok_w_has T) hr (pv 0) (pa_cons pe_str pa_nil))) (pw_and (pt_cmpR op_gt (pv 7) pe_int (nomark _)) (pw_and1 (pt_cmpR op_ne (pe_ix (ixT K) (pe_ix (ixT K) (fldK K (pv 1)) (pe_op op_sub (pv 7) pe_int) (fun _ _ => rfl)) pe_int (fun _ _ => rfl)) (pv 8) (nomark _))))).pt)).pt (pss_one ps_retN) pss_nil)
      (pss_cons (ps_if (pt_val (pe_methI (ok_w_has T) hr (pv 0) (pa_cons pe_str pa_nil))) (pss_one (ps_fld (pv 1) (pe_callI (ok_p_cut_where_unlike (P := P) T) hr (pa_cons (fldK K (pv 1)) (pa_cons (pv 7) (pa_cons (pv 9) pa_nil)))) rfl)) (pss_one (ps_fld (pv 1) (pe_tup (StX.pa_star (pe_slice (slT K) (fldK K (pv 1)) po_none (po_some (pv 7))) (StX.pa_star (pv 9) pa_nil))) rfl)))
      (pss_cons (ps_expr (pe_methI (ok_w_post T) hr (pv 0) (pa_cons (pe_tup (pa_cons pe_str (pa_cons (pv 5) (pa_cons (pv 2) (pa_cons (pv 6) (pa_cons (pe_op op_add (pv 7) (pe_callB (id := "len") (lenK K) (by rfl) T.n_len (by decide +kernel) (pa_cons (pv 9) pa_nil))) pa_nil)))))) pa_nil)))
      (pss_one (ps_expr (pe_methI (ok_w_act T) hr (pv 0) (pa_cons (pv 1) (pa_cons (pv 2) (pa_cons (pe_callB (id := "min") (call_min2 rfl) (by rfl) T.n_min (by decide +kernel) (pa_cons (pv 10) (pa_cons (pe_ifExp (pt_val (pe_methI (ok_w_has T) hr (pv 0) (pa_cons pe_str pa_nil))) (pe_op op_add (pv 7) (pe_callB (id := "len") (lenK K) (by rfl) T.n_len (by decide +kernel) (pa_cons (pv 9) pa_nil))) (pe_callB (id := "len") (lenK K) (by rfl) T.n_len (by decide +kernel) (pa_cons (fldK K (pv 1)) pa_nil))) pa_nil))) pa_nil))))))))))), ?_⟩
    obtain ⟨M, B⟩ := W.at_ hp
    have hi := W.lt hp
    generalize eh : m.hd i = h at B
    obtain ⟨pv0, q, rfl, hv1, hv2⟩ := im_rows.mp hv
    obtain ⟨dx, ob⟩ := B.h.ob
    refine ⟨_, rfl, pv0, _, rfl, SqT.of hv1, rfl, _, _, rfl, _, _, rfl, _, _, rfl, _, _, rfl, _, _, rfl, _, _, rfl, _, _, rfl, rfl, ?_⟩
    refine ⟨_, rfl, p, _, _, rfl, ob, rfl, rest_p B fun O1 H1 M1 B1 S1 => ?_⟩
    obtain ⟨xs, hx, hlog⟩ := im_logr.mp B1.h.log
    have hv3 := Im.keep (S1.tk B.al) _ _ hv2
    obtain ⟨ys, hy, hrows⟩ := im_logr.mp hv3
    obtain ⟨dx1, ob1⟩ := B1.h.ob
    obtain ⟨dw, qw, yw, wob, _⟩ := B1.w.ob
    dsimp only
    refine seq_have (fun σ2 H2 => σ2 = tkP L p i pv0 t s at_ ah q told ∧ H2 = H1 ∧ refuses m.pr (h.to .rests) at_ ah = false) ?_ (fun key => ?_)
    rotate_left
    · have no : refuses m.pr (h.to .rests) at_ ah = true → Q .non H1 := fun e => by
        refine fin O1 H1 rs (Nat.le_succ _) ?_ S1.all
        have em : m.take i t s at_ ah rws told = m.set i (h.to .rests) := by
          unfold Wd.take
          rw [eh]
          exact if_pos e
        rw [em]
        exact B1.w
      refine ⟨_, rfl, _, rfl, p, _, _, _, _, rfl, ob1, T.cl_Hand, T.no_Hand_log, fl_log, _, xs, rfl, .inr (SqT.of hx), _, _, rfl, rfl, _, rfl, iteD (fun e1 => ?_) (fun e1 => ?_)⟩
      · rw [hlog.length] at e1
        refine iteT (no ?_)
        unfold refuses
        rw [decide_eq_true (by omega), Bool.true_or]
      rw [hlog.length] at e1
      have f1 : ¬ (h.to .rests).log.length < at_ := by omega
      refine ⟨_, rfl, L.w, _, _, rfl, wob, rfl, has_p B1.w ⟨_, rfl, iteB (fun e2 => ?_) (fun e2 => ?_)⟩⟩
      rotate_left
      · refine iteF (key _ _ ⟨rfl, rfl, ?_⟩)
        unfold refuses
        rw [decide_eq_false f1, show m.pr.has "ahead" = false from e2]
        rfl
      refine ⟨_, rfl, _, _, rfl, rfl, _, rfl, iteD (fun e3 => ?_) (fun e3 => ?_)⟩
      rotate_left
      · refine iteF (key _ _ ⟨rfl, rfl, ?_⟩)
        unfold refuses
        rw [decide_eq_false f1, decide_eq_false (show ¬ 0 < at_ by omega)]
        simp
      have f3 : 0 < at_ := by omega
      obtain ⟨r, hr1, hr2⟩ := hlog.get (i := at_ - 1) (by omega)
      refine ⟨_, rfl, p, _, _, _, _, rfl, ob1, T.cl_Hand, T.no_Hand_log, fl_log, _, rfl, _, _, rfl, rfl, _, xs, _, _, rfl, rfl, SqT.of hx, atI_pred f3 hr1, r, _, 0, _, rfl, rfl, SqT.of hr2, rfl, _, rfl, rfl, _, rfl, ?_⟩
      rw [dec_nv]
      refine iteND (fun e4 => ?_) (fun e4 => ?_)
      · refine no ?_
        unfold refuses
        rw [show m.pr.has "ahead" = true from e2, decide_eq_true f3, decide_eq_true e4]
        simp
      · refine key _ _ ⟨rfl, rfl, ?_⟩
        unfold refuses
        rw [decide_eq_false f1, decide_eq_false (show ¬ ((h.to .rests).log.getD (at_ - 1) (0, 0)).1 ≠ ah from fun z => z e4)]
        simp
    rintro _ H2 ⟨rfl, rfl, ref⟩
    have ac : m.take i t s at_ ah rws told = ((m.set i { h.to .rests with log := cutLog m.pr (h.to .rests).log at_ rws }).post (.taken t i s (at_ + rws.length))).act i (min told (if m.pr.has "near" then at_ + rws.length else (cutLog m.pr (h.to .rests).log at_ rws).length)) := by
      unfold Wd.take
      rw [eh]
      exact if_neg (by rw [ref]; decide)
    have e13 : V.int ((at_ : Int) + (ys.length : Int)) = nv (at_ + rws.length) := by rw [hrows.length]; exact congrArg V.int (by omega)
    generalize h.to .rests = g at *
    refine seq_have (fun σ2 H4 => σ2 = tkP L p i pv0 t s at_ ah q told ∧ ∃ M4, At (.prog P w K) H4 O1 L m rs i p { g with log := cutLog m.pr g.log at_ rws } M4 ∧ Stp dA O H O1 H4 ∧ H4 q = some (.tup ys)) ?_ (fun key => ?_)
    rotate_left
    · refine ⟨_, rfl, L.w, _, _, rfl, wob, rfl, has_p B1.w ⟨_, rfl, iteB (fun e => ?_) (fun e => ?_)⟩⟩
      · have ec : cutLog m.pr g.log at_ rws = cutGo g.log at_ rws := if_pos e
        refine ⟨_, rfl, p, _, _, _, _, rfl, ob1, T.cl_Hand, T.no_Hand_log, fl_log, _, rfl, _, rfl, cut_p B1.h.log hv3 hb4 fun r H5 s5 m5 => ?_⟩
        have B5 := B1.same s5
        obtain ⟨B6, S6⟩ := B5.putProg dx1 { g with log := cutLog m.pr g.log at_ rws } r (by show Im _ (logD (cutLog m.pr g.log at_ rws)) _; rw [ec]; exact m5)
        refine ⟨_, rfl, p, _, _, _, rfl, s5 _ _ ob1, T.cl_Hand, T.no_Hand_log, by show 10 < 1000; decide, ?_⟩
        exact key _ _ ⟨rfl, _, B6, S1.all.trans ((Stp.same B1.al s5).trans S6.all), S6.tk B5.al _ _ (s5 _ _ hy)⟩
      · have e : m.pr.has "cuts" = false := e
        have ec : cutLog m.pr g.log at_ rws = g.log.take at_ ++ rws := if_neg (by rw [e]; decide)
        refine ⟨_, rfl, p, _, _, _, _, rfl, ob1, T.cl_Hand, T.no_Hand_log, fl_log, _, rfl, _, rfl, slice_to at_ hx hlog fun q1 H5 s5 m5 => ?_⟩
        obtain ⟨us, hu1, hu2⟩ := im_logr.mp m5
        refine ⟨_, _, rfl, .inl (SqT.of hu1), _, rfl, _, _, rfl, .inl (SqT.of (s5 _ _ hy)), ?_⟩
        have hlu := hu2.length
        rw [List.length_take] at hlu
        have hly := hrows.length
        have hsz : big ≤ sizeLine := by decide
        refine ⟨by rw [List.append_nil, List.length_append]; omega, fun T2 hT2 => ?_⟩
        have s6 := same_new (o := .tup (us ++ (ys ++ []))) hT2
        have s56 := s5.trans s6
        have B5 := B1.same s56
        obtain ⟨B6, S6⟩ := B5.putProg dx1 { g with log := cutLog m.pr g.log at_ rws } T2 (by
          show Im _ (logD (cutLog m.pr g.log at_ rws)) _
          rw [ec]
          refine im_logr.mpr ⟨_, upd_same, ?_⟩
          have en : us ++ (ys ++ []) = us ++ ys := by rw [List.append_nil]
          rw [show LogAt (upd H5 T2 (.tup (us ++ (ys ++ [])))) (g.log.take at_ ++ rws) (us ++ (ys ++ [])) = LogAt (upd H5 T2 (.tup (us ++ (ys ++ [])))) (g.log.take at_ ++ rws) (us ++ ys) by rw [en]]
          exact (hu2.keep (same_tk s6)).append (hrows.keep (same_tk s56)))
        refine ⟨_, rfl, p, _, _, _, rfl, s56 _ _ ob1, T.cl_Hand, T.no_Hand_log, by show 10 < 1000; decide, ?_⟩
        exact key _ _ ⟨rfl, _, B6, S1.all.trans ((Stp.same B1.al s56).trans S6.all), S6.tk B5.al _ _ (s56 _ _ hy)⟩
    rintro _ H4 ⟨rfl, M4, B4, S4, hy4⟩
    obtain ⟨dw4, qw4, yw4, wob4, _⟩ := B4.w.ob
    refine ⟨_, rfl, L.w, _, _, rfl, wob4, rfl, _, rfl, _, rfl, _, rfl, _, rfl, _, rfl, q, ys, rfl, .inr (SqT.of hy4), _, _, rfl, rfl, by show 5 ≤ sizeLine; decide, fun T1 hT => ?_⟩
    have sm := same_new (o := .tup [.str "taken", nv t, nv i, nv s, .int ((at_ : Int) + (ys.length : Int))]) hT
    have B5 := B4.same sm
    refine post_p B5.w (l := .taken t i s (at_ + rws.length)) (im_taken.mpr ⟨T1, rfl, by rw [upd_same]; dsimp only; rw [e13]⟩) hb1 hb5 fun H6 rs6 h6 W6 S6 => ?_
    obtain ⟨M6, B6⟩ := W6.at_ hp
    rw [Wd.post_hd, Wd.hd_set hi] at B6
    obtain ⟨xs6, hx6, hl6⟩ := im_logr.mp B6.h.log
    obtain ⟨dx6, ob6⟩ := B6.h.ob
    obtain ⟨dw6, qw6, yw6, wob6, _⟩ := W6.ob
    have hy6 := S6.tk B5.al _ _ (sm _ _ hy4)
    refine ⟨_, rfl, L.w, _, _, rfl, wob6, rfl, _, rfl, _, rfl, _, rfl, tIf_have (nv (if m.pr.has "near" then at_ + rws.length else (cutLog m.pr g.log at_ rws).length)) ?_ (fun k => ?_)⟩
    · refine ⟨_, _, rfl, ?_⟩
      show spActP P w K [.ref L.w, .ref p, nv i, V.int (if ((if m.pr.has "near" then at_ + rws.length else (cutLog m.pr g.log at_ rws).length : Nat) : Int) < (told : Int) then ((if m.pr.has "near" then at_ + rws.length else (cutLog m.pr g.log at_ rws).length : Nat) : Int) else (told : Int))] H6 _ _
      rw [min_if]
      refine act_p W6 hp (by rw [Wd.post_acts]; exact hb2) fun H8 W8 S8 => ?_
      refine fin O1 H8 rs6 h6 (by rw [ac]; exact W8) ?_
      exact S4.trans ((Stp.same B4.al sm).trans (S6.trans S8))
    · refine ⟨_, rfl, L.w, _, _, rfl, wob6, rfl, has_p W6 ⟨_, rfl, iteB (fun e => ?_) (fun e => ?_)⟩⟩
      · rw [Wd.post_pr] at e
        rw [if_pos (show m.pr.has "near" = true from e)] at k
        refine ⟨_, rfl, _, rfl, q, ys, rfl, .inr (SqT.of hy6), _, _, rfl, rfl, ?_⟩
        dsimp only
        rw [e13]
        exact k
      · rw [Wd.post_pr] at e
        rw [if_neg (by rw [show m.pr.has "near" = false from e]; decide)] at k
        refine ⟨_, rfl, p, _, _, _, _, rfl, ob6, T.cl_Hand, T.no_Hand_log, fl_log, _, xs6, rfl, .inr (SqT.of hx6), ?_⟩
        rw [hl6.length]
        exact k
end
end Sr

set_option Elab.async false
set_option linter.all false
set_option maxRecDepth 100000
set_option maxHeartbeats 4000000
namespace Sr
open PySem PySem.Spec PyProof.Rows L2
local macro_rules | `(tactic| walk_at "hp") => `(tactic| (unfold upd at *; grind))
section
variable {P : Program} {w : World} {base : Heap} {K : PySem.W.Frag} {mg : Str → Option Value}
def tell (h : Hd) : Lt → Hd
  | .taken _ s _ c => { h with known := aput h.known s (max c ((alook h.known s).getD 0)) }
  | .seen _ s _ n => h.seen n s
  | _ => h
def told1 : Lt → List V → Prop
  | .taken _ _ _ c, xs => xs = [nv c]
  | .seen _ _ _ n, xs => xs = [nv n]
  | _, _ => True
theorem addNew_dict (l : List Nat) (s : Nat) : putK (l.map fun n : Nat => ((.inl (n : Int), .bl true) : Key × V)) (.inl (s : Int)) (.bl true) = (addNew l s).map fun n : Nat => (.inl (n : Int), .bl true) := by
  have e1 := putK_kx (fun _ : Unit => V.bl true) s () (l.map fun n => (n, ()))
  rw [List.map_map] at e1
  have e2 : (l.map ((kx fun _ : Unit => V.bl true) ∘ fun n => (n, ()))) = l.map fun n : Nat => ((.inl (n : Int), .bl true) : Key × V) := rfl
  rw [e2] at e1
  rw [e1]
  unfold aput addNew
  have e3 : ((l.map fun n => (n, ())).any fun p => decide (p.1 = s)) = decide (s ∈ l) := by
    rw [List.any_map]
    by_cases h : s ∈ l
    · rw [decide_eq_true h]
      exact List.any_eq_true.mpr ⟨s, h, by simp⟩
    · rw [decide_eq_false h]
      refine List.any_eq_false.mpr fun x hx => ?_
      simp only [Function.comp, decide_eq_true_eq]
      rintro rfl
      exact h hx
  rw [e3]
  by_cases h : s ∈ l
  · rw [if_pos (decide_eq_true h), if_pos h, List.map_map, List.map_map]
    refine List.map_congr_left fun x _ => ?_
    simp only [Function.comp]
    by_cases q : x = s
    · rw [if_pos q]; rfl
    · rw [if_neg q]; rfl
  · rw [if_neg (by simp [h]), if_neg h, List.map_append, List.map_append, List.map_map]
    rfl
@[irreducible] def spTold (P : Program) (w : World) (K : PySem.W.Frag) : Sp := fun vs H Q _ => ∃ O L m rs i p h M l rl xs n, vs = [.ref p, .str (Lt.word l), nv (Lt.snd l), .ref rl] ∧ At (.prog P w K) H O L m rs i p h M ∧ H rl = some (.lst xs) ∧ told1 l xs ∧ HFit n m.asked.length h ∧ n < big ∧
  ∀ H1 M1, At (.prog P w K) H1 O L m rs i p (tell h l) M1 → Stp (dH i) O H O H1 → Q .non H1
theorem sc_p_hear_told : FnScope ["hand", "word", "sender", "rest", "seen"] ["hand", "word", "sender", "rest"] (defScope s_p_hear_told) := ⟨rfl, rfl, rfl, by decide +kernel, rfl, by decide +kernel, by decide +kernel⟩
theorem ok_p_hear_told (T : Tx w K mg) : FnI P w K mg base "hear_told" (0 + 1) ["hand", "word", "sender", "rest"] (spTold P w K) := by
  refine FnI.mk' T.f_p_hear_told T.g_hear_told sc_p_hear_told (fun _ _ _ _ _ _ us hl => match us, hl with | [_, _, _, _], _ => rfl) (fun vs H Q E h => ?_) (fun cdv A outer s H vs Q E hr h => ?_)
  all_goals unfold spTold at h
  · obtain ⟨_, _, _, _, _, _, _, _, _, _, _, _, rfl, _⟩ := h
    rfl
  · obtain ⟨O, L, m, rs, i, p, h, M, l, rl, xs, n, rfl, B, hrl, ht, hf, hn, fin⟩ := h
    have hu := hu_of hr
    refine ⟨_, (pss_one (ps_if (pt_cmpR op_eq (pv 1) pe_str (nomark _)) (pss_one (ps_dput hu (fldK K (pv 0)) (pv 2) (pe_callB (id := "max") (call_max2 rfl) (by rfl) T.n_max (by decide +kernel) (pa_cons (pe_ix (ixL K) (pv 3) pe_int (fun _ _ => rfl)) (pa_cons (pe_dget2 hu (fldK K (pv 0)) (pv 2) pe_int ⟨rfl, rfl, rfl, rfl⟩) pa_nil))) rfl)) (pss_one (ps_if (pw_and (pt_cmpR op_eq (pv 1) pe_str (nomark _)) (pw_and1 (pt_cmp (pc_din hu (pe_ix (ixL K) (pv 3) pe_int (fun _ _ => rfl)) (fldK K (pv 0)))))).pt (pss_cons (ps_set (i := 4) sc_p_hear_told.nd rfl (.inl rfl) (pe_dget hu (fldK K (pv 0)) (pe_ix (ixL K) (pv 3) pe_int (fun _ _ => rfl)) (fun _ _ => rfl)))
      (pss_one (ps_dput hu (pv 4) (pv 2) pe_bl rfl))) pss_nil)))), ?_⟩
    obtain ⟨dx, ob⟩ := B.h.ob
    have idle : tell h l = h → l.word ≠ "taken" → l.word ≠ "seen" → Q .non H := fun e _ _ => fin H M (by rw [e]; exact B) (Stp.refl B.al)
    cases l with
    | ask t s a c => exact skipE rfl (by dsimp only [Lt.word]; decide +kernel) ⟨_, rfl, rfl, _, rfl, iteD (fun z => (str_no (by dsimp only [Lt.word]; decide +kernel) z).elim) fun _ => iteF (idle rfl (by dsimp only [Lt.word]; decide +kernel) (by dsimp only [Lt.word]; decide +kernel))⟩
    | give t s u => exact skipE rfl (by dsimp only [Lt.word]; decide +kernel) ⟨_, rfl, rfl, _, rfl, iteD (fun z => (str_no (by dsimp only [Lt.word]; decide +kernel) z).elim) fun _ => iteF (idle rfl (by dsimp only [Lt.word]; decide +kernel) (by dsimp only [Lt.word]; decide +kernel))⟩
    | rows t s a b c d => exact skipE rfl (by dsimp only [Lt.word]; decide +kernel) ⟨_, rfl, rfl, _, rfl, iteD (fun z => (str_no (by dsimp only [Lt.word]; decide +kernel) z).elim) fun _ => iteF (idle rfl (by dsimp only [Lt.word]; decide +kernel) (by dsimp only [Lt.word]; decide +kernel))⟩
    | see t s k => exact skipE rfl (by dsimp only [Lt.word]; decide +kernel) ⟨_, rfl, rfl, _, rfl, iteD (fun z => (str_no (by dsimp only [Lt.word]; decide +kernel) z).elim) fun _ => iteF (idle rfl (by dsimp only [Lt.word]; decide +kernel) (by dsimp only [Lt.word]; decide +kernel))⟩
    | taken t s u c =>
      dsimp only [Lt.word, Lt.snd, told1] at *
      subst ht
      have ek : (valV (h.known.map kn) (.inl (s : Int))).getD (.int 0) = nv ((alook h.known s).getD 0) := by
        rw [kn_eq, valV_kx]
        cases alook h.known s <;> rfl
      refine hitE rfl ?_
      refine ⟨_, rfl, rl, _, 0, _, rfl, rfl, SqL.of hrl, rfl, _, rfl, p, _, _, _, _, rfl, ob, T.cl_Hand, T.no_Hand_known, fl_known, M.k, rfl, .inl ⟨_, .inl B.h.kn⟩, _, rfl, _, DGet.k (k := .inl (s : Int)) B.h.kn, ?_⟩
      rw [ek]
      refine ⟨_, _, rfl, ?_⟩
      rw [max_if]
      have hl2 : (h.known.map kn).length < sizeLine := by
        rw [List.length_map]
        exact big_line (Nat.lt_of_le_of_lt hf.known hn)
      refine ⟨_, rfl, p, _, _, _, _, rfl, ob, T.cl_Hand, T.no_Hand_known, fl_known, _, rfl, M.k, _, rfl, DPut.k (k := .inl (s : Int)) B.h.kn hl2, ?_⟩
      have ep : putK (h.known.map kn) (.inl (s : Int)) (nv (max c ((alook h.known s).getD 0))) = (aput h.known s (max c ((alook h.known s).getD 0))).map kn := by
        rw [kn_eq, putK_kx]
      rw [ep]
      obtain ⟨B3, S3⟩ := B.knownIn (aput h.known s (max c ((alook h.known s).getD 0)))
      exact fin _ _ B3 S3
    | seen t s u k =>
      dsimp only [Lt.word, Lt.snd, told1] at *
      subst ht
      have ew : h.wishes = M.ws.map (mv (Prod.fst (α := List Nat) (β := Addr))) := B.h.ws
      have ev : valV (M.ws.map wK) (.inl (k : Int)) = (alook M.ws k).map (fun y => V.ref y.2) := by rw [wK_eq, valV_kx]
      have el : alook h.wishes k = (alook M.ws k).map Prod.fst := by rw [ew, alook_mv]
      refine skipE rfl (by decide +kernel) ⟨_, rfl, rfl, _, rfl, iteD (fun _ => ?_) fun z => (z rfl).elim⟩
      refine ⟨_, rfl, rl, _, 0, _, rfl, rfl, SqL.of hrl, rfl, _, rfl, p, _, _, _, _, rfl, ob, T.cl_Hand, T.no_Hand_wishes, fl_wishes, M.w, _, rfl, DGet.k (k := .inl (k : Int)) B.h.wi, _, rfl, ?_⟩
      rw [ev]
      cases ea : alook M.ws k with
      | none =>
        rw [ea] at el
        refine iteF (fin H M ?_ (Stp.refl B.al))
        have eg : tell h (.seen t s u k) = h := by show h.seen k s = h; unfold Hd.seen; rw [el]; rfl
        rw [eg]
        exact B
      | some y =>
        obtain ⟨l, a⟩ := y
        rw [ea] at el ev
        have eg : tell h (.seen t s u k) = { h with wishes := aput h.wishes k (addNew l s) } := by show h.seen k s = _; unfold Hd.seen; rw [el]; rfl
        have hsn := B.h.sn _ (alook_mem ea)
        dsimp only at hsn
        refine iteT ?_
        refine ⟨_, rfl, p, _, _, _, _, rfl, ob, T.cl_Hand, T.no_Hand_wishes, fl_wishes, _, rfl, rl, _, 0, _, rfl, rfl, SqL.of hrl, rfl, M.w, _, rfl, by have := DGet.k (k := .inl (k : Int)) B.h.wi; rw [ev] at this; exact this, ?_⟩
        have wlen := (hf.wl _ (by rw [ew]; exact List.mem_map_of_mem (alook_mem ea) : (mv Prod.fst (k, l, a)) ∈ h.wishes)).2
        have hsl : (l.map fun n : Nat => ((.inl (n : Int), .bl true) : Key × V)).length < sizeLine := by
          rw [List.length_map]
          exact big_line (Nat.lt_of_le_of_lt wlen hn)
        refine ⟨_, rfl, _, rfl, a, _, rfl, DPut.k (k := .inl (s : Int)) hsn.1 hsl, ?_⟩
        rw [addNew_dict]
        obtain ⟨B2, S2⟩ := B.seenIn ea hf.nd (addNew l s)
        rw [← eg] at B2
        exact fin _ _ B2 S2
theorem told_p {O : Own} {H : Hp} {L : WL} {m : Wd} {rs : List Dd} {i n : Nat} {p rl : Addr} {h : Hd} {M : HL} {l : Lt} {xs : List V} {Q : VK} {E : XK} (B : At (.prog P w K) H O L m rs i p h M) (hrl : H rl = some (.lst xs)) (ht : told1 l xs) (hf : HFit n m.asked.length h) (hn : n < big)
    (fin : ∀ H1 M1, At (.prog P w K) H1 O L m rs i p (tell h l) M1 → Stp (dH i) O H O H1 → Q .non H1) : spTold P w K [.ref p, .str l.word, nv l.snd, .ref rl] H Q E := by
  unfold spTold
  exact ⟨O, L, m, rs, i, p, h, M, l, rl, xs, n, rfl, B, hrl, ht, hf, hn, fin⟩
@[irreducible] def spHearP (P : Program) (w : World) (K : PySem.W.Frag) : Sp := fun vs H Q _ => ∃ O L m rs i p l v n, vs = [.ref (WL.w L), .ref p, nv i, v] ∧ WorldIn (.prog P w K) H O L m rs ∧ L.ps[i]? = some p ∧ Im H (Lt.data l) v ∧ Fit n m ∧ n < big ∧ LFit n l ∧ rs.length < big ∧
  ∀ O' H' rs', rs'.length ≤ rs.length + 1 → WorldIn (.prog P w K) H' O' L (m.hear i l) rs' → Stp dA O H O' H' → Q .non H'
def rest1 : Lt → List V → Prop
  | .ask _ _ _ _, xs => ∃ q, xs = [.ref q]
  | .give _ _ u, xs => xs = [nv u]
  | .rows _ _ _ _ _ _, xs => xs.length = 4
  | .taken _ _ u c, xs => xs = [nv u, nv c]
  | .see _ _ n, xs => xs = [nv n]
  | .seen _ _ u n, xs => xs = [nv u, nv n]
theorem im_rest {H : Hp} {v : V} {l : Lt} (h : Im H l.data v) : ∃ b xs, v = .ref b ∧ H b = some (.tup (.str l.word :: nv l.term :: nv l.snd :: xs)) ∧ rest1 l xs ∧ xs.length ≤ 4 := by
  cases l with
  | ask t s a b => obtain ⟨p, q, e, h1, _⟩ := im_ask.mp h; exact ⟨p, _, e, h1, ⟨q, rfl⟩, by show 1 ≤ 4; decide⟩
  | give t s u => obtain ⟨p, e, h1⟩ := im_give.mp h; exact ⟨p, _, e, h1, rfl, by show 1 ≤ 4; decide⟩
  | rows t s a b c d => obtain ⟨p, q, e, h1, _⟩ := im_rows.mp h; exact ⟨p, _, e, h1, rfl, by show 4 ≤ 4; decide⟩
  | taken t s u c => obtain ⟨p, e, h1⟩ := im_taken.mp h; exact ⟨p, _, e, h1, rfl, by show 2 ≤ 4; decide⟩
  | see t s n => obtain ⟨p, e, h1⟩ := im_see.mp h; exact ⟨p, _, e, h1, rfl, by show 1 ≤ 4; decide⟩
  | seen t s u n => obtain ⟨p, e, h1⟩ := im_seen.mp h; exact ⟨p, _, e, h1, rfl, by show 2 ≤ 4; decide⟩
def heP (L : WL) (p : Addr) (i : Nat) (v : V) (wd : Str) (t s : Nat) (rl : Addr) : L2.St := [some (.ref L.w), some (.ref p), some (nv i), some v, some (.str wd), some (nv t), some (nv s), some (.ref rl)]
theorem sc_w_hear : FnScope ["self", "hand", "number", "letter", "word", "term", "sender", "rest"] ["self", "hand", "number", "letter"] (defScope s_w_hear) := ⟨rfl, rfl, rfl, by decide +kernel, rfl, by decide +kernel, by decide +kernel⟩
theorem ok_w_hear (T : Tx w K mg) : MeI P w K mg base (He.ga K "World") "hear" (3 + 1) ["self", "hand", "number", "letter"] (spHearP P w K) := by
  refine MeI.mk' T.f_w_hear T.cl_World T.m_World_hear sc_w_hear (fun _ _ _ _ _ _ us hl => match us, hl with | [_, _, _, _], _ => rfl) (fun vs H Q E h => ?_) (fun cdv A outer s H vs Q E hr h => ?_)
  all_goals unfold spHearP at h
  · obtain ⟨_, _, _, _, _, _, _, _, _, rfl, _⟩ := h
    rfl
  · obtain ⟨O, L, m, rs, i, p, l, v, n, rfl, W, hp, hv, fit, hn, lfit, hb5, fin⟩ := h
    have hu := hu_of hr
    refine ⟨_, (pss_cons (ps_asg (pv 3) (pg_starTup rfl (pgs_cons (pg_name (i := 4) sc_w_hear.nd rfl (.inl rfl)) (pgs_cons (pg_name (i := 5) sc_w_hear.nd rfl (.inl rfl)) (pgs_cons (pg_name (i := 6) sc_w_hear.nd rfl (.inl rfl)) (pgs_cons (pg_name (i := 7) sc_w_hear.nd rfl (.inl rfl)) pgs_nil))))))
      (pss_cons (ps_if (pt_cmpR op_lt (pv 5) (fldK K (pv 1)) (nomark _)) (pss_one ps_retN) pss_nil)
      (pss_cons (ps_if (pt_cmpR op_gt (pv 5) (fldK K (pv 1)) (nomark _)) (pss_one (ps_expr (pe_methI (ok_h_rise T) hr (pv 1) (pa_cons (pv 5) pa_nil)))) pss_nil)
      (pss_one (ps_if (pt_cmpR op_eq (pv 4) pe_str (nomark _)) (pss_one (ps_if (pw_and (pt_cmpR op_in_seq (fldK K (pv 1)) (pe_tup (pa_cons pe_non (pa_cons (pv 6) pa_nil))) rfl) (pw_and1 (pt_val (pe_methI (ok_w_lets T) hr (pv 0) (pa_cons (pv 1) (pa_cons (pe_ix (ixL K) (pv 7) pe_int (fun _ _ => rfl)) pa_nil)))))).pt (pss_cons (ps_fld (pv 1) (pv 6) rfl)
      (pss_one (ps_expr (pe_methI (ok_w_post T) hr (pv 0) (pa_cons (pe_tup (pa_cons pe_str (pa_cons (pv 5) (pa_cons (pv 2) (pa_cons (pv 6) pa_nil))))) pa_nil))))) pss_nil)) (pss_one (ps_if (pt_cmpR op_eq (pv 4) pe_str (nomark _)) (pss_one (ps_if (pt_cmpR op_ne (fldK K (pv 1)) pe_str (nomark _)) (pss_one (ps_expr (pe_methI (ok_w_take T) hr (pv 0) (pa_cons (pv 1) (pa_cons (pv 2) (pa_cons (pv 3) pa_nil)))))) pss_nil)) (pss_one (ps_if (pt_cmpR op_eq (pv 4) pe_str (nomark _)) (pss_one (ps_expr (pe_methI (ok_w_post T) hr (pv 0) (pa_cons (pe_tup (pa_cons pe_str (pa_cons (pv 5) (pa_cons (pv 2) (pa_cons (pv 6) (pa_cons (pe_ix (ixL K) (pv 7) pe_int (fun _ _ => rfl)) pa_nil)))))) pa_nil)))) (pss_one (ps_if (pw_and (pt_cmpR op_eq (pv 4) pe_str (nomark _)) (pw_and1 (pt_cmpR op_eq (fldK K (pv 1)) pe_str (nomark _)))).pt (pss_one (ps_dput hu (fldK K (pv 1)) (pv 6) pe_bl rfl)) (pss_one (ps_if (pt_cmpR op_eq (fldK K (pv 1)) pe_str (nomark _)) (pss_one (ps_expr (pe_callI (ok_p_hear_told (P := P) T) hr (pa_cons (pv 1) (pa_cons (pv 4) (pa_cons (pv 6) (pa_cons (pe_slice (slL K) (pv 7) (po_some pe_int) po_none) pa_nil))))))) pss_nil))))))))))))), ?_⟩
    obtain ⟨M, B⟩ := W.at_ hp
    have hi := W.lt hp
    obtain ⟨b, xs, rfl, hvb, hrest, hxl⟩ := im_rest hv
    generalize eh : m.hd i = h at B
    have hfit := fit.hd i
    rw [eh] at hfit
    refine ⟨_, rfl, b, _, rfl, SqT.of hvb, by show 3 ≤ xs.length + 3; omega, by show xs.length + 3 ≤ 1000; omega, fun rl hrl => ⟨_, _, rfl, _, _, rfl, _, _, rfl, _, _, rfl, rfl, ?_⟩⟩
    have s1 := same_new (o := .lst xs) hrl
    have Bz := B.same s1
    have orl : O rl = none := B.al.fresh hrl
    have hrlz : (upd H rl (.lst xs)) rl = some (.lst xs) := upd_same
    obtain ⟨dxz, obz⟩ := Bz.h.ob
    dsimp only
    refine ⟨_, rfl, _, rfl, p, _, _, _, _, rfl, obz, T.cl_Hand, T.no_Hand_term, fl_term, _, _, rfl, rfl, _, rfl, iteD (fun e1 => ?_) (fun e1 => ?_)⟩
    · have em : m.hear i l = m := by
        unfold Wd.hear
        rw [eh]
        exact if_pos (by omega)
      rw [em] at fin
      exact fin O _ rs (Nat.le_succ _) (W.same s1) (Stp.same W.al s1)
    have ne : ¬ l.term < h.term := by omega
    dsimp only [tNext]
    refine seq_have (fun σ2 H2 => σ2 = heP L p i (.ref b) l.word l.term l.snd rl ∧ ∃ O1 M1, At (.prog P w K) H2 O1 L m rs i p (h.meet l.term) M1 ∧ Stp dA O H O1 H2 ∧ H2 rl = some (.lst xs)) ?_ (fun key => ?_)
    rotate_left
    · refine ⟨_, rfl, _, rfl, p, _, _, _, _, rfl, obz, T.cl_Hand, T.no_Hand_term, fl_term, _, _, rfl, rfl, _, rfl, iteD (fun e2 => ?_) (fun e2 => ?_)⟩
      · refine ⟨_, rfl, p, _, _, rfl, obz, rfl, _, rfl, rise_p Bz fun O2 H2 M2 B2 S2 => ?_⟩
        refine key _ _ ⟨rfl, O2, M2, ?_, (Stp.same B.al s1).trans S2.all, S2.keep _ _ hrlz orl⟩
        have e' : h.meet l.term = _ := if_pos (show h.term < l.term by omega)
        rw [e']
        exact B2
      · refine key _ _ ⟨rfl, O, M, ?_, Stp.same B.al s1, hrlz⟩
        have e' : h.meet l.term = _ := if_neg (show ¬ h.term < l.term by omega)
        rw [e']
        exact Bz
    rintro _ H1 ⟨rfl, O1, M1, B1, S1, hrl1⟩
    have f1 : HFit n m.asked.length (h.meet l.term) := hfit.meet _
    have hv1 := Im.keep (S1.tk B.al) _ _ hv
    have he : ∀ O2 H2 rs', rs'.length ≤ rs.length + 1 → WorldIn (.prog P w K) H2 O2 L (hear1 m.pr (m.set i (h.meet l.term)) i (h.meet l.term) l) rs' → Stp dA O H O2 H2 → Q .non H2 := by
      intro O2 H2 rs' hr W2 S2
      refine fin O2 H2 rs' hr ?_ S2
      rw [hear_eq m i l (by rw [eh]; exact ne), eh]
      exact W2
    clear fin
    have hb1 : m.lts.length < big := Nat.lt_of_le_of_lt fit.lts hn
    have hb2 : m.acts.length < big := Nat.lt_of_le_of_lt fit.acts hn
    obtain ⟨dx1, ob1⟩ := B1.h.ob
    obtain ⟨dw, qw, yw, wob, _⟩ := B1.w.ob
    have lead : ∀ (ys : List V), H1 rl = some (.lst ys) → told1 l (ys.drop 1) → (h.meet l.term).role = .leads → l.to? ≠ none → hear1 m.pr (m.set i (h.meet l.term)) i (h.meet l.term) l = m.set i (tell (h.meet l.term) l) → tCall (spTold P w K) [] E0 (tCons (tVar 1) (tCons (tVar 4) (tCons (tVar 6) (tCons (tSl (rSlL K) (tVar 7) (tPart (tC (.int 1))) tNoPart) tNil)))) (heP L p i (.ref b) l.word l.term l.snd rl) H1 (fun _ H2 => Q .non H2) := by
      intro ys hys ht _ _ e
      refine ⟨_, rfl, _, rfl, _, rfl, _, rfl, _, rfl, ?_⟩
      dsimp only [tNoPart]
      refine ⟨rl, ys, rfl, SqL.of hys, fun r2 hr2 => ?_⟩
      have ec : cutV ys (some 1) none = ys.drop 1 := by
        unfold cutV
        rw [HT.sIx_none, show (some (1 : Int)) = some ((1 : Nat) : Int) from rfl, HT.sIx_nat]
        have := cut_list ys 1 ys.length
        rw [Nat.min_self] at this
        rw [this, List.take_of_length_le (by simp)]
      rw [ec]
      have s2 := same_new (o := .lst (ys.drop 1)) hr2
      refine told_p (B1.same s2) upd_same ht f1 hn fun H3 M3 B3 S3 => ?_
      refine he O1 H3 rs (Nat.le_succ _) ?_ (S1.trans ((Stp.same B1.al s2).trans S3.all))
      rw [e]
      exact B3.w
    cases l with
    | ask t s a c =>
      dsimp only [Lt.term, Lt.snd, Lt.word] at *
      generalize h.meet t = g at *
      obtain ⟨q, rfl⟩ := hrest
      obtain ⟨b', q', eb, hvb1, hq⟩ := im_ask.mp hv1
      cases eb
      have eq0 := S1.tk B.al _ _ hvb
      rw [hvb1] at eq0
      injection eq0 with eq0
      injection eq0 with eq0
      simp only [List.cons.injEq, and_true, true_and] at eq0
      injection eq0 with eq0
      subst eq0
      refine hitE rfl ?_
      refine ⟨_, rfl, p, _, _, _, _, rfl, ob1, T.cl_Hand, T.no_Hand_vote, fl_vote, _, rfl, by show 2 ≤ sizeLine; decide, fun T1 hT => ?_⟩
      have sm := same_new (o := .tup [.non, nv s]) hT
      have B2 := B1.same sm
      refine ⟨T1, _, rfl, .inr (SqT.of upd_same), flat_vote _, rfl, _, rfl, ?_⟩
      show (if inV (voteV g.vote) [.non, nv s] = true then _ else _)
      rw [inV_vote]
      refine iteD (fun e3 => ?_) (fun e3 => ?_)
      rotate_left
      · refine iteF (he O1 _ rs (Nat.le_succ _) ?_ (S1.trans (Stp.same B1.al sm)))
        have em : hear1 m.pr (m.set i g) i g (.ask t s a c) = m.set i g := if_neg fun z => e3 z.1
        rw [em]
        exact B2.w
      refine ⟨_, rfl, L.w, _, _, rfl, sm _ _ wob, rfl, _, rfl, _, rfl, rl, _, 0, _, rfl, rfl, SqL.of (sm _ _ hrl1), rfl, ?_⟩
      show spLetsP P w K [.ref L.w, .ref p, .ref q'] _ _ _
      unfold spLetsP
      refine ⟨O1, L, _, rs, i, p, a, c, q', rfl, B2.w, hp, sm _ _ hq, fun H3 s3 => ⟨_, rfl, ?_⟩⟩
      rw [Wd.hd_set hi]
      have B3 := B2.same s3
      refine iteB (fun e4 => ?_) (fun e4 => ?_)
      · obtain ⟨B4, S4⟩ := B3.putProg dx1 { g with vote := some s } M1.l B3.h.log
        obtain ⟨dw4, qw4, yw4, wob4, _⟩ := B4.w.ob
        refine ⟨_, rfl, _, rfl, p, _, _, _, rfl, (sm.trans s3) _ _ ob1, T.cl_Hand, T.no_Hand_vote, by show 10 < 1000; decide, ?_⟩
        refine ⟨_, rfl, L.w, _, _, rfl, wob4, rfl, _, rfl, _, rfl, _, rfl, by show 4 ≤ sizeLine; decide, fun T2 hT2 => ?_⟩
        have sm2 := same_new (o := .tup [.str "give", nv t, nv i, nv s]) hT2
        refine post_p (B4.same sm2).w (l := .give t i s) (im_give.mpr ⟨T2, rfl, upd_same⟩) hb1 hb5 fun H5 rs5 h5 W5 S5 => ?_
        refine he O1 H5 rs5 h5 ?_ (S1.trans ((Stp.same B1.al (sm.trans s3)).trans (S4.all.trans ((Stp.same S4.al sm2).trans S5))))
        have em : hear1 m.pr (m.set i g) i g (.ask t s a c) = _ := if_pos ⟨e3, e4⟩
        rw [em, Wd.set_set]
        exact W5
      · have e4 : lets m.pr.look (a, c) g.pair = false := e4
        refine he O1 _ rs (Nat.le_succ _) ?_ (S1.trans (Stp.same B1.al (sm.trans s3)))
        have em : hear1 m.pr (m.set i g) i g (.ask t s a c) = m.set i g := if_neg fun z => by rw [e4] at z; cases z.2
        rw [em]
        exact B3.w
    | rows t s at_ ah rws told =>
      dsimp only [Lt.term, Lt.snd, Lt.word] at *
      generalize h.meet t = g at *
      refine skipE rfl (by decide +kernel) (hitE rfl ?_)
      refine ⟨_, rfl, p, _, _, _, _, rfl, ob1, T.cl_Hand, T.no_Hand_role, fl_role, rfl, _, rfl, iteND (fun e3 => ?_) (fun e3 => ?_)⟩
      · have em : hear1 m.pr (m.set i g) i g (.rows t s at_ ah rws told) = _ := if_neg fun z => e3 (role_iff (k := .leads).mpr z)
        rw [em] at he
        refine ⟨_, rfl, L.w, _, _, rfl, wob, rfl, _, rfl, _, rfl, _, rfl, ?_⟩
        show spTakeP P w K [.ref L.w, .ref p, nv i, .ref b] _ _ _
        unfold spTakeP
        exact ⟨O1, L, _, rs, i, p, t, s, at_, ah, rws, told, _, rfl, B1.w, hp, hv1, hb1, hb2, hb5, Nat.lt_of_le_of_lt lfit hn, fun O3 H3 rs3 h3 W3 S3 => he O3 H3 rs3 h3 W3 (S1.trans S3)⟩
      · refine he O1 H1 rs (Nat.le_succ _) ?_ S1
        have em : hear1 m.pr (m.set i g) i g (.rows t s at_ ah rws told) = m.set i g := if_pos (role_iff (k := .leads).mp e3)
        rw [em]
        exact B1.w
    | see t s k =>
      dsimp only [Lt.term, Lt.snd, Lt.word, rest1] at *
      generalize h.meet t = g at *
      subst hrest
      refine skipE rfl (by decide +kernel) (skipE rfl (by decide +kernel) (hitE rfl ?_))
      refine ⟨_, rfl, L.w, _, _, rfl, wob, rfl, _, rfl, _, rfl, _, rfl, _, rfl, rl, _, 0, _, rfl, rfl, SqL.of hrl1, rfl, by show 5 ≤ sizeLine; decide, fun T1 hT => ?_⟩
      have sm := same_new (o := .tup [.str "seen", nv t, nv i, nv s, nv k]) hT
      refine post_p (B1.same sm).w (l := .seen t i s k) (im_seen.mpr ⟨T1, rfl, upd_same⟩) hb1 hb5 fun H5 rs5 h5 W5 S5 => ?_
      exact he O1 H5 rs5 h5 W5 (S1.trans ((Stp.same B1.al sm).trans S5))
    | give t s u =>
      dsimp only [Lt.term, Lt.snd, Lt.word, rest1] at *
      generalize h.meet t = g at *
      refine skipE rfl (by decide +kernel) (skipE rfl (by decide +kernel) (skipE rfl (by decide +kernel) ?_))
      refine ⟨_, rfl, rfl, _, rfl, iteD (fun _ => ?_) (fun z => (z rfl).elim)⟩
      refine ⟨_, rfl, p, _, _, _, _, rfl, ob1, T.cl_Hand, T.no_Hand_role, fl_role, rfl, _, rfl, iteD (fun e3 => ?_) (fun e3 => ?_)⟩
      · have em : hear1 m.pr (m.set i g) i g (.give t s u) = _ := if_pos (role_iff (k := .asks).mp e3)
        rw [Wd.set_set] at em
        have hsl : (g.got.map fun n : Nat => ((.inl (n : Int), .bl true) : Key × V)).length < sizeLine := by
          rw [List.length_map]
          exact big_line (Nat.lt_of_le_of_lt f1.got hn)
        refine ⟨_, rfl, p, _, _, _, _, rfl, ob1, T.cl_Hand, T.no_Hand_got, fl_got, _, rfl, M1.g, _, rfl, DPut.k (k := .inl (s : Int)) B1.h.got hsl, ?_⟩
        rw [addNew_dict]
        obtain ⟨B2, S2⟩ := B1.gotIn (addNew g.got s)
        refine he O1 _ rs (Nat.le_succ _) ?_ (S1.trans S2.all)
        rw [em]
        exact B2.w
      · have e3' : ¬ g.role = .asks := fun z => e3 (role_iff (k := .asks).mpr z)
        have em : hear1 m.pr (m.set i g) i g (.give t s u) = m.set i g := if_neg e3'
        refine ⟨_, rfl, p, _, _, _, _, rfl, ob1, T.cl_Hand, T.no_Hand_role, fl_role, rfl, _, rfl, iteD (fun e4 => ?_) (fun e4 => ?_)⟩
        · exact lead _ hrl1 trivial (role_iff (k := .leads).mp e4) (by intro z; cases z) em
        · refine he O1 H1 rs (Nat.le_succ _) ?_ S1
          rw [em]
          exact B1.w
    | taken t s u c =>
      dsimp only [Lt.term, Lt.snd, Lt.word, rest1] at *
      generalize h.meet t = g at *
      subst hrest
      refine skipE rfl (by decide +kernel) (skipE rfl (by decide +kernel) (skipE rfl (by decide +kernel) ⟨_, rfl, rfl, _, rfl, iteD (fun z => (str_no (by decide +kernel) z).elim) fun _ => iteF ?_⟩))
      refine ⟨_, rfl, p, _, _, _, _, rfl, ob1, T.cl_Hand, T.no_Hand_role, fl_role, rfl, _, rfl, iteD (fun e4 => ?_) (fun e4 => ?_)⟩
      · have em : hear1 m.pr (m.set i g) i g (.taken t s u c) = _ := if_pos (role_iff (k := .leads).mp e4)
        rw [Wd.set_set] at em
        exact lead _ hrl1 rfl (role_iff (k := .leads).mp e4) (by intro z; cases z) em
      · refine he O1 H1 rs (Nat.le_succ _) ?_ S1
        have em : hear1 m.pr (m.set i g) i g (.taken t s u c) = m.set i g := if_neg fun z => e4 (role_iff (k := .leads).mpr z)
        rw [em]
        exact B1.w
    | seen t s u k =>
      dsimp only [Lt.term, Lt.snd, Lt.word, rest1] at *
      generalize h.meet t = g at *
      subst hrest
      refine skipE rfl (by decide +kernel) (skipE rfl (by decide +kernel) (skipE rfl (by decide +kernel) ⟨_, rfl, rfl, _, rfl, iteD (fun z => (str_no (by decide +kernel) z).elim) fun _ => iteF ?_⟩))
      refine ⟨_, rfl, p, _, _, _, _, rfl, ob1, T.cl_Hand, T.no_Hand_role, fl_role, rfl, _, rfl, iteD (fun e4 => ?_) (fun e4 => ?_)⟩
      · have em : hear1 m.pr (m.set i g) i g (.seen t s u k) = _ := if_pos (role_iff (k := .leads).mp e4)
        rw [Wd.set_set] at em
        exact lead _ hrl1 rfl (role_iff (k := .leads).mp e4) (by intro z; cases z) em
      · refine he O1 H1 rs (Nat.le_succ _) ?_ S1
        have em : hear1 m.pr (m.set i g) i g (.seen t s u k) = m.set i g := if_neg fun z => e4 (role_iff (k := .leads).mpr z)
        rw [em]
        exact B1.w
end
end Sr

set_option Elab.async false
set_option linter.all false
set_option maxRecDepth 100000
set_option maxHeartbeats 4000000
namespace Sr
open PySem PySem.Spec PyProof.Rows L2
local macro_rules | `(tactic| walk_at "hp") => `(tactic| (unfold upd at *; grind))
section
variable {P : Program} {w : World} {base : Heap} {K : PySem.W.Frag} {mg : Str → Option Value}
section
variable (T : Tx w K mg)
include T
theorem sizes_at : ∃ es n, KDict K w (He.ga K "SIZES") es n := by
  obtain ⟨h, c⟩ := T.says
  exact c.t.tab 0
theorem ex_at : He.tupB K "LOOKS" (strsD looksL) = true ∧ He.tupB K "RULES" (strsD rulesL) = true ∧ He.valsB K (He.ga K "SIZES") sizesL = true := by
  obtain ⟨h, c⟩ := T.says
  have q : exB K = true := c.more
  unfold exB at q
  rw [Bool.and_eq_true, Bool.and_eq_true] at q
  exact ⟨q.1, q.2.1, q.2.2⟩
theorem size_at {x : Str} {n : Int} (hq : ((x, .int n) : Str × He.Dv) ∈ sizesL) : ∃ u, PySem.W.nsIn K (He.ga K "SIZES") x = some (some u) ∧ RelV (.int n) u := He.valsB_ok (ex_at T).2.2 hq
end
@[irreducible] def spIsNum (P : Program) (w : World) (K : PySem.W.Frag) : Sp := fun vs H Q _ => ∃ x lo hi : Int, vs = [.int x, .int lo, .int hi] ∧ Q (.bl (decide (lo ≤ x) && decide (x ≤ hi))) H
theorem sc_p_is_number : FnScope ["thing", "low", "high"] ["thing", "low", "high"] (defScope s_p_is_number) := ⟨rfl, rfl, rfl, by decide +kernel, rfl, by decide +kernel, by decide +kernel⟩
theorem ok_p_is_number (T : Tx w K mg) : FnI P w K mg base "is_number" (0 + 1) ["thing", "low", "high"] (spIsNum P w K) := by
  refine FnI.mk' T.f_p_is_number T.g_is_number sc_p_is_number (fun _ _ _ _ _ _ us hl => match us, hl with | [_, _, _], _ => rfl) (fun vs H Q E h => ?_) (fun cdv A outer s H vs Q E hr h => ?_)
  all_goals unfold spIsNum at h
  · obtain ⟨_, _, _, rfl, _⟩ := h
    rfl
  · obtain ⟨x, lo, hi, rfl, fin⟩ := h
    have hu := hu_of hr
    refine ⟨_, (pss_one (ps_ret (pe_and (pe_callB (id := "isinstance") (isiK K) (by rfl) T.n_isinstance (by decide +kernel) (pa_cons (pv 0) (pa_cons (pe_bltn (v := .ty "int") (u := .type "int") (by rfl) T.n_int (by decide +kernel) rfl) pa_nil))) (pe_and (pe_not (pe_callB (id := "isinstance") (isiK K) (by rfl) T.n_isinstance (by decide +kernel) (pa_cons (pv 0) (pa_cons (pe_bltn (v := .ty "bool") (u := .type "bool") (by rfl) T.n_bool (by decide +kernel) rfl) pa_nil)))) (pe_one (pe_chain op_le op_le (pv 1) (pv 0) (pv 2))))))), ?_⟩
    refine ⟨_, rfl, _, _, _, _, _, rfl, .ty "int", .base (.int _), rfl, _, rfl, iteT ?_⟩
    refine ⟨_, rfl, _, _, _, _, _, rfl, .ty "bool", .base (.int _), rfl, _, rfl, _, rfl, iteT ?_⟩
    refine ⟨_, rfl, _, rfl, _, _, rfl, rfl, _, rfl, iteD (fun e => ?_) (fun e => ?_)⟩
    · rw [decide_eq_true e, Bool.true_and] at fin
      exact ⟨_, rfl, _, _, rfl, rfl, fin⟩
    · rw [decide_eq_false e, Bool.false_and] at fin
      exact fin
theorem num_p {H : Hp} {x lo hi : Int} {Q : VK} {E : XK} (k : Q (.bl (decide (lo ≤ x) && decide (x ≤ hi))) H) : spIsNum P w K [.int x, .int lo, .int hi] H Q E := by
  unfold spIsNum
  exact ⟨x, lo, hi, rfl, k⟩
/-- the deeds of a leader -/
def led : Dd → Prop
  | .put _ _ => True
  | .send _ _ _ => True
  | .settle _ _ => True
  | .wish _ => True
  | .answer _ _ => True
  | _ => False
@[irreducible] def spLeaderP (P : Program) (w : World) (K : PySem.W.Frag) : Sp := fun vs H Q _ => ∃ O L m rs p d v n, vs = [.ref (WL.w L), .ref p, v] ∧ WorldIn (.prog P w K) H O L m rs ∧ L.ps[Dd.hand d]? = some p ∧ Im H (Dd.data d) v ∧ Fit n m ∧ n < big ∧ (m.hd d.hand).role = .leads ∧ led d ∧ ∀ H', Same H H' → Q (.bl (m.able d)) H'
theorem sc_w_leader_is_able : FnScope ["self", "hand", "deed"] ["self", "hand", "deed"] (defScope s_w_leader_is_able) := ⟨rfl, rfl, rfl, by decide +kernel, rfl, by decide +kernel, by decide +kernel⟩
theorem ok_w_leader_is_able (T : Tx w K mg) : MeI P w K mg base (He.ga K "World") "leader_is_able" (2 + 1) ["self", "hand", "deed"] (spLeaderP P w K) := by
  refine MeI.mk' T.f_w_leader_is_able T.cl_World T.m_World_leader_is_able sc_w_leader_is_able (fun _ _ _ _ _ _ us hl => match us, hl with | [_, _, _], _ => rfl) (fun vs H Q E h => ?_) (fun cdv A outer s H vs Q E hr h => ?_)
  all_goals unfold spLeaderP at h
  · obtain ⟨_, _, _, _, _, _, _, _, rfl, _⟩ := h
    rfl
  · obtain ⟨O, L, m, rs, p, d, v, n, rfl, W, hp, hv, fit, hn, er, hd, fin⟩ := h
    have hu := hu_of hr
    refine ⟨_, (pss_cons (ps_if (pt_cmpR op_eq (pe_ix (ixT K) (pv 2) pe_int (fun _ _ => rfl)) pe_str (nomark _)) (pss_one (ps_ret (pe_chain op_le op_le pe_int (pe_ix (ixT K) (pv 2) pe_int (fun _ _ => rfl)) (pe_globI (by rfl) T.i_MOST_VALUE)))) pss_nil)
      (pss_cons (ps_if (pt_cmpR op_eq (pe_ix (ixT K) (pv 2) pe_int (fun _ _ => rfl)) pe_str (nomark _)) (pss_one (ps_ret (pe_and (pe_cmpR op_ge (pe_ix (ixT K) (pv 2) pe_int (fun _ _ => rfl)) pe_int (nomark _)) (pe_and (pe_cmpR op_ge (pe_ix (ixT K) (pv 2) pe_int (fun _ _ => rfl)) pe_int (nomark _)) (pe_one (pe_cmpR op_le (pe_op op_add (pe_ix (ixT K) (pv 2) pe_int (fun _ _ => rfl)) (pe_ix (ixT K) (pv 2) pe_int (fun _ _ => rfl))) (pe_callB (id := "len") (lenK K) (by rfl) T.n_len (by decide +kernel) (pa_cons (fldK K (pv 1)) pa_nil)) (nomark _))))))) pss_nil)
      (pss_cons (ps_if (pt_cmpR op_eq (pe_ix (ixT K) (pv 2) pe_int (fun _ _ => rfl)) pe_str (nomark _)) (pss_one (ps_ret (pe_methI (ok_w_can_settle T) hr (pv 0) (pa_cons (pv 1) (pa_cons (pe_ix (ixT K) (pv 2) pe_int (fun _ _ => rfl)) pa_nil))))) pss_nil)
      (pss_cons (ps_if (pt_cmpR op_eq (pe_ix (ixT K) (pv 2) pe_int (fun _ _ => rfl)) pe_str (nomark _)) (pss_one (ps_ret pe_bl)) pss_nil)
      (pss_cons (ps_if (pw_or (pt_cmp (pc_dnotin hu (pe_ix (ixT K) (pv 2) pe_int (fun _ _ => rfl)) (fldK K (pv 1)))) (pw_or1 (pt_cmpR op_lt (pe_callB (id := "len") call_lenD (by rfl) T.n_len (by decide +kernel) (pa_cons (pe_dget hu (fldK K (pv 1)) (pe_ix (ixT K) (pv 2) pe_int (fun _ _ => rfl)) (fun _ _ => rfl)) pa_nil)) (pe_ix (ixT K) (fldK K (pv 0)) pe_int (fun _ _ => rfl)) (nomark _)))).pt (pss_one (ps_ret pe_bl)) pss_nil)
      (pss_one (ps_ret (pe_or (pe_not (pe_methI (ok_w_has T) hr (pv 0) (pa_cons pe_str pa_nil))) (pe_one (pe_cmpR op_ge (fldK K (pv 1)) (fldK K (pv 1)) (nomark _))))))))))), ?_⟩
    obtain ⟨M, B⟩ := W.at_ hp
    have fr := fin H (Same.refl H)
    have f1 := fit.hd d.hand
    obtain ⟨b, rfl, hvb⟩ := im_deed.mp hv
    obtain ⟨pa, pq, epr, hpr, _⟩ := im_pr.mp W.pr
    obtain ⟨dx, ob⟩ := B.h.ob
    obtain ⟨dw, qw, yw, wob, _⟩ := W.ob
    cases d with
    | hear i k => exact hd.elim
    | crash i => exact hd.elim
    | stand i => exact hd.elim
    | lead i => exact hd.elim
    | put i k =>
      dsimp only [Dd.word, Dd.hand, Dd.nums, List.map] at *
      refine hitX rfl hvb ?_
      have e : m.able (.put i k) = decide (k ≤ 9) := by simp [Wd.able, er]
      rw [e] at fr
      refine ⟨_, rfl, b, _, 2, _, rfl, rfl, SqT.of hvb, rfl, _, _, rfl, rfl, _, rfl, iteD (fun _ => ?_) (fun z => (z (by omega)).elim)⟩
      refine ⟨_, _, rfl, rfl, ?_⟩
      rw [← dec_int] at fr
      exact fr
    | send i k k2 =>
      dsimp only [Dd.word, Dd.hand, Dd.nums, List.map] at *
      refine skipX rfl hvb (by decide +kernel) (hitX rfl hvb ?_)
      have e : m.able (.send i k k2) = decide (k + k2 ≤ (m.hd i).log.length) := by simp [Wd.able, er]
      rw [e] at fr
      obtain ⟨xs, hx, hlog⟩ := im_logr.mp B.h.log
      refine ⟨_, rfl, b, _, 2, _, rfl, rfl, SqT.of hvb, rfl, _, _, rfl, rfl, _, rfl, iteD (fun _ => ?_) (fun z => (z (by omega)).elim)⟩
      refine ⟨_, rfl, b, _, 3, _, rfl, rfl, SqT.of hvb, rfl, _, _, rfl, rfl, _, rfl, iteD (fun _ => ?_) (fun z => (z (by omega)).elim)⟩
      refine ⟨_, rfl, b, _, 2, _, rfl, rfl, SqT.of hvb, rfl, _, rfl, b, _, 3, _, rfl, rfl, SqT.of hvb, rfl, _, _, rfl, rfl, _, rfl, p, _, _, _, _, rfl, ob, T.cl_Hand, T.no_Hand_log, fl_log, _, xs, rfl, .inr (SqT.of hx), _, _, rfl, rfl, ?_⟩
      rw [hlog.length]
      rw [← dec_int] at fr
      exact fr
    | settle i c =>
      dsimp only [Dd.word, Dd.hand, Dd.nums, List.map] at *
      refine skipX rfl hvb (by decide +kernel) (skipX rfl hvb (by decide +kernel) (hitX rfl hvb ?_))
      have e : m.able (.settle i c) = canSettle m.pr (m.hd i) c := by simp [Wd.able, er]
      rw [e] at fin
      exact ⟨_, rfl, L.w, _, _, rfl, wob, rfl, _, rfl, _, rfl, b, _, 2, _, rfl, rfl, SqT.of hvb, rfl, can_p W hp (Nat.lt_of_le_of_lt f1.known hn) fin⟩
    | wish i =>
      dsimp only [Dd.word, Dd.hand, Dd.nums, List.map] at *
      have e : m.able (.wish i) = true := by simp [Wd.able, er]
      rw [e] at fr
      exact skipX rfl hvb (by decide +kernel) (skipX rfl hvb (by decide +kernel) (skipX rfl hvb (by decide +kernel) (hitX rfl hvb fr)))
    | answer i k =>
      dsimp only [Dd.word, Dd.hand, Dd.nums, List.map] at *
      refine skipX rfl hvb (by decide +kernel) (skipX rfl hvb (by decide +kernel) (skipX rfl hvb (by decide +kernel) (skipX rfl hvb (by decide +kernel) ?_)))
      have e : m.able (.answer i k) = canAnswer m.pr (m.hd i) k := by simp [Wd.able, er]
      rw [e] at fr
      generalize m.hd i = g at *
      have ew : g.wishes = M.ws.map (mv (Prod.fst (α := List Nat) (β := Addr))) := B.h.ws
      have ev : valV (M.ws.map wK) (.inl (k : Int)) = (alook M.ws k).map (fun y => V.ref y.2) := by rw [wK_eq, valV_kx]
      have el : alook g.wishes k = (alook M.ws k).map Prod.fst := by rw [ew, alook_mv]
      refine ⟨_, rfl, b, _, 2, _, rfl, rfl, SqT.of hvb, rfl, _, rfl, p, _, _, _, _, rfl, ob, T.cl_Hand, T.no_Hand_wishes, fl_wishes, M.w, _, rfl, DGet.k (k := .inl (k : Int)) B.h.wi, _, rfl, ?_⟩
      rw [ev]
      cases ea : alook M.ws k with
      | none =>
        rw [ea] at el
        have e3 : canAnswer m.pr g k = false := by unfold canAnswer; rw [el]; rfl
        rw [e3] at fr
        exact iteT (iteT fr)
      | some y =>
        obtain ⟨l, a⟩ := y
        rw [ea] at el ev
        have hsn := B.h.sn _ (alook_mem ea)
        dsimp only at hsn
        have e3 : canAnswer m.pr g k = (decide (m.pr.seers ≤ l.length) && (!m.pr.has "first" || decide (g.begun ≤ g.told))) := by unfold canAnswer; rw [el]; rfl
        rw [e3] at fr
        refine iteF ?_
        refine ⟨_, rfl, p, _, _, _, _, rfl, ob, T.cl_Hand, T.no_Hand_wishes, fl_wishes, _, rfl, b, _, 2, _, rfl, rfl, SqT.of hvb, rfl, M.w, _, rfl, by have := DGet.k (k := .inl (k : Int)) B.h.wi; rw [ev] at this; exact this, a, _, rfl, hsn.1, ?_⟩
        refine ⟨_, rfl, L.w, _, _, _, _, rfl, wob, T.cl_World, T.no_World_protocol, fw_protocol, _, _, 3, _, epr, rfl, SqT.of hpr, rfl, _, _, rfl, rfl, _, rfl, ?_⟩
        rw [List.length_map]
        refine iteD (fun e4 => ?_) (fun e4 => ?_)
        · rw [decide_eq_false (show ¬ m.pr.seers ≤ l.length by omega), Bool.false_and] at fr
          exact fr
        rw [decide_eq_true (show m.pr.seers ≤ l.length by omega), Bool.true_and] at fr
        refine ⟨_, rfl, L.w, _, _, rfl, wob, rfl, has_p W ⟨_, rfl, _, rfl, iteN (fun e5 => ?_) (fun e5 => ?_)⟩⟩
        · rw [show m.pr.has "first" = false from e5] at fr
          exact fr
        · rw [show m.pr.has "first" = true from e5, ← dec_int] at fr
          exact ⟨_, rfl, p, _, _, _, _, rfl, ob, T.cl_Hand, T.no_Hand_told, fl_told, _, rfl, p, _, _, _, _, rfl, ob, T.cl_Hand, T.no_Hand_begun, fl_begun, _, _, rfl, rfl, fr⟩
end
end Sr

set_option Elab.async false
set_option linter.all false
set_option maxRecDepth 100000
set_option maxHeartbeats 4000000
namespace Sr
open PySem PySem.Spec PyProof.Rows L2
local macro_rules | `(tactic| walk_at "hp") => `(tactic| (unfold upd at *; grind))
section
variable {P : Program} {w : World} {base : Heap} {K : PySem.W.Frag} {mg : Str → Option Value}
theorem leader_p {O : Own} {H : Hp} {L : WL} {m : Wd} {rs : List Dd} {p : Addr} {d : Dd} {v : V} {n : Nat} {Q : VK} {E : XK} (W : WorldIn (.prog P w K) H O L m rs) (hp : L.ps[Dd.hand d]? = some p) (hv : Im H (Dd.data d) v) (f : Fit n m) (hn : n < big) (er : (m.hd d.hand).role = .leads) (hd : led d) (fin : ∀ H', Same H H' → Q (.bl (m.able d)) H') : spLeaderP P w K [.ref L.w, .ref p, v] H Q E := by
  unfold spLeaderP
  exact ⟨O, L, m, rs, p, d, v, n, rfl, W, hp, hv, f, hn, er, hd, fin⟩
theorem sh_deed (d : Dd) : Sh 1 d.data := by
  refine sh_tup (.cons (sh_str ?_) (.cons sh_nat (.map (fun _ => sh_nat) _)))
  cases d <;> (dsimp only [Dd.word]; decide +kernel)
theorem deed_empty (d : Dd) : PyData.eqv d.data (.tuple []) = false := by
  simp [Dd.data, PyData.eqv, PyData.eqvAll]
def sizeOf1 (d : Dd) : Int := (d.nums.length : Int) + 2
theorem size_in (d : Dd) : ((d.word, .int (sizeOf1 d)) : Str × He.Dv) ∈ sizesL := by
  cases d <;> simp [Dd.word, sizeOf1, Dd.nums, sizesL]
theorem cut_nums (d : Dd) : cutV (.str d.word :: nv d.hand :: d.nums.map nv) (some 2) none = d.nums.map nv := by
  unfold cutV
  rw [HT.sIx_none, show (some (2 : Int)) = some ((2 : Nat) : Int) from rfl, HT.sIx_nat]
  have := cut_list (.str d.word :: nv d.hand :: d.nums.map nv) 2 (.str d.word :: nv d.hand :: d.nums.map nv).length
  rw [Nat.min_self] at this
  rw [this, List.take_of_length_le (by simp)]
  rfl
@[irreducible] def spAbleP (P : Program) (w : World) (K : PySem.W.Frag) : Sp := fun vs H Q _ => ∃ O L m rs d v n, vs = [.ref (WL.w L), v] ∧ WorldIn (.prog P w K) H O L m rs ∧ Im H (Dd.data d) v ∧ d.hand < m.hs.length ∧ Fit n m ∧ n < big ∧ ∀ H', Same H H' → Q (.bl (m.able d)) H'
theorem sc_w_able : FnScope ["self", "deed", "one", "hand"] ["self", "deed"] (defScope s_w_able) := ⟨rfl, rfl, rfl, by decide +kernel, rfl, by decide +kernel, by decide +kernel⟩
theorem ok_w_able (T : Tx w K mg) : MeI P w K mg base (He.ga K "World") "able" (3 + 1) ["self", "deed"] (spAbleP P w K) := by
  refine MeI.mk' T.f_w_able T.cl_World T.m_World_able sc_w_able (fun _ _ _ _ _ _ us hl => match us, hl with | [_, _], _ => rfl) (fun vs H Q E h => ?_) (fun cdv A outer s H vs Q E hr h => ?_)
  all_goals unfold spAbleP at h
  · obtain ⟨_, _, _, _, _, _, _, rfl, _⟩ := h
    rfl
  · obtain ⟨O, L, m, rs, d, v, n, rfl, W, hv, hi, fit, hn, fin⟩ := h
    have hu := hu_of hr
    have hu64 := hr.units
    refine ⟨_, (pss_cons (ps_if (pw_or (pt_not (pt_val (pe_callB (id := "isinstance") (isiK K) (by rfl) T.n_isinstance (by decide +kernel) (pa_cons (pv 1) (pa_cons (pe_bltn (v := .ty "tuple") (u := .type "tuple") (by rfl) T.n_tuple (by decide +kernel) rfl) pa_nil))))) (pw_or (pt_cmpR (op_eqD hu64) (pv 1) (pe_tup pa_nil) (nomark _)) (pw_or1 (pt_not (pt_val (pe_callB (id := "isinstance") (isiK K) (by rfl) T.n_isinstance (by decide +kernel) (pa_cons (pe_ix (ixT K) (pv 1) pe_int (fun _ _ => rfl)) (pa_cons (pe_bltn (v := .ty "str") (u := .type "str") (by rfl) T.n_str (by decide +kernel) rfl) pa_nil)))))))).pt (pss_one (ps_ret pe_bl)) pss_nil)
      (pss_cons (ps_if (pw_or (pt_cmpR op_ne (pe_callB (id := "len") (lenK K) (by rfl) T.n_len (by decide +kernel) (pa_cons (pv 1) pa_nil)) (pe_kdGet2 (pe_glob (v := .ref (He.ga K "SIZES")) (by rfl) T.g_SIZES rfl) (pe_ix (ixT K) (pv 1) pe_int (fun _ _ => rfl)) pe_int) (nomark _)) (pw_or1 (pt_not (pt_val (pe_callI (ok_p_is_number (P := P) T) hr (pa_cons (pe_ix (ixT K) (pv 1) pe_int (fun _ _ => rfl)) (pa_cons pe_int (pa_cons (pe_op op_sub (pe_callB (id := "len") (lenK K) (by rfl) T.n_len (by decide +kernel) (pa_cons (fldK K (pv 0)) pa_nil)) pe_int) pa_nil)))))))).pt (pss_one (ps_ret pe_bl)) pss_nil)
      (pss_cons (ps_if (pt_not (pt_val (pe_callB (id := "all") (cr_all rfl) (by rfl) T.n_all (by decide +kernel) (pa_cons (pe_lc (own := [("one", 2)]) (g := gName 2) rfl sc_w_able.nd (pi_tup (pe_slice (slT K) (pv 1) (po_some pe_int) po_none)) (blkOk_by (own := [("one", 2)]) (N := ["self", "deed", "one", "hand"]) (sc := defScope s_w_able) (by decide +kernel)) (fun _ _ _ _ _ => (pg_name (i := 2) sc_w_able.nd rfl (Or.inl rfl))) (fun _ _ _ _ _ => pts_nil) (fun _ _ _ _ _ => (pe_and (pe_callB (id := "isinstance") (isiK K) (by rfl) T.n_isinstance (by decide +kernel) (pa_cons (pv 2) (pa_cons (pe_bltn (v := .ty "int") (u := .type "int") (by rfl) T.n_int (by decide +kernel) rfl) pa_nil))) (pe_one (pe_not (pe_callB (id := "isinstance") (isiK K) (by rfl) T.n_isinstance (by decide +kernel) (pa_cons (pv 2) (pa_cons (pe_bltn (v := .ty "bool") (u := .type "bool") (by rfl) T.n_bool (by decide +kernel) rfl) pa_nil)))))))) pa_nil)))) (pss_one (ps_ret pe_bl)) pss_nil)
      (pss_cons (ps_if (pt_cmpR op_eq (pe_ix (ixT K) (pv 1) pe_int (fun _ _ => rfl)) pe_str (nomark _)) (pss_one (ps_ret (pe_and (pe_chain op_le op_lt pe_int (pe_ix (ixT K) (pv 1) pe_int (fun _ _ => rfl)) (pe_callB (id := "len") (lenK K) (by rfl) T.n_len (by decide +kernel) (pa_cons (fldK K (pv 0)) pa_nil))) (pe_one (pe_methI (ok_w_can_hear T) hr (pv 0) (pa_cons (pe_ix (ixT K) (pv 1) pe_int (fun _ _ => rfl)) (pa_cons (pe_ix (ixL K) (fldK K (pv 0)) (pe_ix (ixT K) (pv 1) pe_int (fun _ _ => rfl)) (fun _ _ => rfl)) pa_nil))))))) pss_nil)
      (pss_cons (ps_set (i := 3) sc_w_able.nd rfl (.inl rfl) (pe_ix (ixL K) (fldK K (pv 0)) (pe_ix (ixT K) (pv 1) pe_int (fun _ _ => rfl)) (fun _ _ => rfl)))
      (pss_cons (ps_if (pt_cmpR op_in_seq (pe_ix (ixT K) (pv 1) pe_int (fun _ _ => rfl)) (pe_tup (pa_cons pe_str (pa_cons pe_str pa_nil))) rfl) (pss_one (ps_ret (pe_or (pe_cmpR op_eq (pe_ix (ixT K) (pv 1) pe_int (fun _ _ => rfl)) pe_str (nomark _)) (pe_one (pe_cmpR op_ne (fldK K (pv 3)) pe_str (nomark _)))))) pss_nil)
      (pss_cons (ps_if (pt_cmpR op_eq (pe_ix (ixT K) (pv 1) pe_int (fun _ _ => rfl)) pe_str (nomark _)) (pss_one (ps_ret (pe_and (pe_cmpR op_eq (fldK K (pv 3)) pe_str (nomark _)) (pe_one (pe_cmpR op_ge (pe_callB (id := "len") call_lenD (by rfl) T.n_len (by decide +kernel) (pa_cons (fldK K (pv 3)) pa_nil)) (pe_ix (ixT K) (fldK K (pv 0)) pe_int (fun _ _ => rfl)) (nomark _)))))) pss_nil)
      (pss_one (ps_ret (pe_and (pe_cmpR op_eq (fldK K (pv 3)) pe_str (nomark _)) (pe_one (pe_methI (ok_w_leader_is_able T) hr (pv 0) (pa_cons (pv 3) (pa_cons (pv 1) pa_nil)))))))))))))), ?_⟩
    obtain ⟨b, rfl, hvb⟩ := im_deed.mp hv
    refine ⟨_, rfl, _, _, _, _, _, rfl, .ty "tuple", .base (.tup hvb), rfl, _, rfl, ?_⟩
    refine iteF ?_
    refine ⟨_, rfl, Nat.zero_le _, fun q hq => ?_⟩
    have s1 := same_new (o := .tup []) hq
    have hvb1 := s1 _ _ hvb
    refine ⟨d.data, .tuple [], Im.dp _ _ (Im.keep (same_tk s1) _ _ hv), Im.dp _ _ (Im.tup' upd_same ImAll.nil'), (sh_deed d).ok, (sh_empty (n := 0)).ok, _, rfl, ?_⟩
    rw [deed_empty]
    refine iteF ?_
    refine ⟨_, rfl, b, _, 0, _, rfl, rfl, SqT.of hvb1, atI_nat (j := 0) rfl, _, _, _, _, _, rfl, .ty "str", .base (.str _), rfl, _, rfl, iteF ?_⟩
    obtain ⟨es, nn, kd⟩ := sizes_at T
    obtain ⟨u, hu1, hu2⟩ := size_at T (size_in d)
    have W1 := W.same s1
    generalize upd H q (.tup []) = H1 at *
    refine ⟨_, rfl, b, _, rfl, .inr (SqT.of hvb1), _, es, nn, rfl, kd, _, rfl, b, _, 0, _, rfl, rfl, SqT.of hvb1, atI_nat (j := 0) rfl, d.word, u, _, rfl, hu1, hu2, rfl, _, rfl, ?_⟩
    have e0 : decide (V.int ((.str d.word :: nv d.hand :: d.nums.map nv : List V).length : Int) = V.int (sizeOf1 d)) = true := by
      refine decide_eq_true (congrArg V.int ?_)
      unfold sizeOf1
      simp only [List.length_cons, List.length_map]
      omega
    rw [e0]
    refine iteF ?_
    have hpl : L.ps.length = m.hs.length := W.len
    obtain ⟨dw, qw, yw, wob, _⟩ := W1.ob
    refine ⟨_, rfl, b, _, 1, _, rfl, rfl, SqT.of hvb1, atI_nat (j := 1) rfl, _, rfl, L.w, _, _, _, _, rfl, wob, T.cl_World, T.no_World_hands, fw_hands, _, _, rfl, .inl (SqL.of W1.hs), _, _, rfl, rfl, ?_⟩
    show spIsNum P w K [.int (d.hand : Int), .int 0, .int (((L.ps.map V.ref).length : Int) - 1)] H1 _ _
    refine num_p ⟨_, rfl, ?_⟩
    have e1 : (decide ((0 : Int) ≤ (d.hand : Int)) && decide ((d.hand : Int) ≤ ((L.ps.map V.ref).length : Int) - 1)) = true := by
      rw [List.length_map, hpl, decide_eq_true (by omega), decide_eq_true (by omega)]
      rfl
    rw [e1]
    refine iteF ?_
    refine ⟨_, rfl, _, rfl, ?_⟩
    dsimp only [tNoPart]
    refine slice_cut _ _ (d.nums.map nv) hvb1 (cut_nums d) fun q2 H2 s2 hq2 => ⟨q2, rfl, ⟨_, SqT.of hq2⟩, fun D hD => ?_⟩
    refine lc_it (walk_tup (xs := d.nums.map nv)) (fun j H3 => H3 = upd H2 D (.lst ((List.replicate j true).map V.bl))) ?_ ?_ ?_ ?_
    · rfl
    · rintro j _ _ rfl
      exact SqT.of ((same_new hD) _ _ hq2)
    · rintro j x _ _ hj rfl ⟨rfl, ex⟩
      rw [List.getElem?_map] at ex
      cases eq : d.nums[j]? with
      | none => rw [eq] at ex; cases ex
      | some x0 =>
        rw [eq] at ex
        cases ex
        refine ⟨rfl, ?_⟩
        refine ⟨_, rfl, _, _, _, _, _, rfl, .ty "int", .base (.int _), rfl, _, rfl, iteT ?_⟩
        refine ⟨_, rfl, _, _, _, _, _, rfl, .ty "bool", .base (.int _), rfl, _, rfl, ?_⟩
        refine ⟨_, upd_same, ?_, ?_⟩
        · rw [List.length_map, List.length_replicate]
          have h3 : d.nums.length ≤ 2 := by cases d <;> simp [Dd.nums]
          rw [List.length_map] at hj
          have : (64 : Nat) < sizeLine := by decide
          omega
        · rw [upd_upd, List.replicate_succ', List.map_append]
          rfl
    rintro _ rfl
    refine ⟨D, List.replicate (d.nums.map nv).length true, rfl, SqL.of upd_same, _, rfl, ?_⟩
    have e2 : (List.replicate (d.nums.map nv).length true).all id = true := by
      rw [List.all_eq_true]
      intro x hx
      rw [(List.mem_replicate.mp hx).2]
      rfl
    rw [e2]
    refine iteF ?_
    have s3 := s1.trans (s2.trans (same_new (o := .lst ((List.replicate (d.nums.map nv).length true).map V.bl)) hD))
    generalize upd H2 D (.lst ((List.replicate (d.nums.map nv).length true).map V.bl)) = H3 at s3
    have W3 := W.same s3
    have hvb3 := s3 _ _ hvb
    have hv3 := Im.keep (same_tk s3) _ _ hv
    have fin3 : ∀ H', Same H3 H' → Q (.bl (m.able d)) H' := fun H' s => fin H' (s3.trans s)
    have fr := fin3 H3 (Same.refl H3)
    obtain ⟨dw, qw, yw, wob, _⟩ := W3.ob
    obtain ⟨p, hp⟩ := W3.get hi
    have hps : (L.ps.map V.ref)[d.hand]? = some (.ref p) := by rw [List.getElem?_map, hp]; rfl
    obtain ⟨M, B⟩ := W3.at_ hp
    obtain ⟨dx, ob⟩ := B.h.ob
    obtain ⟨pa, pq, epr, hpr, _⟩ := im_pr.mp W3.pr
    have tail : (∀ s : Str, d.word = s → s ≠ "hear") → ∀ (k : Hp → Prop), True → True := fun _ _ _ => trivial
    cases d with
    | hear i k =>
      dsimp only [Dd.word, Dd.hand, Dd.nums, List.map] at *
      obtain ⟨as, la, lb, _⟩ := W3.lts
      have ll : (as.map V.ref).length = m.lts.length := lb.length.trans (List.length_map ..)
      refine hitX rfl hvb3 ?_
      refine ⟨_, rfl, b, _, 2, _, rfl, rfl, SqT.of hvb3, rfl, _, _, rfl, rfl, _, rfl, iteD (fun _ => ?_) (fun z => (z (by omega)).elim)⟩
      refine ⟨_, rfl, L.w, _, _, _, _, rfl, wob, T.cl_World, T.no_World_bag, fw_bag, _, _, rfl, .inl (SqL.of la), _, _, rfl, rfl, _, rfl, iteD (fun e1 => ?_) (fun e1 => ?_)⟩
      rotate_left
      · rw [ll] at e1
        have e : m.able (.hear i k) = false := by have := List.getElem?_eq_none (show m.lts.length ≤ k by omega); simp [Wd.able, this]
        rw [e] at fr
        exact fr
      rw [ll] at e1
      have hk : k < m.lts.length := by omega
      obtain ⟨v, hv1, hv2⟩ := lb.get (i := k) (d := m.lts[k].data) (by simp [hk])
      have e : m.able (.hear i k) = canHear i m.lts[k] := by simp [Wd.able, List.getElem?_eq_getElem hk]
      rw [e] at fin3
      refine ⟨_, rfl, L.w, _, _, rfl, wob, rfl, _, rfl, b, _, 1, _, rfl, rfl, SqT.of hvb3, rfl, _, rfl, L.w, _, _, _, _, rfl, wob, T.cl_World, T.no_World_bag, fw_bag, _, rfl, b, _, 2, _, rfl, rfl, SqT.of hvb3, rfl, _, _, _, _, rfl, rfl, SqL.of la, atI_nat hv1, ?_⟩
      show spCanHearP P w K [.ref L.w, nv i, v] H3 _ _
      unfold spCanHearP
      exact ⟨i, m.lts[k], v, _, rfl, hv2, fin3⟩
    | crash i =>
      dsimp only [Dd.word, Dd.hand, Dd.nums, List.map] at *
      refine skipX rfl hvb3 (by decide +kernel) ?_
      refine ⟨_, rfl, L.w, _, _, _, _, rfl, wob, T.cl_World, T.no_World_hands, fw_hands, _, rfl, b, _, 1, _, rfl, rfl, SqT.of hvb3, rfl, _, _, _, _, rfl, rfl, SqL.of W3.hs, atI_nat hps, ?_⟩
      refine ⟨_, rfl, b, _, 0, _, rfl, rfl, SqT.of hvb3, rfl, by show 2 ≤ sizeLine; decide, fun T1 hT => ?_⟩
      have s4 := same_new (o := .tup [.str "stand", .str "crash"]) hT
      refine ⟨T1, _, rfl, .inr (SqT.of upd_same), rfl, rfl, _, rfl, ?_⟩
      show (if inV (.str "crash") ((["stand", "crash"] : List Str).map V.str) = true then _ else _)
      rw [inV_strs]
      refine iteD (fun _ => ?_) (fun z => (z (by decide +kernel)).elim)
      refine ⟨_, rfl, b, _, 0, _, rfl, rfl, SqT.of (s4 _ _ hvb3), rfl, rfl, _, rfl, iteD (fun _ => fin3 _ s4) (fun z => (z rfl).elim)⟩
    | stand i =>
      dsimp only [Dd.word, Dd.hand, Dd.nums, List.map] at *
      refine skipX rfl hvb3 (by decide +kernel) ?_
      refine ⟨_, rfl, L.w, _, _, _, _, rfl, wob, T.cl_World, T.no_World_hands, fw_hands, _, rfl, b, _, 1, _, rfl, rfl, SqT.of hvb3, rfl, _, _, _, _, rfl, rfl, SqL.of W3.hs, atI_nat hps, ?_⟩
      refine ⟨_, rfl, b, _, 0, _, rfl, rfl, SqT.of hvb3, rfl, by show 2 ≤ sizeLine; decide, fun T1 hT => ?_⟩
      have s4 := same_new (o := .tup [.str "stand", .str "crash"]) hT
      refine ⟨T1, _, rfl, .inr (SqT.of upd_same), rfl, rfl, _, rfl, ?_⟩
      show (if inV (.str "stand") ((["stand", "crash"] : List Str).map V.str) = true then _ else _)
      rw [inV_strs]
      refine iteD (fun _ => ?_) (fun z => (z (by decide +kernel)).elim)
      refine ⟨_, rfl, b, _, 0, _, rfl, rfl, SqT.of (s4 _ _ hvb3), rfl, rfl, _, rfl, iteD (fun z => (str_no (by decide +kernel) z).elim) (fun _ => ?_)⟩
      refine ⟨_, rfl, p, _, _, _, _, rfl, s4 _ _ ob, T.cl_Hand, T.no_Hand_role, fl_role, rfl, ?_⟩
      have e : (!decide (V.str (m.hd i).role.str = V.str (Role.str .leads))) = m.able (.stand i) := by rw [dec_role, ← decide_not]; rfl
      have fr := fin3 _ s4
      rw [← e] at fr
      exact fr
    | lead i =>
      dsimp only [Dd.word, Dd.hand, Dd.nums, List.map] at *
      refine skipX rfl hvb3 (by decide +kernel) ?_
      refine ⟨_, rfl, L.w, _, _, _, _, rfl, wob, T.cl_World, T.no_World_hands, fw_hands, _, rfl, b, _, 1, _, rfl, rfl, SqT.of hvb3, rfl, _, _, _, _, rfl, rfl, SqL.of W3.hs, atI_nat hps, ?_⟩
      refine ⟨_, rfl, b, _, 0, _, rfl, rfl, SqT.of hvb3, rfl, by show 2 ≤ sizeLine; decide, fun T1 hT => ?_⟩
      have s4 := same_new (o := .tup [.str "stand", .str "crash"]) hT
      refine ⟨T1, _, rfl, .inr (SqT.of upd_same), rfl, rfl, _, rfl, ?_⟩
      show (if inV (.str "lead") ((["stand", "crash"] : List Str).map V.str) = true then _ else _)
      rw [inV_strs]
      refine iteD (fun z => (absurd z (by decide +kernel))) (fun _ => ?_)
      have B4 := B.same s4
      have fr := fin3 _ s4
      have W4 := W3.same s4
      have hvb4 := s4 _ _ hvb3
      have ob4 := s4 _ _ ob
      have wob4 := s4 _ _ wob
      have hpr4 := s4 _ _ hpr
      refine hitX rfl hvb4 ?_
      refine ⟨_, rfl, p, _, _, _, _, rfl, ob4, T.cl_Hand, T.no_Hand_role, fl_role, rfl, _, rfl, iteD (fun e1 => ?_) (fun e1 => ?_)⟩
      rotate_left
      · have e : m.able (.lead i) = false := by simp [Wd.able, show ¬ (m.hd i).role = .asks from fun z => e1 (role_iff (k := .asks).mpr z)]
        rw [e] at fr
        exact fr
      have e : m.able (.lead i) = decide (m.pr.votes ≤ (m.hd i).got.length) := by simp [Wd.able, show (m.hd i).role = .asks from role_iff (k := .asks).mp e1]
      refine ⟨_, rfl, p, _, _, _, _, rfl, ob4, T.cl_Hand, T.no_Hand_got, fl_got, M.g, _, rfl, B4.h.got, _, rfl, L.w, _, _, _, _, rfl, wob4, T.cl_World, T.no_World_protocol, fw_protocol, _, _, 1, _, epr, rfl, SqT.of hpr4, rfl, _, _, rfl, rfl, ?_⟩
      rw [e, ← dec_int] at fr
      rw [List.length_map]
      exact fr
    | put i k =>
      dsimp only [Dd.word, Dd.hand, Dd.nums, List.map] at *
      refine skipX rfl hvb3 (by decide +kernel) ?_
      refine ⟨_, rfl, L.w, _, _, _, _, rfl, wob, T.cl_World, T.no_World_hands, fw_hands, _, rfl, b, _, 1, _, rfl, rfl, SqT.of hvb3, rfl, _, _, _, _, rfl, rfl, SqL.of W3.hs, atI_nat hps, ?_⟩
      refine ⟨_, rfl, b, _, 0, _, rfl, rfl, SqT.of hvb3, rfl, by show 2 ≤ sizeLine; decide, fun T1 hT => ?_⟩
      have s4 := same_new (o := .tup [.str "stand", .str "crash"]) hT
      refine ⟨T1, _, rfl, .inr (SqT.of upd_same), rfl, rfl, _, rfl, ?_⟩
      show (if inV (.str "put") ((["stand", "crash"] : List Str).map V.str) = true then _ else _)
      rw [inV_strs]
      refine iteD (fun z => (absurd z (by decide +kernel))) (fun _ => ?_)
      have hvb4 := s4 _ _ hvb3
      refine skipX rfl hvb4 (by decide +kernel) ?_
      refine ⟨_, rfl, p, _, _, _, _, rfl, s4 _ _ ob, T.cl_Hand, T.no_Hand_role, fl_role, rfl, _, rfl, iteD (fun e1 => ?_) (fun e1 => ?_)⟩
      · refine ⟨_, rfl, L.w, _, _, rfl, s4 _ _ wob, rfl, _, rfl, _, rfl, ?_⟩
        exact leader_p (d := .put i k) (W3.same s4) hp (Im.keep (same_tk s4) _ _ hv3) fit hn (role_iff (k := .leads).mp e1) trivial fun H' s => fin3 H' (s4.trans s)
      · have e : m.able (.put i k) = false := by simp [Wd.able, show ¬ (m.hd i).role = .leads from fun z => e1 (role_iff (k := .leads).mpr z)]
        have fr := fin3 _ s4
        rw [e] at fr
        exact fr
    | send i k k2 =>
      dsimp only [Dd.word, Dd.hand, Dd.nums, List.map] at *
      refine skipX rfl hvb3 (by decide +kernel) ?_
      refine ⟨_, rfl, L.w, _, _, _, _, rfl, wob, T.cl_World, T.no_World_hands, fw_hands, _, rfl, b, _, 1, _, rfl, rfl, SqT.of hvb3, rfl, _, _, _, _, rfl, rfl, SqL.of W3.hs, atI_nat hps, ?_⟩
      refine ⟨_, rfl, b, _, 0, _, rfl, rfl, SqT.of hvb3, rfl, by show 2 ≤ sizeLine; decide, fun T1 hT => ?_⟩
      have s4 := same_new (o := .tup [.str "stand", .str "crash"]) hT
      refine ⟨T1, _, rfl, .inr (SqT.of upd_same), rfl, rfl, _, rfl, ?_⟩
      show (if inV (.str "send") ((["stand", "crash"] : List Str).map V.str) = true then _ else _)
      rw [inV_strs]
      refine iteD (fun z => (absurd z (by decide +kernel))) (fun _ => ?_)
      have hvb4 := s4 _ _ hvb3
      refine skipX rfl hvb4 (by decide +kernel) ?_
      refine ⟨_, rfl, p, _, _, _, _, rfl, s4 _ _ ob, T.cl_Hand, T.no_Hand_role, fl_role, rfl, _, rfl, iteD (fun e1 => ?_) (fun e1 => ?_)⟩
      · refine ⟨_, rfl, L.w, _, _, rfl, s4 _ _ wob, rfl, _, rfl, _, rfl, ?_⟩
        exact leader_p (d := .send i k k2) (W3.same s4) hp (Im.keep (same_tk s4) _ _ hv3) fit hn (role_iff (k := .leads).mp e1) trivial fun H' s => fin3 H' (s4.trans s)
      · have e : m.able (.send i k k2) = false := by simp [Wd.able, show ¬ (m.hd i).role = .leads from fun z => e1 (role_iff (k := .leads).mpr z)]
        have fr := fin3 _ s4
        rw [e] at fr
        exact fr
    | settle i c =>
      dsimp only [Dd.word, Dd.hand, Dd.nums, List.map] at *
      refine skipX rfl hvb3 (by decide +kernel) ?_
      refine ⟨_, rfl, L.w, _, _, _, _, rfl, wob, T.cl_World, T.no_World_hands, fw_hands, _, rfl, b, _, 1, _, rfl, rfl, SqT.of hvb3, rfl, _, _, _, _, rfl, rfl, SqL.of W3.hs, atI_nat hps, ?_⟩
      refine ⟨_, rfl, b, _, 0, _, rfl, rfl, SqT.of hvb3, rfl, by show 2 ≤ sizeLine; decide, fun T1 hT => ?_⟩
      have s4 := same_new (o := .tup [.str "stand", .str "crash"]) hT
      refine ⟨T1, _, rfl, .inr (SqT.of upd_same), rfl, rfl, _, rfl, ?_⟩
      show (if inV (.str "settle") ((["stand", "crash"] : List Str).map V.str) = true then _ else _)
      rw [inV_strs]
      refine iteD (fun z => (absurd z (by decide +kernel))) (fun _ => ?_)
      have hvb4 := s4 _ _ hvb3
      refine skipX rfl hvb4 (by decide +kernel) ?_
      refine ⟨_, rfl, p, _, _, _, _, rfl, s4 _ _ ob, T.cl_Hand, T.no_Hand_role, fl_role, rfl, _, rfl, iteD (fun e1 => ?_) (fun e1 => ?_)⟩
      · refine ⟨_, rfl, L.w, _, _, rfl, s4 _ _ wob, rfl, _, rfl, _, rfl, ?_⟩
        exact leader_p (d := .settle i c) (W3.same s4) hp (Im.keep (same_tk s4) _ _ hv3) fit hn (role_iff (k := .leads).mp e1) trivial fun H' s => fin3 H' (s4.trans s)
      · have e : m.able (.settle i c) = false := by simp [Wd.able, show ¬ (m.hd i).role = .leads from fun z => e1 (role_iff (k := .leads).mpr z)]
        have fr := fin3 _ s4
        rw [e] at fr
        exact fr
    | wish i =>
      dsimp only [Dd.word, Dd.hand, Dd.nums, List.map] at *
      refine skipX rfl hvb3 (by decide +kernel) ?_
      refine ⟨_, rfl, L.w, _, _, _, _, rfl, wob, T.cl_World, T.no_World_hands, fw_hands, _, rfl, b, _, 1, _, rfl, rfl, SqT.of hvb3, rfl, _, _, _, _, rfl, rfl, SqL.of W3.hs, atI_nat hps, ?_⟩
      refine ⟨_, rfl, b, _, 0, _, rfl, rfl, SqT.of hvb3, rfl, by show 2 ≤ sizeLine; decide, fun T1 hT => ?_⟩
      have s4 := same_new (o := .tup [.str "stand", .str "crash"]) hT
      refine ⟨T1, _, rfl, .inr (SqT.of upd_same), rfl, rfl, _, rfl, ?_⟩
      show (if inV (.str "wish") ((["stand", "crash"] : List Str).map V.str) = true then _ else _)
      rw [inV_strs]
      refine iteD (fun z => (absurd z (by decide +kernel))) (fun _ => ?_)
      have hvb4 := s4 _ _ hvb3
      refine skipX rfl hvb4 (by decide +kernel) ?_
      refine ⟨_, rfl, p, _, _, _, _, rfl, s4 _ _ ob, T.cl_Hand, T.no_Hand_role, fl_role, rfl, _, rfl, iteD (fun e1 => ?_) (fun e1 => ?_)⟩
      · refine ⟨_, rfl, L.w, _, _, rfl, s4 _ _ wob, rfl, _, rfl, _, rfl, ?_⟩
        exact leader_p (d := .wish i) (W3.same s4) hp (Im.keep (same_tk s4) _ _ hv3) fit hn (role_iff (k := .leads).mp e1) trivial fun H' s => fin3 H' (s4.trans s)
      · have e : m.able (.wish i) = false := by simp [Wd.able, show ¬ (m.hd i).role = .leads from fun z => e1 (role_iff (k := .leads).mpr z)]
        have fr := fin3 _ s4
        rw [e] at fr
        exact fr
    | answer i k =>
      dsimp only [Dd.word, Dd.hand, Dd.nums, List.map] at *
      refine skipX rfl hvb3 (by decide +kernel) ?_
      refine ⟨_, rfl, L.w, _, _, _, _, rfl, wob, T.cl_World, T.no_World_hands, fw_hands, _, rfl, b, _, 1, _, rfl, rfl, SqT.of hvb3, rfl, _, _, _, _, rfl, rfl, SqL.of W3.hs, atI_nat hps, ?_⟩
      refine ⟨_, rfl, b, _, 0, _, rfl, rfl, SqT.of hvb3, rfl, by show 2 ≤ sizeLine; decide, fun T1 hT => ?_⟩
      have s4 := same_new (o := .tup [.str "stand", .str "crash"]) hT
      refine ⟨T1, _, rfl, .inr (SqT.of upd_same), rfl, rfl, _, rfl, ?_⟩
      show (if inV (.str "answer") ((["stand", "crash"] : List Str).map V.str) = true then _ else _)
      rw [inV_strs]
      refine iteD (fun z => (absurd z (by decide +kernel))) (fun _ => ?_)
      have hvb4 := s4 _ _ hvb3
      refine skipX rfl hvb4 (by decide +kernel) ?_
      refine ⟨_, rfl, p, _, _, _, _, rfl, s4 _ _ ob, T.cl_Hand, T.no_Hand_role, fl_role, rfl, _, rfl, iteD (fun e1 => ?_) (fun e1 => ?_)⟩
      · refine ⟨_, rfl, L.w, _, _, rfl, s4 _ _ wob, rfl, _, rfl, _, rfl, ?_⟩
        exact leader_p (d := .answer i k) (W3.same s4) hp (Im.keep (same_tk s4) _ _ hv3) fit hn (role_iff (k := .leads).mp e1) trivial fun H' s => fin3 H' (s4.trans s)
      · have e : m.able (.answer i k) = false := by simp [Wd.able, show ¬ (m.hd i).role = .leads from fun z => e1 (role_iff (k := .leads).mpr z)]
        have fr := fin3 _ s4
        rw [e] at fr
        exact fr
end
end Sr

set_option Elab.async false
set_option linter.all false
set_option maxRecDepth 100000
set_option maxHeartbeats 4000000
namespace Sr
open PySem PySem.Spec PyProof.Rows L2
local macro_rules | `(tactic| walk_at "hp") => `(tactic| (unfold upd at *; grind))
section
variable {P : Program} {w : World} {base : Heap} {K : PySem.W.Frag} {mg : Str → Option Value}
theorem srt_eq {l : List Nat} {ys : List Int} (hp : ys.Perm (l.map fun n : Nat => (n : Int))) (hs : ys.Pairwise (· ≤ ·)) : ys = (srt l).map fun n : Nat => (n : Int) := by
  have h1 : (srt l).Perm l := List.mergeSort_perm _ _
  have h2 : (srt l).Pairwise (· ≤ ·) := by
    have := List.pairwise_mergeSort (le := fun a b : Nat => decide (a ≤ b)) (fun a b c h1 h2 => by simp only [decide_eq_true_eq] at *; omega) (fun a b => by simp only [Bool.or_eq_true, decide_eq_true_eq]; omega) l
    exact this.imp fun h => of_decide_eq_true h
  have h3 : ((srt l).map fun n : Nat => (n : Int)).Pairwise (· ≤ ·) := List.pairwise_map.mpr (h2.imp fun h => by omega)
  exact List.Perm.eq_of_pairwise (fun a b _ _ h1 h2 => Int.le_antisymm h1 h2) hs h3 (hp.trans (h1.map _).symm)
/-- a wish or an answer -/
@[irreducible] def spReadP (P : Program) (w : World) (K : PySem.W.Frag) : Sp := fun vs H Q _ => ∃ O L m rs p rl d n, vs = [.ref (WL.w L), .ref p, nv (Dd.hand d), .str (Dd.word d), .ref rl] ∧ WorldIn (.prog P w K) H O L m rs ∧ L.ps[Dd.hand d]? = some p ∧ H rl = some (.lst ((Dd.nums d).map nv)) ∧ O rl = none ∧ Fit n m ∧ n < big ∧ rs.length < big ∧ m.able d = true ∧
  ((∃ i, d = .wish i) ∨ ∃ i k, d = .answer i k) ∧ ∀ O' H' rs', WorldIn (.prog P w K) H' O' L (m.do d) rs' → Stp dA O H O' H' → Q .non H'
theorem sc_w_read : FnScope ["self", "hand", "number", "word", "rest", "wish"] ["self", "hand", "number", "word", "rest"] (defScope s_w_read) := ⟨rfl, rfl, rfl, by decide +kernel, rfl, by decide +kernel, by decide +kernel⟩
theorem ok_w_read (T : Tx w K mg) : MeI P w K mg base (He.ga K "World") "read" (1 + 1) ["self", "hand", "number", "word", "rest"] (spReadP P w K) := by
  refine MeI.mk' T.f_w_read T.cl_World T.m_World_read sc_w_read (fun _ _ _ _ _ _ us hl => match us, hl with | [_, _, _, _, _], _ => rfl) (fun vs H Q E h => ?_) (fun cdv A outer s H vs Q E hr h => ?_)
  all_goals unfold spReadP at h
  · obtain ⟨_, _, _, _, _, _, _, _, rfl, _⟩ := h
    rfl
  · obtain ⟨O, L, m, rs, p, rl, d, n, rfl, W, hp, hrl, orl, fit, hn, hb5, hab, hd, fin⟩ := h
    have hu := hu_of hr
    refine ⟨_, (pss_one (ps_if (pt_cmpR op_eq (pv 3) pe_str (nomark _)) (pss_cons (ps_set (i := 5) sc_w_read.nd rfl (.inl rfl) (pe_callB (id := "len") (lenK K) (by rfl) T.n_len (by decide +kernel) (pa_cons (fldK K (pv 0)) pa_nil)))
      (pss_cons (ps_expr (pe_bm PySem.F.plainAttrs_list PySem.F.slot_list_append PySem.F.type_list_append mt_append (fldK K (pv 0)) (pa_cons (pe_callB (id := "len") (lenK K) (by rfl) T.n_len (by decide +kernel) (pa_cons (fldK K (pv 0)) pa_nil)) pa_nil)))
      (pss_cons (ps_dput hu (fldK K (pv 1)) (pv 5) (pe_disp (pps_cons (pv 2) pe_bl pps_nil) (by rfl) (by rfl) (fun z => by cases z) (by decide)) rfl)
      (pss_one (ps_expr (pe_methI (ok_w_post T) hr (pv 0) (pa_cons (pe_tup (pa_cons pe_str (pa_cons (fldK K (pv 1)) (pa_cons (pv 2) (pa_cons (pv 5) pa_nil))))) pa_nil))))))) (pss_cons (ps_expr (pe_dpop1 (fldK K (pv 1)) (pe_ix (ixL K) (pv 4) pe_int (fun _ _ => rfl)) ⟨rfl, rfl, rfl, rfl⟩))
      (pss_one (ps_expr (pe_bm PySem.F.plainAttrs_list PySem.F.slot_list_append PySem.F.type_list_append mt_append (fldK K (pv 0)) (pa_cons (pe_tup (pa_cons (pe_ix (ixL K) (pv 4) pe_int (fun _ _ => rfl)) (pa_cons (pv 2) (pa_cons (pe_slice (slT K) (fldK K (pv 1)) po_none (po_some (fldK K (pv 1)))) pa_nil)))) pa_nil))))))), ?_⟩
    have hb1 : m.lts.length < big := Nat.lt_of_le_of_lt fit.lts hn
    obtain ⟨M, B⟩ := W.at_ hp
    obtain ⟨dx, ob⟩ := B.h.ob
    obtain ⟨dw, qw, yw, wob, _⟩ := W.ob
    have f1 := fit.hd d.hand
    rcases hd with ⟨i, rfl⟩ | ⟨i, k, rfl⟩
    · dsimp only [Dd.word, Dd.hand, Dd.nums, List.map] at *
      have em : m.do (.wish i) = (({ m with asked := m.asked ++ [m.settles.length] } : Wd).set i { m.hd i with wishes := aput (m.hd i).wishes m.asked.length [i] }).post (.see (m.hd i).term i m.asked.length) := rfl
      rw [em] at fin
      obtain ⟨ls, hl1, hl2⟩ := W.settles
      have hl3 : ls.length = m.settles.length := hl2.length.trans (List.length_map ..)
      refine hitE rfl ?_
      refine ⟨_, rfl, L.w, _, _, _, _, rfl, wob, T.cl_World, T.no_World_asked, fw_asked, _, _, rfl, .inl (SqL.of W.asked), ?_⟩
      refine ⟨_, rfl, L.w, _, _, _, _, rfl, wob, T.cl_World, T.no_World_asked, fw_asked, .inl ⟨rfl, _, SqL.of W.asked⟩, _, rfl, L.w, _, _, _, _, rfl, wob, T.cl_World, T.no_World_settles, fw_settles, _, _, rfl, .inl (SqL.of hl1), _, _, _, rfl, rfl, W.asked, ?_, ?_⟩
      · rw [List.length_map]
        exact big_line (Nat.lt_of_le_of_lt fit.asked hn)
      rw [hl3, List.length_map]
      obtain ⟨W2, S2⟩ := W.app_asked m.settles.length
      obtain ⟨M2, B2⟩ := W2.at_ hp
      have eg : ({ m with asked := m.asked ++ [m.settles.length] } : Wd).hd i = m.hd i := rfl
      rw [eg] at B2
      generalize m.hd i = h at *
      intro g hg
      refine ⟨_, rfl, upd_same, [(.inl (i : Int), .bl true)], rfl, by show 1 ≤ 15; decide, ?_⟩
      rw [upd_upd]
      obtain ⟨B3, S3, og, hg3⟩ := B2.own (a := g) (o := setD [i]) (c := .seen i m.asked.length) hg rfl noTup_dK
      have ew : h.wishes = M2.ws.map (mv (Prod.fst (α := List Nat) (β := Addr))) := B2.h.ws
      have fresh : ∀ x ∈ M2.ws, x.1 ≠ m.asked.length := fun x hx e => by
        have := (f1.wl (mv (Prod.fst (α := List Nat) (β := Addr)) x) (by rw [ew]; exact List.mem_map_of_mem hx)).1
        have e2 : (mv (Prod.fst (α := List Nat) (β := Addr)) x).1 = x.1 := rfl
        omega
      have hw2 : (M2.ws.map wK).length < sizeLine := by
        rw [List.length_map]
        have := f1.wishes
        rw [ew, List.length_map] at this
        exact big_line (Nat.lt_of_le_of_lt this hn)
      obtain ⟨dx3, ob3⟩ := B3.h.ob
      refine ⟨_, rfl, p, _, _, _, _, rfl, ob3, T.cl_Hand, T.no_Hand_wishes, fl_wishes, _, rfl, M2.w, _, rfl, DPut.k (k := .inl (m.asked.length : Int)) B3.h.wi hw2, ?_⟩
      have ep : putK (M2.ws.map wK) (.inl (m.asked.length : Int)) (.ref g) = (M2.ws ++ [(m.asked.length, [i], g)]).map wK := by
        rw [wK_eq, putK_kx (fun y : List Nat × Addr => V.ref y.2) m.asked.length ([i], g), aput_new _ fresh]
      rw [ep]
      obtain ⟨B4, S4⟩ := B3.wishIn (M2.ws ++ [(m.asked.length, [i], g)]) (fun x hx => by
        rcases List.mem_append.mp hx with a | a
        · exact B3.h.sn x a
        · rw [List.mem_singleton.mp a]
          exact ⟨hg3, og⟩)
      have ea : aput h.wishes m.asked.length [i] = (M2.ws ++ [(m.asked.length, [i], g)]).map fun x => (x.1, x.2.1) := by
        have e1 := aput_mv (Prod.fst (α := List Nat) (β := Addr)) m.asked.length ([i], g) M2.ws
        rw [← ew, aput_new _ fresh] at e1
        exact e1
      rw [ea] at fin
      obtain ⟨dx4, ob4⟩ := B4.h.ob
      obtain ⟨dw4, qw4, yw4, wob4, _⟩ := B4.w.ob
      refine ⟨_, rfl, L.w, _, _, rfl, wob4, rfl, _, rfl, p, _, _, _, _, rfl, ob4, T.cl_Hand, T.no_Hand_term, fl_term, _, rfl, _, rfl, by show 4 ≤ sizeLine; decide, fun T1 hT => ?_⟩
      have sm := same_new (o := .tup [.str "see", nv h.term, nv i, nv m.asked.length]) hT
      refine post_p (B4.w.same sm) (l := .see h.term i m.asked.length) (im_see.mpr ⟨T1, rfl, upd_same⟩) hb1 hb5 fun H6 rs6 h6 W6 S6 => ?_
      exact fin _ H6 rs6 W6 (S2.all.trans ((S3.trans S4).all.trans ((Stp.same S4.al sm).trans S6)))
    · dsimp only [Dd.word, Dd.hand, Dd.nums, List.map] at *
      have em : m.do (.answer i k) = ({ (m.set i { m.hd i with wishes := adrop (m.hd i).wishes k }) with answers := m.answers ++ [(k, i, (m.hd i).log.take (m.hd i).told)] } : Wd) := rfl
      rw [em] at fin
      have ew : (m.hd i).wishes = M.ws.map (mv (Prod.fst (α := List Nat) (β := Addr))) := B.h.ws
      have ev : valV (M.ws.map wK) (.inl (k : Int)) = (alook M.ws k).map (fun y => V.ref y.2) := by rw [wK_eq, valV_kx]
      have el : alook (m.hd i).wishes k = (alook M.ws k).map Prod.fst := by rw [ew, alook_mv]
      obtain ⟨⟨l, a⟩, ea⟩ : ∃ y, alook M.ws k = some y := by
        cases e : alook M.ws k with
        | some y => exact ⟨y, rfl⟩
        | none =>
          rw [e] at el
          simp [Wd.able, canAnswer, el] at hab
      rw [ea] at ev
      refine skipE rfl (by decide +kernel) ?_
      refine ⟨_, rfl, p, _, _, _, _, rfl, ob, T.cl_Hand, T.no_Hand_wishes, fl_wishes, M.w, rfl, .inl ⟨_, .inl B.h.wi⟩, _, rfl, rl, _, 0, _, rfl, rfl, SqL.of hrl, rfl, _, .inl (k : Int), _, B.h.wi, rfl, ev, ?_⟩
      have ed : dropK (M.ws.map wK) (.inl (k : Int)) = (adrop M.ws k).map wK := by rw [wK_eq, dropK_kx]
      rw [ed]
      obtain ⟨B2, S2⟩ := B.wishIn (adrop M.ws k) (fun x hx => B.h.sn x (List.mem_filter.mp hx).1)
      have e2 : adrop (m.hd i).wishes k = (adrop M.ws k).map fun x => (x.1, x.2.1) := by
        rw [ew]
        exact adrop_mv (Prod.fst (α := List Nat) (β := Addr)) k M.ws
      rw [← e2] at B2
      have W2 := B2.w
      obtain ⟨dx2, ob2⟩ := B2.h.ob
      obtain ⟨dw2, qw2, yw2, wob2, _⟩ := W2.ob
      have hrl2 := S2.keep _ _ hrl orl
      obtain ⟨xs, hx, hlog⟩ := im_logr.mp B2.h.log
      obtain ⟨ls, hl1, hl2⟩ := W2.answers
      refine ⟨_, rfl, L.w, _, _, _, _, rfl, wob2, T.cl_World, T.no_World_answers, fw_answers, .inl ⟨rfl, _, SqL.of hl1⟩, _, rfl, rl, _, 0, _, rfl, rfl, SqL.of hrl2, rfl, _, rfl, _, rfl, p, _, _, _, _, rfl, ob2, T.cl_Hand, T.no_Hand_log, fl_log, _, rfl, p, _, _, _, _, rfl, ob2, T.cl_Hand, T.no_Hand_told, fl_told, _, rfl, ?_⟩
      refine slice_to (m.hd i).told hx hlog fun q H5 s5 hq => ?_
      refine ⟨by show 3 ≤ sizeLine; decide, fun T1 hT => ?_⟩
      have sm := s5.trans (same_new (o := .tup [nv k, nv i, .ref q]) hT)
      have W3 := W2.same sm
      refine ⟨_, _, _, rfl, rfl, sm _ _ hl1, ?_, ?_⟩
      · have := hl2.length
        rw [List.length_map] at this
        rw [this]
        exact big_line (Nat.lt_of_le_of_lt fit.answers hn)
      obtain ⟨W4, S4⟩ := W3.app_answers (x := (k, i, (m.hd i).log.take (m.hd i).told)) (sm _ _ hl1) (ImAll.keep (same_tk sm) _ _ hl2) (v := .ref T1) (im_tr.mpr ⟨T1, q, rfl, upd_same, Im.keep (same_tk (same_new hT)) _ _ hq⟩)
      exact fin _ _ rs W4 (S2.all.trans ((Stp.same S2.al sm).trans S4.all))
/-- the list of what was posted is laid anew -/
def dP : Cell → Prop := fun c => c = .w ∨ c = .posted
theorem WorldIn.fresh {O : Own} {H : Hp} {L : WL} {m : Wd} {rs : List Dd} {q dx : Addr} {po : V} (W : WorldIn (.prog P w K) H O L m rs) (hq : H q = none) (wob : H L.w = some (.ins (CW K) dx (progFs L po))) :
    WorldIn (.prog P w K) (upd (upd H q (.lst [])) L.w (.ins (CW K) dx (progFs L (.ref q)))) (updO O q .posted) L m [] ∧ Stp dP O H (updO O q .posted) (upd (upd H q (.lst [])) L.w (.ins (CW K) dx (progFs L (.ref q)))) := by
  have S1 : Stp dP O H (updO O q .posted) (upd H q (.lst [])) := Stp.own W.al hq (.inr rfl) noTup_lst
  have ow := S1.mono _ _ W.ow
  have S := S1.trans (Stp.put (D := dP) (o := .ins (CW K) dx (progFs L (.ref q))) S1.al ow (.inl rfl) noTup_ins)
  have no : ∀ c : Cell, c ≠ .w → c ≠ .posted → ¬ dP c := fun c a b z => by rcases z with z | z <;> contradiction
  have ix : ∀ c : Cell, c.ix ≠ none → ¬ dP c := fun c a z => by rcases z with rfl | rfl <;> exact a rfl
  have nqw : q ≠ L.w := own_ne updO_same ow (by intro z; cases z)
  refine ⟨W.rest S rfl rfl ix (no _ (by intro z; cases z) (by intro z; cases z)) ⟨dx, q, [], upd_same, by rw [upd_ne nqw, upd_same], rfl, updO_same⟩ (by
    obtain ⟨as, a, b, c⟩ := W.lts_k S (no _ (by intro z; cases z) (by intro z; cases z)) (no _ (by intro z; cases z) (by intro z; cases z))
    exact ⟨as, a, b, c⟩) (W.leads_k S (no _ (by intro z; cases z) (by intro z; cases z))) (W.settles_k S (no _ (by intro z; cases z) (by intro z; cases z))) (W.answers_k S (no _ (by intro z; cases z) (by intro z; cases z))) (W.acts_k S (no _ (by intro z; cases z) (by intro z; cases z))) (W.asked_k S (no _ (by intro z; cases z) (by intro z; cases z))), S⟩
def doS (L : WL) (b : Addr) (wd : Str) (i : Nat) (rl p : Addr) : L2.St := [some (.ref L.w), some (.ref b), some (.str wd), some (nv i), some (.ref rl), some (.ref p), none]
@[irreducible] def spDoP (P : Program) (w : World) (K : PySem.W.Frag) : Sp := fun vs H Q _ => ∃ O L m rs d v n, vs = [.ref (WL.w L), v] ∧ WorldIn (.prog P w K) H O L m rs ∧ Im H (Dd.data d) v ∧ d.hand < m.hs.length ∧ Fit n m ∧ n < big ∧ m.able d = true ∧ (m.hd d.hand).got.length < 64 ∧
  ∀ O' H' rs', WorldIn (.prog P w K) H' O' L (m.do d) rs' → Stp dA O H O' H' → Q .non H'
theorem sc_w_do : FnScope ["self", "deed", "word", "number", "rest", "hand", "begun"] ["self", "deed"] (defScope s_w_do) := ⟨rfl, rfl, rfl, by decide +kernel, rfl, by decide +kernel, by decide +kernel⟩
theorem ok_w_do (T : Tx w K mg) : MeI P w K mg base (He.ga K "World") "do" (4 + 1) ["self", "deed"] (spDoP P w K) := by
  refine MeI.mk' T.f_w_do T.cl_World T.m_World_do sc_w_do (fun _ _ _ _ _ _ us hl => match us, hl with | [_, _], _ => rfl) (fun vs H Q E h => ?_) (fun cdv A outer s H vs Q E hr h => ?_)
  all_goals unfold spDoP at h
  · obtain ⟨_, _, _, _, _, _, _, rfl, _⟩ := h
    rfl
  · obtain ⟨O, L, m, rs, d, v, n, rfl, W, hv, hi, fit, hn, hab, hgot, fin⟩ := h
    have hu := hu_of hr
    refine ⟨_, (pss_cons (ps_fld (pv 0) (pe_lst pa_nil) rfl)
      (pss_cons (ps_asg (pv 1) (pg_starTup rfl (pgs_cons (pg_name (i := 2) sc_w_do.nd rfl (.inl rfl)) (pgs_cons (pg_name (i := 3) sc_w_do.nd rfl (.inl rfl)) (pgs_cons (pg_name (i := 4) sc_w_do.nd rfl (.inl rfl)) pgs_nil)))))
      (pss_cons (ps_set (i := 5) sc_w_do.nd rfl (.inl rfl) (pe_ix (ixL K) (fldK K (pv 0)) (pv 3) (fun _ _ => rfl)))
      (pss_one (ps_if (pt_cmpR op_eq (pv 2) pe_str (nomark _)) (pss_one (ps_expr (pe_methI (ok_w_stand T) hr (pv 0) (pa_cons (pv 5) (pa_cons (pv 3) pa_nil))))) (pss_one (ps_if (pt_cmpR op_eq (pv 2) pe_str (nomark _)) (pss_cons (ps_expr (pe_bm PySem.F.plainAttrs_list PySem.F.slot_list_append PySem.F.type_list_append mt_append (fldK K (pv 0)) (pa_cons (pe_tup (pa_cons (fldK K (pv 5)) (pa_cons (pv 3) (pa_cons (fldK K (pv 5)) (pa_cons (pe_callTy (T := "tuple") (tupleK K) (by rfl) T.n_tuple (by decide +kernel) (pa_cons (pe_callB (id := "sorted") (call_sortedDI rfl) (by rfl) T.n_sorted (by decide +kernel) (pa_cons (fldK K (pv 5)) pa_nil)) pa_nil)) pa_nil))))) pa_nil)))
      (pss_cons (ps_set (i := 6) sc_w_do.nd rfl (.inl rfl) (pe_callB (id := "len") (lenK K) (by rfl) T.n_len (by decide +kernel) (pa_cons (fldK K (pv 5)) pa_nil)))
      (pss_cons (ps_expr (pe_methI (ok_h_take_role T) hr (pv 5) (pa_cons pe_str pa_nil)))
      (pss_one (ps_fld (pv 5) (pv 6) rfl))))) (pss_one (ps_if (pt_cmpR op_eq (pv 2) pe_str (nomark _)) (pss_one (ps_fld (pv 5) (pe_tup (StX.pa_star (fldK K (pv 5)) (pa_cons (pe_tup (pa_cons (fldK K (pv 5)) (pa_cons (pe_ix (ixL K) (pv 4) pe_int (fun _ _ => rfl)) pa_nil))) pa_nil))) rfl)) (pss_one (ps_if (pt_cmpR op_eq (pv 2) pe_str (nomark _)) (pss_one (ps_expr (pe_methI (ok_w_send T) hr (pv 0) (pa_cons (pv 5) (pa_cons (pv 3) (pa_cons (pe_ix (ixL K) (pv 4) pe_int (fun _ _ => rfl)) (pa_cons (pe_ix (ixL K) (pv 4) pe_int (fun _ _ => rfl)) pa_nil))))))) (pss_one (ps_if (pt_cmpR op_eq (pv 2) pe_str (nomark _)) (pss_cons (ps_fld (pv 5) (pe_ix (ixL K) (pv 4) pe_int (fun _ _ => rfl)) rfl)
      (pss_cons (ps_expr (pe_bm PySem.F.plainAttrs_list PySem.F.slot_list_append PySem.F.type_list_append mt_append (fldK K (pv 0)) (pa_cons (pe_tup (pa_cons (fldK K (pv 5)) (pa_cons (pv 3) (pa_cons (pe_slice (slT K) (fldK K (pv 5)) po_none (po_some (pe_ix (ixL K) (pv 4) pe_int (fun _ _ => rfl)))) pa_nil)))) pa_nil)))
      (pss_one (ps_expr (pe_methI (ok_w_act T) hr (pv 0) (pa_cons (pv 5) (pa_cons (pv 3) (pa_cons (pe_ix (ixL K) (pv 4) pe_int (fun _ _ => rfl)) pa_nil)))))))) (pss_one (ps_if (pt_cmpR op_eq (pv 2) pe_str (nomark _)) (pss_one (ps_expr (pe_methI (ok_w_crash T) hr (pv 0) (pa_cons (pv 5) pa_nil)))) (pss_one (ps_if (pt_cmpR op_eq (pv 2) pe_str (nomark _)) (pss_one (ps_expr (pe_methI (ok_w_hear T) hr (pv 0) (pa_cons (pv 5) (pa_cons (pv 3) (pa_cons (pe_ix (ixL K) (fldK K (pv 0)) (pe_ix (ixL K) (pv 4) pe_int (fun _ _ => rfl)) (fun _ _ => rfl)) pa_nil)))))) (pss_one (ps_expr (pe_methI (ok_w_read T) hr (pv 0) (pa_cons (pv 5) (pa_cons (pv 3) (pa_cons (pv 2) (pa_cons (pv 4) pa_nil)))))))))))))))))))))))), ?_⟩
    obtain ⟨dx, q0, xs0, wob, _⟩ := W.ob
    obtain ⟨b, rfl, hvb⟩ := im_deed.mp hv
    refine ⟨Nat.zero_le _, fun q hq => ?_⟩
    have nwq : L.w ≠ q := W.al.ne W.ow hq
    refine ⟨_, rfl, L.w, _, _, _, rfl, (by rw [upd_ne nwq]; exact wob), T.cl_World, T.no_World_posted, by show 10 < 1000; decide, ?_⟩
    obtain ⟨W1, S1⟩ := W.fresh hq wob
    have hvb1 := S1.tk W.al _ _ hvb
    have hb2 : d.nums.length ≤ 2 := by cases d <;> simp [Dd.nums]
    refine ⟨_, rfl, b, _, rfl, SqT.of hvb1, by show 2 ≤ (d.nums.map nv).length + 2; omega, by show (d.nums.map nv).length + 2 ≤ 1000; rw [List.length_map]; omega, fun rl hrl => ⟨_, _, rfl, _, _, rfl, _, _, rfl, rfl, ?_⟩⟩
    have s2 := same_new (o := .lst (d.nums.map nv)) hrl
    have W2 := W1.same s2
    have orl : updO O q .posted rl = none := W1.al.fresh hrl
    have hrl2 : (upd (upd (upd H q (.lst [])) L.w (.ins (CW K) dx (progFs L (.ref q)))) rl (.lst (d.nums.map nv))) rl = some (.lst (d.nums.map nv)) := upd_same
    obtain ⟨p, hp⟩ := W2.get hi
    have hps : (L.ps.map V.ref)[d.hand]? = some (.ref p) := by rw [List.getElem?_map, hp]; rfl
    obtain ⟨dw2, qw2, yw2, wob2, _⟩ := W2.ob
    dsimp only
    refine seq_have (fun σ3 H3 => σ3 = doS L b d.word d.hand rl p ∧ WorldIn (.prog P w K) H3 (updO O q .posted) L m [] ∧ H3 rl = some (.lst (d.nums.map nv)) ∧ Stp dA O H (updO O q .posted) H3) ?_ (fun key => ?_)
    rotate_left
    · refine ⟨_, rfl, L.w, _, _, _, _, rfl, wob2, T.cl_World, T.no_World_hands, fw_hands, _, rfl, _, _, _, _, rfl, rfl, SqL.of W2.hs, atI_nat hps, ?_⟩
      refine key _ _ ⟨rfl, W2, hrl2, ?_⟩
      have S1' : Stp dA O H (updO O q .posted) _ := S1.wide (by rintro c (rfl | rfl) z <;> cases z)
      exact S1'.trans (Stp.same W1.al s2)
    clear hrl2 wob2 W2 s2 hvb1 W1 S1 wob
    rintro _ H3 ⟨rfl, W3, hrl3, S3⟩
    generalize updO O q .posted = O3 at *
    have fin3 : ∀ O' H' rs', WorldIn (.prog P w K) H' O' L (m.do d) rs' → Stp dA O3 H3 O' H' → Q .non H' := fun O' H' rs' a s => fin O' H' rs' a (S3.trans s)
    obtain ⟨M, B⟩ := W3.at_ hp
    have f1 := fit.hd d.hand
    have hb1 : m.lts.length < big := Nat.lt_of_le_of_lt fit.lts hn
    have hb2' : m.acts.length < big := Nat.lt_of_le_of_lt fit.acts hn
    obtain ⟨dx3, ob⟩ := B.h.ob
    obtain ⟨dw, qw, yw, wob, _⟩ := W3.ob
    have hz : ([] : List Dd).length < big := by decide
    clear fin
    cases d with
    | stand i =>
      dsimp only [Dd.word, Dd.hand, Dd.nums, List.map] at *
      refine hitE rfl ⟨_, rfl, L.w, _, _, rfl, wob, rfl, _, rfl, _, rfl, ?_⟩
      show spStandP P w K [.ref L.w, .ref p, nv i] H3 _ _
      unfold spStandP
      exact ⟨O3, L, m, [], i, p, rfl, W3, hp, hb1, hz, fun O' H' rs' _ W' S' => fin3 O' H' rs' W' S'⟩
    | lead i =>
      dsimp only [Dd.word, Dd.hand, Dd.nums, List.map] at *
      have em : m.do (.lead i) = { m with leads := m.leads ++ [((m.hd i).term, i, (m.hd i).log, srt (m.hd i).got)] }.set i { (m.hd i).to .leads with begun := (m.hd i).log.length } := rfl
      rw [em] at fin3
      refine skipE rfl (by decide +kernel) (hitE rfl ?_)
      obtain ⟨ls, hl1, hl2⟩ := W3.leads
      refine ⟨_, rfl, L.w, _, _, _, _, rfl, wob, T.cl_World, T.no_World_leads, fw_leads, .inl ⟨rfl, _, SqL.of hl1⟩, _, rfl, p, _, _, _, _, rfl, ob, T.cl_Hand, T.no_Hand_term, fl_term, _, rfl, _, rfl, p, _, _, _, _, rfl, ob, T.cl_Hand, T.no_Hand_log, fl_log, _, rfl, p, _, _, _, _, rfl, ob, T.cl_Hand, T.no_Hand_got, fl_got, M.g, _, (m.hd i).got.map fun n : Nat => (n : Int), rfl, .inl B.h.got, ?_, by rw [List.length_map]; exact hgot, fun ys lp hperm hsrt hlp => ?_⟩
      · rw [List.map_map, List.map_map]
        rfl
      rw [srt_eq hperm hsrt]
      have e1 : ((srt (m.hd i).got).map fun n : Nat => (n : Int)).map V.int = (srt (m.hd i).got).map nv := by rw [List.map_map]; rfl
      rw [e1]
      have s1 := same_new (o := .lst ((srt (m.hd i).got).map nv)) hlp
      refine ⟨lp, _, rfl, .inl ⟨SqL.of upd_same, fun T0 hT0 => ?_⟩⟩
      have s2 := same_new (o := .tup ((srt (m.hd i).got).map nv)) hT0
      refine ⟨by show 4 ≤ sizeLine; decide, fun T1 hT => ?_⟩
      have s3 := same_new (o := .tup [nv (m.hd i).term, nv i, .ref M.l, .ref T0]) hT
      have sm := s1.trans (s2.trans s3)
      have W4 := W3.same sm
      refine ⟨_, _, _, rfl, rfl, sm _ _ hl1, ?_, ?_⟩
      · have := hl2.length
        rw [List.length_map] at this
        rw [this]
        exact big_line (Nat.lt_of_le_of_lt fit.leads hn)
      obtain ⟨W5, S5⟩ := W4.app_leads (x := ((m.hd i).term, i, (m.hd i).log, srt (m.hd i).got)) (sm _ _ hl1) (ImAll.keep (same_tk sm) _ _ hl2) (v := .ref T1) (by
        show Im _ (leadD4 _) _
        exact im_t4.mpr ⟨T1, _, _, _, _, rfl, upd_same, im_nat.mpr rfl, im_nat.mpr rfl, Im.keep (same_tk sm) _ _ B.h.log, Im.tup' (s3 _ _ upd_same) (imAll_nats.mpr rfl)⟩)
      have S4 := (Stp.same (D := dA) W3.al sm).trans S5.all
      obtain ⟨M4, B4⟩ := W5.at_ hp
      have eg : ({ m with leads := m.leads ++ [((m.hd i).term, i, (m.hd i).log, srt (m.hd i).got)] } : Wd).hd i = m.hd i := rfl
      rw [eg] at B4
      generalize m.hd i = h at *
      obtain ⟨dx4, ob4⟩ := B4.h.ob
      obtain ⟨xs, hx, hlog⟩ := im_logr.mp B4.h.log
      refine ⟨_, rfl, p, _, _, _, _, rfl, ob4, T.cl_Hand, T.no_Hand_log, fl_log, _, xs, rfl, .inr (SqT.of hx), ?_⟩
      refine ⟨_, rfl, p, _, _, rfl, ob4, rfl, ?_⟩
      show spRoleP P w K [.ref p, .str (Role.str .leads)] _ _ _
      refine role_p B4 .leads fun O5 H5 M5 B5 S5 => ?_
      obtain ⟨dx5, ob5⟩ := B5.h.ob
      refine ⟨_, rfl, _, rfl, p, _, _, _, rfl, ob5, T.cl_Hand, T.no_Hand_begun, by show 10 < 1000; decide, ?_⟩
      obtain ⟨B6, S6⟩ := B5.putProg dx5 { h.to .leads with begun := h.log.length } M5.l B5.h.log
      rw [hlog.length]
      exact fin3 _ _ [] B6.w (S4.trans (S5.trans S6).all)
    | put i k =>
      dsimp only [Dd.word, Dd.hand, Dd.nums, List.map] at *
      have em : m.do (.put i k) = m.set i { m.hd i with log := (m.hd i).log ++ [((m.hd i).term, k)] } := rfl
      rw [em] at fin3
      generalize m.hd i = h at *
      obtain ⟨xs, hx, hlog⟩ := im_logr.mp B.h.log
      refine skipE rfl (by decide +kernel) (skipE rfl (by decide +kernel) (hitE rfl ?_))
      refine ⟨_, rfl, p, _, _, _, _, rfl, ob, T.cl_Hand, T.no_Hand_log, fl_log, _, xs, rfl, .inl (SqT.of hx), _, rfl, p, _, _, _, _, rfl, ob, T.cl_Hand, T.no_Hand_term, fl_term, _, rfl, rl, _, 0, _, rfl, rfl, SqL.of hrl3, rfl, by show 2 ≤ sizeLine; decide, fun T0 hT => ?_⟩
      have s1 := same_new (o := .tup [nv h.term, nv k]) hT
      have hz2 : (xs ++ [V.ref T0]).length ≤ sizeLine := by
        have h1 := f1.log
        have h2 : big + 1 < sizeLine := by decide
        rw [List.length_append, hlog.length]
        show h.log.length + 1 ≤ sizeLine
        omega
      refine ⟨hz2, fun T2 hT2 => ?_⟩
      have s2 := same_new (o := .tup (xs ++ [.ref T0])) hT2
      have sm := s1.trans s2
      have B5 := B.same sm
      obtain ⟨B6, S6⟩ := B5.putProg dx3 { h with log := h.log ++ [(h.term, k)] } T2 (im_logr.mpr ⟨_, upd_same, (hlog.keep (same_tk sm)).snoc (s2 _ _ upd_same)⟩)
      exact ⟨_, rfl, p, _, _, _, rfl, sm _ _ ob, T.cl_Hand, T.no_Hand_log, by show 10 < 1000; decide, fin3 _ _ [] B6.w ((Stp.same B.al sm).trans S6.all)⟩
    | send i a c =>
      dsimp only [Dd.word, Dd.hand, Dd.nums, List.map] at *
      have hac : a + c ≤ (m.hd i).log.length := by
        simp only [Wd.able, Bool.and_eq_true, decide_eq_true_eq] at hab
        exact hab.2
      refine skipE rfl (by decide +kernel) (skipE rfl (by decide +kernel) (skipE rfl (by decide +kernel) (hitE rfl ⟨_, rfl, L.w, _, _, rfl, wob, rfl, _, rfl, _, rfl, _, rfl, rl, _, 0, _, rfl, rfl, SqL.of hrl3, rfl, _, rfl, rl, _, 1, _, rfl, rfl, SqL.of hrl3, rfl, ?_⟩)))
      show spSendP P w K [.ref L.w, .ref p, nv i, nv a, nv c] H3 _ _
      unfold spSendP
      exact ⟨O3, L, m, [], i, p, a, c, rfl, W3, hp, hb1, hz, hac, fun O' H' rs' _ W' S' => fin3 O' H' rs' W' S'⟩
    | settle i c =>
      dsimp only [Dd.word, Dd.hand, Dd.nums, List.map] at *
      have em : m.do (.settle i c) = ({ (m.set i { m.hd i with told := c }) with settles := m.settles ++ [((m.hd i).term, i, (m.hd i).log.take c)] } : Wd).act i c := rfl
      rw [em] at fin3
      refine skipE rfl (by decide +kernel) (skipE rfl (by decide +kernel) (skipE rfl (by decide +kernel) (skipE rfl (by decide +kernel) (hitE rfl ?_))))
      obtain ⟨B2, S2⟩ := B.putProg dx3 { m.hd i with told := c } M.l B.h.log
      refine ⟨_, rfl, rl, _, 0, _, rfl, rfl, SqL.of hrl3, rfl, _, rfl, p, _, _, _, rfl, ob, T.cl_Hand, T.no_Hand_told, by show 10 < 1000; decide, ?_⟩
      have W2 := B2.w
      obtain ⟨dx2, ob2⟩ := B2.h.ob
      obtain ⟨dw2, qw2, yw2, wob2, _⟩ := W2.ob
      have hrl4 := S2.keep _ _ hrl3 orl
      obtain ⟨xs, hx, hlog⟩ := im_logr.mp B2.h.log
      obtain ⟨ls, hl1, hl2⟩ := W2.settles
      refine ⟨_, rfl, L.w, _, _, _, _, rfl, wob2, T.cl_World, T.no_World_settles, fw_settles, .inl ⟨rfl, _, SqL.of hl1⟩, _, rfl, p, _, _, _, _, rfl, ob2, T.cl_Hand, T.no_Hand_term, fl_term, _, rfl, _, rfl, p, _, _, _, _, rfl, ob2, T.cl_Hand, T.no_Hand_log, fl_log, _, rfl, rl, _, 0, _, rfl, rfl, SqL.of hrl4, rfl, _, rfl, ?_⟩
      refine slice_to c hx hlog fun q H5 s5 hq => ?_
      refine ⟨by show 3 ≤ sizeLine; decide, fun T1 hT => ?_⟩
      have sm := s5.trans (same_new (o := .tup [nv (m.hd i).term, nv i, .ref q]) hT)
      have W4 := W2.same sm
      refine ⟨_, _, _, rfl, rfl, sm _ _ hl1, ?_, ?_⟩
      · have := hl2.length
        rw [List.length_map] at this
        rw [this]
        exact big_line (Nat.lt_of_le_of_lt fit.settles hn)
      obtain ⟨W5, S5⟩ := W4.app_settles (x := ((m.hd i).term, i, (m.hd i).log.take c)) (sm _ _ hl1) (ImAll.keep (same_tk sm) _ _ hl2) (v := .ref T1) (im_tr.mpr ⟨T1, q, rfl, upd_same, Im.keep (same_tk (same_new hT)) _ _ hq⟩)
      have hrl5 := S5.keep _ _ (sm _ _ hrl4) orl
      obtain ⟨dw5, qw5, yw5, wob5, _⟩ := W5.ob
      refine ⟨_, rfl, L.w, _, _, rfl, wob5, rfl, _, rfl, _, rfl, _, rfl, rl, _, 0, _, rfl, rfl, SqL.of hrl5, rfl, ?_⟩
      show spActP P w K [.ref L.w, .ref p, nv i, nv c] _ _ _
      exact act_p W5 hp hb2' fun H6 W6 S6 => fin3 _ H6 [] W6 (S2.all.trans ((Stp.same S2.al sm).trans (S5.all.trans S6)))
    | crash i =>
      dsimp only [Dd.word, Dd.hand, Dd.nums, List.map] at *
      refine skipE rfl (by decide +kernel) (skipE rfl (by decide +kernel) (skipE rfl (by decide +kernel) (skipE rfl (by decide +kernel) (skipE rfl (by decide +kernel) (hitE rfl ⟨_, rfl, L.w, _, _, rfl, wob, rfl, _, rfl, ?_⟩)))))
      show spCrashP P w K [.ref L.w, .ref p] H3 _ _
      unfold spCrashP
      exact ⟨O3, L, m, [], i, p, rfl, W3, hp, fun O' H' W' S' => fin3 O' H' [] W' S'⟩
    | hear i k =>
      dsimp only [Dd.word, Dd.hand, Dd.nums, List.map] at *
      have hk : k < m.lts.length := by
        by_cases z : k < m.lts.length
        · exact z
        · simp [Wd.able, List.getElem?_eq_none (show m.lts.length ≤ k by omega)] at hab
      have em : m.do (.hear i k) = m.hear i m.lts[k] := by simp [Wd.do, List.getElem?_eq_getElem hk]
      rw [em] at fin3
      obtain ⟨as1, la, lb, _⟩ := W3.lts
      obtain ⟨v, hv1, hv2⟩ := lb.get (i := k) (d := m.lts[k].data) (by simp [hk])
      refine skipE rfl (by decide +kernel) (skipE rfl (by decide +kernel) (skipE rfl (by decide +kernel) (skipE rfl (by decide +kernel) (skipE rfl (by decide +kernel) (skipE rfl (by decide +kernel) (hitE rfl ⟨_, rfl, L.w, _, _, rfl, wob, rfl, _, rfl, _, rfl, _, rfl, L.w, _, _, _, _, rfl, wob, T.cl_World, T.no_World_bag, fw_bag, _, rfl, rl, _, 0, _, rfl, rfl, SqL.of hrl3, rfl, _, _, _, _, rfl, rfl, SqL.of la, atI_nat hv1, ?_⟩))))))
      show spHearP P w K [.ref L.w, .ref p, nv i, v] H3 _ _
      unfold spHearP
      exact ⟨O3, L, m, [], i, p, m.lts[k], v, n, rfl, W3, hp, hv2, fit, hn, fit.lt _ (List.getElem_mem hk), hz, fun O' H' rs' _ W' S' => fin3 O' H' rs' W' S'⟩
    | wish i =>
      dsimp only [Dd.word, Dd.hand, Dd.nums, List.map] at *
      refine skipE rfl (by decide +kernel) (skipE rfl (by decide +kernel) (skipE rfl (by decide +kernel) (skipE rfl (by decide +kernel) (skipE rfl (by decide +kernel) (skipE rfl (by decide +kernel) (skipE rfl (by decide +kernel) ⟨_, rfl, L.w, _, _, rfl, wob, rfl, _, rfl, _, rfl, _, rfl, _, rfl, ?_⟩))))))
      show spReadP P w K [.ref L.w, .ref p, nv i, .str "wish", .ref rl] H3 _ _
      unfold spReadP
      exact ⟨O3, L, m, [], p, rl, .wish i, n, rfl, W3, hp, hrl3, orl, fit, hn, hz, hab, .inl ⟨i, rfl⟩, fin3⟩
    | answer i k =>
      dsimp only [Dd.word, Dd.hand, Dd.nums, List.map] at *
      refine skipE rfl (by decide +kernel) (skipE rfl (by decide +kernel) (skipE rfl (by decide +kernel) (skipE rfl (by decide +kernel) (skipE rfl (by decide +kernel) (skipE rfl (by decide +kernel) (skipE rfl (by decide +kernel) ⟨_, rfl, L.w, _, _, rfl, wob, rfl, _, rfl, _, rfl, _, rfl, _, rfl, ?_⟩))))))
      show spReadP P w K [.ref L.w, .ref p, nv i, .str "answer", .ref rl] H3 _ _
      unfold spReadP
      exact ⟨O3, L, m, [], p, rl, .answer i k, n, rfl, W3, hp, hrl3, orl, fit, hn, hz, hab, .inr ⟨i, k, rfl⟩, fin3⟩
end
end Sr

set_option Elab.async false
set_option linter.all false
set_option maxRecDepth 100000
set_option maxHeartbeats 4000000
namespace Sr
open PySem PySem.Spec PyProof.Rows L2
local macro_rules | `(tactic| walk_at "hp") => `(tactic| (unfold upd at *; grind))
section
variable {P : Program} {w : World} {base : Heap} {K : PySem.W.Frag} {mg : Str → Option Value}
theorem looks_at (T : Tx w K mg) (H : Hp) : SqT K H (He.ga K "LOOKS") (looksL.map V.str) := He.tupB_ok (ex_at T).1 H
theorem rules_at (T : Tx w K mg) (H : Hp) : SqT K H (He.ga K "RULES") (rulesL.map V.str) := He.tupB_ok (ex_at T).2.1 H
@[irreducible] def spWord (P : Program) (w : World) (K : PySem.W.Frag) : Sp := fun vs H Q _ => ∃ x a ws, vs = [.str x, .ref a] ∧ SqT K H a (List.map V.str ws) ∧ Q (.bl (decide (x ∈ ws))) H
theorem sc_p_is_word : FnScope ["thing", "words"] ["thing", "words"] (defScope s_p_is_word) := ⟨rfl, rfl, rfl, by decide +kernel, rfl, by decide +kernel, by decide +kernel⟩
theorem ok_p_is_word (T : Tx w K mg) : FnI P w K mg base "is_word" (0 + 1) ["thing", "words"] (spWord P w K) := by
  refine FnI.mk' T.f_p_is_word T.g_is_word sc_p_is_word (fun _ _ _ _ _ _ us hl => match us, hl with | [_, _], _ => rfl) (fun vs H Q E h => ?_) (fun cdv A outer s H vs Q E hr h => ?_)
  all_goals unfold spWord at h
  · obtain ⟨_, _, _, rfl, _⟩ := h
    rfl
  · obtain ⟨x, a, ws, rfl, hs, fin⟩ := h
    have hu := hu_of hr
    refine ⟨_, (pss_one (ps_ret (pe_and (pe_callB (id := "isinstance") (isiK K) (by rfl) T.n_isinstance (by decide +kernel) (pa_cons (pv 0) (pa_cons (pe_bltn (v := .ty "str") (u := .type "str") (by rfl) T.n_str (by decide +kernel) rfl) pa_nil))) (pe_one (pe_cmpR op_in_seq (pv 0) (pv 1) rfl))))), ?_⟩
    refine ⟨_, rfl, _, _, _, _, _, rfl, .ty "str", .base (.str _), rfl, _, rfl, iteT ?_⟩
    refine ⟨_, rfl, _, rfl, a, _, rfl, .inr hs, rfl, flat_strs _, ?_⟩
    show Q (.bl (inV (.str x) (ws.map V.str))) H
    rw [inV_strs]
    exact fin
theorem word_p {H : Hp} {x : Str} {a : Addr} {ws : List Str} {Q : VK} {E : XK} (hs : SqT K H a (ws.map V.str)) (hx : x ∈ ws) (k : Q (.bl true) H) : spWord P w K [.str x, .ref a] H Q E := by
  unfold spWord
  exact ⟨x, a, ws, rfl, hs, by rw [decide_eq_true hx]; exact k⟩
theorem trues_all (n : Nat) : (List.replicate n true).all id = true := by
  rw [List.all_eq_true]
  intro x hx
  rw [(List.mem_replicate.mp hx).2]
  rfl
theorem trues_snoc (n : Nat) {H : Hp} {D : Addr} : upd (upd H D (.lst ((List.replicate n true).map V.bl))) D (.lst ((List.replicate n true).map V.bl ++ [.bl true])) = upd H D (.lst ((List.replicate (n + 1) true).map V.bl)) := by
  rw [upd_upd, List.replicate_succ', List.map_append]
  rfl
theorem trues_len {n : Nat} (h : n < 100) : ((List.replicate n true).map V.bl).length < sizeLine := by
  rw [List.length_map, List.length_replicate]
  have : (100 : Nat) < sizeLine := by decide
  omega
theorem asc_at : ∀ {rs : List Str}, ascS rs = true → ∀ {j : Nat} {x y : Str}, rs[j]? = some x → rs[j + 1]? = some y → x.cps.toList < y.cps.toList
  | [], _, j, x, y, h, _ => by simp at h
  | [_], _, j, x, y, _, h => by simp at h
  | a :: b :: r, e, 0, x, y, h1, h2 => by
    cases h1
    cases h2
    simp only [ascS, Bool.and_eq_true, decide_eq_true_eq] at e
    exact e.1
  | a :: b :: r, e, j + 1, x, y, h1, h2 => by
    simp only [ascS, Bool.and_eq_true, decide_eq_true_eq] at e
    exact asc_at e.2 h1 h2
@[irreducible] def spNums (P : Program) (w : World) (K : PySem.W.Frag) : Sp := fun vs H Q _ => ∃ h q ns, vs = [nv h, .ref q] ∧ H q = some (.tup (List.map nv ns)) ∧ 1 ≤ h ∧ h ≤ 7 ∧ (∀ x ∈ ns, 1 ≤ x ∧ x ≤ h) ∧ ns.length < 100 ∧ ∀ H', Same H H' → Q (.bl true) H'
theorem sc_p_are_numbers : FnScope ["hands", "some", "one"] ["hands", "some"] (defScope s_p_are_numbers) := ⟨rfl, rfl, rfl, by decide +kernel, rfl, by decide +kernel, by decide +kernel⟩
theorem ok_p_are_numbers (T : Tx w K mg) : FnI P w K mg base "are_numbers" (1 + 1) ["hands", "some"] (spNums P w K) := by
  refine FnI.mk' T.f_p_are_numbers T.g_are_numbers sc_p_are_numbers (fun _ _ _ _ _ _ us hl => match us, hl with | [_, _], _ => rfl) (fun vs H Q E h => ?_) (fun cdv A outer s H vs Q E hr h => ?_)
  all_goals unfold spNums at h
  · obtain ⟨_, _, _, rfl, _⟩ := h
    rfl
  · obtain ⟨h, q, ns, rfl, hq, h1, h7, hns, hl, fin⟩ := h
    have hu := hu_of hr
    refine ⟨_, (pss_one (ps_ret (pe_and (pe_callI (ok_p_is_number (P := P) T) hr (pa_cons (pv 0) (pa_cons pe_int (pa_cons (pe_globI (by rfl) T.i_MOST_HANDS) pa_nil)))) (pe_one (pe_callB (id := "all") (cr_all rfl) (by rfl) T.n_all (by decide +kernel) (pa_cons (pe_lc (own := [("one", 2)]) (g := gName 2) rfl sc_p_are_numbers.nd (pi_tup (pv 1)) (blkOk_by (own := [("one", 2)]) (N := ["hands", "some", "one"]) (sc := defScope s_p_are_numbers) (by decide +kernel)) (fun _ _ _ _ _ => (pg_name (i := 2) sc_p_are_numbers.nd rfl (Or.inl rfl))) (fun _ _ _ _ _ => pts_nil) (fun _ _ _ _ _ => (pe_callI (ok_p_is_number (P := P) T) hr (pa_cons (pv 2) (pa_cons pe_int (pa_cons (pv 0) pa_nil)))))) pa_nil)))))), ?_⟩
    refine ⟨_, rfl, num_p ⟨_, rfl, ?_⟩⟩
    rw [decide_eq_true (show (1 : Int) ≤ (h : Int) by omega), decide_eq_true (show (h : Int) ≤ 7 by omega)]
    refine iteT ?_
    refine ⟨_, rfl, q, rfl, ⟨_, SqT.of hq⟩, fun D hD => ?_⟩
    refine lc_it (walk_tup (xs := ns.map nv)) (fun j H3 => H3 = upd H D (.lst ((List.replicate j true).map V.bl))) rfl ?_ ?_ ?_
    · rintro j _ _ rfl
      exact SqT.of ((same_new hD) _ _ hq)
    · rintro j x _ _ hj rfl ⟨rfl, ex⟩
      rw [List.getElem?_map] at ex
      cases eq : ns[j]? with
      | none => rw [eq] at ex; cases ex
      | some x0 =>
        rw [eq] at ex
        cases ex
        have hx := hns x0 (List.mem_of_getElem? eq)
        rw [List.length_map] at hj
        refine ⟨rfl, ?_⟩
        refine ⟨_, rfl, _, rfl, ?_⟩
        show spIsNum P w K [.int (x0 : Int), .int 1, .int (h : Int)] _ _ _
        refine num_p ?_
        rw [decide_eq_true (show (1 : Int) ≤ (x0 : Int) by omega), decide_eq_true (show (x0 : Int) ≤ (h : Int) by omega)]
        exact ⟨_, upd_same, trues_len (by omega), trues_snoc j⟩
    · rintro _ rfl
      refine ⟨D, List.replicate (ns.map nv).length true, rfl, SqL.of upd_same, ?_⟩
      rw [trues_all]
      exact fin _ (same_new hD)
@[irreducible] def spRulesP (P : Program) (w : World) (K : PySem.W.Frag) : Sp := fun vs H Q _ => ∃ a rs, vs = [.ref a] ∧ H a = some (.tup (List.map V.str rs)) ∧ RulesOk rs ∧ ∀ H', Same H H' → Q (.bl true) H'
theorem walk_zipT {K : PySem.W.Frag} {a b : Addr} {xs ys : List V} {n : Nat} (hn : n = min xs.length ys.length) : Walk (RZ.ItzT K a b) n (fun H => SqT K H a xs ∧ SqT K H b ys) (YPair (fun i => xs[i]?) (fun i => ys[i]?)) := by
  subst hn
  refine ⟨fun i _ lt rows => ?_, fun _ rows => ⟨xs, ys, rows.1, rows.2, by omega⟩, fun i H v H' _ rows got => ?_⟩
  · have inX : i < xs.length := by omega
    have inY : i < ys.length := by omega
    exact ⟨xs, ys, xs[i], ys[i], rows.1, rows.2, by simp [inX], by simp [inY]⟩
  · obtain ⟨T, x, y, ev, fresh, eH, items⟩ := got
    exact ⟨T, x, y, ev, fresh, eH, items.1 xs rows.1, items.2 ys rows.2⟩
theorem sc_p_are_rules : FnScope ["thing", "rule", "one", "other"] ["thing"] (defScope s_p_are_rules) := ⟨rfl, rfl, rfl, by decide +kernel, rfl, by decide +kernel, by decide +kernel⟩
theorem ok_p_are_rules (T : Tx w K mg) : FnI P w K mg base "are_rules" (1 + 1) ["thing"] (spRulesP P w K) := by
  refine FnI.mk' T.f_p_are_rules T.g_are_rules sc_p_are_rules (fun _ _ _ _ _ _ us hl => match us, hl with | [_], _ => rfl) (fun vs H Q E h => ?_) (fun cdv A outer s H vs Q E hr h => ?_)
  all_goals unfold spRulesP at h
  · obtain ⟨_, _, rfl, _⟩ := h
    rfl
  · obtain ⟨a, rs, rfl, ha, ok, fin⟩ := h
    have hu := hu_of hr
    refine ⟨_, (pss_cons (ps_if (pw_or (pt_not (pt_val (pe_callB (id := "isinstance") (isiK K) (by rfl) T.n_isinstance (by decide +kernel) (pa_cons (pv 0) (pa_cons (pe_bltn (v := .ty "tuple") (u := .type "tuple") (by rfl) T.n_tuple (by decide +kernel) rfl) pa_nil))))) (pw_or1 (pt_not (pt_val (pe_callB (id := "all") (cr_all rfl) (by rfl) T.n_all (by decide +kernel) (pa_cons (pe_lc (own := [("rule", 1)]) (g := gName 1) rfl sc_p_are_rules.nd (pi_tup (pv 0)) (blkOk_by (own := [("rule", 1)]) (N := ["thing", "rule", "one", "other"]) (sc := defScope s_p_are_rules) (by decide +kernel)) (fun _ _ _ _ _ => (pg_name (i := 1) sc_p_are_rules.nd rfl (Or.inl rfl))) (fun _ _ _ _ _ => pts_nil) (fun _ _ _ _ _ => (pe_callI (ok_p_is_word (P := P) T) hr (pa_cons (pv 1) (pa_cons (pe_glob (v := .ref (He.ga K "RULES")) (by rfl) T.g_RULES rfl) pa_nil))))) pa_nil)))))).pt (pss_one (ps_ret pe_bl)) pss_nil)
      (pss_one (ps_ret (pe_callB (id := "all") (cr_all rfl) (by rfl) T.n_all (by decide +kernel) (pa_cons (pe_lc (own := [("one", 2), ("other", 3)]) (g := gTup K 2 (gCons (gName 2) (gCons (gName 3) gNil))) rfl sc_p_are_rules.nd (RZ.pi_zipA (by rfl) T.n_zip (pa_cons (pv 0) (pa_cons (pe_slice (slT K) (pv 0) (po_some pe_int) po_none) pa_nil))) (blkOk_by (own := [("one", 2), ("other", 3)]) (N := ["thing", "rule", "one", "other"]) (sc := defScope s_p_are_rules) (by decide +kernel)) (fun _ _ _ _ _ => (pg_tup rfl (pgs_cons (pg_name (i := 2) sc_p_are_rules.nd rfl (Or.inl rfl)) (pgs_cons (pg_name (i := 3) sc_p_are_rules.nd rfl (Or.inl rfl)) pgs_nil)))) (fun _ _ _ _ _ => pts_nil) (fun _ _ _ _ _ => (pe_cmpR op_lt_str (pv 2) (pv 3) (nomark _)))) pa_nil))))), ?_⟩
    have h20 := ok.len
    refine ⟨_, rfl, _, _, _, _, _, rfl, .ty "tuple", .base (.tup ha), rfl, _, rfl, iteF ?_⟩
    refine ⟨_, rfl, a, rfl, ⟨_, SqT.of ha⟩, fun D hD => ?_⟩
    refine lc_it (walk_tup (xs := rs.map V.str)) (fun j H3 => H3 = upd H D (.lst ((List.replicate j true).map V.bl))) rfl ?_ ?_ ?_
    · rintro j _ _ rfl
      exact SqT.of ((same_new hD) _ _ ha)
    · rintro j x _ _ hj rfl ⟨rfl, ex⟩
      rw [List.getElem?_map] at ex
      cases eq : rs[j]? with
      | none => rw [eq] at ex; cases ex
      | some x0 =>
        rw [eq] at ex
        cases ex
        rw [List.length_map] at hj
        refine ⟨rfl, ?_⟩
        refine ⟨_, rfl, ?_⟩
        show spWord P w K [.str x0, .ref (He.ga K "RULES")] _ _ _
        exact word_p (rules_at T _) (ok.mem x0 (List.mem_of_getElem? eq)) ⟨_, upd_same, trues_len (by omega), trues_snoc j⟩
    · rintro _ rfl
      refine ⟨D, List.replicate (rs.map V.str).length true, rfl, SqL.of upd_same, _, rfl, ?_⟩
      rw [trues_all]
      refine iteF ?_
      have s1 := same_new (o := .lst ((List.replicate (rs.map V.str).length true).map V.bl)) hD
      refine ⟨_, rfl, _, rfl, _, rfl, ?_⟩
      dsimp only [tNoPart]
      have ec : cutV (rs.map V.str) (some 1) none = (rs.drop 1).map V.str := by
        unfold cutV
        rw [HT.sIx_none, show (some (1 : Int)) = some ((1 : Nat) : Int) from rfl, HT.sIx_nat]
        have := cut_list (rs.map V.str) 1 (rs.map V.str).length
        rw [Nat.min_self] at this
        rw [this, List.take_of_length_le (by simp), List.map_drop]
      refine slice_cut _ _ ((rs.drop 1).map V.str) (s1 _ _ ha) ec fun q2 H2 s2 hq2 => ?_
      have ha2 := s2 _ _ (s1 _ _ ha)
      refine ⟨a, q2, rs.map V.str, (rs.drop 1).map V.str, rfl, .inr ⟨SqT.of ha2, SqT.of hq2, fun D2 hD2 => ?_⟩⟩
      refine lc_it (walk_zipT (xs := rs.map V.str) (ys := (rs.drop 1).map V.str) (n := rs.length - 1) (by rw [List.length_map, List.length_map, List.length_drop]; omega)) (fun j H3 => Same H2 H3 ∧ H3 D2 = some (.lst ((List.replicate j true).map V.bl))) ⟨same_new hD2, upd_same⟩ ?_ ?_ ?_
      · rintro j H3 _ ⟨s3, _⟩
        exact ⟨SqT.of (s3 _ _ ha2), SqT.of (s3 _ _ hq2)⟩
      · rintro j v H3 _ hj ⟨s3, g3⟩ ⟨T1, x1, x2, rfl, hT, rfl, ex1, ex2⟩
        dsimp only at ex1 ex2
        rw [List.getElem?_map] at ex1 ex2
        obtain ⟨y1, e1, rfl⟩ := Option.map_eq_some_iff.mp ex1
        obtain ⟨y2, e2, rfl⟩ := Option.map_eq_some_iff.mp ex2
        rw [List.getElem?_drop, Nat.add_comm] at e2
        have hlt := asc_at ok.asc e1 e2
        have s4 := same_new (o := .tup [.str y1, .str y2]) hT
        refine ⟨T1, _, rfl, SqT.of upd_same, rfl, _, _, rfl, _, _, rfl, rfl, rfl, ?_⟩
        refine ⟨_, rfl, _, rfl, _, _, rfl, rfl, ?_⟩
        rw [decide_eq_true hlt]
        refine ⟨_, s4 _ _ g3, trues_len (by omega), ?_, ?_⟩
        · exact fun b o e => by
            have n2 : b ≠ D2 := fun z => by subst z; rw [hD2] at e; cases e
            rw [upd_ne n2]
            exact (s3.trans s4) _ _ e
        · rw [upd_same, List.replicate_succ', List.map_append]
          rfl
      · rintro H3 ⟨s3, g3⟩
        refine ⟨D2, List.replicate (rs.length - 1) true, rfl, SqL.of g3, ?_⟩
        rw [trues_all]
        exact fin H3 (s1.trans (s2.trans s3))
theorem rulesP_w {H : Hp} {a : Addr} {rs : List Str} {Q : VK} {E : XK} (ha : H a = some (.tup (rs.map V.str))) (ok : RulesOk rs) (fin : ∀ H', Same H H' → Q (.bl true) H') : spRulesP P w K [.ref a] H Q E := by
  unfold spRulesP
  exact ⟨a, rs, rfl, ha, ok, fin⟩
@[irreducible] def spIsPr (P : Program) (w : World) (K : PySem.W.Frag) : Sp := fun vs H Q _ => ∃ v pr, vs = [v] ∧ Im H (Pr.data pr) v ∧ PrOk pr ∧ ∀ H', Same H H' → Q (.bl true) H'
theorem sc_p_is_protocol : FnScope ["thing"] ["thing"] (defScope s_p_is_protocol) := ⟨rfl, rfl, rfl, by decide +kernel, rfl, by decide +kernel, by decide +kernel⟩
theorem ok_p_is_protocol (T : Tx w K mg) : FnI P w K mg base "is_protocol" (2 + 1) ["thing"] (spIsPr P w K) := by
  refine FnI.mk' T.f_p_is_protocol T.g_is_protocol sc_p_is_protocol (fun _ _ _ _ _ _ us hl => match us, hl with | [_], _ => rfl) (fun vs H Q E h => ?_) (fun cdv A outer s H vs Q E hr h => ?_)
  all_goals unfold spIsPr at h
  · obtain ⟨_, _, rfl, _⟩ := h
    rfl
  · obtain ⟨v, pr, rfl, hv, ok, fin⟩ := h
    have hu := hu_of hr
    refine ⟨_, (pss_cons (ps_if (pw_or (pt_not (pt_val (pe_callB (id := "isinstance") (isiK K) (by rfl) T.n_isinstance (by decide +kernel) (pa_cons (pv 0) (pa_cons (pe_bltn (v := .ty "tuple") (u := .type "tuple") (by rfl) T.n_tuple (by decide +kernel) rfl) pa_nil))))) (pw_or (pt_cmpR op_ne (pe_callB (id := "len") (lenK K) (by rfl) T.n_len (by decide +kernel) (pa_cons (pv 0) pa_nil)) pe_int (nomark _)) (pw_or1 (pt_not (pt_val (pe_callI (ok_p_are_numbers (P := P) T) hr (pa_cons (pe_ix (ixT K) (pv 0) pe_int (fun _ _ => rfl)) (pa_cons (pe_slice (slT K) (pv 0) (po_some pe_int) (po_some pe_int)) pa_nil)))))))).pt (pss_one (ps_ret pe_bl)) pss_nil)
      (pss_one (ps_ret (pe_and (pe_callI (ok_p_is_word (P := P) T) hr (pa_cons (pe_ix (ixT K) (pv 0) pe_int (fun _ _ => rfl)) (pa_cons (pe_glob (v := .ref (He.ga K "LOOKS")) (by rfl) T.g_LOOKS rfl) pa_nil))) (pe_one (pe_callI (ok_p_are_rules (P := P) T) hr (pa_cons (pe_ix (ixT K) (pv 0) pe_int (fun _ _ => rfl)) pa_nil))))))), ?_⟩
    obtain ⟨a, q, rfl, h1, h2⟩ := im_pr.mp hv
    have k1 := ok.h1
    have k2 := ok.h2
    refine ⟨_, rfl, _, _, _, _, _, rfl, .ty "tuple", .base (.tup h1), rfl, _, rfl, iteF ?_⟩
    refine ⟨_, rfl, a, _, rfl, .inr (SqT.of h1), rfl, _, rfl, iteF ?_⟩
    refine ⟨_, rfl, a, _, 0, _, rfl, rfl, SqT.of h1, rfl, _, rfl, _, rfl, _, rfl, ?_⟩
    refine slice_cut _ _ [nv pr.votes, nv pr.settlers, nv pr.seers] h1 rfl fun q2 H2 s2 hq2 => ?_
    show spNums P w K [nv pr.hands, .ref q2] H2 _ _
    unfold spNums
    refine ⟨pr.hands, q2, [pr.votes, pr.settlers, pr.seers], rfl, hq2, k1, by omega, ?_, by show 3 < 100; decide, fun H3 s3 => ⟨_, rfl, iteF ?_⟩⟩
    · intro x hx
      simp only [List.mem_cons, List.not_mem_nil, or_false] at hx
      rcases hx with rfl | rfl | rfl
      · exact ⟨ok.v1, ok.v2⟩
      · exact ⟨ok.s1, ok.s2⟩
      · exact ⟨ok.r1, ok.r2⟩
    have s23 := s2.trans s3
    have hl : pr.look ∈ looksL := by
      rcases ok.look with e | e | e | e <;> rw [e] <;> decide +kernel
    refine ⟨_, rfl, a, _, 4, _, rfl, rfl, SqT.of (s23 _ _ h1), rfl, ?_⟩
    show spWord P w K [.str pr.look, .ref (He.ga K "LOOKS")] H3 _ _
    refine word_p (looks_at T H3) hl ⟨_, rfl, iteT ?_⟩
    refine ⟨_, rfl, a, _, 5, _, rfl, rfl, SqT.of (s23 _ _ h1), rfl, ?_⟩
    show spRulesP P w K [.ref q] H3 _ _
    exact rulesP_w (s23 _ _ h2) ok.rules fun H4 s4 => fin H4 (s23.trans s4)
@[irreducible] def spChk (P : Program) (w : World) (K : PySem.W.Frag) : Sp := fun vs H Q _ => ∃ v pr, vs = [v] ∧ Im H (Pr.data pr) v ∧ PrOk pr ∧ ∀ H', Same H H' → Q .non H'
theorem sc_p_check_protocol : FnScope ["thing"] ["thing"] (defScope s_p_check_protocol) := ⟨rfl, rfl, rfl, by decide +kernel, rfl, by decide +kernel, by decide +kernel⟩
theorem ok_p_check_protocol (T : Tx w K mg) : FnI P w K mg base "check_protocol" (3 + 1) ["thing"] (spChk P w K) := by
  refine FnI.mk' T.f_p_check_protocol T.g_check_protocol sc_p_check_protocol (fun _ _ _ _ _ _ us hl => match us, hl with | [_], _ => rfl) (fun vs H Q E h => ?_) (fun cdv A outer s H vs Q E hr h => ?_)
  all_goals unfold spChk at h
  · obtain ⟨_, _, rfl, _⟩ := h
    rfl
  · obtain ⟨v, pr, rfl, hv, ok, fin⟩ := h
    have hu := hu_of hr
    refine ⟨_, (pss_one (ps_if (pt_not (pt_val (pe_callI (ok_p_is_protocol (P := P) T) hr (pa_cons (pv 0) pa_nil)))) (pss_one ps_never) pss_nil)), ?_⟩
    refine ⟨_, rfl, ?_⟩
    show spIsPr P w K [v] H _ _
    unfold spIsPr
    exact ⟨v, pr, rfl, hv, ok, fun H1 s1 => ⟨_, rfl, iteF (fin H1 s1)⟩⟩
end
end Sr

set_option Elab.async false
set_option linter.all false
set_option maxRecDepth 100000
set_option maxHeartbeats 4000000
namespace Sr
open PySem PySem.Spec PyProof.Rows L2
local macro_rules | `(tactic| walk_at "hp") => `(tactic| (unfold upd at *; grind))
section
variable {P : Program} {w : World} {base : Heap} {K : PySem.W.Frag} {mg : Str → Option Value}
/-- the world's object gets a field with a new object -/
def dN (c : Cell) : Cell → Prop := fun d => d = .w ∨ d = c
theorem fld_new {O : Own} {H : Hp} {x dx a : Addr} {fs : List (Str × V)} {c : Cell} {o : HO} (f : Str) (al : Al O H) (ox : O x = some .w) (hx : H x = some (.ins (CW K) dx fs)) (ha : H a = none) (no : NoTup o) (hc : c ≠ .w) :
    Stp (dN c) O H (updO O a c) (upd (upd H a o) x (.ins (CW K) dx (putF f (.ref a) fs))) ∧ (upd H a o) x = some (.ins (CW K) dx fs) ∧ (updO O a c) x = some .w ∧ (upd (upd H a o) x (.ins (CW K) dx (putF f (.ref a) fs))) a = some o := by
  have S1 : Stp (dN c) O H (updO O a c) (upd H a o) := Stp.own al ha (.inr rfl) no
  have ox1 := S1.mono _ _ ox
  have nxa : x ≠ a := ne_of_none hx ha
  exact ⟨S1.trans (Stp.put (D := dN c) S1.al ox1 (.inl rfl) noTup_ins), by rw [upd_ne nxa]; exact hx, ox1, by rw [upd_ne nxa.symm, upd_same]⟩
theorem dN_no {c d : Cell} (h1 : d ≠ .w) (h2 : d ≠ c) : ¬ dN c d := fun z => by rcases z with z | z <;> contradiction
/-- a new hand of the package -/
theorem hand_p {O : Own} {H : Hp} {R : VK} {E : XK} {x dx : Addr} (i : Nat) (al : Al O H) (hx : H x = none) (hdx : H dx = none) (ne : dx ≠ x) (fin : ∀ O' H', HandAt (.prog P w K) H' O' i x Hd.new → Stp (dH i) O H O' H' → R .non H') :
    spInit P w K [.ref x] (upd (upd H dx (.own x)) x (.ins (CH K) dx [])) R E := by
  unfold spInit
  have S0 : Stp (dH i) O H O (upd H dx (.own x)) := Stp.new al hdx
  have hx1 : (upd H dx (.own x)) x = none := by rw [upd_ne ne.symm]; exact hx
  have S1 := S0.trans (Stp.own (D := dH i) (c := .hand i) (o := .ins (CH K) dx []) S0.al hx1 rfl noTup_ins)
  refine ⟨x, dx, rfl, upd_same, fun l g k y H1 hl hg hk hy nd h1 h2 h3 h4 h5 keep => ?_⟩
  simp only [List.nodup_cons, List.mem_cons, List.not_mem_nil, or_false, not_or, not_false_eq_true, List.nodup_nil, and_true] at nd
  obtain ⟨⟨nlg, nlk, nly⟩, ⟨ngk, ngy⟩, nky⟩ := nd
  have s := stp3 (i := i) S1.al updO_same hg hk hy ngk ngy nky h1 noTup_ins h3 h4 h5 keep
  refine fin _ H1 ⟨⟨l, g, k, y, []⟩, ?_⟩ (S1.trans s)
  exact {
    ob := ⟨dx, h1⟩
    op := s.mono _ _ updO_same
    log := im_logr.mpr ⟨[], h2, ImAll.nil'⟩
    got := h3
    og := by rw [updO_ne ngy, updO_ne ngk, updO_same]
    kn := h4
    ok := by rw [updO_ne nky, updO_same]
    ws := rfl
    wi := h5
    ow := updO_same
    sn := fun x hx => nomatch hx }
@[irreducible] def spInitW (P : Program) (w : World) (K : PySem.W.Frag) : Sp := fun vs H Q _ => ∃ O pr v x dx, vs = [.ref x, v] ∧ Im H (Pr.data pr) v ∧ Al O H ∧ O x = some .w ∧ H x = some (.ins (CW K) dx []) ∧ pr.hands < 100 ∧
  ∀ L O' H', WL.w L = x → WorldIn (.prog P w K) H' O' L (Wd.new pr) [] → Stp dA O H O' H' → Q .non H'
theorem sc_w_init : FnScope ["self", "protocol", "number"] ["self", "protocol"] (defScope s_w_init) := ⟨rfl, rfl, rfl, by decide +kernel, rfl, by decide +kernel, by decide +kernel⟩
theorem ok_w_init (T : Tx w K mg) : MkI P w K mg base "World" (He.ga K "World") (4 + 1) ["self", "protocol"] (spInitW P w K) := by
  refine MkI.mk' T.f_w_init T.g_World T.mk_World sc_w_init (fun _ _ _ _ _ _ us hl => match us, hl with | [_, _], _ => rfl) (fun vs H Q E h => ?_) (fun cdv A outer s H vs Q E hr h => ?_)
  all_goals unfold spInitW at h
  · obtain ⟨_, _, _, _, _, rfl, _⟩ := h
    rfl
  · obtain ⟨O, pr, v, x, dx, rfl, hv, al, ox, hx, hb, fin⟩ := h
    have hu := hu_of hr
    refine ⟨_, (pss_cons (ps_fld (pv 0) (pv 1) rfl)
      (pss_cons (ps_fld (pv 0) (pe_lc (own := [("number", 2)]) (g := gName 2) rfl sc_w_init.nd (pi_range1 (by rfl) T.n_range (pa_cons (pe_ix (ixT K) (pv 1) pe_int (fun _ _ => rfl)) pa_nil)) (blkOk_by (own := [("number", 2)]) (N := ["self", "protocol", "number"]) (sc := defScope s_w_init) (by decide +kernel)) (fun _ _ _ _ _ => (pg_name (i := 2) sc_w_init.nd rfl (Or.inl rfl))) (fun _ _ _ _ _ => pts_nil) (fun _ _ _ _ _ => (pe_makeI0 (ok_h_init (P := P) T) hr))) rfl)
      (pss_cons (ps_fld (pv 0) (pe_lst pa_nil) rfl)
      (pss_cons (ps_fld (pv 0) pe_dnewN rfl)
      (pss_cons (ps_fld (pv 0) (pe_lst pa_nil) rfl)
      (pss_cons (ps_fld (pv 0) (pe_lst pa_nil) rfl)
      (pss_cons (ps_fld (pv 0) (pe_lst pa_nil) rfl)
      (pss_cons (ps_fld (pv 0) (pe_lst pa_nil) rfl)
      (pss_cons (ps_fld (pv 0) (pe_lst pa_nil) rfl)
      (pss_one (ps_fld (pv 0) (pe_lst pa_nil) rfl))))))))))), ?_⟩
    obtain ⟨pa, pq, rfl, h1, h2⟩ := im_pr.mp hv
    refine ⟨_, rfl, _, rfl, x, _, _, _, rfl, hx, T.cl_World, T.no_World_protocol, by show 0 < 1000; decide, ?_⟩
    have S1 : Stp dA O H O (upd H x (.ins (CW K) dx (putF "protocol" (.ref pa) []))) := Stp.put al ox (by intro z; cases z) noTup_ins
    have kx1 : (upd H x (.ins (CW K) dx (putF "protocol" (.ref pa) []))) x = some (.ins (CW K) dx (putF "protocol" (.ref pa) [])) := upd_same
    have h1' := S1.tk al _ _ h1
    refine ⟨_, rfl, pa, _, 0, _, rfl, rfl, SqT.of h1', rfl, _, rfl, by omega, (by omega), fun D hD => ?_⟩
    have T2 : Stp dA O _ (updO O D .hs) (upd (upd H x (.ins (CW K) dx (putF "protocol" (.ref pa) []))) D (.lst [])) := .own S1.al hD (by intro z; cases z) noTup_lst
    have ox2 := T2.mono _ _ ox
    have nxD : x ≠ D := ne_of_none kx1 hD
    have en : ((pr.hands : Int)).toNat = pr.hands := Int.toNat_natCast _
    rw [en]
    refine lc_it (walk_range (lo := 0) (n := pr.hands)) (fun j H2 => ∃ O2 ps, Hk (.prog P w K) (updO O D .hs) (upd (upd H x (.ins (CW K) dx (putF "protocol" (.ref pa) []))) D (.lst [])) D j O2 H2 ps ∧ H2 x = some (.ins (CW K) dx (putF "protocol" (.ref pa) []))) ?_ ?_ ?_ ?_
    · refine ⟨_, [], ⟨upd_same, rfl, (fun i q hi => nomatch hi), Stp.refl T2.al, updO_same⟩, ?_⟩
      rw [upd_ne nxD]
      exact kx1
    · exact fun _ _ _ _ => trivial
    · rintro j y H2 _ hj ⟨O2, ps, k, kp⟩ ⟨rfl, rfl⟩
      refine ⟨rfl, fun q dx0 z1 z2 z3 => hand_p j k.st.al z1 z2 z3 fun O3 H3 hq S3 => ⟨rfl, ?_⟩⟩
      obtain ⟨g1, g2⟩ := k.snoc S3 hq
      have op2 : O2 x = some .w := k.st.mono _ _ ox2
      refine ⟨_, g1, ?_, O3, ps ++ [q], g2, ?_⟩
      · rw [List.length_map, k.len]
        have : (100 : Nat) < sizeLine := by decide
        omega
      · rw [upd_ne (own_ne (S3.mono _ _ op2) (S3.mono _ _ k.od) (by intro z; cases z))]
        exact (S3.only _ _ op2 fun z => nomatch z).trans kp
    intro H2 ⟨O2, ps, k, kp⟩
    have op2 : O2 x = some .w := k.st.mono _ _ ox2
    have S0 := (S1.trans T2).trans k.st
    refine ⟨_, rfl, x, _, _, _, rfl, kp, T.cl_World, T.no_World_hands, by show 1 < 1000; decide, ?_⟩
    have T0 : Stp (dN .w) O2 H2 O2 (upd H2 x (.ins (CW K) dx (putF "hands" (.ref D) (putF "protocol" (.ref pa) [])))) := Stp.put k.st.al op2 (.inl rfl) noTup_ins
    have hD0 := (T0.only _ _ k.od (dN_no (by intro z; cases z) (by intro z; cases z))).trans k.lst
    have x0 : (upd H2 x (.ins (CW K) dx (putF "hands" (.ref D) (putF "protocol" (.ref pa) [])))) x = some (.ins (CW K) dx (putF "hands" (.ref D) (putF "protocol" (.ref pa) []))) := upd_same
    have ox0 := op2
    have oD0 := k.od
    have U0 := T0.wide (D' := dA) (by rintro c (rfl | rfl) z <;> cases z)
    have V0 := T0.wide (D' := dW) (by rintro c (rfl | rfl) <;> exact ⟨rfl, by intro z; cases z⟩)
    generalize upd H2 x (.ins (CW K) dx (putF "hands" (.ref D) (putF "protocol" (.ref pa) []))) = G0 at *
    refine ⟨Nat.zero_le _, fun a1 n1 => ?_⟩
    obtain ⟨T3, xa1, ox1, ha1⟩ := fld_new (K := K) (o := .lst []) (c := .lts) "bag" V0.al ox0 x0 n1 noTup_lst (by intro z; cases z)
    refine ⟨_, rfl, x, _, _, _, rfl, xa1, T.cl_World, T.no_World_bag, by show 2 < 1000; decide, ?_⟩
    have x1 : (upd (upd G0 a1 (.lst [])) x (.ins (CW K) dx (putF "bag" (.ref a1) (putF "hands" (.ref D) (putF "protocol" (.ref pa) []))))) x = some (.ins (CW K) dx (putF "bag" (.ref a1) (putF "hands" (.ref D) (putF "protocol" (.ref pa) [])))) := upd_same
    have oa1 := updO_same (O := O2) (a := a1) (c := .lts)
    have hD1 := (T3.only _ _ oD0 (dN_no (by intro z; cases z) (by intro z; cases z))).trans hD0
    have oD1 := T3.mono _ _ oD0
    have U1 := U0.trans (T3.wide (D' := dA) (by rintro c (rfl | rfl) z <;> cases z))
    have V1 := V0.trans (T3.wide (D' := dW) (by rintro c (rfl | rfl) <;> exact ⟨rfl, by intro z; cases z⟩))
    generalize upd (upd G0 a1 (.lst [])) x (.ins (CW K) dx (putF "bag" (.ref a1) (putF "hands" (.ref D) (putF "protocol" (.ref pa) [])))) = G1 at *
    generalize updO O2 a1 .lts = N1 at *
    intro a7 n7
    obtain ⟨T4, xa2, ox2, ha7⟩ := fld_new (K := K) (o := NestO P w a7 []) (c := .run) "numbers" V1.al ox1 x1 n7 noTup_nest (by intro z; cases z)
    refine ⟨_, rfl, x, _, _, _, rfl, xa2, T.cl_World, T.no_World_numbers, by show 3 < 1000; decide, ?_⟩
    have x2 : (upd (upd G1 a7 (NestO P w a7 [])) x (.ins (CW K) dx (putF "numbers" (.ref a7) (putF "bag" (.ref a1) (putF "hands" (.ref D) (putF "protocol" (.ref pa) [])))))) x = some (.ins (CW K) dx (putF "numbers" (.ref a7) (putF "bag" (.ref a1) (putF "hands" (.ref D) (putF "protocol" (.ref pa) []))))) := upd_same
    have oa7 := updO_same (O := N1) (a := a7) (c := .run)
    have hD2 := (T4.only _ _ oD1 (dN_no (by intro z; cases z) (by intro z; cases z))).trans hD1
    have oD2 := T4.mono _ _ oD1
    have ha1 := (T4.only _ _ oa1 (dN_no (by intro z; cases z) (by intro z; cases z))).trans ha1
    have oa1 := T4.mono _ _ oa1
    have U2 := U1.trans (T4.wide (D' := dA) (by rintro c (rfl | rfl) z <;> cases z))
    have V2 := V1.trans (T4.wide (D' := dW) (by rintro c (rfl | rfl) <;> exact ⟨rfl, by intro z; cases z⟩))
    generalize updO N1 a7 .run = N2 at *
    refine ⟨Nat.zero_le _, fun a2 n3 => ?_⟩
    obtain ⟨T5, xa3, ox3, ha2⟩ := fld_new (K := K) (o := .lst []) (c := .leads) "leads" V2.al ox2 x2 n3 noTup_lst (by intro z; cases z)
    refine ⟨_, rfl, x, _, _, _, rfl, xa3, T.cl_World, T.no_World_leads, by show 4 < 1000; decide, ?_⟩
    have x3 : (upd (upd (upd (upd G1 a7 (NestO P w a7 [])) x (.ins (CW K) dx (putF "numbers" (.ref a7) (putF "bag" (.ref a1) (putF "hands" (.ref D) (putF "protocol" (.ref pa) [])))))) a2 (.lst [])) x (.ins (CW K) dx (putF "leads" (.ref a2) (putF "numbers" (.ref a7) (putF "bag" (.ref a1) (putF "hands" (.ref D) (putF "protocol" (.ref pa) []))))))) x = some (.ins (CW K) dx (putF "leads" (.ref a2) (putF "numbers" (.ref a7) (putF "bag" (.ref a1) (putF "hands" (.ref D) (putF "protocol" (.ref pa) [])))))) := upd_same
    have oa2 := updO_same (O := N2) (a := a2) (c := .leads)
    have hD3 := (T5.only _ _ oD2 (dN_no (by intro z; cases z) (by intro z; cases z))).trans hD2
    have oD3 := T5.mono _ _ oD2
    have ha1 := (T5.only _ _ oa1 (dN_no (by intro z; cases z) (by intro z; cases z))).trans ha1
    have oa1 := T5.mono _ _ oa1
    have ha7 := (T5.only _ _ oa7 (dN_no (by intro z; cases z) (by intro z; cases z))).trans ha7
    have oa7 := T5.mono _ _ oa7
    have U3 := U2.trans (T5.wide (D' := dA) (by rintro c (rfl | rfl) z <;> cases z))
    have V3 := V2.trans (T5.wide (D' := dW) (by rintro c (rfl | rfl) <;> exact ⟨rfl, by intro z; cases z⟩))
    generalize updO N2 a2 .leads = N3 at *
    refine ⟨Nat.zero_le _, fun a3 n4 => ?_⟩
    obtain ⟨T6, xa4, ox4, ha3⟩ := fld_new (K := K) (o := .lst []) (c := .settles) "settles" V3.al ox3 x3 n4 noTup_lst (by intro z; cases z)
    refine ⟨_, rfl, x, _, _, _, rfl, xa4, T.cl_World, T.no_World_settles, by show 5 < 1000; decide, ?_⟩
    have x4 : (upd (upd (upd (upd (upd (upd G1 a7 (NestO P w a7 [])) x (.ins (CW K) dx (putF "numbers" (.ref a7) (putF "bag" (.ref a1) (putF "hands" (.ref D) (putF "protocol" (.ref pa) [])))))) a2 (.lst [])) x (.ins (CW K) dx (putF "leads" (.ref a2) (putF "numbers" (.ref a7) (putF "bag" (.ref a1) (putF "hands" (.ref D) (putF "protocol" (.ref pa) []))))))) a3 (.lst [])) x (.ins (CW K) dx (putF "settles" (.ref a3) (putF "leads" (.ref a2) (putF "numbers" (.ref a7) (putF "bag" (.ref a1) (putF "hands" (.ref D) (putF "protocol" (.ref pa) [])))))))) x = some (.ins (CW K) dx (putF "settles" (.ref a3) (putF "leads" (.ref a2) (putF "numbers" (.ref a7) (putF "bag" (.ref a1) (putF "hands" (.ref D) (putF "protocol" (.ref pa) []))))))) := upd_same
    have oa3 := updO_same (O := N3) (a := a3) (c := .settles)
    have hD4 := (T6.only _ _ oD3 (dN_no (by intro z; cases z) (by intro z; cases z))).trans hD3
    have oD4 := T6.mono _ _ oD3
    have ha1 := (T6.only _ _ oa1 (dN_no (by intro z; cases z) (by intro z; cases z))).trans ha1
    have oa1 := T6.mono _ _ oa1
    have ha7 := (T6.only _ _ oa7 (dN_no (by intro z; cases z) (by intro z; cases z))).trans ha7
    have oa7 := T6.mono _ _ oa7
    have ha2 := (T6.only _ _ oa2 (dN_no (by intro z; cases z) (by intro z; cases z))).trans ha2
    have oa2 := T6.mono _ _ oa2
    have U4 := U3.trans (T6.wide (D' := dA) (by rintro c (rfl | rfl) z <;> cases z))
    have V4 := V3.trans (T6.wide (D' := dW) (by rintro c (rfl | rfl) <;> exact ⟨rfl, by intro z; cases z⟩))
    generalize updO N3 a3 .settles = N4 at *
    refine ⟨Nat.zero_le _, fun a4 n5 => ?_⟩
    obtain ⟨T7, xa5, ox5, ha4⟩ := fld_new (K := K) (o := .lst []) (c := .answers) "answers" V4.al ox4 x4 n5 noTup_lst (by intro z; cases z)
    refine ⟨_, rfl, x, _, _, _, rfl, xa5, T.cl_World, T.no_World_answers, by show 6 < 1000; decide, ?_⟩
    have x5 : (upd (upd (upd (upd (upd (upd (upd (upd G1 a7 (NestO P w a7 [])) x (.ins (CW K) dx (putF "numbers" (.ref a7) (putF "bag" (.ref a1) (putF "hands" (.ref D) (putF "protocol" (.ref pa) [])))))) a2 (.lst [])) x (.ins (CW K) dx (putF "leads" (.ref a2) (putF "numbers" (.ref a7) (putF "bag" (.ref a1) (putF "hands" (.ref D) (putF "protocol" (.ref pa) []))))))) a3 (.lst [])) x (.ins (CW K) dx (putF "settles" (.ref a3) (putF "leads" (.ref a2) (putF "numbers" (.ref a7) (putF "bag" (.ref a1) (putF "hands" (.ref D) (putF "protocol" (.ref pa) [])))))))) a4 (.lst [])) x (.ins (CW K) dx (putF "answers" (.ref a4) (putF "settles" (.ref a3) (putF "leads" (.ref a2) (putF "numbers" (.ref a7) (putF "bag" (.ref a1) (putF "hands" (.ref D) (putF "protocol" (.ref pa) []))))))))) x = some (.ins (CW K) dx (putF "answers" (.ref a4) (putF "settles" (.ref a3) (putF "leads" (.ref a2) (putF "numbers" (.ref a7) (putF "bag" (.ref a1) (putF "hands" (.ref D) (putF "protocol" (.ref pa) [])))))))) := upd_same
    have oa4 := updO_same (O := N4) (a := a4) (c := .answers)
    have hD5 := (T7.only _ _ oD4 (dN_no (by intro z; cases z) (by intro z; cases z))).trans hD4
    have oD5 := T7.mono _ _ oD4
    have ha1 := (T7.only _ _ oa1 (dN_no (by intro z; cases z) (by intro z; cases z))).trans ha1
    have oa1 := T7.mono _ _ oa1
    have ha7 := (T7.only _ _ oa7 (dN_no (by intro z; cases z) (by intro z; cases z))).trans ha7
    have oa7 := T7.mono _ _ oa7
    have ha2 := (T7.only _ _ oa2 (dN_no (by intro z; cases z) (by intro z; cases z))).trans ha2
    have oa2 := T7.mono _ _ oa2
    have ha3 := (T7.only _ _ oa3 (dN_no (by intro z; cases z) (by intro z; cases z))).trans ha3
    have oa3 := T7.mono _ _ oa3
    have U5 := U4.trans (T7.wide (D' := dA) (by rintro c (rfl | rfl) z <;> cases z))
    have V5 := V4.trans (T7.wide (D' := dW) (by rintro c (rfl | rfl) <;> exact ⟨rfl, by intro z; cases z⟩))
    generalize updO N4 a4 .answers = N5 at *
    refine ⟨Nat.zero_le _, fun a6 n6 => ?_⟩
    obtain ⟨T8, xa6, ox6, ha6⟩ := fld_new (K := K) (o := .lst []) (c := .asked) "asked" V5.al ox5 x5 n6 noTup_lst (by intro z; cases z)
    refine ⟨_, rfl, x, _, _, _, rfl, xa6, T.cl_World, T.no_World_asked, by show 7 < 1000; decide, ?_⟩
    have x6 : (upd (upd (upd (upd (upd (upd (upd (upd (upd (upd G1 a7 (NestO P w a7 [])) x (.ins (CW K) dx (putF "numbers" (.ref a7) (putF "bag" (.ref a1) (putF "hands" (.ref D) (putF "protocol" (.ref pa) [])))))) a2 (.lst [])) x (.ins (CW K) dx (putF "leads" (.ref a2) (putF "numbers" (.ref a7) (putF "bag" (.ref a1) (putF "hands" (.ref D) (putF "protocol" (.ref pa) []))))))) a3 (.lst [])) x (.ins (CW K) dx (putF "settles" (.ref a3) (putF "leads" (.ref a2) (putF "numbers" (.ref a7) (putF "bag" (.ref a1) (putF "hands" (.ref D) (putF "protocol" (.ref pa) [])))))))) a4 (.lst [])) x (.ins (CW K) dx (putF "answers" (.ref a4) (putF "settles" (.ref a3) (putF "leads" (.ref a2) (putF "numbers" (.ref a7) (putF "bag" (.ref a1) (putF "hands" (.ref D) (putF "protocol" (.ref pa) []))))))))) a6 (.lst [])) x (.ins (CW K) dx (putF "asked" (.ref a6) (putF "answers" (.ref a4) (putF "settles" (.ref a3) (putF "leads" (.ref a2) (putF "numbers" (.ref a7) (putF "bag" (.ref a1) (putF "hands" (.ref D) (putF "protocol" (.ref pa) [])))))))))) x = some (.ins (CW K) dx (putF "asked" (.ref a6) (putF "answers" (.ref a4) (putF "settles" (.ref a3) (putF "leads" (.ref a2) (putF "numbers" (.ref a7) (putF "bag" (.ref a1) (putF "hands" (.ref D) (putF "protocol" (.ref pa) []))))))))) := upd_same
    have oa6 := updO_same (O := N5) (a := a6) (c := .asked)
    have hD6 := (T8.only _ _ oD5 (dN_no (by intro z; cases z) (by intro z; cases z))).trans hD5
    have oD6 := T8.mono _ _ oD5
    have ha1 := (T8.only _ _ oa1 (dN_no (by intro z; cases z) (by intro z; cases z))).trans ha1
    have oa1 := T8.mono _ _ oa1
    have ha7 := (T8.only _ _ oa7 (dN_no (by intro z; cases z) (by intro z; cases z))).trans ha7
    have oa7 := T8.mono _ _ oa7
    have ha2 := (T8.only _ _ oa2 (dN_no (by intro z; cases z) (by intro z; cases z))).trans ha2
    have oa2 := T8.mono _ _ oa2
    have ha3 := (T8.only _ _ oa3 (dN_no (by intro z; cases z) (by intro z; cases z))).trans ha3
    have oa3 := T8.mono _ _ oa3
    have ha4 := (T8.only _ _ oa4 (dN_no (by intro z; cases z) (by intro z; cases z))).trans ha4
    have oa4 := T8.mono _ _ oa4
    have U6 := U5.trans (T8.wide (D' := dA) (by rintro c (rfl | rfl) z <;> cases z))
    have V6 := V5.trans (T8.wide (D' := dW) (by rintro c (rfl | rfl) <;> exact ⟨rfl, by intro z; cases z⟩))
    generalize updO N5 a6 .asked = N6 at *
    refine ⟨Nat.zero_le _, fun a5 n7 => ?_⟩
    obtain ⟨T9, xa7, ox7, ha5⟩ := fld_new (K := K) (o := .lst []) (c := .acts) "acts" V6.al ox6 x6 n7 noTup_lst (by intro z; cases z)
    refine ⟨_, rfl, x, _, _, _, rfl, xa7, T.cl_World, T.no_World_acts, by show 8 < 1000; decide, ?_⟩
    have x7 : (upd (upd (upd (upd (upd (upd (upd (upd (upd (upd (upd (upd G1 a7 (NestO P w a7 [])) x (.ins (CW K) dx (putF "numbers" (.ref a7) (putF "bag" (.ref a1) (putF "hands" (.ref D) (putF "protocol" (.ref pa) [])))))) a2 (.lst [])) x (.ins (CW K) dx (putF "leads" (.ref a2) (putF "numbers" (.ref a7) (putF "bag" (.ref a1) (putF "hands" (.ref D) (putF "protocol" (.ref pa) []))))))) a3 (.lst [])) x (.ins (CW K) dx (putF "settles" (.ref a3) (putF "leads" (.ref a2) (putF "numbers" (.ref a7) (putF "bag" (.ref a1) (putF "hands" (.ref D) (putF "protocol" (.ref pa) [])))))))) a4 (.lst [])) x (.ins (CW K) dx (putF "answers" (.ref a4) (putF "settles" (.ref a3) (putF "leads" (.ref a2) (putF "numbers" (.ref a7) (putF "bag" (.ref a1) (putF "hands" (.ref D) (putF "protocol" (.ref pa) []))))))))) a6 (.lst [])) x (.ins (CW K) dx (putF "asked" (.ref a6) (putF "answers" (.ref a4) (putF "settles" (.ref a3) (putF "leads" (.ref a2) (putF "numbers" (.ref a7) (putF "bag" (.ref a1) (putF "hands" (.ref D) (putF "protocol" (.ref pa) [])))))))))) a5 (.lst [])) x (.ins (CW K) dx (putF "acts" (.ref a5) (putF "asked" (.ref a6) (putF "answers" (.ref a4) (putF "settles" (.ref a3) (putF "leads" (.ref a2) (putF "numbers" (.ref a7) (putF "bag" (.ref a1) (putF "hands" (.ref D) (putF "protocol" (.ref pa) []))))))))))) x = some (.ins (CW K) dx (putF "acts" (.ref a5) (putF "asked" (.ref a6) (putF "answers" (.ref a4) (putF "settles" (.ref a3) (putF "leads" (.ref a2) (putF "numbers" (.ref a7) (putF "bag" (.ref a1) (putF "hands" (.ref D) (putF "protocol" (.ref pa) [])))))))))) := upd_same
    have oa5 := updO_same (O := N6) (a := a5) (c := .acts)
    have hD7 := (T9.only _ _ oD6 (dN_no (by intro z; cases z) (by intro z; cases z))).trans hD6
    have oD7 := T9.mono _ _ oD6
    have ha1 := (T9.only _ _ oa1 (dN_no (by intro z; cases z) (by intro z; cases z))).trans ha1
    have oa1 := T9.mono _ _ oa1
    have ha7 := (T9.only _ _ oa7 (dN_no (by intro z; cases z) (by intro z; cases z))).trans ha7
    have oa7 := T9.mono _ _ oa7
    have ha2 := (T9.only _ _ oa2 (dN_no (by intro z; cases z) (by intro z; cases z))).trans ha2
    have oa2 := T9.mono _ _ oa2
    have ha3 := (T9.only _ _ oa3 (dN_no (by intro z; cases z) (by intro z; cases z))).trans ha3
    have oa3 := T9.mono _ _ oa3
    have ha4 := (T9.only _ _ oa4 (dN_no (by intro z; cases z) (by intro z; cases z))).trans ha4
    have oa4 := T9.mono _ _ oa4
    have ha6 := (T9.only _ _ oa6 (dN_no (by intro z; cases z) (by intro z; cases z))).trans ha6
    have oa6 := T9.mono _ _ oa6
    have U7 := U6.trans (T9.wide (D' := dA) (by rintro c (rfl | rfl) z <;> cases z))
    have V7 := V6.trans (T9.wide (D' := dW) (by rintro c (rfl | rfl) <;> exact ⟨rfl, by intro z; cases z⟩))
    generalize updO N6 a5 .acts = N7 at *
    refine ⟨Nat.zero_le _, fun aq n8 => ?_⟩
    obtain ⟨T10, xa8, ox8, haq⟩ := fld_new (K := K) (o := .lst []) (c := .posted) "posted" V7.al ox7 x7 n8 noTup_lst (by intro z; cases z)
    refine ⟨_, rfl, x, _, _, _, rfl, xa8, T.cl_World, T.no_World_posted, by show 9 < 1000; decide, ?_⟩
    have x8 : (upd (upd (upd (upd (upd (upd (upd (upd (upd (upd (upd (upd (upd (upd G1 a7 (NestO P w a7 [])) x (.ins (CW K) dx (putF "numbers" (.ref a7) (putF "bag" (.ref a1) (putF "hands" (.ref D) (putF "protocol" (.ref pa) [])))))) a2 (.lst [])) x (.ins (CW K) dx (putF "leads" (.ref a2) (putF "numbers" (.ref a7) (putF "bag" (.ref a1) (putF "hands" (.ref D) (putF "protocol" (.ref pa) []))))))) a3 (.lst [])) x (.ins (CW K) dx (putF "settles" (.ref a3) (putF "leads" (.ref a2) (putF "numbers" (.ref a7) (putF "bag" (.ref a1) (putF "hands" (.ref D) (putF "protocol" (.ref pa) [])))))))) a4 (.lst [])) x (.ins (CW K) dx (putF "answers" (.ref a4) (putF "settles" (.ref a3) (putF "leads" (.ref a2) (putF "numbers" (.ref a7) (putF "bag" (.ref a1) (putF "hands" (.ref D) (putF "protocol" (.ref pa) []))))))))) a6 (.lst [])) x (.ins (CW K) dx (putF "asked" (.ref a6) (putF "answers" (.ref a4) (putF "settles" (.ref a3) (putF "leads" (.ref a2) (putF "numbers" (.ref a7) (putF "bag" (.ref a1) (putF "hands" (.ref D) (putF "protocol" (.ref pa) [])))))))))) a5 (.lst [])) x (.ins (CW K) dx (putF "acts" (.ref a5) (putF "asked" (.ref a6) (putF "answers" (.ref a4) (putF "settles" (.ref a3) (putF "leads" (.ref a2) (putF "numbers" (.ref a7) (putF "bag" (.ref a1) (putF "hands" (.ref D) (putF "protocol" (.ref pa) []))))))))))) aq (.lst [])) x (.ins (CW K) dx (putF "posted" (.ref aq) (putF "acts" (.ref a5) (putF "asked" (.ref a6) (putF "answers" (.ref a4) (putF "settles" (.ref a3) (putF "leads" (.ref a2) (putF "numbers" (.ref a7) (putF "bag" (.ref a1) (putF "hands" (.ref D) (putF "protocol" (.ref pa) [])))))))))))) x = some (.ins (CW K) dx (putF "posted" (.ref aq) (putF "acts" (.ref a5) (putF "asked" (.ref a6) (putF "answers" (.ref a4) (putF "settles" (.ref a3) (putF "leads" (.ref a2) (putF "numbers" (.ref a7) (putF "bag" (.ref a1) (putF "hands" (.ref D) (putF "protocol" (.ref pa) []))))))))))) := upd_same
    have oaq := updO_same (O := N7) (a := aq) (c := .posted)
    have hD8 := (T10.only _ _ oD7 (dN_no (by intro z; cases z) (by intro z; cases z))).trans hD7
    have oD8 := T10.mono _ _ oD7
    have ha1 := (T10.only _ _ oa1 (dN_no (by intro z; cases z) (by intro z; cases z))).trans ha1
    have oa1 := T10.mono _ _ oa1
    have ha7 := (T10.only _ _ oa7 (dN_no (by intro z; cases z) (by intro z; cases z))).trans ha7
    have oa7 := T10.mono _ _ oa7
    have ha2 := (T10.only _ _ oa2 (dN_no (by intro z; cases z) (by intro z; cases z))).trans ha2
    have oa2 := T10.mono _ _ oa2
    have ha3 := (T10.only _ _ oa3 (dN_no (by intro z; cases z) (by intro z; cases z))).trans ha3
    have oa3 := T10.mono _ _ oa3
    have ha4 := (T10.only _ _ oa4 (dN_no (by intro z; cases z) (by intro z; cases z))).trans ha4
    have oa4 := T10.mono _ _ oa4
    have ha6 := (T10.only _ _ oa6 (dN_no (by intro z; cases z) (by intro z; cases z))).trans ha6
    have oa6 := T10.mono _ _ oa6
    have ha5 := (T10.only _ _ oa5 (dN_no (by intro z; cases z) (by intro z; cases z))).trans ha5
    have oa5 := T10.mono _ _ oa5
    have U8 := U7.trans (T10.wide (D' := dA) (by rintro c (rfl | rfl) z <;> cases z))
    have V8 := V7.trans (T10.wide (D' := dW) (by rintro c (rfl | rfl) <;> exact ⟨rfl, by intro z; cases z⟩))
    generalize updO N7 aq .posted = N8 at *
    let L : WL := ⟨x, D, a1, a2, a3, a4, a5, a6, a7, ps, .ref pa⟩
    refine fin L N8 (upd (upd (upd (upd (upd (upd (upd (upd (upd (upd (upd (upd (upd (upd G1 a7 (NestO P w a7 [])) x (.ins (CW K) dx (putF "numbers" (.ref a7) (putF "bag" (.ref a1) (putF "hands" (.ref D) (putF "protocol" (.ref pa) [])))))) a2 (.lst [])) x (.ins (CW K) dx (putF "leads" (.ref a2) (putF "numbers" (.ref a7) (putF "bag" (.ref a1) (putF "hands" (.ref D) (putF "protocol" (.ref pa) []))))))) a3 (.lst [])) x (.ins (CW K) dx (putF "settles" (.ref a3) (putF "leads" (.ref a2) (putF "numbers" (.ref a7) (putF "bag" (.ref a1) (putF "hands" (.ref D) (putF "protocol" (.ref pa) [])))))))) a4 (.lst [])) x (.ins (CW K) dx (putF "answers" (.ref a4) (putF "settles" (.ref a3) (putF "leads" (.ref a2) (putF "numbers" (.ref a7) (putF "bag" (.ref a1) (putF "hands" (.ref D) (putF "protocol" (.ref pa) []))))))))) a6 (.lst [])) x (.ins (CW K) dx (putF "asked" (.ref a6) (putF "answers" (.ref a4) (putF "settles" (.ref a3) (putF "leads" (.ref a2) (putF "numbers" (.ref a7) (putF "bag" (.ref a1) (putF "hands" (.ref D) (putF "protocol" (.ref pa) [])))))))))) a5 (.lst [])) x (.ins (CW K) dx (putF "acts" (.ref a5) (putF "asked" (.ref a6) (putF "answers" (.ref a4) (putF "settles" (.ref a3) (putF "leads" (.ref a2) (putF "numbers" (.ref a7) (putF "bag" (.ref a1) (putF "hands" (.ref D) (putF "protocol" (.ref pa) []))))))))))) aq (.lst [])) x (.ins (CW K) dx (putF "posted" (.ref aq) (putF "acts" (.ref a5) (putF "asked" (.ref a6) (putF "answers" (.ref a4) (putF "settles" (.ref a3) (putF "leads" (.ref a2) (putF "numbers" (.ref a7) (putF "bag" (.ref a1) (putF "hands" (.ref D) (putF "protocol" (.ref pa) [])))))))))))) rfl ?_ (S0.trans U8)
    exact {
      al := U8.al
      ob := ⟨dx, aq, [], x8, haq, rfl, oaq⟩
      ow := ox8
      pr := Im.keep (((S1.trans T2).tk al).trans ((k.st.tk T2.al).trans (U8.tk k.st.al))) _ _ hv
      hs := hD8
      ohs := oD8
      lts := ⟨[], ha1, ImAll.nil', ha7⟩
      olts := oa1
      leads := ⟨[], ha2, ImAll.nil'⟩
      oleads := oa2
      settles := ⟨[], ha3, ImAll.nil'⟩
      osettles := oa3
      answers := ⟨[], ha4, ImAll.nil'⟩
      oanswers := oa4
      acts := ⟨[], ha5, ImAll.nil'⟩
      oacts := oa5
      asked := ha6
      oasked := oa6
      ox := oa7
      len := k.len.trans (List.length_replicate).symm
      hd := fun i q hi => by
        rw [wd_new_hd]
        exact (k.hd i q hi).keep k.st.al V8 fun c hc z => by rw [z.1] at hc; cases hc
      n := List.length_replicate }
end
end Sr

set_option Elab.async false
set_option linter.all false
set_option maxRecDepth 100000
set_option maxHeartbeats 4000000
namespace Sr
open PySem PySem.Spec PyProof.Rows L2
local macro_rules | `(tactic| walk_at "hp") => `(tactic| (unfold upd at *; grind))
section
variable {P : Program} {w : World} {base : Heap} {K : PySem.W.Frag} {mg : Str → Option Value}
theorem ableP_w {O : Own} {H : Hp} {L : WL} {m : Wd} {rs : List Dd} {d : Dd} {v : V} {n : Nat} {Q : VK} {E : XK} (W : WorldIn (.prog P w K) H O L m rs) (hv : Im H d.data v) (hi : d.hand < m.hs.length) (f : Fit n m) (hn : n < big) (k : ∀ H1, Same H H1 → Q (.bl (m.able d)) H1) :
    spAbleP P w K [.ref L.w, v] H Q E := by
  unfold spAbleP
  exact ⟨O, L, m, rs, d, v, n, rfl, W, hv, hi, f, hn, k⟩
theorem doP_w {O : Own} {H : Hp} {L : WL} {m : Wd} {rs : List Dd} {d : Dd} {v : V} {n : Nat} {Q : VK} {E : XK} (W : WorldIn (.prog P w K) H O L m rs) (hv : Im H d.data v) (hi : d.hand < m.hs.length) (f : Fit n m) (hn : n < big) (hab : m.able d = true) (hg : (m.hd d.hand).got.length < 64)
    (k : ∀ O' H' rs', WorldIn (.prog P w K) H' O' L (m.do d) rs' → Stp dA O H O' H' → Q .non H') : spDoP P w K [.ref L.w, v] H Q E := by
  unfold spDoP
  exact ⟨O, L, m, rs, d, v, n, rfl, W, hv, hi, f, hn, hab, hg, k⟩
/-- a run, seen from its beginning -/
theorem Ru.pre {p : Pr} {rs : List Dd} {m : Wd} (h : Ru p rs m) : ∀ j, ∃ mj, Ru p (rs.take j) mj := by
  induction h with
  | nil => exact fun j => ⟨_, by rw [List.take_nil]; exact .nil⟩
  | @snoc rs m d hr hab hi ih =>
    intro j
    by_cases e : j ≤ rs.length
    · rw [List.take_append_of_le_length e]
      exact ih j
    · rw [List.take_of_length_le (by rw [List.length_append, List.length_singleton]; omega)]
      exact ⟨_, .snoc hr hab hi⟩
theorem Ru.fn {p : Pr} : ∀ {rs : List Dd} {m m' : Wd}, Ru p rs m → Ru p rs m' → m = m' := by
  intro rs m m' h
  induction h generalizing m' with
  | nil =>
    intro g
    generalize e : ([] : List Dd) = r2 at g
    cases g with
    | nil => rfl
    | snoc => simp at e
  | @snoc rs m d hr hab hi ih =>
    intro g
    generalize e : rs ++ [d] = r2 at g
    cases g with
    | nil => simp at e
    | @snoc rs' m2 d' hr' hab' hi' =>
      obtain ⟨e1, e2⟩ := List.append_inj' e rfl
      subst e1
      cases e2
      rw [ih hr']
theorem Ru.step {p : Pr} {rs : List Dd} {m : Wd} (h : Ru p rs m) {j : Nat} {d : Dd} (hd : rs[j]? = some d) {mj : Wd} (hj : Ru p (rs.take j) mj) : mj.able d = true ∧ d.hand < p.hands ∧ Ru p (rs.take (j + 1)) (mj.do d) := by
  have e : rs.take (j + 1) = rs.take j ++ [d] := by rw [List.take_add_one, hd]; rfl
  obtain ⟨m1, h1⟩ := h.pre (j + 1)
  rw [e] at h1
  generalize e2 : rs.take j ++ [d] = r2 at h1
  cases h1 with
  | nil => simp at e2
  | @snoc rs' m2 d' hr' hab' hi' =>
    obtain ⟨e3, e4⟩ := List.append_inj' e2 rfl
    subst e3
    cases e4
    have := hr'.fn hj
    subst this
    exact ⟨hab', hi', by rw [e]; exact .snoc hr' hab' hi'⟩
@[irreducible] def spBehind (P : Program) (w : World) (K : PySem.W.Frag) : Sp := fun vs H Q _ => ∃ v a pr rs m xs, vs = [v, .ref a] ∧ Im H (Pr.data pr) v ∧ PrOk pr ∧ Ru pr rs m ∧ rs.length < big ∧ (H a = some (.lst xs) ∨ H a = some (.tup xs)) ∧ ImAll H (rs.map Dd.data) xs ∧
  ∀ L O' H' rs', WorldIn (.prog P w K) H' O' L m rs' → Same H H' → Q (.ref (WL.w L)) H'
theorem sc_p_world_behind : FnScope ["protocol", "run", "world", "index", "deed"] ["protocol", "run"] (defScope s_p_world_behind) := ⟨rfl, rfl, rfl, by decide +kernel, rfl, by decide +kernel, by decide +kernel⟩
theorem ok_p_world_behind (T : Tx w K mg) : FnI P w K mg base "world_behind" (6 + 1) ["protocol", "run"] (spBehind P w K) := by
  refine FnI.mk' T.f_p_world_behind T.g_world_behind sc_p_world_behind (fun _ _ _ _ _ _ us hl => match us, hl with | [_, _], _ => rfl) (fun vs H Q E h => ?_) (fun cdv A outer s H vs Q E hr h => ?_)
  all_goals unfold spBehind at h
  · obtain ⟨_, _, _, _, _, _, rfl, _⟩ := h
    rfl
  · obtain ⟨v, a, pr, rs, m, xs, rfl, hv, ok, hR, hb, ha, hxs, fin⟩ := h
    have hu := hu_of hr
    refine ⟨_, (pss_cons (ps_if (pt_not (pt_val (pe_callB (id := "isinstance") (isiTK K) (by rfl) T.n_isinstance (by decide +kernel) (pa_cons (pv 1) (pa_cons (pe_tup (pa_cons (pe_bltn (v := .ty "list") (u := .type "list") (by rfl) T.n_list (by decide +kernel) rfl) (pa_cons (pe_bltn (v := .ty "tuple") (u := .type "tuple") (by rfl) T.n_tuple (by decide +kernel) rfl) pa_nil))) pa_nil))))) (pss_one ps_never) pss_nil)
      (pss_cons (ps_set (i := 2) sc_p_world_behind.nd rfl (.inl rfl) (pe_makeI (ok_w_init (P := P) T) hr (pa_cons (pv 0) pa_nil)))
      (pss_cons (ps_for PassesOwn.never rfl (pi_enumA (by rfl) T.n_enumerate (pa_cons (pv 1) pa_nil)) (pg_tup rfl (pgs_cons (pg_name (i := 3) sc_p_world_behind.nd rfl (Or.inl rfl)) (pgs_cons (pg_name (i := 4) sc_p_world_behind.nd rfl (Or.inl rfl)) pgs_nil))) (pss_cons (ps_if (pt_not (pt_val (pe_methI (ok_w_able T) hr (pv 2) (pa_cons (pv 4) pa_nil)))) (pss_one ps_never) pss_nil)
      (pss_one (ps_expr (pe_methI (ok_w_do T) hr (pv 2) (pa_cons (pv 4) pa_nil))))))
      (pss_one (ps_ret (pv 2)))))), ?_⟩
    have hlen : xs.length = rs.length := hxs.length.trans (List.length_map ..)
    refine ⟨_, rfl, by show 2 ≤ sizeLine; decide, fun T0 hT0 => ?_⟩
    have s0 := same_new (o := .tup [.ty "list", .ty "tuple"]) hT0
    have hk : ∃ t, TyX K (upd H T0 (.tup [.ty "list", .ty "tuple"])) (.ref a) t ∧ PySem.W.kitAny K t [.type "list", .type "tuple"] = some true := by
      rcases ha with ha | ha
      · exact ⟨.type "list", .base (.lst (s0 _ _ ha)), rfl⟩
      · exact ⟨.type "tuple", .base (.tup (s0 _ _ ha)), rfl⟩
    obtain ⟨t, ht1, ht2⟩ := hk
    refine ⟨_, T0, _, t, [.type "list", .type "tuple"], true, rfl, upd_same, .cons (.ty _) (.cons (.ty _) .nil), ht1, ht2, _, rfl, iteF ?_⟩
    refine ⟨_, rfl, fun x dx hx hdx ne => ?_⟩
    have A0 : Al (fun _ => none) H := fun b c z => by cases z
    have A1 : Al (fun _ => none) (upd H T0 (.tup [.ty "list", .ty "tuple"])) := fun b c z => by cases z
    have Sa : Stp dA (fun _ => none) H (fun _ => none) (upd H T0 (.tup [.ty "list", .ty "tuple"])) := Stp.same A0 s0
    have Sb := Sa.trans (Stp.new (D := dA) (o := .own x) A1 hdx)
    have hx1 : (upd (upd H T0 (.tup [.ty "list", .ty "tuple"])) dx (.own x)) x = none := by rw [upd_ne ne.symm]; exact hx
    have Sc := Sb.trans (Stp.own (D := dA) (c := .w) (o := .ins (CW K) dx []) Sb.al hx1 (by intro z; cases z) noTup_ins)
    show spInitW P w K [.ref x, v] _ _ _
    unfold spInitW
    refine ⟨_, pr, v, x, dx, rfl, Im.keep (Sc.tk A0) _ _ hv, Sc.al, updO_same, upd_same, by have := ok.h2; omega, fun L O3 H3 hLx W3 S3 => ⟨rfl, ?_⟩⟩
    subst hLx
    have S3 := Sc.trans S3
    refine ⟨_, rfl, a, xs, rfl, ?_⟩
    rcases ha with ha | ha
    · refine .inl ⟨SqL.of (S3.keep _ _ ha rfl), ?_⟩
      refine for_it (walk_enum (xs := xs)) (fun j σ4 H4 => ∃ O4 rs4 mj y1 y2, σ4 = [some v, some (.ref a), some (.ref L.w), y1, y2] ∧ Ru pr (rs.take j) mj ∧ WorldIn (.prog P w K) H4 O4 L mj rs4 ∧ Stp dA (fun _ => none) H O4 H4) ⟨O3, [], _, none, none, rfl, .nil, W3, S3⟩ ?_ ?_ ?_
      · rintro j _ H4 _ ⟨O4, rs4, mj, y1, y2, _, _, _, S4⟩
        exact SqL.of (S4.keep _ _ ha rfl)
      · rintro j y _ H4 _ hj ⟨O4, rs4, mj, y1, y2, rfl, hRj, W4, S4⟩ ⟨T1, x1, x2, rfl, hT, rfl, ex1, ex2⟩
        cases ex1
        obtain ⟨dd, e1, e2⟩ := hxs.got ex2
        rw [List.getElem?_map] at e1
        obtain ⟨d, hd, rfl⟩ := Option.map_eq_some_iff.mp e1
        obtain ⟨hab, hi, hRn⟩ := hR.step hd hRj
        obtain ⟨p1, p2, p3⟩ := hRj.props
        have hbj : (rs.take j).length < big := by rw [List.length_take]; omega
        have hi2 : d.hand < mj.hs.length := by rw [p2]; exact hi
        have hg := ((hRj.few.hd d.hand).len ok.h2).1
        have s5 := same_new (o := .tup [.int (j : Nat), x2]) hT
        have W5 := W4.same s5
        have e5 := Im.keep ((S4.tk (fun b c z => by cases z)).trans (same_tk s5)) _ _ e2
        obtain ⟨dw5, qw5, yw5, wob5, _⟩ := W5.ob
        refine ⟨T1, _, rfl, SqT.of upd_same, rfl, _, _, rfl, _, _, rfl, rfl, ?_⟩
        refine ⟨_, rfl, L.w, _, _, rfl, wob5, rfl, _, rfl, ?_⟩
        show spAbleP P w K [.ref L.w, x2] _ _ _
        refine ableP_w W5 e5 hi2 p3 hbj fun H6 s6 => ⟨_, rfl, ?_⟩
        rw [hab]
        refine iteF ?_
        have W6 := W5.same s6
        obtain ⟨dw6, qw6, yw6, wob6, _⟩ := W6.ob
        refine ⟨_, rfl, L.w, _, _, rfl, wob6, rfl, _, rfl, ?_⟩
        show spDoP P w K [.ref L.w, x2] _ _ _
        refine doP_w W6 (Im.keep (same_tk s6) _ _ e5) hi2 p3 hbj hab hg fun O7 H7 rs7 W7 S7 => ?_
        exact ⟨O7, rs7, _, _, _, rfl, hRn, W7, S4.trans ((Stp.same W4.al (s5.trans s6)).trans S7)⟩
      · rintro _ H4 ⟨O4, rs4, mj, y1, y2, rfl, hRj, W4, S4⟩
        rw [hlen, List.take_length] at hRj
        rw [hR.fn hRj] at fin
        exact ⟨_, rfl, fin L O4 H4 rs4 W4 fun b o e => S4.keep b o e rfl⟩
    · refine .inr ⟨SqT.of (S3.keep _ _ ha rfl), ?_⟩
      refine for_it (walk_enumT (xs := xs)) (fun j σ4 H4 => ∃ O4 rs4 mj y1 y2, σ4 = [some v, some (.ref a), some (.ref L.w), y1, y2] ∧ Ru pr (rs.take j) mj ∧ WorldIn (.prog P w K) H4 O4 L mj rs4 ∧ Stp dA (fun _ => none) H O4 H4) ⟨O3, [], _, none, none, rfl, .nil, W3, S3⟩ ?_ ?_ ?_
      · rintro j _ H4 _ ⟨O4, rs4, mj, y1, y2, _, _, _, S4⟩
        exact SqT.of (S4.keep _ _ ha rfl)
      · rintro j y _ H4 _ hj ⟨O4, rs4, mj, y1, y2, rfl, hRj, W4, S4⟩ ⟨T1, x1, x2, rfl, hT, rfl, ex1, ex2⟩
        cases ex1
        obtain ⟨dd, e1, e2⟩ := hxs.got ex2
        rw [List.getElem?_map] at e1
        obtain ⟨d, hd, rfl⟩ := Option.map_eq_some_iff.mp e1
        obtain ⟨hab, hi, hRn⟩ := hR.step hd hRj
        obtain ⟨p1, p2, p3⟩ := hRj.props
        have hbj : (rs.take j).length < big := by rw [List.length_take]; omega
        have hi2 : d.hand < mj.hs.length := by rw [p2]; exact hi
        have hg := ((hRj.few.hd d.hand).len ok.h2).1
        have s5 := same_new (o := .tup [.int (j : Nat), x2]) hT
        have W5 := W4.same s5
        have e5 := Im.keep ((S4.tk (fun b c z => by cases z)).trans (same_tk s5)) _ _ e2
        obtain ⟨dw5, qw5, yw5, wob5, _⟩ := W5.ob
        refine ⟨T1, _, rfl, SqT.of upd_same, rfl, _, _, rfl, _, _, rfl, rfl, ?_⟩
        refine ⟨_, rfl, L.w, _, _, rfl, wob5, rfl, _, rfl, ?_⟩
        show spAbleP P w K [.ref L.w, x2] _ _ _
        refine ableP_w W5 e5 hi2 p3 hbj fun H6 s6 => ⟨_, rfl, ?_⟩
        rw [hab]
        refine iteF ?_
        have W6 := W5.same s6
        obtain ⟨dw6, qw6, yw6, wob6, _⟩ := W6.ob
        refine ⟨_, rfl, L.w, _, _, rfl, wob6, rfl, _, rfl, ?_⟩
        show spDoP P w K [.ref L.w, x2] _ _ _
        refine doP_w W6 (Im.keep (same_tk s6) _ _ e5) hi2 p3 hbj hab hg fun O7 H7 rs7 W7 S7 => ?_
        exact ⟨O7, rs7, _, _, _, rfl, hRn, W7, S4.trans ((Stp.same W4.al (s5.trans s6)).trans S7)⟩
      · rintro _ H4 ⟨O4, rs4, mj, y1, y2, rfl, hRj, W4, S4⟩
        rw [hlen, List.take_length] at hRj
        rw [hR.fn hRj] at fin
        exact ⟨_, rfl, fin L O4 H4 rs4 W4 fun b o e => S4.keep b o e rfl⟩
theorem behind_p {H : Hp} {v : V} {a : Addr} {pr : Pr} {rs : List Dd} {m : Wd} {xs : List V} {Q : VK} {E : XK} (hv : Im H (Pr.data pr) v) (ok : PrOk pr) (hR : Ru pr rs m) (hb : rs.length < big) (ha : H a = some (.lst xs) ∨ H a = some (.tup xs)) (hxs : ImAll H (rs.map Dd.data) xs)
    (fin : ∀ L O' H' rs', WorldIn (.prog P w K) H' O' L m rs' → Same H H' → Q (.ref (WL.w L)) H') : spBehind P w K [v, .ref a] H Q E := by
  unfold spBehind
  exact ⟨v, a, pr, rs, m, xs, rfl, hv, ok, hR, hb, ha, hxs, fin⟩
@[irreducible] def spChecked (P : Program) (w : World) (K : PySem.W.Frag) : Sp := fun vs H Q _ => ∃ v a pr rs m xs, vs = [v, .ref a] ∧ Im H (Pr.data pr) v ∧ PrOk pr ∧ Ru pr rs m ∧ rs.length < big ∧ (H a = some (.lst xs) ∨ H a = some (.tup xs)) ∧ ImAll H (rs.map Dd.data) xs ∧
  ∀ L O' H' rs', WorldIn (.prog P w K) H' O' L m rs' → Same H H' → Q (.ref (WL.w L)) H'
theorem sc_p_checked_world : FnScope ["protocol", "run"] ["protocol", "run"] (defScope s_p_checked_world) := ⟨rfl, rfl, rfl, by decide +kernel, rfl, by decide +kernel, by decide +kernel⟩
theorem ok_p_checked_world (T : Tx w K mg) : FnI P w K mg base "checked_world" (7 + 1) ["protocol", "run"] (spChecked P w K) := by
  refine FnI.mk' T.f_p_checked_world T.g_checked_world sc_p_checked_world (fun _ _ _ _ _ _ us hl => match us, hl with | [_, _], _ => rfl) (fun vs H Q E h => ?_) (fun cdv A outer s H vs Q E hr h => ?_)
  all_goals unfold spChecked at h
  · obtain ⟨_, _, _, _, _, _, rfl, _⟩ := h
    rfl
  · obtain ⟨v, a, pr, rs, m, xs, rfl, hv, ok, hR, hb, ha, hxs, fin⟩ := h
    have hu := hu_of hr
    refine ⟨_, (pss_cons (ps_expr (pe_callI (ok_p_check_protocol (P := P) T) hr (pa_cons (pv 0) pa_nil)))
      (pss_one (ps_ret (pe_callI (ok_p_world_behind (P := P) T) hr (pa_cons (pv 0) (pa_cons (pv 1) pa_nil)))))), ?_⟩
    refine ⟨_, rfl, ?_⟩
    show spChk P w K [v] H _ _
    unfold spChk
    refine ⟨v, pr, rfl, hv, ok, fun H1 s1 => ⟨_, rfl, _, rfl, ?_⟩⟩
    show spBehind P w K [v, .ref a] H1 _ _
    exact behind_p (Im.keep (same_tk s1) _ _ hv) ok hR hb (ha.imp (s1 _ _) (s1 _ _)) (ImAll.keep (same_tk s1) _ _ hxs) fun L O2 H2 rs2 W2 s2 => fin L O2 H2 rs2 W2 (s1.trans s2)
theorem checked_p {H : Hp} {v : V} {a : Addr} {pr : Pr} {rs : List Dd} {m : Wd} {xs : List V} {Q : VK} {E : XK} (hv : Im H (Pr.data pr) v) (ok : PrOk pr) (hR : Ru pr rs m) (hb : rs.length < big) (ha : H a = some (.lst xs) ∨ H a = some (.tup xs)) (hxs : ImAll H (rs.map Dd.data) xs)
    (fin : ∀ L O' H' rs', WorldIn (.prog P w K) H' O' L m rs' → Same H H' → Q (.ref (WL.w L)) H') : spChecked P w K [v, .ref a] H Q E := by
  unfold spChecked
  exact ⟨v, a, pr, rs, m, xs, rfl, hv, ok, hR, hb, ha, hxs, fin⟩
@[irreducible] def spChkH (P : Program) (w : World) (K : PySem.W.Frag) : Sp := fun vs H Q _ => ∃ O L m rs i, vs = [.ref (WL.w L), nv i] ∧ WorldIn (.prog P w K) H O L m rs ∧ i < m.hs.length ∧ Q .non H
theorem sc_p_check_hand : FnScope ["world", "number"] ["world", "number"] (defScope s_p_check_hand) := ⟨rfl, rfl, rfl, by decide +kernel, rfl, by decide +kernel, by decide +kernel⟩
theorem ok_p_check_hand (T : Tx w K mg) : FnI P w K mg base "check_hand" (1 + 1) ["world", "number"] (spChkH P w K) := by
  refine FnI.mk' T.f_p_check_hand T.g_check_hand sc_p_check_hand (fun _ _ _ _ _ _ us hl => match us, hl with | [_, _], _ => rfl) (fun vs H Q E h => ?_) (fun cdv A outer s H vs Q E hr h => ?_)
  all_goals unfold spChkH at h
  · obtain ⟨_, _, _, _, _, rfl, _⟩ := h
    rfl
  · obtain ⟨O, L, m, rs, i, rfl, W, hi, fin⟩ := h
    have hu := hu_of hr
    refine ⟨_, (pss_one (ps_if (pt_not (pt_val (pe_callI (ok_p_is_number (P := P) T) hr (pa_cons (pv 1) (pa_cons pe_int (pa_cons (pe_op op_sub (pe_callB (id := "len") (lenK K) (by rfl) T.n_len (by decide +kernel) (pa_cons (fldK K (pv 0)) pa_nil)) pe_int) pa_nil)))))) (pss_one ps_never) pss_nil)), ?_⟩
    obtain ⟨dw, qw, yw, wob, _⟩ := W.ob
    have hpl : L.ps.length = m.hs.length := W.len
    refine ⟨_, rfl, _, rfl, L.w, _, _, _, _, rfl, wob, T.cl_World, T.no_World_hands, fw_hands, _, _, rfl, .inl (SqL.of W.hs), _, _, rfl, rfl, ?_⟩
    show spIsNum P w K [.int (i : Int), .int 0, .int (((L.ps.map V.ref).length : Int) - 1)] H _ _
    refine num_p ⟨_, rfl, ?_⟩
    have e1 : (decide ((0 : Int) ≤ (i : Int)) && decide ((i : Int) ≤ ((L.ps.map V.ref).length : Int) - 1)) = true := by
      rw [List.length_map, hpl, decide_eq_true (by omega), decide_eq_true (by omega)]
      rfl
    rw [e1]
    exact iteF fin
end
end Sr

set_option Elab.async false
set_option linter.all false
set_option maxRecDepth 100000
set_option maxHeartbeats 4000000
namespace Sr
open PySem PySem.Spec PyProof.Rows L2
local macro_rules | `(tactic| walk_at "hp") => `(tactic| (unfold upd at *; grind))
section
variable {P : Program} {w : World} {base : Heap} {K : PySem.W.Frag} {mg : Str → Option Value}
@[irreducible] def spLettersP (P : Program) (w : World) (K : PySem.W.Frag) : Sp := fun vs H Q _ => ∃ v a pr rs m xs, vs = [v, .ref a] ∧ Im H (Pr.data pr) v ∧ PrOk pr ∧ Ru pr rs m ∧ rs.length < big ∧ (H a = some (.lst xs) ∨ H a = some (.tup xs)) ∧ ImAll H (rs.map Dd.data) xs ∧
  ∀ l H' vs, Same H H' → H' l = some (.lst vs) → ImAll H' ((Wd.lts m).map Lt.data) vs → Q (.ref l) H'
theorem sc_p_letters : FnScope ["protocol", "run"] ["protocol", "run"] (defScope s_p_letters) := ⟨rfl, rfl, rfl, by decide +kernel, rfl, by decide +kernel, by decide +kernel⟩
theorem ok_p_letters (T : Tx w K mg) : FnI P w K mg base "letters" (8 + 1) ["protocol", "run"] (spLettersP P w K) := by
  refine FnI.mk' T.f_p_letters T.g_letters sc_p_letters (fun _ _ _ _ _ _ us hl => match us, hl with | [_, _], _ => rfl) (fun vs H Q E h => ?_) (fun cdv A outer s H vs Q E hr h => ?_)
  all_goals unfold spLettersP at h
  · obtain ⟨_, _, _, _, _, _, rfl, _⟩ := h
    rfl
  · obtain ⟨v, a, pr, rs, m, xs, rfl, hv, ok, hR, hb, ha, hxs, fin⟩ := h
    have hu := hu_of hr
    refine ⟨_, (pss_one (ps_ret (pe_callTy (T := "list") call_list_of (by rfl) T.n_list (by decide +kernel) (pa_cons (fldK K (pe_callI (ok_p_checked_world (P := P) T) hr (pa_cons (pv 0) (pa_cons (pv 1) pa_nil)))) pa_nil)))), ?_⟩
    refine ⟨_, rfl, _, rfl, ?_⟩
    show spChecked P w K [v, .ref a] H _ _
    refine checked_p hv ok hR hb ha hxs fun L O1 H1 rs1 W1 s1 => ?_
    obtain ⟨dw, qw, yw, wob, _⟩ := W1.ob
    obtain ⟨as, la, lb, _⟩ := W1.lts
    generalize as.map V.ref = us at la lb
    refine ⟨_, _, _, _, _, rfl, wob, T.cl_World, T.no_World_bag, fw_bag, _, _, rfl, .inl (SqL.of la), fun l hl => ?_⟩
    have s2 := same_new (o := .lst us) hl
    exact fin l _ _ (s1.trans s2) upd_same (ImAll.keep (same_tk s2) _ _ lb)
theorem letters_p {H : Hp} {v : V} {a : Addr} {pr : Pr} {rs : List Dd} {m : Wd} {xs : List V} {Q : VK} {E : XK} (hv : Im H (Pr.data pr) v) (ok : PrOk pr) (hR : Ru pr rs m) (hb : rs.length < big) (ha : H a = some (.lst xs) ∨ H a = some (.tup xs)) (hxs : ImAll H (rs.map Dd.data) xs)
    (fin : ∀ l H' vs, Same H H' → H' l = some (.lst vs) → ImAll H' ((Wd.lts m).map Lt.data) vs → Q (.ref l) H') : spLettersP P w K [v, .ref a] H Q E := by
  unfold spLettersP
  exact ⟨v, a, pr, rs, m, xs, rfl, hv, ok, hR, hb, ha, hxs, fin⟩
@[irreducible] def spSettlesP (P : Program) (w : World) (K : PySem.W.Frag) : Sp := fun vs H Q _ => ∃ v a pr rs m xs, vs = [v, .ref a] ∧ Im H (Pr.data pr) v ∧ PrOk pr ∧ Ru pr rs m ∧ rs.length < big ∧ (H a = some (.lst xs) ∨ H a = some (.tup xs)) ∧ ImAll H (rs.map Dd.data) xs ∧
  ∀ l H' vs, Same H H' → H' l = some (.lst vs) → ImAll H' ((Wd.settles m).map trD) vs → Q (.ref l) H'
theorem sc_p_settles : FnScope ["protocol", "run"] ["protocol", "run"] (defScope s_p_settles) := ⟨rfl, rfl, rfl, by decide +kernel, rfl, by decide +kernel, by decide +kernel⟩
theorem ok_p_settles (T : Tx w K mg) : FnI P w K mg base "settles" (8 + 1) ["protocol", "run"] (spSettlesP P w K) := by
  refine FnI.mk' T.f_p_settles T.g_settles sc_p_settles (fun _ _ _ _ _ _ us hl => match us, hl with | [_, _], _ => rfl) (fun vs H Q E h => ?_) (fun cdv A outer s H vs Q E hr h => ?_)
  all_goals unfold spSettlesP at h
  · obtain ⟨_, _, _, _, _, _, rfl, _⟩ := h
    rfl
  · obtain ⟨v, a, pr, rs, m, xs, rfl, hv, ok, hR, hb, ha, hxs, fin⟩ := h
    have hu := hu_of hr
    refine ⟨_, (pss_one (ps_ret (pe_callTy (T := "list") call_list_of (by rfl) T.n_list (by decide +kernel) (pa_cons (fldK K (pe_callI (ok_p_checked_world (P := P) T) hr (pa_cons (pv 0) (pa_cons (pv 1) pa_nil)))) pa_nil)))), ?_⟩
    refine ⟨_, rfl, _, rfl, ?_⟩
    show spChecked P w K [v, .ref a] H _ _
    refine checked_p hv ok hR hb ha hxs fun L O1 H1 rs1 W1 s1 => ?_
    obtain ⟨dw, qw, yw, wob, _⟩ := W1.ob
    obtain ⟨us, la, lb⟩ := W1.settles
    refine ⟨_, _, _, _, _, rfl, wob, T.cl_World, T.no_World_settles, fw_settles, _, _, rfl, .inl (SqL.of la), fun l hl => ?_⟩
    have s2 := same_new (o := .lst us) hl
    exact fin l _ _ (s1.trans s2) upd_same (ImAll.keep (same_tk s2) _ _ lb)
theorem settles_p {H : Hp} {v : V} {a : Addr} {pr : Pr} {rs : List Dd} {m : Wd} {xs : List V} {Q : VK} {E : XK} (hv : Im H (Pr.data pr) v) (ok : PrOk pr) (hR : Ru pr rs m) (hb : rs.length < big) (ha : H a = some (.lst xs) ∨ H a = some (.tup xs)) (hxs : ImAll H (rs.map Dd.data) xs)
    (fin : ∀ l H' vs, Same H H' → H' l = some (.lst vs) → ImAll H' ((Wd.settles m).map trD) vs → Q (.ref l) H') : spSettlesP P w K [v, .ref a] H Q E := by
  unfold spSettlesP
  exact ⟨v, a, pr, rs, m, xs, rfl, hv, ok, hR, hb, ha, hxs, fin⟩
@[irreducible] def spAnswersP (P : Program) (w : World) (K : PySem.W.Frag) : Sp := fun vs H Q _ => ∃ v a pr rs m xs, vs = [v, .ref a] ∧ Im H (Pr.data pr) v ∧ PrOk pr ∧ Ru pr rs m ∧ rs.length < big ∧ (H a = some (.lst xs) ∨ H a = some (.tup xs)) ∧ ImAll H (rs.map Dd.data) xs ∧
  ∀ l H' vs, Same H H' → H' l = some (.lst vs) → ImAll H' ((Wd.answers m).map trD) vs → Q (.ref l) H'
theorem sc_p_answers : FnScope ["protocol", "run"] ["protocol", "run"] (defScope s_p_answers) := ⟨rfl, rfl, rfl, by decide +kernel, rfl, by decide +kernel, by decide +kernel⟩
theorem ok_p_answers (T : Tx w K mg) : FnI P w K mg base "answers" (8 + 1) ["protocol", "run"] (spAnswersP P w K) := by
  refine FnI.mk' T.f_p_answers T.g_answers sc_p_answers (fun _ _ _ _ _ _ us hl => match us, hl with | [_, _], _ => rfl) (fun vs H Q E h => ?_) (fun cdv A outer s H vs Q E hr h => ?_)
  all_goals unfold spAnswersP at h
  · obtain ⟨_, _, _, _, _, _, rfl, _⟩ := h
    rfl
  · obtain ⟨v, a, pr, rs, m, xs, rfl, hv, ok, hR, hb, ha, hxs, fin⟩ := h
    have hu := hu_of hr
    refine ⟨_, (pss_one (ps_ret (pe_callTy (T := "list") call_list_of (by rfl) T.n_list (by decide +kernel) (pa_cons (fldK K (pe_callI (ok_p_checked_world (P := P) T) hr (pa_cons (pv 0) (pa_cons (pv 1) pa_nil)))) pa_nil)))), ?_⟩
    refine ⟨_, rfl, _, rfl, ?_⟩
    show spChecked P w K [v, .ref a] H _ _
    refine checked_p hv ok hR hb ha hxs fun L O1 H1 rs1 W1 s1 => ?_
    obtain ⟨dw, qw, yw, wob, _⟩ := W1.ob
    obtain ⟨us, la, lb⟩ := W1.answers
    refine ⟨_, _, _, _, _, rfl, wob, T.cl_World, T.no_World_answers, fw_answers, _, _, rfl, .inl (SqL.of la), fun l hl => ?_⟩
    have s2 := same_new (o := .lst us) hl
    exact fin l _ _ (s1.trans s2) upd_same (ImAll.keep (same_tk s2) _ _ lb)
theorem answers_p {H : Hp} {v : V} {a : Addr} {pr : Pr} {rs : List Dd} {m : Wd} {xs : List V} {Q : VK} {E : XK} (hv : Im H (Pr.data pr) v) (ok : PrOk pr) (hR : Ru pr rs m) (hb : rs.length < big) (ha : H a = some (.lst xs) ∨ H a = some (.tup xs)) (hxs : ImAll H (rs.map Dd.data) xs)
    (fin : ∀ l H' vs, Same H H' → H' l = some (.lst vs) → ImAll H' ((Wd.answers m).map trD) vs → Q (.ref l) H') : spAnswersP P w K [v, .ref a] H Q E := by
  unfold spAnswersP
  exact ⟨v, a, pr, rs, m, xs, rfl, hv, ok, hR, hb, ha, hxs, fin⟩
@[irreducible] def spActsP (P : Program) (w : World) (K : PySem.W.Frag) : Sp := fun vs H Q _ => ∃ v a pr rs m xs, vs = [v, .ref a] ∧ Im H (Pr.data pr) v ∧ PrOk pr ∧ Ru pr rs m ∧ rs.length < big ∧ (H a = some (.lst xs) ∨ H a = some (.tup xs)) ∧ ImAll H (rs.map Dd.data) xs ∧
  ∀ l H' vs, Same H H' → H' l = some (.lst vs) → ImAll H' ((Wd.acts m).map actD) vs → Q (.ref l) H'
theorem sc_p_acts : FnScope ["protocol", "run"] ["protocol", "run"] (defScope s_p_acts) := ⟨rfl, rfl, rfl, by decide +kernel, rfl, by decide +kernel, by decide +kernel⟩
theorem ok_p_acts (T : Tx w K mg) : FnI P w K mg base "acts" (8 + 1) ["protocol", "run"] (spActsP P w K) := by
  refine FnI.mk' T.f_p_acts T.g_acts sc_p_acts (fun _ _ _ _ _ _ us hl => match us, hl with | [_, _], _ => rfl) (fun vs H Q E h => ?_) (fun cdv A outer s H vs Q E hr h => ?_)
  all_goals unfold spActsP at h
  · obtain ⟨_, _, _, _, _, _, rfl, _⟩ := h
    rfl
  · obtain ⟨v, a, pr, rs, m, xs, rfl, hv, ok, hR, hb, ha, hxs, fin⟩ := h
    have hu := hu_of hr
    refine ⟨_, (pss_one (ps_ret (pe_callTy (T := "list") call_list_of (by rfl) T.n_list (by decide +kernel) (pa_cons (fldK K (pe_callI (ok_p_checked_world (P := P) T) hr (pa_cons (pv 0) (pa_cons (pv 1) pa_nil)))) pa_nil)))), ?_⟩
    refine ⟨_, rfl, _, rfl, ?_⟩
    show spChecked P w K [v, .ref a] H _ _
    refine checked_p hv ok hR hb ha hxs fun L O1 H1 rs1 W1 s1 => ?_
    obtain ⟨dw, qw, yw, wob, _⟩ := W1.ob
    obtain ⟨us, la, lb⟩ := W1.acts
    refine ⟨_, _, _, _, _, rfl, wob, T.cl_World, T.no_World_acts, fw_acts, _, _, rfl, .inl (SqL.of la), fun l hl => ?_⟩
    have s2 := same_new (o := .lst us) hl
    exact fin l _ _ (s1.trans s2) upd_same (ImAll.keep (same_tk s2) _ _ lb)
theorem acts_p {H : Hp} {v : V} {a : Addr} {pr : Pr} {rs : List Dd} {m : Wd} {xs : List V} {Q : VK} {E : XK} (hv : Im H (Pr.data pr) v) (ok : PrOk pr) (hR : Ru pr rs m) (hb : rs.length < big) (ha : H a = some (.lst xs) ∨ H a = some (.tup xs)) (hxs : ImAll H (rs.map Dd.data) xs)
    (fin : ∀ l H' vs, Same H H' → H' l = some (.lst vs) → ImAll H' ((Wd.acts m).map actD) vs → Q (.ref l) H') : spActsP P w K [v, .ref a] H Q E := by
  unfold spActsP
  exact ⟨v, a, pr, rs, m, xs, rfl, hv, ok, hR, hb, ha, hxs, fin⟩
@[irreducible] def spLeadsP (P : Program) (w : World) (K : PySem.W.Frag) : Sp := fun vs H Q _ => ∃ v a pr rs m xs, vs = [v, .ref a] ∧ Im H (Pr.data pr) v ∧ PrOk pr ∧ Ru pr rs m ∧ rs.length < big ∧ (H a = some (.lst xs) ∨ H a = some (.tup xs)) ∧ ImAll H (rs.map Dd.data) xs ∧
  ∀ l H' vs, Same H H' → H' l = some (.lst vs) → ImAll H' ((Wd.leads m).map leadD) vs → Q (.ref l) H'
theorem sc_p_leads : FnScope ["protocol", "run", "term", "hand", "log", "got"] ["protocol", "run"] (defScope s_p_leads) := ⟨rfl, rfl, rfl, by decide +kernel, rfl, by decide +kernel, by decide +kernel⟩
theorem ok_p_leads (T : Tx w K mg) : FnI P w K mg base "leads" (8 + 1) ["protocol", "run"] (spLeadsP P w K) := by
  refine FnI.mk' T.f_p_leads T.g_leads sc_p_leads (fun _ _ _ _ _ _ us hl => match us, hl with | [_, _], _ => rfl) (fun vs H Q E h => ?_) (fun cdv A outer s H vs Q E hr h => ?_)
  all_goals unfold spLeadsP at h
  · obtain ⟨_, _, _, _, _, _, rfl, _⟩ := h
    rfl
  · obtain ⟨v, a, pr, rs, m, xs, rfl, hv, ok, hR, hb, ha, hxs, fin⟩ := h
    have hu := hu_of hr
    refine ⟨_, (pss_one (ps_ret (pe_lc (own := [("term", 2), ("hand", 3), ("log", 4), ("got", 5)]) (g := gTup K 4 (gCons (gName 2) (gCons (gName 3) (gCons (gName 4) (gCons (gName 5) gNil))))) rfl sc_p_leads.nd (pi_list (fldK K (pe_callI (ok_p_checked_world (P := P) T) hr (pa_cons (pv 0) (pa_cons (pv 1) pa_nil))))) (blkOk_by (own := [("term", 2), ("hand", 3), ("log", 4), ("got", 5)]) (N := ["protocol", "run", "term", "hand", "log", "got"]) (sc := defScope s_p_leads) (by decide +kernel)) (fun _ _ _ _ _ => (pg_tup rfl (pgs_cons (pg_name (i := 2) sc_p_leads.nd rfl (Or.inl rfl)) (pgs_cons (pg_name (i := 3) sc_p_leads.nd rfl (Or.inl rfl)) (pgs_cons (pg_name (i := 4) sc_p_leads.nd rfl (Or.inl rfl)) (pgs_cons (pg_name (i := 5) sc_p_leads.nd rfl (Or.inl rfl)) pgs_nil)))))) (fun _ _ _ _ _ => pts_nil) (fun _ _ _ _ _ => (pe_tup (pa_cons (pv 2) (pa_cons (pv 3) (pa_cons (pv 4) pa_nil)))))))), ?_⟩
    refine ⟨_, rfl, _, rfl, ?_⟩
    show spChecked P w K [v, .ref a] H _ _
    refine checked_p hv ok hR hb ha hxs fun L O1 H1 rs1 W1 s1 => ?_
    obtain ⟨dw, qw, yw, wob, _⟩ := W1.ob
    obtain ⟨us, la, lb⟩ := W1.leads
    refine ⟨_, _, _, _, _, rfl, wob, T.cl_World, T.no_World_leads, fw_leads, _, rfl, ⟨_, SqL.of la⟩, fun D hD => ?_⟩
    have hll : us.length = m.leads.length := lb.length.trans (List.length_map ..)
    have hml := hR.props.2.2.leads
    refine lc_it (walk_list (xs := us)) (fun j H3 => Same H1 H3 ∧ ∃ acc, H3 D = some (.lst acc) ∧ ImAll H3 ((m.leads.take j).map leadD) acc) ⟨same_new hD, [], upd_same, ImAll.nil'⟩ ?_ ?_ ?_
    · rintro j H3 _ ⟨s3, _⟩
      exact SqL.of (s3 _ _ la)
    · rintro j y _ H3 hj ⟨s3, acc, g1, g2⟩ ⟨rfl, ey⟩
      obtain ⟨dd, e1, e2⟩ := lb.got ey
      rw [List.getElem?_map] at e1
      obtain ⟨x, hx, rfl⟩ := Option.map_eq_some_iff.mp e1
      have e2 : Im H1 (leadD4 x) y := e2
      obtain ⟨T0, v1, v2, v3, v4, rfl, ht, i1, i2, i3, i4⟩ := im_t4.mp e2
      rw [im_nat] at i1 i2
      subst i1 i2
      refine ⟨T0, _, rfl, SqT.of (s3 _ _ ht), rfl, _, _, rfl, _, _, rfl, _, _, rfl, _, _, rfl, rfl, rfl, ?_⟩
      refine ⟨_, rfl, _, rfl, _, rfl, by show 3 ≤ sizeLine; decide, fun T1 hT1 => ?_⟩
      have s4 := same_new (o := .tup [nv x.1, nv x.2.1, v3]) hT1
      have nD : T1 ≠ D := fun z => by subst z; rw [g1] at hT1; cases hT1
      refine ⟨acc, s4 _ _ g1, ?_, ?_, acc ++ [.ref T1], upd_same, ?_⟩
      · have q1 := g2.length
        rw [List.length_map, List.length_take] at q1
        rw [q1]
        exact big_line (by omega)
      · exact fun b o e => by
          have n2 : b ≠ D := fun z => by subst z; rw [hD] at e; cases e
          rw [upd_ne n2]
          exact (s3.trans s4) _ _ e
      · rw [List.take_add_one, hx, List.map_append]
        have tk : Tk H3 (upd (upd H3 T1 (.tup [nv x.1, nv x.2.1, v3])) D (.lst (acc ++ [.ref T1]))) := fun b ys e => by
          have n2 : b ≠ D := fun z => by subst z; rw [g1] at e; cases e
          rw [upd_ne n2]
          exact s4 _ _ e
        refine ImAll.append (ImAll.keep tk _ _ g2) (ImAll.one ?_)
        refine im_t3.mpr ⟨T1, _, _, _, rfl, by rw [upd_ne nD, upd_same], im_nat.mpr rfl, im_nat.mpr rfl, Im.keep (fun b ys e => tk b ys (s3 _ _ e)) _ _ i3⟩
    · rintro H3 ⟨s3, acc, g1, g2⟩
      rw [hll, List.take_length] at g2
      exact fin D H3 acc (s1.trans s3) g1 g2
theorem leads_p {H : Hp} {v : V} {a : Addr} {pr : Pr} {rs : List Dd} {m : Wd} {xs : List V} {Q : VK} {E : XK} (hv : Im H (Pr.data pr) v) (ok : PrOk pr) (hR : Ru pr rs m) (hb : rs.length < big) (ha : H a = some (.lst xs) ∨ H a = some (.tup xs)) (hxs : ImAll H (rs.map Dd.data) xs)
    (fin : ∀ l H' vs, Same H H' → H' l = some (.lst vs) → ImAll H' ((Wd.leads m).map leadD) vs → Q (.ref l) H') : spLeadsP P w K [v, .ref a] H Q E := by
  unfold spLeadsP
  exact ⟨v, a, pr, rs, m, xs, rfl, hv, ok, hR, hb, ha, hxs, fin⟩
end
end Sr

set_option Elab.async false
set_option linter.all false
set_option maxRecDepth 100000
set_option maxHeartbeats 4000000
namespace Sr
open PySem PySem.Spec PyProof.Rows L2
local macro_rules | `(tactic| walk_at "hp") => `(tactic| (unfold upd at *; grind))
section
variable {P : Program} {w : World} {base : Heap} {K : PySem.W.Frag} {mg : Str → Option Value}
/-! ### what is told of a hand, as a dict -/
def Tl (H : Hp) (kvs : List (Key × V)) (ds : List (Str × PyData)) : Prop := kvs.map (·.1) = ds.map (fun d => (Sum.inr d.1 : Key)) ∧ ImAll H (ds.map (·.2)) (kvs.map (·.2))
structure Td (H : Hp) (f : Addr) (H2 : Hp) (ds : List (Str × PyData)) : Prop where
  sm : Same H H2
  fr : H f = none
  ex : ∃ kvs, H2 f = some (.dK kvs) ∧ Tl H2 kvs ds
section
variable {H H2 H3 : Hp} {f : Addr} {ds : List (Str × PyData)} {k : Str} {d : PyData} {v : V}
theorem Td.same (t : Td H f H2 ds) (s : Same H2 H3) : Td H f H3 ds := by
  obtain ⟨kvs, h1, h2, h3⟩ := t.ex
  exact ⟨t.sm.trans s, t.fr, kvs, s _ _ h1, h2, ImAll.keep (same_tk s) _ _ h3⟩
theorem Td.put (t : Td H f H2 ds) (hv : Im H2 d v) (hk : k ∉ ds.map (·.1)) (hl : ds.length < 100) : ∃ H4, DPut H2 f (.str k) v H4 ∧ Td H f H4 (ds ++ [(k, d)]) := by
  obtain ⟨kvs, h1, h2, h3⟩ := t.ex
  have hlen : kvs.length = ds.length := by have := congrArg List.length h2; simpa using this
  have hfr : (Sum.inr k : Key) ∉ kvs.map (·.1) := by
    rw [h2]
    intro z
    obtain ⟨y, hy, e⟩ := List.mem_map.mp z
    have e2 : y.1 = k := Sum.inr.inj e
    exact hk (List.mem_map.mpr ⟨y, hy, e2⟩)
  have hp := DPut.k (v := v) (k := (.inr k : Key)) h1 (by
    have : (100 : Nat) < sizeLine := by decide
    omega)
  rw [putK_snoc hfr] at hp
  have tk : Tk H2 (upd H2 f (.dK (kvs ++ [(.inr k, v)]))) := fun a xs e => by
    rw [upd_ne (fun z => by subst z; rw [h1] at e; cases e)]
    exact e
  refine ⟨_, hp, fun b o e => ?_, t.fr, _, upd_same, ?_, ?_⟩
  · rw [upd_ne (ne_of_none e t.fr)]
    exact t.sm _ _ e
  · rw [List.map_append, List.map_append, h2]
    rfl
  · rw [List.map_append, List.map_append]
    exact ImAll.append (ImAll.keep tk _ _ h3) (ImAll.one (Im.keep tk _ _ hv))
end
def ds0 (h : Hd) : List (Str × PyData) := [("term", natD h.term), ("vote", voteD h.vote), ("log", logD h.log), ("sure", natD h.sure), ("role", .str h.role.str)]
def dsA (h : Hd) : List (Str × PyData) := ds0 h ++ (if h.role = .asks then ([("got", .tuple ((srt h.got).map natD))] : List (Str × PyData)) else [])
def wishD (p : Nat × List Nat) : PyData := .tuple [natD p.1, .tuple ((srt p.2).map natD)]
def knownD (n i : Nat) (h : Hd) : List Nat := (List.range n).map fun o => if o = i then h.log.length else (alook h.known o).getD 0
theorem told_eq (n i : Nat) (h : Hd) : toldD n i h = dsA h ++ (if h.role = .leads then ([("known", .tuple ((knownD n i h).map natD)), ("told", natD h.told), ("begun", natD h.begun), ("wishes", .tuple (h.wishes.map wishD))] : List (Str × PyData)) else []) := rfl
theorem dsA_leads {h : Hd} (e : h.role = .leads) : dsA h = ds0 h := by unfold dsA; rw [if_neg (by rw [e]; decide), List.append_nil]
theorem set_known {n i : Nat} {h : Hd} : (((List.range n).map fun o => nv ((alook h.known o).getD 0)).set i (nv h.log.length)) = (knownD n i h).map nv := by
  apply List.ext_getElem?
  intro j
  unfold knownD
  rw [List.getElem?_set, List.map_map, List.getElem?_map, List.length_map, List.length_range, List.getElem?_map]
  by_cases e : i = j
  · subst e
    by_cases hi : i < n
    · rw [if_pos rfl, if_pos hi, List.getElem?_range hi]
      simp
    · rw [if_pos rfl, if_neg hi, List.getElem?_eq_none (by rw [List.length_range]; omega)]
      rfl
  · rw [if_neg e]
    by_cases hj : j < n
    · rw [List.getElem?_range hj]
      have e' : ¬ j = i := fun z => e z.symm
      simp [e']
    · rw [List.getElem?_eq_none (by rw [List.length_range]; omega)]
      rfl
theorem ix_nat {n i : Nat} (h : i < n) : ixN n (i : Int) = some i := by
  unfold ixN
  rw [if_pos (by omega), if_pos (by omega), Int.toNat_natCast]
def toS (L : WL) (i : Nat) (p f : Addr) (a b c d : Option V) : L2.St := [some (.ref L.w), some (nv i), some (.ref p), some (.ref f), a, b, c, d]
@[irreducible] def spToldH (P : Program) (w : World) (K : PySem.W.Frag) : Sp := fun vs H Q _ => ∃ O L m rs i, vs = [.ref (WL.w L), nv i] ∧ WorldIn (.prog P w K) H O L m rs ∧ i < m.hs.length ∧ m.hs.length < 100 ∧ (m.hd i).got.length < 64 ∧ (m.hd i).wishes.length < 64 ∧ (∀ y ∈ (m.hd i).wishes, y.2.length < 64) ∧ ((m.hd i).wishes.map (·.1)).Pairwise (· < ·) ∧
  ∀ f H', Td H f H' (toldD m.hs.length i (m.hd i)) → Q (.ref f) H'
theorem sc_p_told_hand : FnScope ["world", "number", "hand", "found", "known", "other", "wish", "seen"] ["world", "number"] (defScope s_p_told_hand) := ⟨rfl, rfl, rfl, by decide +kernel, rfl, by decide +kernel, by decide +kernel⟩
theorem ok_p_told_hand (T : Tx w K mg) : FnI P w K mg base "told_hand" (0 + 1) ["world", "number"] (spToldH P w K) := by
  refine FnI.mk' T.f_p_told_hand T.g_told_hand sc_p_told_hand (fun _ _ _ _ _ _ us hl => match us, hl with | [_, _], _ => rfl) (fun vs H Q E h => ?_) (fun cdv A outer s H vs Q E hr h => ?_)
  all_goals unfold spToldH at h
  · obtain ⟨_, _, _, _, _, rfl, _⟩ := h
    rfl
  · obtain ⟨O, L, m, rs, i, rfl, W, hi, hn, hg, hw, hws, hpw, fin⟩ := h
    have hu := hu_of hr
    refine ⟨_, (pss_cons (ps_set (i := 2) sc_p_told_hand.nd rfl (.inr rfl) (pe_ix (ixL K) (fldK K (pv 0)) (pv 1) (fun _ _ => rfl)))
      (pss_cons (ps_set (i := 3) sc_p_told_hand.nd rfl (.inl rfl) (pe_disp (pps_cons pe_str (fldK K (pv 2)) (pps_cons pe_str (fldK K (pv 2)) (pps_cons pe_str (fldK K (pv 2)) (pps_cons pe_str (fldK K (pv 2)) (pps_cons pe_str (fldK K (pv 2)) pps_nil))))) (by rfl) (by rfl) (fun z => by cases z) (by decide)))
      (pss_cons (ps_if (pt_cmpR op_eq (fldK K (pv 2)) pe_str (nomark _)) (pss_one (ps_dput hu (pv 3) pe_str (pe_callTy (T := "tuple") (tupleK K) (by rfl) T.n_tuple (by decide +kernel) (pa_cons (pe_callB (id := "sorted") (call_sortedDI rfl) (by rfl) T.n_sorted (by decide +kernel) (pa_cons (fldK K (pv 2)) pa_nil)) pa_nil)) rfl)) pss_nil)
      (pss_cons (ps_if (pt_cmpR op_eq (fldK K (pv 2)) pe_str (nomark _)) (pss_cons (ps_setLc (i := 4) (own := [("other", 5)]) (g := gName 5) rfl sc_p_told_hand.nd rfl rfl (sw_true rfl rfl rfl (by decide +kernel)) (pi_range1 (by rfl) T.n_range (pa_cons (pe_callB (id := "len") (lenK K) (by rfl) T.n_len (by decide +kernel) (pa_cons (fldK K (pv 0)) pa_nil)) pa_nil)) (blkOk_by (own := [("other", 5)]) (N := ["world", "number", "hand", "found", "known", "other", "wish", "seen"]) (sc := defScope s_p_told_hand) (by decide +kernel)) (fun _ _ _ _ _ => (pg_name (i := 5) sc_p_told_hand.nd rfl (Or.inl rfl))) (fun _ _ _ _ _ => pts_nil) (fun _ _ _ _ _ => (pe_dget2 hu (fldK K (pv 2)) (pv 5) pe_int ⟨rfl, rfl, rfl, rfl⟩)))
      (pss_cons (ps_asg (pe_callB (id := "len") (lenK K) (by rfl) T.n_len (by decide +kernel) (pa_cons (fldK K (pv 2)) pa_nil)) (pg_sub (pv 4) (pv 1) set_list))
      (pss_cons (ps_dput hu (pv 3) pe_str (pe_callTy (T := "tuple") (tupleK K) (by rfl) T.n_tuple (by decide +kernel) (pa_cons (pv 4) pa_nil)) rfl)
      (pss_cons (ps_dput hu (pv 3) pe_str (fldK K (pv 2)) rfl)
      (pss_cons (ps_dput hu (pv 3) pe_str (fldK K (pv 2)) rfl)
      (pss_one (ps_dput hu (pv 3) pe_str (pe_callTy (T := "tuple") (tupleK K) (by rfl) T.n_tuple (by decide +kernel) (pa_cons (pe_lc (own := [("wish", 6), ("seen", 7)]) (g := gTup K 2 (gCons (gName 6) (gCons (gName 7) gNil))) rfl sc_p_told_hand.nd (pi_list (pe_sortedItems rfl (by rfl) T.n_sorted (fldK K (pv 2)))) (blkOk_by (own := [("wish", 6), ("seen", 7)]) (N := ["world", "number", "hand", "found", "known", "other", "wish", "seen"]) (sc := defScope s_p_told_hand) (by decide +kernel)) (fun _ _ _ _ _ => (pg_tup rfl (pgs_cons (pg_name (i := 6) sc_p_told_hand.nd rfl (Or.inl rfl)) (pgs_cons (pg_name (i := 7) sc_p_told_hand.nd rfl (Or.inl rfl)) pgs_nil)))) (fun _ _ _ _ _ => pts_nil) (fun _ _ _ _ _ => (pe_tup (pa_cons (pv 6) (pa_cons (pe_callTy (T := "tuple") (tupleK K) (by rfl) T.n_tuple (by decide +kernel) (pa_cons (pe_callB (id := "sorted") (call_sortedDI rfl) (by rfl) T.n_sorted (by decide +kernel) (pa_cons (pv 7) pa_nil)) pa_nil)) pa_nil))))) pa_nil)) rfl))))))) pss_nil)
      (pss_one (ps_ret (pv 3))))))), ?_⟩
    obtain ⟨p, hp⟩ := W.get hi
    have hps : (L.ps.map V.ref)[i]? = some (.ref p) := by rw [List.getElem?_map, hp]; rfl
    obtain ⟨M, B⟩ := W.at_ hp
    obtain ⟨dx, ob⟩ := B.h.ob
    obtain ⟨dw, qw, yw, wob, _⟩ := W.ob
    have hpl : (L.ps.map V.ref).length = m.hs.length := by rw [List.length_map]; exact W.len
    generalize eN : m.hs.length = N at *
    generalize m.hd i = h at *
    refine ⟨_, rfl, L.w, _, _, _, _, rfl, wob, T.cl_World, T.no_World_hands, fw_hands, _, rfl, _, _, _, _, rfl, rfl, SqL.of W.hs, atI_nat hps, ?_⟩
    intro f hf
    have ob1 : (upd H f (.dK [])) p = _ := same_new hf _ _ ob
    refine ⟨_, rfl, p, _, _, _, _, rfl, ob1, T.cl_Hand, T.no_Hand_term, fl_term, _, rfl, p, _, _, _, _, rfl, ob1, T.cl_Hand, T.no_Hand_vote, fl_vote, _, rfl, p, _, _, _, _, rfl, ob1, T.cl_Hand, T.no_Hand_log, fl_log, _, rfl, p, _, _, _, _, rfl, ob1, T.cl_Hand, T.no_Hand_sure, fl_sure, _, rfl, p, _, _, _, _, rfl, ob1, T.cl_Hand, T.no_Hand_role, fl_role, ?_⟩
    refine ⟨upd_same, [(.inr "term", _), (.inr "vote", _), (.inr "log", _), (.inr "sure", _), (.inr "role", _)], rfl, by show 5 ≤ 15; decide, ?_⟩
    rw [mergeK_lit]
    case h =>
      show ([.inr "term", .inr "vote", .inr "log", .inr "sure", .inr "role"] : List Key).Nodup
      decide +kernel
    rw [upd_upd]
    have s1 := same_new (o := .dK [(.inr "term", (rh h M).term), (.inr "vote", (rh h M).vote), (.inr "log", (rh h M).log), (.inr "sure", (rh h M).sure), (.inr "role", (rh h M).role)]) hf
    have t1 : Td H f (upd H f (.dK [(.inr "term", (rh h M).term), (.inr "vote", (rh h M).vote), (.inr "log", (rh h M).log), (.inr "sure", (rh h M).sure), (.inr "role", (rh h M).role)])) (ds0 h) := by
      refine ⟨s1, hf, _, upd_same, rfl, ?_⟩
      refine ImAll.cons' (im_nat.mpr rfl) (ImAll.cons' (im_vote.mpr rfl) (ImAll.cons' (Im.keep (same_tk s1) _ _ B.h.log) (ImAll.cons' (im_nat.mpr rfl) (ImAll.cons' (im_str.mpr rfl) ImAll.nil'))))
    dsimp only
    refine seq_have (fun σ2 H2 => σ2 = toS L i p f none none none none ∧ Td H f H2 (dsA h)) ?_ (fun key => ?_)
    rotate_left
    · refine ⟨_, rfl, p, _, _, _, _, rfl, s1 _ _ ob, T.cl_Hand, T.no_Hand_role, fl_role, rfl, _, rfl, iteD (fun e => ?_) (fun e => ?_)⟩
      · have er : h.role = .asks := role_iff (k := .asks).mp e
        refine ⟨_, rfl, p, _, _, _, _, rfl, s1 _ _ ob, T.cl_Hand, T.no_Hand_got, fl_got, M.g, _, h.got.map fun n : Nat => (n : Int), rfl, .inl (s1 _ _ B.h.got), ?_, by rw [List.length_map]; exact hg, fun ys lp hperm hsrt hlp => ?_⟩
        · rw [List.map_map, List.map_map]
          rfl
        rw [srt_eq hperm hsrt]
        have e1 : ((srt h.got).map fun n : Nat => (n : Int)).map V.int = (srt h.got).map nv := by rw [List.map_map]; rfl
        rw [e1]
        have s2 := same_new (o := .lst ((srt h.got).map nv)) hlp
        refine ⟨lp, _, rfl, .inl ⟨SqL.of upd_same, fun T0 hT0 => ?_⟩⟩
        have s3 := same_new (o := .tup ((srt h.got).map nv)) hT0
        obtain ⟨H4, dp, t4⟩ := (t1.same (s2.trans s3)).put (k := "got") (d := .tuple ((srt h.got).map natD)) (Im.tup' upd_same (imAll_nats.mpr rfl)) (show ("got" : Str) ∉ (["term", "vote", "log", "sure", "role"] : List Str) by decide +kernel) (by show 5 < 100; decide)
        refine ⟨_, rfl, f, _, rfl, dp, key _ _ ⟨rfl, ?_⟩⟩
        unfold dsA
        rw [if_pos er]
        exact t4
      · have er : ¬ h.role = .asks := fun z => e (role_iff (k := .asks).mpr z)
        refine key _ _ ⟨rfl, ?_⟩
        unfold dsA
        rw [if_neg er, List.append_nil]
        exact t1
    rintro _ H2 ⟨rfl, t2⟩
    refine seq_have (fun σ3 H3 => ∃ a b c d, σ3 = toS L i p f a b c d ∧ Td H f H3 (toldD N i h)) ?_ (fun key => ?_)
    · rintro _ H3 ⟨a, b, c, d, rfl, t3⟩
      exact ⟨_, rfl, fin f H3 t3⟩
    refine ⟨_, rfl, p, _, _, _, _, rfl, t2.sm _ _ ob, T.cl_Hand, T.no_Hand_role, fl_role, rfl, _, rfl, iteD (fun e => ?_) (fun e => ?_)⟩
    rotate_left
    · have er : ¬ h.role = .leads := fun z => e (role_iff (k := .leads).mpr z)
      refine key _ _ ⟨none, none, none, none, rfl, ?_⟩
      rw [told_eq, if_neg er, List.append_nil]
      exact t2
    have er : h.role = .leads := role_iff (k := .leads).mp e
    rw [dsA_leads er] at t2
    refine ⟨_, rfl, L.w, _, _, _, _, rfl, t2.sm _ _ wob, T.cl_World, T.no_World_hands, fw_hands, _, _, rfl, .inl (SqL.of (t2.sm _ _ W.hs)), _, rfl, by omega, by omega, fun D hD => ?_⟩
    rw [hpl, Int.toNat_natCast]
    have sD : ∀ l : List V, Same H2 (upd H2 D (.lst l)) := fun l => same_new hD
    refine lc_it (walk_range (lo := 0) (n := N)) (fun j H3 => H3 = upd H2 D (.lst ((List.range j).map fun o => nv ((alook h.known o).getD 0)))) rfl (fun _ _ _ _ => trivial) ?_ ?_
    · rintro j x _ _ hj rfl ⟨rfl, rfl⟩
      have ek : (valV (h.known.map kn) (.inl (0 + (j : Int)))).getD (.int 0) = nv ((alook h.known j).getD 0) := by
        rw [Int.zero_add, kn_eq, valV_kx]
        cases alook h.known j <;> rfl
      refine ⟨rfl, ?_⟩
      refine ⟨_, rfl, p, _, _, _, _, rfl, (sD _) _ _ (t2.sm _ _ ob), T.cl_Hand, T.no_Hand_known, fl_known, M.k, rfl, .inl ⟨_, .inl ((sD _) _ _ (t2.sm _ _ B.h.kn))⟩, _, rfl, _, DGet.k (k := .inl (0 + (j : Int))) ((sD _) _ _ (t2.sm _ _ B.h.kn)), ?_⟩
      rw [ek]
      refine ⟨_, upd_same, ?_, ?_⟩
      · rw [List.length_map, List.length_range]
        have : (100 : Nat) < sizeLine := by decide
        omega
      · rw [upd_upd, List.range_succ, List.map_append]
        rfl
    rintro _ rfl
    obtain ⟨xs, hx, hlog⟩ := im_logr.mp B.h.log
    have sk := sD ((List.range N).map fun o => nv ((alook h.known o).getD 0))
    refine ⟨_, rfl, p, _, _, _, _, rfl, sk _ _ (t2.sm _ _ ob), T.cl_Hand, T.no_Hand_log, fl_log, _, xs, rfl, .inr (SqT.of (sk _ _ (t2.sm _ _ hx))), _, rfl, _, rfl, D, _, _, i, rfl, rfl, upd_same, ix_nat (by rw [List.length_map, List.length_range]; exact hi), ?_⟩
    rw [upd_upd, hlog.length, set_known]
    have sk2 := sD ((knownD N i h).map nv)
    refine ⟨_, rfl, D, _, rfl, .inl ⟨SqL.of upd_same, fun T0 hT0 => ?_⟩⟩
    have s3 := same_new (o := .tup ((knownD N i h).map nv)) hT0
    obtain ⟨H4, dp4, t4⟩ := (t2.same (sk2.trans s3)).put (k := "known") (d := .tuple ((knownD N i h).map natD)) (Im.tup' upd_same (imAll_nats.mpr rfl)) (show ("known" : Str) ∉ (["term", "vote", "log", "sure", "role"] : List Str) by decide +kernel) (by show 5 < 100; decide)
    refine ⟨_, rfl, f, _, rfl, dp4, ?_⟩
    obtain ⟨H5, dp5, t5⟩ := t4.put (k := "told") (d := natD h.told) (v := nv h.told) (im_nat.mpr rfl) (show ("told" : Str) ∉ (["term", "vote", "log", "sure", "role", "known"] : List Str) by decide +kernel) (by show 6 < 100; decide)
    refine ⟨_, rfl, p, _, _, _, _, rfl, t4.sm _ _ ob, T.cl_Hand, T.no_Hand_told, fl_told, _, rfl, f, _, rfl, dp5, ?_⟩
    obtain ⟨H6, dp6, t6⟩ := t5.put (k := "begun") (d := natD h.begun) (v := nv h.begun) (im_nat.mpr rfl) (show ("begun" : Str) ∉ (["term", "vote", "log", "sure", "role", "known", "told"] : List Str) by decide +kernel) (by show 7 < 100; decide)
    refine ⟨_, rfl, p, _, _, _, _, rfl, t5.sm _ _ ob, T.cl_Hand, T.no_Hand_begun, fl_begun, _, rfl, f, _, rfl, dp6, ?_⟩
    have ews : h.wishes = M.ws.map (mv (Prod.fst (α := List Nat) (β := Addr))) := B.h.ws
    have lws : M.ws.length = h.wishes.length := by rw [ews, List.length_map]
    refine ⟨_, rfl, p, _, _, _, _, rfl, t6.sm _ _ ob, T.cl_Hand, T.no_Hand_wishes, fl_wishes, M.w, M.ws.map (fun x => ((x.1 : Int), V.ref x.2.2)), rfl, ?_, ?_, ?_, fun as l H7 hl s7 hln hlst hnone hnin hpr => ⟨l, rfl, ⟨_, SqL.of hlst⟩, fun D2 hD2 => ?_⟩⟩
    · rw [List.map_map]
      exact t6.sm _ _ B.h.wi
    · rw [ews, List.map_map] at hpw
      rw [List.pairwise_map] at hpw ⊢
      exact hpw.imp fun z => by
        have z : _ < _ := z
        simp only [Function.comp, mv] at z
        omega
    · rw [List.length_map, lws]
      exact hw
    rw [List.length_map] at hl
    refine lc_it (walk_list (xs := as.map V.ref)) (fun j H8 => Same H7 H8 ∧ ∃ acc, H8 D2 = some (.lst acc) ∧ ImAll H8 ((h.wishes.take j).map wishD) acc) ⟨same_new hD2, [], upd_same, ImAll.nil'⟩ ?_ ?_ ?_
    · rintro j H8 _ ⟨s8, _⟩
      exact SqL.of (s8 _ _ hlst)
    · rintro j y _ H8 hj ⟨s8, acc, g1, g2⟩ ⟨rfl, ey⟩
      rw [List.getElem?_map] at ey
      obtain ⟨a, ha, rfl⟩ := Option.map_eq_some_iff.mp ey
      rw [List.length_map, hl] at hj
      have hxj : M.ws[j]? = some M.ws[j] := List.getElem?_eq_getElem hj
      generalize M.ws[j] = x at hxj
      have hxm : x ∈ M.ws := List.mem_of_getElem? hxj
      have hwj : h.wishes[j]? = some (x.1, x.2.1) := by rw [ews, List.getElem?_map, hxj]; rfl
      have hpa := hpr j a ((x.1 : Int), .ref x.2.2) ha (by rw [List.getElem?_map, hxj]; rfl)
      have hset := s8 _ _ (s7 _ _ (t6.sm _ _ (B.h.sn x hxm).1))
      refine ⟨a, _, rfl, SqT.of (s8 _ _ hpa), rfl, _, _, rfl, _, _, rfl, rfl, rfl, ?_⟩
      refine ⟨_, rfl, _, rfl, x.2.2, _, x.2.1.map fun n : Nat => (n : Int), rfl, .inl hset, ?_, ?_, fun ys lp hperm hsrt hlp => ?_⟩
      · rw [List.map_map, List.map_map]
        rfl
      · rw [List.length_map]
        exact hws (x.1, x.2.1) (List.mem_of_getElem? hwj)
      rw [srt_eq hperm hsrt]
      have e1 : ((srt x.2.1).map fun n : Nat => (n : Int)).map V.int = (srt x.2.1).map nv := by rw [List.map_map]; rfl
      rw [e1]
      have s9 := same_new (o := .lst ((srt x.2.1).map nv)) hlp
      refine ⟨lp, _, rfl, .inl ⟨SqL.of upd_same, fun T1 hT1 => ?_⟩⟩
      have s10 := same_new (o := .tup ((srt x.2.1).map nv)) hT1
      refine ⟨by show 2 ≤ sizeLine; decide, fun T2 hT2 => ?_⟩
      have s11 := same_new (o := .tup [nv x.1, .ref T1]) hT2
      have sm := s9.trans (s10.trans s11)
      have g1' := sm _ _ g1
      have nD : T2 ≠ D2 := fun z => by subst z; rw [(s9.trans s10) _ _ g1] at hT2; cases hT2
      have nD1 : T1 ≠ D2 := fun z => by subst z; rw [s9 _ _ g1] at hT1; cases hT1
      refine ⟨acc, g1', ?_, ?_, acc ++ [.ref T2], upd_same, ?_⟩
      · have q1 := g2.length
        rw [List.length_map, List.length_take] at q1
        rw [q1]
        have : (64 : Nat) < sizeLine := by decide
        omega
      · exact fun b o e => by
          have n2 : b ≠ D2 := fun z => by subst z; rw [hD2] at e; cases e
          rw [upd_ne n2]
          exact (s8.trans sm) _ _ e
      · rw [List.take_add_one, hwj, List.map_append]
        have tk : Tk H8 (upd (upd (upd (upd H8 lp (.lst ((srt x.2.1).map nv))) T1 (.tup ((srt x.2.1).map nv))) T2 (.tup [nv x.1, .ref T1])) D2 (.lst (acc ++ [.ref T2]))) := fun b ys e => by
          have n2 : b ≠ D2 := fun z => by subst z; rw [g1] at e; cases e
          rw [upd_ne n2]
          exact sm _ _ e
        refine ImAll.append (ImAll.keep tk _ _ g2) (ImAll.one ?_)
        refine im_t2.mpr ⟨T2, _, _, rfl, by rw [upd_ne nD, upd_same], im_nat.mpr rfl, Im.tup' ?_ (imAll_nats.mpr rfl)⟩
        rw [upd_ne nD1]
        exact s11 _ _ upd_same
    · rintro H8 ⟨s8, acc, g1, g2⟩
      rw [List.length_map, hl, lws, List.take_length] at g2
      refine ⟨D2, _, rfl, .inl ⟨SqL.of g1, fun T3 hT3 => ?_⟩⟩
      have s9 := same_new (o := .tup acc) hT3
      obtain ⟨H9, dp9, t9⟩ := ((t6.same s7).same (s8.trans s9)).put (k := "wishes") (d := .tuple (h.wishes.map wishD)) (Im.tup' upd_same (ImAll.keep (same_tk s9) _ _ g2)) (show ("wishes" : Str) ∉ (["term", "vote", "log", "sure", "role", "known", "told", "begun"] : List Str) by decide +kernel) (by show 8 < 100; decide)
      refine ⟨_, rfl, f, _, rfl, dp9, key _ _ ⟨_, _, _, _, rfl, ?_⟩⟩
      rw [told_eq, if_pos er, dsA_leads er]
      exact t9
end
end Sr

set_option Elab.async false
set_option linter.all false
set_option maxRecDepth 100000
set_option maxHeartbeats 4000000
namespace Sr
open PySem PySem.Spec PyProof.Rows L2
local macro_rules | `(tactic| walk_at "hp") => `(tactic| (unfold upd at *; grind))
section
variable {P : Program} {w : World} {base : Heap} {K : PySem.W.Frag} {mg : Str → Option Value}
theorem wishes_few {rs : List Dd} {pr : Pr} {m : Wd} (hR : Ru pr rs m) (ok : PrOk pr) (ha : m.asked.length ≤ 10) (i : Nat) : (m.hd i).got.length < 64 ∧ (m.hd i).wishes.length < 64 ∧ (∀ y ∈ (m.hd i).wishes, y.2.length < 64) ∧ ((m.hd i).wishes.map (·.1)).Pairwise (· < ·) := by
  obtain ⟨h1, h2⟩ := (hR.few.hd i).len ok.h2
  have f := hR.props.2.2.hd i
  refine ⟨h1, ?_, h2, f.wk⟩
  have := nodup_len m.asked.length ((m.hd i).wishes.map (·.1)) f.nd (fun x hx => by
    obtain ⟨y, hy, rfl⟩ := List.mem_map.mp hx
    exact (f.wl y hy).1)
  rw [List.length_map] at this
  omega
@[irreducible] def spHB (P : Program) (w : World) (K : PySem.W.Frag) : Sp := fun vs H Q _ => ∃ v a pr rs m xs i, vs = [v, .ref a, nv i] ∧ Im H (Pr.data pr) v ∧ PrOk pr ∧ Ru pr rs m ∧ rs.length < big ∧ m.asked.length ≤ 10 ∧ (H a = some (.lst xs) ∨ H a = some (.tup xs)) ∧ ImAll H (rs.map Dd.data) xs ∧ i < pr.hands ∧
  ∀ f H', Td H f H' (toldD pr.hands i (m.hd i)) → Q (.ref f) H'
theorem sc_p_hand_behind : FnScope ["protocol", "run", "hand", "world"] ["protocol", "run", "hand"] (defScope s_p_hand_behind) := ⟨rfl, rfl, rfl, by decide +kernel, rfl, by decide +kernel, by decide +kernel⟩
theorem ok_p_hand_behind (T : Tx w K mg) : FnI P w K mg base "hand_behind" (8 + 1) ["protocol", "run", "hand"] (spHB P w K) := by
  refine FnI.mk' T.f_p_hand_behind T.g_hand_behind sc_p_hand_behind (fun _ _ _ _ _ _ us hl => match us, hl with | [_, _, _], _ => rfl) (fun vs H Q E h => ?_) (fun cdv A outer s H vs Q E hr h => ?_)
  all_goals unfold spHB at h
  · obtain ⟨_, _, _, _, _, _, _, rfl, _⟩ := h
    rfl
  · obtain ⟨v, a, pr, rs, m, xs, i, rfl, hv, ok, hR, hb, has, ha, hxs, hi, fin⟩ := h
    have hu := hu_of hr
    refine ⟨_, (pss_cons (ps_set (i := 3) sc_p_hand_behind.nd rfl (.inl rfl) (pe_callI (ok_p_checked_world (P := P) T) hr (pa_cons (pv 0) (pa_cons (pv 1) pa_nil))))
      (pss_cons (ps_expr (pe_callI (ok_p_check_hand (P := P) T) hr (pa_cons (pv 3) (pa_cons (pv 2) pa_nil))))
      (pss_one (ps_ret (pe_callI (ok_p_told_hand (P := P) T) hr (pa_cons (pv 3) (pa_cons (pv 2) pa_nil))))))), ?_⟩
    refine ⟨_, rfl, _, rfl, ?_⟩
    show spChecked P w K [v, .ref a] H _ _
    refine checked_p hv ok hR hb ha hxs fun L O1 H1 rs1 W1 s1 => ?_
    have hh := hR.props.2.1
    have k2 := ok.h2
    refine ⟨_, rfl, _, rfl, ?_⟩
    show spChkH P w K [.ref L.w, nv i] H1 _ _
    unfold spChkH
    refine ⟨O1, L, m, rs1, i, rfl, W1, by rw [hh]; exact hi, _, rfl, _, rfl, ?_⟩
    show spToldH P w K [.ref L.w, nv i] H1 _ _
    unfold spToldH
    obtain ⟨g1, g2, g3, g4⟩ := wishes_few hR ok has i
    refine ⟨O1, L, m, rs1, i, rfl, W1, by rw [hh]; exact hi, by omega, g1, g2, g3, g4, fun f H2 t => ?_⟩
    rw [hh] at t
    refine fin f H2 ⟨s1.trans t.sm, ?_, t.ex⟩
    cases e : H f with
    | none => rfl
    | some o => have := s1 _ _ e; rw [t.fr] at this; cases this
theorem hb_p {H : Hp} {v : V} {a : Addr} {pr : Pr} {rs : List Dd} {m : Wd} {xs : List V} {i : Nat} {Q : VK} {E : XK} (hv : Im H (Pr.data pr) v) (ok : PrOk pr) (hR : Ru pr rs m) (hb : rs.length < big) (has : m.asked.length ≤ 10) (ha : H a = some (.lst xs) ∨ H a = some (.tup xs)) (hxs : ImAll H (rs.map Dd.data) xs) (hi : i < pr.hands)
    (fin : ∀ f H', Td H f H' (toldD pr.hands i (m.hd i)) → Q (.ref f) H') : spHB P w K [v, .ref a, nv i] H Q E := by
  unfold spHB
  exact ⟨v, a, pr, rs, m, xs, i, rfl, hv, ok, hR, hb, has, ha, hxs, hi, fin⟩
end
end Sr

set_option Elab.async false
set_option linter.all false
set_option maxRecDepth 100000
set_option maxHeartbeats 4000000
namespace Sr
open PySem PySem.Spec PyProof.Rows L2
local macro_rules | `(tactic| walk_at "hp") => `(tactic| (unfold upd at *; grind))
section
variable {P : Program} {w : World} {base : Heap} {K : PySem.W.Frag} {mg : Str → Option Value}
@[irreducible] def spDue : Sp := fun vs H Q _ => ∃ O L m rs i, vs = [.ref (WL.w L), nv i] ∧ WorldIn .law H O L m rs ∧ i < m.hs.length ∧ m.hs.length < 100 ∧ (m.hd i).got.length < 64 ∧ (m.hd i).wishes.length < 64 ∧ (∀ y ∈ (m.hd i).wishes, y.2.length < 64) ∧ ((m.hd i).wishes.map (·.1)).Pairwise (· < ·) ∧
  ∀ f H', Td H f H' (toldD m.hs.length i (m.hd i)) → Q (.ref f) H'
theorem sc_l_due : FnScope ["_law_world_here", "_law_number_here", "_law_hand_here", "_law_found", "_law_known", "_law_other", "_law_wish", "_law_seen"] ["_law_world_here", "_law_number_here"] (defScope s_l_due) := ⟨rfl, rfl, rfl, by decide +kernel, rfl, by decide +kernel, by decide +kernel⟩
theorem ok_l_due (T : Tx w K mg) : FnI P w K mg base "_law_due" (0 + 1) ["_law_world_here", "_law_number_here"] spDue := by
  refine FnI.mk' T.f_l_due T.g_l_due sc_l_due (fun _ _ _ _ _ _ us hl => match us, hl with | [_, _], _ => rfl) (fun vs H Q E h => ?_) (fun cdv A outer s H vs Q E hr h => ?_)
  all_goals unfold spDue at h
  · obtain ⟨_, _, _, _, _, rfl, _⟩ := h
    rfl
  · obtain ⟨O, L, m, rs, i, rfl, W, hi, hn, hg, hw, hws, hpw, fin⟩ := h
    have hu := hu_of hr
    refine ⟨_, (pss_cons (ps_set (i := 2) sc_l_due.nd rfl (.inr rfl) (pe_ix (ixL K) (pe_dget hu (pv 0) pe_str (fun _ _ => rfl)) (pv 1) (fun _ _ => rfl)))
      (pss_cons (ps_set (i := 3) sc_l_due.nd rfl (.inl rfl) (pe_disp (pps_cons pe_str (pe_dget hu (pv 2) pe_str (fun _ _ => rfl)) (pps_cons pe_str (pe_dget hu (pv 2) pe_str (fun _ _ => rfl)) (pps_cons pe_str (pe_dget hu (pv 2) pe_str (fun _ _ => rfl)) (pps_cons pe_str (pe_dget hu (pv 2) pe_str (fun _ _ => rfl)) (pps_cons pe_str (pe_dget hu (pv 2) pe_str (fun _ _ => rfl)) pps_nil))))) (by rfl) (by rfl) (fun z => by cases z) (by decide)))
      (pss_cons (ps_if (pt_cmpR op_eq (pe_dget hu (pv 2) pe_str (fun _ _ => rfl)) pe_str (nomark _)) (pss_one (ps_dput hu (pv 3) pe_str (pe_callTy (T := "tuple") (tupleK K) (by rfl) T.n_tuple (by decide +kernel) (pa_cons (pe_callB (id := "sorted") (sortedK K) (by rfl) T.n_sorted (by decide +kernel) (pa_cons (pe_dget hu (pv 2) pe_str (fun _ _ => rfl)) pa_nil)) pa_nil)) rfl)) pss_nil)
      (pss_cons (ps_if (pt_cmpR op_eq (pe_dget hu (pv 2) pe_str (fun _ _ => rfl)) pe_str (nomark _)) (pss_cons (ps_setLc (i := 4) (own := [("_law_other", 5)]) (g := gName 5) rfl sc_l_due.nd rfl rfl (sw_true rfl rfl rfl (by decide +kernel)) (pi_range1 (by rfl) T.n_range (pa_cons (pe_callB (id := "len") (lenK K) (by rfl) T.n_len (by decide +kernel) (pa_cons (pe_dget hu (pv 0) pe_str (fun _ _ => rfl)) pa_nil)) pa_nil)) (blkOk_by (own := [("_law_other", 5)]) (N := ["_law_world_here", "_law_number_here", "_law_hand_here", "_law_found", "_law_known", "_law_other", "_law_wish", "_law_seen"]) (sc := defScope s_l_due) (by decide +kernel)) (fun _ _ _ _ _ => (pg_name (i := 5) sc_l_due.nd rfl (Or.inl rfl))) (fun _ _ _ _ _ => pts_nil) (fun _ _ _ _ _ => (pe_dget2 hu (pe_dget hu (pv 2) pe_str (fun _ _ => rfl)) (pv 5) pe_int ⟨rfl, rfl, rfl, rfl⟩)))
      (pss_cons (ps_asg (pe_callB (id := "len") (lenK K) (by rfl) T.n_len (by decide +kernel) (pa_cons (pe_dget hu (pv 2) pe_str (fun _ _ => rfl)) pa_nil)) (pg_sub (pv 4) (pv 1) set_list))
      (pss_cons (ps_asg (pe_tup (pa_cons (pe_callTy (T := "tuple") (tupleK K) (by rfl) T.n_tuple (by decide +kernel) (pa_cons (pv 4) pa_nil)) (pa_cons (pe_dget hu (pv 2) pe_str (fun _ _ => rfl)) (pa_cons (pe_dget hu (pv 2) pe_str (fun _ _ => rfl)) pa_nil)))) (pg_tup rfl (pgs_cons (pg_sub (pv 3) pe_str (set_dict hu)) (pgs_cons (pg_sub (pv 3) pe_str (set_dict hu)) (pgs_cons (pg_sub (pv 3) pe_str (set_dict hu)) pgs_nil)))))
      (pss_one (ps_dput hu (pv 3) pe_str (pe_callTy (T := "tuple") (tupleK K) (by rfl) T.n_tuple (by decide +kernel) (pa_cons (pe_lc (own := [("_law_wish", 6), ("_law_seen", 7)]) (g := gTup K 2 (gCons (gName 6) (gCons (gName 7) gNil))) rfl sc_l_due.nd (pi_list (pe_sortedItems rfl (by rfl) T.n_sorted (pe_dget hu (pv 2) pe_str (fun _ _ => rfl)))) (blkOk_by (own := [("_law_wish", 6), ("_law_seen", 7)]) (N := ["_law_world_here", "_law_number_here", "_law_hand_here", "_law_found", "_law_known", "_law_other", "_law_wish", "_law_seen"]) (sc := defScope s_l_due) (by decide +kernel)) (fun _ _ _ _ _ => (pg_tup rfl (pgs_cons (pg_name (i := 6) sc_l_due.nd rfl (Or.inl rfl)) (pgs_cons (pg_name (i := 7) sc_l_due.nd rfl (Or.inl rfl)) pgs_nil)))) (fun _ _ _ _ _ => pts_nil) (fun _ _ _ _ _ => (pe_tup (pa_cons (pv 6) (pa_cons (pe_callTy (T := "tuple") (tupleK K) (by rfl) T.n_tuple (by decide +kernel) (pa_cons (pe_callB (id := "sorted") (sortedK K) (by rfl) T.n_sorted (by decide +kernel) (pa_cons (pv 7) pa_nil)) pa_nil)) pa_nil))))) pa_nil)) rfl))))) pss_nil)
      (pss_one (ps_ret (pv 3))))))), ?_⟩
    obtain ⟨p, hp⟩ := W.get hi
    have hps : (L.ps.map V.ref)[i]? = some (.ref p) := by rw [List.getElem?_map, hp]; rfl
    obtain ⟨M, B⟩ := W.at_ hp
    have ob := B.obL
    have wob : H L.w = some (.dK (lawKvs L)) := W.ob
    have hpl : (L.ps.map V.ref).length = m.hs.length := by rw [List.length_map]; exact W.len
    generalize eN : m.hs.length = N at *
    generalize m.hd i = h at *
    refine ⟨_, rfl, L.w, _, rfl, dw_hands (wob), _, rfl, _, _, _, _, rfl, rfl, SqL.of W.hs, atI_nat hps, ?_⟩
    intro f hf
    have ob1 : (upd H f (.dK [])) p = _ := same_new hf _ _ ob
    refine ⟨_, rfl, p, _, rfl, dg_term (ob1), _, rfl, p, _, rfl, dg_vote (ob1), _, rfl, p, _, rfl, dg_log (ob1), _, rfl, p, _, rfl, dg_sure (ob1), _, rfl, p, _, rfl, dg_role (ob1), ?_⟩
    refine ⟨upd_same, [(.inr "term", _), (.inr "vote", _), (.inr "log", _), (.inr "sure", _), (.inr "role", _)], rfl, by show 5 ≤ 15; decide, ?_⟩
    rw [mergeK_lit]
    case h =>
      show ([.inr "term", .inr "vote", .inr "log", .inr "sure", .inr "role"] : List Key).Nodup
      decide +kernel
    rw [upd_upd]
    have s1 := same_new (o := .dK [(.inr "term", (rh h M).term), (.inr "vote", (rh h M).vote), (.inr "log", (rh h M).log), (.inr "sure", (rh h M).sure), (.inr "role", (rh h M).role)]) hf
    have t1 : Td H f (upd H f (.dK [(.inr "term", (rh h M).term), (.inr "vote", (rh h M).vote), (.inr "log", (rh h M).log), (.inr "sure", (rh h M).sure), (.inr "role", (rh h M).role)])) (ds0 h) := by
      refine ⟨s1, hf, _, upd_same, rfl, ?_⟩
      refine ImAll.cons' (im_nat.mpr rfl) (ImAll.cons' (im_vote.mpr rfl) (ImAll.cons' (Im.keep (same_tk s1) _ _ B.h.log) (ImAll.cons' (im_nat.mpr rfl) (ImAll.cons' (im_str.mpr rfl) ImAll.nil'))))
    dsimp only
    refine seq_have (fun σ2 H2 => σ2 = toS L i p f none none none none ∧ Td H f H2 (dsA h)) ?_ (fun key => ?_)
    rotate_left
    · refine ⟨_, rfl, p, _, rfl, dg_role (s1 _ _ ob), rfl, _, rfl, iteD (fun e => ?_) (fun e => ?_)⟩
      · have er : h.role = .asks := role_iff (k := .asks).mp e
        refine ⟨_, rfl, p, _, rfl, dg_got (s1 _ _ ob), M.g, h.got.map fun n : Nat => (n : Int), rfl, ?_, by rw [List.length_map]; exact hg, fun ys lp hperm hsrt hlp => ?_⟩
        · rw [List.map_map]
          exact SqL.of (s1 _ _ B.h.got)
        rw [srt_eq hperm hsrt]
        have e1 : ((srt h.got).map fun n : Nat => (n : Int)).map V.int = (srt h.got).map nv := by rw [List.map_map]; rfl
        rw [e1]
        have s2 := same_new (o := .lst ((srt h.got).map nv)) hlp
        refine ⟨lp, _, rfl, .inl ⟨SqL.of upd_same, fun T0 hT0 => ?_⟩⟩
        have s3 := same_new (o := .tup ((srt h.got).map nv)) hT0
        obtain ⟨H4, dp, t4⟩ := (t1.same (s2.trans s3)).put (k := "got") (d := .tuple ((srt h.got).map natD)) (Im.tup' upd_same (imAll_nats.mpr rfl)) (show ("got" : Str) ∉ (["term", "vote", "log", "sure", "role"] : List Str) by decide +kernel) (by show 5 < 100; decide)
        refine ⟨_, rfl, f, _, rfl, dp, key _ _ ⟨rfl, ?_⟩⟩
        unfold dsA
        rw [if_pos er]
        exact t4
      · have er : ¬ h.role = .asks := fun z => e (role_iff (k := .asks).mpr z)
        refine key _ _ ⟨rfl, ?_⟩
        unfold dsA
        rw [if_neg er, List.append_nil]
        exact t1
    rintro _ H2 ⟨rfl, t2⟩
    refine seq_have (fun σ3 H3 => ∃ a b c d, σ3 = toS L i p f a b c d ∧ Td H f H3 (toldD N i h)) ?_ (fun key => ?_)
    · rintro _ H3 ⟨a, b, c, d, rfl, t3⟩
      exact ⟨_, rfl, fin f H3 t3⟩
    refine ⟨_, rfl, p, _, rfl, dg_role (t2.sm _ _ ob), rfl, _, rfl, iteD (fun e => ?_) (fun e => ?_)⟩
    rotate_left
    · have er : ¬ h.role = .leads := fun z => e (role_iff (k := .leads).mpr z)
      refine key _ _ ⟨none, none, none, none, rfl, ?_⟩
      rw [told_eq, if_neg er, List.append_nil]
      exact t2
    have er : h.role = .leads := role_iff (k := .leads).mp e
    rw [dsA_leads er] at t2
    refine ⟨_, rfl, L.w, _, rfl, dw_hands (t2.sm _ _ wob), _, _, rfl, .inl (SqL.of (t2.sm _ _ W.hs)), _, rfl, by omega, by omega, fun D hD => ?_⟩
    rw [hpl, Int.toNat_natCast]
    have sD : ∀ l : List V, Same H2 (upd H2 D (.lst l)) := fun l => same_new hD
    refine lc_it (walk_range (lo := 0) (n := N)) (fun j H3 => H3 = upd H2 D (.lst ((List.range j).map fun o => nv ((alook h.known o).getD 0)))) rfl (fun _ _ _ _ => trivial) ?_ ?_
    · rintro j x _ _ hj rfl ⟨rfl, rfl⟩
      have ek : (valV (h.known.map kn) (.inl (0 + (j : Int)))).getD (.int 0) = nv ((alook h.known j).getD 0) := by
        rw [Int.zero_add, kn_eq, valV_kx]
        cases alook h.known j <;> rfl
      refine ⟨rfl, ?_⟩
      refine ⟨_, rfl, p, _, rfl, dg_known ((sD _) _ _ (t2.sm _ _ ob)), M.k, rfl, .inl ⟨_, .inl ((sD _) _ _ (t2.sm _ _ B.h.kn))⟩, _, rfl, _, DGet.k (k := .inl (0 + (j : Int))) ((sD _) _ _ (t2.sm _ _ B.h.kn)), ?_⟩
      rw [ek]
      refine ⟨_, upd_same, ?_, ?_⟩
      · rw [List.length_map, List.length_range]
        have : (100 : Nat) < sizeLine := by decide
        omega
      · rw [upd_upd, List.range_succ, List.map_append]
        rfl
    rintro _ rfl
    obtain ⟨xs, hx, hlog⟩ := im_logr.mp B.h.log
    have sk := sD ((List.range N).map fun o => nv ((alook h.known o).getD 0))
    refine ⟨_, rfl, p, _, rfl, dg_log (sk _ _ (t2.sm _ _ ob)), _, xs, rfl, .inr (SqT.of (sk _ _ (t2.sm _ _ hx))), _, rfl, _, rfl, D, _, _, i, rfl, rfl, upd_same, ix_nat (by rw [List.length_map, List.length_range]; exact hi), ?_⟩
    rw [upd_upd, hlog.length, set_known]
    have sk2 := sD ((knownD N i h).map nv)
    refine ⟨_, rfl, D, _, rfl, .inl ⟨SqL.of upd_same, fun T0 hT0 => ?_⟩⟩
    have s3 := same_new (o := .tup ((knownD N i h).map nv)) hT0
    have ob3 := (sk2.trans s3) _ _ (t2.sm _ _ ob)
    refine ⟨_, rfl, p, _, rfl, dg_told ob3, _, rfl, p, _, rfl, dg_begun ob3, by show 3 ≤ sizeLine; decide, fun T9 hT9 => ?_⟩
    have s9 := same_new (o := .tup [.ref T0, nv h.told, nv h.begun]) hT9
    obtain ⟨H4, dp4, t4⟩ := (t2.same (sk2.trans (s3.trans s9))).put (k := "known") (d := .tuple ((knownD N i h).map natD)) (Im.tup' (s9 _ _ upd_same) (imAll_nats.mpr rfl)) (show ("known" : Str) ∉ (["term", "vote", "log", "sure", "role"] : List Str) by decide +kernel) (by show 5 < 100; decide)
    obtain ⟨H5, dp5, t5⟩ := t4.put (k := "told") (d := natD h.told) (v := nv h.told) (im_nat.mpr rfl) (show ("told" : Str) ∉ (["term", "vote", "log", "sure", "role", "known"] : List Str) by decide +kernel) (by show 6 < 100; decide)
    obtain ⟨H6, dp6, t6⟩ := t5.put (k := "begun") (d := natD h.begun) (v := nv h.begun) (im_nat.mpr rfl) (show ("begun" : Str) ∉ (["term", "vote", "log", "sure", "role", "known", "told"] : List Str) by decide +kernel) (by show 7 < 100; decide)
    refine ⟨T9, _, rfl, SqT.of upd_same, rfl, _, _, rfl, _, rfl, f, _, rfl, dp4, _, _, rfl, _, rfl, f, _, rfl, dp5, _, _, rfl, _, rfl, f, _, rfl, dp6, rfl, ?_⟩
    have ews : h.wishes = M.ws.map (mv (Prod.fst (α := List Nat) (β := Addr))) := B.h.ws
    have lws : M.ws.length = h.wishes.length := by rw [ews, List.length_map]
    refine ⟨_, rfl, p, _, rfl, dg_wishes (t6.sm _ _ ob), M.w, M.ws.map (fun x => ((x.1 : Int), V.ref x.2.2)), rfl, ?_, ?_, ?_, fun as l H7 hl s7 hln hlst hnone hnin hpr => ⟨l, rfl, ⟨_, SqL.of hlst⟩, fun D2 hD2 => ?_⟩⟩
    · rw [List.map_map]
      exact t6.sm _ _ B.h.wi
    · rw [ews, List.map_map] at hpw
      rw [List.pairwise_map] at hpw ⊢
      exact hpw.imp fun z => by
        have z : _ < _ := z
        simp only [Function.comp, mv] at z
        omega
    · rw [List.length_map, lws]
      exact hw
    rw [List.length_map] at hl
    refine lc_it (walk_list (xs := as.map V.ref)) (fun j H8 => Same H7 H8 ∧ ∃ acc, H8 D2 = some (.lst acc) ∧ ImAll H8 ((h.wishes.take j).map wishD) acc) ⟨same_new hD2, [], upd_same, ImAll.nil'⟩ ?_ ?_ ?_
    · rintro j H8 _ ⟨s8, _⟩
      exact SqL.of (s8 _ _ hlst)
    · rintro j y _ H8 hj ⟨s8, acc, g1, g2⟩ ⟨rfl, ey⟩
      rw [List.getElem?_map] at ey
      obtain ⟨a, ha, rfl⟩ := Option.map_eq_some_iff.mp ey
      rw [List.length_map, hl] at hj
      have hxj : M.ws[j]? = some M.ws[j] := List.getElem?_eq_getElem hj
      generalize M.ws[j] = x at hxj
      have hxm : x ∈ M.ws := List.mem_of_getElem? hxj
      have hwj : h.wishes[j]? = some (x.1, x.2.1) := by rw [ews, List.getElem?_map, hxj]; rfl
      have hpa := hpr j a ((x.1 : Int), .ref x.2.2) ha (by rw [List.getElem?_map, hxj]; rfl)
      have hset := s8 _ _ (s7 _ _ (t6.sm _ _ (B.h.sn x hxm).1))
      refine ⟨a, _, rfl, SqT.of (s8 _ _ hpa), rfl, _, _, rfl, _, _, rfl, rfl, rfl, ?_⟩
      refine ⟨_, rfl, _, rfl, x.2.2, x.2.1.map fun n : Nat => (n : Int), rfl, ?_, ?_, fun ys lp hperm hsrt hlp => ?_⟩
      · rw [List.map_map]
        exact SqL.of hset
      · rw [List.length_map]
        exact hws (x.1, x.2.1) (List.mem_of_getElem? hwj)
      rw [srt_eq hperm hsrt]
      have e1 : ((srt x.2.1).map fun n : Nat => (n : Int)).map V.int = (srt x.2.1).map nv := by rw [List.map_map]; rfl
      rw [e1]
      have s9 := same_new (o := .lst ((srt x.2.1).map nv)) hlp
      refine ⟨lp, _, rfl, .inl ⟨SqL.of upd_same, fun T1 hT1 => ?_⟩⟩
      have s10 := same_new (o := .tup ((srt x.2.1).map nv)) hT1
      refine ⟨by show 2 ≤ sizeLine; decide, fun T2 hT2 => ?_⟩
      have s11 := same_new (o := .tup [nv x.1, .ref T1]) hT2
      have sm := s9.trans (s10.trans s11)
      have g1' := sm _ _ g1
      have nD : T2 ≠ D2 := fun z => by subst z; rw [(s9.trans s10) _ _ g1] at hT2; cases hT2
      have nD1 : T1 ≠ D2 := fun z => by subst z; rw [s9 _ _ g1] at hT1; cases hT1
      refine ⟨acc, g1', ?_, ?_, acc ++ [.ref T2], upd_same, ?_⟩
      · have q1 := g2.length
        rw [List.length_map, List.length_take] at q1
        rw [q1]
        have : (64 : Nat) < sizeLine := by decide
        omega
      · exact fun b o e => by
          have n2 : b ≠ D2 := fun z => by subst z; rw [hD2] at e; cases e
          rw [upd_ne n2]
          exact (s8.trans sm) _ _ e
      · rw [List.take_add_one, hwj, List.map_append]
        have tk : Tk H8 (upd (upd (upd (upd H8 lp (.lst ((srt x.2.1).map nv))) T1 (.tup ((srt x.2.1).map nv))) T2 (.tup [nv x.1, .ref T1])) D2 (.lst (acc ++ [.ref T2]))) := fun b ys e => by
          have n2 : b ≠ D2 := fun z => by subst z; rw [g1] at e; cases e
          rw [upd_ne n2]
          exact sm _ _ e
        refine ImAll.append (ImAll.keep tk _ _ g2) (ImAll.one ?_)
        refine im_t2.mpr ⟨T2, _, _, rfl, by rw [upd_ne nD, upd_same], im_nat.mpr rfl, Im.tup' ?_ (imAll_nats.mpr rfl)⟩
        rw [upd_ne nD1]
        exact s11 _ _ upd_same
    · rintro H8 ⟨s8, acc, g1, g2⟩
      rw [List.length_map, hl, lws, List.take_length] at g2
      refine ⟨D2, _, rfl, .inl ⟨SqL.of g1, fun T3 hT3 => ?_⟩⟩
      have s9 := same_new (o := .tup acc) hT3
      obtain ⟨H9, dp9, t9⟩ := ((t6.same s7).same (s8.trans s9)).put (k := "wishes") (d := .tuple (h.wishes.map wishD)) (Im.tup' upd_same (ImAll.keep (same_tk s9) _ _ g2)) (show ("wishes" : Str) ∉ (["term", "vote", "log", "sure", "role", "known", "told", "begun"] : List Str) by decide +kernel) (by show 8 < 100; decide)
      refine ⟨_, rfl, f, _, rfl, dp9, key _ _ ⟨_, _, _, _, rfl, ?_⟩⟩
      rw [told_eq, if_pos er, dsA_leads er]
      exact t9
end
end Sr

set_option Elab.async false
set_option linter.all false
set_option maxRecDepth 100000
set_option maxHeartbeats 4000000
namespace Sr
open PySem PySem.Spec PyProof.Rows L2
local macro_rules | `(tactic| walk_at "hp") => `(tactic| (unfold upd at *; grind))
section
variable {P : Program} {w : World} {base : Heap} {K : PySem.W.Frag} {mg : Str → Option Value}
set_option pp.maxSteps 1500
theorem due_w {O : Own} {H : Hp} {L : WL} {m : Wd} {rs : List Dd} {i : Nat} {Q : VK} {E : XK} (W : WorldIn .law H O L m rs) (hi : i < m.hs.length) (hn : m.hs.length < 100) (g1 : (m.hd i).got.length < 64) (g2 : (m.hd i).wishes.length < 64) (g3 : ∀ y ∈ (m.hd i).wishes, y.2.length < 64) (g4 : ((m.hd i).wishes.map (·.1)).Pairwise (· < ·))
    (fin : ∀ f H', Td H f H' (toldD m.hs.length i (m.hd i)) → Q (.ref f) H') : spDue [.ref L.w, nv i] H Q E := by
  unfold spDue
  exact ⟨O, L, m, rs, i, rfl, W, hi, hn, g1, g2, g3, g4, fin⟩
theorem due_w0 {O : Own} {H : Hp} {L : WL} {m : Wd} {rs : List Dd} {i : Nat} {Q : VK} {E : XK} (W : WorldIn .law H O L m rs) (hi : i < m.hs.length) (hn : m.hs.length < 100) (g1 : (m.hd i).got.length < 64) (g2 : (m.hd i).wishes.length < 64) (g3 : ∀ y ∈ (m.hd i).wishes, y.2.length < 64) (g4 : ((m.hd i).wishes.map (·.1)).Pairwise (· < ·))
    (fin : ∀ f H', Td H f H' (toldD m.hs.length i (m.hd i)) → Q (.ref f) H') : spDue [.ref L.w, .int (0 + (i : Int))] H Q E := by
  rw [Int.zero_add]
  exact due_w W hi hn g1 g2 g3 g4 fin
/-! two dicts of the same data -/
theorem tl_match {H : Hp} : ∀ {ds : List (Str × PyData)} {ks ls : List (Key × V)}, Tl H ks ds → Tl H ls ds → (ds.map (·.1)).Nodup → ∀ p ∈ ks, ∃ u d, valV ls p.1 = some u ∧ Im H d p.2 ∧ Im H d u ∧ d ∈ ds.map (·.2)
  | [], ks, ls, a, _, _ => fun p hp => by
    have : ks = [] := List.map_eq_nil_iff.mp a.1
    rw [this] at hp
    cases hp
  | d :: ds, ks, ls, a, b, nd => fun p hp => by
    obtain ⟨a1, a2⟩ := a
    obtain ⟨b1, b2⟩ := b
    cases ks with
    | nil => cases hp
    | cons k ks =>
      cases ls with
      | nil => simp at b1
      | cons l ls =>
        simp only [List.map_cons, List.cons.injEq] at a1 b1
        simp only [List.map_cons, ImAll] at a2 b2
        obtain ⟨v1, r1, e1, c1, c2⟩ := a2
        obtain ⟨v2, r2, e2, d1, d2⟩ := b2
        cases e1
        cases e2
        rw [List.map_cons, List.nodup_cons] at nd
        rcases List.mem_cons.mp hp with rfl | z
        · refine ⟨l.2, d.2, ?_, c1, d1, by simp⟩
          unfold valV
          rw [List.find?_cons, decide_eq_true (b1.1.trans a1.1.symm)]
          rfl
        · obtain ⟨u, x, h1, h2, h3, h4⟩ := tl_match ⟨a1.2, c2⟩ ⟨b1.2, d2⟩ nd.2 p z
          refine ⟨u, x, ?_, h2, h3, by rw [List.map_cons]; exact List.mem_cons_of_mem _ h4⟩
          unfold valV at h1 ⊢
          rw [List.find?_cons]
          have hne : ¬ l.1 = p.1 := fun e => by
            have hm : p.1 ∈ ks.map (·.1) := List.mem_map_of_mem z
            rw [a1.2] at hm
            obtain ⟨y, hy, e3⟩ := List.mem_map.mp hm
            have e4 : (Sum.inr d.1 : Key) = Sum.inr y.1 := b1.1.symm.trans (e.trans e3.symm)
            have e5 : d.1 = y.1 := Sum.inr.inj e4
            exact nd.1 (by rw [e5]; exact List.mem_map_of_mem hy)
          rw [decide_eq_false hne]
          exact h1
theorem told_keys (n i : Nat) (h : Hd) : ((toldD n i h).map (·.1)).Nodup ∧ (toldD n i h).length ≤ 10 := by
  unfold toldD
  split <;> split <;> refine ⟨?_, by simp⟩ <;> simp only [List.map_cons, List.map_nil, List.map_append, List.append_nil, List.cons_append, List.nil_append] <;> decide +kernel
theorem told_strs (n i : Nat) (h : Hd) : ShAll 0 (((toldD n i h).map (·.1)).map PyData.str) := by
  unfold toldD
  split <;> split <;> simp only [List.map_cons, List.map_nil, List.map_append, List.append_nil, List.cons_append, List.nil_append] <;> repeat (first | exact .nil | refine .cons (sh_str (by decide +kernel)) ?_)
theorem told_sh (n i : Nat) (h : Hd) : ∀ d ∈ (toldD n i h).map (·.2), Sh 5 d := by
  have r : ∀ k : Nat, Sh k (.str h.role.str) := fun k => sh_str (by cases h.role <;> decide +kernel)
  have w1 : ∀ p : Nat × List Nat, Sh 2 (wishD p) := fun p => sh_tup (.cons sh_nat (.cons (sh_tup (n := 0) (.map (fun _ => sh_nat) _)) .nil))
  intro d hd
  rw [told_eq] at hd
  unfold dsA ds0 at hd
  simp only [List.map_append, List.map_cons, List.map_nil, List.mem_append, List.mem_cons, List.not_mem_nil, or_false] at hd
  rcases hd with ((rfl | rfl | rfl | rfl | rfl) | hd) | hd
  · exact sh_nat
  · exact sh_vote _
  · exact (sh_log (n := 0) _).wide (by decide)
  · exact sh_nat
  · exact r _
  · split at hd
    · simp only [List.map_cons, List.map_nil, List.mem_singleton] at hd
      subst hd
      exact (sh_tup (n := 0) (.map (fun _ => sh_nat) _)).wide (by decide)
    · cases hd
  · split at hd
    · simp only [List.map_cons, List.map_nil, List.mem_cons, List.not_mem_nil, or_false] at hd
      rcases hd with rfl | rfl | rfl | rfl
      · exact (sh_tup (n := 0) (.map (fun _ => sh_nat) _)).wide (by decide)
      · exact sh_nat
      · exact sh_nat
      · exact (sh_tup (n := 2) (.map w1 _)).wide (by decide)
    · cases hd
theorem keys_im {H : Hp} {kvs : List (Key × V)} {ds : List (Str × PyData)} (t : Tl H kvs ds) : kvs.map (fun kv => kV kv.1) = (ds.map (·.1)).map V.str := by
  have := congrArg (List.map kV) t.1
  rw [List.map_map, List.map_map] at this
  rw [List.map_map]
  exact this
theorem cut_ints (ns : List Int) (lo hi : Option Int) : ∃ zs : List Int, cutV (ns.map V.int) lo hi = zs.map V.int := by
  unfold cutV
  rw [← List.map_drop, ← List.map_take]
  exact ⟨_, rfl⟩
def laS (a dw : Addr) (x1 x2 x3 x4 x5 x6 x7 : Option V) : L2.St := [some (.ref a), some (.ref dw), x1, x2, x3, x4, x5, x6, x7]
theorem sh_ltl (l : List Lt) : SeqAt.shaped (.list (l.map Lt.data)) = true := (sh_list (.map sh_lt _)).ok
theorem lst_dp {K : PySem.W.Frag} {H : Hp} {a : Addr} {vs : List V} {ds : List PyData} (h : H a = some (.lst vs)) (i : ImAll H ds vs) : Dp K H (.ref a) (.list ds) := .lst (SqL.of h) (ImAll.dp _ _ i)
/-- two lists of the same data do not differ -/
theorem ne_lists {K : PySem.W.Frag} {H : Hp} {a b : Addr} {vs us : List V} {ds : List PyData} {Q : VK} {n : Nat} (h : H a = some (.lst vs)) (i : ImAll H ds vs) (h' : H b = some (.lst us)) (i' : ImAll H ds us) (s : ShAll n ds) (hn : n + 1 ≤ 64) (k : Q (.bl false) H) : rNeD K (.ref a) (.ref b) H Q := by
  have so : SeqAt.shaped (.list ds) = true := (sh_list s).ok hn
  refine ⟨.list ds, .list ds, lst_dp h i, lst_dp h' i', so, so, ?_⟩
  rw [SeqAt.eqv_refl _ (sh_list s).1]
  exact k
@[irreducible] def spLaw (K : PySem.W.Frag) : Sp := fun vs H Q _ => ∃ (a : Addr) (ns : List Int), vs = [.ref a] ∧ SqL K H a (List.map V.int ns) ∧ ∀ H', Q (.bl true) H'
theorem sc_l_law : FnScope ["_law_script", "_law_draw_here", "_law_turn", "_law_protocol_here", "_law_world_here", "_law_run_here", "_law_hand_here", "_law_found", "_law_due_here"] ["_law_script"] (defScope s_l_law) := ⟨rfl, rfl, rfl, by decide +kernel, rfl, by decide +kernel, by decide +kernel⟩
theorem ok_l_law (T : Tx w K mg) {fd : FuncData} (F : FunD K "law" "law" (defArgs s_l_law) (defBody s_l_law) (defScope s_l_law) [] [] (He.ga K "law") fd) : FnOk P w K mg base CX0 (20 + 1) (He.ga K "law") fd ["_law_script"] (spLaw K) := by
  refine fnOk_mk F sc_l_law (fun vs H Q E h => ?_) (fun cdv A outer s H vs Q E hr h => ?_)
  all_goals unfold spLaw at h
  · obtain ⟨_, _, rfl, _⟩ := h
    rfl
  · obtain ⟨a, ns, rfl, ha, fin⟩ := h
    have hu := hu_of hr
    have hu64 := hr.units
    have hu65 := room65 hr
    refine ⟨_, (pss_cons (ps_set (i := 1) sc_l_law.nd rfl (.inl rfl) (pe_lst (pa_cons (pe_slice (slL K) (pv 0) po_none (po_some pe_int)) (pa_cons pe_int (pa_cons pe_int pa_nil)))))
      (pss_cons (ps_for PassesOwn.never rfl (pi_range1 (by rfl) T.n_range (pa_cons pe_int pa_nil)) (pg_name (i := 2) sc_l_law.nd rfl (Or.inl rfl)) (pss_cons (ps_set (i := 3) sc_l_law.nd rfl (.inl rfl) (pe_ifExp (pt_cmpR op_eq (pv 2) pe_int (nomark _)) (pe_callI (ok_l_good T) hr (pa_cons (pv 1) (pa_cons pe_int pa_nil))) (pe_callI (ok_l_protocol T) hr (pa_cons (pv 1) (pa_cons pe_int (pa_cons pe_int pa_nil))))))
      (pss_cons (ps_set (i := 4) sc_l_law.nd rfl (.inl rfl) (pe_callI (ok_l_run T) hr (pa_cons (pv 1) (pa_cons (pv 3) (pa_cons pe_int pa_nil)))))
      (pss_cons (ps_set (i := 5) sc_l_law.nd rfl (.inl rfl) (pe_dget hu (pv 4) pe_str (fun _ _ => rfl)))
      (pss_cons (ps_for PassesOwn.never rfl (pi_range1 (by rfl) T.n_range (pa_cons (pe_ix (ixT K) (pv 3) pe_int (fun _ _ => rfl)) pa_nil)) (pg_name (i := 6) sc_l_law.nd rfl (Or.inl rfl)) (pss_cons (ps_par (i := 7) (j := 8) rfl sc_l_law.nd rfl rfl (by decide) rfl rfl (pa_cons (pe_callI (ok_p_hand_behind (P := P) T) hr (pa_cons (pv 3) (pa_cons (pv 5) (pa_cons (pv 6) pa_nil)))) (pa_cons (pe_callI (ok_l_due T) hr (pa_cons (pv 4) (pa_cons (pv 6) pa_nil))) pa_nil)) rfl)
      (pss_one (ps_if (pw_or (pt_cmpR (op_neKd hu65) (pv 7) (pv 8) (nomark _)) (pw_or1 (pt_cmpR (op_neD hu64) (pe_callTy (T := "list") (call_listD rfl) (by rfl) T.n_list (by decide +kernel) (pa_cons (pv 7) pa_nil)) (pe_callTy (T := "list") (call_listD rfl) (by rfl) T.n_list (by decide +kernel) (pa_cons (pv 8) pa_nil)) (nomark _)))).pt (pss_one (ps_ret pe_bl)) pss_nil))))
      (pss_cons (ps_if (pw_or (pt_cmpR (op_neD hu64) (pe_callI (ok_p_letters (P := P) T) hr (pa_cons (pv 3) (pa_cons (pv 5) pa_nil))) (pe_dget hu (pv 4) pe_str (fun _ _ => rfl)) (nomark _)) (pw_or1 (pt_cmpR (op_neD hu64) (pe_callI (ok_p_leads (P := P) T) hr (pa_cons (pv 3) (pa_cons (pv 5) pa_nil))) (pe_dget hu (pv 4) pe_str (fun _ _ => rfl)) (nomark _)))).pt (pss_one (ps_ret pe_bl)) pss_nil)
      (pss_cons (ps_if (pw_or (pt_cmpR (op_neD hu64) (pe_callI (ok_p_settles (P := P) T) hr (pa_cons (pv 3) (pa_cons (pe_callTy (T := "tuple") (tupleK K) (by rfl) T.n_tuple (by decide +kernel) (pa_cons (pv 5) pa_nil)) pa_nil))) (pe_dget hu (pv 4) pe_str (fun _ _ => rfl)) (nomark _)) (pw_or1 (pt_cmpR (op_neD hu64) (pe_callI (ok_p_answers (P := P) T) hr (pa_cons (pv 3) (pa_cons (pv 5) pa_nil))) (pe_dget hu (pv 4) pe_str (fun _ _ => rfl)) (nomark _)))).pt (pss_one (ps_ret pe_bl)) pss_nil)
      (pss_one (ps_if (pt_cmpR (op_neD hu64) (pe_callI (ok_p_acts (P := P) T) hr (pa_cons (pv 3) (pa_cons (pv 5) pa_nil))) (pe_dget hu (pv 4) pe_str (fun _ _ => rfl)) (nomark _)) (pss_one (ps_ret pe_bl)) pss_nil)))))))))
      (pss_one (ps_ret pe_bl)))), ?_⟩
    obtain ⟨zs, hzs⟩ := cut_ints ns none (some 63)
    refine ⟨_, rfl, _, rfl, a, _, rfl, ha, fun sc hsc => ⟨by show 3 ≤ sizeLine; decide, fun dw hdw => ?_⟩⟩
    have A0 : Al (fun _ => none) H := fun b c z => by cases z
    have S1 : Stp dT (fun _ => none) H (updO (fun _ => none) sc .draw) (upd H sc (.lst (cutV (ns.map V.int) none (some 63)))) := Stp.own A0 hsc trivial noTup_lst
    have S2 := S1.trans (Stp.own (D := dT) (c := .draw) (o := .lst [.ref sc, .int 0, .int 0]) S1.al hdw trivial noTup_lst)
    have nsc : sc ≠ dw := S1.al.ne updO_same hdw
    have D2 : Dr (upd (upd H sc (.lst (cutV (ns.map V.int) none (some 63)))) dw (.lst [.ref sc, .int 0, .int 0])) (updO (updO (fun _ => none) sc .draw) dw .draw) dw := ⟨sc, 0, zs, upd_same, updO_same, by rw [upd_ne nsc, upd_same, hzs], by rw [updO_ne nsc, updO_same], nsc⟩
    refine ⟨_, rfl, by decide, by decide, ?_⟩
    refine for_range (fun k σ4 H4 => ∃ O4 x1 x2 x3 x4 x5 x6 x7, σ4 = laS a dw x1 x2 x3 x4 x5 x6 x7 ∧ Al O4 H4 ∧ Dr H4 O4 dw) ⟨_, none, none, none, none, none, none, none, rfl, S2.al, D2⟩ ?_ ?_
    rotate_left
    · rintro _ H4 ⟨O4, x1, x2, x3, x4, x5, x6, x7, rfl, _, _⟩
      exact fin H4
    rintro k _ H4 hk ⟨O4, x1, x2, x3, x4, x5, x6, x7, rfl, al, Dd⟩
    dsimp only [gName]
    refine seq_have (fun σ5 H5 => ∃ y1 v pr, σ5 = laS a dw y1 (some v) x3 x4 x5 x6 x7 ∧ PrOk pr ∧ Im H5 pr.data v ∧ Al O4 H5 ∧ Dr H5 O4 dw) ?_ (fun key => ?_)
    rotate_left
    · refine ⟨_, rfl, rfl, _, rfl, iteD (fun e => ?_) (fun e => ?_)⟩
      · exact ⟨_, rfl, good_w al Dd fun v H5 pr ok hv D5 S5 => key _ _ ⟨_, v, pr, rfl, ok, hv, S5.al, D5⟩⟩
      · exact ⟨_, rfl, proto_w (b := 4) (c := 4) al Dd (by decide) (by decide) (by decide) fun v H5 pr ok hv D5 S5 => key _ _ ⟨_, v, pr, rfl, ok, hv, S5.al, D5⟩⟩
    rintro _ H5 ⟨y1, v, pr, rfl, ok, hv5, al5, D5⟩
    refine ⟨_, rfl, _, rfl, run_w al5 D5 ok hv5 fun O6 H6 L rs m PP hb S6 => ?_⟩
    have hv := Im.keep (S6.tk al5) _ _ hv5
    obtain ⟨pa, pq, rfl, hpa, _⟩ := im_pr.mp hv
    obtain ⟨as, la, lb, vs, hrun, hrun2⟩ := PP.w.lts
    have hR := PP.r
    have has := PP.ask
    have hm := PP.hs
    have k2 := ok.h2
    refine ⟨_, rfl, L.w, _, rfl, dw_run PP.w.ob, ?_⟩
    dsimp only
    refine seq_have (fun σ7 H7 => ∃ z6 z7 z8, σ7 = laS a dw y1 (some (.ref pa)) (some (.ref L.w)) (some (.ref L.x)) z6 z7 z8 ∧ Same H6 H7) ?_ (fun key => ?_)
    rotate_left
    · refine ⟨_, rfl, pa, _, 0, _, rfl, rfl, SqT.of hpa, rfl, _, rfl, by have := ok.h2; omega, by have := ok.h2; omega, ?_⟩
      rw [Int.toNat_natCast]
      refine for_range (fun j σ7 H7 => ∃ z6 z7 z8, σ7 = laS a dw y1 (some (.ref pa)) (some (.ref L.w)) (some (.ref L.x)) z6 z7 z8 ∧ Same H6 H7) ⟨_, _, _, rfl, Same.refl H6⟩ ?_ ?_
      · rintro i _ H7 hi ⟨z6, z7, z8, rfl, s7⟩
        obtain ⟨g1, g2, g3, g4⟩ := wishes_few hR ok has i
        have ei : V.int (0 + (i : Int)) = nv i := congrArg V.int (by omega)
        refine ⟨_, rfl, _, rfl, _, rfl, ?_⟩
        show spHB P w K [.ref pa, .ref L.x, V.int (0 + (i : Int))] H7 _ _
        rw [ei]
        refine hb_p (Im.keep (same_tk s7) _ _ hv) ok hR hb has (.inl (s7 _ _ hrun)) (ImAll.keep (same_tk s7) _ _ hrun2) hi fun f H8 t8 => ?_
        refine ⟨_, rfl, _, rfl, ?_⟩
        show spDue [.ref L.w, nv i] H8 _ _
        refine due_w (PP.w.same (s7.trans t8.sm)) (by rw [hm]; exact hi) (by omega) g1 g2 g3 g4 fun g H9 t9 => ?_
        refine ⟨_, _, rfl, ?_⟩
        have s8 := s7.trans t8.sm
        rw [hm] at t9
        obtain ⟨ks, hk1, hk2⟩ := (t8.same t9.sm).ex
        obtain ⟨ls, hl1, hl2⟩ := t9.ex
        obtain ⟨nd, hlen⟩ := told_keys pr.hands i (m.hd i)
        have lk : ks.length = (toldD pr.hands i (m.hd i)).length := by have := congrArg List.length hk2.1; simpa using this
        have ll : ls.length = (toldD pr.hands i (m.hd i)).length := by have := congrArg List.length hl2.1; simpa using this
        refine ⟨_, rfl, _, rfl, f, g, ks, ls, rfl, rfl, hk1, hl1, lk.trans ll.symm, fun p hp => ?_, _, rfl, iteF ?_⟩
        · obtain ⟨u, d, q1, q2, q3, q4⟩ := tl_match hk2 hl2 nd p hp
          exact ⟨u, d, q1, q2, q3, (told_sh _ _ _ d q4).ok⟩
        refine ⟨_, rfl, f, ks, rfl, .inl hk1, fun l1 hl1' => ?_⟩
        have s10 := same_new (o := .lst (ks.map fun kv => kV kv.1)) hl1'
        refine ⟨_, rfl, g, ls, rfl, .inl (s10 _ _ hl1), fun l2 hl2' => ?_⟩
        have s11 := same_new (o := .lst (ls.map fun kv => kV kv.1)) hl2'
        refine ne_lists (n := 0) (ds := ((toldD pr.hands i (m.hd i)).map (·.1)).map PyData.str) (s11 _ _ upd_same) (imAll_strs.mpr (keys_im hk2)) upd_same (imAll_strs.mpr (keys_im hl2)) ?_ (by decide) ⟨_, rfl, iteF ⟨_, _, _, rfl, s8.trans (t9.sm.trans (s10.trans s11))⟩⟩
        exact told_strs pr.hands i (m.hd i)
      · rintro _ H7 ⟨z6, z7, z8, rfl, s7⟩
        exact key _ _ ⟨z6, z7, z8, rfl, s7⟩
    rintro _ H7 ⟨z6, z7, z8, rfl, s7⟩
    have W7 := PP.w.same s7
    have hv7 := Im.keep (same_tk s7) _ _ hv
    have hr7 := s7 _ _ hrun
    have hx7 := ImAll.keep (same_tk s7) _ _ hrun2
    refine ⟨_, rfl, _, rfl, ?_⟩
    show spLettersP P w K [.ref pa, .ref L.x] H7 _ _
    refine letters_p hv7 ok hR hb (.inl hr7) hx7 fun l8 H8 v8 s8 hl8 i8 => ?_
    have W8 := W7.same s8
    obtain ⟨as8, la8, lb8, _⟩ := W8.lts
    refine ⟨_, rfl, L.w, _, rfl, dw_letters W8.ob, ne_lists (n := 3) hl8 i8 la8 lb8 (.map sh_lt _) (by decide) ⟨_, rfl, iteF ?_⟩⟩
    refine ⟨_, rfl, _, rfl, ?_⟩
    show spLeadsP P w K [.ref pa, .ref L.x] H8 _ _
    refine leads_p (Im.keep (same_tk s8) _ _ hv7) ok hR hb (.inl (s8 _ _ hr7)) (ImAll.keep (same_tk s8) _ _ hx7) fun l9 H9 v9 s9 hl9 i9 => ?_
    have W9 := W8.same s9
    obtain ⟨us9, la9, lb9⟩ := W9.leads
    refine ⟨_, rfl, L.w, _, rfl, dw_leads W9.ob, ne_lists (n := 3) hl9 i9 la9 lb9 (.map sh_lead _) (by decide) ⟨_, rfl, iteF ?_⟩⟩
    have s89 := s8.trans s9
    refine ⟨_, rfl, _, rfl, L.x, vs, rfl, .inl ⟨SqL.of (s89 _ _ hr7), fun tr htr => ?_⟩⟩
    have s10 := same_new (o := .tup vs) htr
    have sA := s89.trans s10
    show spSettlesP P w K [.ref pa, .ref tr] _ _ _
    refine settles_p (Im.keep (same_tk sA) _ _ hv7) ok hR hb (.inr upd_same) (ImAll.keep (same_tk sA) _ _ hx7) fun l11 H11 v11 s11 hl11 i11 => ?_
    have sB := sA.trans s11
    have W11 := W7.same sB
    obtain ⟨us11, la11, lb11⟩ := W11.settles
    refine ⟨_, rfl, L.w, _, rfl, dw_settles W11.ob, ne_lists (n := 3) hl11 i11 la11 lb11 (.map sh_tr _) (by decide) ⟨_, rfl, iteF ?_⟩⟩
    refine ⟨_, rfl, _, rfl, ?_⟩
    show spAnswersP P w K [.ref pa, .ref L.x] H11 _ _
    refine answers_p (Im.keep (same_tk sB) _ _ hv7) ok hR hb (.inl (sB _ _ hr7)) (ImAll.keep (same_tk sB) _ _ hx7) fun l12 H12 v12 s12 hl12 i12 => ?_
    have sC := sB.trans s12
    have W12 := W7.same sC
    obtain ⟨us12, la12, lb12⟩ := W12.answers
    refine ⟨_, rfl, L.w, _, rfl, dw_answers W12.ob, ne_lists (n := 3) hl12 i12 la12 lb12 (.map sh_tr _) (by decide) ⟨_, rfl, iteF ?_⟩⟩
    refine ⟨_, rfl, _, rfl, ?_⟩
    show spActsP P w K [.ref pa, .ref L.x] H12 _ _
    refine acts_p (Im.keep (same_tk sC) _ _ hv7) ok hR hb (.inl (sC _ _ hr7)) (ImAll.keep (same_tk sC) _ _ hx7) fun l13 H13 v13 s13 hl13 i13 => ?_
    have sD := sC.trans s13
    have W13 := W7.same sD
    obtain ⟨us13, la13, lb13⟩ := W13.acts
    refine ⟨_, rfl, L.w, _, rfl, dw_acts W13.ob, ne_lists (n := 3) hl13 i13 la13 lb13 (.map sh_act _) (by decide) ⟨_, rfl, iteF ?_⟩⟩
    exact ⟨O6, _, _, _, _, _, _, _, rfl, W13.al, PP.d.same (s7.trans sD)⟩
theorem law_asked {H : Hp} {a : Addr} {ns : List Int} {E : XK} (h : SqL K H a (ns.map V.int)) : spLaw K [.ref a] H (fun v _ => v = .bl true) E := by
  unfold spLaw
  exact ⟨a, ns, rfl, h, fun _ => rfl⟩
end
end Sr

set_option Elab.async false
set_option linter.all false
set_option maxRecDepth 100000
set_option maxHeartbeats 0
open PySem PySem.W PySem.Calls PyProof.Rows
theorem PySem.Challenge.cw_settledrows_k01_whole_runs_holds : PySem.Challenge.rw_settledrows_k01_whole_runs.Holds := by
  w_on; o_law
  refine HandSHeadRun.head_any (r := OpenLaw.row PySem.Challenge.rw_settledrows_k01_whole_runs) (q := view (OpenLaw.row PySem.Challenge.rw_settledrows_k01_whole_runs).prog [65]) (H := Sr.hk) (ob := Sr.ob) (M := 8000) (loose := Sr.looseAll) (d := HandSHeadRun.topDef (OpenLaw.row PySem.Challenge.rw_settledrows_k01_whole_runs).prog 65) (kwd := []) Sr.ob_eq
    (by kernel_rfl) (fun s => by kernel_rfl) Sr.run (by kernel_rfl) (by kernel_rfl) (by kernel_rfl) (by rfl) (by first | assumption | decide +kernel) (by decide +kernel) ⟨rfl, rfl, rfl, rfl, rfl, by decide +kernel⟩ ?hw ?hc
  case hw => w_witness2
  case hc =>
    refine L2.walk_ofE (l := PySem.Challenge.rw_settledrows_k01_whole_runs) (n := 63) (k := 21) (x := "_law_script") (CX := L2.CX0) rfl (by decide) (by kernel_rfl) ⟨rfl, by decide, by decide⟩ ?F (fun _ _ _ _ z => z)
    intro w mg fa h Y G hmg0
    obtain ⟨K, KX, c⟩ := Y
    have hmg : mg ("law" : PySem.Str) = some (.ref fa) := by
      have e : (HandSHeadRun.topDef (OpenLaw.row PySem.Challenge.rw_settledrows_k01_whole_runs).prog 65).name = ("law" : PySem.Str) := by kernel_rfl
      rw [← e]
      exact hmg0
    have T : Sr.Tx w K mg := ⟨⟨h, c⟩, fun e => PySem.W.mg_of KX G e, fun e => PySem.W.mg_none_of KX G e⟩
    obtain ⟨fd, F⟩ := T.f_l_law
    have eg := hmg.symm.trans T.g_l_law
    cases eg
    have b := L2.FunD.bindsA (ps := ["_law_script"]) F fun _ _ _ _ _ _ us hl => match us, hl with | [_], _ => rfl
    exact ⟨K, fd, Sr.spLaw K, KX, fun s v => b s [v] rfl, fun H a ns hl _ hS => Sr.law_asked hS, fun base _ _ => Sr.ok_l_law T F⟩
