import PyProof.Rows.All
import Wide.All
import OpenK.AllK
import Wide.FinOn
import KE.KStateDown
import Lean
import HandS.Base
import HandS.Call
import HandS.Ends
import HandS.More
import HandS.Words
import HandS.WordsExc
import HandS.Defaults
import HandS.Head0
import HandS.Head1
import HandS.Head2
import HandS.HeadEnd
import HandS.HeadHook1
import HandS.HeadHook2
import PySem.Challenge.RW_eachcut_k18_whole_rings
import HandS.ForMost
import HandS.DictComp
import HandS.TupAny
import HandS.TupMul
import HandS.IsInst
import HandS.Deep
import HandS.Sort
import HandS.SortInts
import HandS.SortRule
import HandS.Style
import HandS.Conv
import HandS.Zip
import HandS.Small
import HandS.RaiseMore
import PyProof.P3In
import PyProof.SeqIndex
import HandS.TupLen
import HandS.SetFor
import HandS.Strs
import PyProof.FactsAll.tuple_2
import PyProof.FactsAll.tuple_0
import HandS.Zip0
import KE.KDictZip
import PyProof.Draws
import KE.GoesEnum
import KE.GoesMore
import KE.LtData
import OpenK.KMore
import KE.KDictCopyH
import KE.KDictPairs
import KE.DatumOrd
/-! ## HeadT -/
section
set_option Elab.async false
set_option linter.all false
set_option maxRecDepth 100000
set_option maxHeartbeats 0
namespace EC
open PySem PySem.Spec PyProof.Rows L2
def topS (i : Nat) : PySem.Stmt := PySem.Challenge.pw_eachcut_k18_whole_rings.main.body.getD i (.Pass ⟨0, 0, 0, 0⟩)
abbrev st_is_integer : PySem.Stmt := topS 9
abbrev st_is_between : PySem.Stmt := topS 10
abbrev st_is_count : PySem.Stmt := topS 11
abbrev st_is_name : PySem.Stmt := topS 12
abbrev st_is_row : PySem.Stmt := topS 13
abbrev st_is_paper : PySem.Stmt := topS 14
abbrev st_is_rising : PySem.Stmt := topS 15
abbrev st_are_kinds : PySem.Stmt := topS 17
abbrev st_is_conflict : PySem.Stmt := topS 18
abbrev st_is_table_value : PySem.Stmt := topS 19
abbrev st_need_table : PySem.Stmt := topS 20
abbrev st_steps_in : PySem.Stmt := topS 33
abbrev st_owner : PySem.Stmt := topS 34
abbrev st_kind_of : PySem.Stmt := topS 35
abbrev st_steps_of : PySem.Stmt := topS 36
abbrev st_back_at : PySem.Stmt := topS 37
abbrev st_ends_in : PySem.Stmt := topS 38
abbrev st_kept_in : PySem.Stmt := topS 39
abbrev st_state_in : PySem.Stmt := topS 40
abbrev st_open_steps : PySem.Stmt := topS 41
abbrev st_word_to : PySem.Stmt := topS 42
abbrev st_is_event_after : PySem.Stmt := topS 44
abbrev st_is_history_value : PySem.Stmt := topS 45
abbrev st_need_history : PySem.Stmt := topS 46
abbrev st_need_cut : PySem.Stmt := topS 47
abbrev st_clashes : PySem.Stmt := topS 61
abbrev st_do_clash : PySem.Stmt := topS 62
abbrev st_conflicting_pairs : PySem.Stmt := topS 63
abbrev st_is_caught : PySem.Stmt := topS 64
abbrev st_caught_pairs : PySem.Stmt := topS 65
abbrev st_edges_at : PySem.Stmt := topS 66
abbrev st_order_at : PySem.Stmt := topS 67
abbrev st_ring_in : PySem.Stmt := topS 68
abbrev st_fault_at : PySem.Stmt := topS 70
abbrev st_paper_at : PySem.Stmt := topS 71
abbrev st_is_ring : PySem.Stmt := topS 72
abbrev st_is_fault : PySem.Stmt := topS 73
abbrev st_is_paper_at : PySem.Stmt := topS 74
abbrev st_judge_cut : PySem.Stmt := topS 76
abbrev st_cut_holds : PySem.Stmt := topS 77
abbrev st_is_right_at : PySem.Stmt := topS 78
abbrev st__law_dealt : PySem.Stmt := topS 80
abbrev st__law_draw : PySem.Stmt := topS 81
abbrev st__law_pick : PySem.Stmt := topS 82
abbrev st__law_mixed : PySem.Stmt := topS 83
abbrev st__law_any_word : PySem.Stmt := topS 84
abbrev st__law_any_table : PySem.Stmt := topS 85
abbrev st__law_new_book : PySem.Stmt := topS 86
abbrev st__law_noted : PySem.Stmt := topS 87
abbrev st__law_read_book : PySem.Stmt := topS 88
abbrev st__law_do_clash : PySem.Stmt := topS 89
abbrev st__law_cut_word : PySem.Stmt := topS 90
abbrev st__law_in_series : PySem.Stmt := topS 91
abbrev st__law_left_over : PySem.Stmt := topS 92
abbrev st__law_are_alike : PySem.Stmt := topS 93
abbrev st__law_right_order : PySem.Stmt := topS 94
abbrev st__law_is_int : PySem.Stmt := topS 95
abbrev st__law_is_caught : PySem.Stmt := topS 96
abbrev st__law_edges : PySem.Stmt := topS 97
abbrev st__law_is_ring : PySem.Stmt := topS 98
abbrev st__law_is_against : PySem.Stmt := topS 99
abbrev st__law_own_rings : PySem.Stmt := topS 100
abbrev st__law_one_way : PySem.Stmt := topS 101
abbrev st__law_kept_history : PySem.Stmt := topS 102
abbrev st_law : PySem.Stmt := topS 103
def df_is_integer : He.DefD := ⟨("is_integer", none), "is_integer", "is_integer", L2.defArgs st_is_integer, L2.defBody st_is_integer, L2.defScope st_is_integer, [], []⟩
def df_is_between : He.DefD := ⟨("is_between", none), "is_between", "is_between", L2.defArgs st_is_between, L2.defBody st_is_between, L2.defScope st_is_between, [], []⟩
def df_is_count : He.DefD := ⟨("is_count", none), "is_count", "is_count", L2.defArgs st_is_count, L2.defBody st_is_count, L2.defScope st_is_count, [], []⟩
def df_is_name : He.DefD := ⟨("is_name", none), "is_name", "is_name", L2.defArgs st_is_name, L2.defBody st_is_name, L2.defScope st_is_name, [], []⟩
def df_is_row : He.DefD := ⟨("is_row", none), "is_row", "is_row", L2.defArgs st_is_row, L2.defBody st_is_row, L2.defScope st_is_row, [], []⟩
def df_is_paper : He.DefD := ⟨("is_paper", none), "is_paper", "is_paper", L2.defArgs st_is_paper, L2.defBody st_is_paper, L2.defScope st_is_paper, [], []⟩
def df_is_rising : He.DefD := ⟨("is_rising", none), "is_rising", "is_rising", L2.defArgs st_is_rising, L2.defBody st_is_rising, L2.defScope st_is_rising, [], []⟩
def df_are_kinds : He.DefD := ⟨("are_kinds", none), "are_kinds", "are_kinds", L2.defArgs st_are_kinds, L2.defBody st_are_kinds, L2.defScope st_are_kinds, [], []⟩
def df_is_conflict : He.DefD := ⟨("is_conflict", none), "is_conflict", "is_conflict", L2.defArgs st_is_conflict, L2.defBody st_is_conflict, L2.defScope st_is_conflict, [], []⟩
def df_is_table_value : He.DefD := ⟨("is_table_value", none), "is_table_value", "is_table_value", L2.defArgs st_is_table_value, L2.defBody st_is_table_value, L2.defScope st_is_table_value, [], []⟩
def df_need_table : He.DefD := ⟨("need_table", none), "need_table", "need_table", L2.defArgs st_need_table, L2.defBody st_need_table, L2.defScope st_need_table, [], []⟩
def df_steps_in : He.DefD := ⟨("steps_in", none), "steps_in", "steps_in", L2.defArgs st_steps_in, L2.defBody st_steps_in, L2.defScope st_steps_in, [], []⟩
def df_owner : He.DefD := ⟨("owner", none), "owner", "owner", L2.defArgs st_owner, L2.defBody st_owner, L2.defScope st_owner, [], []⟩
def df_kind_of : He.DefD := ⟨("kind_of", none), "kind_of", "kind_of", L2.defArgs st_kind_of, L2.defBody st_kind_of, L2.defScope st_kind_of, [], []⟩
def df_steps_of : He.DefD := ⟨("steps_of", none), "steps_of", "steps_of", L2.defArgs st_steps_of, L2.defBody st_steps_of, L2.defScope st_steps_of, [], []⟩
def df_back_at : He.DefD := ⟨("back_at", none), "back_at", "back_at", L2.defArgs st_back_at, L2.defBody st_back_at, L2.defScope st_back_at, [], []⟩
def df_ends_in : He.DefD := ⟨("ends_in", none), "ends_in", "ends_in", L2.defArgs st_ends_in, L2.defBody st_ends_in, L2.defScope st_ends_in, [], []⟩
def df_kept_in : He.DefD := ⟨("kept_in", none), "kept_in", "kept_in", L2.defArgs st_kept_in, L2.defBody st_kept_in, L2.defScope st_kept_in, [], []⟩
def df_state_in : He.DefD := ⟨("state_in", none), "state_in", "state_in", L2.defArgs st_state_in, L2.defBody st_state_in, L2.defScope st_state_in, [], []⟩
def df_open_steps : He.DefD := ⟨("open_steps", none), "open_steps", "open_steps", L2.defArgs st_open_steps, L2.defBody st_open_steps, L2.defScope st_open_steps, [], []⟩
def df_word_to : He.DefD := ⟨("word_to", none), "word_to", "word_to", L2.defArgs st_word_to, L2.defBody st_word_to, L2.defScope st_word_to, [], []⟩
def df_is_event_after : He.DefD := ⟨("is_event_after", none), "is_event_after", "is_event_after", L2.defArgs st_is_event_after, L2.defBody st_is_event_after, L2.defScope st_is_event_after, [], []⟩
def df_is_history_value : He.DefD := ⟨("is_history_value", none), "is_history_value", "is_history_value", L2.defArgs st_is_history_value, L2.defBody st_is_history_value, L2.defScope st_is_history_value, [], []⟩
def df_need_history : He.DefD := ⟨("need_history", none), "need_history", "need_history", L2.defArgs st_need_history, L2.defBody st_need_history, L2.defScope st_need_history, [], []⟩
def df_need_cut : He.DefD := ⟨("need_cut", none), "need_cut", "need_cut", L2.defArgs st_need_cut, L2.defBody st_need_cut, L2.defScope st_need_cut, [], []⟩
def df_clashes : He.DefD := ⟨("clashes", none), "clashes", "clashes", L2.defArgs st_clashes, L2.defBody st_clashes, L2.defScope st_clashes, [], []⟩
def df_do_clash : He.DefD := ⟨("do_clash", none), "do_clash", "do_clash", L2.defArgs st_do_clash, L2.defBody st_do_clash, L2.defScope st_do_clash, [], []⟩
def df_conflicting_pairs : He.DefD := ⟨("conflicting_pairs", none), "conflicting_pairs", "conflicting_pairs", L2.defArgs st_conflicting_pairs, L2.defBody st_conflicting_pairs, L2.defScope st_conflicting_pairs, [], []⟩
def df_is_caught : He.DefD := ⟨("is_caught", none), "is_caught", "is_caught", L2.defArgs st_is_caught, L2.defBody st_is_caught, L2.defScope st_is_caught, [], []⟩
def df_caught_pairs : He.DefD := ⟨("caught_pairs", none), "caught_pairs", "caught_pairs", L2.defArgs st_caught_pairs, L2.defBody st_caught_pairs, L2.defScope st_caught_pairs, [], []⟩
def df_edges_at : He.DefD := ⟨("edges_at", none), "edges_at", "edges_at", L2.defArgs st_edges_at, L2.defBody st_edges_at, L2.defScope st_edges_at, [], []⟩
def df_order_at : He.DefD := ⟨("order_at", none), "order_at", "order_at", L2.defArgs st_order_at, L2.defBody st_order_at, L2.defScope st_order_at, [], []⟩
def df_ring_in : He.DefD := ⟨("ring_in", none), "ring_in", "ring_in", L2.defArgs st_ring_in, L2.defBody st_ring_in, L2.defScope st_ring_in, [], []⟩
def df_fault_at : He.DefD := ⟨("fault_at", none), "fault_at", "fault_at", L2.defArgs st_fault_at, L2.defBody st_fault_at, L2.defScope st_fault_at, [], []⟩
def df_paper_at : He.DefD := ⟨("paper_at", none), "paper_at", "paper_at", L2.defArgs st_paper_at, L2.defBody st_paper_at, L2.defScope st_paper_at, [], []⟩
def df_is_ring : He.DefD := ⟨("is_ring", none), "is_ring", "is_ring", L2.defArgs st_is_ring, L2.defBody st_is_ring, L2.defScope st_is_ring, [], []⟩
def df_is_fault : He.DefD := ⟨("is_fault", none), "is_fault", "is_fault", L2.defArgs st_is_fault, L2.defBody st_is_fault, L2.defScope st_is_fault, [], []⟩
def df_is_paper_at : He.DefD := ⟨("is_paper_at", none), "is_paper_at", "is_paper_at", L2.defArgs st_is_paper_at, L2.defBody st_is_paper_at, L2.defScope st_is_paper_at, [], []⟩
def df_judge_cut : He.DefD := ⟨("judge_cut", none), "judge_cut", "judge_cut", L2.defArgs st_judge_cut, L2.defBody st_judge_cut, L2.defScope st_judge_cut, [], []⟩
def df_cut_holds : He.DefD := ⟨("cut_holds", none), "cut_holds", "cut_holds", L2.defArgs st_cut_holds, L2.defBody st_cut_holds, L2.defScope st_cut_holds, [], []⟩
def df_is_right_at : He.DefD := ⟨("is_right_at", none), "is_right_at", "is_right_at", L2.defArgs st_is_right_at, L2.defBody st_is_right_at, L2.defScope st_is_right_at, [], []⟩
def df__law_dealt : He.DefD := ⟨("_law_dealt", none), "_law_dealt", "_law_dealt", L2.defArgs st__law_dealt, L2.defBody st__law_dealt, L2.defScope st__law_dealt, [], []⟩
def df__law_draw : He.DefD := ⟨("_law_draw", none), "_law_draw", "_law_draw", L2.defArgs st__law_draw, L2.defBody st__law_draw, L2.defScope st__law_draw, [], []⟩
def df__law_pick : He.DefD := ⟨("_law_pick", none), "_law_pick", "_law_pick", L2.defArgs st__law_pick, L2.defBody st__law_pick, L2.defScope st__law_pick, [], []⟩
def df__law_mixed : He.DefD := ⟨("_law_mixed", none), "_law_mixed", "_law_mixed", L2.defArgs st__law_mixed, L2.defBody st__law_mixed, L2.defScope st__law_mixed, [], []⟩
def df__law_any_word : He.DefD := ⟨("_law_any_word", none), "_law_any_word", "_law_any_word", L2.defArgs st__law_any_word, L2.defBody st__law_any_word, L2.defScope st__law_any_word, [], []⟩
def df__law_any_table : He.DefD := ⟨("_law_any_table", none), "_law_any_table", "_law_any_table", L2.defArgs st__law_any_table, L2.defBody st__law_any_table, L2.defScope st__law_any_table, [], []⟩
def df__law_new_book : He.DefD := ⟨("_law_new_book", none), "_law_new_book", "_law_new_book", L2.defArgs st__law_new_book, L2.defBody st__law_new_book, L2.defScope st__law_new_book, [], []⟩
def df__law_noted : He.DefD := ⟨("_law_noted", none), "_law_noted", "_law_noted", L2.defArgs st__law_noted, L2.defBody st__law_noted, L2.defScope st__law_noted, [], []⟩
def df__law_read_book : He.DefD := ⟨("_law_read_book", none), "_law_read_book", "_law_read_book", L2.defArgs st__law_read_book, L2.defBody st__law_read_book, L2.defScope st__law_read_book, [], []⟩
def df__law_do_clash : He.DefD := ⟨("_law_do_clash", none), "_law_do_clash", "_law_do_clash", L2.defArgs st__law_do_clash, L2.defBody st__law_do_clash, L2.defScope st__law_do_clash, [], []⟩
def df__law_cut_word : He.DefD := ⟨("_law_cut_word", none), "_law_cut_word", "_law_cut_word", L2.defArgs st__law_cut_word, L2.defBody st__law_cut_word, L2.defScope st__law_cut_word, [], []⟩
def df__law_in_series : He.DefD := ⟨("_law_in_series", none), "_law_in_series", "_law_in_series", L2.defArgs st__law_in_series, L2.defBody st__law_in_series, L2.defScope st__law_in_series, [], []⟩
def df__law_left_over : He.DefD := ⟨("_law_left_over", none), "_law_left_over", "_law_left_over", L2.defArgs st__law_left_over, L2.defBody st__law_left_over, L2.defScope st__law_left_over, [], []⟩
def df__law_are_alike : He.DefD := ⟨("_law_are_alike", none), "_law_are_alike", "_law_are_alike", L2.defArgs st__law_are_alike, L2.defBody st__law_are_alike, L2.defScope st__law_are_alike, [], []⟩
def df__law_right_order : He.DefD := ⟨("_law_right_order", none), "_law_right_order", "_law_right_order", L2.defArgs st__law_right_order, L2.defBody st__law_right_order, L2.defScope st__law_right_order, [], []⟩
def df__law_is_int : He.DefD := ⟨("_law_is_int", none), "_law_is_int", "_law_is_int", L2.defArgs st__law_is_int, L2.defBody st__law_is_int, L2.defScope st__law_is_int, [], []⟩
def df__law_is_caught : He.DefD := ⟨("_law_is_caught", none), "_law_is_caught", "_law_is_caught", L2.defArgs st__law_is_caught, L2.defBody st__law_is_caught, L2.defScope st__law_is_caught, [], []⟩
def df__law_edges : He.DefD := ⟨("_law_edges", none), "_law_edges", "_law_edges", L2.defArgs st__law_edges, L2.defBody st__law_edges, L2.defScope st__law_edges, [], []⟩
def df__law_is_ring : He.DefD := ⟨("_law_is_ring", none), "_law_is_ring", "_law_is_ring", L2.defArgs st__law_is_ring, L2.defBody st__law_is_ring, L2.defScope st__law_is_ring, [], []⟩
def df__law_is_against : He.DefD := ⟨("_law_is_against", none), "_law_is_against", "_law_is_against", L2.defArgs st__law_is_against, L2.defBody st__law_is_against, L2.defScope st__law_is_against, [], []⟩
def df__law_own_rings : He.DefD := ⟨("_law_own_rings", none), "_law_own_rings", "_law_own_rings", L2.defArgs st__law_own_rings, L2.defBody st__law_own_rings, L2.defScope st__law_own_rings, [], []⟩
def df__law_one_way : He.DefD := ⟨("_law_one_way", none), "_law_one_way", "_law_one_way", L2.defArgs st__law_one_way, L2.defBody st__law_one_way, L2.defScope st__law_one_way, [], []⟩
def df__law_kept_history : He.DefD := ⟨("_law_kept_history", none), "_law_kept_history", "_law_kept_history", L2.defArgs st__law_kept_history, L2.defBody st__law_kept_history, L2.defScope st__law_kept_history, [], []⟩
def df_law : He.DefD := ⟨("law", none), "law", "law", L2.defArgs st_law, L2.defBody st_law, L2.defScope st_law, [], []⟩
def fnAll : List He.DefD := [df_is_integer, df_is_between, df_is_count, df_is_name, df_is_row, df_is_paper, df_is_rising, df_are_kinds, df_is_conflict, df_is_table_value, df_need_table, df_steps_in, df_owner, df_kind_of, df_steps_of, df_back_at, df_ends_in, df_kept_in, df_state_in, df_open_steps, df_word_to, df_is_event_after, df_is_history_value, df_need_history, df_need_cut, df_clashes, df_do_clash, df_conflicting_pairs, df_is_caught, df_caught_pairs, df_edges_at, df_order_at, df_ring_in, df_fault_at, df_paper_at, df_is_ring, df_is_fault, df_is_paper_at, df_judge_cut, df_cut_holds, df_is_right_at, df__law_dealt, df__law_draw, df__law_pick, df__law_mixed, df__law_any_word, df__law_any_table, df__law_new_book, df__law_noted, df__law_read_book, df__law_do_clash, df__law_cut_word, df__law_in_series, df__law_left_over, df__law_are_alike, df__law_right_order, df__law_is_int, df__law_is_caught, df__law_edges, df__law_is_ring, df__law_is_against, df__law_own_rings, df__law_one_way, df__law_kept_history, df_law]
def faA : List He.Fa := [.glo "is_integer", .glo "is_between", .glo "is_count", .glo "is_name", .glo "is_row", .glo "is_paper", .glo "is_rising", .glo "are_kinds", .glo "is_conflict", .glo "is_table_value", .glo "need_table", .glo "steps_in", .glo "owner", .glo "kind_of", .glo "steps_of", .glo "back_at", .glo "ends_in", .glo "kept_in", .glo "state_in", .glo "open_steps", .glo "word_to", .glo "is_event_after", .glo "is_history_value", .glo "need_history", .glo "need_cut", .glo "clashes", .glo "do_clash", .glo "conflicting_pairs", .glo "is_caught", .glo "caught_pairs", .glo "edges_at", .glo "order_at", .glo "ring_in", .glo "fault_at", .glo "paper_at"]
def faB : List He.Fa := [.glo "is_ring", .glo "is_fault", .glo "is_paper_at", .glo "judge_cut", .glo "cut_holds", .glo "is_right_at", .glo "_law_dealt", .glo "_law_draw", .glo "_law_pick", .glo "_law_mixed", .glo "_law_any_word", .glo "_law_any_table", .glo "_law_new_book", .glo "_law_noted", .glo "_law_read_book", .glo "_law_do_clash", .glo "_law_cut_word", .glo "_law_in_series", .glo "_law_left_over", .glo "_law_are_alike", .glo "_law_right_order", .glo "_law_is_int", .glo "_law_is_caught", .glo "_law_edges", .glo "_law_is_ring", .glo "_law_is_against", .glo "_law_own_rings", .glo "_law_one_way", .glo "_law_kept_history", .glo "law", .free "len", .free "isinstance", .free "int", .free "str", .free "bool"]
def faC : List He.Fa := [.free "tuple", .free "all", .free "any", .free "zip", .free "enumerate", .free "range", .free "sorted", .free "list", .free "dict", .free "set", .free "max", .free "repr", .free "min", .str "LETTERS" "abcdefghijklmnopqrstuvwxyz", .int "MOST_LETTERS" 10, .str "DO" "do", .str "KEEP" "keep", .str "DROP" "drop", .str "BACK" "back", .str "ACTIVE" "active", .str "KEPT" "kept", .str "DROPPING" "dropping", .str "GONE" "gone", .str "NEW" "new", .str "SWAP" "swap", .str "STRIKE" "strike", .str "STEPS" "steps", .str "CAUGHT" "caught", .str "RING" "ring"]
def faAll : List He.Fa := faA ++ (faB ++ faC)
def nm0 : List PySem.Str := ["_wall", "CutError", "BadTable", "BadHistory", "BadCut", "LETTERS", "MOST_LETTERS", "is_integer", "is_between", "is_count", "is_name", "is_row", "is_paper", "is_rising", "are_kinds", "is_conflict", "is_table_value", "need_table", "pair_of", "conflicts", "DO", "KEEP", "DROP", "BACK", "ACTIVE", "KEPT", "DROPPING", "GONE", "NEW", "steps_in"]
def nm1 : List PySem.Str := ["owner", "kind_of", "steps_of", "back_at", "ends_in", "kept_in", "state_in", "open_steps", "word_to", "serial_of", "is_event_after", "is_history_value", "need_history", "need_cut", "SWAP", "STRIKE", "do_conflict", "can_swap", "is_step", "done", "after_steps", "Path", "STEPS", "CAUGHT", "RING", "clashes", "do_clash", "conflicting_pairs", "is_caught", "caught_pairs"]
def nm2 : List PySem.Str := ["edges_at", "order_at", "ring_in", "steps_to_serial", "fault_at", "paper_at", "is_ring", "is_fault", "is_paper_at", "judge_cut", "cut_holds", "is_right_at", "_law_dealt", "_law_draw", "_law_pick", "_law_mixed", "_law_any_word", "_law_any_table", "_law_new_book", "_law_noted", "_law_read_book", "_law_do_clash", "_law_cut_word", "_law_in_series", "_law_left_over", "_law_are_alike", "_law_right_order", "_law_is_int", "_law_is_caught", "_law_edges"]
def nm3 : List PySem.Str := ["_law_is_ring", "_law_is_against", "_law_own_rings", "_law_one_way", "_law_kept_history"]
def nmAll : List PySem.Str := nm0 ++ nm1 ++ nm2 ++ nm3
def lawIx : Nat := 103
abbrev R : PySem.W.OpenRow := PySem.W.OpenLaw.row PySem.Challenge.rw_eachcut_k18_whole_rings
abbrev hk : PySem.W.Hook := He.hookD 4 faAll fnAll
def ob (s : PySem.W.SharedT) : He.AlD := He.obsDG 4 faAll fnAll (HandSHeadRun.getT s)
theorem ob_eq (s : PySem.W.SharedT) : ob s = hk.obs s.abs := He.obsDG_eq (HandSHeadRun.getT_eq s)
theorem run (w : World) : HandSHeadRun.RunEq R (PySem.W.view R.prog [lawIx]) hk ob 20000 nmAll w := by
  intro os
  kernel_rfl
end EC
end
/-! ## C1 -/
section
set_option Elab.async false
set_option linter.all false
set_option maxRecDepth 100000
set_option maxHeartbeats 1000000
/-! C1: plain data, the monad, environments, what grows. -/
namespace EC
open PySem PySem.Spec PyProof.Rows L2

/-! ### data -/
inductive D where
  | non | bl (b : Bool) | int (i : Int) | str (x : Str) | tup (ds : List D) | lst (ds : List D)
  | dk (ks : List Key) (ds : List D) | dt (ks : List (List Key)) (ds : List D)
  /-- a tuple whose object is known to have no dict -/
  | wd (ds : List D)
  /-- a dict that nobody changes any more -/
  | fk (ks : List Key) (ds : List D)

mutual
/-- in the heap B the value v is the data d -/
def Rep (B : Hp) : D → V → Prop
  | .non, v => v = .non
  | .bl b, v => v = .bl b
  | .int i, v => v = .int i
  | .str x, v => v = .str x
  | .tup ds, v => ∃ a vs, v = .ref a ∧ B a = some (.tup vs) ∧ RepL B ds vs
  | .lst ds, v => ∃ a vs, v = .ref a ∧ B a = some (.lst vs) ∧ RepL B ds vs
  | .dk ks ds, v => ∃ a vs, v = .ref a ∧ Rd B a (.dK (ks.zip vs)) ∧ ks.length = ds.length ∧ RepL B ds vs
  | .dt ks ds, v => ∃ a vs, v = .ref a ∧ B a = some (.dT (ks.zip vs)) ∧ ks.length = ds.length ∧ RepL B ds vs
  | .wd ds, v => ∃ a vs od, v = .ref a ∧ B a = some (.frz od (.tup vs)) ∧ od.dict = none ∧ RepL B ds vs
  | .fk ks ds, v => ∃ a vs od, v = .ref a ∧ B a = some (.frz od (.dK (ks.zip vs))) ∧ ks.length = ds.length ∧ RepL B ds vs
def RepL (B : Hp) : List D → List V → Prop
  | [], vs => vs = []
  | d :: ds, vs => ∃ v r, vs = v :: r ∧ Rep B d v ∧ RepL B ds r
end

/-- all of B stands in H -/
abbrev Sub (B H : Hp) : Prop := ∀ b o, B b = some o → H b = some o
theorem Sub.rd {B H : Hp} (s : Sub B H) {a : Addr} {u : HO} (r : Rd B a u) : Rd H a u := by
  rcases r with r | ⟨o, r⟩
  · exact .inl (s _ _ r)
  · exact .inr ⟨o, s _ _ r⟩
theorem Sub.rfl' {B : Hp} : Sub B B := fun _ _ h => h
theorem Sub.tr {B C E : Hp} (a : Sub B C) (b : Sub C E) : Sub B E := fun c o h => b c o (a c o h)
theorem Sub.none {B H : Hp} (a : Sub B H) {p : Addr} (h : H p = none) : B p = none := by
  cases e : B p with
  | none => rfl
  | some o => rw [a p o e] at h; cases h

mutual
theorem Rep.mono {B B' : Hp} (s : Sub B B') : ∀ {d : D} {v : V}, Rep B d v → Rep B' d v
  | .non, _, h => h
  | .bl _, _, h => h
  | .int _, _, h => h
  | .str _, _, h => h
  | .tup _, _, ⟨a, vs, e, h, r⟩ => ⟨a, vs, e, s _ _ h, RepL.mono s r⟩
  | .lst _, _, ⟨a, vs, e, h, r⟩ => ⟨a, vs, e, s _ _ h, RepL.mono s r⟩
  | .dk _ _, _, ⟨a, vs, e, h, l, r⟩ => ⟨a, vs, e, s.rd h, l, RepL.mono s r⟩
  | .dt _ _, _, ⟨a, vs, e, h, l, r⟩ => ⟨a, vs, e, s _ _ h, l, RepL.mono s r⟩
  | .wd _, _, ⟨a, vs, od, e, h, n, r⟩ => ⟨a, vs, od, e, s _ _ h, n, RepL.mono s r⟩
  | .fk _ _, _, ⟨a, vs, od, e, h, n, r⟩ => ⟨a, vs, od, e, s _ _ h, n, RepL.mono s r⟩
theorem RepL.mono {B B' : Hp} (s : Sub B B') : ∀ {ds : List D} {vs : List V}, RepL B ds vs → RepL B' ds vs
  | [], _, h => h
  | _ :: _, _, ⟨v, r, e, h, t⟩ => ⟨v, r, e, Rep.mono s h, RepL.mono s t⟩
end
theorem RepL.length {B : Hp} : ∀ {ds : List D} {vs : List V}, RepL B ds vs → vs.length = ds.length
  | [], _, h => by rw [show _ = [] from h]; rfl
  | _ :: ds, _, ⟨v, r, e, _, t⟩ => by rw [e, List.length_cons, List.length_cons, RepL.length t]
theorem RepL.get {B : Hp} : ∀ {ds : List D} {vs : List V} {i : Nat} {v : V}, RepL B ds vs → vs[i]? = some v → ∃ d, ds[i]? = some d ∧ Rep B d v
  | [], _, i, v, h, e => by rw [show _ = [] from h] at e; simp at e
  | d :: ds, _, 0, v, ⟨w, r, e1, h, t⟩, e => by rw [e1] at e; simp at e; subst e; exact ⟨d, rfl, h⟩
  | d :: ds, _, i + 1, v, ⟨w, r, e1, h, t⟩, e => by
    rw [e1] at e
    obtain ⟨d', e2, h2⟩ := RepL.get (i := i) t (by simpa using e)
    exact ⟨d', by simpa using e2, h2⟩
theorem RepL.get' {B : Hp} : ∀ {ds : List D} {vs : List V} {i : Nat} {d : D}, RepL B ds vs → ds[i]? = some d → ∃ v, vs[i]? = some v ∧ Rep B d v
  | [], _, i, v, h, e => by simp at e
  | d :: ds, _, 0, v, ⟨w, r, e1, h, t⟩, e => by simp at e; subst e; exact ⟨w, by rw [e1]; rfl, h⟩
  | d :: ds, _, i + 1, v, ⟨w, r, e1, h, t⟩, e => by
    obtain ⟨d', e2, h2⟩ := RepL.get' (i := i) t (by simpa using e)
    exact ⟨d', by rw [e1]; simpa using e2, h2⟩
theorem RepL.app {B : Hp} : ∀ {ds es : List D} {vs ws : List V}, RepL B ds vs → RepL B es ws → RepL B (ds ++ es) (vs ++ ws)
  | [], _, _, _, h, q => by rw [show _ = [] from h]; exact q
  | _ :: _, _, _, _, ⟨v, r, e, h, t⟩, q => ⟨v, _, by rw [e]; rfl, h, RepL.app t q⟩
theorem RepL.one {B : Hp} {d : D} {v : V} (h : Rep B d v) : RepL B [d] [v] := ⟨v, [], rfl, h, rfl⟩
theorem RepL.take {B : Hp} : ∀ {ds : List D} {vs : List V} (n : Nat), RepL B ds vs → RepL B (ds.take n) (vs.take n)
  | _, _, 0, _ => rfl
  | [], _, n + 1, h => by rw [show _ = [] from h]; rfl
  | _ :: _, _, n + 1, ⟨v, r, e, h, t⟩ => ⟨v, r.take n, by rw [e]; rfl, h, RepL.take n t⟩
theorem RepL.drop {B : Hp} : ∀ {ds : List D} {vs : List V} (n : Nat), RepL B ds vs → RepL B (ds.drop n) (vs.drop n)
  | _, _, 0, h => h
  | [], _, n + 1, h => by rw [show _ = [] from h]; rfl
  | _ :: _, _, n + 1, ⟨v, r, e, h, t⟩ => by rw [e]; exact RepL.drop n t
theorem RepL.rev {B : Hp} : ∀ {ds : List D} {vs : List V}, RepL B ds vs → RepL B ds.reverse vs.reverse
  | [], _, h => by rw [show _ = [] from h]; rfl
  | _ :: _, _, ⟨v, r, e, h, t⟩ => by rw [e, List.reverse_cons, List.reverse_cons]; exact RepL.app (RepL.rev t) (.one h)

/-! ### the monad -/
def M (α : Type) : Type := (α → Prop) → Prop
def ret {α : Type} (a : α) : M α := fun P => P a
def bnd {α β : Type} (m : M α) (f : α → M β) : M β := fun P => m fun a => f a P
def die {α : Type} : M α := fun _ => False
theorem bnd_ret {α β : Type} (a : α) (f : α → M β) : bnd (ret a) f = f a := rfl
theorem ret_bnd {α : Type} (m : M α) : bnd m ret = m := rfl
theorem bnd_die {α β : Type} (f : α → M β) : bnd die f = die := rfl
theorem bnd_bnd {α β γ : Type} (m : M α) (f : α → M β) (g : β → M γ) : bnd (bnd m f) g = bnd m fun a => bnd (f a) g := rfl

/-! ### slots -/
/-- what a slot holds: nothing known; data; a list of our own (changed in place); the deck -/
inductive Sl where
  | no | d (x : D) | o (xs : List D) | k
abbrev Rho := List Sl

/-- the deck: the dict at D, its list of cells at L -/
def DeckAt (H : Hp) (D L : Addr) : Prop := ∃ (cells : List Int) (mixed turn : Int), H D = some (.dK [(.inr "cells", .ref L), (.inr "mixed", .int mixed), (.inr "turn", .int turn)]) ∧ H L = some (.lst (cells.map V.int)) ∧
  cells.length ≤ 63 ∧ 0 ≤ mixed ∧ mixed < 2 ^ 62
abbrev Wd := Option (Addr × Addr)
/-- not of the deck -/
def ND (W : Wd) (b : Addr) : Prop := ∀ p, W = some p → b ≠ p.1 ∧ b ≠ p.2
def WOk (W : Wd) (B H : Hp) : Prop := ∀ p, W = some p → B p.1 = none ∧ B p.2 = none ∧ DeckAt H p.1 p.2
structure Grow (W : Wd) (B H B' H' : Hp) : Prop where
  bb : Sub B B'
  bh : Sub B' H'
  hh : ∀ b o, ND W b → H b = some o → H' b = some o
  nw : ∀ b, B b = none → H b ≠ none → B' b = none
  wk : WOk W B' H'
theorem ND.or {W : Wd} (b : Addr) : ND W b ∨ ∃ p, W = some p ∧ (b = p.1 ∨ b = p.2) := by
  cases W with
  | none => exact .inl fun p e => nomatch e
  | some q =>
    by_cases h1 : b = q.1
    · exact .inr ⟨q, rfl, .inl h1⟩
    · by_cases h2 : b = q.2
      · exact .inr ⟨q, rfl, .inr h2⟩
      · exact .inl fun p e => by cases e; exact ⟨h1, h2⟩
theorem WOk.nd {W : Wd} {B H : Hp} (w : WOk W B H) {p : Addr} (h : H p = none) : ND W p := fun q e => by
  obtain ⟨_, _, cells, mixed, turn, h1, h2, _⟩ := w q e
  exact ⟨fun z => (by rw [z, h1] at h; cases h), fun z => (by rw [z, h2] at h; cases h)⟩
theorem WOk.ndB {W : Wd} {B H : Hp} (w : WOk W B H) {p : Addr} {o : HO} (h : B p = some o) : ND W p := fun q e => by
  obtain ⟨h1, h2, _⟩ := w q e
  exact ⟨fun z => (by rw [z, h1] at h; cases h), fun z => (by rw [z, h2] at h; cases h)⟩
theorem Grow.refl {W : Wd} {B H : Hp} (s : Sub B H) (w : WOk W B H) : Grow W B H B H := ⟨Sub.rfl', s, fun _ _ _ h => h, fun _ h _ => h, w⟩
theorem Grow.trans {W : Wd} {B H B1 H1 B2 H2 : Hp} (a : Grow W B H B1 H1) (b : Grow W B1 H1 B2 H2) : Grow W B H B2 H2 := by
  refine ⟨a.bb.tr b.bb, b.bh, fun c o n h => b.hh c o n (a.hh c o n h), fun c h1 h2 => ?_, b.wk⟩
  rcases ND.or (W := W) c with n | ⟨p, e, q⟩
  · have h3 := a.nw c h1 h2
    refine b.nw c h3 fun z => ?_
    cases e : H c with
    | none => exact h2 e
    | some o => rw [a.hh c o n e] at z; cases z
  · obtain ⟨k1, k2, _⟩ := b.wk p e
    rcases q with rfl | rfl
    · exact k1
    · exact k2
theorem DeckAt.upd {H : Hp} {d l p : Addr} {o : HO} (h : DeckAt H d l) (hp : p ≠ d ∧ p ≠ l) : DeckAt (upd H p o) d l := by
  obtain ⟨c, m, t, h1, h2, h3⟩ := h
  exact ⟨c, m, t, by rw [upd_ne hp.1.symm]; exact h1, by rw [upd_ne hp.2.symm]; exact h2, h3⟩
/-- a new object, tracked as data -/
theorem Grow.new {W : Wd} {B H : Hp} (s : Sub B H) (w : WOk W B H) {p : Addr} {o : HO} (hp : H p = none) : Grow W B H (upd B p o) (upd H p o) := by
  have nd := w.nd hp
  have bp := s.none hp
  refine ⟨fun b u h => ?_, fun b u h => ?_, fun b u _ h => ?_, fun b h1 h2 => ?_, fun q e => ?_⟩
  · rw [upd_ne (ne_of_none h bp)]; exact h
  · by_cases hb : b = p
    · subst hb; rw [upd_same] at h ⊢; exact h
    · rw [upd_ne hb] at h ⊢; exact s _ _ h
  · rw [upd_ne (ne_of_none h hp)]; exact h
  · rw [upd_ne (fun z => h2 (by rw [z]; exact hp))]; exact h1
  · obtain ⟨h1, h2, h3⟩ := w q e
    have n := nd q e
    exact ⟨by rw [upd_ne n.1.symm]; exact h1, by rw [upd_ne n.2.symm]; exact h2, h3.upd n⟩
/-- a new object, not tracked as data -/
theorem Grow.new0 {W : Wd} {B H : Hp} (s : Sub B H) (w : WOk W B H) {p : Addr} {o : HO} (hp : H p = none) : Grow W B H B (upd H p o) := by
  have nd := w.nd hp
  refine ⟨Sub.rfl', fun b u h => ?_, fun b u _ h => ?_, fun b h1 _ => h1, fun q e => ?_⟩
  · rw [upd_ne (ne_of_none (s _ _ h) hp)]; exact s _ _ h
  · rw [upd_ne (ne_of_none h hp)]; exact h
  · obtain ⟨h1, h2, h3⟩ := w q e
    exact ⟨h1, h2, h3.upd (nd q e)⟩

/-- data, or a list of our own that holds data -/
def RepW (W : Wd) (B H : Hp) (d : D) (v : V) : Prop := Rep B d v ∨ ∃ l vs ds, v = .ref l ∧ d = .lst ds ∧ B l = none ∧ ND W l ∧ H l = some (.lst vs) ∧ RepL B ds vs
theorem RepW.grow {W : Wd} {B H B' H' : Hp} {d : D} {v : V} (r : RepW W B H d v) (g : Grow W B H B' H') : RepW W B' H' d v := by
  rcases r with r | ⟨l, vs, ds, e1, e2, hb, n, h, q⟩
  · exact .inl (r.mono g.bb)
  · exact .inr ⟨l, vs, ds, e1, e2, g.nw l hb (by rw [h]; simp), n, g.hh _ _ n h, q.mono g.bb⟩
/-- a list of either kind, its items data -/
theorem RepW.lst {W : Wd} {B H : Hp} {ds : List D} {v : V} (s : Sub B H) (r : RepW W B H (.lst ds) v) : ∃ a vs, v = .ref a ∧ H a = some (.lst vs) ∧ RepL B ds vs := by
  rcases r with ⟨a, vs, e, h, q⟩ | ⟨l, vs, es, e1, e2, _, n, h, q⟩
  · exact ⟨a, vs, e, s _ _ h, q⟩
  · cases e2; exact ⟨l, vs, e1, h, q⟩
theorem RepW.tup {W : Wd} {B H : Hp} {ds : List D} {v : V} (s : Sub B H) (r : RepW W B H (.tup ds) v) : ∃ a vs, v = .ref a ∧ H a = some (.tup vs) ∧ RepL B ds vs := by
  rcases r with ⟨a, vs, e, h, q⟩ | ⟨l, vs, es, e1, e2, _⟩
  · exact ⟨a, vs, e, s _ _ h, q⟩
  · cases e2
theorem RepW.strong {W : Wd} {B H : Hp} {d : D} {v : V} (r : RepW W B H d v) (h : ∀ ds, d ≠ .lst ds) : Rep B d v := by
  rcases r with r | ⟨l, vs, es, e1, e2, _⟩
  · exact r
  · exact absurd e2 (h _)
theorem RepW.int {W : Wd} {B H : Hp} {i : Int} {v : V} (r : RepW W B H (.int i) v) : v = .int i := r.strong (fun _ z => nomatch z)
theorem RepW.bl {W : Wd} {B H : Hp} {i : Bool} {v : V} (r : RepW W B H (.bl i) v) : v = .bl i := r.strong (fun _ z => nomatch z)
theorem RepW.str {W : Wd} {B H : Hp} {i : Str} {v : V} (r : RepW W B H (.str i) v) : v = .str i := r.strong (fun _ z => nomatch z)
theorem RepW.non {W : Wd} {B H : Hp} {v : V} (r : RepW W B H .non v) : v = .non := r.strong (fun _ z => nomatch z)

/-! ### environments -/
/-- where one stands: the deck, the data heap and the heap at the entry, the data heap now, what the slots hold -/
structure G where
  W : Wd
  B0 : Hp
  H0 : Hp
  B : Hp
  ρ : Rho
structure EnvG (g : G) (σ : L2.St) (H : Hp) : Prop where
  r : Grow g.W g.B0 g.H0 g.B H
  dat : ∀ (i : Nat) (d : D), g.ρ[i]? = some (.d d) → ∃ v, σ[i]? = some (some v) ∧ Rep g.B d v
  own : ∀ (i : Nat) (xs : List D), g.ρ[i]? = some (.o xs) → ∃ l vs, σ[i]? = some (some (.ref l)) ∧ g.B l = none ∧ g.H0 l = none ∧ ND g.W l ∧ H l = some (.lst vs) ∧ RepL g.B xs vs
  dis : ∀ (i j : Nat) (xs ys : List D) (l : Addr), i ≠ j → g.ρ[i]? = some (.o xs) → g.ρ[j]? = some (.o ys) → σ[i]? = some (some (.ref l)) → σ[j]? = some (some (.ref l)) → False
  dk : ∀ (i : Nat), g.ρ[i]? = some .k → ∃ p, g.W = some p ∧ σ[i]? = some (some (.ref p.1))
  len : σ.length = g.ρ.length
abbrev G.at (g : G) (B' : Hp) : G := { g with B := B' }
abbrev G.to (g : G) (ρ : Rho) : G := { g with ρ := ρ }
theorem EnvG.sub {g : G} {σ : L2.St} {H : Hp} (e : EnvG g σ H) : Sub g.B H := e.r.bh
theorem EnvG.wok {g : G} {σ : L2.St} {H : Hp} (e : EnvG g σ H) : WOk g.W g.B H := e.r.wk
theorem EnvG.grow {g : G} {σ : L2.St} {H B' H' : Hp} (e : EnvG g σ H) (w : Grow g.W g.B H B' H') : EnvG (g.at B') σ H' := by
  refine ⟨e.r.trans w, fun i d h => ?_, fun i xs h => ?_, e.dis, e.dk, e.len⟩
  · obtain ⟨v, h1, h2⟩ := e.dat i d h
    exact ⟨v, h1, h2.mono w.bb⟩
  · obtain ⟨l, vs, h1, h2, h3, h4, h5, h6⟩ := e.own i xs h
    exact ⟨l, vs, h1, w.nw l h2 (by rw [h5]; simp), h3, h4, w.hh _ _ h4 h5, h6.mono w.bb⟩
theorem lt_of_get {α : Type} {l : List α} {i : Nat} {x : α} (h : l[i]? = some x) : i < l.length := (List.getElem?_eq_some_iff.mp h).1
/-- a slot is stored: data -/
theorem EnvG.setD {g : G} {σ : L2.St} {H : Hp} (e : EnvG g σ H) {i : Nat} {d : D} {v : V} (r : Rep g.B d v) : EnvG (g.to (g.ρ.set i (.d d))) (σ.set i (some v)) H := by
  refine ⟨e.r, fun j d' h => ?_, fun j xs h => ?_, fun j k xs ys l hn h1 h2 h3 h4 => ?_, fun j h => ?_, by rw [List.length_set]; show _ = (g.ρ.set i _).length; rw [List.length_set]; exact e.len⟩
  · have h : (g.ρ.set i (.d d))[j]? = some (.d d') := h
    by_cases hj : i = j
    · subst hj
      have hl : i < g.ρ.length := by have := lt_of_get h; simpa using this
      rw [List.getElem?_set_self hl] at h
      cases h
      exact ⟨v, List.getElem?_set_self (by rw [e.len]; exact hl), r⟩
    · rw [List.getElem?_set_ne hj] at h ⊢
      exact e.dat j d' h
  · have h : (g.ρ.set i (.d d))[j]? = some (.o xs) := h
    by_cases hj : i = j
    · subst hj
      have hl : i < g.ρ.length := by have := lt_of_get h; simpa using this
      rw [List.getElem?_set_self hl] at h
      cases h
    · rw [List.getElem?_set_ne hj] at h ⊢
      exact e.own j xs h
  · have h1 : (g.ρ.set i (.d d))[j]? = some (.o xs) := h1
    have h2 : (g.ρ.set i (.d d))[k]? = some (.o ys) := h2
    have nj : i ≠ j := fun z => by
      subst z
      have hl : i < g.ρ.length := by have := lt_of_get h1; simpa using this
      rw [List.getElem?_set_self hl] at h1
      cases h1
    have nk : i ≠ k := fun z => by
      subst z
      have hl : i < g.ρ.length := by have := lt_of_get h2; simpa using this
      rw [List.getElem?_set_self hl] at h2
      cases h2
    rw [List.getElem?_set_ne nj] at h1 h3
    rw [List.getElem?_set_ne nk] at h2 h4
    exact e.dis j k xs ys l hn h1 h2 h3 h4
  · have h : (g.ρ.set i (.d d))[j]? = some .k := h
    by_cases hj : i = j
    · subst hj
      have hl : i < g.ρ.length := by have := lt_of_get h; simpa using this
      rw [List.getElem?_set_self hl] at h
      cases h
    · rw [List.getElem?_set_ne hj] at h ⊢
      exact e.dk j h
/-- a slot is stored: a new list of our own -/
theorem EnvG.setO {g : G} {σ : L2.St} {H : Hp} (e : EnvG g σ H) {i : Nat} {xs : List D} {l : Addr} {vs : List V} (hb : g.B l = none) (h0 : g.H0 l = none) (hn : ND g.W l) (hl : H l = some (.lst vs)) (r : RepL g.B xs vs)
    (hd : ∀ (j : Nat) (ys : List D), j ≠ i → g.ρ[j]? = some (.o ys) → σ[j]? = some (some (.ref l)) → False) : EnvG (g.to (g.ρ.set i (.o xs))) (σ.set i (some (.ref l))) H := by
  refine ⟨e.r, fun j d' h => ?_, fun j ys h => ?_, fun j k as bs m hjk h1 h2 h3 h4 => ?_, fun j h => ?_, by rw [List.length_set]; show _ = (g.ρ.set i _).length; rw [List.length_set]; exact e.len⟩
  · have h : (g.ρ.set i (.o xs))[j]? = some (.d d') := h
    by_cases hj : i = j
    · subst hj
      have hl : i < g.ρ.length := by have := lt_of_get h; simpa using this
      rw [List.getElem?_set_self hl] at h
      cases h
    · rw [List.getElem?_set_ne hj] at h ⊢
      exact e.dat j d' h
  · have h : (g.ρ.set i (.o xs))[j]? = some (.o ys) := h
    by_cases hj : i = j
    · subst hj
      have hlt : i < g.ρ.length := by have := lt_of_get h; simpa using this
      rw [List.getElem?_set_self hlt] at h
      cases h
      exact ⟨l, vs, List.getElem?_set_self (by rw [e.len]; exact hlt), hb, h0, hn, hl, r⟩
    · rw [List.getElem?_set_ne hj] at h ⊢
      exact e.own j ys h
  · have h1 : (g.ρ.set i (.o xs))[j]? = some (.o as) := h1
    have h2 : (g.ρ.set i (.o xs))[k]? = some (.o bs) := h2
    by_cases hj : i = j
    · subst hj
      have hk : i ≠ k := hjk
      have hlt : i < σ.length := by have := lt_of_get h3; simpa using this
      rw [List.getElem?_set_ne hk] at h2 h4
      rw [List.getElem?_set_self hlt] at h3
      cases h3
      exact hd k bs hk.symm h2 h4
    · rw [List.getElem?_set_ne hj] at h1 h3
      by_cases hk : i = k
      · subst hk
        have hlt : i < σ.length := by have := lt_of_get h4; simpa using this
        rw [List.getElem?_set_self hlt] at h4
        cases h4
        exact hd j as (Ne.symm hj) h1 h3
      · rw [List.getElem?_set_ne hk] at h2 h4
        exact e.dis j k as bs m hjk h1 h2 h3 h4
  · have h : (g.ρ.set i (.o xs))[j]? = some .k := h
    by_cases hj : i = j
    · subst hj
      have hl : i < g.ρ.length := by have := lt_of_get h; simpa using this
      rw [List.getElem?_set_self hl] at h
      cases h
    · rw [List.getElem?_set_ne hj] at h ⊢
      exact e.dk j h
/-- the list of our own in slot i is changed -/
theorem EnvG.chg {g : G} {σ : L2.St} {H : Hp} (e : EnvG g σ H) {i : Nat} {xs ys : List D} {l : Addr} {vs ws : List V} (hi : g.ρ[i]? = some (.o xs)) (hs : σ[i]? = some (some (.ref l))) (hb : g.B l = none) (h0 : g.H0 l = none) (hn : ND g.W l)
    (hl : H l = some (.lst vs)) (r : RepL g.B ys ws) : EnvG (g.to (g.ρ.set i (.o ys))) σ (upd H l (.lst ws)) := by
  have hne : ∀ b o, g.B b = some o → b ≠ l := fun b o h => ne_of_none h hb
  have hil : i < g.ρ.length := lt_of_get hi
  have key : ∀ j, i ≠ j → (g.ρ.set i (.o ys))[j]? = g.ρ[j]? := fun j hj => List.getElem?_set_ne hj
  have self : (g.ρ.set i (.o ys))[i]? = some (.o ys) := List.getElem?_set_self hil
  refine ⟨⟨e.r.bb, fun b o h => by rw [upd_ne (hne b o h)]; exact e.r.bh _ _ h, fun b o n h => by rw [upd_ne (ne_of_none h h0)]; exact e.r.hh _ _ n h, e.r.nw, fun p hp => ?_⟩, fun j d h => ?_, fun j zs h => ?_, fun j k as bs m hjk h1 h2 h3 h4 => ?_, fun j h => ?_, by show _ = (g.ρ.set i _).length; rw [List.length_set]; exact e.len⟩
  · obtain ⟨h1, h2, h3⟩ := e.r.wk p hp
    exact ⟨h1, h2, h3.upd (hn p hp)⟩
  · have h : (g.ρ.set i (.o ys))[j]? = some (.d d) := h
    by_cases hj : i = j
    · subst hj; rw [self] at h; cases h
    · rw [key j hj] at h; exact e.dat j d h
  · have h : (g.ρ.set i (.o ys))[j]? = some (.o zs) := h
    by_cases hj : i = j
    · subst hj; rw [self] at h; cases h
      exact ⟨l, ws, hs, hb, h0, hn, upd_same, r⟩
    · rw [key j hj] at h
      obtain ⟨l', vs', q1, q2, q3, q4, q5, q6⟩ := e.own j zs h
      have hll : l' ≠ l := fun z => e.dis i j xs zs l hj hi h hs (z ▸ q1)
      exact ⟨l', vs', q1, q2, q3, q4, by rw [upd_ne hll]; exact q5, q6⟩
  · have h1 : (g.ρ.set i (.o ys))[j]? = some (.o as) := h1
    have h2 : (g.ρ.set i (.o ys))[k]? = some (.o bs) := h2
    have c : ∀ (j : Nat) (as : List D), (g.ρ.set i (.o ys))[j]? = some (.o as) → ∃ as', g.ρ[j]? = some (.o as') := fun j as h => by
      by_cases hj : i = j
      · subst hj; exact ⟨xs, hi⟩
      · rw [key j hj] at h; exact ⟨as, h⟩
    obtain ⟨as', c1⟩ := c j as h1
    obtain ⟨bs', c2⟩ := c k bs h2
    exact e.dis j k as' bs' m hjk c1 c2 h3 h4
  · have h : (g.ρ.set i (.o ys))[j]? = some .k := h
    by_cases hj : i = j
    · subst hj; rw [self] at h; cases h
    · rw [key j hj] at h; exact e.dk j h
/-- the list of our own in slot i becomes data -/
theorem EnvG.give {g : G} {σ : L2.St} {H : Hp} (e : EnvG g σ H) {i : Nat} {xs : List D} (hi : g.ρ[i]? = some (.o xs)) :
    ∃ B', Sub g.B B' ∧ EnvG { g with B := B', ρ := g.ρ.set i (.d (.lst xs)) } σ H := by
  obtain ⟨l, vs, hs, hb, h0, hn, hl, r⟩ := e.own i xs hi
  have hil : i < g.ρ.length := lt_of_get hi
  have sb : Sub g.B (upd g.B l (.lst vs)) := fun b o h => by rw [upd_ne (ne_of_none h hb)]; exact h
  have key : ∀ j, i ≠ j → (g.ρ.set i (.d (.lst xs)))[j]? = g.ρ[j]? := fun j hj => List.getElem?_set_ne hj
  have self : (g.ρ.set i (.d (.lst xs)))[i]? = some (.d (.lst xs)) := List.getElem?_set_self hil
  refine ⟨upd g.B l (.lst vs), sb, ⟨e.r.bb.tr sb, fun b o h => ?_, e.r.hh, fun b h1 h2 => ?_, fun p hp => ?_⟩, fun j d h => ?_, fun j zs h => ?_, fun j k as bs m hjk h1 h2 h3 h4 => ?_, fun j h => ?_, by show _ = (g.ρ.set i _).length; rw [List.length_set]; exact e.len⟩
  · have h : upd g.B l (.lst vs) b = some o := h
    by_cases hb' : b = l
    · subst hb'; rw [upd_same] at h; cases h; exact hl
    · rw [upd_ne hb'] at h; exact e.r.bh _ _ h
  · show upd g.B l (.lst vs) b = none
    rw [upd_ne (fun z => h2 (by rw [z]; exact h0))]; exact e.r.nw b h1 h2
  · obtain ⟨h1, h2, h3⟩ := e.r.wk p hp
    exact ⟨by show upd g.B l (.lst vs) _ = none; rw [upd_ne (hn p hp).1.symm]; exact h1, by show upd g.B l (.lst vs) _ = none; rw [upd_ne (hn p hp).2.symm]; exact h2, h3⟩
  · have h : (g.ρ.set i (.d (.lst xs)))[j]? = some (.d d) := h
    by_cases hj : i = j
    · subst hj; rw [self] at h; cases h
      exact ⟨.ref l, hs, l, vs, rfl, upd_same, r.mono sb⟩
    · rw [key j hj] at h
      obtain ⟨v, q1, q2⟩ := e.dat j d h
      exact ⟨v, q1, q2.mono sb⟩
  · have h : (g.ρ.set i (.d (.lst xs)))[j]? = some (.o zs) := h
    by_cases hj : i = j
    · subst hj; rw [self] at h; cases h
    · rw [key j hj] at h
      obtain ⟨l', vs', q1, q2, q3, q4, q5, q6⟩ := e.own j zs h
      have hll : l' ≠ l := fun z => e.dis i j xs zs l hj hi h hs (z ▸ q1)
      exact ⟨l', vs', q1, by show upd g.B l (.lst vs) l' = none; rw [upd_ne hll]; exact q2, q3, q4, q5, q6.mono sb⟩
  · have h1 : (g.ρ.set i (.d (.lst xs)))[j]? = some (.o as) := h1
    have h2 : (g.ρ.set i (.d (.lst xs)))[k]? = some (.o bs) := h2
    have c : ∀ (j : Nat) (as : List D), (g.ρ.set i (.d (.lst xs)))[j]? = some (.o as) → g.ρ[j]? = some (.o as) := fun j as h => by
      by_cases hj : i = j
      · subst hj; rw [self] at h; cases h
      · rw [key j hj] at h; exact h
    exact e.dis j k as bs m hjk (c j as h1) (c k bs h2) h3 h4
  · have h : (g.ρ.set i (.d (.lst xs)))[j]? = some .k := h
    by_cases hj : i = j
    · subst hj; rw [self] at h; cases h
    · rw [key j hj] at h; exact e.dk j h
end EC
end
/-! ## C2 -/
section
set_option Elab.async false
set_option linter.all false
set_option maxRecDepth 100000
set_option maxHeartbeats 1000000
/-! C2: readings by data, expressions. -/
namespace EC
open PySem PySem.Spec PyProof.Rows L2

def chk {α : Type} (p : Prop) (m : M α) : M α := fun P => p ∧ m P
theorem chk_of {α : Type} {p : Prop} (h : p) (m : M α) : chk p m = m := funext fun P => propext ⟨fun q => q.2, fun q => ⟨h, q⟩⟩

/-! ### readings -/
def tD (f : Rho → M D) : TE := fun σ H Q => ∃ (g : G) (P : D → Prop), EnvG g σ H ∧ f g.ρ P ∧ ∀ d, P d → ∀ v B' H', Grow g.W g.B H B' H' → Rep B' d v → Q v H'
def tW (f : Rho → M D) : TE := fun σ H Q => ∃ (g : G) (P : D → Prop), EnvG g σ H ∧ f g.ρ P ∧ ∀ d, P d → ∀ v B' H', Grow g.W g.B H B' H' → RepW g.W B' H' d v → Q v H'
/-- a new list -/
def tF (f : Rho → M (List D)) : TE := fun σ H Q => ∃ (g : G) (P : List D → Prop), EnvG g σ H ∧ f g.ρ P ∧ ∀ ds, P ds → ∀ p vs B' H', Grow g.W g.B H B' H' → H p = none → B' p = none → H' p = some (.lst vs) → RepL B' ds vs → Q (.ref p) H'
def tDs (f : Rho → M (List D)) : TA := fun σ H Q => ∃ (g : G) (P : List D → Prop), EnvG g σ H ∧ f g.ρ P ∧ ∀ ds, P ds → ∀ vs B' H', Grow g.W g.B H B' H' → RepL B' ds vs → Q vs H'
def RepWL (W : Wd) (B H : Hp) : List D → List V → Prop
  | [], vs => vs = []
  | d :: ds, vs => ∃ v r, vs = v :: r ∧ RepW W B H d v ∧ RepWL W B H ds r
theorem RepWL.grow {W : Wd} {B H B' H' : Hp} (g : Grow W B H B' H') : ∀ {ds : List D} {vs : List V}, RepWL W B H ds vs → RepWL W B' H' ds vs
  | [], _, h => h
  | _ :: _, _, ⟨v, r, e, h, t⟩ => ⟨v, r, e, h.grow g, RepWL.grow g t⟩
/-- arguments of a built-in: data, or lists of our own -/
def tWs (f : Rho → M (List D)) : TA := fun σ H Q => ∃ (g : G) (P : List D → Prop), EnvG g σ H ∧ f g.ρ P ∧ ∀ ds, P ds → ∀ vs B' H', Grow g.W g.B H B' H' → RepWL g.W B' H' ds vs → Q vs H'
def tT (f : Rho → M Bool) : TT := fun σ H Q => ∃ (g : G) (P : Bool → Prop), EnvG g σ H ∧ f g.ρ P ∧ ∀ b, P b → ∀ B' H', Grow g.W g.B H B' H' → Q b H'
/-- a slot as an argument: data or the deck -/
def RepA (W : Wd) (B : Hp) : Sl → V → Prop
  | .d d, v => Rep B d v
  | .k, v => ∃ p, W = some p ∧ v = .ref p.1
  | _, _ => False
def RepAL (W : Wd) (B : Hp) : List Sl → List V → Prop
  | [], vs => vs = []
  | d :: ds, vs => ∃ v r, vs = v :: r ∧ RepA W B d v ∧ RepAL W B ds r
theorem RepA.mono {W : Wd} {B B' : Hp} (s : Sub B B') : ∀ {x : Sl} {v : V}, RepA W B x v → RepA W B' x v
  | .d _, _, h => Rep.mono s h
  | .k, _, h => h
theorem RepAL.mono {W : Wd} {B B' : Hp} (s : Sub B B') : ∀ {ds : List Sl} {vs : List V}, RepAL W B ds vs → RepAL W B' ds vs
  | [], _, h => h
  | _ :: _, _, ⟨v, r, e, h, t⟩ => ⟨v, r, e, h.mono s, RepAL.mono s t⟩
theorem RepAL.length {W : Wd} {B : Hp} : ∀ {ds : List Sl} {vs : List V}, RepAL W B ds vs → vs.length = ds.length
  | [], _, h => by rw [show _ = [] from h]; rfl
  | _ :: ds, _, ⟨v, r, e, _, t⟩ => by rw [e, List.length_cons, List.length_cons, RepAL.length t]
/-- arguments of a def -/
def tA (f : Rho → M (List Sl)) : TA := fun σ H Q => ∃ (g : G) (P : List Sl → Prop), EnvG g σ H ∧ f g.ρ P ∧ ∀ ds, P ds → ∀ vs B' H', Grow g.W g.B H B' H' → RepAL g.W B' ds vs → Q vs H'

section
variable {X : Cx} {e a b c : Expr} {es : List Expr} {pos : Pos} {f g f1 f2 f3 : Rho → M D}
theorem pe_imp {t t' : TE} (h : PE X e t) (k : ∀ σ H Q, t' σ H Q → t σ H Q) : PE X e t' := ⟨fun pins s σ H Q I q => h.run pins s σ H Q I (k _ _ _ q)⟩
theorem pt_imp {t t' : TT} (h : PT X e t) (k : ∀ σ H Q, t' σ H Q → t σ H Q) : PT X e t' := ⟨fun pins s σ H Q I q => h.run pins s σ H Q I (k _ _ _ q)⟩
theorem pa_imp {t t' : TA} (h : PA X es t) (k : ∀ σ H Q, t' σ H Q → t σ H Q) : PA X es t' := ⟨fun pos pins s σ H Q I q => h.run pos pins s σ H Q I (k _ _ _ q)⟩

/-! ### from one to another -/
theorem sw (h : PE X e (tD f)) : PE X e (tW f) := pe_imp h fun σ H Q ⟨g, P, E, hf, k⟩ => ⟨g, P, E, hf, fun d p v B' H' w r => k d p v B' H' w (.inl r)⟩
def asL (f : Rho → M (List D)) : Rho → M D := fun ρ => bnd (f ρ) fun ds => ret (.lst ds)
theorem Grow.own {W : Wd} {B H B' H' : Hp} {p : Addr} {o : HO} (w : Grow W B H B' H') (h0 : H p = none) (hb : B' p = none) (h : H' p = some o) (hn : ND W p) : Grow W B H (upd B' p o) H' := by
  refine ⟨fun b u q => ?_, fun b u q => ?_, w.hh, fun b h1 h2 => ?_, fun q e => ?_⟩
  · rw [upd_ne (ne_of_none (w.bb _ _ q) hb)]; exact w.bb _ _ q
  · by_cases hbp : b = p
    · subst hbp; rw [upd_same] at q; cases q; exact h
    · rw [upd_ne hbp] at q; exact w.bh _ _ q
  · rw [upd_ne (fun z => h2 (by rw [z]; exact h0))]; exact w.nw b h1 h2
  · obtain ⟨h1, h2, h3⟩ := w.wk q e
    have n := hn q e
    exact ⟨by rw [upd_ne n.1.symm]; exact h1, by rw [upd_ne n.2.symm]; exact h2, h3⟩
theorem fd {f : Rho → M (List D)} (h : PE X e (tF f)) : PE X e (tD (asL f)) := pe_imp h fun σ H Q ⟨g, P, E, hf, k⟩ => by
  refine ⟨g, fun ds => P (.lst ds), E, hf, fun ds pd p vs B' H' w h0 hb hl r => ?_⟩
  have sb : Sub B' (upd B' p (.lst vs)) := fun b u q => by rw [upd_ne (ne_of_none q hb)]; exact q
  exact k _ pd (.ref p) _ H' (w.own h0 hb hl (E.wok.nd h0)) ⟨p, vs, rfl, upd_same, r.mono sb⟩
theorem fw {f : Rho → M (List D)} (h : PE X e (tF f)) : PE X e (tW (asL f)) := sw (fd h)
def asB : D → M Bool
  | .bl b => ret b
  | _ => die
def tst (f : Rho → M D) : Rho → M Bool := fun ρ => bnd (f ρ) asB
/-- a value as a test -/
theorem dt_of (h : PE X e (tD f)) (he : ∀ whole, isTrue e X.env whole = (do let v ← whole; standAt e.pos; holding [v] (truthy v)) := by intro _; rfl) : PT X e (tT (tst f)) :=
  pt_imp (pt_val h he) fun σ H Q ⟨g, P, E, hf, k⟩ => by
    refine ⟨g, fun d => asB d P, E, hf, fun d pd v B' H' w r => ?_⟩
    cases d with
    | bl b => exact ⟨b, r, k b pd B' H' w⟩
    | _ => exact False.elim pd
theorem dt_cmp {t : TE} {op : CmpOp} (hc : PT X (.Compare a [op] [b] pos) (tB t)) (k : ∀ σ H Q, tD f σ H Q → t σ H Q) : PT X (.Compare a [op] [b] pos) (tT (tst f)) :=
  pt_imp hc fun σ H Q ⟨g, P, E, hf, kk⟩ => k _ _ _ ⟨g, fun d => asB d P, E, hf, fun d pd v B' H' w r => by
    cases d with
    | bl b => exact ⟨b, r, kk b pd B' H' w⟩
    | _ => exact False.elim pd⟩

/-! ### names and constants -/
def var (i : Nat) : Rho → M D := fun ρ => match ρ[i]? with
  | some (.d d) => ret d
  | _ => die
def varW (i : Nat) : Rho → M D := fun ρ => match ρ[i]? with
  | some (.d d) => ret d
  | some (.o xs) => ret (.lst xs)
  | _ => die
theorem dv {i : Nat} (h : PE X e (tVar i)) : PE X e (tD (var i)) := pe_imp h fun σ H Q ⟨g, P, E, hf, k⟩ => by
  unfold var at hf
  cases q : g.ρ[i]? with
  | none => rw [q] at hf; exact hf.elim
  | some z =>
    rw [q] at hf
    cases z with
    | d d =>
      obtain ⟨v, h1, h2⟩ := E.dat i d q
      exact ⟨v, h1, k d hf v _ _ (Grow.refl E.sub E.wok) h2⟩
    | no => exact hf.elim
    | o _ => exact hf.elim
    | k => exact hf.elim
theorem dvw {i : Nat} (h : PE X e (tVar i)) : PE X e (tW (varW i)) := pe_imp h fun σ H Q ⟨g, P, E, hf, k⟩ => by
  unfold varW at hf
  cases q : g.ρ[i]? with
  | none => rw [q] at hf; exact hf.elim
  | some z =>
    rw [q] at hf
    cases z with
    | d d =>
      obtain ⟨v, h1, h2⟩ := E.dat i d q
      exact ⟨v, h1, k d hf v _ _ (Grow.refl E.sub E.wok) (.inl h2)⟩
    | o xs =>
      obtain ⟨l, vs, h1, h2, h3, h4, h5, h6⟩ := E.own i xs q
      exact ⟨.ref l, h1, k _ hf _ _ _ (Grow.refl E.sub E.wok) (.inr ⟨l, vs, xs, rfl, rfl, h2, h4, h5, h6⟩)⟩
    | no => exact hf.elim
    | k => exact hf.elim
def con (d : D) : Rho → M D := fun _ => ret d
theorem dc {v : V} {d : D} (h : PE X e (tC v)) (hr : ∀ B, Rep B d v) : PE X e (tD (con d)) := pe_imp h fun σ H Q ⟨g, P, E, hf, k⟩ => k d hf v _ _ (Grow.refl E.sub E.wok) (hr _)
theorem dc_int {i j pos} : PE X (.Constant (.int i) j pos) (tD (con (.int i))) := dc pe_int fun _ => rfl
theorem dc_str {x j pos} : PE X (.Constant (.str x) j pos) (tD (con (.str x))) := dc pe_str fun _ => rfl
theorem dc_bl {b j pos} : PE X (.Constant (.bool b) j pos) (tD (con (.bl b))) := dc pe_bl fun _ => rfl
theorem dc_non {j pos} : PE X (.Constant .none j pos) (tD (con .non)) := dc pe_non fun _ => rfl
theorem dc_gstr {x z : Str} {pos : Pos} (hg : Gl X x) (hm : ∃ t, X.mg x = some (.str z t)) (hd : (x == ("__debug__" : Str)) = false := by decide) : PE X (.Name x pos) (tD (con (.str z))) := by
  obtain ⟨t, hm⟩ := hm
  exact dc (pe_glob (v := V.str z) hg hm ⟨t, rfl⟩ hd) fun _ => rfl
theorem dc_gint {x : Str} {z : Int} {pos : Pos} (hg : Gl X x) (hm : ∃ t, X.mg x = some (.int z t)) (hd : (x == ("__debug__" : Str)) = false := by decide) : PE X (.Name x pos) (tD (con (.int z))) := by
  obtain ⟨t, hm⟩ := hm
  exact dc (pe_glob (v := V.int z) hg hm ⟨t, rfl⟩ hd) fun _ => rfl

/-! ### argument lists -/
def nilL {α : Type} : Rho → M (List α) := fun _ => ret []
def consL (f : Rho → M D) (t : Rho → M (List D)) : Rho → M (List D) := fun ρ => bnd (f ρ) fun d => bnd (t ρ) fun ds => ret (d :: ds)
theorem das_nil : PA X [] (tDs nilL) := pa_imp pa_nil fun σ H Q ⟨g, P, E, hf, k⟩ => k [] hf [] _ _ (Grow.refl E.sub E.wok) rfl
theorem das_cons {t : Rho → M (List D)} (h : PE X e (tD f)) (ht : PA X es (tDs t)) (hs : starEach (e :: es) X.env = (false, eval e X.env) :: starEach es X.env := by rfl) : PA X (e :: es) (tDs (consL f t)) :=
  pa_imp (pa_cons h ht hs) fun σ H Q ⟨g, P, E, hf, k⟩ => ⟨g, _, E, hf, fun d pd v B1 H1 w r => ⟨g.at B1, _, E.grow w, pd, fun ds pds vs B2 H2 w2 r2 => k _ pds _ B2 H2 (w.trans w2) ⟨v, vs, rfl, r.mono w2.bb, r2⟩⟩⟩
theorem was_nil : PA X [] (tWs nilL) := pa_imp pa_nil fun σ H Q ⟨g, P, E, hf, k⟩ => k [] hf [] _ _ (Grow.refl E.sub E.wok) rfl
theorem was_cons {t : Rho → M (List D)} (h : PE X e (tW f)) (ht : PA X es (tWs t)) (hs : starEach (e :: es) X.env = (false, eval e X.env) :: starEach es X.env := by rfl) : PA X (e :: es) (tWs (consL f t)) :=
  pa_imp (pa_cons h ht hs) fun σ H Q ⟨g, P, E, hf, k⟩ => ⟨g, _, E, hf, fun d pd v B1 H1 w r => ⟨g.at B1, _, E.grow w, pd, fun ds pds vs B2 H2 w2 r2 => k _ pds _ B2 H2 (w.trans w2) ⟨v, vs, rfl, r.grow w2, r2⟩⟩⟩
def consA (f : Rho → M D) (t : Rho → M (List Sl)) : Rho → M (List Sl) := fun ρ => bnd (f ρ) fun d => bnd (t ρ) fun ds => ret (.d d :: ds)
def consK (i : Nat) (t : Rho → M (List Sl)) : Rho → M (List Sl) := fun ρ => match ρ[i]? with
  | some .k => bnd (t ρ) fun ds => ret (.k :: ds)
  | _ => die
theorem aas_nil : PA X [] (tA nilL) := pa_imp pa_nil fun σ H Q ⟨g, P, E, hf, k⟩ => k [] hf [] _ _ (Grow.refl E.sub E.wok) rfl
theorem aas_cons {t : Rho → M (List Sl)} (h : PE X e (tD f)) (ht : PA X es (tA t)) (hs : starEach (e :: es) X.env = (false, eval e X.env) :: starEach es X.env := by rfl) : PA X (e :: es) (tA (consA f t)) :=
  pa_imp (pa_cons h ht hs) fun σ H Q ⟨g, P, E, hf, k⟩ => ⟨g, _, E, hf, fun d pd v B1 H1 w r => ⟨g.at B1, _, E.grow w, pd, fun ds pds vs B2 H2 w2 r2 => k _ pds _ B2 H2 (w.trans w2) ⟨v, vs, rfl, r.mono w2.bb, r2⟩⟩⟩
theorem aas_k {i : Nat} {t : Rho → M (List Sl)} (h : PE X e (tVar i)) (ht : PA X es (tA t)) (hs : starEach (e :: es) X.env = (false, eval e X.env) :: starEach es X.env := by rfl) : PA X (e :: es) (tA (consK i t)) :=
  pa_imp (pa_cons h ht hs) fun σ H Q ⟨g, P, E, hf, k⟩ => by
    unfold consK at hf
    cases q : g.ρ[i]? with
    | none => rw [q] at hf; exact hf.elim
    | some z =>
      rw [q] at hf
      cases z with
      | k =>
        obtain ⟨p, hw, hs⟩ := E.dk i q
        exact ⟨.ref p.1, hs, g, _, E, hf, fun ds pds vs B2 H2 w2 r2 => k _ pds _ B2 H2 w2 ⟨_, vs, rfl, ⟨p, hw, rfl⟩, r2⟩⟩
      | d _ => exact hf.elim
      | no => exact hf.elim
      | o _ => exact hf.elim

/-! ### tuples, lists -/
def tupE (t : Rho → M (List D)) : Rho → M D := fun ρ => bnd (t ρ) fun ds => chk (ds.length ≤ 1000000) (ret (.tup ds))
theorem mil_line {n : Nat} (h : n ≤ 1000000) : n ≤ sizeLine := Nat.le_trans h (by decide)
theorem mil_lt {n : Nat} (h : n < 1000000) : n < sizeLine := Nat.lt_of_lt_of_le h (by decide)
theorem d_tup {x1} {t : Rho → M (List D)} (h : PA X es (tDs t)) : PE X (.Tuple es x1 pos) (tD (tupE t)) := pe_imp (pe_tup h) fun σ H Q ⟨g, P, E, hf, k⟩ => by
  refine ⟨g, _, E, hf, fun ds pds vs B1 H1 w r => ⟨by rw [r.length]; exact mil_line pds.1, fun p hp => ?_⟩⟩
  have n := Grow.new (o := .tup vs) w.bh w.wk hp
  exact k _ pds.2 (.ref p) _ _ (w.trans n) ⟨p, vs, rfl, upd_same, r.mono n.bb⟩
def lstE (t : Rho → M (List D)) : Rho → M (List D) := fun ρ => bnd (t ρ) fun ds => chk (ds.length ≤ 1000000) (ret ds)
theorem Grow.pnone {W : Wd} {B H B' H' : Hp} (w : Grow W B H B' H') (k : WOk W B H) {p : Addr} (h : H' p = none) : H p = none := by
  cases q : H p with
  | none => rfl
  | some o =>
    have nd : ND W p := w.wk.nd h
    rw [w.hh p o nd q] at h; cases h
theorem d_lst {t : Rho → M (List D)} (h : PA X es (tDs t)) : PE X (.List es pos) (tF (lstE t)) := pe_imp (pe_lst h) fun σ H Q ⟨g, P, E, hf, k⟩ => by
  refine ⟨g, _, E, hf, fun ds pds vs B1 H1 w r => ⟨by rw [r.length]; exact mil_line pds.1, fun p hp => ?_⟩⟩
  have n := Grow.new0 (o := .lst vs) w.bh w.wk hp
  exact k _ pds.2 p vs B1 _ (w.trans n) (w.pnone E.wok hp) (w.bh.none hp) upd_same r

/-! ### operations on two values -/
def OpD (X : Cx) (fn : Value → Value → Sem Value) (h : D → D → M D) : Prop := ∃ r : R2, OpR X fn r ∧ ∀ (W : Wd) (B H : Hp) (dx dy : D) (x y : V) (Q : VK) (P : D → Prop), Sub B H → WOk W B H → RepW W B H dx x → RepW W B H dy y → h dx dy P →
  (∀ d, P d → ∀ v B' H', Grow W B H B' H' → Rep B' d v → Q v H') → r x y H Q
def op2 (h : D → D → M D) (f g : Rho → M D) : Rho → M D := fun ρ => bnd (f ρ) fun x => bnd (g ρ) fun y => h x y
theorem op2_ok {r : R2} {h : D → D → M D} {σ : L2.St} {H : Hp} {Q : VK} (k : ∀ (W : Wd) (B H : Hp) (dx dy : D) (x y : V) (Q : VK) (P : D → Prop), Sub B H → WOk W B H → RepW W B H dx x → RepW W B H dy y → h dx dy P →
    (∀ d, P d → ∀ v B' H', Grow W B H B' H' → Rep B' d v → Q v H') → r x y H Q) (q : tD (op2 h f g) σ H Q) : tOp r (tW f) (tW g) σ H Q := by
  obtain ⟨gg, P, E, hf, kk⟩ := q
  refine ⟨gg, _, E, hf, fun dx px x B1 H1 w1 r1 => ⟨gg.at B1, _, E.grow w1, px, fun dy py y B2 H2 w2 r2 => ?_⟩⟩
  exact k gg.W B2 H2 dx dy x y _ _ w2.bh w2.wk (r1.grow w2) r2 py fun d pd v B3 H3 w3 r3 => kk d pd v B3 H3 ((w1.trans w2).trans w3) r3
theorem d_bin {op : Operator} {h : D → D → M D} (ho : OpD X (binaryOp op) h) (ha : PE X a (tW f)) (hb : PE X b (tW g)) : PE X (.BinOp a op b pos) (tD (op2 h f g)) := by
  obtain ⟨r, hr, k⟩ := ho
  exact pe_imp (pe_op hr ha hb) fun σ H Q q => op2_ok k q
theorem d_cmp {op : CmpOp} {h : D → D → M D} (ho : OpD X (compareOp op) h) (ha : PE X a (tW f)) (hb : PE X b (tW g)) (hm : behindInMarks op b = false := by first | exact nobehind _ (by decide) (by decide) | rfl) : PE X (.Compare a [op] [b] pos) (tD (op2 h f g)) := by
  obtain ⟨r, hr, k⟩ := ho
  exact pe_imp (pe_cmpR hr ha hb hm) fun σ H Q q => op2_ok k q
theorem d_cmpT {op : CmpOp} {h : D → D → M D} (ho : OpD X (compareOp op) h) (ha : PE X a (tW f)) (hb : PE X b (tW g)) (hm : behindInMarks op b = false := by first | exact nobehind _ (by decide) (by decide) | rfl) : PT X (.Compare a [op] [b] pos) (tT (tst (op2 h f g))) := by
  obtain ⟨r, hr, k⟩ := ho
  refine pt_imp (pt_cmpR hr ha hb hm) fun σ H Q ⟨gg, P, E, hf, kk⟩ => op2_ok (f := f) (g := g) k ⟨gg, fun d => asB d P, E, hf, fun d pd v B' H' w r => ?_⟩
  cases d with
  | bl b => exact ⟨b, r, kk b pd B' H' w⟩
  | _ => exact False.elim pd

/-- by two scalars to a scalar -/
theorem opd {fn : Value → Value → Sem Value} {r : R2} {h : D → D → M D} (hr : OpR X fn r) (k : ∀ (dx dy : D) (x y : V) (H : Hp) (Q : VK) (P : D → Prop), (∀ W B, Sub B H → RepW W B H dx x → RepW W B H dy y → h dx dy P → (∀ d, P d → ∀ v, (∀ B, Rep B d v) → Q v H) → r x y H Q)) : OpD X fn h :=
  ⟨r, hr, fun W B H dx dy x y Q P s w rx ry hp kk => k dx dy x y H Q P W B s rx ry hp fun d pd v rv => kk d pd v B H (Grow.refl s w) (rv _)⟩
def iop (C : Int → Int → Prop) (z : Int → Int → D) : D → D → M D
  | .int i, .int j => chk (C i j) (ret (z i j))
  | _, _ => die
def iop0 (z : Int → Int → D) : D → D → M D
  | .int i, .int j => ret (z i j)
  | _, _ => die
theorem opd_int {fn : Value → Value → Sem Value} {C : Int → Int → Prop} {z : Int → Int → V} {zd : Int → Int → D} (hr : OpR X fn (rI C z)) (e : ∀ i j B, Rep B (zd i j) (z i j)) : OpD X fn (iop C zd) :=
  opd hr fun dx dy x y H Q P W B s rx ry hp k => by
    cases dx with
    | int i => cases dy with
      | int j => exact ⟨i, j, rx.int, ry.int, hp.1, k _ hp.2 _ (e i j)⟩
      | _ => exact hp.elim
    | _ => exact hp.elim
theorem opd_int0 {fn : Value → Value → Sem Value} {z : Int → Int → V} {zd : Int → Int → D} (hr : OpR X fn (rI0 z)) (e : ∀ i j B, Rep B (zd i j) (z i j)) : OpD X fn (iop0 zd) :=
  opd hr fun dx dy x y H Q P W B s rx ry hp k => by
    cases dx with
    | int i => cases dy with
      | int j => exact ⟨i, j, rx.int, ry.int, k _ hp _ (e i j)⟩
      | _ => exact hp.elim
    | _ => exact hp.elim
abbrev addS : D → D → M D := iop0 fun i j => .int (i + j)
abbrev subS : D → D → M D := iop0 fun i j => .int (i - j)
abbrev mulS : D → D → M D := iop CMul fun i j => .int (i * j)
abbrev fdivS : D → D → M D := iop CDivN fun i j => .int (i.fdiv j)
abbrev modS : D → D → M D := iop (fun _ j => j ≠ 0) fun i j => .int (i.fmod j)
abbrev powS : D → D → M D := iop CPow fun i j => .int (i ^ j.toNat)
abbrev ltS : D → D → M D := iop0 fun i j => .bl (decide (i < j))
abbrev leS : D → D → M D := iop0 fun i j => .bl (decide (i ≤ j))
abbrev gtS : D → D → M D := iop0 fun i j => .bl (decide (j < i))
abbrev geS : D → D → M D := iop0 fun i j => .bl (decide (j ≤ i))
theorem o_add : OpD X (binaryOp .Add) addS := opd_int0 op_add fun _ _ _ => rfl
theorem o_sub : OpD X (binaryOp .Sub) subS := opd_int0 op_sub fun _ _ _ => rfl
theorem o_mul : OpD X (binaryOp .Mult) mulS := opd_int op_mul fun _ _ _ => rfl
theorem o_fdiv : OpD X (binaryOp .FloorDiv) fdivS := opd_int op_fdivN fun _ _ _ => rfl
theorem o_mod : OpD X (binaryOp .Mod) modS := opd_int op_modN fun _ _ _ => rfl
theorem o_pow : OpD X (binaryOp .Pow) powS := opd_int op_pow fun _ _ _ => rfl
theorem o_lt : OpD X (compareOp .Lt) ltS := opd_int0 op_lt fun _ _ _ => rfl
theorem o_le : OpD X (compareOp .LtE) leS := opd_int0 op_le fun _ _ _ => rfl
theorem o_gt : OpD X (compareOp .Gt) gtS := opd_int0 op_gt fun _ _ _ => rfl
theorem o_ge : OpD X (compareOp .GtE) geS := opd_int0 op_ge fun _ _ _ => rfl
def sop (z : Str → Str → D) : D → D → M D
  | .str i, .str j => ret (z i j)
  | _, _ => die
abbrev ltX : D → D → M D := sop fun i j => .bl (decide (i.cps.toList < j.cps.toList))
abbrev leX : D → D → M D := sop fun i j => .bl (!decide (j.cps.toList < i.cps.toList))
theorem o_ltX : OpD X (compareOp .Lt) ltX := opd op_lt_str fun dx dy x y H Q P W B s rx ry hp k => by
  cases dx with
  | str i => cases dy with
    | str j => exact ⟨i, j, rx.str, ry.str, k _ hp _ fun _ => rfl⟩
    | _ => exact hp.elim
  | _ => exact hp.elim
theorem o_leX : OpD X (compareOp .LtE) leX := opd op_le_str fun dx dy x y H Q P W B s rx ry hp k => by
  cases dx with
  | str i => cases dy with
    | str j => exact ⟨i, j, rx.str, ry.str, k _ hp _ fun _ => rfl⟩
    | _ => exact hp.elim
  | _ => exact hp.elim
/-- is None, is not None -/
def D.isNon : D → Bool
  | .non => true
  | _ => false
theorem RepW.isNon {W : Wd} {B H : Hp} {d : D} {v : V} (r : RepW W B H d v) : decide (v = .non) = d.isNon := by
  rcases r with r | ⟨l, vs, ds, e1, e2, _⟩
  · cases d with
    | non => rw [show v = .non from r]; rfl
    | bl _ => rw [show v = .bl _ from r]; rfl
    | int _ => rw [show v = .int _ from r]; rfl
    | str _ => rw [show v = .str _ from r]; rfl
    | tup _ => obtain ⟨a, vs, e, _⟩ := r; rw [e]; rfl
    | lst _ => obtain ⟨a, vs, e, _⟩ := r; rw [e]; rfl
    | dk _ _ => obtain ⟨a, vs, e, _⟩ := r; rw [e]; rfl
    | dt _ _ => obtain ⟨a, vs, e, _⟩ := r; rw [e]; rfl
    | wd _ => obtain ⟨a, vs, od, e, _⟩ := r; rw [e]; rfl
    | fk _ _ => obtain ⟨a, vs, od, e, _⟩ := r; rw [e]; rfl
  · rw [e1, e2]; rfl
def isNS : D → D → M D := fun x y => match y with
  | .non => ret (.bl x.isNon)
  | _ => die
def notNS : D → D → M D := fun x y => match y with
  | .non => ret (.bl (!x.isNon))
  | _ => die
theorem o_isN : OpD X (compareOp .Is) isNS := opd op_isN fun dx dy x y H Q P W B s rx ry hp k => by
  cases dy with
  | non => exact ⟨ry.non, by rw [rx.isNon]; exact k _ hp _ fun _ => rfl⟩
  | _ => exact hp.elim
theorem o_notN : OpD X (compareOp .IsNot) notNS := opd op_notN fun dx dy x y H Q P W B s rx ry hp k => by
  cases dy with
  | non => exact ⟨ry.non, by rw [rx.isNon]; exact k _ hp _ fun _ => rfl⟩
  | _ => exact hp.elim
/-- is not, of two bools -/
def isNotB : D → D → M D
  | .bl a, .bl b => ret (.bl (!decide (a = b)))
  | _, _ => die
theorem o_notB : OpD X (compareOp .IsNot) isNotB := opd op_notBl fun dx dy x y H Q P W B s rx ry hp k => by
  cases dx with
  | bl i => cases dy with
    | bl j => exact ⟨i, j, rx.bl, ry.bl, k _ hp _ fun _ => rfl⟩
    | _ => exact hp.elim
  | _ => exact hp.elim
end

/-! ### data as the library's data -/
mutual
def D.py : D → PyData
  | .non => .none
  | .bl b => .bool b
  | .int i => .int i
  | .str x => .str x
  | .tup ds => .tuple (D.pys ds)
  | .lst ds => .list (D.pys ds)
  | .dk _ _ => .dict []
  | .dt _ _ => .dict []
  | .wd ds => .tuple (D.pys ds)
  | .fk _ _ => .dict []
def D.pys : List D → List PyData
  | [] => []
  | d :: ds => d.py :: D.pys ds
end
theorem D.pys_map : ∀ ds : List D, D.pys ds = ds.map D.py
  | [] => by simp [D.pys]
  | d :: ds => by simp [D.pys, D.pys_map ds]
mutual
theorem Rep.dp {K : PySem.W.Frag} {B H : Hp} (s : Sub B H) : ∀ {d : D} {v : V}, Rep B d v → d.py.canLay0 = true → Dp K H v d.py
  | .non, _, h, _ => by rw [show _ = V.non from h]; exact .non
  | .bl _, _, h, _ => by rw [show _ = V.bl _ from h]; exact .bl _
  | .int _, _, h, _ => by rw [show _ = V.int _ from h]; exact .int _
  | .str _, _, h, _ => by rw [show _ = V.str _ from h]; exact .str _
  | .tup ds, _, ⟨a, vs, e, h, r⟩, c => by
    rw [e]
    exact .tup (SqT.of (s _ _ h)) (RepL.dp s r (by simpa [D.py, PyData.canLay0] using c))
  | .lst ds, _, ⟨a, vs, e, h, r⟩, c => by
    rw [e]
    exact .lst (SqL.of (s _ _ h)) (RepL.dp s r (by simpa [D.py, PyData.canLay0] using c))
  | .dk _ _, _, _, c => by simp [D.py, PyData.canLay0] at c
  | .dt _ _, _, _, c => by simp [D.py, PyData.canLay0] at c
  | .wd ds, _, ⟨a, vs, od, e, h, n, r⟩, c => by
    rw [e]
    exact .tup (.inl (.inr ⟨od, s _ _ h⟩)) (RepL.dp s r (by simpa [D.py, PyData.canLay0] using c))
  | .fk _ _, _, _, c => by simp [D.py, PyData.canLay0] at c
theorem RepL.dp {K : PySem.W.Frag} {B H : Hp} (s : Sub B H) : ∀ {ds : List D} {vs : List V}, RepL B ds vs → PyData.canLayAll0 (D.pys ds) = true → DpAll K H vs (D.pys ds)
  | [], _, h, _ => by rw [show _ = [] from h]; exact .nil
  | d :: ds, _, ⟨v, r, e, h, t⟩, c => by
    have c' : (d.py.canLay0 && PyData.canLayAll0 (D.pys ds)) = true := by simpa [D.pys, PyData.canLayAll0] using c
    rw [Bool.and_eq_true] at c'
    rw [e]
    exact .cons (Rep.dp s h c'.1) (RepL.dp s t c'.2)
end
theorem RepW.dp {K : PySem.W.Frag} {W : Wd} {B H : Hp} {d : D} {v : V} (s : Sub B H) (r : RepW W B H d v) (c : d.py.canLay0 = true) : Dp K H v d.py := by
  rcases r with r | ⟨l, vs, ds, e1, e2, _, _, h, q⟩
  · exact r.dp s c
  · subst e2
    rw [e1]
    exact .lst (SqL.of h) (q.dp s (by simpa [D.py, PyData.canLay0] using c))
abbrev shp (d : D) : Prop := SeqAt.shaped d.py = true
def eqS (x y : D) : M D := chk (shp x ∧ shp y) (ret (.bl (PyData.eqv x.py y.py)))
def neS (x y : D) : M D := chk (shp x ∧ shp y) (ret (.bl (!PyData.eqv x.py y.py)))
section
variable {X : Cx}
theorem o_eq (hu : X.A.units + 64 < cLine) : OpD X (compareOp .Eq) eqS := opd (op_eqD hu) fun dx dy x y H Q P W B s rx ry hp k =>
  ⟨_, _, rx.dp s (SeqAt.canLay_of_shaped hp.1.1), ry.dp s (SeqAt.canLay_of_shaped hp.1.2), hp.1.1, hp.1.2, k _ hp.2 _ fun _ => rfl⟩
theorem o_ne (hu : X.A.units + 64 < cLine) : OpD X (compareOp .NotEq) neS := opd (op_neD hu) fun dx dy x y H Q P W B s rx ry hp k =>
  ⟨_, _, rx.dp s (SeqAt.canLay_of_shaped hp.1.1), ry.dp s (SeqAt.canLay_of_shaped hp.1.2), hp.1.1, hp.1.2, k _ hp.2 _ fun _ => rfl⟩
/-- in, not in: a list, a tuple, a dict -/
def rInT (K : PySem.W.Frag) : R2 := fun x y H Q => ∃ d ds, Dp K H x d ∧ Dp K H y (.tuple ds) ∧ SeqAt.shaped d = true ∧ SeqAt.shaped (.tuple ds) = true ∧ Q (.bl (ds.any fun z => PyData.eqv z d)) H
def rNotInT (K : PySem.W.Frag) : R2 := fun x y H Q => ∃ d ds, Dp K H x d ∧ Dp K H y (.tuple ds) ∧ SeqAt.shaped d = true ∧ SeqAt.shaped (.tuple ds) = true ∧ Q (.bl (!ds.any fun z => PyData.eqv z d)) H
theorem op_inT (hu : X.A.units + 65 < cLine) : OpR X (compareOp .In) (rInT X.K) := by
  intro pins s σ H x y v u Q I rx ry h
  obtain ⟨d, ds, hd, he, sd, se, q⟩ := h
  obtain ⟨as, r1⟩ := Dp.reads I d x v hd rx
  obtain ⟨bs, r2⟩ := Dp.reads I (.tuple ds) y u he ry
  exact SeqAt.in_tuple_reads r2 r1 (SeqAt.canLay_of_shaped se) (SeqAt.canLay_of_shaped sd) (room_in_shaped sd hu) ⟨.bl _, H, I, rfl, q⟩
theorem op_notInT (hu : X.A.units + 65 < cLine) : OpR X (compareOp .NotIn) (rNotInT X.K) := by
  intro pins s σ H x y v u Q I rx ry h
  obtain ⟨d, ds, hd, he, sd, se, q⟩ := h
  obtain ⟨as, r1⟩ := Dp.reads I d x v hd rx
  obtain ⟨bs, r2⟩ := Dp.reads I (.tuple ds) y u he ry
  exact SeqAt.notIn_tuple_reads r2 r1 (SeqAt.canLay_of_shaped se) (SeqAt.canLay_of_shaped sd) (room_in_shaped sd hu) ⟨.bl _, H, I, rfl, q⟩
end
end EC
end
/-! ## C3 -/
section
set_option Elab.async false
set_option linter.all false
set_option maxRecDepth 100000
set_option maxHeartbeats 1000000
/-! C3: in, subscripts, slices, and, or, calls. -/
namespace EC
open PySem PySem.Spec PyProof.Rows L2

/-! ### in -/
def inB (x : D) (ds : List D) : Bool := (D.pys ds).any fun z => PyData.eqv z x.py
def inS (x y : D) : M D := match y with
  | .lst ds => chk (shp x ∧ shp (.lst ds)) (ret (.bl (inB x ds)))
  | .tup ds => chk (shp x ∧ shp (.tup ds)) (ret (.bl (inB x ds)))
  | .wd ds => chk (shp x ∧ shp (.tup ds)) (ret (.bl (inB x ds)))
  | _ => die
def ninS (x y : D) : M D := match y with
  | .lst ds => chk (shp x ∧ shp (.lst ds)) (ret (.bl (!inB x ds)))
  | .tup ds => chk (shp x ∧ shp (.tup ds)) (ret (.bl (!inB x ds)))
  | .wd ds => chk (shp x ∧ shp (.tup ds)) (ret (.bl (!inB x ds)))
  | _ => die
section
variable {X : Cx}
theorem o_in (hu : X.A.units + 65 < cLine) : OpD X (compareOp .In) inS := opd (OpR.or (op_inD hu) (op_inT hu)) fun dx dy x y H Q P W B s rx ry hp k => by
  cases dy with
  | lst ds => exact .inl ⟨_, _, rx.dp s (SeqAt.canLay_of_shaped hp.1.1), ry.dp s (SeqAt.canLay_of_shaped hp.1.2), hp.1.1, hp.1.2, k _ hp.2 _ fun _ => rfl⟩
  | tup ds => exact .inr ⟨_, _, rx.dp s (SeqAt.canLay_of_shaped hp.1.1), ry.dp s (SeqAt.canLay_of_shaped hp.1.2), hp.1.1, hp.1.2, k _ hp.2 _ fun _ => rfl⟩
  | wd ds => exact .inr ⟨_, _, rx.dp s (SeqAt.canLay_of_shaped hp.1.1), ry.dp s (SeqAt.canLay_of_shaped hp.1.2), hp.1.1, hp.1.2, k _ hp.2 _ fun _ => rfl⟩
  | _ => exact hp.elim
theorem o_nin (hu : X.A.units + 65 < cLine) : OpD X (compareOp .NotIn) ninS := opd (OpR.or (op_notInD hu) (op_notInT hu)) fun dx dy x y H Q P W B s rx ry hp k => by
  cases dy with
  | lst ds => exact .inl ⟨_, _, rx.dp s (SeqAt.canLay_of_shaped hp.1.1), ry.dp s (SeqAt.canLay_of_shaped hp.1.2), hp.1.1, hp.1.2, k _ hp.2 _ fun _ => rfl⟩
  | tup ds => exact .inr ⟨_, _, rx.dp s (SeqAt.canLay_of_shaped hp.1.1), ry.dp s (SeqAt.canLay_of_shaped hp.1.2), hp.1.1, hp.1.2, k _ hp.2 _ fun _ => rfl⟩
  | wd ds => exact .inr ⟨_, _, rx.dp s (SeqAt.canLay_of_shaped hp.1.1), ry.dp s (SeqAt.canLay_of_shaped hp.1.2), hp.1.1, hp.1.2, k _ hp.2 _ fun _ => rfl⟩
  | _ => exact hp.elim
end
/-- one sign in a text -/
def signS (x y : D) : M D := fun P => ∃ (c : Nat) (z : Str), x = .str ⟨#[c]⟩ ∧ y = .str z ∧ P (.bl (decide (c ∈ z.cps.toList)))
theorem o_sign {X : Cx} : OpD X (compareOp .In) signS := opd op_in_sign fun dx dy x y H Q P W B s rx ry hp k => by
  obtain ⟨c, z, rfl, rfl, p⟩ := hp
  exact ⟨c, z, rx.str, ry.str, k _ p _ fun _ => rfl⟩

/-! ### dicts that are read -/
def D.key : D → Option Key
  | .int i => some (.inl i)
  | .str x => some (.inr x)
  | _ => none
def D.keys : List D → Option (List Key)
  | [] => some []
  | d :: ds => match d.key, D.keys ds with
    | some k, some ks => some (k :: ks)
    | _, _ => none
def look {κ : Type} [DecidableEq κ] (ks : List κ) (ds : List D) (k : κ) : Option D := ((ks.zip ds).find? fun p => decide (p.1 = k)).map (·.2)
/-- what a dict holds at a key; none: it is no dict, or no key of it -/
def dlook (d k : D) : Option (Option D) := match d with
  | .dk ks ds => (D.key k).map fun k => look ks ds k
  | .fk ks ds => (D.key k).map fun k => look ks ds k
  | .dt ks ds => match k with
    | .tup es => (D.keys es).map fun k => look ks ds k
    | _ => none
  | _ => none
theorem look_rep {κ : Type} [DecidableEq κ] {B : Hp} (k : κ) : ∀ {ks : List κ} {ds : List D} {vs : List V}, ks.length = ds.length → RepL B ds vs →
    (look ks ds k = none → valV (ks.zip vs) k = none) ∧ ∀ d, look ks ds k = some d → ∃ v, valV (ks.zip vs) k = some v ∧ Rep B d v
  | [], _, _, _, _ => ⟨fun _ => rfl, fun d h => by simp [look] at h⟩
  | c :: ks, [], _, h, _ => by simp at h
  | c :: ks, d :: ds, _, hl, ⟨v, r, e, h, t⟩ => by
    obtain ⟨h1, h2⟩ := look_rep k (ks := ks) (ds := ds) (vs := r) (by simpa using hl) t
    rw [e]
    by_cases hc : c = k
    · subst hc
      refine ⟨fun z => by simp [look] at z, fun d' z => ⟨v, by simp [valV], ?_⟩⟩
      have : d = d' := by simpa [look] using z
      rw [← this]; exact h
    · have e1 : look (c :: ks) (d :: ds) k = look ks ds k := by simp [look, hc]
      have e2 : valV ((c :: ks).zip (v :: r)) k = valV (ks.zip r) k := by simp [valV, hc]
      rw [e1, e2]
      exact ⟨h1, h2⟩
theorem key_rep {B : Hp} {d : D} {k : Key} {v : V} (h : D.key d = some k) (r : Rep B d v) : v = kV k := by
  cases d with
  | int i => cases h; exact r
  | str i => cases h; exact r
  | _ => cases h
theorem keys_rep {B : Hp} : ∀ {ds : List D} {ks : List Key} {vs : List V}, D.keys ds = some ks → RepL B ds vs → vs = ks.map kV
  | [], ks, _, h, r => by cases h; rw [show _ = [] from r]; rfl
  | d :: ds, ks, _, h, ⟨v, r, e, hv, t⟩ => by
    unfold D.keys at h
    cases q : D.key d with
    | none => rw [q] at h; cases h
    | some k =>
      rw [q] at h
      cases q2 : D.keys ds with
      | none => rw [q2] at h; cases h
      | some ks' =>
        rw [q2] at h
        cases h
        rw [e, key_rep q hv, keys_rep q2 t]; rfl
/-- the dict at a value -/
theorem dget_of {W : Wd} {B H : Hp} {dd dk : D} {x y : V} {o : Option D} (s : Sub B H) (hd : RepW W B H dd x) (hk : RepW W B H dk y) (h : dlook dd dk = some o) : ∃ a, x = .ref a ∧ IsD H a ∧
    (o = none → DGet H a y none) ∧ ∀ d, o = some d → ∃ v, DGet H a y (some v) ∧ Rep B d v := by
  unfold dlook at h
  cases dd with
  | dk ks ds =>
    obtain ⟨a, vs, e, hB, hl, r⟩ := hd.strong (fun _ z => nomatch z)
    obtain ⟨k, q, rfl⟩ := Option.map_eq_some_iff.mp h
    have hy : y = kV k := by
      cases dk with
      | int i => cases q; exact hk.int
      | str i => cases q; exact hk.str
      | _ => cases q
    obtain ⟨h1, h2⟩ := look_rep k hl r
    have hH := s.rd hB
    refine ⟨a, e, .inl ⟨_, hH⟩, fun z => ?_, fun d z => ?_⟩
    · rw [hy, ← h1 z]; exact .inl ⟨_, k, hH, rfl, rfl⟩
    · obtain ⟨v, h3, h4⟩ := h2 d z
      exact ⟨v, by rw [hy, ← h3]; exact .inl ⟨_, k, hH, rfl, rfl⟩, h4⟩
  | fk ks ds =>
    obtain ⟨a, vs, od, e, hB, hl, r⟩ := hd.strong (fun _ z => nomatch z)
    obtain ⟨k, q, rfl⟩ := Option.map_eq_some_iff.mp h
    have hy : y = kV k := by
      cases dk with
      | int i => cases q; exact hk.int
      | str i => cases q; exact hk.str
      | _ => cases q
    obtain ⟨h1, h2⟩ := look_rep k hl r
    have hH : Rd H a (.dK (ks.zip vs)) := .inr ⟨od, s _ _ hB⟩
    refine ⟨a, e, .inl ⟨_, hH⟩, fun z => ?_, fun d z => ?_⟩
    · rw [hy, ← h1 z]; exact .inl ⟨_, k, hH, rfl, rfl⟩
    · obtain ⟨v, h3, h4⟩ := h2 d z
      exact ⟨v, by rw [hy, ← h3]; exact .inl ⟨_, k, hH, rfl, rfl⟩, h4⟩
  | dt ks ds =>
    obtain ⟨a, vs, e, hB, hl, r⟩ := hd.strong (fun _ z => nomatch z)
    cases dk with
    | tup es =>
      obtain ⟨k, q, rfl⟩ := Option.map_eq_some_iff.mp h
      obtain ⟨b, ws, e2, hB2, r2⟩ := hk.strong (fun _ z => nomatch z)
      have hw := keys_rep q r2
      obtain ⟨h1, h2⟩ := look_rep k hl r
      have hH := s _ _ hB
      have hH2 := s _ _ hB2
      rw [hw] at hH2
      refine ⟨a, e, .inr ⟨_, .inl hH⟩, fun z => ?_, fun d z => ?_⟩
      · rw [e2, ← h1 z]; exact DGet.t hH hH2
      · obtain ⟨v, h3, h4⟩ := h2 d z
        exact ⟨v, by rw [e2, ← h3]; exact DGet.t hH hH2, h4⟩
    | _ => cases h
  | _ => cases h
/-- d[k] -/
def getS (x y : D) : M D := match dlook x y with
  | some (some d) => ret d
  | _ => die
/-- k in d, k not in d -/
def dinS (x y : D) : M D := match dlook y x with
  | some o => ret (.bl o.isSome)
  | _ => die
def dninS (x y : D) : M D := match dlook y x with
  | some o => ret (.bl (!o.isSome))
  | _ => die
/-- d.get(k), d.get(k, z) -/
def get1S (x y : D) : M D := match dlook x y with
  | some o => ret (o.getD .non)
  | _ => die
section
variable {X : Cx} {o i e a b z : Expr} {pos apos : Pos} {f g h : Rho → M D} {rest es : List Expr}
theorem d_get (hu : X.A.units + 1 < cLine) (ho : PE X o (tW f)) (hi : PE X i (tW g)) (hs : NoSl i := by exact fun _ _ => rfl) : PE X (.Subscript o i pos) (tD (op2 getS f g)) :=
  pe_imp (pe_dget hu ho hi hs) fun σ H Q ⟨gg, P, E, hf, k⟩ => ⟨gg, _, E, hf, fun dx px x B1 H1 w1 r1 => ⟨gg.at B1, _, E.grow w1, px, fun dy py y B2 H2 w2 r2 => by
    have py : getS dx dy P := py
    cases q : dlook dx dy with
    | none =>
      have e : getS dx dy = die := by unfold getS; rw [q]
      rw [e] at py; exact py.elim
    | some od =>
      cases od with
      | none =>
        have e : getS dx dy = die := by unfold getS; rw [q]
        rw [e] at py; exact py.elim
      | some d =>
        have e : getS dx dy = ret d := by unfold getS; rw [q]
        rw [e] at py
        obtain ⟨a, e, _, _, h2⟩ := dget_of w2.bh (r1.grow w2) r2 q
        obtain ⟨v, h3, h4⟩ := h2 d rfl
        exact ⟨a, v, e, h3, k d py v _ _ (w1.trans w2) h4⟩⟩⟩
def dinP (p : Bool → Bool) (x y : D) : M D := match dlook y x with
  | some o => ret (.bl (p o.isSome))
  | _ => die
theorem din_aux {p : Bool → Bool} {σ : L2.St} {H : Hp} {Q : VK} (q : tD (op2 (dinP p) f g) σ H Q) : tW f σ H fun y H1 => tW g σ H1 fun x H2 => ∃ a o, x = .ref a ∧ DGet H2 a y o ∧ Q (.bl (p o.isSome)) H2 := by
  obtain ⟨gg, P, E, hf, k⟩ := q
  refine ⟨gg, _, E, hf, fun dx px x B1 H1 w1 r1 => ⟨gg.at B1, _, E.grow w1, px, fun dy py y B2 H2 w2 r2 => ?_⟩⟩
  have py : dinP p dx dy P := py
  cases q : dlook dy dx with
  | none =>
    have e : dinP p dx dy = die := by unfold dinP; rw [q]
    rw [e] at py; exact py.elim
  | some od =>
    have e : dinP p dx dy = ret (.bl (p od.isSome)) := by unfold dinP; rw [q]
    rw [e] at py
    obtain ⟨a, ea, _, h1, h2⟩ := dget_of w2.bh r2 (r1.grow w2) q
    cases od with
    | none => exact ⟨a, _, ea, h1 rfl, k _ py _ _ _ (w1.trans w2) rfl⟩
    | some d =>
      obtain ⟨v, h3, h4⟩ := h2 d rfl
      exact ⟨a, _, ea, h3, k _ py _ _ _ (w1.trans w2) rfl⟩
theorem d_din (hu : X.A.units + 1 < cLine) (hi : PE X i (tW f)) (ho : PE X o (tW g)) (hm : behindInMarks .In o = false := by rfl) : PE X (.Compare i [.In] [o] pos) (tD (op2 dinS f g)) :=
  pe_imp (pe_cmp (pc_din hu hi ho) hm) fun σ H Q q => din_aux (p := fun b => b) q
theorem d_dnin (hu : X.A.units + 1 < cLine) (hi : PE X i (tW f)) (ho : PE X o (tW g)) (hm : behindInMarks .NotIn o = false := by rfl) : PE X (.Compare i [.NotIn] [o] pos) (tD (op2 dninS f g)) :=
  pe_imp (pe_cmp (pc_dnotin hu hi ho) hm) fun σ H Q q => din_aux (p := fun b => !b) q
theorem t_din (hu : X.A.units + 1 < cLine) (hi : PE X i (tW f)) (ho : PE X o (tW g)) (hm : behindInMarks .In o = false := by rfl) : PT X (.Compare i [.In] [o] pos) (tT (tst (op2 dinS f g))) :=
  dt_cmp (pt_cmp (pc_din hu hi ho) hm) fun σ H Q q => din_aux (p := fun b => b) q
theorem t_dnin (hu : X.A.units + 1 < cLine) (hi : PE X i (tW f)) (ho : PE X o (tW g)) (hm : behindInMarks .NotIn o = false := by rfl) : PT X (.Compare i [.NotIn] [o] pos) (tT (tst (op2 dninS f g))) :=
  dt_cmp (pt_cmp (pc_dnotin hu hi ho) hm) fun σ H Q q => din_aux (p := fun b => !b) q
def D.isDict : D → Bool
  | .dk _ _ => true
  | .dt _ _ => true
  | .fk _ _ => true
  | _ => false
theorem isD_of {W : Wd} {B H : Hp} {d : D} {x : V} (s : Sub B H) (r : RepW W B H d x) (h : d.isDict = true) : ∃ a, x = .ref a ∧ IsD H a := by
  cases d with
  | dk ks ds =>
    obtain ⟨a, vs, e, hB, _⟩ := r.strong (fun _ z => nomatch z)
    exact ⟨a, e, .inl ⟨_, s.rd hB⟩⟩
  | dt ks ds =>
    obtain ⟨a, vs, e, hB, _⟩ := r.strong (fun _ z => nomatch z)
    exact ⟨a, e, .inr ⟨_, .inl (s _ _ hB)⟩⟩
  | fk ks ds =>
    obtain ⟨a, vs, od, e, hB, _⟩ := r.strong (fun _ z => nomatch z)
    exact ⟨a, e, .inl ⟨_, .inr ⟨od, s _ _ hB⟩⟩⟩
  | _ => cases h
def get1E (f g : Rho → M D) : Rho → M D := fun ρ => bnd (f ρ) fun x => chk (x.isDict = true) (bnd (g ρ) fun y => get1S x y)
theorem d_get1 (hu : X.A.units + 1 < cLine) (ho : PE X o (tW f)) (he : PE X e (tW g)) (m : M1 X o "get" apos e pos) : PE X (.Call (.Attribute o "get" apos) [e] [] pos) (tD (get1E f g)) :=
  pe_imp (pe_dget1 hu ho he m) fun σ H Q ⟨gg, P, E, hf, k⟩ => ⟨gg, _, E, hf, fun dx px x B1 H1 w1 r1 => by
    obtain ⟨a, e, hd⟩ := isD_of w1.bh r1 px.1
    refine ⟨a, e, hd, gg.at B1, _, E.grow w1, px.2, fun dy py y B2 H2 w2 r2 => ?_⟩
    have py : get1S dx dy P := py
    cases q : dlook dx dy with
    | none =>
      have e : get1S dx dy = die := by unfold get1S; rw [q]
      rw [e] at py; exact py.elim
    | some od =>
      have e2 : get1S dx dy = ret (od.getD .non) := by unfold get1S; rw [q]
      rw [e2] at py
      obtain ⟨a', e', _, h1, h2⟩ := dget_of w2.bh (r1.grow w2) r2 q
      cases e.symm.trans e'
      cases od with
      | none => exact ⟨none, h1 rfl, k _ py _ _ _ (w1.trans w2) rfl⟩
      | some d =>
        obtain ⟨v, h3, h4⟩ := h2 d rfl
        exact ⟨some v, h3, k _ py _ _ _ (w1.trans w2) h4⟩⟩
def get2S (x y z : D) : M D := match dlook x y with
  | some o => ret (o.getD z)
  | _ => die
def get2E (f g h : Rho → M D) : Rho → M D := fun ρ => bnd (f ρ) fun x => chk (x.isDict = true) (bnd (g ρ) fun y => bnd (h ρ) fun z => get2S x y z)
theorem d_get2 (hu : X.A.units + 1 < cLine) (ho : PE X o (tW f)) (he : PE X e (tW g)) (hz : PE X z (tD h)) (m : M2 X o "get" apos e z pos) : PE X (.Call (.Attribute o "get" apos) [e, z] [] pos) (tD (get2E f g h)) :=
  pe_imp (pe_dget2 hu ho he hz m) fun σ H Q ⟨gg, P, E, hf, k⟩ => ⟨gg, _, E, hf, fun dx px x B1 H1 w1 r1 => by
    obtain ⟨a, e, hd⟩ := isD_of w1.bh r1 px.1
    refine ⟨a, e, hd, gg.at B1, _, E.grow w1, px.2, fun dy py y B2 H2 w2 r2 => ⟨gg.at B2, _, (E.grow w1).grow w2, py, fun dz pz z B3 H3 w3 r3 => ?_⟩⟩
    have pz : get2S dx dy dz P := pz
    cases q : dlook dx dy with
    | none =>
      have e : get2S dx dy dz = die := by unfold get2S; rw [q]
      rw [e] at pz; exact pz.elim
    | some od =>
      have e2 : get2S dx dy dz = ret (od.getD dz) := by unfold get2S; rw [q]
      rw [e2] at pz
      obtain ⟨a', e', _, h1, h2⟩ := dget_of w3.bh ((r1.grow w2).grow w3) (r2.grow w3) q
      cases e.symm.trans e'
      cases od with
      | none => exact ⟨none, h1 rfl, k _ pz _ _ _ ((w1.trans w2).trans w3) r3⟩
      | some d =>
        obtain ⟨v, h3, h4⟩ := h2 d rfl
        exact ⟨some v, h3, k _ pz _ _ _ ((w1.trans w2).trans w3) h4⟩⟩

/-! ### a list's, a tuple's items -/
def ixS (x y : D) : M D := match x, y with
  | .lst ds, .int i => match atI ds i with
    | some d => ret d
    | none => die
  | .tup ds, .int i => match atI ds i with
    | some d => ret d
    | none => die
  | .str x, .int i => match atI x.cps.toList i with
    | some c => chk (x.length ≤ 1000000) (ret (.str ⟨#[c]⟩))
    | none => die
  | _, _ => die
theorem atI_rep {B : Hp} {ds : List D} {vs : List V} {i : Int} {d : D} (r : RepL B ds vs) (h : atI ds i = some d) : ∃ v, atI vs i = some v ∧ Rep B d v := by
  unfold atI at h ⊢
  rw [r.length]
  cases q : ixN ds.length i with
  | none => rw [q] at h; cases h
  | some j => rw [q] at h; exact r.get' h
theorem d_ix (hx : PE X a (tW f)) (hi : PE X b (tW g)) (hs : PlainIx b := by exact fun _ _ => rfl) : PE X (.Subscript a b pos) (tD (op2 ixS f g)) :=
  pe_imp (pe_ix ix_seq hx hi hs) fun σ H Q ⟨gg, P, E, hf, k⟩ => ⟨gg, _, E, hf, fun dx px x B1 H1 w1 r1 => ⟨gg.at B1, _, E.grow w1, px, fun dy py y B2 H2 w2 r2 => by
    have py : ixS dx dy P := py
    cases dy with
    | int i =>
      cases dx with
      | lst ds =>
        cases q : atI ds i with
        | none =>
          have e : ixS (.lst ds) (.int i) = die := by unfold ixS; simp only [q]
          rw [e] at py; exact py.elim
        | some d =>
          have e : ixS (.lst ds) (.int i) = ret d := by unfold ixS; simp only [q]
          rw [e] at py
          obtain ⟨p, vs, e1, h1, rr⟩ := (r1.grow w2).lst w2.bh
          obtain ⟨v, e2, h2⟩ := atI_rep rr q
          exact .inl ⟨p, vs, i, v, e1, r2.int, SqL.of h1, e2, k d py v _ _ (w1.trans w2) h2⟩
      | tup ds =>
        cases q : atI ds i with
        | none =>
          have e : ixS (.tup ds) (.int i) = die := by unfold ixS; simp only [q]
          rw [e] at py; exact py.elim
        | some d =>
          have e : ixS (.tup ds) (.int i) = ret d := by unfold ixS; simp only [q]
          rw [e] at py
          obtain ⟨p, vs, e1, h1, rr⟩ := (r1.grow w2).tup w2.bh
          obtain ⟨v, e2, h2⟩ := atI_rep rr q
          exact .inr (.inl ⟨p, vs, i, v, e1, r2.int, SqT.of h1, e2, k d py v _ _ (w1.trans w2) h2⟩)
      | str t =>
        cases q : atI t.cps.toList i with
        | none =>
          have e : ixS (.str t) (.int i) = die := by unfold ixS; simp only [q]
          rw [e] at py; exact py.elim
        | some c =>
          have e : ixS (.str t) (.int i) = chk (t.length ≤ 1000000) (ret (.str ⟨#[c]⟩)) := by unfold ixS; simp only [q]
          rw [e] at py
          exact .inr (.inr ⟨t, i, c, (r1.grow w2).str, r2.int, mil_line py.1, q, k (.str ⟨#[c]⟩) py.2 _ _ _ (w1.trans w2) rfl⟩)
      | _ => exact py.elim
    | _ => cases dx <;> exact py.elim⟩⟩

/-! ### slices -/
def cutD (ds : List D) (lo hi : Option Int) : List D := (ds.drop (HT.sIx ds.length 0 lo)).take (HT.sIx ds.length ds.length hi - HT.sIx ds.length 0 lo)
theorem cut_rep {B : Hp} {ds : List D} {vs : List V} (lo hi : Option Int) (r : RepL B ds vs) : RepL B (cutD ds lo hi) (cutV vs lo hi) := by
  unfold cutD cutV
  rw [r.length]
  exact (r.drop _).take _
/-- a part of a slice: left out, or an int -/
def part (f : Rho → M D) : Rho → M (Option Int) := fun ρ => bnd (f ρ) fun
  | .int i => ret (some i)
  | _ => die
def noPart : Rho → M (Option Int) := fun _ => ret none
def tPa (f : Rho → M (Option Int)) : TO := fun σ H Q => ∃ (g : G) (P : Option Int → Prop), EnvG g σ H ∧ f g.ρ P ∧ ∀ o, P o → ∀ B' H', Grow g.W g.B H B' H' → Q o H'
theorem po_imp {oe : Option Expr} {t t' : TO} (h : PO X oe t) (k : ∀ σ H Q, t' σ H Q → t σ H Q) : PO X oe t' := ⟨fun pins s σ H Q I q => h.run pins s σ H Q I (k _ _ _ q)⟩
theorem p_none : PO X none (tPa noPart) := po_imp po_none fun σ H Q ⟨g, P, E, hf, k⟩ => k _ hf _ _ (Grow.refl E.sub E.wok)
theorem p_some (h : PE X e (tW f)) : PO X (some e) (tPa (part f)) := po_imp (po_some h) fun σ H Q ⟨g, P, E, hf, k⟩ => ⟨g, _, E, hf, fun d pd v B' H' w r => by
  cases d with
  | int i => exact ⟨i, r.int, k _ pd _ _ w⟩
  | _ => exact pd.elim⟩
def sliT (f : Rho → M D) (l u : Rho → M (Option Int)) : Rho → M D := fun ρ => bnd (f ρ) fun x => bnd (l ρ) fun lo => bnd (u ρ) fun hi => match x with
  | .tup ds => ret (.tup (cutD ds lo hi))
  | .wd ds => chk (¬ (HT.sIx ds.length 0 lo = 0 ∧ HT.sIx ds.length ds.length hi = ds.length)) (ret (.tup (cutD ds lo hi)))
  | _ => die
def sliL (f : Rho → M D) (l u : Rho → M (Option Int)) : Rho → M (List D) := fun ρ => bnd (f ρ) fun x => bnd (l ρ) fun lo => bnd (u ρ) fun hi => match x with
  | .lst ds => ret (cutD ds lo hi)
  | _ => die
theorem d_sliT {lo hi : Option Expr} {p2 : Pos} {l u : Rho → M (Option Int)} (hx : PE X a (tD f)) (hl : PO X lo (tPa l)) (hu : PO X hi (tPa u)) : PE X (.Subscript a (.Slice lo hi none p2) pos) (tD (sliT f l u)) :=
  pe_imp (pe_slice sl_tupA hx hl hu) fun σ H Q ⟨gg, P, E, hf, k⟩ => ⟨gg, _, E, hf, fun dx px x B1 H1 w1 r1 => ⟨gg.at B1, _, E.grow w1, px, fun lo py B2 H2 w2 => ⟨gg.at B2, _, (E.grow w1).grow w2, py, fun hi pz B3 H3 w3 => by
    cases dx with
    | tup ds =>
      obtain ⟨p, vs, e1, h1, rr⟩ := (r1.mono w2.bb).mono w3.bb
      refine ⟨p, vs, e1, SqT.of (w3.bh _ _ h1), fun hw => ?_, fun hn q hq => ?_⟩
      · refine k _ pz _ _ _ ((w1.trans w2).trans w3) ⟨p, vs, rfl, h1, ?_⟩
        have e : cutV vs lo hi = vs := by
          unfold cutV
          rw [hw.1, hw.2, List.drop_zero, Nat.sub_zero, List.take_length]
        rw [← e]
        exact cut_rep lo hi rr
      · have n := Grow.new (o := .tup (cutV vs lo hi)) w3.bh w3.wk hq
        exact k _ pz (.ref q) _ _ (((w1.trans w2).trans w3).trans n) ⟨q, _, rfl, upd_same, (cut_rep lo hi rr).mono n.bb⟩
    | wd ds =>
      obtain ⟨p, vs, od, e1, h1, n1, rr⟩ := (r1.mono w2.bb).mono w3.bb
      refine ⟨p, vs, e1, .inl (.inr ⟨od, w3.bh _ _ h1⟩), fun hw => absurd (by rw [rr.length] at hw; exact hw) pz.1, fun hn q hq => ?_⟩
      have n := Grow.new (o := .tup (cutV vs lo hi)) w3.bh w3.wk hq
      exact k _ pz.2 (.ref q) _ _ (((w1.trans w2).trans w3).trans n) ⟨q, _, rfl, upd_same, (cut_rep lo hi rr).mono n.bb⟩
    | _ => exact pz.elim⟩⟩⟩
theorem d_sliL {lo hi : Option Expr} {p2 : Pos} {l u : Rho → M (Option Int)} (hx : PE X a (tW f)) (hl : PO X lo (tPa l)) (hu : PO X hi (tPa u)) : PE X (.Subscript a (.Slice lo hi none p2) pos) (tF (sliL f l u)) :=
  pe_imp (pe_slice sl_list hx hl hu) fun σ H Q ⟨gg, P, E, hf, k⟩ => ⟨gg, _, E, hf, fun dx px x B1 H1 w1 r1 => ⟨gg.at B1, _, E.grow w1, px, fun lo py B2 H2 w2 => ⟨gg.at B2, _, (E.grow w1).grow w2, py, fun hi pz B3 H3 w3 => by
    cases dx with
    | lst ds =>
      obtain ⟨p, vs, e1, h1, rr⟩ := ((r1.grow w2).grow w3).lst w3.bh
      refine ⟨p, vs, e1, SqL.of h1, fun q hq => ?_⟩
      have n := Grow.new0 (o := .lst (cutV vs lo hi)) w3.bh w3.wk hq
      have w := (w1.trans w2).trans w3
      exact k _ pz q _ _ _ (w.trans n) (w.pnone E.wok hq) (w3.bh.none hq) upd_same (cut_rep lo hi rr)
    | _ => exact pz.elim⟩⟩⟩
/-- xs[::-1], a list -/
def revL (f : Rho → M D) : Rho → M (List D) := fun ρ => bnd (f ρ) fun
  | .lst ds => ret ds.reverse
  | _ => die
theorem d_revL {k p1 p2 p3} (hx : PE X a (tW f)) : PE X (.Subscript a (.Slice none none (some (.UnaryOp .USub (.Constant (.int 1) k p1) p2)) p3) pos) (tF (revL f)) :=
  pe_imp (pe_revL hx) fun σ H Q ⟨gg, P, E, hf, k⟩ => ⟨gg, _, E, hf, fun dx px x B1 H1 w1 r1 => by
    cases dx with
    | lst ds =>
      obtain ⟨p, vs, e1, h1, rr⟩ := r1.lst w1.bh
      refine ⟨p, vs, e1, SqL.of h1, fun q hq => ?_⟩
      exact k _ px q _ _ _ (w1.trans (Grow.new0 (o := .lst vs.reverse) w1.bh w1.wk hq)) (w1.pnone E.wok hq) (w1.bh.none hq) upd_same rr.rev
    | _ => exact px.elim⟩

/-! ### and, or, not, if -/
def andE (f g : Rho → M D) : Rho → M D := fun ρ => bnd (f ρ) fun
  | .bl true => g ρ
  | .bl false => ret (.bl false)
  | _ => die
def orE (f g : Rho → M D) : Rho → M D := fun ρ => bnd (f ρ) fun
  | .bl true => ret (.bl true)
  | .bl false => g ρ
  | _ => die
def notE (f : Rho → M D) : Rho → M D := fun ρ => bnd (f ρ) fun
  | .bl b => ret (.bl (!b))
  | _ => die
theorem d_one {op} (h : PE X a (tD f)) : PE X (.BoolOp op [a] pos) (tD f) := pe_one h
theorem d_and (ha : PE X a (tD f)) (hb : PE X (.BoolOp .And (b :: rest) pos) (tD g)) : PE X (.BoolOp .And (a :: b :: rest) pos) (tD (andE f g)) :=
  pe_imp (pe_and ha hb) fun σ H Q ⟨gg, P, E, hf, k⟩ => ⟨gg, _, E, hf, fun dx px x B1 H1 w1 r1 => by
    cases dx with
    | bl c =>
      refine ⟨c, r1, ?_⟩
      cases c with
      | true => exact iteT ⟨gg.at B1, P, E.grow w1, px, fun d pd v B2 H2 w2 r2 => k d pd v B2 H2 (w1.trans w2) r2⟩
      | false => exact iteF (k _ px _ _ _ w1 rfl)
    | _ => exact px.elim⟩
theorem d_or (ha : PE X a (tD f)) (hb : PE X (.BoolOp .Or (b :: rest) pos) (tD g)) : PE X (.BoolOp .Or (a :: b :: rest) pos) (tD (orE f g)) :=
  pe_imp (pe_or ha hb) fun σ H Q ⟨gg, P, E, hf, k⟩ => ⟨gg, _, E, hf, fun dx px x B1 H1 w1 r1 => by
    cases dx with
    | bl c =>
      refine ⟨c, r1, ?_⟩
      cases c with
      | true => exact iteT (k _ px _ _ _ w1 rfl)
      | false => exact iteF ⟨gg.at B1, P, E.grow w1, px, fun d pd v B2 H2 w2 r2 => k d pd v B2 H2 (w1.trans w2) r2⟩
    | _ => exact px.elim⟩
theorem d_not (ha : PE X a (tD f)) : PE X (.UnaryOp .Not a pos) (tD (notE f)) :=
  pe_imp (pe_not ha) fun σ H Q ⟨gg, P, E, hf, k⟩ => ⟨gg, _, E, hf, fun dx px x B1 H1 w1 r1 => by
    cases dx with
    | bl c => exact ⟨c, r1, k _ px _ _ _ w1 rfl⟩
    | _ => exact px.elim⟩
def andT (f g : Rho → M Bool) : Rho → M Bool := fun ρ => bnd (f ρ) fun c => if c = true then g ρ else ret false
def orT (f g : Rho → M Bool) : Rho → M Bool := fun ρ => bnd (f ρ) fun c => if c = true then ret true else g ρ
def notT (f : Rho → M Bool) : Rho → M Bool := fun ρ => bnd (f ρ) fun c => ret (!c)
section
variable {t u : Rho → M Bool}
theorem pw_imp {t t' : TT} (h : PW X e t) (k : ∀ σ H Q, t' σ H Q → t σ H Q) : PW X e t' := ⟨fun wh pins s σ H Q I q => h.run wh pins s σ H Q I (k _ _ _ q)⟩
theorem t_not (ha : PT X a (tT t)) : PT X (.UnaryOp .Not a pos) (tT (notT t)) := pt_imp (pt_not ha) fun σ H Q ⟨gg, P, E, hf, k⟩ => ⟨gg, _, E, hf, fun c pc B1 H1 w1 => k _ pc B1 H1 w1⟩
theorem w_and1 (ha : PT X a (tT t)) : PW X (.BoolOp .And [a] pos) (tT t) := pw_and1 ha
theorem w_or1 (ha : PT X a (tT t)) : PW X (.BoolOp .Or [a] pos) (tT t) := pw_or1 ha
theorem w_and (ha : PT X a (tT t)) (hb : PW X (.BoolOp .And (b :: rest) pos) (tT u)) : PW X (.BoolOp .And (a :: b :: rest) pos) (tT (andT t u)) :=
  pw_imp (pw_and ha hb) fun σ H Q ⟨gg, P, E, hf, k⟩ => ⟨gg, _, E, hf, fun c pc B1 H1 w1 => by
    cases c with
    | true => exact iteT ⟨gg.at B1, P, E.grow w1, pc, fun d pd B2 H2 w2 => k d pd B2 H2 (w1.trans w2)⟩
    | false => exact iteF (k _ pc _ _ w1)⟩
theorem w_or (ha : PT X a (tT t)) (hb : PW X (.BoolOp .Or (b :: rest) pos) (tT u)) : PW X (.BoolOp .Or (a :: b :: rest) pos) (tT (orT t u)) :=
  pw_imp (pw_or ha hb) fun σ H Q ⟨gg, P, E, hf, k⟩ => ⟨gg, _, E, hf, fun c pc B1 H1 w1 => by
    cases c with
    | true => exact iteT (k _ pc _ _ w1)
    | false => exact iteF ⟨gg.at B1, P, E.grow w1, pc, fun d pd B2 H2 w2 => k d pd B2 H2 (w1.trans w2)⟩⟩
def ifE (t : Rho → M Bool) (f g : Rho → M D) : Rho → M D := fun ρ => bnd (t ρ) fun c => if c = true then f ρ else g ρ
theorem d_if (hc : PT X c (tT t)) (ha : PE X a (tD f)) (hb : PE X b (tD g)) : PE X (.IfExp c a b pos) (tD (ifE t f g)) :=
  pe_imp (pe_ifExp hc ha hb) fun σ H Q ⟨gg, P, E, hf, k⟩ => ⟨gg, _, E, hf, fun c pc B1 H1 w1 => by
    cases c with
    | true => exact iteT ⟨gg.at B1, P, E.grow w1, pc, fun d pd v B2 H2 w2 r => k d pd v B2 H2 (w1.trans w2) r⟩
    | false => exact iteF ⟨gg.at B1, P, E.grow w1, pc, fun d pd v B2 H2 w2 r => k d pd v B2 H2 (w1.trans w2) r⟩⟩
end

/-! ### calls of built-ins -/
def CallD (X : Cx) (fn : Value) (h : List D → M D) : Prop := ∃ r, CallR X fn r ∧ ∀ (W : Wd) (B H : Hp) (ds : List D) (vs : List V) (Q : VK) (P : D → Prop), Sub B H → WOk W B H → RepWL W B H ds vs → h ds P →
  (∀ d, P d → ∀ v B' H', Grow W B H B' H' → Rep B' d v → Q v H') → r vs H Q
def CallF (X : Cx) (fn : Value) (h : List D → M (List D)) : Prop := ∃ r, CallR X fn r ∧ ∀ (W : Wd) (B H : Hp) (ds : List D) (vs : List V) (Q : VK) (P : List D → Prop), Sub B H → WOk W B H → RepWL W B H ds vs → h ds P →
  (∀ ds, P ds → ∀ p vs B' H', Grow W B H B' H' → H p = none → B' p = none → H' p = some (.lst vs) → RepL B' ds vs → Q (.ref p) H') → r vs H Q
def app {α : Type} (t : Rho → M (List D)) (h : List D → M α) : Rho → M α := fun ρ => bnd (t ρ) h
section
variable {x : Str} {id T : String} {p : Pos} {t : Rho → M (List D)} {h : List D → M D} {hL : List D → M (List D)}
theorem d_callB (hc : CallD X (.builtin id) h) (hg : Gl X x) (hm : X.mg x = none) (hv : bootBuiltins x = some (.builtin id)) (ha : PA X (e :: es) (tWs t)) (hn : x ≠ "__name__" := by decide) (hdb : (x == ("__debug__" : Str)) = false := by decide)
    (he : starEach (e :: es) X.env = (false, eval e X.env) :: starEach es X.env := by rfl) (hpl : (backTo pos (starEach es X.env)).any (·.1) = false := by rfl) : PE X (.Call (.Name x p) (e :: es) [] pos) (tD (app t h)) := by
  obtain ⟨r, hr, k⟩ := hc
  exact pe_imp (pe_callB hr hg hm hv ha hn hdb he hpl) fun σ H Q ⟨gg, P, E, hf, kk⟩ => ⟨gg, _, E, hf, fun ds pds vs B1 H1 w1 r1 => k gg.W B1 H1 ds vs Q P w1.bh w1.wk r1 pds fun d pd v B2 H2 w2 r2 => kk d pd v B2 H2 (w1.trans w2) r2⟩
theorem d_callTy (hc : CallD X (.type T) h) (hg : Gl X x) (hm : X.mg x = none) (hv : bootBuiltins x = some (.type T)) (ha : PA X (e :: es) (tWs t)) (hn : x ≠ "__name__" := by decide) (hdb : (x == ("__debug__" : Str)) = false := by decide)
    (he : starEach (e :: es) X.env = (false, eval e X.env) :: starEach es X.env := by rfl) (hpl : (backTo pos (starEach es X.env)).any (·.1) = false := by rfl) : PE X (.Call (.Name x p) (e :: es) [] pos) (tD (app t h)) := by
  obtain ⟨r, hr, k⟩ := hc
  exact pe_imp (pe_callTy hr hg hm hv ha hn hdb he hpl) fun σ H Q ⟨gg, P, E, hf, kk⟩ => ⟨gg, _, E, hf, fun ds pds vs B1 H1 w1 r1 => k gg.W B1 H1 ds vs Q P w1.bh w1.wk r1 pds fun d pd v B2 H2 w2 r2 => kk d pd v B2 H2 (w1.trans w2) r2⟩
theorem f_callB (hc : CallF X (.builtin id) hL) (hg : Gl X x) (hm : X.mg x = none) (hv : bootBuiltins x = some (.builtin id)) (ha : PA X (e :: es) (tWs t)) (hn : x ≠ "__name__" := by decide) (hdb : (x == ("__debug__" : Str)) = false := by decide)
    (he : starEach (e :: es) X.env = (false, eval e X.env) :: starEach es X.env := by rfl) (hpl : (backTo pos (starEach es X.env)).any (·.1) = false := by rfl) : PE X (.Call (.Name x p) (e :: es) [] pos) (tF (app t hL)) := by
  obtain ⟨r, hr, k⟩ := hc
  exact pe_imp (pe_callB hr hg hm hv ha hn hdb he hpl) fun σ H Q ⟨gg, P, E, hf, kk⟩ => ⟨gg, _, E, hf, fun ds pds vs B1 H1 w1 r1 => k gg.W B1 H1 ds vs Q P w1.bh w1.wk r1 pds fun es pd p vs B2 H2 w2 h0 hb hl r2 => kk es pd p vs B2 H2 (w1.trans w2) (w1.pnone E.wok h0) hb hl r2⟩
theorem f_callTy (hc : CallF X (.type T) hL) (hg : Gl X x) (hm : X.mg x = none) (hv : bootBuiltins x = some (.type T)) (ha : PA X (e :: es) (tWs t)) (hn : x ≠ "__name__" := by decide) (hdb : (x == ("__debug__" : Str)) = false := by decide)
    (he : starEach (e :: es) X.env = (false, eval e X.env) :: starEach es X.env := by rfl) (hpl : (backTo pos (starEach es X.env)).any (·.1) = false := by rfl) : PE X (.Call (.Name x p) (e :: es) [] pos) (tF (app t hL)) := by
  obtain ⟨r, hr, k⟩ := hc
  exact pe_imp (pe_callTy hr hg hm hv ha hn hdb he hpl) fun σ H Q ⟨gg, P, E, hf, kk⟩ => ⟨gg, _, E, hf, fun ds pds vs B1 H1 w1 r1 => k gg.W B1 H1 ds vs Q P w1.bh w1.wk r1 pds fun es pd p vs B2 H2 w2 h0 hb hl r2 => kk es pd p vs B2 H2 (w1.trans w2) (w1.pnone E.wok h0) hb hl r2⟩
end
/-! ### calls of defs -/
/-- a def's promise: by data -/
def spF (n : Nat) (Fn : List Sl → M D) : Sp := fun vs H Q _ => ∃ (W : Wd) (B : Hp) (ds : List Sl) (P : D → Prop), ds.length = n ∧ Sub B H ∧ WOk W B H ∧ RepAL W B ds vs ∧ Fn ds P ∧ ∀ d, P d → ∀ v B' H', Grow W B H B' H' → Rep B' d v → Q v H'
def call (n : Nat) (Fn : List Sl → M D) (t : Rho → M (List Sl)) : Rho → M D := fun ρ => bnd (t ρ) fun ds => chk (ds.length = n) (Fn ds)
theorem d_call {x : Str} {p : Pos} {k fa n : Nat} {fd : FuncData} {ps : List Str} {Fn : List Sl → M D} {t : Rho → M (List Sl)} (F : FnOk X.prog X.w X.K X.mg X.base CX0 k fa fd ps (spF n Fn)) (hr : Room k X.A) (hg : Gl X x) (hm : X.mg x = some (.ref fa)) (hk : PySem.W.keepIn X.K (.ref fa) = true)
    (hb : Binds X.K fd ps []) (ha : PA X (e :: es) (tA t)) (hdb : (x == ("__debug__" : Str)) = false := by decide) (he : starEach (e :: es) X.env = (false, eval e X.env) :: starEach es X.env := by rfl) (hpl : (backTo pos (starEach es X.env)).any (·.1) = false := by rfl) :
    PE X (.Call (.Name x p) (e :: es) [] pos) (tD (call n Fn t)) :=
  pe_imp (pe_call (E := E0) F hr hg hm hk hb .nil pass0 ha hdb he hpl) fun σ H Q ⟨gg, P, E, hf, k⟩ => ⟨gg, _, E, hf, fun ds pds vs B1 H1 w1 r1 => by
    show spF n Fn (vs ++ []) H1 Q E0
    rw [List.append_nil]
    exact ⟨gg.W, B1, ds, P, pds.1, w1.bh, w1.wk, r1, pds.2, fun d pd v B2 H2 w2 r2 => k d pd v B2 H2 (w1.trans w2) r2⟩⟩
end
end EC
end
/-! ## C4 -/
section
set_option Elab.async false
set_option linter.all false
set_option maxRecDepth 100000
set_option maxHeartbeats 1000000
/-! C4: statements, targets, loops, comprehensions, defs. -/
namespace EC
open PySem PySem.Spec PyProof.Rows L2

/-! ### statements -/
inductive Res where
  | nx (ρ : Rho) | rt (d : D) | bk (ρ : Rho) | ct (ρ : Rho)
abbrev G.go (g : G) (B' : Hp) (ρ' : Rho) : G := { g with B := B', ρ := ρ' }
structure Fin (g : G) (P : Res → Prop) (Dn : Ends) : Prop where
  nx : ∀ ρ', P (.nx ρ') → ∀ σ' B' H', Sub g.B B' → EnvG (g.go B' ρ') σ' H' → Dn.nx σ' H'
  bk : ∀ ρ', P (.bk ρ') → ∀ σ' B' H', Sub g.B B' → EnvG (g.go B' ρ') σ' H' → Dn.bk σ' H'
  ct : ∀ ρ', P (.ct ρ') → ∀ σ' B' H', Sub g.B B' → EnvG (g.go B' ρ') σ' H' → Dn.ct σ' H'
  rt : ∀ d, P (.rt d) → ∀ v B' H', Grow g.W g.B0 g.H0 B' H' → Rep B' d v → Dn.rt v H'
def tS (s : Rho → M Res) : TS := fun Dn σ H => ∃ (g : G) (P : Res → Prop), EnvG g σ H ∧ s g.ρ P ∧ Fin g P Dn
/-- the same P, another place -/
theorem Fin.go {g : G} {P : Res → Prop} {Dn : Ends} (f : Fin g P Dn) (B' : Hp) (ρ' : Rho) (s : Sub g.B B') : Fin (g.go B' ρ') P Dn :=
  ⟨fun r p σ B H q => f.nx r p σ B H (s.tr q), fun r p σ B H q => f.bk r p σ B H (s.tr q), fun r p σ B H q => f.ct r p σ B H (s.tr q), f.rt⟩
section
variable {X : Cx} {e a b c : Expr} {st : Stmt} {sts rest body : List Stmt} {es : List Expr} {pos : Pos} {f g : Rho → M D} {s s1 s2 : Rho → M Res}
theorem ps_imp {t t' : TS} (h : PS X st t) (k : ∀ Dn σ H, t' Dn σ H → t Dn σ H) : PS X st t' := ⟨fun pins s σ H D I q => h.run pins s σ H D I (k _ _ _ q)⟩
theorem pss_imp {t t' : TS} (h : PSs X sts t) (k : ∀ Dn σ H, t' Dn σ H → t Dn σ H) : PSs X sts t' := ⟨fun pins s σ H D I q => h.run pins s σ H D I (k _ _ _ q)⟩
def seqS (s t : Rho → M Res) : Rho → M Res := fun ρ => bnd (s ρ) fun
  | .nx ρ' => t ρ'
  | r => ret r
theorem s_cons (h1 : PS X st (tS s1)) (h2 : PSs X rest (tS s2)) : PSs X (st :: rest) (tS (seqS s1 s2)) :=
  pss_imp (pss_cons h1 h2) fun Dn σ H ⟨g, P, E, hf, k⟩ => ⟨g, _, E, hf, ⟨fun ρ' p σ' B' H' sb E' => ⟨g.go B' ρ', P, E', p, k.go B' ρ' sb⟩, fun ρ' p => k.bk ρ' p, fun ρ' p => k.ct ρ' p, fun d p => k.rt d p⟩⟩
theorem s_one (h1 : PS X st (tS s1)) : PSs X [st] (tS s1) := pss_one h1
def skip : Rho → M Res := fun ρ => ret (.nx ρ)
theorem s_nil : PSs X [] (tS skip) := pss_imp pss_nil fun Dn σ H ⟨g, P, E, hf, k⟩ => k.nx _ hf σ g.B H Sub.rfl' E
theorem s_pass : PS X (.Pass pos) (tS skip) := ps_imp ps_pass fun Dn σ H ⟨g, P, E, hf, k⟩ => k.nx _ hf σ g.B H Sub.rfl' E
def brk : Rho → M Res := fun ρ => ret (.bk ρ)
theorem s_break : PS X (.Break pos) (tS brk) := ps_imp ps_break fun Dn σ H ⟨g, P, E, hf, k⟩ => k.bk _ hf σ g.B H Sub.rfl' E
def cnt : Rho → M Res := fun ρ => ret (.ct ρ)
theorem s_continue : PS X (.Continue pos) (tS cnt) := ps_imp ps_continue fun Dn σ H ⟨g, P, E, hf, k⟩ => k.ct _ hf σ g.B H Sub.rfl' E
def never : Rho → M Res := fun _ => die
theorem s_never : PS X st (tS never) := ps_imp ps_never fun Dn σ H ⟨g, P, E, hf, k⟩ => hf
theorem ss_never : PSs X sts (tS never) := pss_imp pss_never fun Dn σ H ⟨g, P, E, hf, k⟩ => hf
def retS (f : Rho → M D) : Rho → M Res := fun ρ => bnd (f ρ) fun d => ret (.rt d)
theorem s_ret (h : PE X e (tD f)) : PS X (.Return (some e) pos) (tS (retS f)) :=
  ps_imp (ps_ret h) fun Dn σ H ⟨g, P, E, hf, k⟩ => ⟨g, _, E, hf, fun d pd v B' H' w r => k.rt d pd v B' H' (E.r.trans w) r⟩
def expS (f : Rho → M D) : Rho → M Res := fun ρ => bnd (f ρ) fun _ => ret (.nx ρ)
theorem s_exp (h : PE X e (tD f)) (hs : swapsWith e none pos.line X.env = pure false := by rfl) : PS X (.Expr e pos) (tS (expS f)) :=
  ps_imp (ps_expr h hs) fun Dn σ H ⟨g, P, E, hf, k⟩ => ⟨g, _, E, hf, fun d pd v B' H' w r => k.nx _ pd σ B' H' w.bb (E.grow w)⟩
def ifS (t : Rho → M Bool) (s1 s2 : Rho → M Res) : Rho → M Res := fun ρ => bnd (t ρ) fun c => if c = true then s1 ρ else s2 ρ
theorem s_if {t : Rho → M Bool} {x y : List Stmt} (hc : PT X c (tT t)) (ha : PSs X x (tS s1)) (hb : PSs X y (tS s2)) : PS X (.If c x y pos) (tS (ifS t s1 s2)) :=
  ps_imp (ps_if hc ha hb) fun Dn σ H ⟨g, P, E, hf, k⟩ => ⟨g, _, E, hf, fun c pc B1 H1 w1 => by
    cases c with
    | true => exact iteT ⟨g.at B1, P, E.grow w1, pc, k.go B1 g.ρ w1.bb⟩
    | false => exact iteF ⟨g.at B1, P, E.grow w1, pc, k.go B1 g.ρ w1.bb⟩⟩
/-- a list of our own becomes data -/
def give (i : Nat) (s : Rho → M Res) : Rho → M Res := fun ρ => match ρ[i]? with
  | some (.o xs) => s (ρ.set i (.d (.lst xs)))
  | _ => die
theorem give_ok {i : Nat} {Dn : Ends} {σ : L2.St} {H : Hp} (q : tS (give i s) Dn σ H) : tS s Dn σ H := by
  obtain ⟨g, P, E, hf, k⟩ := q
  have hf : give i s g.ρ P := hf
  unfold give at hf
  cases q : g.ρ[i]? with
  | none => rw [q] at hf; exact hf.elim
  | some z =>
    rw [q] at hf
    cases z with
    | o xs =>
      obtain ⟨B', sb, E'⟩ := E.give q
      exact ⟨_, P, E', hf, k.go B' _ sb⟩
    | d _ => exact hf.elim
    | no => exact hf.elim
    | k => exact hf.elim
theorem ss_give (i : Nat) (h : PSs X sts (tS s)) : PSs X sts (tS (give i s)) := pss_imp h fun Dn σ H q => give_ok q
theorem s_give (i : Nat) (h : PS X st (tS s)) : PS X st (tS (give i s)) := ps_imp h fun Dn σ H q => give_ok q

/-! ### targets -/
def Out (vs : List Nat) (σ σ' : L2.St) : Prop := σ'.length = σ.length ∧ ∀ j : Nat, j ∉ vs → σ'[j]? = σ[j]?
theorem Out.set {vs : List Nat} {σ : L2.St} {i : Nat} {x : Option V} (h : i ∈ vs) : Out vs σ (σ.set i x) := ⟨by rw [List.length_set], fun j hj => List.getElem?_set_ne (fun z => hj (by rw [← z]; exact h))⟩
theorem Out.tr {vs : List Nat} {a b c : L2.St} (h : Out vs a b) (k : Out vs b c) : Out vs a c := ⟨k.1.trans h.1, fun j hj => (k.2 j hj).trans (h.2 j hj)⟩
theorem Out.more {vs ws : List Nat} {a b : L2.St} (h : Out vs a b) (k : ∀ i ∈ vs, i ∈ ws) : Out ws a b := ⟨h.1, fun j hj => h.2 j fun z => hj (k j z)⟩
theorem wipe_get {σ : L2.St} : ∀ {vs : List Nat} {j : Nat}, j < σ.length → (wipe σ vs)[j]? = if j ∈ vs then some none else σ[j]?
  | [], j, h => by simp [wipe]
  | v :: vs, j, h => by
    unfold wipe
    by_cases hj : v = j
    · subst hj
      rw [List.getElem?_set_self (by rw [wipe_length]; exact h)]
      simp
    · rw [List.getElem?_set_ne hj, wipe_get (vs := vs) h]
      simp [Ne.symm hj]
theorem Out.wipe {vs : List Nat} {σ σ' : L2.St} (h : Out vs σ σ') : L2.wipe σ' vs = L2.wipe σ vs := by
  apply List.ext_getElem?
  intro j
  by_cases hj : j < σ.length
  · rw [wipe_get hj, wipe_get (by rw [h.1]; exact hj)]
    by_cases hv : j ∈ vs
    · simp [hv]
    · simp [hv, h.2 j hv]
  · rw [List.getElem?_eq_none (by rw [wipe_length, h.1]; omega), List.getElem?_eq_none (by rw [wipe_length]; omega)]
/-- .. and lists of our own are as they were -/
def OutG (vs : List Nat) (ρ : Rho) (σ : L2.St) (ρ' : Rho) (σ' : L2.St) : Prop := Out vs σ σ' ∧ ∀ (j : Nat) (ys : List D), ρ'[j]? = some (.o ys) → ρ[j]? = some (.o ys) ∧ σ'[j]? = σ[j]?
theorem OutG.tr {vs : List Nat} {ρ ρ1 ρ2 : Rho} {a b c : L2.St} (h : OutG vs ρ a ρ1 b) (k : OutG vs ρ1 b ρ2 c) : OutG vs ρ a ρ2 c := ⟨h.1.tr k.1, fun j ys q => by
  obtain ⟨q1, q2⟩ := k.2 j ys q
  obtain ⟨q3, q4⟩ := h.2 j ys q1
  exact ⟨q3, q2.trans q4⟩⟩
theorem OutG.more {vs ws : List Nat} {ρ ρ1 : Rho} {a b : L2.St} (h : OutG vs ρ a ρ1 b) (k : ∀ i ∈ vs, i ∈ ws) : OutG ws ρ a ρ1 b := ⟨h.1.more k, h.2⟩
/-- a target: d is stored -/
def tGd (t : D → Rho → M Rho) (vs : List Nat) : TG := fun v σ H Q => ∃ (g : G) (d : D) (P : Rho → Prop), EnvG g σ H ∧ Rep g.B d v ∧ t d g.ρ P ∧ ∀ ρ', P ρ' → ∀ σ', EnvG (g.to ρ') σ' H → OutG vs g.ρ σ ρ' σ' → Q σ' H
def tGs (t : List D → Rho → M Rho) (vs : List Nat) : TGs := fun xs σ H Q => ∃ (g : G) (ds : List D) (P : Rho → Prop), EnvG g σ H ∧ RepL g.B ds xs ∧ t ds g.ρ P ∧ ∀ ρ', P ρ' → ∀ σ', EnvG (g.to ρ') σ' H → OutG vs g.ρ σ ρ' σ' → Q σ' H
theorem pg_imp {t t' : TG} (h : PG X e t) (k : ∀ v σ H Q, t' v σ H Q → t v σ H Q) : PG X e t' := ⟨fun pins s σ H v u Q I r q => h.run pins s σ H v u Q I r (k _ _ _ _ q)⟩
theorem pgs_imp {t t' : TGs} (h : PGs X es t) (k : ∀ v σ H Q, t' v σ H Q → t v σ H Q) : PGs X es t' := ⟨fun pins s σ H v u Q I r q => h.run pins s σ H v u Q I r (k _ _ _ _ q)⟩
def nameT (i : Nat) : D → Rho → M Rho := fun d ρ => ret (ρ.set i (.d d))
theorem g_name {i : Nat} (h : PG X e (gName i)) : PG X e (tGd (nameT i) [i]) := pg_imp h fun v σ H Q ⟨g, d, P, E, r, hf, k⟩ => k _ hf _ (E.setD r) ⟨Out.set (by simp), fun j ys q => by
  have nj : i ≠ j := fun z => by
    subst z
    have hl : i < g.ρ.length := by have := lt_of_get q; simpa using this
    rw [List.getElem?_set_self hl] at q
    cases q
  rw [List.getElem?_set_ne nj] at q ⊢
  exact ⟨q, rfl⟩⟩
def nilT : List D → Rho → M Rho := fun ds ρ => match ds with
  | [] => ret ρ
  | _ => die
def consT (t : D → Rho → M Rho) (u : List D → Rho → M Rho) : List D → Rho → M Rho := fun ds ρ => match ds with
  | d :: r => bnd (t d ρ) fun ρ' => u r ρ'
  | [] => die
theorem gs_nil : PGs X [] (tGs nilT []) := pgs_imp pgs_nil fun xs σ H Q ⟨g, ds, P, E, r, hf, k⟩ => by
  cases ds with
  | nil => exact ⟨r, k _ hf σ E ⟨⟨rfl, fun _ _ => rfl⟩, fun _ _ q => ⟨q, rfl⟩⟩⟩
  | cons _ _ => exact hf.elim
theorem gs_cons {t : D → Rho → M Rho} {u : List D → Rho → M Rho} {vs ws : List Nat} (h : PG X e (tGd t vs)) (h2 : PGs X es (tGs u ws)) (hs : (assignEach (e :: es) X.env).map (·.2) = assign e X.env :: (assignEach es X.env).map (·.2) := by rfl) :
    PGs X (e :: es) (tGs (consT t u) (vs ++ ws)) := pgs_imp (pgs_cons h h2 hs) fun xs σ H Q ⟨g, ds, P, E, r, hf, k⟩ => by
  cases ds with
  | nil => exact hf.elim
  | cons d ds =>
    obtain ⟨v, rr, e1, h1, h2⟩ := r
    exact ⟨v, rr, e1, g, d, _, E, h1, hf, fun ρ' p σ' E' o => ⟨g.to ρ', ds, P, E', h2, p, fun ρ2 p2 σ2 E2 o2 => k ρ2 p2 σ2 E2 ((o.more fun i hi => List.mem_append_left _ hi).tr (o2.more fun i hi => List.mem_append_right _ hi))⟩⟩
def tupT (n : Nat) (u : List D → Rho → M Rho) : D → Rho → M Rho := fun d ρ => match d with
  | .tup ds => chk (ds.length = n) (u ds ρ)
  | _ => die
theorem g_tup {k n : Nat} {u : List D → Rho → M Rho} {vs : List Nat} (hc : X.calm = true) (h : PGs X es (tGs u vs)) (hn : (assignEach es X.env).length = n := by rfl) (hst : (assignEach es X.env).findIdx? (·.1) = none := by rfl) :
    PG X (.Tuple es k pos) (tGd (tupT n u) vs) := pg_imp (pg_tup hc h hn hst) fun v σ H Q ⟨g, d, P, E, r, hf, kk⟩ => by
  cases d with
  | tup ds =>
    obtain ⟨p, xs, e1, hB, rr⟩ := r
    exact ⟨p, xs, e1, SqT.of (E.sub _ _ hB), by rw [rr.length]; exact hf.1, g, ds, P, E, rr, hf.2, kk⟩
  | _ => exact hf.elim

/-! ### assignments -/
def asgS (f : Rho → M D) (t : D → Rho → M Rho) : Rho → M Res := fun ρ => bnd (f ρ) fun d => bnd (t d ρ) fun ρ' => ret (.nx ρ')
theorem s_asg {t : D → Rho → M Rho} {vs : List Nat} (he : PE X e (tD f)) (hg : PG X a (tGd t vs)) (hs : swapsWithSole [a] e pos.line X.env = pure false := by rfl) (hw : swappedStores [a] e X.env = pure none := by rfl)
    (h1 : (assignEach [a] X.env).map (·.2) = [assign a X.env] := by rfl) : PS X (.Assign [a] e pos) (tS (asgS f t)) :=
  ps_imp (ps_asg he hg hs hw h1) fun Dn σ H ⟨g, P, E, hf, k⟩ => ⟨g, _, E, hf, fun d pd v B' H' w r => ⟨g.at B', d, _, E.grow w, r, pd, fun ρ' p σ' E' o => k.nx ρ' p σ' B' H' w.bb E'⟩⟩
def setS (i : Nat) (f : Rho → M D) : Rho → M Res := fun ρ => bnd (f ρ) fun d => ret (.nx (ρ.set i (.d d)))
theorem set_ok {i : Nat} {Dn : Ends} {σ : L2.St} {H : Hp} (q : tS (setS i f) Dn σ H) : tAsg (tD f) (gName i) Dn σ H := by
  obtain ⟨g, P, E, hf, k⟩ := q
  exact ⟨g, _, E, hf, fun d pd v B' H' w r => k.nx _ pd _ B' H' w.bb ((E.grow w).setD r)⟩
theorem s_set {i : Nat} (h : PS X st (tAsg (tD f) (gName i))) : PS X st (tS (setS i f)) := ps_imp h fun Dn σ H q => set_ok q
def setO (i : Nat) (f : Rho → M (List D)) : Rho → M Res := fun ρ => bnd (f ρ) fun ds => ret (.nx (ρ.set i (.o ds)))
theorem Grow.pn {W : Wd} {B H B' H' : Hp} (w : Grow W B H B' H') {p : Addr} (h : H' p = none) : H p = none := by
  cases q : H p with
  | none => rfl
  | some o => rw [w.hh p o (w.wk.nd h) q] at h; cases h
theorem s_setO {i : Nat} {t : TE} {fl : Rho → M (List D)} (h : PS X st (tAsg t (gName i))) (ht : ∀ σ H Q, tF fl σ H Q → t σ H Q) : PS X st (tS (setO i fl)) :=
  ps_imp h fun Dn σ H ⟨g, P, E, hf, k⟩ => ht _ _ _ ⟨g, _, E, hf, fun ds pds p vs B' H' w h0 hb hl r =>
    k.nx _ pds _ B' H' w.bb ((E.grow w).setO hb (E.r.pn h0) (E.wok.nd h0) hl r fun j ys hj h1 h2 => by
      obtain ⟨l, ws, q1, q2, q3, q4, q5, q6⟩ := E.own j ys h1
      rw [q1] at h2
      cases h2
      rw [q5] at h0; cases h0)⟩
/-- x = [..] on one line -/
theorem s_setL {i : Nat} {t : TE} {fl : Rho → M (List D)} (h : PS X st (tAsg t (gName i))) (ht : ∀ σ H Q, tD (asL fl) σ H Q → t σ H Q) : PS X st (tS (setS i (asL fl))) :=
  ps_imp h fun Dn σ H q => ht _ _ _ (set_ok q)

end
end EC
end
/-! ## C5 -/
section
set_option Elab.async false
set_option linter.all false
set_option maxRecDepth 100000
set_option maxHeartbeats 1000000
/-! C5: several values stored at once, loops, comprehensions, defs. -/
namespace EC
open PySem PySem.Spec PyProof.Rows L2

/-! ### several values stored at once -/
/-- values: data, or new lists -/
def RepX (H B' H' : Hp) : List Addr → List Sl → List V → Prop
  | _, [], vs => vs = []
  | av, .d d :: r, vs => ∃ v ws, vs = v :: ws ∧ Rep B' d v ∧ RepX H B' H' av r ws
  | av, .o xs :: r, vs => ∃ l ls ws, vs = .ref l :: ws ∧ l ∉ av ∧ H l = none ∧ B' l = none ∧ H' l = some (.lst ls) ∧ RepL B' xs ls ∧ RepX H B' H' (l :: av) r ws
  | _, _ :: _, _ => False
def tX (f : Rho → M (List Sl)) : TA := fun σ H Q => ∃ (g : G) (P : List Sl → Prop), EnvG g σ H ∧ f g.ρ P ∧ ∀ sls, P sls → ∀ vs B' H', Grow g.W g.B H B' H' → RepX H B' H' [] sls vs → Q vs H'
theorem RepX.length {H B' H' : Hp} : ∀ {sls : List Sl} {av : List Addr} {vs : List V}, RepX H B' H' av sls vs → vs.length = sls.length
  | [], _, _, h => by rw [show _ = [] from h]; rfl
  | .d d :: r, _, _, ⟨v, ws, e, _, t⟩ => by rw [e, List.length_cons, List.length_cons, RepX.length t]
  | .o xs :: r, _, _, ⟨l, ls, ws, e, _, _, _, _, _, t⟩ => by rw [e, List.length_cons, List.length_cons, RepX.length t]
  | .no :: _, _, _, h => h.elim
  | .k :: _, _, _, h => h.elim
/-- from a later start -/
theorem RepX.from {W : Wd} {B H B1 H1 B' H' : Hp} (w : Grow W B H B1 H1) (w' : WOk W B1 H1) {l : Addr} (hl : H1 l ≠ none) : ∀ {sls : List Sl} {av : List Addr} {vs : List V}, RepX H1 B' H' av sls vs → RepX H B' H' (av ++ [l]) sls vs
  | [], _, _, h => h
  | .d d :: r, _, _, ⟨v, ws, e, h, t⟩ => ⟨v, ws, e, h, RepX.from w w' hl t⟩
  | .o xs :: r, av, _, ⟨m, ls, ws, e, h1, h2, h3, h4, h5, t⟩ => ⟨m, ls, ws, e, by
      intro z
      rcases List.mem_append.mp z with z | z
      · exact h1 z
      · have : m = l := by simpa using z
        rw [this] at h2; exact hl h2, w.pn h2, h3, h4, h5, RepX.from w w' hl t⟩
  | .no :: _, _, _, h => h.elim
  | .k :: _, _, _, h => h.elim
theorem RepX.from0 {W : Wd} {B H B1 H1 B' H' : Hp} (w : Grow W B H B1 H1) : ∀ {sls : List Sl} {av : List Addr} {vs : List V}, RepX H1 B' H' av sls vs → RepX H B' H' av sls vs
  | [], _, _, h => h
  | .d d :: r, _, _, ⟨v, ws, e, h, t⟩ => ⟨v, ws, e, h, RepX.from0 w t⟩
  | .o xs :: r, av, _, ⟨m, ls, ws, e, h1, h2, h3, h4, h5, t⟩ => ⟨m, ls, ws, e, h1, w.pn h2, h3, h4, h5, RepX.from0 w t⟩
  | .no :: _, _, _, h => h.elim
  | .k :: _, _, _, h => h.elim
def setR (ρ : Rho) : List Nat → List Sl → Rho
  | i :: is, x :: xs => setR (ρ.set i x) is xs
  | _, _ => ρ
def setV (σ : L2.St) : List Nat → List V → L2.St
  | i :: is, v :: vs => setV (σ.set i (some v)) is vs
  | _, _ => σ
theorem setX {g : G} {H B' H' : Hp} (h0 : ∀ l, H l = none → g.H0 l = none) (hn : ∀ l, H' l ≠ none → H l = none → ND g.W l) : ∀ {sls : List Sl} {is : List Nat} {vs : List V} {av : List Addr} {σ : L2.St} {ρ : Rho}, is.length = sls.length → EnvG (g.go B' ρ) σ H' →
    RepX H B' H' av sls vs → (∀ (j : Nat) (ys : List D) (l : Addr), ρ[j]? = some (.o ys) → σ[j]? = some (some (.ref l)) → H l ≠ none ∨ l ∈ av) → EnvG (g.go B' (setR ρ is sls)) (setV σ is vs) H'
  | [], [], vs, av, σ, ρ, _, E, r, _ => by rw [show vs = [] from r]; exact E
  | [], _ :: _, _, _, _, _, h, _, _, _ => by simp at h
  | _ :: _, [], _, _, _, _, h, _, _, _ => by simp at h
  | .d d :: sls, i :: is, vs, av, σ, ρ, hl, E, ⟨v, ws, e, h, t⟩, inv => by
    rw [e]
    refine setX (σ := σ.set i (some v)) (ρ := ρ.set i (.d d)) h0 hn (by simpa using hl) (E.setD h) t fun j ys l h1 h2 => ?_
    have nj : i ≠ j := fun z => by
      subst z
      have hlt : i < ρ.length := by have := lt_of_get h1; simpa using this
      rw [List.getElem?_set_self hlt] at h1
      cases h1
    rw [List.getElem?_set_ne nj] at h1 h2
    exact inv j ys l h1 h2
  | .o xs :: sls, i :: is, vs, av, σ, ρ, hl, E, ⟨m, ls, ws, e, h1, h2, h3, h4, h5, t⟩, inv => by
    rw [e]
    refine setX (σ := σ.set i (some (.ref m))) (ρ := ρ.set i (.o xs)) h0 hn (by simpa using hl) (E.setO h3 (h0 m h2) (hn m (by rw [h4]; simp) h2) h4 h5 fun j ys hj q1 q2 => ?_) t fun j ys l q1 q2 => ?_
    · rcases inv j ys m q1 q2 with z | z
      · exact z h2
      · exact h1 z
    · by_cases nj : i = j
      · subst nj
        have hlt : i < σ.length := by have := lt_of_get q2; simpa using this
        rw [List.getElem?_set_self hlt] at q2
        cases q2
        exact .inr (by simp)
      · rw [List.getElem?_set_ne nj] at q1 q2
        rcases inv j ys l q1 q2 with z | z
        · exact .inl z
        · exact .inr (List.mem_cons_of_mem _ z)
  | .no :: _, _ :: _, _, _, _, _, _, _, h, _ => h.elim
  | .k :: _, _ :: _, _, _, _, _, _, _, h, _ => h.elim
section
variable {X : Cx} {e a b c : Expr} {st : Stmt} {sts rest body : List Stmt} {es : List Expr} {pos : Pos} {f g : Rho → M D} {s s1 s2 : Rho → M Res}
def xD (f : Rho → M D) (t : Rho → M (List Sl)) : Rho → M (List Sl) := fun ρ => bnd (f ρ) fun d => bnd (t ρ) fun ds => ret (.d d :: ds)
def xO (f : Rho → M (List D)) (t : Rho → M (List Sl)) : Rho → M (List Sl) := fun ρ => bnd (f ρ) fun d => bnd (t ρ) fun ds => ret (.o d :: ds)
theorem x_nil : PA X [] (tX nilL) := pa_imp pa_nil fun σ H Q ⟨g, P, E, hf, k⟩ => k [] hf [] _ _ (Grow.refl E.sub E.wok) rfl
theorem x_d {t : Rho → M (List Sl)} (h : PE X e (tD f)) (ht : PA X es (tX t)) (hs : starEach (e :: es) X.env = (false, eval e X.env) :: starEach es X.env := by rfl) : PA X (e :: es) (tX (xD f t)) :=
  pa_imp (pa_cons h ht hs) fun σ H Q ⟨g, P, E, hf, k⟩ => ⟨g, _, E, hf, fun d pd v B1 H1 w r => ⟨g.at B1, _, E.grow w, pd, fun ds pds vs B2 H2 w2 r2 => k _ pds _ B2 H2 (w.trans w2) ⟨v, vs, rfl, r.mono w2.bb, r2.from0 w⟩⟩⟩
theorem x_o {fl : Rho → M (List D)} {t : Rho → M (List Sl)} (h : PE X e (tF fl)) (ht : PA X es (tX t)) (hs : starEach (e :: es) X.env = (false, eval e X.env) :: starEach es X.env := by rfl) : PA X (e :: es) (tX (xO fl t)) :=
  pa_imp (pa_cons h ht hs) fun σ H Q ⟨g, P, E, hf, k⟩ => ⟨g, _, E, hf, fun d pd l vs B1 H1 w h0 hb hl r => ⟨g.at B1, _, E.grow w, pd, fun ds pds ws B2 H2 w2 r2 => by
    have nd : ND g.W l := E.wok.nd h0
    exact k _ pds _ B2 H2 (w.trans w2) ⟨l, vs, ws, rfl, by simp, h0, w2.nw l hb (by rw [hl]; simp), w2.hh _ _ nd hl, r.mono w2.bb, r2.from w w.wk (by rw [hl]; simp)⟩⟩⟩
def parS (is : List Nat) (f : Rho → M (List Sl)) : Rho → M Res := fun ρ => bnd (f ρ) fun sls => chk (sls.length = is.length) (ret (.nx (setR ρ is sls)))
theorem par_aux {is : List Nat} {t : Rho → M (List Sl)} {Dn : Ends} {σ : L2.St} {H : Hp} (q : tS (parS is t) Dn σ H) : tX t σ H fun vs H1 => vs.length = is.length ∧ (∀ H2, (∀ b o, H1 b = some o → H2 b = some o) → (∀ p o, H1 p = none → H2 = upd H1 p o → Dn.nx (setV σ is vs) H2) ∧ (H2 = H1 → Dn.nx (setV σ is vs) H2)) := by
  obtain ⟨g, P, E, hf, k⟩ := q
  refine ⟨g, _, E, hf, fun sls ps vs B' H' w r => ⟨by rw [r.length]; exact ps.1, fun H2 _ => ⟨fun p o hp eH => ?_, fun eH => ?_⟩⟩⟩
  · have E' := E.grow (w.trans (Grow.new0 (o := o) w.bh w.wk hp))
    rw [← eH] at E'
    refine k.nx _ ps.2 _ _ _ w.bb (setX (g := g) (H := H) (H' := H2) (B' := B') (av := []) (fun l q => E.r.pn q) (fun l _ q => E.wok.nd q) ps.1.symm E' ?_ fun j ys l h1 h2 => .inl ?_)
    · have keep : ∀ {sls : List Sl} {av : List Addr} {vs : List V}, RepX H B' H' av sls vs → RepX H B' H2 av sls vs := by
        intro sls
        induction sls with
        | nil => intro av vs h; exact h
        | cons x r ih =>
          intro av vs h
          cases x with
          | d d => obtain ⟨v, ws, e, h1, t⟩ := h; exact ⟨v, ws, e, h1, ih t⟩
          | o xs => obtain ⟨m, ls, ws, e, h1, h2, h3, h4, h5, t⟩ := h; exact ⟨m, ls, ws, e, h1, h2, h3, by rw [eH, upd_ne (ne_of_none h4 hp)]; exact h4, h5, ih t⟩
          | no => exact h.elim
          | k => exact h.elim
      exact keep r
    · obtain ⟨l', ws, q1, q2, q3, q4, q5, q6⟩ := E.own j ys h1
      rw [q1] at h2; cases h2
      rw [q5]; simp
  · rw [eH]
    refine k.nx _ ps.2 _ _ _ w.bb (setX (g := g) (H := H) (H' := H') (B' := B') (av := []) (fun l q => E.r.pn q) (fun l _ q => E.wok.nd q) ps.1.symm (E.grow w) r fun j ys l h1 h2 => .inl ?_)
    obtain ⟨l', ws, q1, q2, q3, q4, q5, q6⟩ := E.own j ys h1
    rw [q1] at h2; cases h2
    rw [q5]; simp
theorem s_par {i j : Nat} {t : Rho → M (List Sl)} (h : ∀ ta, PA X [a, b] ta → PS X st (tPar i j ta)) (ha : PA X [a, b] (tX t)) : PS X st (tS (parS [i, j] t)) :=
  ps_imp (h _ ha) fun Dn σ H q => by
    have pq := par_aux q
    obtain ⟨g, P, E, hf, k⟩ := pq
    refine ⟨g, P, E, hf, fun sls ps vs B' H' w r => ?_⟩
    obtain ⟨hl, kk⟩ := k sls ps vs B' H' w r
    match vs, hl with
    | [v, w'], _ => exact ⟨v, w', rfl, (kk H' fun _ _ h => h).2 rfl⟩
theorem s_par3 {i j l : Nat} {t : Rho → M (List Sl)} (h : ∀ ta, PA X [a, b, c] ta → PS X st (tPar3 i j l ta)) (ha : PA X [a, b, c] (tX t)) : PS X st (tS (parS [i, j, l] t)) :=
  ps_imp (h _ ha) fun Dn σ H q => by
    have pq := par_aux q
    obtain ⟨g, P, E, hf, k⟩ := pq
    refine ⟨g, P, E, hf, fun sls ps vs B' H' w r => ?_⟩
    obtain ⟨hl, kk⟩ := k sls ps vs B' H' w r
    match vs, hl with
    | [u, v, w'], _ => exact ⟨u, v, w', rfl, (kk H' fun _ _ h => h).2 rfl⟩
/-- names stored one by one -/
def gNames : List Nat → TGs
  | [] => gNil
  | i :: is => gCons (gName i) (gNames is)
theorem gNames_ok : ∀ {is : List Nat} {vs : List V} {σ : L2.St} {H : Hp} {Q : L2.St → Hp → Prop}, vs.length = is.length → Q (setV σ is vs) H → gNames is vs σ H Q
  | [], [], _, _, _, _, q => ⟨rfl, q⟩
  | [], _ :: _, _, _, _, h, _ => by simp at h
  | _ :: _, [], _, _, _, h, _ => by simp at h
  | i :: is, v :: vs, σ, H, Q, h, q => ⟨v, vs, rfl, gNames_ok (is := is) (by simpa using h) q⟩
/-- a, b, .. = x, y, .. by a tuple -/
theorem s_parT {is : List Nat} {t : Rho → M (List Sl)} {K : PySem.W.Frag} {n : Nat} (h : ∀ ta, PA X es ta → PS X st (tAsg (tTup ta) (gTup K n (gNames is)))) (ha : PA X es (tX t)) (hn : is.length = n) (hm : n ≤ 1000) : PS X st (tS (parS is t)) :=
  ps_imp (h _ ha) fun Dn σ H q => by
    have pq := par_aux q
    obtain ⟨g, P, E, hf, k⟩ := pq
    refine ⟨g, P, E, hf, fun sls ps vs B' H' w r => ?_⟩
    obtain ⟨hl, kk⟩ := k sls ps vs B' H' w r
    refine ⟨by rw [hl, hn]; exact mil_line (by omega), fun p hp => ?_⟩
    refine ⟨p, vs, rfl, SqT.of upd_same, by rw [hl, hn], gNames_ok hl ?_⟩
    exact (kk (upd H' p (.tup vs)) fun b o h => by rw [upd_ne (ne_of_none h hp)]; exact h).1 p _ hp rfl

/-! ### append, extend -/
def ownOf (ρ : Rho) (i : Nat) : Option (List D) := match ρ[i]? with
  | some (.o xs) => some xs
  | _ => none
theorem ownOf_get {ρ : Rho} {i : Nat} {xs : List D} (h : ownOf ρ i = some xs) : ρ[i]? = some (.o xs) := by
  unfold ownOf at h
  cases q : ρ[i]? with
  | none => rw [q] at h; cases h
  | some z =>
    rw [q] at h
    cases z with
    | o ys => cases h; rfl
    | d _ => cases h
    | no => cases h
    | k => cases h
def own (i : Nat) (k : List D → Rho → M Res) : Rho → M Res := fun ρ => match ownOf ρ i with
  | some xs => k xs ρ
  | none => die
theorem own_eq {i : Nat} {k : List D → Rho → M Res} {ρ : Rho} {P : Res → Prop} (h : own i k ρ P) : ∃ xs, ρ[i]? = some (.o xs) ∧ k xs ρ P := by
  cases q : ownOf ρ i with
  | none =>
    have e : own i k ρ = die := by unfold own; rw [q]
    rw [e] at h; exact h.elim
  | some xs =>
    have e : own i k ρ = k xs ρ := by unfold own; rw [q]
    rw [e] at h
    exact ⟨xs, ownOf_get q, h⟩
def appS (i : Nat) (f : Rho → M D) : Rho → M Res := own i fun xs ρ => bnd (f ρ) fun d => chk (xs.length < 1000000) (ret (.nx (ρ.set i (.o (xs ++ [d])))))
theorem s_append {i : Nat} (h : PS X st (tDrop (tBM X.K "list" rAppend (tVar i) (tCons (tD f) tNil)))) : PS X st (tS (appS i f)) :=
  ps_imp h fun Dn σ H ⟨g, P, E, hf, k⟩ => by
    obtain ⟨xs, hi, hf⟩ := own_eq hf
    obtain ⟨l, vs, hs, hb, h0, hn, hl, r⟩ := E.own i xs hi
    refine ⟨.ref l, hs, .inl ⟨rfl, vs, SqL.of hl⟩, g, _, E, hf, fun d pd v B1 H1 w rd => ?_⟩
    have E1 := E.grow w
    have hl1 := w.hh _ _ hn hl
    have hb1 := w.nw l hb (by rw [hl]; simp)
    refine ⟨l, vs, v, rfl, rfl, hl1, by rw [r.length]; exact mil_lt pd.1, ?_⟩
    exact k.nx _ pd.2 σ B1 _ w.bb (E1.chg hi hs hb1 h0 hn hl1 ((r.mono w.bb).app (.one rd)))
def extS (i : Nat) (f : Rho → M D) : Rho → M Res := own i fun xs ρ => bnd (f ρ) fun
  | .lst ds => chk (xs.length + ds.length < 1000000) (ret (.nx (ρ.set i (.o (xs ++ ds)))))
  | _ => die
theorem s_extend {i : Nat} (h : PS X st (tDrop (tBM X.K "list" rExtend (tVar i) (tCons (tW f) tNil)))) : PS X st (tS (extS i f)) :=
  ps_imp h fun Dn σ H ⟨g, P, E, hf, k⟩ => by
    obtain ⟨xs, hi, hf⟩ := own_eq hf
    obtain ⟨l, vs, hs, hb, h0, hn, hl, r⟩ := E.own i xs hi
    refine ⟨.ref l, hs, .inl ⟨rfl, vs, SqL.of hl⟩, g, _, E, hf, fun d pd v B1 H1 w rd => ?_⟩
    cases d with
    | lst ds =>
      have E1 := E.grow w
      have hl1 := w.hh _ _ hn hl
      have hb1 := w.nw l hb (by rw [hl]; simp)
      obtain ⟨b, ws, e, hl2, r2⟩ := rd.lst w.bh
      refine ⟨l, b, vs, ws, rfl, by rw [e], hl1, hl2, by rw [r.length, r2.length]; exact Nat.le_of_lt (mil_lt pd.1), ?_⟩
      exact k.nx _ pd.2 σ B1 _ w.bb (E1.chg hi hs hb1 h0 hn hl1 ((r.mono w.bb).app r2))
    | _ => exact pd.elim

/-! ### what is walked -/
def Walks (W : Wd) (J : It) (B1 H1 : Hp) (ds : List D) : Prop := ∀ (i : Nat) (B H : Hp), Sub B1 B → Sub B H → WOk W B H →
  (∀ d, ds[i]? = some d → J.go i H ∧ ∀ x H2, J.yld i H x H2 → ∃ B2, Grow W B H B2 H2 ∧ Rep B2 d x) ∧ (ds.length ≤ i → J.stop i H)
def tI (f : Rho → M (List D)) : TI := fun σ H R => ∃ (g : G) (P : List D → Prop), EnvG g σ H ∧ f g.ρ P ∧ ∀ ds, P ds → ∀ J B' H', Grow g.W g.B H B' H' → Walks g.W J B' H' ds → R J H'
theorem pi_imp {tg it : Expr} {t t' : TI} (h : PI X tg it t) (k : ∀ σ H R, t' σ H R → t σ H R) : PI X tg it t' := ⟨fun pins s σ H R I q => h.run pins s σ H R I (k _ _ _ q)⟩
def itL (f : Rho → M D) : Rho → M (List D) := fun ρ => bnd (f ρ) fun
  | .lst ds => ret ds
  | _ => die
def itT (f : Rho → M D) : Rho → M (List D) := fun ρ => bnd (f ρ) fun
  | .tup ds => ret ds
  | _ => die
theorem SqL.inj' {K : PySem.W.Frag} {H : Hp} {a : Addr} {xs : List V} (h : H a = some (.lst xs)) : ∀ ys, Rd H a (.lst ys) → ys = xs := fun ys r => by
  rcases r with r | ⟨o, r⟩
  · rw [h] at r; cases r; rfl
  · rw [h] at r; cases r
theorem i_list {tg : Expr} (h : PE X e (tD f)) (hk : ∀ a o, X.K.lookup a = some o → True := by intros; trivial) : PI X tg e (tI (itL f)) :=
  pi_imp (pi_list h) fun σ H R ⟨g, P, E, hf, k⟩ => ⟨g, _, E, hf, fun d pd v B1 H1 w r => by
    cases d with
    | lst ds =>
      obtain ⟨a, vs, e1, hB, rr⟩ := r
      refine ⟨a, e1, ⟨vs, SqL.of (w.bh _ _ hB)⟩, k ds pd _ B1 H1 w fun i B H sb s wk => ⟨fun d hd => ?_, fun hl => ⟨vs, SqL.of (s _ _ (sb _ _ hB)), by rw [rr.length]; exact hl⟩⟩⟩
      obtain ⟨v, hv, rv⟩ := rr.get' hd
      refine ⟨⟨vs, v, SqL.of (s _ _ (sb _ _ hB)), hv⟩, fun x H2 ⟨eH, y⟩ => ⟨B, by rw [eH]; exact Grow.refl s wk, ?_⟩⟩
      have := y vs (SqL.of (s _ _ (sb _ _ hB)))
      rw [hv] at this
      cases this
      exact rv.mono sb
    | _ => exact pd.elim⟩
theorem i_tup {tg : Expr} (h : PE X e (tD f)) : PI X tg e (tI (itT f)) :=
  pi_imp (pi_tup h) fun σ H R ⟨g, P, E, hf, k⟩ => ⟨g, _, E, hf, fun d pd v B1 H1 w r => by
    cases d with
    | tup ds =>
      obtain ⟨a, vs, e1, hB, rr⟩ := r
      refine ⟨a, e1, ⟨vs, SqT.of (w.bh _ _ hB)⟩, k ds pd _ B1 H1 w fun i B H sb s wk => ⟨fun d hd => ?_, fun hl => ⟨vs, SqT.of (s _ _ (sb _ _ hB)), by rw [rr.length]; exact hl⟩⟩⟩
      obtain ⟨v, hv, rv⟩ := rr.get' hd
      refine ⟨⟨vs, v, SqT.of (s _ _ (sb _ _ hB)), hv⟩, fun x H2 ⟨eH, y⟩ => ⟨B, by rw [eH]; exact Grow.refl s wk, ?_⟩⟩
      have := y vs (SqT.of (s _ _ (sb _ _ hB)))
      rw [hv] at this
      cases this
      exact rv.mono sb
    | _ => exact pd.elim⟩
/-- range(n), range(a, b) -/
def rngD (a b : Int) : List D := (List.range (b - a).toNat).map fun (i : Nat) => .int (a + (i : Int))
theorem walks_rng {W : Wd} {B1 H1 : Hp} (lo : Int) (n : Nat) : Walks W (Itr lo n) B1 H1 ((List.range n).map fun (i : Nat) => D.int (lo + (i : Int))) := fun i B H sb s wk => by
  refine ⟨fun d hd => ?_, fun hl => (by have z : n ≤ i := (by simpa using hl); exact z)⟩
  have hi : i < n := by have := lt_of_get hd; simpa using this
  have e : d = .int (lo + (i : Int)) := by
    rw [List.getElem?_map, List.getElem?_range hi] at hd
    exact (Option.some.inj hd).symm
  subst e
  exact ⟨hi, fun x H2 ⟨eH, ex⟩ => ⟨B, by rw [eH]; exact Grow.refl s wk, ex⟩⟩
def rng1 (f : Rho → M D) : Rho → M (List D) := fun ρ => bnd (f ρ) fun
  | .int j => chk (-(2 ^ 62) ≤ j ∧ j < 2 ^ 62) (ret (rngD 0 j))
  | _ => die
def rng2 (f g : Rho → M D) : Rho → M (List D) := fun ρ => bnd (f ρ) fun x => bnd (g ρ) fun y => match x, y with
  | .int i, .int j => chk ((-(2 ^ 62) ≤ i ∧ i < 2 ^ 62) ∧ -(2 ^ 62) ≤ j ∧ j < 2 ^ 62) (ret (rngD i j))
  | _, _ => die
theorem i_rng1 {tg : Expr} {p : Pos} (hg : Gl X "range") (hm : X.mg "range" = none) (h : PE X a (tW f)) (hs : starEach [a] X.env = [(false, eval a X.env)] := by rfl) : PI X tg (.Call (.Name "range" p) [a] [] pos) (tI (rng1 f)) :=
  pi_imp (pi_range1 hg hm (pa_cons h pa_nil hs) hs) fun σ H R ⟨g, P, E, hf, k⟩ => ⟨g, _, E, hf, fun d pd v B1 H1 w r => by
    cases d with
    | int j =>
      refine ⟨j, by rw [r.int], pd.1.1, pd.1.2, k _ pd.2 _ B1 H1 w ?_⟩
      have e : (j - 0).toNat = j.toNat := by rw [Int.sub_zero]
      unfold rngD
      rw [e]
      exact walks_rng 0 _
    | _ => exact pd.elim⟩
theorem i_rng2 {tg : Expr} {p : Pos} (hg : Gl X "range") (hm : X.mg "range" = none) (h : PE X a (tW f)) (h2 : PE X b (tW g)) (hs : starEach [a, b] X.env = [(false, eval a X.env), (false, eval b X.env)] := by rfl) (hs2 : starEach [b] X.env = [(false, eval b X.env)] := by rfl) :
    PI X tg (.Call (.Name "range" p) [a, b] [] pos) (tI (rng2 f g)) :=
  pi_imp (pi_range2 hg hm (pa_cons h (pa_cons h2 pa_nil hs2) (by rw [hs, hs2])) hs hs2) fun σ H R ⟨gg, P, E, hf, k⟩ => ⟨gg, _, E, hf, fun dx px x B1 H1 w r => ⟨gg.at B1, _, E.grow w, px, fun dy py y B2 H2 w2 r2 => by
    cases dx with
    | int i => cases dy with
      | int j => exact ⟨i, j, by rw [r.int, r2.int], ⟨py.1.1.1, py.1.1.2, py.1.2.1, py.1.2.2⟩, k _ py.2 _ B2 H2 (w.trans w2) (walks_rng i _)⟩
      | _ => exact py.elim
    | _ => cases dy <;> exact py.elim⟩⟩
/-- a text, sign by sign -/
def strD (x : Str) : List D := x.cps.toList.map fun c => .str ⟨#[c]⟩
def itS (f : Rho → M D) : Rho → M (List D) := fun ρ => bnd (f ρ) fun
  | .str x => ret (strD x)
  | _ => die

/-! ### for -/
def forL (t : D → Rho → M Rho) (s : Rho → M Res) : List D → Rho → M Res
  | [], ρ => ret (.nx ρ)
  | d :: ds, ρ => bnd (t d ρ) fun ρ1 => bnd (s ρ1) fun
    | .nx ρ' => forL t s ds ρ'
    | .ct ρ' => forL t s ds ρ'
    | .bk ρ' => ret (.nx ρ')
    | .rt d => ret (.rt d)
def forS (it : Rho → M (List D)) (t : D → Rho → M Rho) (s : Rho → M Res) : Rho → M Res := fun ρ => bnd (it ρ) fun ds => forL t s ds ρ
theorem s_for {tg it : Expr} {f : Rho → M (List D)} {t : D → Rho → M Rho} {vs : List Nat} (hp : PassesOwn (model X.prog X.w) X.A X.env X.xe) (hc : X.calm = true) (hi : PI X tg it (tI f)) (hg : PG X tg (tGd t vs)) (hb : PSs X body (tS s))
    (hs : ∀ x, foldedSetIterable it X.env x = pure x := by intro _; rfl) : PS X (.For tg it body [] pos) (tS (forS f t s)) :=
  ps_imp (ps_for hp hc hi hg hb hs) fun Dn σ H ⟨g, P, E, hf, k⟩ => ⟨g, _, E, hf, fun ds pds J B1 H1 w wk => by
    refine ⟨fun i m σ' H' => m = ds.length - i ∧ i ≤ ds.length ∧ ∃ B' ρ', Sub B1 B' ∧ EnvG (g.go B' ρ') σ' H' ∧ forL t s (ds.drop i) ρ' P, ⟨ds.length, rfl, Nat.zero_le _, B1, g.ρ, Sub.rfl', E.grow w, pds⟩, ?_⟩
    rintro i m σ' H' ⟨rfl, hi, B', ρ', sb, E', hp⟩
    obtain ⟨go, stop⟩ := wk i B' H' sb E'.sub E'.wok
    by_cases hlt : i < ds.length
    · refine .inr ?_
      have hd : ds[i]? = some ds[i] := List.getElem?_eq_getElem hlt
      obtain ⟨hgo, hy⟩ := go _ hd
      have ed : ds.drop i = ds[i] :: ds.drop (i + 1) := List.drop_eq_getElem_cons hlt
      rw [ed] at hp
      refine ⟨hgo, fun σ2 H2 => ∃ B2 ρ2, Sub B1 B2 ∧ EnvG (g.go B2 ρ2) σ2 H2 ∧ forL t s (ds.drop (i + 1)) ρ2 P, fun σ2 H2 ⟨B2, ρ2, q1, q2, q3⟩ => ⟨_, by omega, rfl, hlt, B2, ρ2, q1, q2, q3⟩, fun x H2 y => ?_⟩
      obtain ⟨B2, w2, rx⟩ := hy x H2 y
      have E2 := E'.grow w2
      refine ⟨_, _, _, E2, rx, hp, fun ρ3 p3 σ3 E3 _ => ⟨_, _, E3, p3, fun ρ4 p4 σ4 B4 H4 s4 E4 => ?_, fun ρ4 p4 σ4 B4 H4 s4 E4 => ?_, fun ρ4 p4 σ4 B4 H4 s4 E4 => ?_, fun d p4 v B4 H4 w4 r4 => k.rt d p4 v B4 H4 w4 r4⟩⟩
      · exact ⟨B4, ρ4, (sb.tr w2.bb).tr s4, E4, p4⟩
      · exact k.nx ρ4 p4 σ4 B4 H4 (((w.bb.tr sb).tr w2.bb).tr s4) E4
      · exact ⟨B4, ρ4, (sb.tr w2.bb).tr s4, E4, p4⟩
    · have e : i = ds.length := by omega
      subst e
      rw [List.drop_length] at hp
      exact .inl ⟨stop (Nat.le_refl _), k.nx ρ' hp σ' B' H' (w.bb.tr sb) E'⟩⟩
/-! ### while -/
/-- I: what holds at the m-th turn from the end -/
def whS (t : Rho → M Bool) (s : Rho → M Res) : Rho → M Res := fun ρ P => ∃ I : Nat → Rho → Prop, (∃ m, I m ρ) ∧ ∀ m ρ, I m ρ → t ρ fun c => if c = true then s ρ fun
    | .nx ρ' => ∃ m', m' < m ∧ I m' ρ'
    | .ct ρ' => ∃ m', m' < m ∧ I m' ρ'
    | .bk ρ' => P (.nx ρ')
    | .rt d => P (.rt d)
  else P (.nx ρ)
theorem s_while {t : Rho → M Bool} (hp : PassesOwn (model X.prog X.w) X.A X.env X.xe) (hc : PT X c (tT t)) (hb : PSs X body (tS s)) : PS X (.While c body [] pos) (tS (whS t s)) :=
  ps_imp (ps_while hp hc hb) fun Dn σ H ⟨g, P, E, hf, k⟩ => by
    obtain ⟨I, ⟨m0, i0⟩, turn⟩ := hf
    refine ⟨fun m σ' H' => ∃ B' ρ', Sub g.B B' ∧ EnvG (g.go B' ρ') σ' H' ∧ I m ρ', ⟨m0, g.B, g.ρ, Sub.rfl', E, i0⟩, ?_⟩
    rintro m σ' H' ⟨B', ρ', sb, E', im⟩
    refine ⟨g.go B' ρ', _, E', turn m ρ' im, fun b pb B1 H1 w1 => ?_⟩
    cases b with
    | true =>
      refine iteT ⟨fun σ2 H2 => ∃ m', m' < m ∧ ∃ B2 ρ2, Sub g.B B2 ∧ EnvG (g.go B2 ρ2) σ2 H2 ∧ I m' ρ2, fun σ2 H2 ⟨m', hm, B2, ρ2, q⟩ => ⟨m', hm, B2, ρ2, q⟩, ?_⟩
      refine ⟨g.go B1 ρ', _, E'.grow w1, pb, fun ρ4 p4 σ4 B4 H4 s4 E4 => ?_, fun ρ4 p4 σ4 B4 H4 s4 E4 => ?_, fun ρ4 p4 σ4 B4 H4 s4 E4 => ?_, fun d p4 v B4 H4 w4 r4 => k.rt d p4 v B4 H4 w4 r4⟩
      · obtain ⟨m', hm, q⟩ := p4
        exact ⟨m', hm, B4, ρ4, (sb.tr w1.bb).tr s4, E4, q⟩
      · exact k.nx ρ4 p4 σ4 B4 H4 ((sb.tr w1.bb).tr s4) E4
      · obtain ⟨m', hm, q⟩ := p4
        exact ⟨m', hm, B4, ρ4, (sb.tr w1.bb).tr s4, E4, q⟩
    | false => exact iteF (k.nx ρ' pb σ' B1 H1 (sb.tr w1.bb) (E'.grow w1))
end
end EC
end
/-! ## C6 -/
section
set_option Elab.async false
set_option linter.all false
set_option maxRecDepth 100000
set_option maxHeartbeats 1000000
/-! C6: list comprehensions, defs, built-ins. -/
namespace EC
open PySem PySem.Spec PyProof.Rows L2

/-! ### a slot forgotten -/
def wipeR (ρ : Rho) : List Nat → Rho
  | [] => ρ
  | v :: vs => (wipeR ρ vs).set v .no
theorem wipeR_length (ρ : Rho) : ∀ vs : List Nat, (wipeR ρ vs).length = ρ.length
  | [] => rfl
  | v :: vs => by unfold wipeR; rw [List.length_set, wipeR_length ρ vs]
theorem wipeR_get {ρ : Rho} : ∀ {vs : List Nat} {j : Nat}, j < ρ.length → (wipeR ρ vs)[j]? = if j ∈ vs then some .no else ρ[j]?
  | [], j, h => by simp [wipeR]
  | v :: vs, j, h => by
    unfold wipeR
    by_cases hj : v = j
    · subst hj
      rw [List.getElem?_set_self (by rw [wipeR_length]; exact h)]
      simp
    · rw [List.getElem?_set_ne hj, wipeR_get (vs := vs) h]
      simp [Ne.symm hj]
theorem EnvG.wipe {g : G} {σ : L2.St} {H : Hp} (E : EnvG g σ H) (vs : List Nat) : EnvG (g.to (wipeR g.ρ vs)) (L2.wipe σ vs) H := by
  have key : ∀ (j : Nat) (x : Sl), (wipeR g.ρ vs)[j]? = some x → x ≠ .no → j ∉ vs ∧ g.ρ[j]? = some x ∧ (L2.wipe σ vs)[j]? = σ[j]? := fun j x h hx => by
    have hl : j < g.ρ.length := by have := lt_of_get h; rwa [wipeR_length] at this
    rw [wipeR_get hl] at h
    by_cases hv : j ∈ vs
    · rw [if_pos hv] at h
      exact absurd (Option.some.inj h).symm hx
    · rw [if_neg hv] at h
      exact ⟨hv, h, by rw [wipe_get (by rw [E.len]; exact hl), if_neg hv]⟩
  refine ⟨E.r, fun j d h => ?_, fun j xs h => ?_, fun i j xs ys l hij h1 h2 h3 h4 => ?_, fun j h => ?_, by rw [L2.wipe_length]; show _ = (wipeR g.ρ vs).length; rw [wipeR_length]; exact E.len⟩
  · obtain ⟨_, q, e⟩ := key j _ h (fun z => nomatch z)
    rw [e]; exact E.dat j d q
  · obtain ⟨_, q, e⟩ := key j _ h (fun z => nomatch z)
    rw [e]; exact E.own j xs q
  · obtain ⟨_, q, e⟩ := key i _ h1 (fun z => nomatch z)
    obtain ⟨_, q', e'⟩ := key j _ h2 (fun z => nomatch z)
    rw [e] at h3; rw [e'] at h4
    exact E.dis i j xs ys l hij q q' h3 h4
  · obtain ⟨_, q, e⟩ := key j _ h (fun z => nomatch z)
    rw [e]; exact E.dk j q
theorem wipe_wipe (σ : L2.St) (vs : List Nat) : L2.wipe (L2.wipe σ vs) vs = L2.wipe σ vs := by
  apply List.ext_getElem?
  intro j
  by_cases hj : j < σ.length
  · rw [wipe_get (by rw [wipe_length]; exact hj), wipe_get hj]
    by_cases hv : j ∈ vs <;> simp [hv]
  · rw [List.getElem?_eq_none (by rw [wipe_length, wipe_length]; omega), List.getElem?_eq_none (by rw [wipe_length]; omega)]
/-- an object that is not data, and no list of ours, is written -/
theorem Grow.wr {W : Wd} {B H B' H' : Hp} {p : Addr} {o : HO} (w : Grow W B H B' H') (h0 : H p = none) (hb : B' p = none) (hn : ND W p) : Grow W B H B' (upd H' p o) := by
  refine ⟨w.bb, fun b u h => ?_, fun b u n h => ?_, w.nw, fun q e => ?_⟩
  · rw [upd_ne (ne_of_none h hb)]; exact w.bh _ _ h
  · rw [upd_ne (ne_of_none h h0)]; exact w.hh _ _ n h
  · obtain ⟨h1, h2, h3⟩ := w.wk q e
    exact ⟨h1, h2, h3.upd (hn q e)⟩
theorem EnvG.wr {g : G} {σ : L2.St} {H : Hp} {p : Addr} {o : HO} (E : EnvG g σ H) (h0 : g.H0 p = none) (hb : g.B p = none) (hn : ND g.W p) (ho : ∀ (j : Nat) (ys : List D) (l : Addr), g.ρ[j]? = some (.o ys) → σ[j]? = some (some (.ref l)) → l ≠ p) : EnvG g σ (upd H p o) := by
  refine ⟨E.r.wr h0 hb hn, E.dat, fun j xs h => ?_, E.dis, E.dk, E.len⟩
  obtain ⟨l, vs, q1, q2, q3, q4, q5, q6⟩ := E.own j xs h
  exact ⟨l, vs, q1, q2, q3, q4, by rw [upd_ne (ho j xs l h q1)]; exact q5, q6⟩

/-! ### list comprehensions -/
def lcL (t : D → Rho → M Rho) (c : Rho → M Bool) (f : Rho → M D) : List D → Rho → M (List D)
  | [], _ => ret []
  | d :: ds, ρ => bnd (t d ρ) fun ρ1 => bnd (c ρ1) fun b => if b = true then bnd (f ρ1) fun y => bnd (lcL t c f ds ρ) fun ys => ret (y :: ys) else lcL t c f ds ρ
def lcE (vs : List Nat) (it : Rho → M (List D)) (t : D → Rho → M Rho) (c : Rho → M Bool) (f : Rho → M D) : Rho → M (List D) := fun ρ => bnd (it ρ) fun ds => chk (ds.length ≤ 1000000) (lcL t c f ds (wipeR ρ vs))
def yes : Rho → M Bool := fun _ => ret true
section
variable {X : Cx} {e a b c : Expr} {st : Stmt} {pos : Pos} {f : Rho → M D} {it : Rho → M (List D)} {tc : Rho → M Bool} {t : D → Rho → M Rho} {vs ws : List Nat}
theorem ts_nil : PTs X [] (tT yes) := ⟨fun pins s σ H Q I ⟨g, P, E, hf, k⟩ => pts_nil.run pins s σ H Q I (k _ hf _ _ (Grow.refl E.sub E.wok))⟩
theorem ts_one (h : PT X c (tT tc)) : PTs X [c] (tT tc) := pts_one h
/-- what is walked while the heap of the start stands -/
def WalksC (W : Wd) (J : It) (B1 Bs Hs : Hp) (ds : List EC.D) : Prop := ∀ (i : Nat) (B H : Hp), Sub B1 B → Grow W Bs Hs B H →
  (∀ d, ds[i]? = some d → J.go i H ∧ ∀ x H2, J.yld i H x H2 → ∃ B2, Grow W B H B2 H2 ∧ Rep B2 d x) ∧ (ds.length ≤ i → J.stop i H)
def tJ (f : Rho → M (List EC.D)) : TI := fun σ H R => ∃ (g : G) (P : List EC.D → Prop), EnvG g σ H ∧ f g.ρ P ∧ ∀ ds, P ds → ∀ J B' H', Grow g.W g.B H B' H' → WalksC g.W J B' g.B H ds → R J H'
theorem ij {tg : Expr} (h : PI X tg e (tI it)) : PI X tg e (tJ it) := pi_imp h fun σ H R ⟨g, P, E, hf, k⟩ => ⟨g, P, E, hf, fun ds pd J B' H' w wk => k ds pd J B' H' w fun i B H sb wg => wk i B H sb wg.bh wg.wk⟩
/-- a list of our own, walked by a comprehension -/
def itO (i : Nat) : Rho → M (List EC.D) := fun ρ => match ownOf ρ i with
  | some xs => ret xs
  | none => die
theorem j_own {tg : Expr} {i : Nat} (h : PE X e (tVar i)) : PI X tg e (tJ (itO i)) :=
  pi_imp (pi_list h) fun σ H R ⟨g, P, E, hf, k⟩ => by
    cases q : ownOf g.ρ i with
    | none =>
      have e : itO i g.ρ = die := by unfold itO; rw [q]
      rw [e] at hf; exact hf.elim
    | some xs =>
      have e : itO i g.ρ = ret xs := by unfold itO; rw [q]
      rw [e] at hf
      obtain ⟨l, vs, hs, hb, h0, hn, hl, r⟩ := E.own i xs (ownOf_get q)
      refine ⟨.ref l, hs, l, rfl, ⟨vs, SqL.of hl⟩, k xs hf _ g.B H (Grow.refl E.sub E.wok) fun i B H' sb wg => ⟨fun d hd => ?_, fun hle => ⟨vs, SqL.of (wg.hh _ _ hn hl), by rw [r.length]; exact hle⟩⟩⟩
      obtain ⟨v, hv, rv⟩ := r.get' hd
      refine ⟨⟨vs, v, SqL.of (wg.hh _ _ hn hl), hv⟩, fun x H2 ⟨eH, y⟩ => ⟨B, by rw [eH]; exact Grow.refl wg.bh wg.wk, ?_⟩⟩
      have := y vs (SqL.of (wg.hh _ _ hn hl))
      rw [hv] at this
      cases this
      exact rv.mono sb
theorem lc_ok (hv : ∀ i ∈ ws, i ∈ vs) {σ : L2.St} {H : Hp} {Q : VK} (q : tF (lcE vs it t tc f) σ H Q) : tLc (tJ it) (tGd t ws) (tT tc) (tD f) vs σ H Q := by
  obtain ⟨g, P, E, hf, k⟩ := q
  refine ⟨g, _, E, hf, fun ds pds J B1 H1 w wk => fun D hD => ?_⟩
  obtain ⟨hlen, pds⟩ := pds
  have h0D : H D = none := w.pn hD
  have ndD : ND g.W D := w.wk.nd hD
  have g0D : g.H0 D = none := E.r.pn h0D
  have ownD : ∀ (j : Nat) (ys : List EC.D) (l : Addr), (wipeR g.ρ vs)[j]? = some (.o ys) → (L2.wipe σ vs)[j]? = some (some (.ref l)) → l ≠ D := fun j ys l h1 h2 z => by
    obtain ⟨l', ls, q1, q2, q3, q4, q5, q6⟩ := (E.wipe vs).own j ys h1
    rw [q1] at h2; cases h2
    rw [z, h0D] at q5; cases q5
  refine ⟨fun i m H' => m = ds.length - i ∧ i ≤ ds.length ∧ ∃ (B' : Hp) (acc : List EC.D) (ls : List V), Sub B1 B' ∧ Grow g.W g.B H B' H' ∧ EnvG (g.go B' (wipeR g.ρ vs)) (L2.wipe σ vs) H' ∧ B' D = none ∧ H' D = some (.lst ls) ∧ RepL B' acc ls ∧ acc.length ≤ i ∧
    lcL t tc f (ds.drop i) (wipeR g.ρ vs) (fun ys => P (acc ++ ys)), ⟨ds.length, rfl, Nat.zero_le _, B1, [], [], Sub.rfl', ?_, ?_, w.bh.none hD, upd_same, rfl, Nat.zero_le _, pds⟩, ?_⟩
  · exact w.trans (Grow.new0 w.bh w.wk hD)
  · exact ((E.wipe vs).grow w).wr g0D (w.bh.none hD) ndD ownD
  rintro i m H' ⟨rfl, hi, B', acc, ls, sb, wg, E', hbD, hHD, racc, hacc, hp⟩
  obtain ⟨go, stop⟩ := wk i B' H' sb wg
  by_cases hlt : i < ds.length
  · refine .inr ?_
    have hd : ds[i]? = some ds[i] := List.getElem?_eq_getElem hlt
    obtain ⟨hgo, hy⟩ := go _ hd
    have ed : ds.drop i = ds[i] :: ds.drop (i + 1) := List.drop_eq_getElem_cons hlt
    rw [ed] at hp
    refine ⟨hgo, fun H' => ∃ (B' : Hp) (acc : List EC.D) (ls : List V), Sub B1 B' ∧ Grow g.W g.B H B' H' ∧ EnvG (g.go B' (wipeR g.ρ vs)) (L2.wipe σ vs) H' ∧ B' D = none ∧ H' D = some (.lst ls) ∧ RepL B' acc ls ∧ acc.length ≤ i + 1 ∧
      lcL t tc f (ds.drop (i + 1)) (wipeR g.ρ vs) (fun ys => P (acc ++ ys)), fun H2 h2 => ⟨_, by omega, rfl, hlt, h2⟩, fun x H2 y => ?_⟩
    obtain ⟨B2, w2, rx⟩ := hy x H2 y
    have E2 := E'.grow w2
    have hb2 : B2 D = none := w2.nw D hbD (by rw [hHD]; simp)
    have hh2 := w2.hh _ _ ndD hHD
    refine ⟨_, _, _, E2, rx, hp, fun ρ3 p3 σ3 E3 o3 => ⟨?_, _, _, E3, p3, fun b pb B4 H4 w4 => ?_⟩⟩
    · rw [(o3.more hv).1.wipe, wipe_wipe]
    have hb4 : B4 D = none := w4.nw D hb2 (by rw [hh2]; simp)
    have hh4 := w4.hh _ _ ndD hh2
    have sb4 := (sb.tr w2.bb).tr w4.bb
    have wg4 := (wg.trans w2).trans w4
    cases b with
    | true =>
      refine iteT ⟨_, _, E3.grow w4, pb, fun d pd v B5 H5 w5 r5 => ?_⟩
      have hb5 : B5 D = none := w5.nw D hb4 (by rw [hh4]; simp)
      have hh5 := w5.hh _ _ ndD hh4
      have wg5 := wg4.trans w5
      refine ⟨ls, hh5, by rw [racc.length]; exact mil_lt (by omega), B5, acc ++ [d], ls ++ [v], sb4.tr w5.bb, wg5.wr h0D hb5 ndD, ?_, hb5, upd_same, (((racc.mono w2.bb).mono w4.bb).mono w5.bb).app (.one r5), by rw [List.length_append]; exact Nat.add_le_add_right hacc 1, ?_⟩
      · exact (((E2.grow w4).grow w5)).wr g0D hb5 ndD ownD
      · have e1 : (fun ys => P (acc ++ [d] ++ ys)) = fun ys => P (acc ++ d :: ys) := funext fun ys => by rw [List.append_assoc]; rfl
        rw [e1]; exact pd
    | false => exact iteF ⟨B4, acc, ls, sb4, wg4, E2.grow w4, hb4, hh4, (racc.mono w2.bb).mono w4.bb, Nat.le_succ_of_le hacc, pb⟩
  · have e : i = ds.length := by omega
    subst e
    rw [List.drop_length] at hp
    have hp : P (acc ++ []) := hp
    rw [List.append_nil] at hp
    exact .inl ⟨stop (Nat.le_refl _), k acc hp D ls B' H' wg h0D hbD hHD racc⟩
/-- a comprehension as a value -/
theorem f_lc {elt tg iter : Expr} {ifs : List Expr} {scope : Scope} {own : List (Str × Nat)} {ov : List Nat} (hc : X.calm = true) (hN : X.N.Nodup) (hi : PI X tg iter (tJ it)) (ok : BlkOk X.N X.env.scope scope own)
    (hg : ∀ (s : Shared) (H : Hp) (C : Addr) (cl : List (Str × Addr)) (fp : List Addr), PG (X.blk s H scope (compEnvC scope cl C X.env) fp) tg (tGd t ws)) (ht : ∀ (s : Shared) (H : Hp) (C : Addr) (cl : List (Str × Addr)) (fp : List Addr), PTs (X.blk s H scope (compEnvC scope cl C X.env) fp) ifs (tT tc))
    (he : ∀ (s : Shared) (H : Hp) (C : Addr) (cl : List (Str × Addr)) (fp : List Addr), PE (X.blk s H scope (compEnvC scope cl C X.env) fp) elt (tD f)) (hv : ∀ i ∈ ws, i ∈ ov) (ho : own.map (·.2) = ov := by rfl) (hs : ∀ x, foldedSetIterable iter X.env x = pure x := by intro _; rfl) :
    PE X (.ListComp elt [⟨tg, iter, ifs, 0⟩] scope pos) (tF (lcE ov it t tc f)) := by
  subst ho
  exact pe_imp (pe_lc hc hN hi ok hg ht he hs) fun σ H Q q => lc_ok hv q
/-- name = [..] on one line, as tAsg -/
theorem a_lc {i : Nat} {y : Str} {py spos : Pos} {elt tg iter : Expr} {ifs : List Expr} {scope : Scope} {own : List (Str × Nat)} {ov : List Nat} (hc : X.calm = true) (hN : X.N.Nodup) (hy : X.N[i]? = some y) (hyl : X.env.scope.names.lookup y = some .local)
    (hsw : swapsWith (.ListComp elt [⟨tg, iter, ifs, 0⟩] scope pos) (some (.Name y py)) spos.line X.env = pure true) (hi : PI X tg iter (tJ it)) (ok : BlkOk X.N X.env.scope scope own)
    (hg : ∀ (s : Shared) (H : Hp) (C : Addr) (cl : List (Str × Addr)) (fp : List Addr), PG (X.blk s H scope (compEnvC scope cl C X.env) fp) tg (tGd t ws)) (ht : ∀ (s : Shared) (H : Hp) (C : Addr) (cl : List (Str × Addr)) (fp : List Addr), PTs (X.blk s H scope (compEnvC scope cl C X.env) fp) ifs (tT tc))
    (he : ∀ (s : Shared) (H : Hp) (C : Addr) (cl : List (Str × Addr)) (fp : List Addr), PE (X.blk s H scope (compEnvC scope cl C X.env) fp) elt (tD f)) (hv : ∀ i ∈ ws, i ∈ ov) (ho : own.map (·.2) = ov := by rfl) (hs : ∀ x, foldedSetIterable iter X.env x = pure x := by intro _; rfl) :
    PS X (.Assign [.Name y py] (.ListComp elt [⟨tg, iter, ifs, 0⟩] scope pos) spos) (tAsg (tF (lcE ov it t tc f)) (gName i)) := by
  subst ho
  exact ps_imp (ps_setLc hc hN hy hyl hsw hi ok hg ht he hs) fun Dn σ H q => lc_ok hv q
/-- x = e, e a new list that becomes data; .. that stays our own -/
theorem s_setLD {i : Nat} {fl : Rho → M (List EC.D)} (h : PS X st (tAsg (tF fl) (gName i))) : PS X st (tS (setS i (asL fl))) :=
  ps_imp h fun Dn σ H ⟨g, P, E, hf, k⟩ => by
    refine ⟨g, _, E, hf, fun ds pd p vs B' H' w h0 hb hl r => ?_⟩
    have sb : Sub B' (upd B' p (.lst vs)) := fun b u q => by rw [upd_ne (ne_of_none q hb)]; exact q
    have w' := w.own h0 hb hl (E.wok.nd h0)
    exact k.nx _ pd _ _ H' w'.bb ((E.grow w').setD ⟨p, vs, rfl, upd_same, r.mono sb⟩)
theorem s_setLO {i : Nat} {fl : Rho → M (List EC.D)} (h : PS X st (tAsg (tF fl) (gName i))) : PS X st (tS (setO i fl)) := s_setO h fun _ _ _ q => q

/-! ### two fors -/
def lcL2 (t : D → Rho → M Rho) (it1 : Rho → M (List D)) (t1 : D → Rho → M Rho) (c : Rho → M Bool) (f : Rho → M D) (vs1 : List Nat) : List D → Rho → M (List D)
  | [], _ => ret []
  | d :: ds, ρ => bnd (t d ρ) fun ρ1 => bnd (it1 ρ1) fun es => chk (es.length ≤ 900) (bnd (lcL t1 c f es (wipeR ρ1 vs1)) fun xs => bnd (lcL2 t it1 t1 c f vs1 ds ρ) fun ys => ret (xs ++ ys))
def lcE2 (vs vs1 : List Nat) (it : Rho → M (List D)) (t : D → Rho → M Rho) (it1 : Rho → M (List D)) (t1 : D → Rho → M Rho) (c : Rho → M Bool) (f : Rho → M D) : Rho → M (List D) := fun ρ => bnd (it ρ) fun ds => chk (ds.length ≤ 900) (lcL2 t it1 t1 c f vs1 ds (wipeR ρ vs))
theorem lc2_ok {it1 : Rho → M (List EC.D)} {t1 : EC.D → Rho → M Rho} {vs1 ws1 : List Nat} (hv : ∀ i ∈ ws, i ∈ vs) (hv1 : ∀ i ∈ ws1, i ∈ vs1) {σ : L2.St} {H : Hp} {Q : VK} (q : tF (lcE2 vs vs1 it t it1 t1 tc f) σ H Q) :
    tLc2 (tI it) (tGd t ws) (tT yes) (tI it1) (tGd t1 ws1) (tT tc) (tD f) vs vs1 σ H Q := by
  obtain ⟨g, P, E, hf, k⟩ := q
  refine ⟨g, _, E, hf, fun ds pds J B1 H1 w wk => fun D hD => ?_⟩
  obtain ⟨hlen, pds⟩ := pds
  have h0D : H D = none := w.pn hD
  have ndD : ND g.W D := w.wk.nd hD
  have g0D : g.H0 D = none := E.r.pn h0D
  have ownD : ∀ (j : Nat) (ys : List EC.D) (l : Addr), (wipeR g.ρ vs)[j]? = some (.o ys) → (L2.wipe σ vs)[j]? = some (some (.ref l)) → l ≠ D := fun j ys l h1 h2 z => by
    obtain ⟨l', ls, q1, q2, q3, q4, q5, q6⟩ := (E.wipe vs).own j ys h1
    rw [q1] at h2; cases h2
    rw [z, h0D] at q5; cases q5
  refine ⟨fun i m H' => m = ds.length - i ∧ i ≤ ds.length ∧ ∃ (B' : Hp) (acc : List EC.D) (ls : List V), Sub B1 B' ∧ Grow g.W g.B H B' H' ∧ EnvG (g.go B' (wipeR g.ρ vs)) (L2.wipe σ vs) H' ∧ B' D = none ∧ H' D = some (.lst ls) ∧ RepL B' acc ls ∧ acc.length ≤ i * 900 ∧
    lcL2 t it1 t1 tc f vs1 (ds.drop i) (wipeR g.ρ vs) (fun ys => P (acc ++ ys)), ⟨ds.length, rfl, Nat.zero_le _, B1, [], [], Sub.rfl', ?_, ?_, w.bh.none hD, upd_same, rfl, Nat.zero_le _, pds⟩, ?_⟩
  · exact w.trans (Grow.new0 w.bh w.wk hD)
  · exact ((E.wipe vs).grow w).wr g0D (w.bh.none hD) ndD ownD
  rintro i m H' ⟨rfl, hi, B', acc, ls, sb, wg, E', hbD, hHD, racc, hacc, hp⟩
  obtain ⟨go, stop⟩ := wk i B' H' sb wg.bh wg.wk
  by_cases hlt : i < ds.length
  · refine .inr ?_
    have hd : ds[i]? = some ds[i] := List.getElem?_eq_getElem hlt
    obtain ⟨hgo, hy⟩ := go _ hd
    have ed : ds.drop i = ds[i] :: ds.drop (i + 1) := List.drop_eq_getElem_cons hlt
    rw [ed] at hp
    refine ⟨hgo, fun H' => ∃ (B' : Hp) (acc : List EC.D) (ls : List V), Sub B1 B' ∧ Grow g.W g.B H B' H' ∧ EnvG (g.go B' (wipeR g.ρ vs)) (L2.wipe σ vs) H' ∧ B' D = none ∧ H' D = some (.lst ls) ∧ RepL B' acc ls ∧ acc.length ≤ (i + 1) * 900 ∧
      lcL2 t it1 t1 tc f vs1 (ds.drop (i + 1)) (wipeR g.ρ vs) (fun ys => P (acc ++ ys)), fun H2 h2 => ⟨_, by omega, rfl, hlt, h2⟩, fun x H2 y => ?_⟩
    obtain ⟨B2, w2, rx⟩ := hy x H2 y
    have E2 := E'.grow w2
    have hb2 : B2 D = none := w2.nw D hbD (by rw [hHD]; simp)
    have hh2 := w2.hh _ _ ndD hHD
    refine ⟨_, _, _, E2, rx, hp, fun ρ3 p3 σ3 E3 o3 => ⟨?_, _, (fun b => b = true), E3, rfl, fun b pb B4 H4 w4 => ?_⟩⟩
    · rw [(o3.more hv).1.wipe, wipe_wipe]
    have hb4 : B4 D = none := w4.nw D hb2 (by rw [hh2]; simp)
    have hh4 := w4.hh _ _ ndD hh2
    have sb4 := (sb.tr w2.bb).tr w4.bb
    have wg4 := (wg.trans w2).trans w4
    have E4 := E3.grow w4
    rw [show b = true from pb]
    refine iteT ⟨_, _, E4, p3, fun es pes J1 B5 H5 w5 wk1 => ?_⟩
    obtain ⟨hes, pes⟩ := pes
    have hb5 : B5 D = none := w5.nw D hb4 (by rw [hh4]; simp)
    have hh5 := w5.hh _ _ ndD hh4
    have E5 := E4.grow w5
    have E25 := (E2.grow w4).grow w5
    have racc5 := ((racc.mono w2.bb).mono w4.bb).mono w5.bb
    have ownD1 : ∀ (j : Nat) (ys : List EC.D) (l : Addr), (wipeR ρ3 vs1)[j]? = some (.o ys) → (L2.wipe σ3 vs1)[j]? = some (some (.ref l)) → l ≠ D := fun j ys l h1 h2 z => by
      have hl : j < ρ3.length := by have := lt_of_get h1; rwa [wipeR_length] at this
      rw [wipeR_get hl] at h1
      by_cases hj1 : j ∈ vs1
      · rw [if_pos hj1] at h1; cases h1
      · rw [if_neg hj1] at h1
        obtain ⟨k1, k2⟩ := o3.2 j ys h1
        have e1 : (L2.wipe σ3 vs1)[j]? = σ3[j]? := by rw [wipe_get (by rw [E3.len]; exact hl), if_neg hj1]
        rw [e1, k2] at h2
        exact ownD j ys l k1 h2 z
    refine ⟨fun j n H' => n = es.length - j ∧ j ≤ es.length ∧ ∃ (B' : Hp) (acc : List EC.D) (ls : List V), Sub B5 B' ∧ Grow g.W g.B H B' H' ∧ EnvG (g.go B' (wipeR g.ρ vs)) (L2.wipe σ vs) H' ∧ EnvG (g.go B' (wipeR ρ3 vs1)) (L2.wipe σ3 vs1) H' ∧ B' D = none ∧ H' D = some (.lst ls) ∧ RepL B' acc ls ∧ acc.length ≤ i * 900 + j ∧
      lcL t1 tc f (es.drop j) (wipeR ρ3 vs1) (fun xs => lcL2 t it1 t1 tc f vs1 (ds.drop (i + 1)) (wipeR g.ρ vs) fun ys => P (acc ++ (xs ++ ys))), ⟨es.length, rfl, Nat.zero_le _, B5, acc, ls, Sub.rfl', wg4.trans w5, E25, E5.wipe vs1, hb5, hh5, racc5, hacc, pes⟩, ?_⟩
    rintro j n H' ⟨rfl, hj, B6, acc6, ls6, sb6, wg6, E6, E6', hb6, hh6, racc6, hacc6, hp6⟩
    obtain ⟨go1, stop1⟩ := wk1 j B6 H' sb6 wg6.bh wg6.wk
    by_cases hltj : j < es.length
    · refine .inr ?_
      have hd1 : es[j]? = some es[j] := List.getElem?_eq_getElem hltj
      obtain ⟨hgo1, hy1⟩ := go1 _ hd1
      have ed1 : es.drop j = es[j] :: es.drop (j + 1) := List.drop_eq_getElem_cons hltj
      rw [ed1] at hp6
      refine ⟨hgo1, fun H' => ∃ (B' : Hp) (acc : List EC.D) (ls : List V), Sub B5 B' ∧ Grow g.W g.B H B' H' ∧ EnvG (g.go B' (wipeR g.ρ vs)) (L2.wipe σ vs) H' ∧ EnvG (g.go B' (wipeR ρ3 vs1)) (L2.wipe σ3 vs1) H' ∧ B' D = none ∧ H' D = some (.lst ls) ∧ RepL B' acc ls ∧ acc.length ≤ i * 900 + (j + 1) ∧
        lcL t1 tc f (es.drop (j + 1)) (wipeR ρ3 vs1) (fun xs => lcL2 t it1 t1 tc f vs1 (ds.drop (i + 1)) (wipeR g.ρ vs) fun ys => P (acc ++ (xs ++ ys))), fun H2 h2 => ⟨_, by omega, rfl, hltj, h2⟩, fun x1 H7 y1 => ?_⟩
      obtain ⟨B7, w7, rx1⟩ := hy1 x1 H7 y1
      have hb7 : B7 D = none := w7.nw D hb6 (by rw [hh6]; simp)
      have hh7 := w7.hh _ _ ndD hh6
      refine ⟨_, _, _, E6'.grow w7, rx1, hp6, fun ρ8 p8 σ8 E8 o8 => ⟨?_, _, _, E8, p8, fun b pb B9 H9 w9 => ?_⟩⟩
      · rw [(o8.more hv1).1.wipe, wipe_wipe]
      have hb9 : B9 D = none := w9.nw D hb7 (by rw [hh7]; simp)
      have hh9 := w9.hh _ _ ndD hh7
      have racc9 := (racc6.mono w7.bb).mono w9.bb
      have wg9 := (wg6.trans w7).trans w9
      cases b with
      | true =>
        refine iteT ⟨_, _, E8.grow w9, pb, fun d pd v B10 H10 w10 r10 => ?_⟩
        have hb10 : B10 D = none := w10.nw D hb9 (by rw [hh9]; simp)
        have hh10 := w10.hh _ _ ndD hh9
        refine ⟨ls6, hh10, by rw [racc6.length]; exact mil_lt (by have : i * 900 ≤ 900 * 900 := Nat.mul_le_mul (by omega) (Nat.le_refl _); omega), B10, acc6 ++ [d], ls6 ++ [v], ((sb6.tr w7.bb).tr w9.bb).tr w10.bb, (wg9.trans w10).wr h0D hb10 ndD, ?_, ?_, hb10, upd_same, (racc9.mono w10.bb).app (.one r10), by rw [List.length_append]; exact Nat.add_le_add_right hacc6 1, ?_⟩
        · exact ((((E6.grow w7).grow w9).grow w10)).wr g0D hb10 ndD ownD
        · exact ((((E6'.grow w7).grow w9).grow w10)).wr g0D hb10 ndD ownD1
        · have e1 : (fun xs => lcL2 t it1 t1 tc f vs1 (ds.drop (i + 1)) (wipeR g.ρ vs) fun ys => P (acc6 ++ [d] ++ (xs ++ ys))) = fun xs => lcL2 t it1 t1 tc f vs1 (ds.drop (i + 1)) (wipeR g.ρ vs) fun ys => P (acc6 ++ (d :: xs ++ ys)) :=
            funext fun xs => congrArg _ (funext fun ys => by rw [List.append_assoc]; rfl)
          rw [e1]; exact pd
      | false => exact iteF ⟨B9, acc6, ls6, (sb6.tr w7.bb).tr w9.bb, wg9, (E6.grow w7).grow w9, (E6'.grow w7).grow w9, hb9, hh9, racc9, Nat.le_succ_of_le hacc6, pb⟩
    · have e : j = es.length := by omega
      subst e
      rw [List.drop_length] at hp6
      exact .inl ⟨stop1 (Nat.le_refl _), B6, acc6, ls6, ((sb4.tr w5.bb).tr sb6), wg6, E6, hb6, hh6, racc6, by omega, hp6⟩
  · have e : i = ds.length := by omega
    subst e
    rw [List.drop_length] at hp
    have hp : P (acc ++ []) := hp
    rw [List.append_nil] at hp
    exact .inl ⟨stop (Nat.le_refl _), k acc hp D ls B' H' wg h0D hbD hHD racc⟩
theorem f_lc2 {elt tg iter tg1 iter1 : Expr} {ifs ifs1 : List Expr} {scope : Scope} {own : List (Str × Nat)} {ov : List Nat} {vs1 ws1 : List Nat} {it1 : Rho → M (List EC.D)} {t1 : EC.D → Rho → M Rho} (hc : X.calm = true) (hN : X.N.Nodup) (hi : PI X tg iter (tI it)) (ok : BlkOk X.N X.env.scope scope own) (hv : ∀ i ∈ vs1, i ∈ own.map (·.2))
    (hg : ∀ (s : Shared) (H : Hp) (C : Addr) (cl : List (Str × Addr)) (fp : List Addr), PG (X.blk s H scope (compEnvC scope cl C X.env) fp) tg (tGd t ws)) (ht : ∀ (s : Shared) (H : Hp) (C : Addr) (cl : List (Str × Addr)) (fp : List Addr), PTs (X.blk s H scope (compEnvC scope cl C X.env) fp) ifs (tT yes))
    (hi1 : ∀ (s : Shared) (H : Hp) (C : Addr) (cl : List (Str × Addr)) (fp : List Addr), PI (X.blk s H scope (compEnvC scope cl C X.env) fp) tg1 iter1 (tI it1)) (hg1 : ∀ (s : Shared) (H : Hp) (C : Addr) (cl : List (Str × Addr)) (fp : List Addr), PG (X.blk s H scope (compEnvC scope cl C X.env) fp) tg1 (tGd t1 ws1))
    (ht1 : ∀ (s : Shared) (H : Hp) (C : Addr) (cl : List (Str × Addr)) (fp : List Addr), PTs (X.blk s H scope (compEnvC scope cl C X.env) fp) ifs1 (tT tc)) (he : ∀ (s : Shared) (H : Hp) (C : Addr) (cl : List (Str × Addr)) (fp : List Addr), PE (X.blk s H scope (compEnvC scope cl C X.env) fp) elt (tD f))
    (hw : ∀ i ∈ ws, i ∈ ov) (hw1 : ∀ i ∈ ws1, i ∈ vs1) (ho : own.map (·.2) = ov := by rfl) (hs : ∀ x, foldedSetIterable iter X.env x = pure x := by intro _; rfl) (hs1 : ∀ env x, foldedSetIterable iter1 env x = pure x := by intro _ _; rfl) :
    PE X (.ListComp elt [⟨tg, iter, ifs, 0⟩, ⟨tg1, iter1, ifs1, 0⟩] scope pos) (tF (lcE2 ov vs1 it t it1 t1 tc f)) := by
  subst ho
  exact pe_imp (pe_lc2 hc hN hi ok hv hg ht hi1 hg1 ht1 he hs hs1) fun σ H Q q => lc2_ok hw hw1 q
end

/-! ### defs -/
def fnS (m : Nat) (s : Rho → M Res) : List Sl → M D := fun args => bnd (s (args ++ List.replicate (m - args.length) .no)) fun
  | .rt d => ret d
  | .nx _ => ret .non
  | _ => die
abbrev FnP (K : PySem.W.Frag) (x : Str) (st : Stmt) (f : Addr) (fd : FuncData) : Prop := FunD K x x (defArgs st) (defBody st) (defScope st) [] [] f fd
theorem argsEnv {W : Wd} {B H : Hp} (s : Sub B H) (w : WOk W B H) {ds : List Sl} {vs : List V} {m : Nat} (r : RepAL W B ds vs) : EnvG ⟨W, B, H, B, ds ++ List.replicate m .no⟩ (vs.map some ++ List.replicate m none) H := by
  have len := r.length
  have key : ∀ {ds : List Sl} {vs : List V} (i : Nat) (x : Sl), RepAL W B ds vs → ds[i]? = some x → ∃ v, vs[i]? = some v ∧ RepA W B x v := by
    intro ds
    induction ds with
    | nil => intro vs i x _ h; simp at h
    | cons d ds ih =>
      intro vs i x ⟨v, ws, e, h1, h2⟩ h
      subst e
      cases i with
      | zero => simp at h; subst h; exact ⟨v, rfl, h1⟩
      | succ i => obtain ⟨v', e1, e2⟩ := ih i x h2 (by simpa using h); exact ⟨v', by simpa using e1, e2⟩
  have get : ∀ (i : Nat) (x : Sl), (ds ++ List.replicate m Sl.no)[i]? = some x → x ≠ .no → ∃ v, (vs.map some ++ List.replicate m none)[i]? = some (some v) ∧ RepA W B x v := fun i x h hx => by
    by_cases hi : i < ds.length
    · rw [List.getElem?_append_left hi] at h
      obtain ⟨v, e1, e2⟩ := key i x r h
      refine ⟨v, ?_, e2⟩
      rw [List.getElem?_append_left (by rw [List.length_map, len]; exact hi), List.getElem?_map, e1]; rfl
    · rw [List.getElem?_append_right (by omega)] at h
      have : x = .no := by
        have h2 := List.mem_of_getElem? h
        exact (List.mem_replicate.mp h2).2
      exact absurd this hx
  refine ⟨Grow.refl s w, fun i d h => ?_, fun i xs h => ?_, fun i j xs ys l _ h1 _ _ _ => ?_, fun i h => ?_, ?_⟩
  · obtain ⟨v, e1, e2⟩ := get i _ h (fun z => nomatch z); exact ⟨v, e1, e2⟩
  · obtain ⟨v, e1, e2⟩ := get i _ h (fun z => nomatch z); exact e2.elim
  · obtain ⟨v, e1, e2⟩ := get i _ h1 (fun z => nomatch z); exact e2.elim
  · obtain ⟨v, e1, p, hp, e⟩ := get i _ h (fun z => nomatch z); exact ⟨p, hp, by rw [← e]; exact e1⟩
  · show _ = (ds ++ List.replicate m Sl.no).length
    simp [len]
/-- THE RULE for a def -/
theorem fn_ok {P : Program} {w : World} {K : PySem.W.Frag} {mg : Str → Option Value} {base : Heap} {x : Str} {st : Stmt} {f : Addr} {fd : FuncData} {N ps : List Str} {k : Nat} {s : Rho → M Res} (F : FnP K x st f fd) (S : FnScope N ps (defScope st))
    (hb : ∀ (cdv : Value) (A : Around) (outer : List Env) (s' : Shared) (H : Hp) (E : XK), Room k (A.deeper (envOfC x (defScope st) s'.heap.objs.size f cdv)) → PSs (cxOf CX0 P w K mg base N x (defScope st) f cdv A outer s' H E).nox (defBody st) (tS s)) :
    FnOk P w K mg base CX0 (k + 1) f fd ps (spF ps.length (fnS N.length s)) := by
  refine F.ok S (fun vs H Q E h => ?_) (fun cdv A outer s' H vs Q E hr h => ⟨tS s, PSs.nox (hb cdv A outer s' H E hr), ?_⟩)
  · obtain ⟨W, B, ds, PP, hl, _, _, r, _⟩ := h
    rw [r.length, hl]
  · obtain ⟨W, B, ds, PP, hl, sb, wk, r, hf, kk⟩ := h
    have e := argsEnv sb wk (m := N.length - ds.length) r
    have hst : L2.start N vs = vs.map some ++ List.replicate (N.length - ds.length) none := by unfold L2.start; rw [r.length]
    rw [hst]
    refine ⟨_, _, e, hf, fun ρ' p σ' B' H' s' E' => ?_, fun ρ' p => p.elim, fun ρ' p => p.elim, fun d p v B' H' w' r' => kk d p v B' H' w' r'⟩
    exact kk .non p .non B' H' E'.r rfl
end EC
end
/-! ## C7 -/
section
set_option Elab.async false
set_option linter.all false
set_option maxRecDepth 100000
set_option maxHeartbeats 1000000
/-! C7: built-ins. -/
namespace EC
open PySem PySem.Spec PyProof.Rows L2

theorem bt_len : bootBuiltins "len" = some (.builtin "len") := by decide +kernel
theorem bt_isinstance : bootBuiltins "isinstance" = some (.builtin "isinstance") := by decide +kernel
theorem bt_all : bootBuiltins "all" = some (.builtin "all") := by decide +kernel
theorem bt_any : bootBuiltins "any" = some (.builtin "any") := by decide +kernel
theorem bt_sorted : bootBuiltins "sorted" = some (.builtin "sorted") := by decide +kernel
theorem bt_repr : bootBuiltins "repr" = some (.builtin "repr") := by decide +kernel
theorem bt_max : bootBuiltins "max" = some (.builtin "max") := by decide +kernel
theorem bt_int : bootBuiltins "int" = some (.type "int") := by decide +kernel
theorem bt_str : bootBuiltins "str" = some (.type "str") := by decide +kernel
theorem bt_bool : bootBuiltins "bool" = some (.type "bool") := by decide +kernel
theorem bt_tuple : bootBuiltins "tuple" = some (.type "tuple") := by decide +kernel
theorem bt_list : bootBuiltins "list" = some (.type "list") := by decide +kernel
theorem bt_dict : bootBuiltins "dict" = some (.type "dict") := by decide +kernel
theorem bt_set : bootBuiltins "set" = some (.type "set") := by decide +kernel

theorem RepWL.one {W : Wd} {B H : Hp} {d : D} {vs : List V} (r : RepWL W B H [d] vs) : ∃ v, vs = [v] ∧ RepW W B H d v := by
  obtain ⟨v, r', e, h, t⟩ := r
  rw [show r' = [] from t] at e
  exact ⟨v, e, h⟩
theorem RepWL.two {W : Wd} {B H : Hp} {d d2 : D} {vs : List V} (r : RepWL W B H [d, d2] vs) : ∃ v w, vs = [v, w] ∧ RepW W B H d v ∧ RepW W B H d2 w := by
  obtain ⟨v, r', e, h, t⟩ := r
  obtain ⟨w, rfl, h2⟩ := RepWL.one t
  exact ⟨v, w, e, h, h2⟩
def one1 {α : Type} (h : D → M α) : List D → M α
  | [d] => h d
  | _ => die
section
variable {X : Cx} {fn : Value}
theorem CallD1 {r : List V → Hp → VK → Prop} {h : D → M D} (hr : CallR X fn r) (k : ∀ (W : Wd) (B H : Hp) (d : D) (v : V) (Q : VK) (P : D → Prop), Sub B H → WOk W B H → RepW W B H d v → h d P →
    (∀ d, P d → ∀ v B' H', Grow W B H B' H' → Rep B' d v → Q v H') → r [v] H Q) : CallD X fn (one1 h) := ⟨r, hr, fun W B H ds vs Q P s w rr hh kk => by
  match ds, hh with
  | [], hh => exact hh.elim
  | [d], hh =>
    obtain ⟨v, rfl, r1⟩ := rr.one
    exact k W B H d v Q P s w r1 hh kk
  | _ :: _ :: _, hh => exact False.elim hh⟩
theorem CallF1 {r : List V → Hp → VK → Prop} {h : D → M (List D)} (hr : CallR X fn r) (k : ∀ (W : Wd) (B H : Hp) (d : D) (v : V) (Q : VK) (P : List D → Prop), Sub B H → WOk W B H → RepW W B H d v → h d P →
    (∀ ds, P ds → ∀ p vs B' H', Grow W B H B' H' → H p = none → B' p = none → H' p = some (.lst vs) → RepL B' ds vs → Q (.ref p) H') → r [v] H Q) : CallF X fn (one1 h) := ⟨r, hr, fun W B H ds vs Q P s w rr hh kk => by
  match ds, hh with
  | [], hh => exact hh.elim
  | [d], hh =>
    obtain ⟨v, rfl, r1⟩ := rr.one
    exact k W B H d v Q P s w r1 hh kk
  | _ :: _ :: _, hh => exact False.elim hh⟩
end
/-! ### len -/
def lenD : D → M D
  | .lst ds => ret (.int ds.length)
  | .tup ds => ret (.int ds.length)
  | .wd ds => ret (.int ds.length)
  | .str x => chk (x.length ≤ 1000000) (ret (.int x.length))
  | .dk _ ds => ret (.int ds.length)
  | .dt _ ds => ret (.int ds.length)
  | _ => die
abbrev lenS := one1 lenD
section
variable {X : Cx}
theorem call_lenR : CallR X (.builtin "len") (fun xs H Q => ∃ a kvs, xs = [V.ref a] ∧ Rd H a (.dK kvs) ∧ Q (.int kvs.length) H) := by
  intro pins s σ H xs us Q I r h
  obtain ⟨a, kvs, rfl, ha, q⟩ := h
  obtain ⟨u, rfl, ru⟩ := Vals.one r
  cases (show u = Value.ref a from ru)
  exact d_len I ha fun t s' I' => ⟨.int kvs.length, H, I', ⟨t, rfl⟩, q⟩
theorem c_len : CallD X (.builtin "len") lenS := CallD1 (CallR.or (CallR.or (CallR.or call_len_seq call_len_str) call_lenR) call_len_dT) fun W B H d v Q P s w r h k => by
  cases d with
  | lst es =>
    obtain ⟨a, xs, e, hl, rr⟩ := r.lst s
    refine .inl (.inl (.inl ⟨a, xs, by rw [e], .inl (SqL.of hl), ?_⟩))
    rw [rr.length]; exact k _ h _ _ _ (Grow.refl s w) rfl
  | tup es =>
    obtain ⟨a, xs, e, hl, rr⟩ := r.tup s
    refine .inl (.inl (.inl ⟨a, xs, by rw [e], .inr (SqT.of hl), ?_⟩))
    rw [rr.length]; exact k _ h _ _ _ (Grow.refl s w) rfl
  | wd es =>
    obtain ⟨a, xs, od, e, hl, _, rr⟩ := r.strong (fun _ z => nomatch z)
    refine .inl (.inl (.inl ⟨a, xs, by rw [e], .inr (.inl (.inr ⟨od, s _ _ hl⟩)), ?_⟩))
    rw [rr.length]; exact k _ h _ _ _ (Grow.refl s w) rfl
  | str x => exact .inl (.inl (.inr ⟨x, by rw [r.str], mil_line h.1, k _ h.2 _ _ _ (Grow.refl s w) rfl⟩))
  | dk ks es =>
    obtain ⟨a, xs, e, hB, hl, rr⟩ := r.strong (fun _ z => nomatch z)
    refine .inl (.inr ⟨a, _, by rw [e], s.rd hB, ?_⟩)
    rw [List.length_zip, rr.length, hl, Nat.min_self]
    exact k _ h _ _ _ (Grow.refl s w) rfl
  | dt ks es =>
    obtain ⟨a, xs, e, hB, hl, rr⟩ := r.strong (fun _ z => nomatch z)
    refine .inr ⟨a, _, by rw [e], s _ _ hB, ?_⟩
    rw [List.length_zip, rr.length, hl, Nat.min_self]
    exact k _ h _ _ _ (Grow.refl s w) rfl
  | _ => exact h.elim
/-! ### all, any -/
def D.bools : List D → Option (List Bool)
  | [] => some []
  | .bl b :: ds => (D.bools ds).map (b :: ·)
  | _ :: _ => none
theorem bools_rep {B : Hp} : ∀ {ds : List D} {vs : List V} {bs : List Bool}, RepL B ds vs → D.bools ds = some bs → vs = bs.map V.bl
  | [], _, _, r, h => by cases h; rw [show _ = [] from r]; rfl
  | .bl b :: ds, _, _, ⟨v, ws, e, h1, t⟩, h => by
    obtain ⟨bs, hb, rfl⟩ := Option.map_eq_some_iff.mp h
    rw [e, show v = .bl b from h1, bools_rep t hb]; rfl
  | .non :: _, _, _, _, h => by cases h
  | .int _ :: _, _, _, _, h => by cases h
  | .str _ :: _, _, _, _, h => by cases h
  | .tup _ :: _, _, _, _, h => by cases h
  | .lst _ :: _, _, _, _, h => by cases h
  | .dk _ _ :: _, _, _, _, h => by cases h
  | .dt _ _ :: _, _, _, _, h => by cases h
  | .wd _ :: _, _, _, _, h => by cases h
  | .fk _ _ :: _, _, _, _, h => by cases h
/-- the bools of a list -/
def boolsD (g : List Bool → D) : D → M D
  | .lst ds => match D.bools ds with
    | some bs => ret (g bs)
    | none => die
  | _ => die
theorem boolsD_eq {g : List Bool → D} {ds : List D} {P : D → Prop} (h : boolsD g (.lst ds) P) : ∃ bs, D.bools ds = some bs ∧ P (g bs) := by
  cases q : D.bools ds with
  | none =>
    have e : boolsD g (.lst ds) = die := by unfold boolsD; simp only [q]
    rw [e] at h; exact h.elim
  | some bs =>
    have e : boolsD g (.lst ds) = ret (g bs) := by unfold boolsD; simp only [q]
    rw [e] at h; exact ⟨bs, rfl, h⟩
abbrev allS := one1 (boolsD fun bs => .bl (bs.all id))
abbrev anyS := one1 (boolsD fun bs => .bl (bs.any id))
theorem c_all (hc : X.calm = true) : CallD X (.builtin "all") allS := CallD1 (cr_all hc) fun W B H d v Q P s w r h k => by
  cases d with
  | lst es =>
    obtain ⟨a, xs, e, hl, rr⟩ := r.lst s
    obtain ⟨bs, q, p⟩ := boolsD_eq h
    exact ⟨a, bs, by rw [e], SqL.of (by rw [← bools_rep rr q]; exact hl), k _ p _ _ _ (Grow.refl s w) rfl⟩
  | _ => exact h.elim
theorem c_any (hc : X.calm = true) : CallD X (.builtin "any") anyS := CallD1 (cr_any hc) fun W B H d v Q P s w r h k => by
  cases d with
  | lst es =>
    obtain ⟨a, xs, e, hl, rr⟩ := r.lst s
    obtain ⟨bs, q, p⟩ := boolsD_eq h
    exact ⟨a, bs, by rw [e], SqL.of (by rw [← bools_rep rr q]; exact hl), k _ p _ _ _ (Grow.refl s w) rfl⟩
  | _ => exact h.elim
/-! ### int(n) -/
def intD : D → M D
  | .int i => ret (.int i)
  | _ => die
abbrev intS := one1 intD
theorem c_int : CallD X (.type "int") intS := CallD1 call_int1 fun W B H d v Q P s w r h k => by
  cases d with
  | int i => exact .inl ⟨i, by rw [r.int], k _ h _ _ _ (Grow.refl s w) rfl⟩
  | _ => exact h.elim
/-! ### tuple(xs), list(xs) -/
def tupD : D → M D
  | .lst ds => ret (.tup ds)
  | _ => die
abbrev tupS := one1 tupD
theorem c_tuple : CallD X (.type "tuple") tupS := CallD1 call_tuple_of fun W B H d v Q P s w r h k => by
  cases d with
  | lst es =>
    obtain ⟨a, xs, e, hl, rr⟩ := r.lst s
    refine ⟨a, xs, by rw [e], .inl ⟨SqL.of hl, fun p hp => ?_⟩⟩
    have n := Grow.new (o := .tup xs) s w hp
    exact k _ h (.ref p) _ _ n ⟨p, xs, rfl, upd_same, rr.mono n.bb⟩
  | _ => exact h.elim
/-- list of a list, a tuple, a dict with keys that are ints and texts -/
def listD : D → M (List D)
  | .lst ds => ret ds
  | .tup ds => ret ds
  | .wd ds => ret ds
  | _ => die
abbrev listS := one1 listD
theorem c_list : CallF X (.type "list") listS := CallF1 call_list_of fun W B H d v Q P s w r h k => by
  cases d with
  | lst es =>
    obtain ⟨a, xs, e, hl, rr⟩ := r.lst s
    exact ⟨a, xs, by rw [e], .inl (SqL.of hl), fun p hp => k _ h p xs B _ (Grow.new0 s w hp) hp (s.none hp) upd_same rr⟩
  | tup es =>
    obtain ⟨a, xs, e, hl, rr⟩ := r.tup s
    exact ⟨a, xs, by rw [e], .inr (SqT.of hl), fun p hp => k _ h p xs B _ (Grow.new0 s w hp) hp (s.none hp) upd_same rr⟩
  | wd es =>
    obtain ⟨a, xs, od, e, hl, _, rr⟩ := r.strong (fun _ z => nomatch z)
    exact ⟨a, xs, by rw [e], .inr (.inl (.inr ⟨od, s _ _ hl⟩)), fun p hp => k _ h p xs B _ (Grow.new0 s w hp) hp (s.none hp) upd_same rr⟩
  | _ => exact h.elim
/-- a dict's keys as a list -/
def keyD : Key → D
  | .inl i => .int i
  | .inr x => .str x
def keysD : D → M (List D)
  | .dk ks ds => ret (ks.map keyD)
  | _ => die
theorem keyD_rep (B : Hp) : ∀ k : Key, Rep B (keyD k) (kV k)
  | .inl _ => rfl
  | .inr _ => rfl
theorem keysD_rep (B : Hp) : ∀ ks : List Key, RepL B (ks.map keyD) (ks.map kV)
  | [] => rfl
  | k :: ks => ⟨kV k, ks.map kV, rfl, keyD_rep B k, keysD_rep B ks⟩
abbrev listKS := one1 keysD
theorem zip_fst {κ : Type} : ∀ {ks : List κ} {vs : List V}, ks.length = vs.length → (ks.zip vs).map (·.1) = ks
  | [], _, _ => rfl
  | _ :: _, [], h => by simp at h
  | k :: ks, v :: vs, h => by simp [zip_fst (ks := ks) (vs := vs) (by simpa using h)]
theorem c_listK (hc : X.calm = true) : CallF X (.type "list") listKS := CallF1 (call_listD hc) fun W B H d v Q P s w r h k => by
  cases d with
  | dk ks es =>
    obtain ⟨a, xs, e, hB, hl, rr⟩ := r.strong (fun _ z => nomatch z)
    refine ⟨a, _, by rw [e], s.rd hB, fun p hp => k _ h p _ B _ (Grow.new0 s w hp) hp (s.none hp) upd_same ?_⟩
    have e1 : ((ks.zip xs).map fun kv => kV kv.1) = ks.map kV := by
      have := zip_fst (ks := ks) (vs := xs) (by rw [hl, rr.length])
      calc ((ks.zip xs).map fun kv => kV kv.1) = ((ks.zip xs).map (·.1)).map kV := by rw [List.map_map]; rfl
        _ = _ := by rw [this]
    rw [e1]
    exact keysD_rep B ks
  | _ => exact h.elim
/-! ### isinstance(x, T) -/
def D.ty : D → String
  | .non => "NoneType"
  | .bl _ => "bool"
  | .int _ => "int"
  | .str _ => "str"
  | .tup _ => "tuple"
  | .lst _ => "list"
  | .dk _ _ => "dict"
  | .dt _ _ => "dict"
  | .wd _ => "tuple"
  | .fk _ _ => "dict"
theorem RepW.ty {W : Wd} {K : PySem.W.Frag} {B H : Hp} {d : D} {v : V} (s : Sub B H) (r : RepW W B H d v) : TyX K H v (.type d.ty) := by
  cases d with
  | non => rw [r.non]; exact .base .non
  | bl b => rw [r.bl]; exact .base (.bl _)
  | int i => rw [r.int]; exact .base (.int _)
  | str x => rw [r.str]; exact .base (.str _)
  | tup ds => obtain ⟨a, vs, e, h, _⟩ := r.tup s; rw [e]; exact .base (.tup h)
  | lst ds => obtain ⟨a, vs, e, h, _⟩ := r.lst s; rw [e]; exact .base (.lst h)
  | dk ks ds =>
    obtain ⟨a, vs, e, h, _⟩ := r.strong (fun _ z => nomatch z)
    rw [e]
    rcases s.rd h with q | ⟨o, q⟩
    · exact .base (.dK q)
    · exact .fDict q
  | dt ks ds => obtain ⟨a, vs, e, h, _⟩ := r.strong (fun _ z => nomatch z); rw [e]; exact .base (.dT (s _ _ h))
  | wd ds => obtain ⟨a, vs, od, e, h, _⟩ := r.strong (fun _ z => nomatch z); rw [e]; exact .fTuple (s _ _ h)
  | fk ks ds => obtain ⟨a, vs, od, e, h, _⟩ := r.strong (fun _ z => nomatch z); rw [e]; exact .fDict (s _ _ h)
def isS (T : String) (f : Rho → M D) : Rho → M D := fun ρ => bnd (f ρ) fun d => ret (.bl ((kitB d.ty T).getD false))
theorem kit_all (T : String) (h : (["NoneType", "bool", "int", "str", "tuple", "list", "dict"].all fun t => (kitB t T).isSome) = true) (d : D) : kitB d.ty T = some ((kitB d.ty T).getD false) := by
  have key : ∀ t, t ∈ ["NoneType", "bool", "int", "str", "tuple", "list", "dict"] → kitB t T = some ((kitB t T).getD false) := fun t ht => by
    have := List.all_eq_true.mp h t ht
    obtain ⟨b, hb⟩ := Option.isSome_iff_exists.mp this
    rw [hb]; rfl
  apply key
  cases d <;> simp [D.ty]
theorem d_isi {T : String} {x : Str} {p1 p2 pos : Pos} {e : Expr} {f : Rho → M D} (h : PE X e (tW f)) (hg : Gl X "isinstance") (hm : X.mg "isinstance" = none) (hg2 : Gl X x) (hm2 : X.mg x = none) (hv2 : bootBuiltins x = some (.type T))
    (hk : (["NoneType", "bool", "int", "str", "tuple", "list", "dict"].all fun t => (kitB t T).isSome) = true := by decide +kernel) (hn : x ≠ "__name__" := by decide) (hd : (x == ("__debug__" : Str)) = false := by decide)
    (hs : starEach [e, .Name x p2] X.env = (false, eval e X.env) :: starEach [.Name x p2] X.env := by rfl) (hs2 : starEach [.Name x p2] X.env = (false, eval (.Name x p2) X.env) :: starEach [] X.env := by rfl) (hpl : (backTo pos (starEach [.Name x p2] X.env)).any (·.1) = false := by rfl) :
    PE X (.Call (.Name "isinstance" p1) [e, .Name x p2] [] pos) (tD (isS T f)) :=
  pe_imp (pe_callB call_isi hg hm bt_isinstance (pa_cons h (pa_cons (pe_bltn (v := .ty T) hg2 hm2 hv2 rfl hn hd) pa_nil hs2) hs) (by decide) (by decide) hs hpl) fun σ H Q ⟨g, P, E, hf, k⟩ => ⟨g, _, E, hf, fun d pd v B1 H1 w r => by
    exact ⟨v, .ty T, .type d.ty, .type T, _, rfl, .ty T, r.ty w.bh, kit_ty (kit_all T hk d), k _ pd _ _ _ w rfl⟩⟩
/-- a text walked -/
theorem i_str {tg e : Expr} {f : Rho → M D} (h : PE X e (tW f)) : PI X tg e (tI (itS f)) :=
  pi_imp (pi_str h) fun σ H R ⟨g, P, E, hf, k⟩ => ⟨g, _, E, hf, fun d pd v B1 H1 w r => by
    cases d with
    | str x =>
      refine ⟨x, r.str, k _ pd _ B1 H1 w fun i B H sb s wk => ⟨fun d hd => ?_, fun hl => by
        have z : x.cps.size ≤ i := by simpa [strD] using hl
        exact z⟩⟩
      have hi : i < x.cps.size := by have := lt_of_get hd; simpa [strD] using this
      have e : d = .str ⟨#[x.cps[i]]⟩ := by
        unfold strD at hd
        rw [List.getElem?_map] at hd
        have q : x.cps.toList[i]? = some x.cps[i] := by simp [hi]
        rw [q] at hd
        exact (Option.some.inj hd).symm
      subst e
      refine ⟨hi, fun v2 H2 ⟨eH, c, hc, ev⟩ => ⟨B, by rw [eH]; exact Grow.refl s wk, ?_⟩⟩
      rw [ev]
      have q : x.cps[i]? = some x.cps[i] := by simp [hi]
      rw [q] at hc
      cases hc
      rfl
    | _ => exact pd.elim⟩
end
end EC
end
/-! ## C8 -/
section
set_option Elab.async false
set_option linter.all false
set_option maxRecDepth 100000
set_option maxHeartbeats 1000000
/-! C8: the text, calls of the program's defs, chains. -/
namespace EC
open PySem PySem.Spec PyProof.Rows L2
structure Txt (K : PySem.W.Frag) (mg : Str → Option Value) : Prop where
  says : He.SaysD faAll fnAll K
  ex : ∃ h : Heap, K.In h ∧ h.Ns mainGlobals mg
section
variable {K : PySem.W.Frag} {mg : Str → Option Value}
theorem Txt.glo (T : Txt K mg) (i : Nat) {x : Str} (h : faAll[i]? = some (.glo x)) : mg x = some (.ref (He.ga K x)) := by
  obtain ⟨hp, a, b⟩ := T.ex
  exact He.glo_ok a b (T.says.fact i h)
theorem Txt.free (T : Txt K mg) (i : Nat) {x : Str} (h : faAll[i]? = some (.free x)) : mg x = none := by
  obtain ⟨hp, a, b⟩ := T.ex
  exact He.free_ok a b (T.says.fact i h)
theorem Txt.strg (T : Txt K mg) (i : Nat) {x z : Str} (h : faAll[i]? = some (.str x z)) : ∃ t, mg x = some (.str z t) := by
  obtain ⟨hp, a, b⟩ := T.ex
  exact He.str_ok a b (T.says.fact i h)
theorem Txt.intg (T : Txt K mg) (i : Nat) {x : Str} {z : Int} (h : faAll[i]? = some (.int x z)) : ∃ t, mg x = some (.int z t) := by
  obtain ⟨hp, a, b⟩ := T.ex
  exact He.int_ok a b (T.says.fact i h)
end
/-- a def that keeps its promise by data -/
structure DefOk (P : Program) (w : World) (K : PySem.W.Frag) (mg : Str → Option Value) (base : Heap) (x : Str) (k n : Nat) (F : List Sl → M D) : Prop where
  ex : ∃ (fd : FuncData) (ps : List Str), FnOk P w K mg base CX0 k (He.ga K x) fd ps (spF n F) ∧ Binds K fd ps []
  mg : mg x = some (.ref (He.ga K x))
  kp : PySem.W.keepIn K (.ref (He.ga K x)) = true
section
variable {X : Cx} {e a b c : Expr} {es : List Expr} {pos : Pos} {f g h : Rho → M D}
theorem hu65 {A : Around} {k : Nat} (hr : Room k A) : A.units + 65 < cLine := by have := hr.un; omega
theorem d_callD {x : Str} {p : Pos} {k j n : Nat} {Fn : List Sl → M D} {t : Rho → M (List Sl)} (d : DefOk X.prog X.w X.K X.mg X.base x k n Fn) (hr : Room j X.A) (hk : k ≤ j) (hg : Gl X x) (ha : PA X (e :: es) (tA t)) (hdb : (x == ("__debug__" : Str)) = false := by decide)
    (he : starEach (e :: es) X.env = (false, eval e X.env) :: starEach es X.env := by rfl) (hpl : (backTo pos (starEach es X.env)).any (·.1) = false := by rfl) : PE X (.Call (.Name x p) (e :: es) [] pos) (tD (call n Fn t)) := by
  obtain ⟨fd, ps, F, hb⟩ := d.ex
  exact d_call F (hr.mono hk) hg d.mg d.kp hb ha hdb he hpl
def chainE (h h' : D → D → M D) (f g k : Rho → M D) : Rho → M D := fun ρ => bnd (f ρ) fun x => bnd (g ρ) fun y => bnd (h x y) fun
  | .bl true => bnd (k ρ) fun w => h' y w
  | .bl false => ret (.bl false)
  | _ => die
theorem d_chain {op op' : CmpOp} {r r' : D → D → M D} (ho : OpD X (compareOp op) r) (ho' : OpD X (compareOp op') r') (ha : PE X a (tW f)) (hb : PE X b (tW g)) (hc : PE X c (tW h)) (hm : lastMarks [op, op'] [b, c] = false := by rfl) : PE X (.Compare a [op, op'] [b, c] pos) (tD (chainE r r' f g h)) := by
  obtain ⟨q, hq, kq⟩ := ho
  obtain ⟨q', hq', kq'⟩ := ho'
  refine pe_imp (pe_chain hq hq' ha hb hc hm) fun σ H Q ⟨gg, P, E, hf, k⟩ => ⟨gg, _, E, hf, fun dx px x B1 H1 w1 r1 => ⟨gg.at B1, _, E.grow w1, px, fun dy py y B2 H2 w2 r2 => ?_⟩⟩
  refine kq gg.W B2 H2 dx dy x y _ _ w2.bh w2.wk (r1.grow w2) r2 py fun d pd v B3 H3 w3 r3 => ?_
  cases d with
  | bl c =>
    refine ⟨c, r3, ?_⟩
    cases c with
    | true => exact iteT ⟨gg.at B3, _, (((E.grow w1).grow w2).grow w3), pd, fun dz pz z B4 H4 w4 r4 => kq' gg.W B4 H4 dy dz y z _ _ w4.bh w4.wk ((r2.grow w3).grow w4) r4 pz fun d2 pd2 v2 B5 H5 w5 r5 => k d2 pd2 v2 B5 H5 ((((w1.trans w2).trans w3).trans w4).trans w5) r5⟩
    | false => exact iteF (k _ pd _ _ _ ((w1.trans w2).trans w3) rfl)
  | _ => exact pd.elim
end
end EC
end
/-! ## C9 -/
section
set_option Elab.async false
set_option linter.all false
set_option maxRecDepth 100000
set_option maxHeartbeats 1000000
/-! C9: dict comprehensions. -/
namespace EC
open PySem PySem.Spec PyProof.Rows L2

/-! ### pairs -/
section
variable {κ : Type} [DecidableEq κ]
def putP (l : List (κ × D)) (k : κ) (d : D) : List (κ × D) := if (l.any fun p => decide (p.1 = k)) = true then l.map (fun p => if p.1 = k then (p.1, d) else p) else l ++ [(k, d)]
def RepP (B : Hp) : List (κ × D) → List (κ × V) → Prop
  | [], kvs => kvs = []
  | p :: l, kvs => ∃ v r, kvs = (p.1, v) :: r ∧ Rep B p.2 v ∧ RepP B l r
theorem RepP.mono {B B' : Hp} (s : Sub B B') : ∀ {l : List (κ × D)} {kvs : List (κ × V)}, RepP B l kvs → RepP B' l kvs
  | [], _, h => h
  | _ :: _, _, ⟨v, r, e, h, t⟩ => ⟨v, r, e, h.mono s, RepP.mono s t⟩
theorem RepP.length {B : Hp} : ∀ {l : List (κ × D)} {kvs : List (κ × V)}, RepP B l kvs → kvs.length = l.length
  | [], _, h => by rw [show _ = [] from h]; rfl
  | _ :: l, _, ⟨v, r, e, h, t⟩ => by rw [e, List.length_cons, List.length_cons, RepP.length t]
theorem RepP.vals {B : Hp} : ∀ {l : List (κ × D)} {kvs : List (κ × V)}, RepP B l kvs → kvs = (l.map (·.1)).zip (kvs.map (·.2)) ∧ RepL B (l.map (·.2)) (kvs.map (·.2))
  | [], _, h => by rw [show _ = [] from h]; exact ⟨rfl, rfl⟩
  | p :: l, _, ⟨v, r, e, h, t⟩ => by
    obtain ⟨h1, h2⟩ := RepP.vals t
    rw [e]
    refine ⟨?_, v, r.map (·.2), rfl, h, h2⟩
    simp only [List.map_cons, List.zip_cons_cons]
    rw [← h1]
theorem RepP.any {B : Hp} (k : κ) : ∀ {l : List (κ × D)} {kvs : List (κ × V)}, RepP B l kvs → (kvs.any fun p => decide (p.1 = k)) = l.any fun p => decide (p.1 = k)
  | [], _, h => by rw [show _ = [] from h]; rfl
  | p :: l, _, ⟨v, r, e, h, t⟩ => by rw [e, List.any_cons, List.any_cons, RepP.any k t]
theorem RepP.map {B : Hp} (k : κ) {d : D} {v : V} (hd : Rep B d v) : ∀ {l : List (κ × D)} {kvs : List (κ × V)}, RepP B l kvs → RepP B (l.map fun p => if p.1 = k then (p.1, d) else p) (kvs.map fun p => if p.1 = k then (p.1, v) else p)
  | [], _, h => by rw [show _ = [] from h]; rfl
  | p :: l, _, ⟨w, r, e, h, t⟩ => by
    rw [e, List.map_cons, List.map_cons]
    by_cases hk : p.1 = k
    · simp only [hk, if_true]; exact ⟨v, _, rfl, hd, RepP.map k hd t⟩
    · simp only [hk, if_false]; exact ⟨w, _, rfl, h, RepP.map k hd t⟩
theorem RepP.snoc {B : Hp} (k : κ) {d : D} {v : V} (hd : Rep B d v) : ∀ {l : List (κ × D)} {kvs : List (κ × V)}, RepP B l kvs → RepP B (l ++ [(k, d)]) (kvs ++ [(k, v)])
  | [], _, h => by rw [show _ = [] from h]; exact ⟨v, [], rfl, hd, rfl⟩
  | p :: l, _, ⟨w, r, e, h, t⟩ => ⟨w, _, by rw [e]; rfl, h, RepP.snoc k hd t⟩
theorem RepP.put {B : Hp} {l : List (κ × D)} {kvs : List (κ × V)} (r : RepP B l kvs) (k : κ) {d : D} {v : V} (hd : Rep B d v) : RepP B (putP l k d) (putK kvs k v) := by
  unfold putP putK
  rw [r.any k]
  split
  · exact r.map k hd
  · exact r.snoc k hd
theorem putP_length (l : List (κ × D)) (k : κ) (d : D) : (putP l k d).length ≤ l.length + 1 := by
  unfold putP
  split
  · rw [List.length_map]; exact Nat.le_succ _
  · rw [List.length_append]; exact Nat.le_refl _
/-- the pairs of a dict comprehension -/
def dcL (kx : D → Option κ) (t : D → Rho → M Rho) (c : Rho → M Bool) (kf vf : Rho → M D) : List D → Rho → List (κ × D) → M (List (κ × D))
  | [], _, acc => ret acc
  | d :: ds, ρ, acc => bnd (t d ρ) fun ρ1 => bnd (c ρ1) fun b => if b = true then bnd (kf ρ1) fun kd => bnd (vf ρ1) fun vd => match kx kd with
    | some k => dcL kx t c kf vf ds ρ (putP acc k vd)
    | none => die
    else dcL kx t c kf vf ds ρ acc
end
def D.tkey : D → Option (List Key)
  | .tup es => D.keys es
  | _ => none
def dkOf (l : List (Key × D)) : D := .dk (l.map (·.1)) (l.map (·.2))
def dtOf (l : List (List Key × D)) : D := .dt (l.map (·.1)) (l.map (·.2))
def dcKE (vs : List Nat) (it : Rho → M (List D)) (t : D → Rho → M Rho) (c : Rho → M Bool) (kf vf : Rho → M D) : Rho → M D := fun ρ => bnd (it ρ) fun ds => chk (ds.length ≤ 1000000) (bnd (dcL D.key t c kf vf ds (wipeR ρ vs) []) fun l => ret (dkOf l))
def dcTE (vs : List Nat) (it : Rho → M (List D)) (t : D → Rho → M Rho) (c : Rho → M Bool) (kf vf : Rho → M D) : Rho → M D := fun ρ => bnd (it ρ) fun ds => chk (ds.length ≤ 1000000) (bnd (dcL D.tkey t c kf vf ds (wipeR ρ vs) []) fun l => ret (dtOf l))
section
variable {X : Cx} {kf vf : Rho → M D} {it : Rho → M (List D)} {tc : Rho → M Bool} {t : D → Rho → M Rho} {vs ws : List Nat}
theorem dcK_ok (hv : ∀ i ∈ ws, i ∈ vs) {σ : L2.St} {H : Hp} {Q : VK} (q : tD (dcKE vs it t tc kf vf) σ H Q) : tDc (tJ it) (tGd t ws) (tT tc) (tD kf) (tD vf) vs σ H Q := by
  obtain ⟨g, P, E, hf, k⟩ := q
  refine ⟨g, _, E, hf, fun ds pds J B1 H1 w wk => fun D hD => ?_⟩
  obtain ⟨hlen, pds⟩ := pds
  have h0D : H D = none := w.pn hD
  have ndD : ND g.W D := w.wk.nd hD
  have g0D : g.H0 D = none := E.r.pn h0D
  have ownD : ∀ (j : Nat) (ys : List EC.D) (l : Addr), (wipeR g.ρ vs)[j]? = some (.o ys) → (L2.wipe σ vs)[j]? = some (some (.ref l)) → l ≠ D := fun j ys l h1 h2 z => by
    obtain ⟨l', ls, q1, q2, q3, q4, q5, q6⟩ := (E.wipe vs).own j ys h1
    rw [q1] at h2; cases h2
    rw [z, h0D] at q5; cases q5
  refine ⟨fun i m H' => m = ds.length - i ∧ i ≤ ds.length ∧ ∃ (B' : Hp) (acc : List (Key × EC.D)) (ls : List (Key × V)), Sub B1 B' ∧ Grow g.W g.B H B' H' ∧ EnvG (g.go B' (wipeR g.ρ vs)) (L2.wipe σ vs) H' ∧ B' D = none ∧ H' D = some (.dK ls) ∧ RepP B' acc ls ∧ acc.length ≤ i ∧
    dcL EC.D.key t tc kf vf (ds.drop i) (wipeR g.ρ vs) acc (fun (l : List (Key × EC.D)) => P (dkOf l)), ⟨ds.length, rfl, Nat.zero_le _, B1, [], [], Sub.rfl', ?_, ?_, w.bh.none hD, upd_same, rfl, Nat.zero_le _, pds⟩, ?_⟩
  · exact w.trans (Grow.new0 w.bh w.wk hD)
  · exact ((E.wipe vs).grow w).wr g0D (w.bh.none hD) ndD ownD
  rintro i m H' ⟨rfl, hi, B', acc, ls, sb, wg, E', hbD, hHD, racc, hacc, hp⟩
  obtain ⟨go, stop⟩ := wk i B' H' sb wg
  by_cases hlt : i < ds.length
  · refine .inr ?_
    have hd : ds[i]? = some ds[i] := List.getElem?_eq_getElem hlt
    obtain ⟨hgo, hy⟩ := go _ hd
    have ed : ds.drop i = ds[i] :: ds.drop (i + 1) := List.drop_eq_getElem_cons hlt
    rw [ed] at hp
    refine ⟨hgo, fun H' => ∃ (B' : Hp) (acc : List (Key × EC.D)) (ls : List (Key × V)), Sub B1 B' ∧ Grow g.W g.B H B' H' ∧ EnvG (g.go B' (wipeR g.ρ vs)) (L2.wipe σ vs) H' ∧ B' D = none ∧ H' D = some (.dK ls) ∧ RepP B' acc ls ∧ acc.length ≤ i + 1 ∧
      dcL EC.D.key t tc kf vf (ds.drop (i + 1)) (wipeR g.ρ vs) acc (fun (l : List (Key × EC.D)) => P (dkOf l)), fun H2 h2 => ⟨_, by omega, rfl, hlt, h2⟩, fun x H2 y => ?_⟩
    obtain ⟨B2, w2, rx⟩ := hy x H2 y
    have E2 := E'.grow w2
    have hb2 : B2 D = none := w2.nw D hbD (by rw [hHD]; simp)
    have hh2 := w2.hh _ _ ndD hHD
    refine ⟨_, _, _, E2, rx, hp, fun ρ3 p3 σ3 E3 o3 => ⟨?_, _, _, E3, p3, fun b pb B4 H4 w4 => ?_⟩⟩
    · rw [(o3.more hv).1.wipe, wipe_wipe]
    have hb4 : B4 D = none := w4.nw D hb2 (by rw [hh2]; simp)
    have hh4 := w4.hh _ _ ndD hh2
    have sb4 := (sb.tr w2.bb).tr w4.bb
    have wg4 := (wg.trans w2).trans w4
    have racc4 := (racc.mono w2.bb).mono w4.bb
    cases b with
    | true =>
      refine iteT ⟨_, _, E3.grow w4, pb, fun kd pk y B5 H5 w5 r5 => ⟨_, _, (E3.grow w4).grow w5, pk, fun vd pv z B6 H6 w6 r6 => ?_⟩⟩
      have hb5 : B5 D = none := w5.nw D hb4 (by rw [hh4]; simp)
      have hh5 := w5.hh _ _ ndD hh4
      have hb6 : B6 D = none := w6.nw D hb5 (by rw [hh5]; simp)
      have hh6 := w6.hh _ _ ndD hh5
      cases hk : EC.D.key kd with
      | none =>
        simp only [hk] at pv; exact pv.elim
      | some kk =>
        simp only [hk] at pv
        have wg6 := (wg4.trans w5).trans w6
        refine ⟨ls, kk, key_rep hk r5, hh6, by rw [racc.length]; exact mil_lt (by omega), B6, putP acc kk vd, putK ls kk z, (sb4.tr w5.bb).tr w6.bb, wg6.wr h0D hb6 ndD, ?_, hb6, upd_same, ((racc4.mono w5.bb).mono w6.bb).put kk r6, Nat.le_trans (putP_length _ _ _) (Nat.add_le_add_right hacc 1), pv⟩
        exact (((E2.grow w4).grow w5).grow w6).wr g0D hb6 ndD ownD
    | false => exact iteF ⟨B4, acc, ls, sb4, wg4, E2.grow w4, hb4, hh4, racc4, Nat.le_succ_of_le hacc, pb⟩
  · have e : i = ds.length := by omega
    subst e
    rw [List.drop_length] at hp
    have hp : P (dkOf acc) := hp
    refine .inl ⟨stop (Nat.le_refl _), ?_⟩
    obtain ⟨z1, z2⟩ := racc.vals
    have sbo : Sub B' (upd B' D (.dK ls)) := fun b u q => by rw [upd_ne (ne_of_none q hbD)]; exact q
    exact k _ hp (.ref D) _ H' (wg.own h0D hbD hHD ndD) ⟨D, ls.map (·.2), rfl, .inl (by rw [upd_same, ← z1]), by rw [List.length_map, List.length_map], z2.mono sbo⟩
theorem d_dcK {kx vx tg iter : Expr} {ifs : List Expr} {scope : Scope} {own : List (Str × Nat)} {ov : List Nat} {pos : Pos} (hc : X.calm = true) (hN : X.N.Nodup) (hi : PI X tg iter (tJ it)) (ok : BlkOk X.N X.env.scope scope own)
    (hg : ∀ (s : Shared) (H : Hp) (C : Addr) (cl : List (Str × Addr)) (fp : List Addr), PG (X.blk s H scope (compEnvC scope cl C X.env) fp) tg (tGd t ws)) (ht : ∀ (s : Shared) (H : Hp) (C : Addr) (cl : List (Str × Addr)) (fp : List Addr), PTs (X.blk s H scope (compEnvC scope cl C X.env) fp) ifs (tT tc))
    (hk : ∀ (s : Shared) (H : Hp) (C : Addr) (cl : List (Str × Addr)) (fp : List Addr), PE (X.blk s H scope (compEnvC scope cl C X.env) fp) kx (tD kf)) (he : ∀ (s : Shared) (H : Hp) (C : Addr) (cl : List (Str × Addr)) (fp : List Addr), PE (X.blk s H scope (compEnvC scope cl C X.env) fp) vx (tD vf))
    (hv : ∀ i ∈ ws, i ∈ ov) (ho : own.map (·.2) = ov := by rfl) (hs : ∀ x, foldedSetIterable iter X.env x = pure x := by intro _; rfl) : PE X (.DictComp kx vx [⟨tg, iter, ifs, 0⟩] scope pos) (tD (dcKE ov it t tc kf vf)) := by
  subst ho
  exact pe_imp (pe_dc hc hN hi ok hg ht hk he hs) fun σ H Q q => dcK_ok hv q
end
end EC
end
/-! ## D1 -/
section
set_option Elab.async false
set_option linter.all false
set_option maxRecDepth 100000
set_option maxHeartbeats 1000000
/-! D1: dict comprehensions by tuple keys. -/
namespace EC
open PySem PySem.Spec PyProof.Rows L2
theorem storeT {X : Cx} {pns : List (Addr × Obj)} {σ : L2.St} {H : Hp} {s : Shared} {E : Value → Shared → Prop} {Dd b : Addr} {ps : List (List Key × V)} {k : List Key} {z : V} {rk rz : Value} {Q : Unit → Shared → Prop} (hu : X.A.units + 1 < cLine)
    (J : Inv X pns σ H s) (e1 : H Dd = some (.dT ps)) (e2 : H b = some (.tup (k.map kV))) (len : ps.length < sizeLine) (q1 : RelV (.ref b) rk) (q2 : RelV z rz)
    (fin : ∀ t, Inv X pns σ (upd H Dd (.dT (putK ps k z))) t → Q () t) : wpAny (model X.prog X.w) X.A (dictSet Dd rk rz) Q E s := by
  cases (show rk = Value.ref b from q1)
  have o1 := L2.dt_of J.hok e1
  obtain ⟨le, ne, ys, rel, dict⟩ := o1
  have l1 : ys.length ≤ sizeLine := (Paired.length rel) ▸ le
  have l2 : (putK ps k z).length ≤ sizeLine := Nat.le_trans (length_putK ps k z) len
  refine wpAny_dictSet_heap (hsz := l1) (show X.A.units < cLine by omega) (key_of J.hok e2) dict fun g' dict' same => fin _ ?_
  obtain ⟨ob, es, ep, c1, c2, c3, c4, _, c5⟩ := dict'
  have keep := (rel.put k e2 q2).keeps (H' := upd H Dd (.dT (putK ps k z))) fun c zs hc => by
    rw [upd_ne (ne_of hc e1 (fun x => nomatch x))]; exact hc
  exact d_write J (by rw [e1]; exact True.intro) same ⟨ob, c1⟩ ⟨l2, ne, _, keep, ob, es, ep, c1, c2, c3, c4, c5⟩
section
variable {X : Cx}
/-- {k: v for target in iter if ..}, keys tuples -/
def tDcT (wi : TI) (tg : TG) (tt : TT) (tk tv : TE) (vs : List Nat) : TE := fun σ H Q => wi σ H fun J H1 => ∀ N, H1 N = none → ∃ W : Nat → Nat → Hp → Prop, (∃ m, W 0 m (upd H1 N (.dT []))) ∧ ∀ i m H, W i m H →
  (J.stop i H ∧ Q (.ref N) H) ∨ J.go i H ∧ ∃ Nx : Hp → Prop, (∀ H', Nx H' → ∃ m', m' < m ∧ W (i + 1) m' H') ∧ ∀ x H', J.yld i H x H' → tg x (L2.wipe σ vs) H' fun σ2 H2 => L2.wipe σ2 vs = L2.wipe σ vs ∧ tt σ2 H2 fun c H3 =>
    if c = true then tk σ2 H3 fun y H4 => tv σ2 H4 fun z H5 => ∃ ps k b, y = .ref b ∧ H5 b = some (.tup (List.map kV k)) ∧ H5 N = some (.dT ps) ∧ ps.length < sizeLine ∧ Nx (upd H5 N (.dT (putK ps k z))) else Nx H3
theorem dcT_core {pns : List (Addr × Obj)} {s : Shared} {σ : L2.St} {H : Hp} {Q : VK} {kx vx tg iter : Expr} {ifs : List Expr} {scope : Scope} {mine : List (Str × Nat)} {pos pos' : Pos} {wi : TI} {gg : TG} {tt : TT} {tk tv : TE} {use : Option (Value → Sem Unit)} {Qf : Value → Shared → Prop}
    (hu : X.A.units + 1 < cLine) (calm : X.calm = true) (nodup : X.N.Nodup) (J : Inv X pns σ H s) (hi : PI X tg iter wi) (blk : BlkOk X.N X.env.scope scope mine)
    (gk : ∀ (s : Shared) (H : Hp) (C : Addr) (cl : List (Str × Addr)) (fp : List Addr), PG (X.blk s H scope (compEnvC scope cl C X.env) fp) tg gg)
    (tkk : ∀ (s : Shared) (H : Hp) (C : Addr) (cl : List (Str × Addr)) (fp : List Addr), PTs (X.blk s H scope (compEnvC scope cl C X.env) fp) ifs tt)
    (kk : ∀ (s : Shared) (H : Hp) (C : Addr) (cl : List (Str × Addr)) (fp : List Addr), PE (X.blk s H scope (compEnvC scope cl C X.env) fp) kx tk)
    (vk : ∀ (s : Shared) (H : Hp) (C : Addr) (cl : List (Str × Addr)) (fp : List Addr), PE (X.blk s H scope (compEnvC scope cl C X.env) fp) vx tv) (fs : ∀ x, foldedSetIterable iter X.env x = pure x)
    (start : tDcT wi gg tt tk tv (mine.map (·.2)) σ H Q)
    (out : ∀ N C s' m H', Inv X pns σ H' s' → Q (.ref N) H' → s'.heap.Ns C m → FpOk X pns H' C → compPost (model X.prog X.w) X.A X.xe use Qf (.ref N) C (.ok .next) s') :
    wpAny (model X.prog X.w) X.A (comprehension (.DictComp kx vx [⟨tg, iter, ifs, 0⟩] scope pos) scope X.env pos' newDict false (eval iter X.env) use) Qf X.xe s := by
  have frees : ∀ y ∈ scope.names, y.2 = .free → ∃ c, X.env.cells.lookup y.1 = some c := fun y my fy => (blk.free y my fy).elim (fun z => J.ok.has _ (.inl z)) (fun z => J.ok.has _ (.inr z))
  refine wpAny_comprehension_free (use := use) rfl fs (closure_ok frees) blk.kind (fun y my fy => by rw [blk.uniq y my, fy])
    (thn (hi.run pns s σ H _ J start) fun xv sA hA => thn hA fun itv sB hB => ?_)
  obtain ⟨it, ch, tn, Jt, HB, eit, JB, TT', stB, okB, rest⟩ := hB
  subst eit
  refine wpAny_newObj_type (newEnv_comp ?_)
  generalize hN : sB.heap.objs.size = N
  have nN : HB N = none := JB.hok.fresh (Nat.le_of_eq hN)
  obtain ⟨W, ⟨mm, wm⟩, turn⟩ := rest N nN
  generalize hsC : ({ sB with heap := sB.heap.push { cls := .type "dict", data := .dict #[] } } : Shared) = sC
  have hpC : sC.heap = sB.heap.push { cls := .type "dict", data := .dict #[] } := by rw [← hsC]
  have JC : Inv X pns σ (upd HB N (.dT [])) sC := by
    rw [← hsC]
    refine JB.laid (t' := sB.toks) (fun c o q => Heap.get?_push_of_some _ q) (Nat.le_of_eq hN) ?_
    rw [← hN]; exact dt_empty sB.heap JB.big
  have lowB : ∀ c ∈ ch, c < sB.heap.objs.size := fun c hc => by
    obtain ⟨o, q, _⟩ := TT'.obj _ _ stB c hc
    exact Heap.lt_size q
  have okC : ∀ c ∈ ch, FpOk X pns (upd HB N (.dT [])) c ∧ c < sC.heap.objs.size := fun c hc => by
    have lo := lowB c hc
    refine ⟨⟨?_, (okB c hc).2⟩, by rw [hpC, Heap.size_push]; exact Nat.lt_succ_of_lt lo⟩
    rw [upd_ne (by rw [← hN]; exact Nat.ne_of_lt lo)]; exact (okB c hc).1
  have stC : tn 0 sC.heap := TT'.keep _ _ _ stB fun c _ o q => by rw [hpC]; exact Heap.get?_push_of_some _ q
  have JD := block_start JC blk nodup okC
  generalize hcl : cellsFrom (sC.heap.objs.size + 1) scope.names (cloFrom X.env.cells scope.names []) = cl at JD
  show codeAny _ _ (.compStart (.DictComp kx vx [⟨tg, iter, ifs, 0⟩] scope pos) 0 (.ref it) (.ref N) (compEnvC scope cl sC.heap.objs.size X.env))
    (compPost (model X.prog X.w) X.A X.xe use Qf (.ref N) sC.heap.objs.size) { sC with heap := pushCells (sC.heap.push { cls := .type "dict", data := .dict #[] }) scope.names }
  have p1 := gk sC (upd HB N (.dT [])) sC.heap.objs.size cl ch
  have p2 := tkk sC (upd HB N (.dT [])) sC.heap.objs.size cl ch
  have p3 := kk sC (upd HB N (.dT [])) sC.heap.objs.size cl ch
  have p4 := vk sC (upd HB N (.dT [])) sC.heap.objs.size cl ch
  have clear0 : ∀ c ∈ ch, (upd HB N (.dT [])) c = none := fun c hc => (okC c hc).1.1
  generalize hce : compEnvC scope cl sC.heap.objs.size X.env = ce at JD p1 p2 p3 p4 ⊢
  generalize hHC : upd HB N (.dT []) = HC at JC JD p1 p2 p3 p4 wm clear0 okC
  generalize hsD : ({ sC with heap := pushCells (sC.heap.push { cls := .type "dict", data := .dict #[] }) scope.names } : Shared) = sD at JD ⊢
  have eC : ce.locals = sC.heap.objs.size := by rw [← hce]; rfl
  have stD : tn 0 sD.heap := TT'.keep _ _ _ stC fun c _ o q => by rw [← hsD]; exact pushCells_keeps _ _ _ _ (Heap.get?_push_of_some _ q)
  have clean : ∀ {σ' : L2.St} {H' : Hp} {s' : Shared}, Inv (X.blk sC HC scope ce ch) [] σ' H' s' → (∀ c ∈ ch, H' c = none) → ∀ c ∈ ch, FpOk (X.blk sC HC scope ce ch) [] H' c := fun J' hn c hc =>
    ⟨hn c hc, (J'.ok.exf c hc).1, J'.ok.exfs c hc, .inl hc, fun x d q => (J'.ok.exf c hc).2 x d q, fun p hp => absurd hp (by simp)⟩
  have loop : codeAny (model X.prog X.w) X.A (.compLoop (.DictComp kx vx [⟨tg, iter, ifs, 0⟩] scope pos) 0 (.ref it) (.ref N) ce) (compPost (model X.prog X.w) X.A X.xe use Qf (.ref N) sC.heap.objs.size) sD := by
    refine compLoop_anyD (fun n t => ∃ i G, Inv (X.blk sC HC scope ce ch) [] (L2.wipe σ (mine.map (·.2))) G t ∧ tn i t.heap ∧ (∀ c ∈ ch, G c = none) ∧ W i n G) ?_ mm ⟨0, HC, JD, stD, clear0, wm⟩
    rintro n t0 ⟨i, G0, K0, z0, n0, w0⟩
    rcases turn i n G0 w0 with ⟨hstop, hQ⟩ | ⟨hgo, Nx, hNx, one⟩
    · refine thnF (TT'.done (X.blk sC HC scope ce ch) rfl rfl rfl calm i [] t0 _ G0 (fun _ _ => False) K0 (clean K0 n0) z0 hstop) fun r t1 ⟨er, K1⟩ => ?_
      subst er
      have JE : Inv X pns σ G0 t1 := JC.call' (ch := ch) K1.os K1.base K1.hok K1.bare fun c hc => by
        obtain ⟨⟨_, a1, a2, a3, a4, a5⟩, _⟩ := okC c hc
        exact ⟨a3, a1, a4, a5⟩
      have nL : G0 sC.heap.objs.size = none := by rw [← eC]; exact K1.free
      obtain ⟨mp, hmp, _⟩ := K1.loc
      have hmp : t1.heap.Ns ce.locals mp := hmp
      rw [eC] at hmp
      exact out N sC.heap.objs.size t1 mp G0 JE hQ hmp (JC.fpOk (Nat.le_refl _) nL)
    · refine thnF (TT'.item (X.blk sC HC scope ce ch) rfl rfl rfl calm i [] t0 _ G0 (fun _ _ => False) K0 (clean K0 n0) z0 hgo) fun r t1 ⟨u, er, h1⟩ => ?_
      subst er
      refine thnF h1 fun _ t2 ⟨x, G2, K2, rx, yx, z2, n2⟩ => ?_
      refine thnF (p1.run _ t2 _ G2 x u _ (K2.pinned (clean K2 n2) (TT'.obj _ _ z2)) rx (one x G2 yx)) fun _ t3 ⟨σ3, G3, K3, hw3, q3⟩ => ?_
      refine thnF (p2.run _ t3 σ3 G3 _ K3 q3) fun c t4 ⟨G4, K4, q4⟩ => ?_
      have back : ∀ {t' : Shared} {G' : Hp}, Inv (X.blk sC HC scope ce ch) ([] ++ pinsAt ch t2.heap) σ3 G' t' → Nx G' → ∃ m, m < n ∧ ∃ i H', Inv (X.blk sC HC scope ce ch) [] (L2.wipe σ (mine.map (·.2))) H' t' ∧ tn i t'.heap ∧ (∀ c ∈ ch, H' c = none) ∧ W i m H' := fun {t' G'} K' nx => by
        obtain ⟨m', lt, w'⟩ := hNx G' nx
        have pinned : ∀ c ∈ ch, ∀ o, t2.heap.get? c = some o → t'.heap.get? c = some o ∧ G' c = none := fun c hc o q => by
          have z := K'.pin (c, o) (List.mem_append_right _ (List.mem_append_right _ (mem_pinsAt hc q)))
          exact ⟨z.1, z.2.1⟩
        refine ⟨m', lt, i + 1, G', (K'.unpinned (pins := [])).weak (by rw [← hw3, L2.wipe_length]) (fun j v q => ?_), TT'.keep _ _ _ z2 fun c hc o q => (pinned c hc o q).1, fun c hc => ?_, w'⟩
        · rw [← hw3] at q; exact (wipe_some q).1
        · obtain ⟨o, q, _⟩ := TT'.obj _ _ z2 c hc
          exact (pinned c hc o q).2
      cases c with
      | false => exact back K4 q4
      | true =>
        refine thnF (p3.run _ t4 σ3 G4 _ K4 q4) fun rk t5 ⟨yk, G5, K5, r5, q5⟩ => ?_
        refine thnF (p4.run _ t5 σ3 G5 _ K5 q5) fun rz t6 ⟨yz, G6, K6, r6, ps, k, b, eb, e2, e1, len, nx⟩ => ?_
        subst eb
        exact storeT (X := X.blk sC HC scope ce ch) hu K6 e1 e2 len r5 r6 fun t7 K7 => back K7 nx
  exact codeAny_compStart_dict loop (TT'.self X.A 0 _ _ _ stD loop)
/-- as a value -/
theorem d_dcT0 {kx vx tg iter : Expr} {ifs : List Expr} {scope : Scope} {mine : List (Str × Nat)} {pos : Pos} {wi : TI} {gg : TG} {tt : TT} {tk tv : TE} (hu : X.A.units + 1 < cLine) (calm : X.calm = true) (nodup : X.N.Nodup) (hi : PI X tg iter wi) (blk : BlkOk X.N X.env.scope scope mine)
    (gk : ∀ (s : Shared) (H : Hp) (C : Addr) (cl : List (Str × Addr)) (fp : List Addr), PG (X.blk s H scope (compEnvC scope cl C X.env) fp) tg gg)
    (tkk : ∀ (s : Shared) (H : Hp) (C : Addr) (cl : List (Str × Addr)) (fp : List Addr), PTs (X.blk s H scope (compEnvC scope cl C X.env) fp) ifs tt)
    (kk : ∀ (s : Shared) (H : Hp) (C : Addr) (cl : List (Str × Addr)) (fp : List Addr), PE (X.blk s H scope (compEnvC scope cl C X.env) fp) kx tk)
    (vk : ∀ (s : Shared) (H : Hp) (C : Addr) (cl : List (Str × Addr)) (fp : List Addr), PE (X.blk s H scope (compEnvC scope cl C X.env) fp) vx tv) (fs : ∀ x, foldedSetIterable iter X.env x = pure x := by intro _; rfl) :
    PE X (.DictComp kx vx [⟨tg, iter, ifs, 0⟩] scope pos) (tDcT wi gg tt tk tv (mine.map (·.2))) := by
  refine ⟨fun pns s σ H Q J start => ?_⟩
  rw [arm_eval_DictComp]
  refine dcT_core hu calm nodup J hi blk gk tkk kk vk fs start fun N C s' m H' J' q hn f => ⟨m, hn, fun h2 sb => ?_⟩
  obtain ⟨f0, f1, f2, f3, f4, f5⟩ := f
  exact ⟨.ref N, H', J'.turned (t' := s'.toks) (fun b o hb e => (sb.2 b hb).trans e) f0 f1 f3 f4 f5, rfl, q⟩
/-- name = {..} on one line: the store before the block's frame goes -/
theorem store_comp {pns : List (Addr × Obj)} {σ : L2.St} {D : Ends} {i : Nat} {y : Str} {py : Pos} (nodup : X.N.Nodup) (hy : X.N[i]? = some y) (hyl : X.env.scope.names.lookup y = some .local) (N C : Addr) (s' : Shared) (m : Str → Option Value) (H' : Hp)
    (J' : Inv X pns σ H' s') (q : gName i (.ref N) σ H' D.nx) (hn : s'.heap.Ns C m) (f : FpOk X pns H' C) : compPost (model X.prog X.w) X.A X.xe (some (assign (.Name y py) X.env)) (fun _ s' => SP X pns D .next s') (.ref N) C (.ok .next) s' := by
  show wpAny _ _ (assign (.Name y py) X.env (.ref N)) _ _ _
  refine wpAny_assign_Name (store_ok2 (v := V.ref N) J' nodup hy (.inl hyl) rfl (fun s2 J2 ⟨a, sb, ha⟩ => ?_) (.inr hyl))
  obtain ⟨f0, f1, f2, f3, f4, f5⟩ := f
  have hac : C ≠ a := ha.elim (fun z => by rw [z]; exact f1) (fun z e => f4 y a z e.symm)
  exact ⟨m, hn.sameBut sb hac, fun h3 sb3 => ⟨_, H', J2.turned (t' := s2.toks) (fun b o hb e => (sb3.2 b hb).trans e) f0 f1 f3 f4 f5, q⟩⟩
theorem sw_trueD {kx vx : Expr} {gs : List Comprehension} {scope : Scope} {pos py : Pos} {y : Str} {l : Nat} {env : Env} (hk : env.scope.kind = .function) (hy : env.scope.names.lookup y = some .local) (hl : (py.line == pos.line) = true)
    (ha : (scope.names.any fun (n, k) => n == y && (k == .local || k == .cell)) = false) : swapsWith (.DictComp kx vx gs scope pos) (some (.Name y py)) l env = pure true := by
  have k1 : env.kindOf y = some .local := hy
  have k2 : env.blockKind = .function := by unfold Env.blockKind; rw [hk]; rfl
  unfold swapsWith
  simp only [k2, k1, ha, Expr.pos, hl]
  rfl
theorem ps_setDcT {i : Nat} {y : Str} {py spos : Pos} {kx vx tg iter : Expr} {ifs : List Expr} {scope : Scope} {mine : List (Str × Nat)} {pos : Pos} {wi : TI} {gg : TG} {tt : TT} {tk tv : TE} (hu : X.A.units + 1 < cLine) (calm : X.calm = true) (nodup : X.N.Nodup) (hy : X.N[i]? = some y) (hyl : X.env.scope.names.lookup y = some .local)
    (hsw : swapsWith (.DictComp kx vx [⟨tg, iter, ifs, 0⟩] scope pos) (some (.Name y py)) spos.line X.env = pure true) (hi : PI X tg iter wi) (blk : BlkOk X.N X.env.scope scope mine)
    (gk : ∀ (s : Shared) (H : Hp) (C : Addr) (cl : List (Str × Addr)) (fp : List Addr), PG (X.blk s H scope (compEnvC scope cl C X.env) fp) tg gg)
    (tkk : ∀ (s : Shared) (H : Hp) (C : Addr) (cl : List (Str × Addr)) (fp : List Addr), PTs (X.blk s H scope (compEnvC scope cl C X.env) fp) ifs tt)
    (kk : ∀ (s : Shared) (H : Hp) (C : Addr) (cl : List (Str × Addr)) (fp : List Addr), PE (X.blk s H scope (compEnvC scope cl C X.env) fp) kx tk)
    (vk : ∀ (s : Shared) (H : Hp) (C : Addr) (cl : List (Str × Addr)) (fp : List Addr), PE (X.blk s H scope (compEnvC scope cl C X.env) fp) vx tv) (fs : ∀ x, foldedSetIterable iter X.env x = pure x := by intro _; rfl) :
    PS X (.Assign [.Name y py] (.DictComp kx vx [⟨tg, iter, ifs, 0⟩] scope pos) spos) (tAsg (tDcT wi gg tt tk tv (mine.map (·.2))) (gName i)) := by
  refine ⟨fun pns s σ H D J start => ?_⟩
  rw [exec_Assign_Name_used _ _ _ _ hsw]
  refine wpAny_bind (wpAny_standAt (wpAny_bind ?_))
  show wpAny _ X.A (do let _ ← comprehension (.DictComp kx vx [⟨tg, iter, ifs, 0⟩] scope pos) scope X.env (firstIterPos [⟨tg, iter, ifs, 0⟩] pos) newDict false (eval iter X.env) (some (assign (.Name y py) X.env))) _ _ s
  have start : tDcT wi gg tt tk tv (mine.map (·.2)) σ H (fun x H1 => gName i x σ H1 D.nx) := start
  exact wpAny_bind (thn (dcT_core (Qf := fun _ s' => SP X pns D .next s') hu calm nodup J hi blk gk tkk kk vk fs start fun N C s' m H' J' q hn f => store_comp nodup hy hyl N C s' m H' J' q hn f) fun _ s' hq => wpAny_pure (wpAny_pure hq))
theorem ps_setDcK {i : Nat} {y : Str} {py spos : Pos} {kx vx tg iter : Expr} {ifs : List Expr} {scope : Scope} {mine : List (Str × Nat)} {pos : Pos} {wi : TI} {gg : TG} {tt : TT} {tk tv : TE} (calm : X.calm = true) (nodup : X.N.Nodup) (hy : X.N[i]? = some y) (hyl : X.env.scope.names.lookup y = some .local)
    (hsw : swapsWith (.DictComp kx vx [⟨tg, iter, ifs, 0⟩] scope pos) (some (.Name y py)) spos.line X.env = pure true) (hi : PI X tg iter wi) (blk : BlkOk X.N X.env.scope scope mine)
    (gk : ∀ (s : Shared) (H : Hp) (C : Addr) (cl : List (Str × Addr)) (fp : List Addr), PG (X.blk s H scope (compEnvC scope cl C X.env) fp) tg gg)
    (tkk : ∀ (s : Shared) (H : Hp) (C : Addr) (cl : List (Str × Addr)) (fp : List Addr), PTs (X.blk s H scope (compEnvC scope cl C X.env) fp) ifs tt)
    (kk : ∀ (s : Shared) (H : Hp) (C : Addr) (cl : List (Str × Addr)) (fp : List Addr), PE (X.blk s H scope (compEnvC scope cl C X.env) fp) kx tk)
    (vk : ∀ (s : Shared) (H : Hp) (C : Addr) (cl : List (Str × Addr)) (fp : List Addr), PE (X.blk s H scope (compEnvC scope cl C X.env) fp) vx tv) (fs : ∀ x, foldedSetIterable iter X.env x = pure x := by intro _; rfl) :
    PS X (.Assign [.Name y py] (.DictComp kx vx [⟨tg, iter, ifs, 0⟩] scope pos) spos) (tAsg (tDc wi gg tt tk tv (mine.map (·.2))) (gName i)) := by
  refine ⟨fun pns s σ H D J start => ?_⟩
  rw [exec_Assign_Name_used _ _ _ _ hsw]
  refine wpAny_bind (wpAny_standAt (wpAny_bind ?_))
  show wpAny _ X.A (do let _ ← comprehension (.DictComp kx vx [⟨tg, iter, ifs, 0⟩] scope pos) scope X.env (firstIterPos [⟨tg, iter, ifs, 0⟩] pos) newDict false (eval iter X.env) (some (assign (.Name y py) X.env))) _ _ s
  have start : tDc wi gg tt tk tv (mine.map (·.2)) σ H (fun x H1 => gName i x σ H1 D.nx) := start
  exact wpAny_bind (thn (dc_core (Qf := fun _ s' => SP X pns D .next s') calm nodup J hi blk gk tkk kk vk fs start fun N C s' m H' J' q hn f => store_comp nodup hy hyl N C s' m H' J' q hn f) fun _ s' hq => wpAny_pure (wpAny_pure hq))
end
end EC
end
/-! ## D2 -/
section
set_option Elab.async false
set_option linter.all false
set_option maxRecDepth 100000
set_option maxHeartbeats 1000000
/-! D2: dict comprehensions by tuple keys, by data. -/
namespace EC
open PySem PySem.Spec PyProof.Rows L2
theorem tkey_rep {B : Hp} {d : D} {k : List Key} {v : V} (h : D.tkey d = some k) (r : Rep B d v) : ∃ b, v = .ref b ∧ B b = some (.tup (k.map kV)) := by
  cases d with
  | tup es =>
    obtain ⟨b, vs, e, hB, rr⟩ := r
    exact ⟨b, e, by rw [hB, keys_rep h rr]⟩
  | _ => cases h
section
variable {X : Cx} {kf vf : Rho → M D} {it : Rho → M (List D)} {tc : Rho → M Bool} {t : D → Rho → M Rho} {vs ws : List Nat}
theorem dcT_ok (hv : ∀ i ∈ ws, i ∈ vs) {σ : L2.St} {H : Hp} {Q : VK} (q : tD (dcTE vs it t tc kf vf) σ H Q) : tDcT (tJ it) (tGd t ws) (tT tc) (tD kf) (tD vf) vs σ H Q := by
  obtain ⟨g, P, E, hf, k⟩ := q
  refine ⟨g, _, E, hf, fun ds pds J B1 H1 w wk => fun D hD => ?_⟩
  obtain ⟨hlen, pds⟩ := pds
  have h0D : H D = none := w.pn hD
  have ndD : ND g.W D := w.wk.nd hD
  have g0D : g.H0 D = none := E.r.pn h0D
  have ownD : ∀ (j : Nat) (ys : List EC.D) (l : Addr), (wipeR g.ρ vs)[j]? = some (.o ys) → (L2.wipe σ vs)[j]? = some (some (.ref l)) → l ≠ D := fun j ys l h1 h2 z => by
    obtain ⟨l', ls, q1, q2, q3, q4, q5, q6⟩ := (E.wipe vs).own j ys h1
    rw [q1] at h2; cases h2
    rw [z, h0D] at q5; cases q5
  refine ⟨fun i m H' => m = ds.length - i ∧ i ≤ ds.length ∧ ∃ (B' : Hp) (acc : List (List Key × EC.D)) (ls : List (List Key × V)), Sub B1 B' ∧ Grow g.W g.B H B' H' ∧ EnvG (g.go B' (wipeR g.ρ vs)) (L2.wipe σ vs) H' ∧ B' D = none ∧ H' D = some (.dT ls) ∧ RepP B' acc ls ∧ acc.length ≤ i ∧
    dcL EC.D.tkey t tc kf vf (ds.drop i) (wipeR g.ρ vs) acc (fun (l : List (List Key × EC.D)) => P (dtOf l)), ⟨ds.length, rfl, Nat.zero_le _, B1, [], [], Sub.rfl', ?_, ?_, w.bh.none hD, upd_same, rfl, Nat.zero_le _, pds⟩, ?_⟩
  · exact w.trans (Grow.new0 w.bh w.wk hD)
  · exact ((E.wipe vs).grow w).wr g0D (w.bh.none hD) ndD ownD
  rintro i m H' ⟨rfl, hi, B', acc, ls, sb, wg, E', hbD, hHD, racc, hacc, hp⟩
  obtain ⟨go, stop⟩ := wk i B' H' sb wg
  by_cases hlt : i < ds.length
  · refine .inr ?_
    have hd : ds[i]? = some ds[i] := List.getElem?_eq_getElem hlt
    obtain ⟨hgo, hy⟩ := go _ hd
    have ed : ds.drop i = ds[i] :: ds.drop (i + 1) := List.drop_eq_getElem_cons hlt
    rw [ed] at hp
    refine ⟨hgo, fun H' => ∃ (B' : Hp) (acc : List (List Key × EC.D)) (ls : List (List Key × V)), Sub B1 B' ∧ Grow g.W g.B H B' H' ∧ EnvG (g.go B' (wipeR g.ρ vs)) (L2.wipe σ vs) H' ∧ B' D = none ∧ H' D = some (.dT ls) ∧ RepP B' acc ls ∧ acc.length ≤ i + 1 ∧
      dcL EC.D.tkey t tc kf vf (ds.drop (i + 1)) (wipeR g.ρ vs) acc (fun (l : List (List Key × EC.D)) => P (dtOf l)), fun H2 h2 => ⟨_, by omega, rfl, hlt, h2⟩, fun x H2 y => ?_⟩
    obtain ⟨B2, w2, rx⟩ := hy x H2 y
    have E2 := E'.grow w2
    have hb2 : B2 D = none := w2.nw D hbD (by rw [hHD]; simp)
    have hh2 := w2.hh _ _ ndD hHD
    refine ⟨_, _, _, E2, rx, hp, fun ρ3 p3 σ3 E3 o3 => ⟨?_, _, _, E3, p3, fun b pb B4 H4 w4 => ?_⟩⟩
    · rw [(o3.more hv).1.wipe, wipe_wipe]
    have hb4 : B4 D = none := w4.nw D hb2 (by rw [hh2]; simp)
    have hh4 := w4.hh _ _ ndD hh2
    have sb4 := (sb.tr w2.bb).tr w4.bb
    have wg4 := (wg.trans w2).trans w4
    have racc4 := (racc.mono w2.bb).mono w4.bb
    cases b with
    | true =>
      refine iteT ⟨_, _, E3.grow w4, pb, fun kd pk y B5 H5 w5 r5 => ⟨_, _, (E3.grow w4).grow w5, pk, fun vd pv z B6 H6 w6 r6 => ?_⟩⟩
      have hb5 : B5 D = none := w5.nw D hb4 (by rw [hh4]; simp)
      have hh5 := w5.hh _ _ ndD hh4
      have hb6 : B6 D = none := w6.nw D hb5 (by rw [hh5]; simp)
      have hh6 := w6.hh _ _ ndD hh5
      cases hk : EC.D.tkey kd with
      | none =>
        simp only [hk] at pv; exact pv.elim
      | some kk =>
        simp only [hk] at pv
        have wg6 := (wg4.trans w5).trans w6
        obtain ⟨b, eb, q5⟩ := tkey_rep hk r5
        refine ⟨ls, kk, b, eb, w6.bh _ _ (w6.bb _ _ q5), hh6, by rw [racc.length]; exact mil_lt (by omega), B6, putP acc kk vd, putK ls kk z, (sb4.tr w5.bb).tr w6.bb, wg6.wr h0D hb6 ndD, ?_, hb6, upd_same, ((racc4.mono w5.bb).mono w6.bb).put kk r6, Nat.le_trans (putP_length _ _ _) (Nat.add_le_add_right hacc 1), pv⟩
        exact (((E2.grow w4).grow w5).grow w6).wr g0D hb6 ndD ownD
    | false => exact iteF ⟨B4, acc, ls, sb4, wg4, E2.grow w4, hb4, hh4, racc4, Nat.le_succ_of_le hacc, pb⟩
  · have e : i = ds.length := by omega
    subst e
    rw [List.drop_length] at hp
    have hp : P (dtOf acc) := hp
    refine .inl ⟨stop (Nat.le_refl _), ?_⟩
    obtain ⟨z1, z2⟩ := racc.vals
    have sbo : Sub B' (upd B' D (.dT ls)) := fun b u q => by rw [upd_ne (ne_of_none q hbD)]; exact q
    exact k _ hp (.ref D) _ H' (wg.own h0D hbD hHD ndD) ⟨D, ls.map (·.2), rfl, by rw [upd_same, ← z1], by rw [List.length_map, List.length_map], z2.mono sbo⟩
theorem d_dcT {kx vx tg iter : Expr} {ifs : List Expr} {scope : Scope} {own : List (Str × Nat)} {ov : List Nat} {pos : Pos} (hu : X.A.units + 1 < cLine) (hc : X.calm = true) (hN : X.N.Nodup) (hi : PI X tg iter (tJ it)) (ok : BlkOk X.N X.env.scope scope own)
    (hg : ∀ (s : Shared) (H : Hp) (C : Addr) (cl : List (Str × Addr)) (fp : List Addr), PG (X.blk s H scope (compEnvC scope cl C X.env) fp) tg (tGd t ws)) (ht : ∀ (s : Shared) (H : Hp) (C : Addr) (cl : List (Str × Addr)) (fp : List Addr), PTs (X.blk s H scope (compEnvC scope cl C X.env) fp) ifs (tT tc))
    (hk : ∀ (s : Shared) (H : Hp) (C : Addr) (cl : List (Str × Addr)) (fp : List Addr), PE (X.blk s H scope (compEnvC scope cl C X.env) fp) kx (tD kf)) (he : ∀ (s : Shared) (H : Hp) (C : Addr) (cl : List (Str × Addr)) (fp : List Addr), PE (X.blk s H scope (compEnvC scope cl C X.env) fp) vx (tD vf))
    (hv : ∀ i ∈ ws, i ∈ ov) (ho : own.map (·.2) = ov := by rfl) (hs : ∀ x, foldedSetIterable iter X.env x = pure x := by intro _; rfl) : PE X (.DictComp kx vx [⟨tg, iter, ifs, 0⟩] scope pos) (tD (dcTE ov it t tc kf vf)) := by
  subst ho
  exact pe_imp (d_dcT0 hu hc hN hi ok hg ht hk he hs) fun σ H Q q => dcT_ok hv q
theorem a_dcT {i : Nat} {y : Str} {py spos : Pos} {kx vx tg iter : Expr} {ifs : List Expr} {scope : Scope} {own : List (Str × Nat)} {ov : List Nat} {pos : Pos} (hu : X.A.units + 1 < cLine) (hc : X.calm = true) (hN : X.N.Nodup) (hy : X.N[i]? = some y) (hyl : X.env.scope.names.lookup y = some .local)
    (hsw : swapsWith (.DictComp kx vx [⟨tg, iter, ifs, 0⟩] scope pos) (some (.Name y py)) spos.line X.env = pure true) (hi : PI X tg iter (tJ it)) (ok : BlkOk X.N X.env.scope scope own)
    (hg : ∀ (s : Shared) (H : Hp) (C : Addr) (cl : List (Str × Addr)) (fp : List Addr), PG (X.blk s H scope (compEnvC scope cl C X.env) fp) tg (tGd t ws)) (ht : ∀ (s : Shared) (H : Hp) (C : Addr) (cl : List (Str × Addr)) (fp : List Addr), PTs (X.blk s H scope (compEnvC scope cl C X.env) fp) ifs (tT tc))
    (hk : ∀ (s : Shared) (H : Hp) (C : Addr) (cl : List (Str × Addr)) (fp : List Addr), PE (X.blk s H scope (compEnvC scope cl C X.env) fp) kx (tD kf)) (he : ∀ (s : Shared) (H : Hp) (C : Addr) (cl : List (Str × Addr)) (fp : List Addr), PE (X.blk s H scope (compEnvC scope cl C X.env) fp) vx (tD vf))
    (hv : ∀ i ∈ ws, i ∈ ov) (ho : own.map (·.2) = ov := by rfl) (hs : ∀ x, foldedSetIterable iter X.env x = pure x := by intro _; rfl) : PS X (.Assign [.Name y py] (.DictComp kx vx [⟨tg, iter, ifs, 0⟩] scope pos) spos) (tAsg (tD (dcTE ov it t tc kf vf)) (gName i)) := by
  subst ho
  exact ps_imp (ps_setDcT hu hc hN hy hyl hsw hi ok hg ht hk he hs) fun Dn σ H q => dcT_ok hv q
theorem a_dcK {i : Nat} {y : Str} {py spos : Pos} {kx vx tg iter : Expr} {ifs : List Expr} {scope : Scope} {own : List (Str × Nat)} {ov : List Nat} {pos : Pos} (hc : X.calm = true) (hN : X.N.Nodup) (hy : X.N[i]? = some y) (hyl : X.env.scope.names.lookup y = some .local)
    (hsw : swapsWith (.DictComp kx vx [⟨tg, iter, ifs, 0⟩] scope pos) (some (.Name y py)) spos.line X.env = pure true) (hi : PI X tg iter (tJ it)) (ok : BlkOk X.N X.env.scope scope own)
    (hg : ∀ (s : Shared) (H : Hp) (C : Addr) (cl : List (Str × Addr)) (fp : List Addr), PG (X.blk s H scope (compEnvC scope cl C X.env) fp) tg (tGd t ws)) (ht : ∀ (s : Shared) (H : Hp) (C : Addr) (cl : List (Str × Addr)) (fp : List Addr), PTs (X.blk s H scope (compEnvC scope cl C X.env) fp) ifs (tT tc))
    (hk : ∀ (s : Shared) (H : Hp) (C : Addr) (cl : List (Str × Addr)) (fp : List Addr), PE (X.blk s H scope (compEnvC scope cl C X.env) fp) kx (tD kf)) (he : ∀ (s : Shared) (H : Hp) (C : Addr) (cl : List (Str × Addr)) (fp : List Addr), PE (X.blk s H scope (compEnvC scope cl C X.env) fp) vx (tD vf))
    (hv : ∀ i ∈ ws, i ∈ ov) (ho : own.map (·.2) = ov := by rfl) (hs : ∀ x, foldedSetIterable iter X.env x = pure x := by intro _; rfl) : PS X (.Assign [.Name y py] (.DictComp kx vx [⟨tg, iter, ifs, 0⟩] scope pos) spos) (tAsg (tD (dcKE ov it t tc kf vf)) (gName i)) := by
  subst ho
  exact ps_imp (ps_setDcK hc hN hy hyl hsw hi ok hg ht hk he hs) fun Dn σ H q => dcK_ok hv q
end
end EC
end
/-! ## D3 -/
section
set_option Elab.async false
set_option linter.all false
set_option maxRecDepth 100000
set_option maxHeartbeats 1000000
/-! D3: sorted. -/
namespace EC
open PySem PySem.Spec PyProof.Rows L2
section
variable {prog : Program} {w : World} {A : Around} {E : Value → Shared → Prop} {s : Shared}
theorem sorted_tupO {l : Addr} {vs : List Value} {k : Value → Int × Int} {Q : Value → Shared → Prop} (hl : IsTup s.heap l vs.toArray) (hz : vs.length ≤ sizeLine) (hp : ∀ v ∈ vs, Srt.IsPair s.heap v (k v).1 (k v).2)
    (fin : ∀ (g h' : Heap) (out : List Value), SrtO.Srtd (fun v u => SrtO.lexB (k v) (k u)) out → SrtO.Stb (fun v u => SrtO.lexB (k v) (k u)) out vs → (∀ b o, s.heap.get? b = some o → g.get? b = some o) → (∀ b o, g.get? b = some o → h'.get? b = some o) →
      (∃ n, h'.get? g.objs.size = some (seqObj "list" out.toArray n)) → Q (.ref g.objs.size) { s with heap := h' }) :
    wpAny (model prog w) A (PySem.call (.builtin "sorted") [.ref l]) Q E s := by
  obtain ⟨o, ho, hc, n, hd⟩ := hl
  refine Calls.call_function_entry kind_sorted plain_sorted entry_sorted (args_sorted1 _) ?_
  unfold Builtin.«sorted»
  refine wpAny_bind (m := checkCount "sorted" 1 1 _) (wpAny_pure ?_)
  refine wpAny_bind (wpAny_collect_seq l (.inr rfl) ho hc hd (fun g keep => ?_) (by rw [List.size_toArray]; exact hz))
  refine wpAny_bind (wpAny_newList ?_ hz)
  have at2 : (g.push (seqObj "list" vs.toArray 0)).get? g.objs.size = some (seqObj "list" vs.toArray 0) := Heap.get?_push_size _ rfl
  have lt2 : ∀ b o, s.heap.get? b = some o → b < g.objs.size := fun b o q => Heap.lt_size (keep b o q)
  have keep2 : ∀ b o, s.heap.get? b = some o → (g.push (seqObj "list" vs.toArray 0)).get? b = some o := fun b o q => Heap.get?_push_of_some _ (keep b o q)
  show wpAny _ _ _ _ _ { s with heap := g.push (seqObj "list" vs.toArray 0) }
  refine wpAny_bind (wpAny_holding (wpAny_call_entry slot_list_sort ⟨_, at2, rfl⟩ entry_list_sort (SrtO.list_sort_ord (SrtO.swo_lex k) at2 hz (fun h2 => ?_) fun out hs hb => ⟨_, rfl, ?_⟩) (args_list_sort _)))
  · refine SrtO.pairs_sortableO (by omega) (fun v hm => (hp v hm).keeps fun b o q _ => keep2 b o q) fun o' q c => ?_
    have q : some (seqObj "list" vs.toArray 0) = some o' := at2.symm.trans q
    cases q
    exact absurd (Value.type.inj c) (by decide)
  · obtain ⟨c, hc2⟩ := sortedHeap_at (vs := vs) (out := out.toArray) at2
    refine wpAny_pure ⟨_, rfl, fin g _ out hs hb keep (fun b o q => ?_) ⟨c, hc2⟩⟩
    have hb' : b < g.objs.size := Heap.lt_size q
    rw [sortedHeap_old (Nat.ne_of_lt hb') (by rw [size_push']; exact Nat.lt_succ_of_lt hb')]
    exact Heap.get?_push_of_some _ q
/-- sorted(xs), xs a tuple of pairs of ints -/
def rSortTP (K : PySem.W.Frag) : List V → Hp → VK → Prop := fun vs H Q => ∃ (a : Addr) (xs : List V) (k : V → Int × Int), vs = [V.ref a] ∧ SqT K H a xs ∧ (∀ x ∈ xs, ∃ t, x = V.ref t ∧ H t = some (.tup [.int (k x).1, .int (k x).2])) ∧
  ∀ ys p, SrtO.Srtd (ltP k) ys → SrtO.Stb (ltP k) ys xs → H p = none → Q (.ref p) (upd H p (.lst ys))
theorem cr_sortTP {X : Cx} : CallR X (.builtin "sorted") (rSortTP X.K) := by
  intro pns s σ H vs us Q J r ⟨a, xs, k, e0, hs, hx, q⟩
  subst e0
  obtain ⟨its, rv, hl, hz⟩ := J.tuple hs
  rw [Vals.ref1 r]
  obtain ⟨e1, e2⟩ := refs_back rv fun x m => (hx x m).imp fun t z => z.1
  refine sorted_tupO (k := fun u => k (backV u)) hl (by rw [← rv.length]; exact hz) (fun v hv => ?_) fun g h' out h1 h2 k1 k2 hd => ?_
  · obtain ⟨t, rfl⟩ := e2 v hv
    obtain ⟨t', e, ht⟩ := hx (.ref t) (by rw [e1]; exact List.mem_map.mpr ⟨_, hv, rfl⟩)
    cases e
    obtain ⟨_, its2, r2, o, ho, hc, n, hd⟩ := J.hok _ _ ht
    obtain ⟨u1, u2, rfl, ⟨t1, rfl⟩, ⟨t2, rfl⟩⟩ := vals2 r2
    exact ⟨t, o, t1, t2, n, rfl, ho, hc, hd⟩
  · have h3 : ∀ u ∈ out, ∃ a, u = Value.ref a := fun u hu => e2 u (h2.perm.mem_iff.mp hu)
    obtain ⟨n, hn⟩ := hd
    have hb : SrtO.Stb (ltP k) (out.map backV) xs := by rw [e1]; exact SrtO.Stb.map (ltP_swo k) backV h2
    have J2 : Inv X pns σ H { s with heap := g } := J.kept (t' := s.toks) k1
    have J3 : Inv X pns σ (upd H g.objs.size (.lst (out.map backV))) { s with heap := h' } := J2.laid (t' := s.toks) k2 (Nat.le_refl _) ⟨by rw [hb.perm.length_eq]; exact hz, out, n, vals_back h3, hn⟩
    exact ⟨.ref g.objs.size, _, J3, rfl, q _ g.objs.size (SrtO.srtd_map h1) hb (J2.hok.fresh (Nat.le_refl _))⟩
end
end EC
end
/-! ## D4 -/
section
set_option Elab.async false
set_option linter.all false
set_option maxRecDepth 100000
set_option maxHeartbeats 1000000
/-! D4: sorted, +, *, index, join, repr, - by data. -/
namespace EC
open PySem PySem.Spec PyProof.Rows L2
/-! ### sorted of pairs -/
def pairD (p : Int × Int) : D := .tup [.int p.1, .int p.2]
def D.pairs : List D → Option (List (Int × Int))
  | [] => some []
  | .tup [.int i, .int j] :: ds => (D.pairs ds).map ((i, j) :: ·)
  | _ :: _ => none
theorem pairs_eq : ∀ {ds : List D} {ps : List (Int × Int)}, D.pairs ds = some ps → ds = ps.map pairD
  | [], _, h => by cases h; rfl
  | d :: ds, ps, h => by
    unfold D.pairs at h
    split at h
    · rename_i heq; cases heq
    · rename_i i j r heq
      cases heq
      obtain ⟨qs, hq, rfl⟩ := Option.map_eq_some_iff.mp h
      rw [pairs_eq hq]; rfl
    · cases h
theorem pairs_map : ∀ ps : List (Int × Int), D.pairs (ps.map pairD) = some ps
  | [] => rfl
  | p :: ps => by show (D.pairs (ps.map pairD)).map _ = _; rw [pairs_map ps]; rfl
def lexLe (p q : Int × Int) : Prop := p.1 < q.1 ∨ (p.1 = q.1 ∧ p.2 ≤ q.2)
/-- sorted: any sorted list of the same -/
def srtP (ps : List (Int × Int)) : M (List D) := fun P => ∀ qs : List (Int × Int), qs.Perm ps → qs.Pairwise lexLe → P (qs.map pairD)
def sortPD : D → M (List D)
  | .lst ds => match D.pairs ds with
    | some ps => srtP ps
    | none => die
  | .tup ds => match D.pairs ds with
    | some ps => srtP ps
    | none => die
  | _ => die
abbrev sortPS := one1 sortPD
/-- the pair at a value -/
noncomputable def pairAt (H : Hp) : V → Int × Int
  | .ref a => match H a with
    | some (.tup [.int i, .int j]) => (i, j)
    | _ => (0, 0)
  | _ => (0, 0)
theorem pairAt_rep {B H : Hp} (s : Sub B H) : ∀ {ps : List (Int × Int)} {vs : List V}, RepL B (ps.map pairD) vs → vs.map (pairAt H) = ps ∧ ∀ x ∈ vs, ∃ t, x = V.ref t ∧ B t = some (.tup [.int (pairAt H x).1, .int (pairAt H x).2])
  | [], _, h => by rw [show _ = [] from h]; exact ⟨rfl, fun _ m => absurd m (by simp)⟩
  | p :: ps, _, ⟨v, r, e, ⟨a, ws, ev, hB, v1, r1, e1, h1, v2, r2, e2, h2, e3⟩, t⟩ => by
    obtain ⟨q1, q2⟩ := pairAt_rep s t
    subst e3 e2 e1 ev e
    rw [show v1 = .int p.1 from h1, show v2 = .int p.2 from h2] at hB
    have hp : pairAt H (.ref a) = p := by unfold pairAt; simp only [s _ _ hB]
    refine ⟨by rw [List.map_cons, hp, q1], fun x m => ?_⟩
    rcases List.mem_cons.mp m with rfl | m
    · exact ⟨a, rfl, by rw [hp]; exact hB⟩
    · exact q2 x m
theorem pairsL {B H : Hp} : ∀ {ys : List V}, (∀ x ∈ ys, ∃ t, x = V.ref t ∧ B t = some (.tup [.int (pairAt H x).1, .int (pairAt H x).2])) → RepL B ((ys.map (pairAt H)).map pairD) ys
  | [], _ => rfl
  | y :: ys, h => by
    obtain ⟨t, e, hB⟩ := h y List.mem_cons_self
    refine ⟨y, ys, rfl, ⟨t, _, e, hB, _, _, rfl, rfl, _, _, rfl, rfl, rfl⟩, pairsL fun x m => h x (List.mem_cons_of_mem _ m)⟩
section
variable {X : Cx}
theorem sortP_aux {W : Wd} {B H : Hp} {ps : List (Int × Int)} {xs : List V} {Q : VK} {P : List D → Prop} (s : Sub B H) (w : WOk W B H) (rr : RepL B (ps.map pairD) xs) (h : srtP ps P)
    (k : ∀ ds, P ds → ∀ p vs B' H', Grow W B H B' H' → H p = none → B' p = none → H' p = some (.lst vs) → RepL B' ds vs → Q (.ref p) H') (ys : List V) (p : Addr) (hs : SrtO.Srtd (ltP (pairAt H)) ys) (hb : SrtO.Stb (ltP (pairAt H)) ys xs) (hp : H p = none) :
    Q (.ref p) (upd H p (.lst ys)) := by
  obtain ⟨q1, q2⟩ := pairAt_rep s rr
  have h1 : (ys.map (pairAt H)).Perm ps := by rw [← q1]; exact hb.perm.map _
  have h2 : (ys.map (pairAt H)).Pairwise lexLe := by
    rw [List.pairwise_map]
    refine List.Pairwise.imp (fun {a b} hab => ?_) hs
    have := SrtO.lexB_no.mp hab
    unfold lexLe
    omega
  exact k _ (h _ h1 h2) p ys B _ (Grow.new0 s w hp) hp (s.none hp) upd_same (pairsL fun x m => q2 x (hb.perm.mem_iff.mp m))
theorem c_sortP : CallF X (.builtin "sorted") sortPS := CallF1 (CallR.or cr_sortedPO cr_sortTP) fun W B H d v Q P s w r h k => by
  cases d with
  | lst es =>
    obtain ⟨a, xs, e, hl, rr⟩ := r.lst s
    have hh : (match D.pairs es with
      | some ps => srtP ps
      | none => die) P := h
    clear h
    cases q : D.pairs es with
    | none => simp only [q] at hh; exact hh.elim
    | some ps =>
      simp only [q] at hh
      have := pairs_eq q
      subst this
      exact .inl ⟨a, xs, pairAt H, by rw [e], SqL.of hl, fun x m => ((pairAt_rep s rr).2 x m).imp fun t z => ⟨z.1, s _ _ z.2⟩, fun ys p hs hb hp => sortP_aux s w rr hh k ys p hs hb hp⟩
  | tup es =>
    obtain ⟨a, xs, e, hl, rr⟩ := r.tup s
    have hh : (match D.pairs es with
      | some ps => srtP ps
      | none => die) P := h
    clear h
    cases q : D.pairs es with
    | none => simp only [q] at hh; exact hh.elim
    | some ps =>
      simp only [q] at hh
      have := pairs_eq q
      subst this
      exact .inr ⟨a, xs, pairAt H, by rw [e], SqT.of hl, fun x m => ((pairAt_rep s rr).2 x m).imp fun t z => ⟨z.1, s _ _ z.2⟩, fun ys p hs hb hp => sortP_aux s w rr hh k ys p hs hb hp⟩
  | _ => exact h.elim
/-! ### sorted of texts -/
def D.strs : List D → Option (List Str)
  | [] => some []
  | .str x :: ds => (D.strs ds).map (x :: ·)
  | _ :: _ => none
theorem strs_eq : ∀ {ds : List D} {xs : List Str}, D.strs ds = some xs → ds = xs.map D.str
  | [], _, h => by cases h; rfl
  | d :: ds, ps, h => by
    unfold D.strs at h
    split at h
    · rename_i heq; cases heq
    · rename_i x r heq
      cases heq
      obtain ⟨qs, hq, rfl⟩ := Option.map_eq_some_iff.mp h
      rw [strs_eq hq]; rfl
    · cases h
theorem strs_map : ∀ xs : List Str, D.strs (xs.map D.str) = some xs
  | [] => rfl
  | p :: ps => by show (D.strs (ps.map D.str)).map _ = _; rw [strs_map ps]; rfl
theorem strs_rep {B : Hp} : ∀ {xs : List Str} {vs : List V}, RepL B (xs.map D.str) vs ↔ vs = xs.map V.str
  | [], _ => Iff.rfl
  | x :: xs, vs => ⟨fun ⟨v, r, e, h, t⟩ => by rw [e, show v = V.str x from h, strs_rep.mp t]; rfl, fun e => ⟨.str x, xs.map V.str, e, rfl, strs_rep.mpr rfl⟩⟩
def srtS (xs : List Str) : M (List D) := fun P => xs.length < 64 ∧ ∀ ys : List Str, ys.Perm xs → sortedS ys = true → P (ys.map D.str)
def sortSD : D → M (List D)
  | .lst ds => match D.strs ds with
    | some xs => srtS xs
    | none => die
  | _ => die
abbrev sortSS := one1 sortSD
theorem c_sortS : CallF X (.builtin "sorted") sortSS := CallF1 cr_sortedS fun W B H d v Q P s w r h k => by
  cases d with
  | lst es =>
    obtain ⟨a, xs, e, hl, rr⟩ := r.lst s
    have hh : (match D.strs es with
      | some ps => srtS ps
      | none => die) P := h
    clear h
    cases q : D.strs es with
    | none => simp only [q] at hh; exact hh.elim
    | some zs =>
      simp only [q] at hh
      have := strs_eq q
      subst this
      have ex := strs_rep.mp rr
      subst ex
      exact ⟨a, zs, by rw [e], SqL.of hl, hh.1, fun ys p hp hs h0 => k _ (hh.2 ys hp hs) p _ B _ (Grow.new0 s w h0) h0 (s.none h0) upd_same (strs_rep.mpr rfl)⟩
  | _ => exact h.elim
/-! ### sorted of a dict by ints -/
def keyInts : List Key → Option (List Int)
  | [] => some []
  | .inl i :: ks => (keyInts ks).map (i :: ·)
  | .inr _ :: _ => none
theorem keyInts_eq : ∀ {ks : List Key} {is : List Int}, keyInts ks = some is → ks = is.map Sum.inl
  | [], _, h => by cases h; rfl
  | .inl i :: ks, _, h => by
    obtain ⟨qs, hq, rfl⟩ := Option.map_eq_some_iff.mp h
    rw [keyInts_eq hq]; rfl
  | .inr _ :: _, _, h => by cases h
theorem keyInts_map : ∀ is : List Int, keyInts (is.map Sum.inl) = some is
  | [] => rfl
  | p :: ps => by show (keyInts (ps.map Sum.inl)).map _ = _; rw [keyInts_map ps]; rfl
theorem ints_rep {B : Hp} : ∀ {xs : List Int} {vs : List V}, RepL B (xs.map D.int) vs ↔ vs = xs.map V.int
  | [], _ => Iff.rfl
  | x :: xs, vs => ⟨fun ⟨v, r, e, h, t⟩ => by rw [e, show v = V.int x from h, ints_rep.mp t]; rfl, fun e => ⟨.int x, xs.map V.int, e, rfl, ints_rep.mpr rfl⟩⟩
def srtI (xs : List Int) : M (List D) := fun P => xs.length < 64 ∧ ∀ ys : List Int, ys.Perm xs → ys.Pairwise (· ≤ ·) → P (ys.map D.int)
def sortDID : D → M (List D)
  | .dk ks _ => match keyInts ks with
    | some xs => srtI xs
    | none => die
  | _ => die
abbrev sortDIS := one1 sortDID
theorem c_sortDI (hc : X.calm = true) : CallF X (.builtin "sorted") sortDIS := CallF1 (call_sortedDI hc) fun W B H d v Q P s w r h k => by
  cases d with
  | dk ks es =>
    obtain ⟨a, xs, e, hB, hl, rr⟩ := r.strong (fun _ z => nomatch z)
    have hh : (match keyInts ks with
      | some ps => srtI ps
      | none => die) P := h
    clear h
    cases q : keyInts ks with
    | none => simp only [q] at hh; exact hh.elim
    | some zs =>
      simp only [q] at hh
      have := keyInts_eq q
      subst this
      refine ⟨a, _, zs, by rw [e], s.rd hB, zip_fst (by rw [hl, rr.length]), hh.1, fun ys p hp hs h0 => k _ (hh.2 ys hp hs) p _ B _ (Grow.new0 s w h0) h0 (s.none h0) upd_same (ints_rep.mpr rfl)⟩
  | _ => exact h.elim
/-! ### +, * -/
section
variable {a b e : Expr} {pos : Pos} {f g : Rho → M D}
def catS (x y : D) : M (List D) := match x, y with
  | .lst xs, .lst ys => chk (xs.length + ys.length ≤ 1000000) (ret (xs ++ ys))
  | _, _ => die
def catE (f g : Rho → M D) : Rho → M (List D) := fun ρ => bnd (f ρ) fun x => bnd (g ρ) fun y => catS x y
theorem f_cat (ha : PE X a (tW f)) (hb : PE X b (tW g)) : PE X (.BinOp a .Add b pos) (tF (catE f g)) :=
  pe_imp (pe_op op_cat ha hb) fun σ H Q ⟨gg, P, E, hf, kk⟩ => ⟨gg, _, E, hf, fun dx px x B1 H1 w1 r1 => ⟨gg.at B1, _, E.grow w1, px, fun dy py y B2 H2 w2 r2 => by
    cases dx with
    | lst xs => cases dy with
      | lst ys =>
        obtain ⟨l, vs, e1, h1, q1⟩ := (r1.grow w2).lst w2.bh
        obtain ⟨m, ws, e2, h2, q2⟩ := r2.lst w2.bh
        refine ⟨l, m, vs, ws, e1, e2, h1, h2, by rw [q1.length, q2.length]; exact mil_line py.1, fun p hp => ?_⟩
        have w := w1.trans w2
        exact kk _ py.2 p _ B2 _ (w.trans (Grow.new0 w2.bh w2.wk hp)) (w.pnone E.wok hp) (w2.bh.none hp) upd_same (q1.app q2)
      | _ => exact py.elim
    | _ => cases dy <;> exact py.elim⟩⟩
def catT (x y : D) : M D := match x, y with
  | .tup xs, .tup ys => chk (xs.length + ys.length ≤ 1000000) (ret (.tup (xs ++ ys)))
  | _, _ => die
theorem o_catT : OpD X (binaryOp .Add) catT := ⟨_, op_catA, fun W B H dx dy x y Q P s w rx ry hp k => by
  cases dx with
  | tup xs => cases dy with
    | tup ys =>
      obtain ⟨l, vs, e1, h1, q1⟩ := rx.strong (fun _ z => nomatch z)
      obtain ⟨m, ws, e2, h2, q2⟩ := ry.strong (fun _ z => nomatch z)
      refine ⟨l, m, vs, ws, e1, e2, SqT.of (s _ _ h1), SqT.of (s _ _ h2), by rw [q1.length, q2.length]; exact mil_line hp.1, fun hx => ?_, fun _ hy => ?_, fun _ _ p h0 => ?_⟩
      · subst hx
        have : xs = [] := List.eq_nil_of_length_eq_zero (by rw [← q1.length]; rfl)
        subst this
        exact k _ hp.2 _ B H (Grow.refl s w) ⟨m, ws, rfl, h2, q2⟩
      · subst hy
        have : ys = [] := List.eq_nil_of_length_eq_zero (by rw [← q2.length]; rfl)
        subst this
        refine k _ hp.2 _ B H (Grow.refl s w) ⟨l, vs, rfl, h1, by rw [List.append_nil]; exact q1⟩
      · have n := Grow.new (o := .tup (vs ++ ws)) s w h0
        exact k _ hp.2 (.ref p) _ _ n ⟨p, _, rfl, upd_same, (q1.app q2).mono n.bb⟩
    | _ => exact hp.elim
  | _ => cases dy <;> exact hp.elim⟩
def repT (x y : D) : M D := match x, y with
  | .tup xs, .int k => chk (xs ≠ [] ∧ 2 ≤ k ∧ k ≤ 1000 ∧ xs.length ≤ 1000) (ret (.tup (List.replicate k.toNat xs).flatten))
  | _, _ => die
theorem RepL.flat {B : Hp} {ds : List D} {vs : List V} (r : RepL B ds vs) : ∀ n : Nat, RepL B (List.replicate n ds).flatten (List.replicate n vs).flatten
  | 0 => rfl
  | n + 1 => by rw [List.replicate_succ, List.replicate_succ, List.flatten_cons, List.flatten_cons]; exact r.app (RepL.flat r n)
theorem o_repT : OpD X (binaryOp .Mult) repT := ⟨_, op_repT, fun W B H dx dy x y Q P s w rx ry hp k => by
  cases dx with
  | tup xs => cases dy with
    | int j =>
      obtain ⟨l, vs, e1, h1, q1⟩ := rx.strong (fun _ z => nomatch z)
      obtain ⟨⟨c1, c2, c3, c4⟩, hp⟩ := hp
      refine ⟨l, j, vs, e1, ry.int, SqT.of (s _ _ h1), fun z => ?_, c2, c3, by rw [q1.length]; exact c4, fun p h0 => ?_⟩
      · subst z
        exact c1 (List.eq_nil_of_length_eq_zero (by rw [← q1.length]; rfl))
      · have n := Grow.new (o := .tup (List.replicate j.toNat vs).flatten) s w h0
        exact k _ hp (.ref p) _ _ n ⟨p, _, rfl, upd_same, (q1.flat _).mono n.bb⟩
    | _ => exact hp.elim
  | _ => cases dy <;> exact hp.elim⟩
/-! ### -x -/
def negE (f : Rho → M D) : Rho → M D := fun ρ => bnd (f ρ) fun
  | .int i => ret (.int (-i))
  | _ => die
theorem d_neg (ha : PE X a (tW f)) : PE X (.UnaryOp .USub a pos) (tD (negE f)) :=
  pe_imp (pe_un un_neg ha) fun σ H Q ⟨gg, P, E, hf, k⟩ => ⟨gg, _, E, hf, fun d pd v B' H' w r => by
    cases d with
    | int i => exact ⟨i, r.int, k _ pd _ _ _ w rfl⟩
    | _ => exact pd.elim⟩
end
/-! ### repr of a bool, of a text -/
def reprD : D → M D
  | .bl b => ret (.str (if b then "True" else "False"))
  | .str x => chk ((reprText x).length ≤ 1000000) (ret (.str (reprText x)))
  | _ => die
abbrev reprS := one1 reprD
theorem call_reprB : CallR X (.builtin "repr") (fun xs H Q => ∃ b, xs = [.bl b] ∧ Q (.str (if b then "True" else "False")) H) := by
  intro pns s σ H xs us Q J r ⟨b, e, q⟩
  subst e
  obtain ⟨u, rfl, ru⟩ := vals1 r
  cases (show u = Value.bool b from ru)
  exact PySem.P.repr_of_bool ⟨.str _, H, J.tok _, ⟨_, rfl⟩, q⟩
theorem call_reprT : CallR X (.builtin "repr") (fun xs H Q => ∃ x, xs = [.str x] ∧ (reprText x).length ≤ sizeLine ∧ Q (.str (reprText x)) H) := by
  intro pns s σ H xs us Q J r ⟨x, e, hz, q⟩
  subst e
  obtain ⟨u, rfl, t, rfl⟩ := vals1 r
  exact PySem.P.repr_of_str ⟨.str _, H, J.tok _, ⟨_, rfl⟩, q⟩ hz
theorem c_repr : CallD X (.builtin "repr") reprS := CallD1 (CallR.or call_reprB call_reprT) fun W B H d v Q P s w r h k => by
  cases d with
  | bl b => exact .inl ⟨b, by rw [r.bl], k _ h _ _ _ (Grow.refl s w) rfl⟩
  | str x => exact .inr ⟨x, by rw [r.str], mil_line h.1, k _ h.2 _ _ _ (Grow.refl s w) rfl⟩
  | _ => exact h.elim
end
end EC
end
/-! ## D5 -/
section
set_option Elab.async false
set_option linter.all false
set_option maxRecDepth 100000
set_option maxHeartbeats 1000000
/-! D5: index, join, tuple of a list with its object known, len(set(x)). -/
namespace EC
open PySem PySem.Spec PyProof.Rows L2
/-! ### index -/
def idxD (ds : List D) (y : D) : Option Nat := (D.pys ds).findIdx? fun z => PyData.eqv z y.py
def idxR (ds : List D) (y : D) : M D := match idxD ds y with
  | some j => chk (shp (.lst ds) ∧ shp y) (ret (.int (j : Nat)))
  | none => die
theorem idxR_eq {ds : List D} {y : D} {P : D → Prop} (h : idxR ds y P) : ∃ j, idxD ds y = some j ∧ shp (.lst ds) ∧ shp y ∧ P (.int (j : Nat)) := by
  cases q : idxD ds y with
  | none =>
    have e : idxR ds y = die := by unfold idxR; simp only [q]
    rw [e] at h; exact h.elim
  | some j =>
    have e : idxR ds y = chk (shp (.lst ds) ∧ shp y) (ret (.int (j : Nat))) := by unfold idxR; simp only [q]
    rw [e] at h; exact ⟨j, rfl, h.1.1, h.1.2, h.2⟩
def indexL (f g : Rho → M D) : Rho → M D := fun ρ => bnd (f ρ) fun
  | .lst ds => bnd (g ρ) fun y => idxR ds y
  | _ => die
def indexT (f g : Rho → M D) : Rho → M D := fun ρ => bnd (f ρ) fun
  | .wd ds => bnd (g ρ) fun y => idxR ds y
  | _ => die
theorem idx_get {α : Type} {p : α → Bool} {l : List α} {j : Nat} (h : l.findIdx? p = some j) : ∃ z, l[j]? = some z ∧ p z = true ∧ ∀ m z', m < j → l[m]? = some z' → p z' = false := by
  obtain ⟨hj, hp, hn⟩ := List.findIdx?_eq_some_iff_getElem.mp h
  refine ⟨l[j], List.getElem?_eq_getElem hj, hp, fun m z' hm hz => ?_⟩
  obtain ⟨hm', rfl⟩ := List.getElem?_eq_some_iff.mp hz
  simpa using hn m hm
section
variable {X : Cx} {o e a : Expr} {apos pos : Pos} {f g : Rho → M D}
theorem d_indexL (hu : X.A.units + 65 < cLine) (ho : PE X o (tW f)) (he : PE X e (tW g))
    (hbase : attributeBase o "index" X.env (eval o X.env) = eval o X.env := by rfl)
    (hfew : ((backTo pos (starEach [e] X.env)).all (fun x => !x.1) && (backToKw pos (keywordEach [] X.env)).all (fun x => x.1.isSome)
      && decide ([e].length + ([] : List Keyword).length + (if ([] : List Keyword).isEmpty then 0 else 1) < 30)) = true := by rfl)
    (hline : (apos.endLine == pos.line) = true := by rfl) (hs : starEach [e] X.env = (false, eval e X.env) :: starEach [] X.env := by rfl) (hplain : (backTo pos (starEach [] X.env)).any (·.1) = false := by rfl) :
    PE X (.Call (.Attribute o "index" apos) [e] [] pos) (tD (indexL f g)) :=
  pe_imp (pe_bm PySem.F.plainAttrs_list PySem.F.slot_list_index PySem.F.type_list_index (mt_indexD hu) ho (pa_cons he pa_nil hs) hbase hfew hline hs hplain) fun σ H Q ⟨gg, P, E, hf, k⟩ => ⟨gg, _, E, hf, fun dx px x B1 H1 w1 r1 => by
    cases dx with
    | lst ds =>
      obtain ⟨l, vs, e1, h1, q1⟩ := r1.lst w1.bh
      refine ⟨by rw [e1]; exact .inl ⟨rfl, vs, SqL.of h1⟩, gg.at B1, _, E.grow w1, px, fun dy py y B2 H2 w2 r2 => ?_⟩
      obtain ⟨j, q, sx, sy, py⟩ := idxR_eq py
      obtain ⟨z, hz, hzj, hno⟩ := idx_get q
      exact ⟨l, y, dy.py, D.pys ds, j, z, e1, rfl, by rw [← e1]; exact (r1.grow w2).dp w2.bh (SeqAt.canLay_of_shaped sx), r2.dp w2.bh (SeqAt.canLay_of_shaped sy), sx, sy, hz, hzj, hno, k _ py _ _ _ (w1.trans w2) rfl⟩
    | _ => exact px.elim⟩
/-- t.index(x), t a tuple whose object has no dict -/
theorem d_indexT (hu : X.A.units + 65 < cLine) (ho : PE X o (tW f)) (he : PE X e (tW g))
    (hbase : attributeBase o "index" X.env (eval o X.env) = eval o X.env := by rfl)
    (hfew : ((backTo pos (starEach [e] X.env)).all (fun x => !x.1) && (backToKw pos (keywordEach [] X.env)).all (fun x => x.1.isSome)
      && decide ([e].length + ([] : List Keyword).length + (if ([] : List Keyword).isEmpty then 0 else 1) < 30)) = true := by rfl)
    (hline : (apos.endLine == pos.line) = true := by rfl) (hs : starEach [e] X.env = (false, eval e X.env) :: starEach [] X.env := by rfl) (hplain : (backTo pos (starEach [] X.env)).any (·.1) = false := by rfl) :
    PE X (.Call (.Attribute o "index" apos) [e] [] pos) (tD (indexT f g)) := by
  refine ⟨fun pns s σ H Q J ⟨gg, P, E, hf, k⟩ => ?_⟩
  have h1 := ho.run pns s σ H (fun x H1 => ∃ dx B1, (match dx with
    | .wd ds => bnd (g gg.ρ) fun y => idxR ds y
    | _ => die) P ∧ Grow gg.W gg.B H B1 H1 ∧ RepW gg.W B1 H1 dx x) J ⟨gg, _, E, hf, fun dx px x B1 H1 w r => ⟨dx, B1, px, w, r⟩⟩
  refine wpAny_Call_method_late hbase hfew hline rfl (thn h1 fun v s1 ⟨x, H1, J1, rv, dx, B1, px, w1, r1⟩ => ?_)
  cases dx with
  | wd ds =>
    obtain ⟨a, vs, od, e1, hB, hn, rr⟩ := r1.strong (fun _ z => nomatch z)
    subst e1
    cases (show v = Value.ref a from rv)
    have hh := w1.bh _ _ hB
    obtain ⟨ho1, _, its, hv, o2, ho2, hc, n, hd⟩ := (show ObjOk X.prog X.w H1 s1.heap a (.frz od (.tup vs)) from J1.hok a _ hh)
    have eo : o2 = od := Option.some.inj (ho2.symm.trans ho1)
    subst eo
    have hty : s1.TypeIs (.ref a) "tuple" := ⟨o2, ho1, hc⟩
    refine ⟨"tuple", "tuple.index", PySem.F.plainAttrs_tuple, PySem.F.slot_tuple_index, PySem.F.type_tuple_index, hty, fun b hb => ⟨o2, by cases hb; exact ho1, hn⟩, ?_⟩
    have hA := he.run pns s1 σ H1 (fun y H2 => ∃ dy B2, idxR ds dy P ∧ Grow gg.W B1 H1 B2 H2 ∧ RepW gg.W B2 H2 dy y) J1 ⟨gg.at B1, _, E.grow w1, px, fun dy py y B2 H2 w r => ⟨dy, B2, py, w, r⟩⟩
    rw [hs]
    refine Calls.callWith_builtin (by show (false || (backTo pos (starEach [] X.env)).any (·.1)) = false; rw [hplain] <;> rfl) (Calls.evalArgs_plain ?_)
    show wpAny _ _ (spliced ((false, eval e X.env) :: backTo pos (starEach [] X.env))) _ _ s1
    refine Calls.spliced_cons (thn hA fun u s2 ⟨y, H2, J2, ry, dy, B2, py, w2, r2⟩ => Calls.spliced_nil ?_)
    obtain ⟨j, q, sx, sy, py⟩ := idxR_eq py
    obtain ⟨z, hz, hzj, hno⟩ := idx_get q
    have lx : PyData.canLayAll0 (D.pys ds) = true := SeqAt.canLay_of_shaped sx
    obtain ⟨bs, ra⟩ := Dp.reads J2 dy.py y u (r2.dp w2.bh (SeqAt.canLay_of_shaped sy)) ry
    obtain ⟨as, rs⟩ := Dp.readsAll J2 (D.pys ds) vs its ((rr.mono w2.bb).dp (K := X.K) w2.bh lx) hv
    have hh2 := w2.bh _ _ (w2.bb _ _ hB)
    obtain ⟨ho3, _, _⟩ := (show ObjOk X.prog X.w H2 s2.heap a (.frz o2 (.tup vs)) from J2.hok a _ hh2)
    obtain ⟨cls, dd, dt, sl⟩ := o2
    simp only at hc hd hn
    subst hc hd
    have hroom : X.A.units + 1 + min (PyData.depthAll (D.pys ds)) dy.py.depth < cLine := room_in_shaped sy hu
    have hlen : its.length = (D.pys ds).length := SeqAt.ReadsAll.length _ its as rs
    have hmap : its.map (SeqAt.readOf s2.heap) = D.pys ds := SeqAt.readsAll_map _ its as lx rs
    obtain ⟨hjd, _⟩ := List.getElem?_eq_some_iff.mp hz
    have rd : ∀ (m : Nat) (hm : m < its.toArray.size) (z' : PyData), (D.pys ds)[m]? = some z' → SeqAt.readOf s2.heap its.toArray[m] = z' := by
      intro m hm z' hz'
      have hml : m < its.length := by simpa using hm
      rw [← hmap, List.getElem?_map, List.getElem?_eq_getElem hml] at hz'
      simpa using Option.some.inj hz'
    have hj : j < its.toArray.size := by rw [List.size_toArray, hlen]; exact hjd
    refine call_meets PySem.F.slot_tuple_index ⟨_, ho3, rfl⟩ PySem.F.entry_tuple_index (PySem.F.args_tuple_index_2 _ _)
      (TI.tuple_indexAt a its.toArray n dd sl u (fun u => PyData.eqv (SeqAt.readOf s2.heap u) dy.py) j hj ?_ ?_)
      ⟨ho3, SeqAt.items_eqAt (vs := its.toArray) (show ReadsAll s2.heap its.toArray.toList (D.pys ds) as from rs) ra lx (SeqAt.canLay_of_shaped sy) hroom, ⟨.int (j : Nat), H2, J2.tok _, ⟨_, rfl⟩, k _ py _ _ _ (w1.trans w2) rfl⟩⟩
    · show PyData.eqv (SeqAt.readOf s2.heap its.toArray[j]) dy.py = true
      rw [rd j hj z hz]; exact hzj
    · intro m hm hmj
      have hmd : m < (D.pys ds).length := by omega
      have hz' := List.getElem?_eq_getElem hmd
      show PyData.eqv (SeqAt.readOf s2.heap its.toArray[m]) dy.py = false
      rw [rd m hm _ hz']; exact hno m _ hmj hz'
  | _ => exact px.elim
end
end EC
end
/-! ## D6 -/
section
set_option Elab.async false
set_option linter.all false
set_option maxRecDepth 100000
set_option maxHeartbeats 2000000
/-! D6: zip of two tuples, one name for the pair. -/
namespace EC
open PySem PySem.Spec PyProof.Rows L2
/-- the zip's record -/
abbrev ZR (h : Heap) (z TI TO : Addr) (v : Value) (f : Bool) : Prop := h.get? z = some { cls := .type "zip", dict := none, data := .fields #[v, .bool f, .bool false, .ref TI, .ref TO], slots := #[] }
def ZN (h : Heap) (z TI TO : Addr) : Prop := ∃ v f, ZR h z TI TO v f ∧ (v = .none ∨ ∃ T : Addr, v = rawInt T)
section
variable {prog : Program} {w : World} {A : Around} {E : Value → Shared → Prop} {s : Shared}
theorem zn_free {z TI TO : Addr} {Q : Bool → Shared → Prop} (hz : ZN s.heap z TI TO) (h : ∀ b h', ZN h' z TI TO → Heap.SameBut z s.heap h' → Q b { s with heap := h' }) :
    wpAny (model prog w) A (Builtin.SmallTypes.ownedTupleIsFree (.ref z)) Q E s := by
  obtain ⟨v, f, hr, hv⟩ := hz
  unfold Builtin.SmallTypes.ownedTupleIsFree
  refine wpAny_bind (wpAny_field hr rfl (x := v) rfl ?_)
  rcases hv with e | ⟨T, e⟩
  · subst e
    exact wpAny_pure (h true s.heap ⟨_, f, hr, .inl rfl⟩ (Heap.SameBut.refl _ _))
  · subst e
    show wpAny _ _ (loadIfAlive ((T : Int).toNat) >>= _) _ _ _
    rw [Int.toNat_natCast]
    have al : ∀ {R : Option Obj → Shared → Prop}, R (s.heap.get? T) s → wpAny (model prog w) A (loadIfAlive T) R E s := fun r => fun _ _ _ => r
    refine wpAny_bind (al ?_)
    cases hT : s.heap.get? T with
    | none => exact wpAny_pure (h true s.heap ⟨_, f, hr, .inr ⟨T, rfl⟩⟩ (Heap.SameBut.refl _ _))
    | some o =>
      simp only [Option.isNone_some, Bool.false_eq_true, if_false]
      refine wpAny_bind (wpAny_field hr rfl (x := .bool f) rfl ?_)
      cases f with
      | true => exact wpAny_pure (h false s.heap ⟨_, true, hr, .inr ⟨T, rfl⟩⟩ (Heap.SameBut.refl _ _))
      | false => exact wpAny_bind (wpAny_setField_rec hr (by simp) fun h1 hr1 sb => wpAny_pure (h false h1 ⟨_, true, hr1, .inr ⟨T, rfl⟩⟩ sb))
theorem zipN_item {z TI TO i1 i2 l1 l2 : Addr} {k : Nat} {xs ys : Array Value} {x y : Value} {Q : Value → Shared → Prop} (D : ZipApart z TI TO i1 i2 l1 l2) (hz : ZN s.heap z TI TO) (hTI : PySem.IsPair s.heap TI (.ref i1) (.ref i2)) (hTO : ∃ a b, PySem.IsPair s.heap TO a b)
    (h1 : s.heap.IsTupleIter i1 l1 k) (h2 : s.heap.IsTupleIter i2 l2 k) (hl1 : s.heap.IsTuple l1 xs) (hl2 : s.heap.IsTuple l2 ys) (hx : xs[k]? = some x) (hy : ys[k]? = some y)
    (fin : ∀ h', ZN h' z TI TO → (∃ a b, PySem.IsPair h' TO a b) → h'.IsTupleIter i1 l1 (k + 1) → h'.IsTupleIter i2 l2 (k + 1) → PySem.IsPair h' s.heap.objs.size x y →
      (∀ c o, c ≠ z → c ≠ TO → c ≠ i1 → c ≠ i2 → s.heap.get? c = some o → h'.get? c = some o) → Q (.ref s.heap.objs.size) { s with heap := h' }) :
    wpAny (model prog w) A (Builtin.«zip.__next__» ⟨[.ref z], []⟩) (fun r s' => ∃ v, r = .done (.ret v) ∧ Q v s') E s := by
  obtain ⟨v, f, hr, hv⟩ := id hz
  obtain ⟨a, b, hTO⟩ := hTO
  show wpAny _ _ (field (.ref z) 2 >>= _) _ _ _
  refine wpAny_bind (wpAny_field hr rfl (x := .bool false) rfl ?_)
  show wpAny _ _ (field (.ref z) 3 >>= _) _ _ _
  refine wpAny_bind (wpAny_field hr rfl (x := .ref TI) rfl ?_)
  refine wpAny_bind (wpAny_seqItems hTI rfl ?_)
  show wpAny _ _ (Builtin.SmallTypes.ownedTupleIsFree (.ref z) >>= _) _ _ _
  refine wpAny_bind (zn_free hz fun fr g0 hz0 sb0 => ?_)
  have hTO0 : PySem.IsPair g0 TO a b := sb0.extBut _ _ D.TOz hTO
  have h10 := h1.extBut sb0.extBut D.i1z
  have h20 := h2.extBut sb0.extBut D.i2z
  have hl10 := hl1.extBut sb0.extBut D.l1z
  have hl20 := hl2.extBut sb0.extBut D.l2z
  have size0 : g0.objs.size = s.heap.objs.size := sb0.1
  cases fr with
  | true =>
    obtain ⟨v0, f0, r0, _⟩ := hz0
    simp only [if_true]
    refine wpAny_bind (wpAny_rule ?_)
    refine wpAny_bind (wpAny_field r0 rfl (x := .ref TO) rfl ?_)
    refine wpAny_bind (wpAny_setField_rec r0 (by simp) fun g1 r1 sb1 => ?_)
    replace r1 : ZR g1 z TI TO .ellipsis f0 := r1
    refine wpAny_bind ?_
    simp only [List.zipIdx_cons, List.zipIdx_nil, List.forIn_cons, List.forIn_nil]
    refine wpAny_bind (wpAny_bind (wpAny_onRaise ?_))
    show wpAny _ _ (Builtin.SmallTypes.nextOf (.ref i1) >>= _) _ _ _
    refine wpAny_bind (RZ.nextOf_tuple_item (h10.extBut sb1.extBut D.i1z) (hl10.extBut sb1.extBut D.l1z) hx fun g2 q2 sb2 => wpAny_pure ?_)
    have t2 : PySem.IsPair g2 TO a b := sb2.extBut _ _ D.TOi1 (sb1.extBut _ _ D.TOz hTO0)
    refine wpAny_bind (wpAny_seqItems t2 rfl ?_)
    refine wpAny_bind (wpAny_updateSeq_pair t2 fun g3 t3 sb3 => ?_)
    replace t3 : PySem.IsPair g3 TO x b := t3
    refine wpAny_bind (wpAny_letGo (wpAny_pure ?_))
    refine wpAny_bind (wpAny_bind (wpAny_onRaise ?_))
    show wpAny _ _ (Builtin.SmallTypes.nextOf (.ref i2) >>= _) _ _ _
    refine wpAny_bind (RZ.nextOf_tuple_item (((h20.extBut sb1.extBut D.i2z).extBut sb2.extBut D.i12.symm).extBut sb3.extBut D.TOi2.symm) (((hl20.extBut sb1.extBut D.l2z).extBut sb2.extBut D.l2i1).extBut sb3.extBut D.l2TO) hy fun g4 q4 sb4 => wpAny_pure ?_)
    have t4 : PySem.IsPair g4 TO x b := sb4.extBut _ _ D.TOi2 t3
    refine wpAny_bind (wpAny_seqItems t4 rfl ?_)
    refine wpAny_bind (wpAny_updateSeq_pair t4 fun g5 t5 sb5 => ?_)
    replace t5 : PySem.IsPair g5 TO x y := t5
    refine wpAny_bind (wpAny_letGo (wpAny_pure (wpAny_pure ?_)))
    refine wpAny_bind (wpAny_seqItems t5 rfl ?_)
    refine wpAny_bind (wpAny_newTuple ?_)
    have size5 : g5.objs.size = s.heap.objs.size := by rw [sb5.1, sb4.1, sb3.1, sb2.1, sb1.1, size0]
    have r5 : ZR g5 z TI TO .ellipsis f0 := sb5.extBut _ _ D.TOz.symm (sb4.extBut _ _ D.i2z.symm (sb3.extBut _ _ D.TOz.symm (sb2.extBut _ _ D.i1z.symm r1)))
    have k5 : ∀ c o, c ≠ z → c ≠ TO → c ≠ i1 → c ≠ i2 → s.heap.get? c = some o → g5.get? c = some o := fun c o c1 c2 c3 c4 e =>
      sb5.extBut _ _ c2 (sb4.extBut _ _ c4 (sb3.extBut _ _ c2 (sb2.extBut _ _ c3 (sb1.extBut _ _ c1 (sb0.extBut _ _ c1 e)))))
    have q15 : g5.IsTupleIter i1 l1 (k + 1) := ((q2.extBut sb3.extBut D.TOi1.symm).extBut sb4.extBut D.i12).extBut sb5.extBut D.TOi1.symm
    have q25 : g5.IsTupleIter i2 l2 (k + 1) := q4.extBut sb5.extBut D.TOi2.symm
    have zlt : z < g5.objs.size := Heap.lt_size r5
    show wpAny _ _ (Builtin.SmallTypes.ownedTupleHandOut (.ref z) (.ref g5.objs.size) >>= _) _ _ _
    refine wpAny_bind ?_
    unfold Builtin.SmallTypes.ownedTupleHandOut
    have r6 : ZR (g5.push { cls := .type "tuple", data := .seq #[x, y] }) z TI TO .ellipsis f0 := Heap.get?_push_of_some _ r5
    refine wpAny_bind (wpAny_setField_rec r6 (by simp) fun g7 r7 sb7 => ?_)
    replace r7 : ZR g7 z TI TO (rawInt g5.objs.size) f0 := r7
    refine wpAny_setField_rec r7 (by simp) fun g8 r8 sb8 => ?_
    replace r8 : ZR g8 z TI TO (rawInt g5.objs.size) false := r8
    have up : ∀ c o, c ≠ z → g5.get? c = some o → g8.get? c = some o := fun c o c1 e => sb8.extBut _ _ c1 (sb7.extBut _ _ c1 (Heap.get?_push_of_some _ e))
    have T8 : PySem.IsPair g8 g5.objs.size x y := sb8.extBut _ _ (Nat.ne_of_gt zlt) (sb7.extBut _ _ (Nat.ne_of_gt zlt) (Heap.get?_push_size _ rfl))
    refine wpAny_pure ⟨_, rfl, ?_⟩
    show Q (.ref g5.objs.size) _
    rw [size5] at T8 ⊢
    exact fin g8 ⟨_, _, r8, .inr ⟨_, rfl⟩⟩ ⟨x, y, up _ _ D.TOz t5⟩ (q15.at fun o e => up _ o D.i1z e) (q25.at fun o e => up _ o D.i2z e) T8 fun c o c1 c2 c3 c4 e => up c o c1 (k5 c o c1 c2 c3 c4 e)
  | false =>
    simp only [Bool.false_eq_true, if_false]
    refine wpAny_bind ?_
    rw [← Array.forIn_toList]
    simp only [List.forIn_cons, List.forIn_nil]
    refine wpAny_bind (wpAny_bind (wpAny_holding ?_))
    show wpAny _ _ (Builtin.SmallTypes.nextOf (.ref i1) >>= _) _ _ _
    refine wpAny_bind (RZ.nextOf_tuple_item (s := { s with heap := g0 }) h10 hl10 hx fun g2 q2 sb2 => wpAny_pure ?_)
    refine wpAny_pure ?_
    refine wpAny_bind (wpAny_bind (wpAny_holding ?_))
    show wpAny _ _ (Builtin.SmallTypes.nextOf (.ref i2) >>= _) _ _ _
    refine wpAny_bind (RZ.nextOf_tuple_item (s := { s with heap := g2 }) (h20.extBut sb2.extBut D.i12.symm) (hl20.extBut sb2.extBut D.l2i1) hy fun g3 q3 sb3 => wpAny_pure ?_)
    refine wpAny_pure (wpAny_pure ?_)
    show wpAny _ _ (newTuple [x, y] >>= _) _ _ _
    refine wpAny_bind (wpAny_newTuple ?_)
    have size3 : g3.objs.size = s.heap.objs.size := by rw [sb3.1, sb2.1, size0]
    obtain ⟨v0, f0, r0, hv0⟩ := hz0
    have r3 : ZR g3 z TI TO v0 f0 := sb3.extBut _ _ D.i2z.symm (sb2.extBut _ _ D.i1z.symm r0)
    have k3 : ∀ c o, c ≠ z → c ≠ TO → c ≠ i1 → c ≠ i2 → s.heap.get? c = some o → g3.get? c = some o := fun c o c1 _ c3 c4 e => sb3.extBut _ _ c4 (sb2.extBut _ _ c3 (sb0.extBut _ _ c1 e))
    refine wpAny_pure ⟨_, rfl, ?_⟩
    show Q (.ref g3.objs.size) _
    have T3 : PySem.IsPair (g3.push { cls := .type "tuple", data := .seq #[x, y] }) g3.objs.size x y := Heap.get?_push_size _ rfl
    rw [size3] at T3 ⊢
    exact fin _ ⟨v0, f0, Heap.get?_push_of_some _ r3, hv0⟩ ⟨a, b, Heap.get?_push_of_some _ (sb3.extBut _ _ D.TOi2 (sb2.extBut _ _ D.TOi1 hTO0))⟩ ((q2.extBut sb3.extBut D.i12).at fun o e => Heap.get?_push_of_some _ e) (q3.at fun o e => Heap.get?_push_of_some _ e) T3
      fun c o c1 c2 c3 c4 e => Heap.get?_push_of_some _ (k3 c o c1 c2 c3 c4 e)
end
end EC
end
/-! ## D7 -/
section
set_option Elab.async false
set_option linter.all false
set_option maxRecDepth 100000
set_option maxHeartbeats 2000000
/-! D7: zip of two tuples, one name for the pair: the end; what is walked. -/
namespace EC
open PySem PySem.Spec PyProof.Rows L2
section
variable {prog : Program} {w : World} {A : Around} {E : Value → Shared → Prop} {s : Shared}
theorem zipN_end {z TI TO i1 i2 l1 l2 : Addr} {k : Nat} {xs ys : Array Value} {Q : PySem.Fin → Shared → Prop} (hh : A.handled = none) (D : ZipApart z TI TO i1 i2 l1 l2) (hz : ZN s.heap z TI TO) (hTI : PySem.IsPair s.heap TI (.ref i1) (.ref i2)) (hTO : ∃ a b, PySem.IsPair s.heap TO a b)
    (h1 : s.heap.IsTupleIter i1 l1 k) (h2 : s.heap.IsTupleIter i2 l2 k) (hl1 : s.heap.IsTuple l1 xs) (hl2 : s.heap.IsTuple l2 ys) (hend : xs[k]? = none ∨ ys[k]? = none)
    (fin : ∀ h' e, (∀ c o, c ≠ z → c ≠ TO → c ≠ i1 → c ≠ i2 → s.heap.get? c = some o → h'.get? c = some o) → (∃ o, h'.get? e = some o ∧ o.cls = .type "StopIteration") → E (.ref e) { s with heap := h' }) :
    wpAny (model prog w) A (Builtin.«zip.__next__» ⟨[.ref z], []⟩) Q E s := by
  obtain ⟨v, f, hr, hv⟩ := id hz
  obtain ⟨a, b, hTO⟩ := hTO
  show wpAny _ _ (field (.ref z) 2 >>= _) _ _ _
  refine wpAny_bind (wpAny_field hr rfl (x := .bool false) rfl ?_)
  show wpAny _ _ (field (.ref z) 3 >>= _) _ _ _
  refine wpAny_bind (wpAny_field hr rfl (x := .ref TI) rfl ?_)
  refine wpAny_bind (wpAny_seqItems hTI rfl ?_)
  show wpAny _ _ (Builtin.SmallTypes.ownedTupleIsFree (.ref z) >>= _) _ _ _
  refine wpAny_bind (zn_free hz fun fr g0 hz0 sb0 => ?_)
  have hTO0 : PySem.IsPair g0 TO a b := sb0.extBut _ _ D.TOz hTO
  have h10 := h1.extBut sb0.extBut D.i1z
  have h20 := h2.extBut sb0.extBut D.i2z
  have hl10 := hl1.extBut sb0.extBut D.l1z
  have hl20 := hl2.extBut sb0.extBut D.l2z
  have size0 : g0.objs.size = s.heap.objs.size := sb0.1
  cases fr with
  | true =>
    obtain ⟨v0, f0, r0, _⟩ := hz0
    simp only [if_true]
    refine wpAny_bind (wpAny_rule ?_)
    refine wpAny_bind (wpAny_field r0 rfl (x := .ref TO) rfl ?_)
    refine wpAny_bind (wpAny_setField_rec r0 (by simp) fun g1 r1 sb1 => ?_)
    replace r1 : ZR g1 z TI TO .ellipsis f0 := r1
    refine wpAny_bind ?_
    simp only [List.zipIdx_cons, List.zipIdx_nil, List.forIn_cons, List.forIn_nil]
    refine wpAny_bind (wpAny_bind (wpAny_onRaise ?_))
    show wpAny _ _ (Builtin.SmallTypes.nextOf (.ref i1) >>= _) _ _ _
    cases hx : xs[k]? with
    | none =>
      refine wpAny_bind (RZ.nextOf_tuple_end hh (h10.extBut sb1.extBut D.i1z) (hl10.extBut sb1.extBut D.l1z) hx fun g2 e sb2 he => ?_)
      obtain ⟨oe, e1, e2⟩ := he
      have r2 : ZR g2 z TI TO .ellipsis f0 := sb2 _ _ D.i1z.symm r1
      have ez : e ≠ z := fun x => by rw [x, r2] at e1; cases e1; simp at e2
      refine wpAny_setField_rec r2 (by simp) fun g3 _ sb3 => fin g3 e (fun c o c1 _ c3 _ q => sb3.extBut _ _ c1 (sb2 _ _ c3 (sb1.extBut _ _ c1 (sb0.extBut _ _ c1 q)))) ⟨oe, sb3.extBut _ _ ez e1, e2⟩
    | some x =>
      have hy : ys[k]? = none := by
        rcases hend with q | q
        · rw [hx] at q; cases q
        · exact q
      refine wpAny_bind (RZ.nextOf_tuple_item (h10.extBut sb1.extBut D.i1z) (hl10.extBut sb1.extBut D.l1z) hx fun g2 q2 sb2 => wpAny_pure ?_)
      have t2 : PySem.IsPair g2 TO a b := sb2.extBut _ _ D.TOi1 (sb1.extBut _ _ D.TOz hTO0)
      refine wpAny_bind (wpAny_seqItems t2 rfl ?_)
      refine wpAny_bind (wpAny_updateSeq_pair t2 fun g3 t3 sb3 => ?_)
      refine wpAny_bind (wpAny_letGo (wpAny_pure ?_))
      refine wpAny_bind (wpAny_bind (wpAny_onRaise ?_))
      show wpAny _ _ (Builtin.SmallTypes.nextOf (.ref i2) >>= _) _ _ _
      refine wpAny_bind (RZ.nextOf_tuple_end hh (((h20.extBut sb1.extBut D.i2z).extBut sb2.extBut D.i12.symm).extBut sb3.extBut D.TOi2.symm) (((hl20.extBut sb1.extBut D.l2z).extBut sb2.extBut D.l2i1).extBut sb3.extBut D.l2TO) hy fun g4 e sb4 he => ?_)
      obtain ⟨oe, e1, e2⟩ := he
      have r4 : ZR g4 z TI TO .ellipsis f0 := sb4 _ _ D.i2z.symm (sb3.extBut _ _ D.TOz.symm (sb2.extBut _ _ D.i1z.symm r1))
      have ez : e ≠ z := fun x => by rw [x, r4] at e1; cases e1; simp at e2
      refine wpAny_setField_rec r4 (by simp) fun g5 _ sb5 => fin g5 e (fun c o c1 c2 c3 c4 q => sb5.extBut _ _ c1 (sb4 _ _ c4 (sb3.extBut _ _ c2 (sb2.extBut _ _ c3 (sb1.extBut _ _ c1 (sb0.extBut _ _ c1 q)))))) ⟨oe, sb5.extBut _ _ ez e1, e2⟩
  | false =>
    simp only [Bool.false_eq_true, if_false]
    refine wpAny_bind ?_
    rw [← Array.forIn_toList]
    simp only [List.forIn_cons, List.forIn_nil]
    refine wpAny_bind (wpAny_bind (wpAny_holding ?_))
    show wpAny _ _ (Builtin.SmallTypes.nextOf (.ref i1) >>= _) _ _ _
    cases hx : xs[k]? with
    | none =>
      refine wpAny_bind (RZ.nextOf_tuple_end (s := { s with heap := g0 }) hh h10 hl10 hx fun g2 e sb2 he => ?_)
      exact fin g2 e (fun c o c1 _ c3 _ q => sb2 _ _ c3 (sb0.extBut _ _ c1 q)) he
    | some x =>
      have hy : ys[k]? = none := by
        rcases hend with q | q
        · rw [hx] at q; cases q
        · exact q
      refine wpAny_bind (RZ.nextOf_tuple_item (s := { s with heap := g0 }) h10 hl10 hx fun g2 q2 sb2 => wpAny_pure ?_)
      refine wpAny_pure ?_
      refine wpAny_bind (wpAny_bind (wpAny_holding ?_))
      show wpAny _ _ (Builtin.SmallTypes.nextOf (.ref i2) >>= _) _ _ _
      refine wpAny_bind (RZ.nextOf_tuple_end (s := { s with heap := g2 }) hh (h20.extBut sb2.extBut D.i12.symm) (hl20.extBut sb2.extBut D.l2i1) hy fun g3 e sb3 he => ?_)
      exact fin g3 e (fun c o c1 _ c3 c4 q => sb3 _ _ c4 (sb2.extBut _ _ c3 (sb0.extBut _ _ c1 q))) he
theorem next_zipN_item {z TI TO i1 i2 l1 l2 : Addr} {k : Nat} {xs ys : Array Value} {x y : Value} {Q : Option Value → Shared → Prop} (D : ZipApart z TI TO i1 i2 l1 l2) (hz : ZN s.heap z TI TO) (hTI : PySem.IsPair s.heap TI (.ref i1) (.ref i2)) (hTO : ∃ a b, PySem.IsPair s.heap TO a b)
    (h1 : s.heap.IsTupleIter i1 l1 k) (h2 : s.heap.IsTupleIter i2 l2 k) (hl1 : s.heap.IsTuple l1 xs) (hl2 : s.heap.IsTuple l2 ys) (hx : xs[k]? = some x) (hy : ys[k]? = some y)
    (fin : ∀ h', ZN h' z TI TO → (∃ a b, PySem.IsPair h' TO a b) → h'.IsTupleIter i1 l1 (k + 1) → h'.IsTupleIter i2 l2 (k + 1) → PySem.IsPair h' s.heap.objs.size x y →
      (∀ c o, c ≠ z → c ≠ TO → c ≠ i1 → c ≠ i2 → s.heap.get? c = some o → h'.get? c = some o) → Q (some (.ref s.heap.objs.size)) { s with heap := h' }) :
    wpAny (model prog w) A (pyNext (.ref z)) Q E s := by
  obtain ⟨v, f, hr, _⟩ := id hz
  have ty : s.TypeIs (.ref z) "zip" := ⟨_, hr, rfl⟩
  unfold pyNext
  exact wpAny_bind (wpAny_attempt (wpAny_callSpecial?_slot (name := Str.ofString "__next__") ty PySem.F.slot_zip_next (wpAny_call_entry PySem.F.slot_zip_next ty PySem.F.entry_zip_next
    (zipN_item D hz hTI hTO h1 h2 hl1 hl2 hx hy fun h' a1 a2 a3 a4 a5 a6 => wpAny_pure (fin h' a1 a2 a3 a4 a5 a6)) (PySem.F.args_zip_next_1 _))))
theorem next_zipN_end {z TI TO i1 i2 l1 l2 : Addr} {k : Nat} {xs ys : Array Value} {Q : Option Value → Shared → Prop} (hh : A.handled = none) (D : ZipApart z TI TO i1 i2 l1 l2) (hz : ZN s.heap z TI TO) (hTI : PySem.IsPair s.heap TI (.ref i1) (.ref i2)) (hTO : ∃ a b, PySem.IsPair s.heap TO a b)
    (h1 : s.heap.IsTupleIter i1 l1 k) (h2 : s.heap.IsTupleIter i2 l2 k) (hl1 : s.heap.IsTuple l1 xs) (hl2 : s.heap.IsTuple l2 ys) (hend : xs[k]? = none ∨ ys[k]? = none)
    (fin : ∀ h', (∀ c o, c ≠ z → c ≠ TO → c ≠ i1 → c ≠ i2 → s.heap.get? c = some o → h'.get? c = some o) → Q none { s with heap := h' }) : wpAny (model prog w) A (pyNext (.ref z)) Q E s := by
  obtain ⟨v, f, hr, _⟩ := id hz
  have ty : s.TypeIs (.ref z) "zip" := ⟨_, hr, rfl⟩
  unfold pyNext
  refine wpAny_bind (wpAny_attempt (wpAny_callSpecial?_slot (name := Str.ofString "__next__") ty PySem.F.slot_zip_next (wpAny_call_entry PySem.F.slot_zip_next ty PySem.F.entry_zip_next
    (zipN_end hh D hz hTI hTO h1 h2 hl1 hl2 hend fun h' e hk he => ?_) (PySem.F.args_zip_next_1 _))))
  obtain ⟨o, ho, hc⟩ := he
  refine wpAny_bind (wpAny_isInstance (T := "StopIteration") (b := true) ⟨o, ho, hc⟩ isSubtype_stop ?_)
  exact wpAny_pure (fin _ hk)
theorem self_zipN {z TI TO : Addr} {Q : Value → Shared → Prop} (hz : ZN s.heap z TI TO) (h : Q (.ref z) s) : wpAny (model prog w) A (pyIter (.ref z)) Q E s := by
  obtain ⟨v, f, hr, _⟩ := hz
  have ty : s.TypeIs (.ref z) "zip" := ⟨_, hr, rfl⟩
  refine wpAny_pyIter_slot ty PySem.F.slot_zip_iter (wpAny_call_entry PySem.F.slot_zip_iter ty PySem.F.entry_zip_iter ?_ (PySem.F.args_zip_iter_1 _))
  show wpAny _ _ (PySem.ret (.ref z)) _ _ s
  exact wpAny_pure ⟨_, rfl, "zip", _, ty, PySem.F.slot_zip_next.lookup, h⟩
end
theorem turn_zipN {P : Program} {w : World} {K : PySem.W.Frag} {nm : Str} {tpos : Pos} {a b z TI TO i1 i2 : Addr} (D : ZipApart z TI TO i1 i2 a b) :
    Turn P w K (.Name nm tpos) (RZ.ItzT K a b) [z, TI, TO, i1, i2] z (fun i h => ZN h z TI TO ∧ PySem.IsPair h TI (.ref i1) (.ref i2) ∧ (∃ x y, PySem.IsPair h TO x y) ∧ h.IsTupleIter i1 a i ∧ h.IsTupleIter i2 b i) where
  mem := by simp
  obj := fun i h st c hc => by
    obtain ⟨⟨v, f, hz, _⟩, hTI, ⟨x, y, hTO⟩, ⟨o1, e1, _, d1⟩, ⟨o2, e2, _, d2⟩⟩ := st
    simp only [List.mem_cons, List.not_mem_nil, or_false] at hc
    rcases hc with q | q | q | q | q <;> subst q
    · exact ⟨_, hz, fun v q => nomatch q⟩
    · exact ⟨_, hTI, fun v q => nomatch q⟩
    · exact ⟨_, hTO, fun v q => nomatch q⟩
    · exact ⟨o1, e1, fun v q => by rw [d1] at q; cases q⟩
    · exact ⟨o2, e2, fun v q => by rw [d2] at q; cases q⟩
  keep := fun i h h' st k => by
    obtain ⟨⟨v, f, hz, hv⟩, hTI, ⟨x, y, hTO⟩, h1, h2⟩ := st
    exact ⟨⟨v, f, k z (by simp) _ hz, hv⟩, k TI (by simp) _ hTI, ⟨x, y, k TO (by simp) _ hTO⟩, h1.at fun o q => k i1 (by simp) o q, h2.at fun o q => k i2 (by simp) o q⟩
  item := by
    intro X hP hw hK hc i pns s σ H E J hf st hg
    subst hP hw hK
    obtain ⟨hz, hTI, hTO, h1, h2⟩ := st
    obtain ⟨xs, ys, x, y, qx, qy, hx, hy⟩ := hg
    obtain ⟨us, rv, p, _⟩ := J.tuple qx
    obtain ⟨us2, rv2, p2, _⟩ := J.tuple qy
    obtain ⟨u, hu, ru⟩ := rv.get hx
    obtain ⟨u2, hu2, ru2⟩ := rv2.get hy
    refine next_zipN_item D hz hTI hTO h1 h2 p p2 (x := u) (y := u2) (by simpa using hu) (by simpa using hu2) fun h' z' TO' h1' h2' hT hk => ?_
    refine ⟨_, rfl, wpAny_pure ?_⟩
    have obj : ObjOk X.prog X.w (upd H s.heap.objs.size (.tup [x, y])) h' s.heap.objs.size (.tup [x, y]) :=
      ⟨by show 2 ≤ sizeLine; decide, [u, u2], .cons ru (.cons ru2 .nil), ⟨_, hT, rfl, _, rfl⟩⟩
    have J1 : Inv X pns σ (upd H s.heap.objs.size (.tup [x, y])) { s with heap := h' } :=
      J.turnedNew (t' := s.toks) (ch := [z, TI, TO, i1, i2]) (fun c o hb q => by
        simp only [List.mem_cons, List.not_mem_nil, or_false, not_or] at hb
        exact hk c o hb.1 hb.2.2.1 hb.2.2.2.1 hb.2.2.2.2 q) hf (Nat.le_refl _) obj
    have keepTI : PySem.IsPair h' TI (.ref i1) (.ref i2) := hk _ _ D.TIz D.TITO D.TIi1 D.TIi2 hTI
    refine ⟨.ref s.heap.objs.size, _, J1, rfl, ⟨_, x, y, rfl, J.hok.fresh (Nat.le_refl _), rfl, fun l hl => by rw [J.tuple_inj hl qx]; exact hx, fun l hl => by rw [J.tuple_inj hl qy]; exact hy⟩, ⟨z', keepTI, TO', h1', h2'⟩, fun c hcm => ?_⟩
    have lt : c < s.heap.objs.size := by
      obtain ⟨v, f, hz, _⟩ := hz
      obtain ⟨_, _, hTO⟩ := hTO
      obtain ⟨_, e1, _⟩ := h1
      obtain ⟨_, e2, _⟩ := h2
      have hcm' := hcm
      simp only [List.mem_cons, List.not_mem_nil, or_false] at hcm'
      rcases hcm' with q | q | q | q | q <;> subst q
      · exact Heap.lt_size hz
      · exact Heap.lt_size hTI
      · exact Heap.lt_size hTO
      · exact Heap.lt_size e1
      · exact Heap.lt_size e2
    rw [upd_ne (Nat.ne_of_lt lt)]
    exact (hf c hcm).1
  done := by
    intro X hP hw hK hc i pns s σ H E J hf st hg
    subst hP hw hK
    obtain ⟨hz, hTI, hTO, h1, h2⟩ := st
    obtain ⟨xs, ys, qx, qy, hend⟩ := hg
    obtain ⟨us, rv, p, _⟩ := J.tuple qx
    obtain ⟨us2, rv2, p2, _⟩ := J.tuple qy
    have l1 := rv.length
    have l2 := rv2.length
    have he : us.toArray[i]? = none ∨ us2.toArray[i]? = none := hend.imp (fun q => by simp; omega) (fun q => by simp; omega)
    exact next_zipN_end (J.ok.hd hc) D hz hTI hTO h1 h2 p p2 he fun h' hk => ⟨rfl, J.turnedL (t' := s.toks) (ch := [z, TI, TO, i1, i2]) (fun c o hb q => by
      simp only [List.mem_cons, List.not_mem_nil, or_false, not_or] at hb
      exact hk c o hb.1 hb.2.2.1 hb.2.2.2.1 hb.2.2.2.2 q) hf⟩
  self := fun A i s Q E st h => self_zipN st.1 h
def iZipN (K : PySem.W.Frag) (ta : TA) : TI := fun σ H R => ta σ H fun vs H1 => ∃ a b xs ys, vs = [.ref a, .ref b] ∧ SqT K H1 a xs ∧ SqT K H1 b ys ∧ R (RZ.ItzT K a b) H1
theorem pi_zipN {X : Cx} {e e2 : Expr} {ta : TA} {p pos tpos : Pos} {nm : Str} (hg : Gl X "zip") (hm : X.mg "zip" = none) (ha : PA X [e, e2] ta)
    (hs : starEach [e, e2] X.env = (false, eval e X.env) :: starEach [e2] X.env := by rfl) (hpl : (backTo pos (starEach [e2] X.env)).any (·.1) = false := by rfl) :
    PI X (.Name nm tpos) (.Call (.Name "zip" p) [e, e2] [] pos) (iZipN X.K ta) := by
  refine ⟨fun pns s σ H R J h => ?_⟩
  refine Call_ (ld_blt J hg hm PyProof.Rows.boot_zip (PyProof.Rows.callWith_type1 (thn (ha.run pos pns s σ H _ J h) fun us s1 ⟨vs, H1, J1, r1, a, b, xs, ys, ex, qx, qy, q⟩ => ?_) hs hpl))
  subst ex
  cases r1 with
  | cons r rr =>
    cases rr with
    | cons r' rr =>
      cases rr
      cases r
      cases r'
      have low : ∀ c, c ∈ [s1.heap.objs.size + 4, s1.heap.objs.size + 2, s1.heap.objs.size + 3, s1.heap.objs.size, s1.heap.objs.size + 1] → FpOk X pns H1 c := fun c hcm => by
        have le : s1.heap.objs.size ≤ c := by
          simp only [List.mem_cons, List.not_mem_nil, or_false] at hcm
          rcases hcm with z | z | z | z | z <;> subst z
          · exact Nat.le_add_right _ _
          · exact Nat.le_add_right _ _
          · exact Nat.le_add_right _ _
          · exact Nat.le_refl _
          · exact Nat.le_add_right _ _
        exact J1.fpOk le (J1.hok.fresh le)
      obtain ⟨us, rv, p1, _⟩ := J1.tuple qx
      obtain ⟨us2, rv2, p2, _⟩ := J1.tuple qy
      obtain ⟨o1, ho1, _⟩ := id p1
      obtain ⟨o2, ho2, _⟩ := id p2
      refine RZ.call_zipT (show s1.heap.IsTuple a us.toArray from p1) (show s1.heap.IsTuple b us2.toArray from p2) fun h' hz hTI hTO h1 h2 hsz hk => wpAny_pyIter_zip hz ?_
      have J2 : Inv X pns σ H1 { s1 with heap := h' } := J1.kept (t' := s1.toks) hk
      exact ⟨s1.heap.objs.size + 4, [s1.heap.objs.size + 4, s1.heap.objs.size + 2, s1.heap.objs.size + 3, s1.heap.objs.size, s1.heap.objs.size + 1], _, _, H1, rfl, J2, turn_zipN (PySem.W.ktu_apart s1.heap.objs.size a b (Heap.lt_size ho1) (Heap.lt_size ho2)), ⟨⟨_, _, hz, .inl rfl⟩, hTI, ⟨_, _, hTO⟩, h1, h2⟩, low, q⟩
end EC
end
/-! ## D8 -/
section
set_option Elab.async false
set_option linter.all false
set_option maxRecDepth 100000
set_option maxHeartbeats 2000000
/-! D8: enumerate of a tuple. -/
namespace EC
open PySem PySem.Spec PyProof.Rows L2
open PySem.AutoSeq1 (wpAny_loadPart')
theorem enum_new_tup (l : Addr) (items : Array Value) (n : Nat) (dct : Option Addr) (sl : Array (Option Value)) :
    Meets (Builtin.«enumerate.__new__» ⟨[.type "enumerate", .ref l], []⟩) (fun _ R s => s.heap.get? l = some { cls := .type "tuple", dict := dct, data := .seq items n, slots := sl } ∧
      R (.ok (.ret (.ref (s.heap.push { cls := .type "tuple_iterator", data := .fields #[.ref l, .int 0 0] }).objs.size)))
        { s with heap := (s.heap.push { cls := .type "tuple_iterator", data := .fields #[.ref l, .int 0 0] }).push { cls := .type "enumerate", data := .fields #[.none, .bool false, .ref s.heap.objs.size, rawInt 0, .none, .none] } }) :=
  .of_wp fun prog w A R s hh => by
    obtain ⟨hp, g, d, tk, os⟩ := s
    obtain ⟨hl, h⟩ := hh
    have hsub := sub_enumerate
    have hT : Heap.IsTuple (Shared.heap ⟨hp, g, d, tk, os⟩) l items := ⟨_, hl, rfl, n, rfl⟩
    have q1 : ∀ {A' : Around} {E : Value → Shared → Prop} {Q : Value → Shared → Prop}, Q (.ref hp.objs.size) ⟨hp.push { cls := .type "tuple_iterator", data := .fields #[.ref l, .int 0 0] }, g, d, tk, os⟩ → wpAny (model prog w) A' (pyIter (.ref l)) Q E ⟨hp, g, d, tk, os⟩ :=
      fun q => (begins_tuple l items).iter prog w _ _ ⟨hp, g, d, tk, os⟩ _ hT q
    wp_walk using wpAny_loadPart' hl
    refine wpAny_stack_any fun st => wpAny_pure ?_
    split
    · rename_i c _ _ _ _ _
      cases (c == Value.type "enumerate")
      · wp_walk using wpAny_loadPart' hl, q1
        exact ⟨_, rfl, h⟩
      · wp_walk using wpAny_loadPart' hl, q1
        exact ⟨_, rfl, h⟩
    · wp_walk using wpAny_loadPart' hl, q1
      exact ⟨_, rfl, h⟩
section
variable {prog : Program} {w : World} {A : Around} {E : Value → Shared → Prop} {s : Shared}
theorem call_enum_tup {l : Addr} {items : Array Value} {Q : Value → Shared → Prop} (hL : IsTup s.heap l items)
    (h : ∀ h', IsEnum h' (s.heap.objs.size + 1) s.heap.objs.size 0 .none → h'.IsTupleIter s.heap.objs.size l 0 → (∀ b o, s.heap.get? b = some o → h'.get? b = some o) → Q (.ref (s.heap.objs.size + 1)) { s with heap := h' }) :
    wpAny (model prog w) A (PySem.call (.type "enumerate") [.ref l]) Q E s := by
  obtain ⟨⟨c, dct, dt, sl⟩, hl, hc, n, hd⟩ := hL
  simp only at hc hd
  subst hc hd
  refine callType_new PySem.F.called_enumerate (by decide) (PySem.F.typeCall_enumerate_1 _) (PySem.F.newCall_enumerate_1 _) (fun obj => PySem.F.args_object_init_2 obj _) PySem.F.entry_enumerate_new (enum_new_tup l items n dct sl) ⟨hl, ?_⟩
  have sz : (s.heap.push { cls := .type "tuple_iterator", data := .fields #[.ref l, .int 0 0] }).objs.size = s.heap.objs.size + 1 := Heap.size_push ..
  have he := Heap.get?_push_size (s.heap.push { cls := .type "tuple_iterator", data := .fields #[.ref l, .int 0 0] }) (o := { cls := .type "enumerate", data := .fields #[.none, .bool false, .ref s.heap.objs.size, rawInt 0, .none, .none] }) rfl
  show _ ∧ _
  rw [sz] at he ⊢
  exact ⟨⟨_, he, rfl⟩, h _ he ⟨_, Heap.get?_push_of_some _ (Heap.get?_push_size _ rfl), rfl, rfl⟩ fun b o x => Heap.get?_push_of_some _ (Heap.get?_push_of_some _ x)⟩
theorem next_enumT_end {e it l : Addr} {k : Int} {i : Nat} {items : Array Value} {old : Value} {Q : Option Value → Shared → Prop} (hh : A.handled = none) (he : IsEnum s.heap e it k old) (hit : s.heap.IsTupleIter it l i) (hl : s.heap.IsTuple l items) (hx : items[i]? = none)
    (fin : ∀ h', Heap.ExtBut it s.heap h' → Q none { s with heap := h' }) : wpAny (model prog w) A (pyNext (.ref e)) Q E s := by
  have ty : s.TypeIs (.ref e) "enumerate" := ⟨_, he, rfl⟩
  unfold pyNext
  refine wpAny_bind (wpAny_attempt (wpAny_callSpecial?_slot (name := Str.ofString "__next__") ty PySem.F.slot_enumerate_next (wpAny_call_entry PySem.F.slot_enumerate_next ty PySem.F.entry_enumerate_next ?_ (PySem.F.args_enumerate_next_1 _))))
  show wpAny _ _ (field (.ref e) 2 >>= _) _ _ _
  refine wpAny_bind (wpAny_field he rfl (x := .ref it) rfl ?_)
  refine wpAny_bind (RZ.nextOf_tuple_end (by simp [hh]) hit hl hx fun h' x eb hx' => ?_)
  obtain ⟨o, ho, hc⟩ := hx'
  refine wpAny_bind (wpAny_isInstance (T := "StopIteration") (b := true) ⟨o, ho, hc⟩ isSubtype_stop ?_)
  exact wpAny_pure (fin _ eb)
end
/-- the tuple at a, each item in a new pair -/
def IteT (K : PySem.W.Frag) (a : Addr) : It :=
  ⟨fun i H => ∃ (xs : List V) (x : V), SqT K H a xs ∧ xs[i]? = some x, fun i H v H' => ∃ T x, v = .ref T ∧ H T = none ∧ H' = upd H T (.tup [.int (i : Nat), x]) ∧ ∀ xs, SqT K H a xs → xs[i]? = some x, fun i H => ∃ xs : List V, SqT K H a xs ∧ xs.length ≤ i⟩
theorem turn_enumT {P : Program} {w : World} {K : PySem.W.Frag} {elts : List Expr} {kk : Nat} {tpos : Pos} (a e it : Addr) :
    Turn P w K (.Tuple elts kk tpos) (IteT K a) [e, it] e (fun i h => (∃ old, IsEnum h e it ((i : Nat) : Int) old) ∧ h.IsTupleIter it a i ∧ e ≠ it) where
  mem := by simp
  obj := fun i h st b hb => by
    obtain ⟨⟨old, he⟩, ⟨o, ho, hc, hd⟩, _⟩ := st
    simp only [List.mem_cons, List.not_mem_nil, or_false] at hb
    rcases hb with z | z <;> subst z
    · exact ⟨_, he, fun v q => nomatch q⟩
    · exact ⟨o, ho, fun v q => by rw [hd] at q; cases q⟩
  keep := fun i h h' ⟨⟨old, he⟩, hi, hne⟩ k => ⟨⟨old, k e (by simp) _ he⟩, hi.at fun o q => k it (by simp) o q, hne⟩
  item := by
    intro X hP hw hK hc i pns s σ H E J hf st hg
    subst hP hw hK
    obtain ⟨⟨old, he⟩, hit, hne⟩ := st
    obtain ⟨xs, x, hq, hx⟩ := hg
    obtain ⟨us, rv, p, hz⟩ := J.tuple hq
    obtain ⟨u, hu, ru⟩ := rv.get hx
    have le : e < s.heap.objs.size := Heap.lt_size he
    have li : it < s.heap.objs.size := by obtain ⟨_, q, _⟩ := hit; exact Heap.lt_size q
    have hui : us.toArray[i]? = some u := by simpa using hu
    have hd : X.A.in1.handled = none := by simp [J.ok.hd hc]
    obtain ⟨ot, hot, hct, _⟩ := id p
    have nae : a ≠ it := fun z => by
      obtain ⟨oi, hoi, hci, _⟩ := hit
      subst z; rw [hot] at hoi; cases hoi; rw [hct] at hci; exact absurd (Value.type.inj hci) (by decide)
    have nea : e ≠ a := fun z => by
      subst z; have he := hot.symm.trans he; cases he; exact absurd (Value.type.inj hct) (by decide)
    refine wpAny_pyNext_enum_itemD (Draws.tuple hd it a nae us.toArray) he ⟨hit, p⟩ (by rw [Array.getElem?_eq_some_iff] at hui; exact hui.1) hne (fun q => by
      simp only [List.mem_cons, List.not_mem_nil, or_false] at q
      exact q.elim hne nea) fun x1 h' tk hx1 ho hst' hT hsz hk => ?_
    have ex : x1 = u := by
      have hx1 : us.toArray[i]? = some x1 := hx1
      rw [hui] at hx1; exact (Option.some.inj hx1).symm
    subst ex
    refine ⟨_, rfl, wpAny_letOwnedTupleGo_enum (s := { s with heap := h', toks := tk + 1 }) ho fun h'' he' sb => ?_⟩
    have hT2 : h''.get? s.heap.objs.size = some { cls := .type "tuple", data := .seq #[.int i tk, x1] } := (sb.2 _ (Nat.ne_of_gt le)).trans hT
    have obj : ObjOk X.prog X.w (upd H s.heap.objs.size (.tup [.int (i : Nat), x])) h'' s.heap.objs.size (.tup [.int (i : Nat), x]) :=
      ⟨by show 2 ≤ sizeLine; decide, [.int i tk, x1], .cons ⟨_, rfl⟩ (.cons ru .nil), ⟨_, hT2, rfl, _, rfl⟩⟩
    have J1 : Inv X pns σ (upd H s.heap.objs.size (.tup [.int (i : Nat), x])) { s with heap := h'', toks := tk + 1 } :=
      J.turnedNew (ch := [e, it]) (fun b ob hb q => by
        simp only [List.mem_cons, List.not_mem_nil, or_false, not_or] at hb
        exact (sb.2 b hb.1).trans (hk b ob hb.1 hb.2 q)) hf (Nat.le_refl _) obj
    refine ⟨.ref s.heap.objs.size, _, J1, rfl, ⟨_, x, rfl, J.hok.fresh (Nat.le_refl _), rfl, fun ys hy => by rw [J.tuple_inj hy hq]; exact hx⟩, ⟨⟨x1, ?_⟩, hst'.1.at fun o q => (sb.2 it (Ne.symm hne)).trans q, hne⟩, fun b hb => ?_⟩
    · rw [show ((i + 1 : Nat) : Int) = (i : Int) + 1 by omega]; exact he'
    · have lt : b < s.heap.objs.size := by
        have hb' := hb
        simp only [List.mem_cons, List.not_mem_nil, or_false] at hb'
        rcases hb' with z | z <;> subst z
        · exact le
        · exact li
      rw [upd_ne (Nat.ne_of_lt lt)]
      exact (hf b hb).1
  done := by
    intro X hP hw hK hc i pns s σ H E J hf st hg
    subst hP hw hK
    obtain ⟨⟨old, he⟩, hit, hne⟩ := st
    obtain ⟨xs, hq, hx⟩ := hg
    obtain ⟨us, rv, p, hz⟩ := J.tuple hq
    have hl := rv.length
    obtain ⟨f0, f1, f2, f3, f4, f5⟩ := hf it (by simp)
    exact next_enumT_end (J.ok.hd hc) he hit p (by simp; omega) fun h' eb => ⟨rfl, J.turned (t' := s.toks) (fun b o hb q => eb b o hb q) f0 f1 f3 f4 f5⟩
  self := fun A i s Q E st h => let ⟨⟨_, he⟩, _⟩ := st; wpAny_pyIter_enum he h
def iEnumT (K : PySem.W.Frag) (ta : TA) : TI := fun σ H R => ta σ H fun vs H1 => ∃ a xs, vs = [.ref a] ∧ SqT K H1 a xs ∧ R (IteT K a) H1
theorem pi_enumT {X : Cx} {e : Expr} {ta : TA} {p pos tpos : Pos} {elts : List Expr} {kk : Nat} (hg : Gl X "enumerate") (hm : X.mg "enumerate" = none) (ha : PA X [e] ta) (hs : starEach [e] X.env = [(false, eval e X.env)] := by rfl) :
    PI X (.Tuple elts kk tpos) (.Call (.Name "enumerate" p) [e] [] pos) (iEnumT X.K ta) := by
  refine ⟨fun pns s σ H R J h => ?_⟩
  refine Call_ (ld_blt J hg hm boot_enumerate (PyProof.Rows.callWith_type1 (thn (ha.run pos pns s σ H _ J h) fun us s1 ⟨vs, H1, J1, r1, a, xs, ex, hq, q⟩ => ?_) hs rfl))
  subst ex
  cases r1 with
  | cons r rr =>
    cases rr
    cases r
    obtain ⟨its, rv, p', hz⟩ := J1.tuple hq
    refine call_enum_tup p' fun h' he hit hk => wpAny_pyIter_enum he ?_
    have J2 : Inv X pns σ H1 { s1 with heap := h' } := J1.kept (t' := s1.toks) hk
    refine ⟨s1.heap.objs.size + 1, [s1.heap.objs.size + 1, s1.heap.objs.size], _, _, H1, rfl, J2, turn_enumT a (s1.heap.objs.size + 1) s1.heap.objs.size, ⟨⟨.none, he⟩, hit, Nat.succ_ne_self _⟩, fun b hb => ?_, q⟩
    have le : s1.heap.objs.size ≤ b := by
      simp only [List.mem_cons, List.not_mem_nil, or_false] at hb
      rcases hb with z | z <;> subst z
      · exact Nat.le_add_right _ _
      · exact Nat.le_refl _
    exact J1.fpOk le (J1.hok.fresh le)
end EC
end
/-! ## D9 -/
section
set_option Elab.async false
set_option linter.all false
set_option maxRecDepth 100000
set_option maxHeartbeats 2000000
/-! D9: enumerate, zip by data; join; a tuple with its object known; len(set(x)). -/
namespace EC
open PySem PySem.Spec PyProof.Rows L2
/-! ### enumerate -/
def enumD (ds : List D) : List D := ds.zipIdx.map fun p => .tup [.int (p.2 : Nat), p.1]
theorem enumD_length (ds : List D) : (enumD ds).length = ds.length := by simp [enumD]
theorem enumD_get {ds : List D} {i : Nat} {d : D} (h : (enumD ds)[i]? = some d) : ∃ x, ds[i]? = some x ∧ d = .tup [.int (i : Nat), x] := by
  unfold enumD at h
  rw [List.getElem?_map, List.getElem?_zipIdx] at h
  cases q : ds[i]? with
  | none => rw [q] at h; simp at h
  | some x => rw [q] at h; simp at h; exact ⟨x, rfl, h.symm⟩
def enumL (f : Rho → M D) : Rho → M (List D) := fun ρ => bnd (f ρ) fun
  | .lst ds => ret (enumD ds)
  | _ => die
def enumT (f : Rho → M D) : Rho → M (List D) := fun ρ => bnd (f ρ) fun
  | .tup ds => ret (enumD ds)
  | _ => die
theorem pair_new {W : Wd} {B H : Hp} {T : Addr} {i : Nat} {x : D} {v : V} (s : Sub B H) (w : WOk W B H) (hT : H T = none) (r : Rep B x v) : ∃ B2, Grow W B H B2 (upd H T (.tup [.int (i : Nat), v])) ∧ Rep B2 (.tup [.int (i : Nat), x]) (.ref T) := by
  have n := Grow.new (o := .tup [.int (i : Nat), v]) s w hT
  exact ⟨_, n, T, _, rfl, upd_same, _, _, rfl, rfl, _, _, rfl, r.mono n.bb, rfl⟩
theorem pair_new2 {W : Wd} {B H : Hp} {T : Addr} {x y : D} {v u : V} (s : Sub B H) (w : WOk W B H) (hT : H T = none) (r : Rep B x v) (r2 : Rep B y u) : ∃ B2, Grow W B H B2 (upd H T (.tup [v, u])) ∧ Rep B2 (.tup [x, y]) (.ref T) := by
  have n := Grow.new (o := .tup [v, u]) s w hT
  exact ⟨_, n, T, _, rfl, upd_same, _, _, rfl, r.mono n.bb, _, _, rfl, r2.mono n.bb, rfl⟩
section
variable {X : Cx} {a b e o : Expr} {f g : Rho → M D} {p pos tpos apos : Pos} {elts : List Expr} {kk : Nat}
theorem i_enumL (hg : Gl X "enumerate") (hm : X.mg "enumerate" = none) (h : PE X a (tD f)) (hs : starEach [a] X.env = [(false, eval a X.env)] := by rfl) : PI X (.Tuple elts kk tpos) (.Call (.Name "enumerate" p) [a] [] pos) (tI (enumL f)) :=
  pi_imp (pi_enum hg hm (pa_cons h pa_nil hs) hs) fun σ H R ⟨gg, P, E, hf, k⟩ => ⟨gg, _, E, hf, fun d pd v B1 H1 w r => by
    cases d with
    | lst ds =>
      obtain ⟨l, vs, e1, hB, rr⟩ := r
      have sq : ∀ {B H : Hp}, Sub B1 B → Sub B H → SqL X.K H l vs := fun sb s => SqL.of (s _ _ (sb _ _ hB))
      refine ⟨l, vs, by rw [e1], SqL.of (w.bh _ _ hB), k _ pd _ B1 H1 w fun i B H sb s wk => ⟨fun d hd => ?_, fun hl => ⟨vs, sq sb s, by rw [rr.length]; rw [enumD_length] at hl; exact hl⟩⟩⟩
      obtain ⟨x, hx, rfl⟩ := enumD_get hd
      obtain ⟨v, hv, rv⟩ := rr.get' hx
      refine ⟨⟨vs, v, sq sb s, hv⟩, fun y H2 ⟨T, v2, e2, hT, eH, hy⟩ => ?_⟩
      have ev := hy vs (sq sb s)
      rw [hv] at ev
      cases ev
      subst e2 eH
      exact pair_new s wk hT (rv.mono sb)
    | _ => exact pd.elim⟩
theorem i_enumT (hg : Gl X "enumerate") (hm : X.mg "enumerate" = none) (h : PE X a (tD f)) (hs : starEach [a] X.env = [(false, eval a X.env)] := by rfl) : PI X (.Tuple elts kk tpos) (.Call (.Name "enumerate" p) [a] [] pos) (tI (enumT f)) :=
  pi_imp (pi_enumT hg hm (pa_cons h pa_nil hs) hs) fun σ H R ⟨gg, P, E, hf, k⟩ => ⟨gg, _, E, hf, fun d pd v B1 H1 w r => by
    cases d with
    | tup ds =>
      obtain ⟨l, vs, e1, hB, rr⟩ := r
      have sq : ∀ {B H : Hp}, Sub B1 B → Sub B H → SqT X.K H l vs := fun sb s => SqT.of (s _ _ (sb _ _ hB))
      refine ⟨l, vs, by rw [e1], SqT.of (w.bh _ _ hB), k _ pd _ B1 H1 w fun i B H sb s wk => ⟨fun d hd => ?_, fun hl => ⟨vs, sq sb s, by rw [rr.length]; rw [enumD_length] at hl; exact hl⟩⟩⟩
      obtain ⟨x, hx, rfl⟩ := enumD_get hd
      obtain ⟨v, hv, rv⟩ := rr.get' hx
      refine ⟨⟨vs, v, sq sb s, hv⟩, fun y H2 ⟨T, v2, e2, hT, eH, hy⟩ => ?_⟩
      have ev := hy vs (sq sb s)
      rw [hv] at ev
      cases ev
      subst e2 eH
      exact pair_new s wk hT (rv.mono sb)
    | _ => exact pd.elim⟩
/-! ### zip of two tuples -/
def zipD (xs ys : List D) : List D := List.zipWith (fun x y => .tup [x, y]) xs ys
def zipT (f g : Rho → M D) : Rho → M (List D) := fun ρ => bnd (f ρ) fun x => bnd (g ρ) fun y => match x, y with
  | .tup xs, .tup ys => ret (zipD xs ys)
  | _, _ => die
theorem zip_walks {W : Wd} {K : PySem.W.Frag} {B1 H1 : Hp} {l m : Addr} {xs ys : List D} {vs ws : List V} (hl : B1 l = some (.tup vs)) (hm : B1 m = some (.tup ws)) (r1 : RepL B1 xs vs) (r2 : RepL B1 ys ws) : Walks W (RZ.ItzT K l m) B1 H1 (zipD xs ys) := fun i B H sb s wk => by
  have sq1 : SqT K H l vs := SqT.of (s _ _ (sb _ _ hl))
  have sq2 : SqT K H m ws := SqT.of (s _ _ (sb _ _ hm))
  refine ⟨fun d hd => ?_, fun hle => ⟨vs, ws, sq1, sq2, ?_⟩⟩
  · unfold zipD at hd
    rw [List.getElem?_zipWith] at hd
    cases q1 : xs[i]? with
    | none => rw [q1] at hd; simp at hd
    | some x => cases q2 : ys[i]? with
      | none => rw [q1, q2] at hd; simp at hd
      | some y =>
        rw [q1, q2] at hd
        have : D.tup [x, y] = d := by simpa using hd
        subst this
        obtain ⟨v, hv, rv⟩ := r1.get' q1
        obtain ⟨u, hu, ru⟩ := r2.get' q2
        refine ⟨⟨vs, ws, v, u, sq1, sq2, hv, hu⟩, fun z H2 ⟨T, v2, u2, e2, hT, eH, h3, h4⟩ => ?_⟩
        have e3 := h3 vs sq1
        have e4 := h4 ws sq2
        rw [hv] at e3
        rw [hu] at e4
        cases e3
        cases e4
        subst e2 eH
        exact pair_new2 s wk hT (rv.mono sb) (ru.mono sb)
  · unfold zipD at hle
    rw [List.length_zipWith] at hle
    rw [r1.length, r2.length]
    omega
theorem i_zipT (hg : Gl X "zip") (hm : X.mg "zip" = none) (h : PE X a (tD f)) (h2 : PE X b (tD g)) (hs : starEach [a, b] X.env = (false, eval a X.env) :: starEach [b] X.env := by rfl) (hs2 : starEach [b] X.env = (false, eval b X.env) :: starEach [] X.env := by rfl) (hpl : (backTo pos (starEach [b] X.env)).any (·.1) = false := by rfl) :
    PI X (.Tuple elts kk tpos) (.Call (.Name "zip" p) [a, b] [] pos) (tI (zipT f g)) :=
  pi_imp (RZ.pi_zipA hg hm (pa_cons h (pa_cons h2 pa_nil hs2) hs) hs hpl) fun σ H R ⟨gg, P, E, hf, k⟩ => ⟨gg, _, E, hf, fun dx px x B1 H1 w1 r1 => ⟨gg.at B1, _, E.grow w1, px, fun dy py y B2 H2 w2 r2 => by
    cases dx with
    | tup xs => cases dy with
      | tup ys =>
        obtain ⟨l, vs, e1, h1, q1⟩ := r1.mono w2.bb
        obtain ⟨m, ws, e2, h2, q2⟩ := r2
        exact ⟨l, m, vs, ws, by rw [e1, e2], .inr ⟨SqT.of (w2.bh _ _ h1), SqT.of (w2.bh _ _ h2), k _ py _ B2 H2 (w1.trans w2) (zip_walks h1 h2 q1 q2)⟩⟩
      | _ => exact py.elim
    | _ => cases dy <;> exact py.elim⟩⟩
theorem i_zipN {nm : Str} (hg : Gl X "zip") (hm : X.mg "zip" = none) (h : PE X a (tD f)) (h2 : PE X b (tD g)) (hs : starEach [a, b] X.env = (false, eval a X.env) :: starEach [b] X.env := by rfl) (hs2 : starEach [b] X.env = (false, eval b X.env) :: starEach [] X.env := by rfl) (hpl : (backTo pos (starEach [b] X.env)).any (·.1) = false := by rfl) :
    PI X (.Name nm tpos) (.Call (.Name "zip" p) [a, b] [] pos) (tI (zipT f g)) :=
  pi_imp (pi_zipN hg hm (pa_cons h (pa_cons h2 pa_nil hs2) hs) hs hpl) fun σ H R ⟨gg, P, E, hf, k⟩ => ⟨gg, _, E, hf, fun dx px x B1 H1 w1 r1 => ⟨gg.at B1, _, E.grow w1, px, fun dy py y B2 H2 w2 r2 => by
    cases dx with
    | tup xs => cases dy with
      | tup ys =>
        obtain ⟨l, vs, e1, h1, q1⟩ := r1.mono w2.bb
        obtain ⟨m, ws, e2, h2, q2⟩ := r2
        exact ⟨l, m, vs, ws, by rw [e1, e2], SqT.of (w2.bh _ _ h1), SqT.of (w2.bh _ _ h2), k _ py _ B2 H2 (w1.trans w2) (zip_walks h1 h2 q1 q2)⟩
      | _ => exact py.elim
    | _ => cases dy <;> exact py.elim⟩⟩
/-! ### tuple(xs), the new object known -/
theorem call_tupW : CallR X (.type "tuple") (fun xs H Q => ∃ p ys, xs = [.ref p] ∧ SqL X.K H p ys ∧ ∀ l od, od.dict = none → H l = none → Q (.ref l) (upd H l (.frz od (.tup ys)))) := by
  intro pns s σ H xs us Q J r ⟨p, ys, e, hq, q⟩
  subst e
  rw [Vals.ref1 r]
  obtain ⟨its, rv, pl, hz⟩ := J.list hq
  have hlen := rv.length
  refine call_tuple_list pl.isList (fun g keep => ?_) (by simp only [List.size_toArray] <;> omega)
  have J1 : Inv X pns σ H { s with heap := g } := J.kept (t' := s.toks) keep
  have obj : ObjOk X.prog X.w (upd H g.objs.size (.frz { cls := .type "tuple", data := .seq its.toArray } (.tup ys))) (g.push { cls := .type "tuple", data := .seq its.toArray }) g.objs.size (.frz { cls := .type "tuple", data := .seq its.toArray } (.tup ys)) :=
    ⟨Heap.get?_push_size _ rfl, hz, its, rv, IsTup.new _ _⟩
  have J2 := J1.laid (t' := s.toks) (fun b o z => Heap.get?_push_of_some _ z) (Nat.le_refl _) obj
  exact ⟨.ref g.objs.size, _, J2, rfl, q _ _ rfl (J1.hok.fresh (Nat.le_refl _))⟩
def tupWD : D → M D
  | .lst ds => ret (.wd ds)
  | _ => die
abbrev tupWS := one1 tupWD
theorem c_tupleW : CallD X (.type "tuple") tupWS := CallD1 call_tupW fun W B H d v Q P s w r h k => by
  cases d with
  | lst es =>
    obtain ⟨a, xs, e, hl, rr⟩ := r.lst s
    refine ⟨a, xs, by rw [e], SqL.of hl, fun p od hod hp => ?_⟩
    have n := Grow.new (o := .frz od (.tup xs)) s w hp
    exact k _ h (.ref p) _ _ n ⟨p, xs, od, rfl, upd_same, hod, rr.mono n.bb⟩
  | _ => exact h.elim
/-! ### join -/
def joinR (x : Str) (ds : List D) : M D := match D.strs ds with
  | some ys => chk ((ys.map (fun (y : Str) => y.length)).sum + ys.length * x.length ≤ 16777216) (ret (.str (Txt.join x ys)))
  | none => die
theorem joinR_eq {x : Str} {ds : List D} {P : D → Prop} (h : joinR x ds P) : ∃ ys, ds = ys.map D.str ∧ (ys.map (fun (y : Str) => y.length)).sum + ys.length * x.length ≤ 16777216 ∧ P (.str (Txt.join x ys)) := by
  cases q : D.strs ds with
  | none =>
    have e : joinR x ds = die := by unfold joinR; rw [q]
    rw [e] at h; exact h.elim
  | some ys =>
    have e : joinR x ds = chk ((ys.map (fun (y : Str) => y.length)).sum + ys.length * x.length ≤ 16777216) (ret (.str (Txt.join x ys))) := by unfold joinR; rw [q]
    rw [e] at h; exact ⟨ys, strs_eq q, h.1, h.2⟩
def joinE (f g : Rho → M D) : Rho → M D := fun ρ => bnd (f ρ) fun
  | .str x => bnd (g ρ) fun
    | .lst ds => joinR x ds
    | _ => die
  | _ => die
theorem d_join (ho : PE X o (tW f)) (he : PE X e (tW g))
    (hbase : attributeBase o "join" X.env (eval o X.env) = eval o X.env := by rfl)
    (hfew : ((backTo pos (starEach [e] X.env)).all (fun x => !x.1) && (backToKw pos (keywordEach [] X.env)).all (fun x => x.1.isSome)
      && decide ([e].length + ([] : List Keyword).length + (if ([] : List Keyword).isEmpty then 0 else 1) < 30)) = true := by rfl)
    (hline : (apos.endLine == pos.line) = true := by rfl) (hs : starEach [e] X.env = (false, eval e X.env) :: starEach [] X.env := by rfl) (hplain : (backTo pos (starEach [] X.env)).any (·.1) = false := by rfl) :
    PE X (.Call (.Attribute o "join" apos) [e] [] pos) (tD (joinE f g)) :=
  pe_imp (pe_bm PySem.F.plainAttrs_str PySem.F.slot_str_join PySem.F.type_str_join mt_join ho (pa_cons he pa_nil hs) hbase hfew hline hs hplain) fun σ H Q ⟨gg, P, E, hf, k⟩ => ⟨gg, _, E, hf, fun dx px x B1 H1 w1 r1 => by
    cases dx with
    | str z =>
      refine ⟨by rw [r1.str]; rfl, gg.at B1, _, E.grow w1, px, fun dy py y B2 H2 w2 r2 => ?_⟩
      cases dy with
      | lst ds =>
        obtain ⟨ys, eds, hle, hp⟩ := joinR_eq py
        subst eds
        obtain ⟨l, vs, e2, h2, q2⟩ := r2.lst w2.bh
        have := strs_rep.mp q2
        subst this
        exact ⟨z, l, ys, r1.str, by rw [e2], .inl (SqL.of h2), hle, k _ hp _ _ _ (w1.trans w2) rfl⟩
      | _ => exact py.elim
    | _ => exact px.elim⟩
/-! ### len(set(x)), x a tuple of ints -/
def D.ints : List D → Option (List Int)
  | [] => some []
  | .int x :: ds => (D.ints ds).map (x :: ·)
  | _ :: _ => none
theorem ints_eq : ∀ {ds : List D} {xs : List Int}, D.ints ds = some xs → ds = xs.map D.int
  | [], _, h => by cases h; rfl
  | d :: ds, ps, h => by
    unfold D.ints at h
    split at h
    · rename_i heq; cases heq
    · rename_i x r heq
      cases heq
      obtain ⟨qs, hq, rfl⟩ := Option.map_eq_some_iff.mp h
      rw [ints_eq hq]; rfl
    · cases h
theorem ints_map : ∀ xs : List Int, D.ints (xs.map D.int) = some xs
  | [] => rfl
  | p :: ps => by show (D.ints (ps.map D.int)).map _ = _; rw [ints_map ps]; rfl
def lensetI (xs : List Int) : M D := fun P => xs.length ≤ 1000 ∧ ∀ l : List Int, l.Nodup → (∀ k, k ∈ l ↔ k ∈ xs) → P (.int (l.length : Nat))
def lensetE (f : Rho → M D) : Rho → M D := fun ρ => bnd (f ρ) fun
  | .tup ds => match D.ints ds with
    | some xs => lensetI xs
    | none => die
  | _ => die
theorem d_lenset {p2 q : Pos} (hc : X.calm = true) (hg : Gl X "len") (hm : X.mg "len" = none) (hg2 : Gl X "set") (hm2 : X.mg "set" = none) (ha : PE X a (tW f)) (na : starEach [a] X.env = (false, eval a X.env) :: starEach [] X.env := by rfl) :
    PE X (.Call (.Name "len" p) [.Call (.Name "set" p2) [a] [] q] [] pos) (tD (lensetE f)) := by
  refine ⟨fun pns s σ H Q J ⟨gg, P, E, hf, k⟩ => ?_⟩
  refine Call_ (ld_blt J hg hm boot_len ?_)
  refine PyProof.Rows.callWith_builtin1 (PyProof.Rows.args_cons ?_ rfl) rfl rfl
  refine Call_ (ld_blt J hg2 hm2 boot_set ?_)
  have h1 := ha.run pns s σ H (fun x H1 => ∃ dx B1, (match dx with
    | .tup ds => match D.ints ds with
      | some xs => lensetI xs
      | none => die
    | _ => die) P ∧ Grow gg.W gg.B H B1 H1 ∧ RepW gg.W B1 H1 dx x) J ⟨gg, _, E, hf, fun dx px x B1 H1 w r => ⟨dx, B1, px, w, r⟩⟩
  refine PyProof.Rows.callWith_type1 (PyProof.Rows.args_cons (thn h1 fun v s1 ⟨x, H1, J1, rv, dx, B1, px, w1, r1⟩ => PyProof.Rows.args_nil ?_) na) na rfl
  cases dx with
  | tup ds =>
    have hh : (match D.ints ds with
      | some xs => lensetI xs
      | none => die) P := px
    clear px
    cases qi : D.ints ds with
    | none => simp only [qi] at hh; exact hh.elim
    | some xs =>
      simp only [qi] at hh
      have := ints_eq qi
      subst this
      obtain ⟨l, vs, e1, h1, q1⟩ := r1.tup w1.bh
      have := ints_rep.mp q1
      subst this
      subst e1
      cases (show v = Value.ref l from rv)
      obtain ⟨its, rvs, pl, hz⟩ := J1.tuple (SqT.of (K := X.K) h1)
      obtain ⟨hx, hh⟩ := hh
      have small : xs.length + 1 < scanBound := Nat.lt_of_le_of_lt (Nat.succ_le_succ hx) (by decide)
      refine call_set_tupI xs (J1.ok.hd hc) pl (by simpa using RZ.intsAre_vals rvs) small fun h' tk c R hc2 kp => ?_
      refine PyProof.Rows.args_nil ?_
      obtain ⟨o, es, ep, t, ho, hex, hd, _, nd, mem, sb, ft, sz, _, _⟩ := R
      have J2 : Inv X pns σ H1 { s1 with heap := h', toks := tk } := J1.kept kp
      refine call_len_set ho hex hd ft (by omega) ⟨.int (es.size : Nat), H1, J2.tok _, ⟨_, rfl⟩, ?_⟩
      have := hh (es.toList.map keyOf) nd fun k => by rw [← mem k]; simp
      rw [List.length_map, Array.length_toList] at this
      exact k _ this _ _ _ w1 rfl
  | _ => exact px.elim
end
end EC
end
/-! ## D10 -/
section
set_option Elab.async false
set_option linter.all false
set_option maxRecDepth 100000
set_option maxHeartbeats 2000000
/-! D10: < of texts and of tuples of texts; a pair turned round; calls by keywords. -/
namespace EC
open PySem PySem.Spec PyProof.Rows L2
/-! ### < -/
def rLtA (K : PySem.W.Frag) : R2 := fun x y H Q => ∃ d e, Dp K H x d ∧ Dp K H y e ∧ SeqAt.shaped d = true ∧ SeqAt.shaped e = true ∧ PySem.W.alike d e = true ∧ d ≠ .none ∧ Q (.bl (PySem.W.dataLt d e)) H
theorem op_ltA {X : Cx} (hu : X.A.units + 65 < cLine) : OpR X (compareOp .Lt) (rLtA X.K) := by
  intro pns s σ H x y v u Q J rx ry ⟨d, e, hd, he, sd, se, al, nn, q⟩
  obtain ⟨as, r1⟩ := Dp.reads J d x v hd rx
  obtain ⟨bs, r2⟩ := Dp.reads J e y u he ry
  have dp := SeqAt.depth_of_shaped sd
  have m : min d.depth e.depth ≤ d.depth := Nat.min_le_left _ _
  have z : wpAny (model X.prog X.w) X.A (richCompare .Lt v u) (EP X pns σ Q) X.xe s := PySem.W.rcLt_alike d e X.A s v u as bs r1 r2 al nn (by omega) X.prog X.w X.xe _ ⟨.bl _, H, J, rfl, q⟩
  exact z
def ltA (x y : D) : M D := chk (shp x ∧ shp y ∧ PySem.W.alike x.py y.py = true ∧ x.py ≠ .none) (ret (.bl (PySem.W.dataLt x.py y.py)))
theorem o_ltA {X : Cx} (hu : X.A.units + 65 < cLine) : OpD X (compareOp .Lt) ltA := opd (op_ltA hu) fun dx dy x y H Q P W B s rx ry hp k =>
  ⟨_, _, rx.dp s (SeqAt.canLay_of_shaped hp.1.1), ry.dp s (SeqAt.canLay_of_shaped hp.1.2.1), hp.1.1, hp.1.2.1, hp.1.2.2.1, hp.1.2.2.2, k _ hp.2 _ fun _ => rfl⟩
/-! ### a pair turned round -/
def revT (f : Rho → M D) : Rho → M D := fun ρ => bnd (f ρ) fun
  | .tup [x, y] => ret (.tup [y, x])
  | _ => die
section
variable {prog : Program} {w : World} {A : Around} {E : Value → Shared → Prop} {s : Shared}
theorem pair_turned {t sl : Addr} {x y : Value} {u : Tok} {Q : Value → Shared → Prop} (ht : IsTup s.heap t #[x, y]) (hs : s.heap.IsSliceOf sl .none .none (.int (-1) u))
    (h : Q (.ref s.heap.objs.size) { s with heap := s.heap.push { cls := .type "tuple", data := .seq #[y, x] } }) : wpAny (model prog w) A (getItem (.ref t) (.ref sl)) Q E s := by
  obtain ⟨os, hos, hcs, hds⟩ := id hs
  have ty : s.TypeIs (.ref sl) "slice" := ⟨os, hos, hcs⟩
  unfold getItem
  try with_reducible refine wpAny_holding ?_
  first | refine wpAny_bind (wpAny_pure ?_) | skip
  refine wpAny_bind (wpAny_sequenceKey ht.typeIs (by decide) ?_)
  refine wpAny_bind (wpAny_callSpecial?_slot (name := Str.ofString "__getitem__") ht.typeIs PyProof.Rows.slot_tuple_getitem
    (wpAny_call_entry PyProof.Rows.slot_tuple_getitem ht.typeIs PyProof.Rows.entry_tuple_getitem ?_ (PyProof.Rows.args_tuple_getitem _ _)))
  show wpAny _ _ (Builtin.Tuple.tupleItemsOf (.ref t) >>= _) _ _ s
  refine wpAny_bind (tupleItemsOf_ ht ?_)
  refine wpAny_bind (wpAny_typeOf ty ?_)
  rw [if_pos (by decide)]
  refine wpAny_bind ?_
  unfold Builtin.Slice.sliceApplied Builtin.Slice.sliceFields
  refine wpAny_bind (wpAny_bind (wpAny_field hos hds (x := .none) rfl (wpAny_bind (wpAny_field hos hds (x := .none) rfl (wpAny_bind (wpAny_field hos hds (x := .int (-1) u) rfl (wpAny_pure ?_)))))))
  refine wpAny_bind (slicePart_int ?_)
  show wpAny _ _ (if ((-1 : Int) == 0) = true then _ else _) _ _ s
  rw [if_neg (by decide)]
  refine wpAny_bind (slicePart_none (wpAny_bind (slicePart_none (wpAny_bind (wpAny_pure ?_)))))
  have e1 : Builtin.Slice.sliceAdjust none none (-1) (2 : Int) = (1, -1) := by decide
  have e2 : Builtin.Slice.slicePlaces 1 (-1) (-1) = 2 := by decide
  show wpAny _ _ (match Builtin.Slice.sliceAdjust none none (-1) (2 : Int) with | (lo, hi) => pure (lo, (-1 : Int), Builtin.Slice.slicePlaces lo hi (-1))) _ _ s
  rw [e1]
  show wpAny _ _ (pure ((1 : Int), (-1 : Int), Builtin.Slice.slicePlaces 1 (-1) (-1))) _ _ s
  rw [e2]
  refine wpAny_pure ?_
  show wpAny _ _ (if (((1 : Int) == 0 && (-1 : Int) == 1 && (2 : Nat) == 2)) = true then _ else _) _ _ s
  rw [if_neg (by decide)]
  have sz : sizeOk (.seq #[y, x]) := by show 2 ≤ sizeLine; decide
  first
    | exact wpAny_bind (m := Builtin.Tuple.tupleExact _) (wpAny_newObj_type (wpAny_pure ⟨_, rfl, wpAny_pure h⟩) sz)
    | exact wpAny_bind (m := Builtin.Tuple.tupleExact _) (wpAny_newObj_type (wpAny_bind (wpAny_pure (wpAny_pure ⟨_, rfl, wpAny_pure h⟩))) sz)
    | exact wpAny_bind (wpAny_bind (m := Builtin.Tuple.tupleExact _) (wpAny_newObj_type (wpAny_pure (wpAny_pure ⟨_, rfl, wpAny_pure h⟩)) sz))
    | exact wpAny_bind (wpAny_bind (m := Builtin.Tuple.tupleExact _) (wpAny_newObj_type (wpAny_pure ⟨_, rfl, wpAny_pure h⟩) sz))
end
section
variable {X : Cx} {a : Expr} {f : Rho → M D}
theorem d_revT {k : Nat} {p1 p2 p3 pos : Pos} (hx : PE X a (tD f)) : PE X (.Subscript a (.Slice none none (some (.UnaryOp .USub (.Constant (.int 1) k p1) p2)) p3) pos) (tD (revT f)) := by
  refine ⟨fun pns s σ H Q J ⟨gg, P, E, hf, kk⟩ => ?_⟩
  have h1 := hx.run pns s σ H (fun x H1 => ∃ dx B1, (match dx with
    | .tup [x, y] => ret (D.tup [y, x])
    | _ => die) P ∧ Grow gg.W gg.B H B1 H1 ∧ Rep B1 dx x) J ⟨gg, _, E, hf, fun dx px x B1 H1 w r => ⟨dx, B1, px, w, r⟩⟩
  refine Subscript_ (thn h1 fun v s1 ⟨x, H1, J1, r1, dx, B1, px, w1, rx⟩ => ?_)
  have hst : PO X (some (.UnaryOp .USub (.Constant (.int 1) k p1) p2)) (tPart (tUn (rU fun i => .int (-i)) (tC (.int 1)))) := po_some (pe_un un_neg pe_int)
  refine wpAny_Slice (thn (po_none.run pns s1 σ H1 (fun o H2 => o = none ∧ H2 = H1) J1 ⟨rfl, rfl⟩) fun vl s2 ⟨l, H2, J2, pl, el, e2⟩ => ?_)
  subst el e2
  refine thn (po_none.run pns s2 σ H2 (fun o H3 => o = none ∧ H3 = H2) J2 ⟨rfl, rfl⟩) fun vu s3 ⟨u, H3, J3, pu, eu, e3⟩ => ?_
  subst eu e3
  refine thn (hst.run pns s3 σ H3 (fun o H4 => o = some (-1) ∧ H4 = H3) J3 ⟨1, rfl, -1, rfl, rfl, rfl⟩) fun vs s4 ⟨o, H4, J4, ps, eo, e4⟩ => ?_
  subst eo e4
  cases pl
  cases pu
  cases ps with
  | int i tk =>
  match dx, px, rx with
  | .tup [d1, d2], px, ⟨b, ws, e, hB, v1, r1', e1, q1, v2, r2, e2, q2, e3⟩ =>
    subst e3 e2 e1 e
    cases (show v = Value.ref b from r1)
    have hh := w1.bh _ _ hB
    have J5 : Inv X pns σ H4 { s4 with heap := s4.heap.push { cls := .type "slice", data := .fields #[.none, .none, .int (-1) tk] } } := J4.kept (t' := s4.toks) fun b ob q => Heap.get?_push_of_some _ q
    obtain ⟨its, r, ht, hz⟩ := J5.tuple (SqT.of (K := X.K) hh)
    obtain ⟨u1, u2, rfl, ru1, ru2⟩ := vals2 r
    refine tail_any (ops := [.ref b, .ref s4.heap.objs.size]) ht.typeIs (PyProof.Rows.slot_tuple_getitem.lookup) ?_ (by with_unfolding_all rfl)
    refine pair_turned ht (Heap.IsSliceOf.new _ _ _ _) ?_
    have J6 := J5.laid (t' := s4.toks) (o := .tup [v2, v1]) (fun b ob q => Heap.get?_push_of_some _ q) (Nat.le_refl _) (show ObjOk X.prog X.w _ _ _ (.tup [v2, v1]) from ⟨by show 2 ≤ sizeLine; decide, [u2, u1], .cons ru2 (.cons ru1 .nil), IsTup.new _ _⟩)
    have fr := J5.hok.fresh (Nat.le_refl _)
    have n := Grow.new (o := .tup [v2, v1]) w1.bh w1.wk fr
    exact ⟨.ref _, _, J6, rfl, kk _ px _ _ _ (w1.trans n) ⟨_, _, rfl, upd_same, _, _, rfl, q2.mono n.bb, _, _, rfl, q1.mono n.bb, rfl⟩⟩
end
end EC
end
/-! ## D11 -/
section
set_option Elab.async false
set_option linter.all false
set_option maxRecDepth 100000
set_option maxHeartbeats 2000000
/-! D11: calls by keywords alone, the parameters from the last. -/
namespace EC
open PySem PySem.Spec PyProof.Rows L2
theorem vals_app : ∀ {vs ws : List V} {us xs : List Value}, Vals vs us → Vals ws xs → Vals (vs ++ ws) (us ++ xs)
  | _, _, _, _, .nil, h => h
  | _, _, _, _, .cons r t, h => .cons r (vals_app t h)
theorem vals_rev : ∀ {vs : List V} {us : List Value}, Vals vs us → Vals vs.reverse us.reverse
  | _, _, .nil => .nil
  | _, _, .cons r t => by rw [List.reverse_cons, List.reverse_cons]; exact vals_app (vals_rev t) (.cons r .nil)
/-- the keywords of a def, from the last parameter -/
def KRev (K : PySem.W.Frag) (fd : FuncData) (ps ks : List Str) : Prop := KBinds K fd ps ks (fun us ws => us ++ ws.reverse) (fun vs zs => vs ++ zs.reverse)
theorem krev_of {K : PySem.W.Frag} {fd : FuncData} {ps ks : List Str} (h : ∀ (us ws : List Value), us.length + ws.length = ps.length → bindArgs fd ⟨us, ks.zip ws⟩ = pure (ps.zip (us ++ ws.reverse))) : KRev K fd ps ks :=
  ⟨fun s us ws _ hl => .of_eq (h us ws (by rw [← hl, List.length_append, List.length_reverse])), fun r1 r2 => vals_app r1 (vals_rev r2)⟩
theorem krev_fun {K : PySem.W.Frag} {x qual : Str} {params : Arguments} {body : List Stmt} {scope : Scope} {f : Addr} {fd : FuncData} {ps ks : List Str} (F : FunD K x qual params body scope [] [] f fd)
    (h : ∀ (kV doc pm : Value) (an : Option Addr) (cdv ct : Value) (us ws : List Value), us.length + ws.length = ps.length → bindArgs (PySem.W.fnOf x qual params body scope .none kV doc pm an cdv ct) ⟨us, ks.zip ws⟩ = pure (ps.zip (us ++ ws.reverse))) : KRev K fd ps ks := by
  obtain ⟨oc, od, dV, kV, doc, pm, an, cdv, ct, osl, rfl, lk, hcd, hD, hK⟩ := F.ex
  rcases hD with ⟨_, rfl⟩ | ⟨e, _⟩
  · exact krev_of (h kV doc pm an cdv ct)
  · exact absurd rfl e
structure DefKOk (P : Program) (w : World) (K : PySem.W.Frag) (mg : Str → Option Value) (base : Heap) (x : Str) (ks : List Str) (k n : Nat) (F : List Sl → M D) : Prop where
  ex : ∃ (fd : FuncData) (ps : List Str), FnOk P w K mg base CX0 k (He.ga K x) fd ps (spF n F) ∧ KRev K fd ps ks
  mg : mg x = some (.ref (He.ga K x))
  kp : PySem.W.keepIn K (.ref (He.ga K x)) = true
theorem RepAL.app {W : Wd} {B : Hp} : ∀ {ds es : List Sl} {vs ws : List V}, RepAL W B ds vs → RepAL W B es ws → RepAL W B (ds ++ es) (vs ++ ws)
  | [], _, _, _, h, q => by rw [show _ = [] from h]; exact q
  | _ :: _, _, _, _, ⟨v, r, e, h, t⟩, q => ⟨v, _, by rw [e]; rfl, h, RepAL.app t q⟩
theorem RepAL.rev {W : Wd} {B : Hp} : ∀ {ds : List Sl} {vs : List V}, RepAL W B ds vs → RepAL W B ds.reverse vs.reverse
  | [], _, h => by rw [show _ = [] from h]; rfl
  | _ :: _, _, ⟨v, r, e, h, t⟩ => by rw [e, List.reverse_cons, List.reverse_cons]; exact RepAL.app (RepAL.rev t) ⟨v, [], rfl, h, rfl⟩
section
variable {X : Cx} {e : Expr} {f : Rho → M D} {pos : Pos}
theorem pk_imp {kws : List Keyword} {t t' : TA} (h : PK X kws t) (k : ∀ σ H Q, t' σ H Q → t σ H Q) : PK X kws t' := ⟨fun pos pins s σ H Q I q => h.run pos pins s σ H Q I (k _ _ _ q)⟩
theorem kas_nil : PK X [] (tA nilL) := pk_imp pk_nil fun σ H Q ⟨g, P, E, hf, k⟩ => k [] hf [] _ _ (Grow.refl E.sub E.wok) rfl
theorem kas_cons {nm : Option Str} {kpos : Pos} {kws : List Keyword} {t : Rho → M (List Sl)} (h : PE X e (tD f)) (ht : PK X kws (tA t)) : PK X (⟨nm, e, kpos⟩ :: kws) (tA (consA f t)) :=
  pk_imp (pk_cons h ht) fun σ H Q ⟨g, P, E, hf, k⟩ => ⟨g, _, E, hf, fun d pd v B1 H1 w r => ⟨g.at B1, _, E.grow w, pd, fun ds pds vs B2 H2 w2 r2 => k _ pds _ B2 H2 (w.trans w2) ⟨v, vs, rfl, r.mono w2.bb, r2⟩⟩⟩
def callR (n : Nat) (Fn : List Sl → M D) (t : Rho → M (List Sl)) : Rho → M D := fun ρ => bnd (t ρ) fun ds => chk (ds.length = n) (Fn ds.reverse)
theorem d_callKW {x : Str} {p : Pos} {k j n : Nat} {ks : List Str} {Fn : List Sl → M D} {kws : List Keyword} {t : Rho → M (List Sl)} (d : DefKOk X.prog X.w X.K X.mg X.base x ks k n Fn) (hr : Room j X.A) (hk : k ≤ j) (hg : Gl X x) (ha : PK X kws (tA t))
    (hall : (backToKw pos (keywordEach kws X.env)).all (·.1.isSome) = true := by rfl) (hks : (backToKw pos (keywordEach kws X.env)).filterMap (·.1) = ks := by rfl) (hdb : (x == ("__debug__" : Str)) = false := by decide)
    (hpl : ((backTo pos (starEach [] X.env)).any (·.1) || (backToKw pos (keywordEach kws X.env)).any (·.1.isNone)) = false := by rfl) : PE X (.Call (.Name x p) [] kws pos) (tD (callR n Fn t)) := by
  obtain ⟨fd, ps, F, hb⟩ := d.ex
  refine ⟨fun pns s σ H Q J ⟨gg, P, E, hf, kk⟩ => ?_⟩
  refine wpAny_Call_Name_kw (ld_glob J hg d.mg ?_ hdb)
  refine PySem.W.callWith_KW0 (h₀ := X.base) J.ok.mod.kin d.kp hall ?_ hpl
  have h1 := ha.run pos pns s σ H (fun vs H1 => ∃ ds B1, (ds.length = n ∧ Fn ds.reverse P) ∧ Grow gg.W gg.B H B1 H1 ∧ RepAL gg.W B1 ds vs) J ⟨gg, _, E, hf, fun ds px vs B1 H1 w r => ⟨ds, B1, ⟨px.1, px.2⟩, w, r⟩⟩
  refine thn h1 fun ws s2 ⟨zs, H2, J2, rz, ds, B1, px, w1, rr⟩ => ⟨J2.kIn, ?_⟩
  rw [hks]
  refine run_fnk (E := E0) (us := []) (vs := []) F (hr.mono hk) hb pass0 J2 .nil rz ?_
  exact ⟨gg.W, B1, ds.reverse, P, by rw [List.length_reverse]; exact px.1, w1.bh, w1.wk, rr.rev, px.2, fun d pd v B2 H2 w2 r2 => kk d pd v B2 H2 (w1.trans w2) r2⟩
end
end EC
end
/-! ## E1 -/
section
set_option Elab.async false
set_option linter.all false
set_option maxRecDepth 100000
set_option maxHeartbeats 2000000
/-! E1: update of a dict by tuples, dict of pairs with tuple keys. -/
namespace EC
open PySem PySem.Spec PyProof.Rows L2
section
variable {κ : Type} [DecidableEq κ]
def putAllK (kvs more : List (κ × V)) : List (κ × V) := more.foldl (fun acc p => putK acc p.1 p.2) kvs
def putAllP (kvs more : List (κ × D)) : List (κ × D) := more.foldl (fun acc p => putP acc p.1 p.2) kvs
theorem RepP.putAll {B : Hp} : ∀ {more : List (κ × D)} {mv : List (κ × V)} {l : List (κ × D)} {kvs : List (κ × V)}, RepP B l kvs → RepP B more mv → RepP B (putAllP l more) (putAllK kvs mv)
  | [], _, _, _, h, q => by rw [show _ = [] from q]; exact h
  | p :: more, _, l, kvs, h, ⟨v, r, e, h1, t⟩ => by rw [e]; exact RepP.putAll (l := putP l p.1 p.2) (kvs := putK kvs p.1 v) (h.put p.1 h1) t
theorem putAllK_length : ∀ (more kvs : List (κ × V)), (putAllK kvs more).length ≤ kvs.length + more.length
  | [], kvs => Nat.le_refl _
  | p :: more, kvs => by
    have h := putAllK_length more (putK kvs p.1 p.2)
    have h2 := length_putK kvs p.1 p.2
    show (putAllK (putK kvs p.1 p.2) more).length ≤ _
    rw [List.length_cons]; omega
end
theorem kt_putAll {H : Hp} : ∀ {more : List (List Key × V)} {ys : List (List Key × Addr × Value)} {kvs : List (List Key × V)} {xs : List (List Key × Addr × Value)}, KT H kvs xs → KT H more ys → KT H (putAllK kvs more) (storedAllH xs ys)
  | _, _, _, _, h, .nil => h
  | _, _, kvs, xs, h, .cons (a := p) (b := x) q t => by
    have h2 := KT.put h p.1 q.2.1 q.2.2
    have h3 : KT H (putK kvs p.1 p.2) (storedH xs x.1 x.2.1 x.2.2) := by rw [← q.1]; exact h2
    exact kt_putAll (kvs := putK kvs p.1 p.2) (xs := storedH xs x.1 x.2.1 x.2.2) h3 t
section
variable {X : Cx}
theorem mt_dupdT (hu : X.A.units + 1 < cLine) : MtR X "dict.update" (fun x xs H Q => ∃ a b kvs more, x = .ref a ∧ xs = [.ref b] ∧ a ≠ b ∧ H a = some (.dT kvs) ∧ H b = some (.dT more) ∧ (kvs ≠ [] ∨ more = []) ∧ kvs.length + more.length ≤ sizeLine ∧ Q .non (upd H a (.dT (putAllK kvs more)))) := by
  intro pns s σ H x xs v us Q J rx rxs ⟨a, b, kvs, more, e1, e2, hab, ha, hb, hne, hsz, q⟩
  subst e1 e2
  cases (show v = Value.ref a from rx)
  obtain ⟨u, rfl, ru⟩ := vals1 rxs
  cases (show u = Value.ref b from ru)
  obtain ⟨l1, n1, ys, r1, d1⟩ := L2.dt_of J.hok ha
  obtain ⟨l2, n2, zs, r2, d2⟩ := L2.dt_of J.hok hb
  have hy : ys.length = kvs.length := (Paired.length r1).symm
  have hz : zs.length = more.length := (Paired.length r2).symm
  refine call_update_dictH (tupleKind_room_in1 hu) hab n2 d1 d2 ?_ (by omega) fun h' dd' _ same => ?_
  · rcases hne with h | h
    · exact .inl fun z => h (List.eq_nil_of_length_eq_zero (by rw [← hy, z]; rfl))
    · subst h
      have : zs = [] := List.eq_nil_of_length_eq_zero hz
      subst this
      exact .inr ⟨fun x m => absurd m (by simp), List.nodup_nil⟩
  · obtain ⟨ob, es, ep, c1, c2, c3, c4, _, c5⟩ := dd'
    have keep := (kt_putAll r1 r2).keeps (H' := upd H a (.dT (putAllK kvs more))) fun c ws hc => by
      rw [upd_ne (ne_of hc ha (fun x => nomatch x))]; exact hc
    have fin : Inv X pns σ (upd H a (.dT (putAllK kvs more))) { s with heap := h', toks := s.toks } := d_write J (by rw [ha]; exact True.intro) same ⟨ob, c1⟩ ⟨Nat.le_trans (putAllK_length _ _) hsz, n1, _, keep, ob, es, ep, c1, c2, c3, c4, c5⟩
    exact ⟨.non, _, fin, rfl, q⟩
/-- dict(xs), xs a list of pairs (tuple, value) -/
theorem call_dictPT (hcalm : X.calm = true) (hu : X.A.units + 2 < cLine) : CallR X (.type "dict") (fun xs H Q => ∃ (a : Addr) (ps : List Addr) (bs : List Addr) (kvs : List (List Key × V)), xs = [.ref a] ∧ SqL X.K H a (ps.map V.ref) ∧ ps.length = kvs.length ∧ bs.length = kvs.length ∧
    (∀ (j : Nat) (kv : List Key × V) (p b : Addr), kvs[j]? = some kv → ps[j]? = some p → bs[j]? = some b → H p = some (.tup [.ref b, kv.2]) ∧ H b = some (.tup (kv.1.map kV))) ∧ ∀ p, H p = none → Q (.ref p) (upd H p (.dT (putAllK [] kvs)))) := by
  intro pns s σ H xs us Q J r ⟨a, ps, bs, kvs, ex, hq, l1, l2, hp, q⟩
  subst ex
  rw [Vals.ref1 r]
  obtain ⟨its, rv, pl, hz⟩ := J.list hq
  have ei := refs_at rv
  subst ei
  rw [List.length_map] at hz
  obtain ⟨o, n, ho, hc, hd, hdat⟩ := pl
  -- the values of the pairs
  have ex : ∃ vs : List Value, vs.length = kvs.length ∧ ∀ (j : Nat) (kv : List Key × V) (p b : Addr) (v : Value), kvs[j]? = some kv → ps[j]? = some p → bs[j]? = some b → vs[j]? = some v → IsTup s.heap p #[.ref b, v] ∧ L2.RelV kv.2 v := by
    have one : ∀ j : Nat, j < kvs.length → ∃ v : Value, ∀ (kv : List Key × V) (p b : Addr), kvs[j]? = some kv → ps[j]? = some p → bs[j]? = some b → IsTup s.heap p #[.ref b, v] ∧ L2.RelV kv.2 v := fun j hj => by
      have e1 : ps[j]? = some (ps[j]'(by omega)) := List.getElem?_eq_getElem _
      have e2 : bs[j]? = some (bs[j]'(by omega)) := List.getElem?_eq_getElem _
      have e3 : kvs[j]? = some kvs[j] := List.getElem?_eq_getElem hj
      obtain ⟨q1, q2⟩ := hp j _ _ _ e3 e1 e2
      obtain ⟨_, its2, r2, t2⟩ := J.hok _ _ q1
      obtain ⟨u1, u2, rfl, ru1, ru2⟩ := vals2 r2
      cases (show u1 = Value.ref _ from ru1)
      refine ⟨u2, fun kv p b f1 f2 f3 => ?_⟩
      rw [e3] at f1; rw [e1] at f2; rw [e2] at f3
      cases f1; cases f2; cases f3
      exact ⟨t2, ru2⟩
    refine ⟨(List.range kvs.length).map fun j => if h : j < kvs.length then Classical.choose (one j h) else .none, by simp, fun j kv p b v f1 f2 f3 f4 => ?_⟩
    have hj : j < kvs.length := lt_of_get f1
    rw [List.getElem?_map, List.getElem?_range hj] at f4
    simp only [Option.map_some, dif_pos hj, Option.some.injEq] at f4
    rw [← f4]
    exact Classical.choose_spec (one j hj) kv p b f1 f2 f3
  obtain ⟨vs, lv, hv⟩ := ex
  have get3 : ∀ j : Nat, j < kvs.length → ∃ kv p b v, kvs[j]? = some kv ∧ ps[j]? = some p ∧ bs[j]? = some b ∧ vs[j]? = some v := fun j hj =>
    ⟨_, _, _, _, List.getElem?_eq_getElem hj, List.getElem?_eq_getElem (by omega), List.getElem?_eq_getElem (by omega), List.getElem?_eq_getElem (by omega)⟩
  have zlen : (bs.zipWith (fun b v => (Value.ref b, v)) vs).length = kvs.length := by rw [List.length_zipWith, l2, lv, Nat.min_self]
  have zget : ∀ (j : Nat) (k v : Value), (bs.zipWith (fun b v => (Value.ref b, v)) vs)[j]? = some (k, v) → ∃ b, bs[j]? = some b ∧ k = .ref b ∧ vs[j]? = some v := fun j k v h => by
    rw [List.getElem?_zipWith] at h
    cases e1 : bs[j]? with
    | none => rw [e1] at h; simp at h
    | some b => cases e2 : vs[j]? with
      | none => rw [e1, e2] at h; simp at h
      | some v2 => rw [e1, e2] at h; simp at h; exact ⟨b, rfl, h.1.symm, by rw [h.2]⟩
  -- the keys as the library stores them
  have hxs : ∃ xs : List (List Key × Addr × Value), KT H kvs xs ∧ ∀ (j : Nat) (b : Addr) (v : Value), bs[j]? = some b → vs[j]? = some v → ∃ k, xs[j]? = some (k, b, v) := by
    clear q hq rv hz hdat zget zlen get3 r
    induction kvs generalizing ps bs vs with
    | nil =>
      refine ⟨[], .nil, fun j b v h _ => ?_⟩
      have : bs = [] := List.eq_nil_of_length_eq_zero l2
      rw [this] at h; simp at h
    | cons kv kvs ih =>
      match ps, bs, vs, l1, l2, lv with
      | p :: ps, b :: bs, v :: vs, l1, l2, lv =>
        obtain ⟨xs, h1, h2⟩ := ih ps bs (by simpa using l1) (by simpa using l2) (fun j kv' p' b' f1 f2 f3 => hp (j + 1) kv' p' b' (by simpa using f1) (by simpa using f2) (by simpa using f3)) vs (by simpa using lv)
          (fun j kv' p' b' v' f1 f2 f3 f4 => hv (j + 1) kv' p' b' v' (by simpa using f1) (by simpa using f2) (by simpa using f3) (by simpa using f4))
        refine ⟨(kv.1, b, v) :: xs, .cons ⟨rfl, (hp 0 kv p b rfl rfl rfl).2, (hv 0 kv p b v rfl rfl rfl rfl).2⟩ h1, fun j b' v' f1 f2 => ?_⟩
        cases j with
        | zero => simp at f1 f2; subst f1 f2; exact ⟨kv.1, rfl⟩
        | succ j => obtain ⟨k, hk⟩ := h2 j b' v' (by simpa using f1) (by simpa using f2); exact ⟨k, by simpa using hk⟩
  obtain ⟨xs, hkt, hxg⟩ := hxs
  have hxl : xs.length = kvs.length := (Paired.length hkt).symm
  have isk : ∀ x ∈ xs, H x.2.1 = some (.tup (x.1.map kV)) := by
    have all : ∀ {l : List (List Key × V)} {m : List (List Key × Addr × Value)}, KT H l m → ∀ x ∈ m, H x.2.1 = some (.tup (x.1.map kV)) := by
      intro l m h
      induction h with
      | nil => intro x m; exact absurd m (by simp)
      | cons z t ih =>
        intro x m
        rcases List.mem_cons.mp m with e | m
        · subst e; rw [← z.1]; exact z.2.1
        · exact ih x m
    exact all hkt
  refine call_dict_pairsH (knd := tupleKind (mixKind X.prog X.w)) (ps := xs) (PairArg.list a (ps.map Value.ref).toArray (fun j => ps.getD j 0) (bs.zipWith (fun b v => (Value.ref b, v)) vs)) (J.ok.hd hcalm) ?_ ⟨⟨o, n, ho, hc, hd, hdat⟩, ?_, fun j k v hj => ?_⟩ ⟨?_, fun i k v hr => ?_⟩ ?_ ?_ fun h' tk dd keep => ?_
  · show X.A.in1.in1.units < cLine
    simp; omega
  · rw [zlen]; simp [l1]
  · obtain ⟨b, e1, e2, e3⟩ := zget j k v hj
    have hj2 : j < kvs.length := by have := lt_of_get e1; omega
    obtain ⟨kv, p, b', v', f1, f2, f3, f4⟩ := get3 j hj2
    rw [e1] at f3; rw [e3] at f4
    cases f3; cases f4
    subst e2
    refine ⟨by simp [f2, List.getD_eq_getElem?_getD], .inl ?_⟩
    have : ps.getD j 0 = p := by rw [List.getD_eq_getElem?_getD, f2]; rfl
    show s.heap.IsTuple (ps.getD j 0) #[Value.ref b, v]
    rw [this]
    exact (hv j kv p b v f1 f2 e1 e3).1
  · rw [zlen]; exact hxl
  · obtain ⟨b, e1, e2, e3⟩ := zget i k v hr
    obtain ⟨kk, hk⟩ := hxg i b v e1 e3
    exact ⟨kk, b, hk, e2⟩
  · intro h' hkeep x hx
    have old := key_of J.hok (isk x hx)
    obtain ⟨o2, its2, n2, g1, g2, g3, g4⟩ := old
    have : x.2.1 ≠ s.heap.objs.size := Nat.ne_of_lt (Heap.lt_size g1)
    exact ⟨o2, its2, n2, hkeep _ _ this (by simp) g1, g2, g3, g4⟩
  · rw [zlen]; omega
  · have low : (s.heap.objs.size == sysModules) = false := beq_eq_false_iff_ne.mpr (Nat.ne_of_gt J.big)
    obtain ⟨ob, es, ep, c1, c2, c3, c4, _, c5⟩ := dd
    have kt := kt_putAll (kvs := []) (xs := []) (H := H) .nil hkt
    have keep2 := kt.keeps (H' := upd H s.heap.objs.size (.dT (putAllK [] kvs))) fun c ws hc => by
      rw [upd_ne (ne_of_none hc (J.hok.fresh (Nat.le_refl _)))]; exact hc
    have len : (putAllK [] kvs).length ≤ sizeLine := by
      have := putAllK_length kvs []
      rw [List.length_nil, Nat.zero_add] at this
      omega
    exact ⟨.ref s.heap.objs.size, _, J.laid (t' := tk) (fun b o e => keep b o (by simp) e) (Nat.le_refl _) (show ObjOk X.prog X.w _ _ _ (.dT (putAllK [] kvs)) from ⟨len, low, _, keep2, ob, es, ep, c1, c2, c3, c4, c5⟩), rfl, q _ (J.hok.fresh (Nat.le_refl _))⟩
end
end EC
end
/-! ## E2 -/
section
set_option Elab.async false
set_option linter.all false
set_option maxRecDepth 100000
set_option maxHeartbeats 2000000
/-! E2: a new dict by tuples that is changed and given back. -/
namespace EC
open PySem PySem.Spec PyProof.Rows L2
theorem EnvG.same {g : G} {σ σ' : L2.St} {H : Hp} (E : EnvG g σ H) (hl : σ'.length = σ.length) (h : ∀ (j : Nat) (x : Sl), g.ρ[j]? = some x → x ≠ .no → σ'[j]? = σ[j]?) : EnvG g σ' H := by
  refine ⟨E.r, fun j d q => ?_, fun j xs q => ?_, fun i j xs ys l hij q1 q2 q3 q4 => ?_, fun j q => ?_, hl.trans E.len⟩
  · rw [h j _ q (fun z => nomatch z)]; exact E.dat j d q
  · rw [h j _ q (fun z => nomatch z)]; exact E.own j xs q
  · rw [h i _ q1 (fun z => nomatch z)] at q3
    rw [h j _ q2 (fun z => nomatch z)] at q4
    exact E.dis i j xs ys l hij q1 q2 q3 q4
  · rw [h j _ q (fun z => nomatch z)]; exact E.dk j q
/-- a slot is stored that nothing is known of -/
theorem EnvG.setN {g : G} {σ : L2.St} {H : Hp} (E : EnvG g σ H) (i : Nat) (x : Option V) : EnvG (g.to (g.ρ.set i .no)) (σ.set i x) H := by
  have E2 := E.wipe [i]
  have e : wipeR g.ρ [i] = g.ρ.set i .no := rfl
  rw [e] at E2
  refine E2.same (by rw [List.length_set, L2.wipe_length]) fun j y hy hn => ?_
  have hj : i ≠ j := fun z => by
    subst z
    have hy : (g.ρ.set i .no)[i]? = some y := hy
    have hl : i < g.ρ.length := by have := lt_of_get hy; simpa using this
    rw [List.getElem?_set_self hl] at hy
    cases hy; exact hn rfl
  show (σ.set i x)[j]? = (σ.set i none)[j]?
  rw [List.getElem?_set_ne hj, List.getElem?_set_ne hj]
def tFT (f : Rho → M (List (List Key × D))) : TE := fun σ H Q => ∃ (g : G) (P : List (List Key × D) → Prop), EnvG g σ H ∧ f g.ρ P ∧ ∀ l, P l → ∀ p kvs B' H', Grow g.W g.B H B' H' → H p = none → B' p = none → H' p = some (.dT kvs) → RepP B' l kvs → Q (.ref p) H'
def dcTF (vs : List Nat) (it : Rho → M (List D)) (t : D → Rho → M Rho) (c : Rho → M Bool) (kf vf : Rho → M D) : Rho → M (List (List Key × D)) := fun ρ => bnd (it ρ) fun ds => chk (ds.length ≤ 1000000) (dcL D.tkey t c kf vf ds (wipeR ρ vs) [])
section
variable {X : Cx} {kf vf : Rho → M D} {it : Rho → M (List D)} {tc : Rho → M Bool} {t : D → Rho → M Rho} {vs ws : List Nat}
theorem dcTF_ok (hv : ∀ i ∈ ws, i ∈ vs) {σ : L2.St} {H : Hp} {Q : VK} (q : tFT (dcTF vs it t tc kf vf) σ H Q) : tDcT (tJ it) (tGd t ws) (tT tc) (tD kf) (tD vf) vs σ H Q := by
  obtain ⟨g, P, E, hf, k⟩ := q
  refine ⟨g, _, E, hf, fun ds pds J B1 H1 w wk => fun D hD => ?_⟩
  obtain ⟨hlen, pds⟩ := pds
  have h0D : H D = none := w.pn hD
  have ndD : ND g.W D := w.wk.nd hD
  have g0D : g.H0 D = none := E.r.pn h0D
  have ownD : ∀ (j : Nat) (ys : List EC.D) (l : Addr), (wipeR g.ρ vs)[j]? = some (.o ys) → (L2.wipe σ vs)[j]? = some (some (.ref l)) → l ≠ D := fun j ys l h1 h2 z => by
    obtain ⟨l', ls, q1, q2, q3, q4, q5, q6⟩ := (E.wipe vs).own j ys h1
    rw [q1] at h2; cases h2
    rw [z, h0D] at q5; cases q5
  refine ⟨fun i m H' => m = ds.length - i ∧ i ≤ ds.length ∧ ∃ (B' : Hp) (acc : List (List Key × EC.D)) (ls : List (List Key × V)), Sub B1 B' ∧ Grow g.W g.B H B' H' ∧ EnvG (g.go B' (wipeR g.ρ vs)) (L2.wipe σ vs) H' ∧ B' D = none ∧ H' D = some (.dT ls) ∧ RepP B' acc ls ∧ acc.length ≤ i ∧
    dcL EC.D.tkey t tc kf vf (ds.drop i) (wipeR g.ρ vs) acc P, ⟨ds.length, rfl, Nat.zero_le _, B1, [], [], Sub.rfl', ?_, ?_, w.bh.none hD, upd_same, rfl, Nat.zero_le _, pds⟩, ?_⟩
  · exact w.trans (Grow.new0 w.bh w.wk hD)
  · exact ((E.wipe vs).grow w).wr g0D (w.bh.none hD) ndD ownD
  rintro i m H' ⟨rfl, hi, B', acc, ls, sb, wg, E', hbD, hHD, racc, hacc, hp⟩
  obtain ⟨go, stop⟩ := wk i B' H' sb wg
  by_cases hlt : i < ds.length
  · refine .inr ?_
    have hd : ds[i]? = some ds[i] := List.getElem?_eq_getElem hlt
    obtain ⟨hgo, hy⟩ := go _ hd
    have ed : ds.drop i = ds[i] :: ds.drop (i + 1) := List.drop_eq_getElem_cons hlt
    rw [ed] at hp
    refine ⟨hgo, fun H' => ∃ (B' : Hp) (acc : List (List Key × EC.D)) (ls : List (List Key × V)), Sub B1 B' ∧ Grow g.W g.B H B' H' ∧ EnvG (g.go B' (wipeR g.ρ vs)) (L2.wipe σ vs) H' ∧ B' D = none ∧ H' D = some (.dT ls) ∧ RepP B' acc ls ∧ acc.length ≤ i + 1 ∧
      dcL EC.D.tkey t tc kf vf (ds.drop (i + 1)) (wipeR g.ρ vs) acc P, fun H2 h2 => ⟨_, by omega, rfl, hlt, h2⟩, fun x H2 y => ?_⟩
    obtain ⟨B2, w2, rx⟩ := hy x H2 y
    have E2 := E'.grow w2
    have hb2 : B2 D = none := w2.nw D hbD (by rw [hHD]; simp)
    have hh2 := w2.hh _ _ ndD hHD
    refine ⟨_, _, _, E2, rx, hp, fun ρ3 p3 σ3 E3 o3 => ⟨?_, _, _, E3, p3, fun b pb B4 H4 w4 => ?_⟩⟩
    · rw [(o3.more hv).1.wipe, wipe_wipe]
    have hb4 : B4 D = none := w4.nw D hb2 (by rw [hh2]; simp)
    have hh4 := w4.hh _ _ ndD hh2
    have sb4 := (sb.tr w2.bb).tr w4.bb
    have wg4 := (wg.trans w2).trans w4
    have racc4 := (racc.mono w2.bb).mono w4.bb
    cases b with
    | true =>
      refine iteT ⟨_, _, E3.grow w4, pb, fun kd pk y B5 H5 w5 r5 => ⟨_, _, (E3.grow w4).grow w5, pk, fun vd pv z B6 H6 w6 r6 => ?_⟩⟩
      have hb5 : B5 D = none := w5.nw D hb4 (by rw [hh4]; simp)
      have hh5 := w5.hh _ _ ndD hh4
      have hb6 : B6 D = none := w6.nw D hb5 (by rw [hh5]; simp)
      have hh6 := w6.hh _ _ ndD hh5
      cases hk : EC.D.tkey kd with
      | none =>
        simp only [hk] at pv; exact pv.elim
      | some kk =>
        simp only [hk] at pv
        have wg6 := (wg4.trans w5).trans w6
        obtain ⟨b, eb, q5⟩ := tkey_rep hk r5
        refine ⟨ls, kk, b, eb, w6.bh _ _ (w6.bb _ _ q5), hh6, by rw [racc.length]; exact mil_lt (by omega), B6, putP acc kk vd, putK ls kk z, (sb4.tr w5.bb).tr w6.bb, wg6.wr h0D hb6 ndD, ?_, hb6, upd_same, ((racc4.mono w5.bb).mono w6.bb).put kk r6, Nat.le_trans (putP_length _ _ _) (Nat.add_le_add_right hacc 1), pv⟩
        exact (((E2.grow w4).grow w5).grow w6).wr g0D hb6 ndD ownD
    | false => exact iteF ⟨B4, acc, ls, sb4, wg4, E2.grow w4, hb4, hh4, racc4, Nat.le_succ_of_le hacc, pb⟩
  · have e : i = ds.length := by omega
    subst e
    rw [List.drop_length] at hp
    have hp : P acc := hp
    refine .inl ⟨stop (Nat.le_refl _), ?_⟩
    exact k _ hp D ls B' H' wg h0D hbD hHD racc
theorem f_dcT {kx vx tg iter : Expr} {ifs : List Expr} {scope : Scope} {own : List (Str × Nat)} {ov : List Nat} {pos : Pos} (hu : X.A.units + 1 < cLine) (hc : X.calm = true) (hN : X.N.Nodup) (hi : PI X tg iter (tJ it)) (ok : BlkOk X.N X.env.scope scope own)
    (hg : ∀ (s : Shared) (H : Hp) (C : Addr) (cl : List (Str × Addr)) (fp : List Addr), PG (X.blk s H scope (compEnvC scope cl C X.env) fp) tg (tGd t ws)) (ht : ∀ (s : Shared) (H : Hp) (C : Addr) (cl : List (Str × Addr)) (fp : List Addr), PTs (X.blk s H scope (compEnvC scope cl C X.env) fp) ifs (tT tc))
    (hk : ∀ (s : Shared) (H : Hp) (C : Addr) (cl : List (Str × Addr)) (fp : List Addr), PE (X.blk s H scope (compEnvC scope cl C X.env) fp) kx (tD kf)) (he : ∀ (s : Shared) (H : Hp) (C : Addr) (cl : List (Str × Addr)) (fp : List Addr), PE (X.blk s H scope (compEnvC scope cl C X.env) fp) vx (tD vf))
    (hv : ∀ i ∈ ws, i ∈ ov) (ho : own.map (·.2) = ov := by rfl) (hs : ∀ x, foldedSetIterable iter X.env x = pure x := by intro _; rfl) : PE X (.DictComp kx vx [⟨tg, iter, ifs, 0⟩] scope pos) (tFT (dcTF ov it t tc kf vf)) := by
  subst ho
  exact pe_imp (d_dcT0 hu hc hN hi ok hg ht hk he hs) fun σ H Q q => dcTF_ok hv q
theorem a_dcTF {i : Nat} {y : Str} {py spos : Pos} {kx vx tg iter : Expr} {ifs : List Expr} {scope : Scope} {own : List (Str × Nat)} {ov : List Nat} {pos : Pos} (hu : X.A.units + 1 < cLine) (hc : X.calm = true) (hN : X.N.Nodup) (hy : X.N[i]? = some y) (hyl : X.env.scope.names.lookup y = some .local)
    (hsw : swapsWith (.DictComp kx vx [⟨tg, iter, ifs, 0⟩] scope pos) (some (.Name y py)) spos.line X.env = pure true) (hi : PI X tg iter (tJ it)) (ok : BlkOk X.N X.env.scope scope own)
    (hg : ∀ (s : Shared) (H : Hp) (C : Addr) (cl : List (Str × Addr)) (fp : List Addr), PG (X.blk s H scope (compEnvC scope cl C X.env) fp) tg (tGd t ws)) (ht : ∀ (s : Shared) (H : Hp) (C : Addr) (cl : List (Str × Addr)) (fp : List Addr), PTs (X.blk s H scope (compEnvC scope cl C X.env) fp) ifs (tT tc))
    (hk : ∀ (s : Shared) (H : Hp) (C : Addr) (cl : List (Str × Addr)) (fp : List Addr), PE (X.blk s H scope (compEnvC scope cl C X.env) fp) kx (tD kf)) (he : ∀ (s : Shared) (H : Hp) (C : Addr) (cl : List (Str × Addr)) (fp : List Addr), PE (X.blk s H scope (compEnvC scope cl C X.env) fp) vx (tD vf))
    (hv : ∀ i ∈ ws, i ∈ ov) (ho : own.map (·.2) = ov := by rfl) (hs : ∀ x, foldedSetIterable iter X.env x = pure x := by intro _; rfl) : PS X (.Assign [.Name y py] (.DictComp kx vx [⟨tg, iter, ifs, 0⟩] scope pos) spos) (tAsg (tFT (dcTF ov it t tc kf vf)) (gName i)) := by
  subst ho
  exact ps_imp (ps_setDcT hu hc hN hy hyl hsw hi ok hg ht hk he hs) fun Dn σ H q => dcTF_ok hv q
end
/-- found = {..}; found.update({..}); return found -/
def clS (i : Nat) (f1 f2 : Rho → M (List (List Key × D))) : Rho → M Res := fun ρ => chk (i < ρ.length) (bnd (f1 ρ) fun l1 => bnd (f2 (ρ.set i .no)) fun l2 => chk ((l1 ≠ [] ∨ l2 = []) ∧ l1.length + l2.length ≤ 1000000) (ret (.rt (dtOf (putAllP l1 l2)))))
theorem s_clash {X : Cx} {st1 st2 st3 : Stmt} {i : Nat} {f1 f2 : Rho → M (List (List Key × D))} (h1 : PS X st1 (tAsg (tFT f1) (gName i)))
    (h2 : PS X st2 (tDrop (tBM X.K "dict" (fun x xs H Q => ∃ a b kvs more, x = .ref a ∧ xs = [.ref b] ∧ a ≠ b ∧ H a = some (.dT kvs) ∧ H b = some (.dT more) ∧ (kvs ≠ [] ∨ more = []) ∧ kvs.length + more.length ≤ sizeLine ∧ Q .non (upd H a (.dT (putAllK kvs more)))) (tVar i) (tCons (tFT f2) tNil))))
    (h3 : PS X st3 (tRet (tVar i))) : PSs X [st1, st2, st3] (tS (clS i f1 f2)) :=
  pss_imp (pss_cons h1 (pss_cons h2 (pss_one h3))) fun Dn σ H ⟨g, P, E, hf, k⟩ => by
    obtain ⟨hil, hf⟩ := hf
    refine ⟨g, _, E, hf, fun l1 p1 a kvs B1 H1 w1 h0 hb1 hh1 r1 => ?_⟩
    have E1 := (E.grow w1).setN i (some (.ref a))
    have nd : ND g.W a := E.wok.nd h0
    · have get : (σ.set i (some (V.ref a)))[i]? = some (some (.ref a)) := List.getElem?_set_self (by rw [E.len]; exact hil)
      refine ⟨.ref a, get, .inr (.inr (.inl ⟨rfl, .inr ⟨kvs, hh1⟩⟩)), _, _, E1, p1, fun l2 p2 b more B2 H2 w2 h02 hb2 hh2 r2 => ?_⟩
      obtain ⟨⟨hne, hsz⟩, pr⟩ := p2
      have ha2 := w2.hh _ _ nd hh1
      have hb2a : B2 a = none := w2.nw a hb1 (by rw [hh1]; simp)
      have r1' := r1.mono w2.bb
      have hne2 : kvs ≠ [] ∨ more = [] := by
        rcases hne with h | h
        · exact .inl fun z => h (by rw [z] at r1; exact List.eq_nil_of_length_eq_zero (by rw [← r1.length]; rfl))
        · exact .inr (by rw [h] at r2; exact r2)
      have hab : a ≠ b := fun z => by
        rw [← z, hh1] at h02; cases h02
      have fin : Dn.rt (.ref a) (upd H2 a (.dT (putAllK kvs more))) := by
        have w := (E.r.trans (w1.trans w2)).wr (o := .dT (putAllK kvs more)) (E.r.pn h0) hb2a nd
        have w' := w.own (E.r.pn h0) hb2a upd_same nd
        obtain ⟨z1, z2⟩ := (r1'.putAll r2).vals
        have sb : Sub B2 (upd B2 a (.dT (putAllK kvs more))) := fun c u q => by rw [upd_ne (ne_of_none q hb2a)]; exact q
        exact k.rt _ pr _ _ _ w' ⟨a, _, rfl, by rw [upd_same, ← z1], by rw [List.length_map, List.length_map], z2.mono sb⟩
      exact ⟨a, b, kvs, more, rfl, rfl, hab, ha2, hh2, hne2, by rw [r1.length, r2.length]; exact mil_line hsz, .ref a, get, fin⟩
end EC
end
/-! ## E3 -/
section
set_option Elab.async false
set_option linter.all false
set_option maxRecDepth 100000
set_option maxHeartbeats 2000000
/-! E3: the keys of a dict that nobody changes, walked; such a dict. -/
namespace EC
open PySem PySem.Spec PyProof.Rows L2
def itK (f : Rho → M D) : Rho → M (List D) := fun ρ => bnd (f ρ) fun
  | .fk ks _ => ret (ks.map keyD)
  | _ => die
theorem i_keys {X : Cx} {tg e : Expr} {f : Rho → M D} (h : PE X e (tD f)) : PI X tg e (tI (itK f)) :=
  pi_imp (pi_keys h) fun σ H R ⟨g, P, E, hf, k⟩ => ⟨g, _, E, hf, fun d pd v B1 H1 w r => by
    cases d with
    | fk ks ds =>
      obtain ⟨a, vs, od, e1, hB, hl, rr⟩ := r
      have zl : (ks.zip vs).length = ks.length := by rw [List.length_zip, rr.length, hl, Nat.min_self]
      refine ⟨a, od, e1, .inl ⟨_, w.bh _ _ hB, k _ pd _ B1 H1 w fun i B H sb s wk => ?_⟩⟩
      have hh := s _ _ (sb _ _ hB)
      refine ⟨fun d hd => ?_, fun hle => ⟨hh, by rw [zl]; rw [List.length_map] at hle; exact hle⟩⟩
      have hi : i < ks.length := by have := lt_of_get hd; simpa using this
      rw [List.getElem?_map] at hd
      refine ⟨⟨hh, by rw [zl]; exact hi⟩, fun x H2 ⟨eH, kk, v2, hk, ex⟩ => ⟨B, by rw [eH]; exact Grow.refl s wk, ?_⟩⟩
      have e2 : ks[i]? = some kk := by
        have z := congrArg (fun o => o.map (fun p : Key × V => p.1)) hk
        simp only [Option.map_some] at z
        rw [← List.getElem?_map, zip_fst (by rw [hl, rr.length])] at z
        exact z
      rw [e2] at hd
      cases hd
      rw [ex]
      exact keyD_rep B kk
    | _ => exact pd.elim⟩
/-- things are locked for good -/
theorem pe_frz {X : Cx} {e : Expr} {t : TE} (h : PE X e t) : PE X e (fun σ H Q => t σ H fun v H1 => ∃ d u, H1 d = some u ∧ Mut (some u) ∧ ∀ od, Q v (upd H1 d (.frz od u))) := ⟨fun pns s σ H Q J q => by
  refine thn (h.run pns s σ H _ J q) fun v s1 ⟨x, H1, J1, r, d, u, hd, mu, q1⟩ => ?_
  obtain ⟨od, J2⟩ := J1.lock hd mu
  exact ⟨x, _, J2, r, q1 od⟩⟩
end EC
end
/-! ## E4 -/
section
set_option Elab.async false
set_option linter.all false
set_option maxRecDepth 100000
set_option maxHeartbeats 4000000
/-! E4: the deck: a draw. -/
namespace EC
open PySem PySem.Spec PyProof.Rows L2
/-! ### readings that give an int and leave all -/
def PureI (t : TE) (σ : L2.St) (H : Hp) (z : Int) : Prop := ∀ Q : VK, Q (.int z) H → t σ H Q
section
variable {σ : L2.St} {H : Hp} {a b : TE} {x y : Int}
theorem pC {z : Int} : PureI (tC (.int z)) σ H z := fun _ q => q
theorem pV {i : Nat} {z : Int} (h : σ[i]? = some (some (.int z))) : PureI (tVar i) σ H z := fun _ q => ⟨_, h, q⟩
theorem pOp {C : Int → Int → Prop} {f : Int → Int → Int} (ha : PureI a σ H x) (hb : PureI b σ H y) (hc : C x y) : PureI (tOp (rI C fun i j => .int (f i j)) a b) σ H (f x y) := fun _ q => ha _ (hb _ ⟨x, y, rfl, rfl, hc, q⟩)
theorem pOp0 {f : Int → Int → Int} (ha : PureI a σ H x) (hb : PureI b σ H y) : PureI (tOp (rI0 fun i j => .int (f i j)) a b) σ H (f x y) := fun _ q => ha _ (hb _ ⟨x, y, rfl, rfl, q⟩)
theorem pInt (ha : PureI a σ H x) : PureI (tCB (fun xs H Q => (∃ i, xs = [.int i] ∧ Q (.int i) H) ∨ ∃ k, xs = [.bl k] ∧ Q (.int (if k then 1 else 0)) H) (tCons a tNil)) σ H x := fun _ q => ha _ (.inl ⟨x, rfl, q⟩)
theorem pMax (ha : PureI a σ H x) (hb : PureI b σ H y) : PureI (tCB (fun xs H Q => ∃ i j, xs = [.int i, .int j] ∧ Q (.int (if j > i then j else i)) H) (tCons a (tCons b tNil))) σ H (if y > x then y else x) := fun _ q => ha _ (hb _ ⟨x, y, rfl, q⟩)
theorem pDG {i : Nat} {d : Addr} {k : Key} {kvs : List (Key × V)} {z : Int} (h : σ[i]? = some (some (.ref d))) (hd : H d = some (.dK kvs)) (hv : valV kvs k = some (.int z)) : PureI (tDGet (tVar i) (tC (kV k))) σ H z := fun _ q => ⟨_, h, d, .int z, rfl, by rw [← hv]; exact .inl ⟨kvs, k, .inl hd, rfl, rfl⟩, q⟩
end
/-- the deck's dict -/
def deckK (l : Addr) (mixed turn : Int) : List (Key × V) := [(.inr "cells", .ref l), (.inr "mixed", .int mixed), (.inr "turn", .int turn)]
theorem deck_put (l : Addr) (mixed turn t : Int) : putK (deckK l mixed turn) (.inr "turn") (.int t) = deckK l mixed t := by rfl
theorem deck_turn (l : Addr) (mixed turn : Int) : valV (deckK l mixed turn) (.inr "turn") = some (.int turn) := by rfl
theorem deck_mixed (l : Addr) (mixed turn : Int) : valV (deckK l mixed turn) (.inr "mixed") = some (.int mixed) := by rfl
theorem deck_cells (l : Addr) (mixed turn : Int) : valV (deckK l mixed turn) (.inr "cells") = some (.ref l) := by rfl
end EC
end
/-! ## W1 -/
section

set_option Elab.async false
set_option linter.all false
set_option maxRecDepth 100000
set_option maxHeartbeats 4000000
namespace EC
open PySem PySem.Spec PyProof.Rows L2
section
variable {P : Program} {w : World} {K : PySem.W.Frag} {mg : Str → Option Value} {base : Heap}
theorem sc_is_integer : FnScope ["thing"] ["thing"] (defScope st_is_integer) := ⟨rfl, rfl, rfl, by decide +kernel, rfl, by decide +kernel, by decide +kernel⟩
def F_is_integer : List Sl → M D := fnS 1 (retS (andE (isS "int" (var 0)) (notE (isS "bool" (var 0)))))
theorem ok_is_integer (T : Txt K mg) : DefOk P w K mg base "is_integer" 1 1 F_is_integer := by
  obtain ⟨fdd, F⟩ := T.says.def_ 0 (d := df_is_integer) rfl
  refine ⟨⟨fdd, ["thing"], fn_ok (N := ["thing"]) F sc_is_integer (fun cdv A outer s' H E hr => ?_), FunD.bindsN F fun _ _ _ _ _ _ us hl => match us, hl with | [_], _ => rfl⟩, T.glo 0 rfl, F.kp⟩
  exact (s_one (s_ret (d_and (d_isi (T := "int") (sw (dv (pv 0))) (by rfl) (T.free 66 rfl) (by rfl) (T.free 67 rfl) bt_int) (d_one (d_not (d_isi (T := "bool") (sw (dv (pv 0))) (by rfl) (T.free 66 rfl) (by rfl) (T.free 69 rfl) bt_bool))))))
theorem sc_is_between : FnScope ["thing", "least", "most"] ["thing", "least", "most"] (defScope st_is_between) := ⟨rfl, rfl, rfl, by decide +kernel, rfl, by decide +kernel, by decide +kernel⟩
def F_is_between : List Sl → M D := fnS 3 (retS (andE (call 1 F_is_integer (consA (var 0) nilL)) (chainE leS leS (var 1) (var 0) (var 2))))
theorem ok_is_between (T : Txt K mg) : DefOk P w K mg base "is_between" 2 3 F_is_between := by
  obtain ⟨fdd, F⟩ := T.says.def_ 1 (d := df_is_between) rfl
  refine ⟨⟨fdd, ["thing", "least", "most"], fn_ok (N := ["thing", "least", "most"]) F sc_is_between (fun cdv A outer s' H E hr => ?_), FunD.bindsN F fun _ _ _ _ _ _ us hl => match us, hl with | [_, _, _], _ => rfl⟩, T.glo 1 rfl, F.kp⟩
  exact (s_one (s_ret (d_and (d_callD (ok_is_integer T) hr (by decide) (by rfl) (aas_cons (dv (pv 0)) aas_nil)) (d_one (d_chain o_le o_le (sw (dv (pv 1))) (sw (dv (pv 0))) (sw (dv (pv 2))))))))
theorem sc_is_count : FnScope ["thing"] ["thing"] (defScope st_is_count) := ⟨rfl, rfl, rfl, by decide +kernel, rfl, by decide +kernel, by decide +kernel⟩
def F_is_count : List Sl → M D := fnS 1 (retS (andE (call 1 F_is_integer (consA (var 0) nilL)) (op2 geS (var 0) (con (.int 0)))))
theorem ok_is_count (T : Txt K mg) : DefOk P w K mg base "is_count" 2 1 F_is_count := by
  obtain ⟨fdd, F⟩ := T.says.def_ 2 (d := df_is_count) rfl
  refine ⟨⟨fdd, ["thing"], fn_ok (N := ["thing"]) F sc_is_count (fun cdv A outer s' H E hr => ?_), FunD.bindsN F fun _ _ _ _ _ _ us hl => match us, hl with | [_], _ => rfl⟩, T.glo 2 rfl, F.kp⟩
  exact (s_one (s_ret (d_and (d_callD (ok_is_integer T) hr (by decide) (by rfl) (aas_cons (dv (pv 0)) aas_nil)) (d_one (d_cmp o_ge (sw (dv (pv 0))) (sw dc_int))))))
theorem sc_is_name : FnScope ["thing", "sign"] ["thing"] (defScope st_is_name) := ⟨rfl, rfl, rfl, by decide +kernel, rfl, by decide +kernel, by decide +kernel⟩
def F_is_name : List Sl → M D := fnS 2 (retS (andE (isS "str" (var 0)) (andE (chainE leS leS (con (.int 1)) (app (consL (var 0) nilL) lenS) (con (.int 10))) (app (consL (asL (lcE [1] (itS (var 0)) (nameT 1) yes (op2 signS (var 1) (con (.str "abcdefghijklmnopqrstuvwxyz"))))) nilL) allS))))
theorem ok_is_name (T : Txt K mg) : DefOk P w K mg base "is_name" 1 1 F_is_name := by
  obtain ⟨fdd, F⟩ := T.says.def_ 3 (d := df_is_name) rfl
  refine ⟨⟨fdd, ["thing"], fn_ok (N := ["thing", "sign"]) F sc_is_name (fun cdv A outer s' H E hr => ?_), FunD.bindsN F fun _ _ _ _ _ _ us hl => match us, hl with | [_], _ => rfl⟩, T.glo 3 rfl, F.kp⟩
  exact (s_one (s_ret (d_and (d_isi (T := "str") (sw (dv (pv 0))) (by rfl) (T.free 66 rfl) (by rfl) (T.free 68 rfl) bt_str) (d_and (d_chain o_le o_le (sw dc_int) (sw (d_callB c_len (by rfl) (T.free 65 rfl) bt_len (was_cons (sw (dv (pv 0))) was_nil))) (sw (dc_gint (by rfl) (T.intg 84 rfl)))) (d_one (d_callB (c_all rfl) (by rfl) (T.free 71 rfl) bt_all (was_cons (fw (f_lc rfl sc_is_name.nd (ij (i_str (sw (dv (pv 0))))) (blkOk_by (own := [("sign", 1)]) (by kernel_rfl)) (fun _ _ _ _ _ => (g_name (pg_name (i := 1) sc_is_name.nd rfl (.inl rfl)))) (fun _ _ _ _ _ => ts_nil) (fun _ _ _ _ _ => (d_cmp o_sign (sw (dv (pv 1))) (sw (dc_gstr (by rfl) (T.strg 83 rfl))))) (by decide))) was_nil)))))))
theorem sc_is_row : FnScope ["thing", "many"] ["thing", "many"] (defScope st_is_row) := ⟨rfl, rfl, rfl, by decide +kernel, rfl, by decide +kernel, by decide +kernel⟩
def F_is_row : List Sl → M D := fnS 2 (retS (andE (isS "tuple" (var 0)) (op2 eqS (app (consL (var 0) nilL) lenS) (var 1))))
theorem ok_is_row (T : Txt K mg) : DefOk P w K mg base "is_row" 1 2 F_is_row := by
  obtain ⟨fdd, F⟩ := T.says.def_ 4 (d := df_is_row) rfl
  refine ⟨⟨fdd, ["thing", "many"], fn_ok (N := ["thing", "many"]) F sc_is_row (fun cdv A outer s' H E hr => ?_), FunD.bindsN F fun _ _ _ _ _ _ us hl => match us, hl with | [_, _], _ => rfl⟩, T.glo 4 rfl, F.kp⟩
  exact (s_one (s_ret (d_and (d_isi (T := "tuple") (sw (dv (pv 0))) (by rfl) (T.free 66 rfl) (by rfl) (T.free 70 rfl) bt_tuple) (d_one (d_cmp (o_eq hr.units) (sw (d_callB c_len (by rfl) (T.free 65 rfl) bt_len (was_cons (sw (dv (pv 0))) was_nil))) (sw (dv (pv 1))))))))
theorem sc_is_paper : FnScope ["thing", "word", "many"] ["thing", "word", "many"] (defScope st_is_paper) := ⟨rfl, rfl, rfl, by decide +kernel, rfl, by decide +kernel, by decide +kernel⟩
def F_is_paper : List Sl → M D := fnS 3 (retS (andE (isS "tuple" (var 0)) (andE (op2 eqS (app (consL (var 0) nilL) lenS) (var 2)) (andE (isS "str" (op2 ixS (var 0) (con (.int 0)))) (op2 eqS (op2 ixS (var 0) (con (.int 0))) (var 1))))))
theorem ok_is_paper (T : Txt K mg) : DefOk P w K mg base "is_paper" 1 3 F_is_paper := by
  obtain ⟨fdd, F⟩ := T.says.def_ 5 (d := df_is_paper) rfl
  refine ⟨⟨fdd, ["thing", "word", "many"], fn_ok (N := ["thing", "word", "many"]) F sc_is_paper (fun cdv A outer s' H E hr => ?_), FunD.bindsN F fun _ _ _ _ _ _ us hl => match us, hl with | [_, _, _], _ => rfl⟩, T.glo 5 rfl, F.kp⟩
  exact (s_one (s_ret (d_and (d_isi (T := "tuple") (sw (dv (pv 0))) (by rfl) (T.free 66 rfl) (by rfl) (T.free 70 rfl) bt_tuple) (d_and (d_cmp (o_eq hr.units) (sw (d_callB c_len (by rfl) (T.free 65 rfl) bt_len (was_cons (sw (dv (pv 0))) was_nil))) (sw (dv (pv 2)))) (d_and (d_isi (T := "str") (sw (d_ix (sw (dv (pv 0))) (sw dc_int))) (by rfl) (T.free 66 rfl) (by rfl) (T.free 68 rfl) bt_str) (d_one (d_cmp (o_eq hr.units) (sw (d_ix (sw (dv (pv 0))) (sw dc_int))) (sw (dv (pv 1))))))))))
end
end EC
end
/-! ## E5 -/
section
set_option Elab.async false
set_option linter.all false
set_option maxRecDepth 100000
set_option maxHeartbeats 4000000
namespace EC
open PySem PySem.Spec PyProof.Rows L2
section
variable {P : Program} {w : World} {K : PySem.W.Frag} {mg : Str → Option Value} {base : Heap}
theorem ints_lay : ∀ cs : List Int, PyData.canLayAll0 (cs.map PyData.int) = true
  | [] => rfl
  | c :: cs => by simp [PyData.canLayAll0, PyData.canLay0, ints_lay cs]
theorem ints_depth : ∀ cs : List Int, PyData.depthAll (cs.map PyData.int) ≤ 1
  | [] => by simp [PyData.depthAll]
  | c :: cs => by simp [PyData.depthAll, PyData.depth]; have := ints_depth cs; omega
theorem ints_shaped (cs : List Int) : SeqAt.shaped (.list (cs.map PyData.int)) = true := by
  unfold SeqAt.shaped
  rw [Bool.and_eq_true]
  refine ⟨by simp [PyData.canLay0, ints_lay cs], decide_eq_true ?_⟩
  have := ints_depth cs
  simp [PyData.depth]
  omega
theorem sc_law_draw : FnScope ["_law_deck", "_law_below", "_law_figure", "_law_cell"] ["_law_deck", "_law_below"] (defScope st__law_draw) := ⟨rfl, rfl, rfl, by decide +kernel, rfl, by decide +kernel, by decide +kernel⟩
/-- any of 0 .. n - 1 -/
def F_law_draw : List Sl → M D
  | [.k, .d (.int n)] => fun P => (1 ≤ n ∧ n ≤ 1000000) ∧ ∀ r : Int, 0 ≤ r → r < n → P (.int r)
  | _ => die
theorem ok_law_draw (T : Txt K mg) : DefOk P w K mg base "_law_draw" 1 2 F_law_draw := by
  obtain ⟨fdd, F⟩ := T.says.def_ 42 (d := df__law_draw) rfl
  refine ⟨⟨fdd, ["_law_deck", "_law_below"], ?_, FunD.bindsN F fun _ _ _ _ _ _ us hl => match us, hl with | [_, _], _ => rfl⟩, T.glo 42 rfl, F.kp⟩
  have F : FnP K "_law_draw" st__law_draw (He.ga K "_law_draw") fdd := F
  refine F.ok sc_law_draw (fun vs H Q E h => ?_) (fun cdv A outer s' H vs Q E hr h => ?_)
  · obtain ⟨W, B, ds, PP, hl, _, _, r, _⟩ := h
    rw [r.length, hl]; rfl
  have hu := hu_of hr
  have X0 : True := trivial
  -- the last four rows, from a figure on
  have last : ∃ t : TS, PSs (cxOf CX0 P w K mg base ["_law_deck", "_law_below", "_law_figure", "_law_cell"] "_law_draw" (defScope st__law_draw) (He.ga K "_law_draw") cdv A outer s' H E).nox ((defBody st__law_draw).drop 3) t ∧
      ∀ (D : Ends) (d l : Addr) (n m tu z : Int) (c : Option V) (H' : Hp), 1 ≤ n → H' d = some (.dK (deckK l m tu)) → (∀ r : Int, 0 ≤ r → r < n → D.rt (.int r) H') → t D [some (.ref d), some (.int n), some (.int z), c] H' := by
    refine ⟨_, (pss_cons (ps_set (i := 2) sc_law_draw.nd rfl (.inl rfl) (pe_op op_modN (pe_callTy call_int1 (by rfl) (T.free 67 rfl) bt_int (pa_cons (pe_op op_add (pe_op op_mul (pv 2) pe_int) pe_int) pa_nil)) pe_int))
    (pss_cons (ps_set (i := 2) sc_law_draw.nd rfl (.inl rfl) (pe_op op_modN (pe_callTy call_int1 (by rfl) (T.free 67 rfl) bt_int (pa_cons (pe_op op_add (pe_op op_add (pe_op op_mul (pv 2) (pv 2)) (pe_op op_mul pe_int (pe_dget hu (pv 0) pe_str (fun _ _ => rfl)))) pe_int) pa_nil)) pe_int))
    (pss_cons (ps_set (i := 2) sc_law_draw.nd rfl (.inl rfl) (pe_op op_modN (pe_callTy call_int1 (by rfl) (T.free 67 rfl) bt_int (pa_cons (pe_op op_add (pe_op op_mul (pv 2) pe_int) pe_int) pa_nil)) pe_int))
    (pss_one (ps_ret (pe_op op_modN (pe_callTy call_int1 (by rfl) (T.free 67 rfl) bt_int (pa_cons (pe_op op_fdivN (pv 2) pe_int) pa_nil)) (pv 1))))))), ?_⟩
    intro D d l n m tu z c H' hn hd hD
    have z1 := pOp (C := fun _ j => j ≠ 0) (f := fun i j => i.fmod j) (pInt (pOp0 (f := fun i j => i + j) (pOp (C := CMul) (f := fun i j => i * j) (pV (σ := [some (V.ref d), some (.int n), some (.int z), c]) (H := H') (i := 2) rfl) (pC (z := 69621)) (.inr ⟨by decide, by decide⟩)) (pC (z := 59)))) (pC (z := 2305843009213693951)) (by decide)
    refine z1 _ ?_
    generalize hz2 : ((z * 69621 + 59).fmod 2305843009213693951) = z2
    have b2 : 0 ≤ z2 ∧ z2 < 2305843009213693951 := by rw [← hz2]; exact ⟨Int.fmod_nonneg_of_pos _ (by decide), Int.fmod_lt_of_pos _ (by decide)⟩
    show tSeq _ _ D [some (V.ref d), some (.int n), some (.int z2), c] H'
    have z3 := pOp (C := fun _ j => j ≠ 0) (f := fun i j => i.fmod j) (pInt (pOp0 (f := fun i j => i + j) (pOp0 (f := fun i j => i + j) (pOp (C := CMul) (f := fun i j => i * j) (pV (σ := [some (V.ref d), some (.int n), some (.int z2), c]) (H := H') (i := 2) rfl) (pV (i := 2) rfl) (.inl ⟨by omega, by omega⟩))
      (pOp (C := CMul) (f := fun i j => i * j) (pC (z := 58391)) (pDG (i := 0) rfl hd (deck_turn l m tu)) (.inl ⟨by decide, by decide⟩))) (pC (z := 59)))) (pC (z := 2305843009213693921)) (by decide)
    refine z3 _ ?_
    generalize ((z2 * z2 + 58391 * tu + 59).fmod 2305843009213693921) = z4
    show tSeq _ _ D [some (V.ref d), some (.int n), some (.int z4), c] H'
    have z5 := pOp (C := fun _ j => j ≠ 0) (f := fun i j => i.fmod j) (pInt (pOp0 (f := fun i j => i + j) (pOp (C := CMul) (f := fun i j => i * j) (pV (σ := [some (V.ref d), some (.int n), some (.int z4), c]) (H := H') (i := 2) rfl) (pC (z := 39373)) (.inr ⟨by decide, by decide⟩)) (pC (z := 11)))) (pC (z := 2305843009213693951)) (by decide)
    refine z5 _ ?_
    generalize ((z4 * 39373 + 11).fmod 2305843009213693951) = z6
    have z7 := pOp (C := fun _ j => j ≠ 0) (f := fun i j => i.fmod j) (pInt (pOp (C := CDivN) (f := fun i j => i.fdiv j) (pV (σ := [some (V.ref d), some (.int n), some (.int z6), c]) (H := H') (i := 2) rfl) (pC (z := 64)) ⟨by decide, by decide⟩)) (pV (i := 1) rfl) (by omega : n ≠ 0)
    exact z7 _ (hD _ (Int.fmod_nonneg_of_pos _ (by omega)) (Int.fmod_lt_of_pos _ (by omega)))
  obtain ⟨tl, hl4, lastOk⟩ := last
  have body : PSs (cxOf CX0 P w K mg base ["_law_deck", "_law_below", "_law_figure", "_law_cell"] "_law_draw" (defScope st__law_draw) (He.ga K "_law_draw") cdv A outer s' H E).nox (defBody st__law_draw) (tSeq _ (tSeq _ (tSeq _ tl))) :=
    pss_cons (ps_dput hu (pv 0) pe_str (pe_op op_add (pe_dget hu (pv 0) pe_str (fun _ _ => rfl)) pe_int) rfl)
    (pss_cons (ps_set (i := 2) sc_law_draw.nd rfl (.inl rfl) (pe_op op_add (pe_dget hu (pv 0) pe_str (fun _ _ => rfl)) (pe_op op_mul pe_int (pe_dget hu (pv 0) pe_str (fun _ _ => rfl)))))
    (pss_cons (ps_if (pt_cmpR (op_neD hr.units) (pe_dget hu (pv 0) pe_str (fun _ _ => rfl)) (pe_lst pa_nil) rfl)
      (pss_cons (ps_set (i := 3) sc_law_draw.nd rfl (.inl rfl) (pe_bm0 PySem.F.plainAttrs_list PySem.F.slot_list_pop PySem.F.type_list_pop mt_pop (pe_dget hu (pv 0) pe_str (fun _ _ => rfl))))
      (pss_cons (ps_if (pt_cmpR op_ge (pv 3) (pe_op op_pow pe_int pe_int) rfl)
        (pss_cons (ps_expr (pe_bm PySem.F.plainAttrs_list PySem.F.slot_list_append PySem.F.type_list_append mt_append (pe_dget hu (pv 0) pe_str (fun _ _ => rfl)) (pa_cons (pe_op op_fdivN (pv 3) (pe_callB (call_max2 rfl) (by rfl) (T.free 80 rfl) bt_max (pa_cons pe_int (pa_cons (pv 1) pa_nil)))) pa_nil)))
        (pss_one (ps_ret (pe_op op_modN (pe_callTy call_int1 (by rfl) (T.free 67 rfl) bt_int (pa_cons (pv 3) pa_nil)) (pv 1))))) pss_nil)
      (pss_one (ps_set (i := 2) sc_law_draw.nd rfl (.inl rfl) (pe_op op_add (pv 2) (pe_op op_modN (pe_callTy call_int1 (by rfl) (T.free 67 rfl) bt_int (pa_cons (pv 3) pa_nil)) pe_int))))))
      pss_nil)
    hl4))
  refine ⟨_, PSs.nox body, ?_⟩
  clear body
  obtain ⟨W, B, ds, PP, hl, sb, wk, rr, hf, kk⟩ := h
  match ds, hl, hf, rr with
  | [.k, .d (.int n)], _, ⟨⟨hn, hn2⟩, hf⟩, ⟨v0, r1, e0, ⟨p, hp, ev0⟩, v1, r2, e1, ev1, e2⟩ =>
  subst e2 e1 e0 ev0
  rw [show v1 = V.int n from ev1]
  obtain ⟨d, l⟩ := p
  obtain ⟨b1, b2, cells, mixed, turn, h1, h2, h3, h4, h5⟩ := wk _ hp
  have dl : d ≠ l := fun z => by rw [z] at h1; rw [h1] at h2; cases h2
  have hH1 : upd H d (.dK (deckK l mixed (turn + 1))) d = some (.dK (deckK l mixed (turn + 1))) := upd_same
  have hL1 : upd H d (.dK (deckK l mixed (turn + 1))) l = some (.lst (cells.map V.int)) := by rw [upd_ne dl.symm]; exact h2
  -- any heap that is as H but for the deck
  have grow : ∀ (H' : Hp) (cs : List Int) (m t : Int), (∀ b o, b ≠ d → b ≠ l → H b = some o → H' b = some o) → H' d = some (.dK (deckK l m t)) → H' l = some (.lst (cs.map V.int)) → cs.length ≤ 63 → 0 ≤ m → m < 2 ^ 62 → Grow W B H B H' := fun H' cs m t e1 e2 e3 e4 e5 e6 => by
    refine ⟨Sub.rfl', fun b o q => ?_, fun b o nd q => ?_, fun b q _ => q, fun p' hp' => ?_⟩
    · exact e1 b o (fun z => by rw [z, b1] at q; cases q) (fun z => by rw [z, b2] at q; cases q) (sb _ _ q)
    · exact e1 b o (nd _ hp).1 (nd _ hp).2 q
    · rw [hp] at hp'; cases hp'
      exact ⟨b1, b2, cs, m, t, e2, e3, e4, e5, e6⟩
  have fin : ∀ (H' : Hp) (cs : List Int) (m t z : Int), (∀ b o, b ≠ d → b ≠ l → H b = some o → H' b = some o) → H' d = some (.dK (deckK l m t)) → H' l = some (.lst (cs.map V.int)) → cs.length ≤ 63 → 0 ≤ m → m < 2 ^ 62 → Q (.int (z.fmod n)) H' := fun H' cs m t z e1 e2 e3 e4 e5 e6 =>
    kk _ (hf _ (Int.fmod_nonneg_of_pos z (by omega)) (Int.fmod_lt_of_pos z (by omega))) _ B H' (grow H' cs m t e1 e2 e3 e4 e5 e6) rfl
  have s0 : (L2.start ["_law_deck", "_law_below", "_law_figure", "_law_cell"] [V.ref d, V.int n]) = [some (.ref d), some (.int n), none, none] := rfl
  rw [s0]
  -- the deck's turn
  have t1 := pOp0 (f := fun i j => i + j) (pDG (σ := [some (V.ref d), some (.int n), none, none]) (i := 0) rfl h1 (deck_turn l mixed turn)) (pC (z := 1))
  refine t1 _ ⟨_, rfl, d, _, rfl, DPut.k (k := .inr "turn") h1 (show 3 < sizeLine by decide), ?_⟩
  rw [show putK [((.inr "cells" : Key), V.ref l), (.inr "mixed", .int mixed), (.inr "turn", .int turn)] (.inr "turn") (.int (turn + 1)) = deckK l mixed (turn + 1) from rfl]
  have g1 := fun (σ : L2.St) (h : σ[0]? = some (some (V.ref d))) => pDG (i := 0) h hH1 (deck_turn l mixed (turn + 1))
  have g2 := fun (σ : L2.St) (h : σ[0]? = some (some (V.ref d))) => pDG (i := 0) h hH1 (deck_mixed l mixed (turn + 1))
  refine pOp0 (f := fun i j => i + j) (g2 _ rfl) (pOp (C := CMul) (f := fun i j => i * j) (pC (z := 42043)) (g1 _ rfl) (.inl ⟨by decide, by decide⟩)) _ ?_
  show tSeq _ _ _ [some (V.ref d), some (.int n), some (.int (mixed + 42043 * (turn + 1))), none] _
  generalize mixed + 42043 * (turn + 1) = z
  have old : ∀ b o, b ≠ d → b ≠ l → H b = some o → upd H d (.dK (deckK l mixed (turn + 1))) b = some o := fun b o n1 n2 q => by rw [upd_ne n1]; exact q
  generalize upd H d (.dK (deckK l mixed (turn + 1))) = H1 at hH1 hL1 old g1 g2 ⊢
  refine ⟨_, rfl, d, .ref l, rfl, (by rw [← deck_cells l mixed (turn + 1)]; exact .inl ⟨_, .inr "cells", .inl hH1, rfl, rfl⟩), by show 0 ≤ sizeLine; exact Nat.zero_le _, fun q hq => ?_⟩
  have nq : q ≠ d ∧ q ≠ l := ⟨(fun z => by rw [z, hH1] at hq; cases hq), (fun z => by rw [z, hL1] at hq; cases hq)⟩
  have hH2 : upd H1 q (.lst []) d = some (.dK (deckK l mixed (turn + 1))) := by rw [upd_ne nq.1.symm]; exact hH1
  have hL2 : upd H1 q (.lst []) l = some (.lst (cells.map V.int)) := by rw [upd_ne nq.2.symm]; exact hL1
  have hq2 : upd H1 q (.lst []) q = some (.lst []) := upd_same
  have old2 : ∀ b o, b ≠ d → b ≠ l → H b = some o → upd H1 q (.lst []) b = some o := fun b o n1 n2 e => by rw [upd_ne (ne_of_none (old b o n1 n2 e) hq)]; exact old b o n1 n2 e
  generalize upd H1 q (.lst []) = H2 at hH2 hL2 hq2 old2 ⊢
  have dints : ∀ cs : List Int, DpAll K H2 (cs.map V.int) (cs.map PyData.int) := fun cs => by
    induction cs with
    | nil => exact .nil
    | cons c cs ih => exact .cons (.int c) ih
  refine ⟨.list (cells.map .int), .list [], .lst (SqL.of hL2) (dints cells), .lst (SqL.of hq2) .nil, ints_shaped cells, rfl, !PyData.eqv (.list (cells.map .int)) (.list []), rfl, ?_⟩
  rcases List.eq_nil_or_concat cells with rfl | ⟨init, c, hcs⟩
  · -- no cells
    show tNext _ _ _
    exact lastOk _ d l n mixed (turn + 1) z none H2 hn hH2 fun r r0 r1 => kk _ (hf r r0 r1) _ B H2 (grow H2 [] mixed (turn + 1) old2 hH2 hL2 (Nat.zero_le _) h4 h5) rfl
  · -- a cell is taken
    rw [List.concat_eq_append] at hcs
    subst hcs
    have e0 : PyData.eqv (.list ((init ++ [c]).map .int)) (.list []) = false := by
      cases init with
      | nil => rfl
      | cons a as => rfl
    rw [e0]
    have hL3 : H2 l = some (.lst (init.map V.int ++ [.int c])) := by rw [hL2, List.map_append]; rfl
    have hlen : init.length + 1 ≤ 63 := by simpa using h3
    refine ⟨_, rfl, d, .ref l, rfl, (by rw [← deck_cells l mixed (turn + 1)]; exact .inl ⟨_, .inr "cells", .inl hH2, rfl, rfl⟩), .inl ⟨rfl, _, SqL.of hL3⟩, l, _, .int c, rfl, rfl, hL3, by simp, ?_⟩
    rw [List.dropLast_concat]
    have hH4 : upd H2 l (.lst (init.map V.int)) d = some (.dK (deckK l mixed (turn + 1))) := by rw [upd_ne dl]; exact hH2
    have hL4 : upd H2 l (.lst (init.map V.int)) l = some (.lst (init.map V.int)) := upd_same
    have old4 : ∀ b o, b ≠ d → b ≠ l → H b = some o → upd H2 l (.lst (init.map V.int)) b = some o := fun b o n1 n2 e => by rw [upd_ne n2]; exact old2 b o n1 n2 e
    generalize upd H2 l (.lst (init.map V.int)) = H4 at hH4 hL4 old4 ⊢
    show tSeq _ _ _ [some (V.ref d), some (.int n), some (.int z), some (.int c)] H4
    have ten := pOp (C := CPow) (f := fun i j => i ^ j.toNat) (σ := [some (V.ref d), some (.int n), some (.int z), some (.int c)]) (H := H4) (pC (z := 10)) (pC (z := 18)) ⟨by decide, by decide, by decide⟩
    refine ⟨_, rfl, ten _ ⟨c, _, rfl, rfl, decide ((10 : Int) ^ (18 : Int).toNat ≤ c), rfl, ?_⟩⟩
    by_cases hc : (10 : Int) ^ (18 : Int).toNat ≤ c
    · rw [decide_eq_true hc]
      refine ⟨_, rfl, d, .ref l, rfl, (by rw [← deck_cells l mixed (turn + 1)]; exact .inl ⟨_, .inr "cells", .inl hH4, rfl, rfl⟩), .inl ⟨rfl, _, SqL.of hL4⟩, ?_⟩
      have dv := pOp (C := CDivN) (f := fun i j => i.fdiv j) (σ := [some (V.ref d), some (.int n), some (.int z), some (.int c)]) (H := H4) (pV (i := 3) rfl) (pMax (pC (z := 2)) (pV (i := 1) rfl)) (by
        unfold CDivN
        by_cases q : n > 2
        · rw [if_pos q]; omega
        · rw [if_neg q]; omega)
      generalize hcz : c.fdiv (if n > 2 then n else 2) = cz at dv
      refine dv _ ⟨l, _, .int cz, rfl, rfl, hL4, by rw [List.length_map]; exact mil_lt (by omega), ?_⟩
      have hL5 : upd H4 l (.lst (init.map V.int ++ [.int cz])) l = some (.lst ((init ++ [cz]).map V.int)) := by rw [upd_same, List.map_append]; rfl
      have hH5 : upd H4 l (.lst (init.map V.int ++ [.int cz])) d = some (.dK (deckK l mixed (turn + 1))) := by rw [upd_ne dl]; exact hH4
      have old5 : ∀ b o, b ≠ d → b ≠ l → H b = some o → upd H4 l (.lst (init.map V.int ++ [.int cz])) b = some o := fun b o n1 n2 e => by rw [upd_ne n2]; exact old4 b o n1 n2 e
      generalize upd H4 l (.lst (init.map V.int ++ [.int cz])) = H5 at hH5 hL5 old5 ⊢
      have z1 := pOp (C := fun _ j => j ≠ 0) (f := fun i j => i.fmod j) (σ := [some (V.ref d), some (.int n), some (.int z), some (.int c)]) (H := H5) (pInt (pV (i := 3) rfl)) (pV (i := 1) rfl) (by omega : n ≠ 0)
      exact z1 _ (fin H5 (init ++ [cz]) mixed (turn + 1) c old5 hH5 hL5 (by simpa using hlen) h4 h5)
    · rw [decide_eq_false hc]
      have z1 := pOp0 (f := fun i j => i + j) (pV (σ := [some (V.ref d), some (.int n), some (.int z), some (.int c)]) (H := H4) (i := 2) rfl) (pOp (C := fun _ j => j ≠ 0) (f := fun i j => i.fmod j) (pInt (pV (i := 3) rfl)) (pC (z := 2147483477)) (by decide))
      refine z1 _ ?_
      exact lastOk _ d l n mixed (turn + 1) _ _ H4 hn hH4 fun r r0 r1 => kk _ (hf r r0 r1) _ B H4 (grow H4 init mixed (turn + 1) old4 hH4 hL4 (by omega) h4 h5) rfl
end
end EC
end
/-! ## E6 -/
section
set_option Elab.async false
set_option linter.all false
set_option maxRecDepth 100000
set_option maxHeartbeats 4000000
namespace EC
open PySem PySem.Spec PyProof.Rows L2
section
variable {P : Program} {w : World} {K : PySem.W.Frag} {mg : Str → Option Value} {base : Heap}
theorem sc_law_dealt : FnScope ["_law_script", "_law_mixed_here", "_law_cell"] ["_law_script"] (defScope st__law_dealt) := ⟨rfl, rfl, rfl, by decide +kernel, rfl, by decide +kernel, by decide +kernel⟩
/-- a new deck -/
def spDeal (K : PySem.W.Frag) : Sp := fun vs H Q _ => ∃ (a : Addr) (ns : List Int), vs = [.ref a] ∧ SqL K H a (ns.map V.int) ∧ ns.length ≤ 63 ∧
  ∀ (d l : Addr) (H' : Hp), H d = none → H l = none → (∀ b o, H b = some o → H' b = some o) → DeckAt H' d l → Q (.ref d) H'
theorem cut63 (ns : List Int) (h : ns.length ≤ 63) : cutV (ns.map V.int) none (some 63) = ns.map V.int := by
  unfold cutV
  rw [List.length_map]
  have e1 : HT.sIx ns.length 0 none = 0 := rfl
  have e2 : HT.sIx ns.length ns.length (some 63) = ns.length := by
    show min (63 : Int).toNat ns.length = ns.length
    have : (63 : Int).toNat = 63 := rfl
    rw [this]; omega
  rw [e1, e2, List.drop_zero, Nat.sub_zero, ← List.length_map (f := V.int), List.take_length]
theorem ok_law_dealt (T : Txt K mg) : ∃ (fd : FuncData) (ps : List Str), FnOk P w K mg base CX0 1 (He.ga K "_law_dealt") fd ps (spDeal K) ∧ Binds K fd ps [] := by
  obtain ⟨fdd, F⟩ := T.says.def_ 41 (d := df__law_dealt) rfl
  refine ⟨fdd, ["_law_script"], ?_, FunD.bindsN F fun _ _ _ _ _ _ us hl => match us, hl with | [_], _ => rfl⟩
  have F : FnP K "_law_dealt" st__law_dealt (He.ga K "_law_dealt") fdd := F
  refine F.ok sc_law_dealt (fun vs H Q E h => ?_) (fun cdv A outer s' H vs Q E hr h => ?_)
  · obtain ⟨a, ns, rfl, _⟩ := h; rfl
  have hu := hu_of hr
  have body : PSs (cxOf CX0 P w K mg base ["_law_script", "_law_mixed_here", "_law_cell"] "_law_dealt" (defScope st__law_dealt) (He.ga K "_law_dealt") cdv A outer s' H E).nox (defBody st__law_dealt) (tSeq _ (tSeq _ _)) :=
    pss_cons (ps_set (i := 1) sc_law_dealt.nd rfl (.inl rfl) pe_int)
    (pss_cons (ps_for PassesOwn.never rfl (pi_list (pe_slice sl_list (pv 0) po_none (po_some pe_int))) (pg_name (i := 2) sc_law_dealt.nd rfl (.inl rfl))
      (pss_one (ps_set (i := 1) sc_law_dealt.nd rfl (.inl rfl) (pe_op op_modN (pe_callTy call_int1 (by rfl) (T.free 67 rfl) bt_int (pa_cons (pe_op op_add (pe_op op_add (pe_op op_mul (pv 1) pe_int) (pe_op op_modN (pe_callTy call_int1 (by rfl) (T.free 67 rfl) bt_int (pa_cons (pv 2) pa_nil)) pe_int)) pe_int) pa_nil)) pe_int))))
    (pss_one (ps_ret (pe_disp (pps_cons pe_str (pe_revL (pe_lc rfl sc_law_dealt.nd (pi_list (pe_slice sl_list (pv 0) po_none (po_some pe_int))) (blkOk_by (own := [("_law_cell", 2)]) (by kernel_rfl)) (fun _ _ _ _ _ => pg_name (i := 2) sc_law_dealt.nd rfl (.inl rfl)) (fun _ _ _ _ _ => pts_nil)
        (fun _ _ _ _ _ => pe_callTy call_int1 (by rfl) (T.free 67 rfl) bt_int (pa_cons (pv 2) pa_nil))))
      (pps_cons pe_str (pv 1) (pps_cons pe_str pe_int pps_nil))) (by rfl) (by rfl) (by simp) (by decide)))))
  refine ⟨_, PSs.nox body, ?_⟩
  clear body
  obtain ⟨a, ns, rfl, hq, hn, kk⟩ := h
  rw [show L2.start ["_law_script", "_law_mixed_here", "_law_cell"] [V.ref a] = [some (.ref a), none, none] from rfl]
  show tSeq _ _ _ [some (V.ref a), some (.int 1440680126001980666), none] H
  refine ⟨_, rfl, 63, rfl, a, _, rfl, hq, fun q hqn => ?_⟩
  rw [cut63 ns hn]
  have hS : upd H q (.lst (ns.map V.int)) q = some (.lst (ns.map V.int)) := upd_same
  have old1 : ∀ b o, H b = some o → upd H q (.lst (ns.map V.int)) b = some o := fun b o e => by rw [upd_ne (ne_of_none e hqn)]; exact e
  have hq1 : SqL K (upd H q (.lst (ns.map V.int))) a (ns.map V.int) := by
    rcases hq with (z | ⟨o, z⟩) | z
    · exact .inl (.inl (old1 _ _ z))
    · exact .inl (.inr ⟨o, old1 _ _ z⟩)
    · exact .inr z
  generalize upd H q (.lst (ns.map V.int)) = H1 at hS old1 hq1 ⊢
  refine ⟨q, rfl, ⟨_, SqL.of hS⟩, fun i m σ' H' => m = ns.length - i ∧ i ≤ ns.length ∧ H' = H1 ∧ ∃ mx c, σ' = [some (V.ref a), some (.int mx), c] ∧ 0 ≤ mx ∧ mx < 2 ^ 62, ⟨ns.length, rfl, Nat.zero_le _, rfl, _, _, rfl, by decide, by decide⟩, ?_⟩
  rintro i m σ' H' ⟨rfl, hi, rfl, mx, c, rfl, b1, b2⟩
  by_cases hlt : i < ns.length
  · refine .inr ⟨⟨_, .int ns[i], SqL.of hS, by simp [hlt]⟩, fun σ2 H2 => H2 = H' ∧ ∃ mx c, σ2 = [some (V.ref a), some (.int mx), c] ∧ 0 ≤ mx ∧ mx < 2 ^ 62, fun σ2 H2 h2 => ⟨ns.length - (i + 1), by omega, rfl, hlt, h2⟩, fun x H2 ⟨eH, hx⟩ => ?_⟩
    have ex := hx _ (SqL.of hS)
    rw [List.getElem?_map, List.getElem?_eq_getElem hlt] at ex
    cases ex
    subst eH
    show tAsg _ _ _ [some (V.ref a), some (.int mx), some (.int ns[i])] H2
    have z1 := pOp (C := fun _ j => j ≠ 0) (f := fun i j => i.fmod j) (σ := [some (V.ref a), some (.int mx), some (.int ns[i])]) (H := H2) (pInt (pOp0 (f := fun i j => i + j) (pOp0 (f := fun i j => i + j) (pOp (C := CMul) (f := fun i j => i * j) (pV (i := 1) rfl) (pC (z := 69621)) (.inr ⟨by decide, by decide⟩))
      (pOp (C := fun _ j => j ≠ 0) (f := fun i j => i.fmod j) (pInt (pV (i := 2) rfl)) (pC (z := 2305843009213693921)) (by decide))) (pC (z := 7)))) (pC (z := 2305843009213693951)) (by decide)
    refine z1 _ ?_
    have g1 : 0 ≤ (mx * 69621 + (ns[i]).fmod 2305843009213693921 + 7).fmod 2305843009213693951 := Int.fmod_nonneg_of_pos _ (by decide)
    have g2 : (mx * 69621 + (ns[i]).fmod 2305843009213693921 + 7).fmod 2305843009213693951 < 2305843009213693951 := Int.fmod_lt_of_pos _ (by decide)
    exact ⟨rfl, _, _, rfl, g1, by omega⟩
  · have e : i = ns.length := by omega
    subst e
    refine .inl ⟨⟨_, SqL.of hS, by rw [List.length_map]; exact Nat.le_refl _⟩, ?_⟩
    intro d hd
    have old2 : ∀ b o, H' b = some o → upd H' d (.dK []) b = some o := fun b o e => by rw [upd_ne (ne_of_none e hd)]; exact e
    have hd2 : upd H' d (.dK []) d = some (.dK []) := upd_same
    have hq2 : SqL K (upd H' d (.dK [])) a (ns.map V.int) := by
      rcases hq1 with (z | ⟨o, z⟩) | z
      · exact .inl (.inl (old2 _ _ z))
      · exact .inl (.inr ⟨o, old2 _ _ z⟩)
      · exact .inr z
    generalize upd H' d (.dK []) = H2 at old2 hd2 hq2 ⊢
    refine ⟨_, rfl, 63, rfl, a, _, rfl, hq2, fun q2 hq2n => ?_⟩
    rw [cut63 ns hn]
    have hS3 : upd H2 q2 (.lst (ns.map V.int)) q2 = some (.lst (ns.map V.int)) := upd_same
    have old3 : ∀ b o, H2 b = some o → upd H2 q2 (.lst (ns.map V.int)) b = some o := fun b o e => by rw [upd_ne (ne_of_none e hq2n)]; exact e
    generalize upd H2 q2 (.lst (ns.map V.int)) = H3 at hS3 old3 ⊢
    refine ⟨q2, rfl, ⟨_, SqL.of hS3⟩, fun D hD => ?_⟩
    have n3 : ∀ b o, H3 b = some o → b ≠ D := fun b o e => ne_of_none e hD
    refine ⟨fun i m H4 => m = ns.length - i ∧ i ≤ ns.length ∧ (∀ b o, H3 b = some o → H4 b = some o) ∧ H4 D = some (.lst ((ns.take i).map V.int)), ⟨ns.length, rfl, Nat.zero_le _, fun b o e => by rw [upd_ne (n3 b o e)]; exact e, upd_same⟩, ?_⟩
    rintro i m H4 ⟨rfl, hi4, old4, hD4⟩
    by_cases hlt4 : i < ns.length
    · refine .inr ⟨⟨_, .int ns[i], SqL.of (old4 _ _ hS3), by simp [hlt4]⟩, fun H5 => (∀ b o, H3 b = some o → H5 b = some o) ∧ H5 D = some (.lst ((ns.take (i + 1)).map V.int)), fun H5 h5 => ⟨ns.length - (i + 1), by omega, rfl, hlt4, h5⟩, fun x H5 ⟨eH, hx⟩ => ?_⟩
      have ex := hx _ (SqL.of (old4 _ _ hS3))
      rw [List.getElem?_map, List.getElem?_eq_getElem hlt4] at ex
      cases ex
      subst eH
      have z1 := pInt (σ := [some (V.ref a), some (.int mx), some (.int ns[i])]) (H := H5) (pV (i := 2) rfl)
      refine ⟨rfl, ?_⟩
      unfold tYes
      refine iteT ?_
      show tCB _ (tCons (tVar 2) tNil) [some (V.ref a), some (.int mx), some (.int ns[i])] H5 _
      refine z1 _ ⟨_, hD4, by rw [List.length_map, List.length_take]; exact mil_lt (by omega), fun b o e => by rw [upd_ne (n3 b o e)]; exact old4 b o e, ?_⟩
      rw [upd_same, List.take_succ, List.getElem?_eq_getElem hlt4, List.map_append]
      rfl
    · have e : i = ns.length := by omega
      subst e
      refine .inl ⟨⟨_, SqL.of (old4 _ _ hS3), by rw [List.length_map]; exact Nat.le_refl _⟩, ?_⟩
      rw [List.take_length] at hD4
      refine ⟨D, _, rfl, SqL.of hD4, fun l hl => ?_⟩
      have hd4 : H4 d = some (.dK []) := old4 _ _ (old3 _ _ hd2)
      have dl : d ≠ l := ne_of_none hd4 hl
      refine ⟨_, rfl, by rw [upd_ne dl]; exact hd4, [(.inr "cells", .ref l), (.inr "mixed", .int mx), (.inr "turn", .int 0)], rfl, (show 3 ≤ 15 by decide), ?_⟩
      have hHd : H d = none := by
        cases z : H d with
        | none => rfl
        | some o => rw [old1 _ _ z] at hd; cases hd
      have chain : ∀ b o, H b = some o → H4 b = some o := fun b o z => old4 _ _ (old3 _ _ (old2 _ _ (old1 _ _ z)))
      have hHl : H l = none := by
        cases z : H l with
        | none => rfl
        | some o => rw [chain _ _ z] at hl; cases hl
      refine kk d l _ hHd hHl (fun b o z => ?_) ⟨ns.reverse, mx, 0, ?_, ?_, by simpa using hn, b1, b2⟩
      · rw [upd_ne (ne_of_none z hHd), upd_ne (ne_of_none z hHl)]; exact chain b o z
      · rw [upd_same]; rfl
      · rw [upd_ne dl.symm, upd_same, List.map_reverse]
end
end EC
end
/-! ## E7 -/
section
set_option Elab.async false
set_option linter.all false
set_option maxRecDepth 100000
set_option maxHeartbeats 4000000
/-! E7: the law's book. -/
namespace EC
open PySem PySem.Spec PyProof.Rows L2
/-! ### dict of pairs (tuple, value), by data -/
def D.tpairs : List D → Option (List (List Key × D))
  | [] => some []
  | .tup [k, x] :: ds => match D.tkey k, D.tpairs ds with
    | some kk, some ps => some ((kk, x) :: ps)
    | _, _ => none
  | _ :: _ => none
def dictTR (ds : List D) : M D := match D.tpairs ds with
  | some ps => chk (ps.length ≤ 1000000) (ret (dtOf (putAllP [] ps)))
  | none => die
def dictTD : D → M D
  | .lst ds => dictTR ds
  | _ => die
abbrev dictTS := one1 dictTD
theorem dictTR_eq {ds : List D} {P : D → Prop} (h : dictTR ds P) : ∃ ps, D.tpairs ds = some ps ∧ ps.length ≤ 1000000 ∧ P (dtOf (putAllP [] ps)) := by
  cases q : D.tpairs ds with
  | none =>
    have e : dictTR ds = die := by unfold dictTR; rw [q]
    rw [e] at h; exact h.elim
  | some ps =>
    have e : dictTR ds = chk (ps.length ≤ 1000000) (ret (dtOf (putAllP [] ps))) := by unfold dictTR; rw [q]
    rw [e] at h; exact ⟨ps, rfl, h.1, h.2⟩
/-- the pairs as they stand -/
theorem tpairs_rep {B : Hp} : ∀ {ds : List D} {ps : List (List Key × D)} {vs : List V}, D.tpairs ds = some ps → RepL B ds vs → ∃ (as bs : List Addr) (kvs : List (List Key × V)), vs = as.map V.ref ∧ as.length = kvs.length ∧ bs.length = kvs.length ∧ RepP B ps kvs ∧
    ∀ (j : Nat) (kv : List Key × V) (p b : Addr), kvs[j]? = some kv → as[j]? = some p → bs[j]? = some b → B p = some (.tup [.ref b, kv.2]) ∧ B b = some (.tup (kv.1.map kV))
  | [], ps, vs, h, r => by
    cases h
    rw [show vs = [] from r]
    exact ⟨[], [], [], rfl, rfl, rfl, rfl, fun j kv p b h => by simp at h⟩
  | d :: ds, ps, vs, h, ⟨v, r, ev, hv, t⟩ => by
    unfold D.tpairs at h
    split at h
    · rename_i heq; cases heq
    · rename_i k x ds' heq
      cases heq
      cases q : D.tkey k with
      | none => rw [q] at h; cases h
      | some kk =>
        rw [q] at h
        cases q2 : D.tpairs ds with
        | none => rw [q2] at h; cases h
        | some ps' =>
          rw [q2] at h
          cases h
          obtain ⟨as, bs, kvs, e1, e2, e3, e4, e5⟩ := tpairs_rep q2 t
          obtain ⟨p, ws, ep, hB, v1, r1, w1, h1, v2, r2, w2, h2, w3⟩ := hv
          subst w3 w2 w1 ep
          obtain ⟨b, eb, hb⟩ := tkey_rep q h1
          subst eb
          refine ⟨p :: as, b :: bs, (kk, v2) :: kvs, by rw [ev, e1]; rfl, by simp [e2], by simp [e3], ⟨v2, kvs, rfl, h2, e4⟩, fun j kv p' b' f1 f2 f3 => ?_⟩
          cases j with
          | zero => simp at f1 f2 f3; subst f1 f2 f3; exact ⟨hB, hb⟩
          | succ j => exact e5 j kv p' b' (by simpa using f1) (by simpa using f2) (by simpa using f3)
    · cases h
theorem c_dictT {X : Cx} (hc : X.calm = true) (hu : X.A.units + 2 < cLine) : CallD X (.type "dict") dictTS := CallD1 (call_dictPT hc hu) fun W B H d v Q P s w r h k => by
  cases d with
  | lst es =>
    obtain ⟨a, xs, e, hl, rr⟩ := r.lst s
    obtain ⟨ps, q, hle, hp⟩ := dictTR_eq h
    obtain ⟨as, bs, kvs, e1, e2, e3, e4, e5⟩ := tpairs_rep q rr
    subst e1
    refine ⟨a, as, bs, kvs, by rw [e], SqL.of hl, e2, e3, fun j kv p b f1 f2 f3 => ⟨s _ _ (e5 j kv p b f1 f2 f3).1, s _ _ (e5 j kv p b f1 f2 f3).2⟩, fun p hp0 => ?_⟩
    have n := Grow.new (o := .dT (putAllK [] kvs)) s w hp0
    have rp := RepP.putAll (l := []) (kvs := []) (B := B) rfl e4
    obtain ⟨z1, z2⟩ := rp.vals
    exact k _ hp (.ref p) _ _ n ⟨p, _, rfl, by rw [upd_same, ← z1], by rw [List.length_map, List.length_map], z2.mono n.bb⟩
  | _ => exact h.elim
/-! ### the book -/
structure BkA where
  p0 : Addr
  p : _root_.Fin 4 → Addr
structure BkD where
  clash : D
  many : Int
  tab : _root_.Fin 4 → List (Key × D)
def bkNm : _root_.Fin 4 → Str
  | 0 => "steps"
  | 1 => "ends"
  | 2 => "kept"
  | 3 => "backs"
def bookK (a : BkA) (c : V) (many : Int) : List (Key × V) := [(.inr "clash", c), (.inr "many", .int many), (.inr "steps", .ref (a.p 0)), (.inr "ends", .ref (a.p 1)), (.inr "kept", .ref (a.p 2)), (.inr "backs", .ref (a.p 3))]
theorem book_tab (a : BkA) (c : V) (many : Int) : ∀ i : _root_.Fin 4, valV (bookK a c many) (.inr (bkNm i)) = some (.ref (a.p i))
  | 0 => rfl
  | 1 => rfl
  | 2 => rfl
  | 3 => rfl
theorem book_many (a : BkA) (c : V) (many : Int) : valV (bookK a c many) (.inr "many") = some (.int many) := rfl
theorem book_put (a : BkA) (c : V) (many n : Int) : putK (bookK a c many) (.inr "many") (.int n) = bookK a c n := rfl
structure BookAt (W : Wd) (H0 B H : Hp) (a : BkA) (b : BkD) : Prop where
  ex : ∃ c, H a.p0 = some (.dK (bookK a c b.many)) ∧ Rep B b.clash c
  tab : ∀ i, ∃ kv, H (a.p i) = some (.dK kv) ∧ RepP B (b.tab i) kv
  n0 : ∀ i, a.p i ≠ a.p0
  inj : ∀ i j, a.p i = a.p j → i = j
  f0 : B a.p0 = none ∧ H0 a.p0 = none ∧ ND W a.p0
  fp : ∀ i, B (a.p i) = none ∧ H0 (a.p i) = none ∧ ND W (a.p i)
theorem BookAt.grow {W : Wd} {H0 B H B' H' : Hp} {a : BkA} {b : BkD} (k : BookAt W H0 B H a b) (w : Grow W B H B' H') : BookAt W H0 B' H' a b := by
  obtain ⟨c, h1, h2⟩ := k.ex
  refine ⟨⟨c, w.hh _ _ k.f0.2.2 h1, h2.mono w.bb⟩, fun i => ?_, k.n0, k.inj, ⟨w.nw _ k.f0.1 (by rw [h1]; simp), k.f0.2⟩, fun i => ?_⟩
  · obtain ⟨kv, q1, q2⟩ := k.tab i
    exact ⟨kv, w.hh _ _ (k.fp i).2.2 q1, q2.mono w.bb⟩
  · obtain ⟨kv, q1, q2⟩ := k.tab i
    exact ⟨w.nw _ (k.fp i).1 (by rw [q1]; simp), (k.fp i).2⟩
def BkD.setT (b : BkD) (i : _root_.Fin 4) (k : Key) (d : D) : BkD := { b with tab := fun j => if j = i then putP (b.tab i) k d else b.tab j }
theorem BookAt.put {W : Wd} {H0 B H : Hp} {a : BkA} {b : BkD} (k : BookAt W H0 B H a b) (i : _root_.Fin 4) {kv : List (Key × V)} (h : H (a.p i) = some (.dK kv)) (key : Key) {d : D} {v : V} (r : Rep B d v) : BookAt W H0 B (upd H (a.p i) (.dK (putK kv key v))) a (b.setT i key d) := by
  obtain ⟨c, h1, h2⟩ := k.ex
  refine ⟨⟨c, by rw [upd_ne (k.n0 i).symm]; exact h1, h2⟩, fun j => ?_, k.n0, k.inj, k.f0, k.fp⟩
  by_cases e : j = i
  · subst e
    obtain ⟨kv', q1, q2⟩ := k.tab j
    rw [h] at q1; cases q1
    exact ⟨_, upd_same, by show RepP B (if j = j then _ else _) _; rw [if_pos rfl]; exact q2.put key r⟩
  · obtain ⟨kv', q1, q2⟩ := k.tab j
    exact ⟨kv', by rw [upd_ne (fun z => e (k.inj _ _ z))]; exact q1, by show RepP B (if j = i then _ else _) _; rw [if_neg e]; exact q2⟩
theorem BookAt.more {W : Wd} {H0 B H : Hp} {a : BkA} {b : BkD} (k : BookAt W H0 B H a b) {c : V} (h : H a.p0 = some (.dK (bookK a c b.many))) (n : Int) : BookAt W H0 B (upd H a.p0 (.dK (bookK a c n))) a { b with many := n } := by
  obtain ⟨c', h1, h2⟩ := k.ex
  have ec : c' = c := by
    rw [h] at h1
    have := HO.dK.inj (Option.some.inj h1)
    have := (List.cons.inj this).1
    exact ((Prod.mk.inj this).2).symm
  subst ec
  exact ⟨⟨c', upd_same, h2⟩, fun i => by obtain ⟨kv, q1, q2⟩ := k.tab i; exact ⟨kv, by rw [upd_ne (k.n0 i)]; exact q1, q2⟩, k.n0, k.inj, k.f0, k.fp⟩
end EC
end
/-! ## E8 -/
section
set_option Elab.async false
set_option linter.all false
set_option maxRecDepth 100000
set_option maxHeartbeats 4000000
/-! E8: a new book. -/
namespace EC
open PySem PySem.Spec PyProof.Rows L2
theorem hu2 {A : Around} {k : Nat} (hr : Room k A) : A.units + 2 < cLine := by have := hr.un; omega
theorem scratch {σ : L2.St} {W : Wd} {B H : Hp} {ρ : Rho} (s : Sub B H) (w : WOk W B H) (hd : ∀ (i : Nat) (d : D), ρ[i]? = some (.d d) → ∃ v, σ[i]? = some (some v) ∧ Rep B d v) (hk : ∀ (i : Nat) (x : Sl), ρ[i]? = some x → x = .no ∨ ∃ d, x = .d d) (hl : σ.length = ρ.length) : EnvG ⟨W, B, H, B, ρ⟩ σ H := by
  refine ⟨Grow.refl s w, hd, fun i xs h => ?_, fun i j xs ys l _ h _ _ _ => ?_, fun i h => ?_, hl⟩
  · rcases hk i _ h with z | ⟨d, z⟩ <;> cases z
  · rcases hk i _ h with z | ⟨d, z⟩ <;> cases z
  · rcases hk i _ h with z | ⟨d, z⟩ <;> cases z
section
variable {P : Program} {w : World} {K : PySem.W.Frag} {mg : Str → Option Value} {base : Heap}
theorem sc_law_new_book : FnScope ["_law_table", "_law_clash", "_law_pair"] ["_law_table"] (defScope st__law_new_book) := ⟨rfl, rfl, rfl, by decide +kernel, rfl, by decide +kernel, by decide +kernel⟩
def clashE : Rho → M D := (app (consL (asL (catE (asL (lcE [2] (itT (op2 ixS (var 0) (con (.int 1)))) (nameT 2) yes (tupE (consL (var 2) (consL (con (.bl true)) nilL))))) (asL (lcE [2] (itT (op2 ixS (var 0) (con (.int 1)))) (nameT 2) yes (tupE (consL (revT (var 2)) (consL (con (.bl true)) nilL))))))) nilL) dictTS)
def spNB : Sp := fun vs H Q _ => ∃ (W : Wd) (B : Hp) (tb : D) (v : V) (PD : D → Prop), Sub B H ∧ WOk W B H ∧ vs = [v] ∧ Rep B tb v ∧ clashE [.d tb, .no, .no] PD ∧
  ∀ dt, PD dt → ∀ (B' H' : Hp) (a : BkA), Grow W B H B' H' → BookAt W H B' H' a ⟨dt, 0, fun _ => []⟩ → Q (.ref a.p0) H'
theorem ok_law_new_book (T : Txt K mg) : ∃ (fd : FuncData) (ps : List Str), FnOk P w K mg base CX0 1 (He.ga K "_law_new_book") fd ps spNB ∧ Binds K fd ps [] := by
  obtain ⟨fdd, F⟩ := T.says.def_ 47 (d := df__law_new_book) rfl
  refine ⟨fdd, ["_law_table"], ?_, FunD.bindsN F fun _ _ _ _ _ _ us hl => match us, hl with | [_], _ => rfl⟩
  have F : FnP K "_law_new_book" st__law_new_book (He.ga K "_law_new_book") fdd := F
  refine F.ok sc_law_new_book (fun vs H Q E h => ?_) (fun cdv A outer s' H vs Q E hr h => ?_)
  · obtain ⟨W, B, tb, v, PD, _, _, rfl, _⟩ := h; rfl
  have first : PS (cxOf CX0 P w K mg base ["_law_table", "_law_clash", "_law_pair"] "_law_new_book" (defScope st__law_new_book) (He.ga K "_law_new_book") cdv A outer s' H E).nox ((defBody st__law_new_book).getD 0 (.Pass ⟨0, 0, 0, 0⟩)) (tS (setS 1 clashE)) :=
    (s_set (ps_set (i := 1) sc_law_new_book.nd rfl (.inl rfl) (d_callTy (c_dictT rfl (hu2 hr)) (by rfl) (T.free 78 rfl) bt_dict (was_cons (fw (f_cat (fw (f_lc rfl sc_law_new_book.nd (ij (i_tup (d_ix (sw (dv (pv 0))) (sw dc_int)))) (blkOk_by (own := [("_law_pair", 2)]) (by kernel_rfl)) (fun _ _ _ _ _ => (g_name (pg_name (i := 2) sc_law_new_book.nd rfl (.inl rfl)))) (fun _ _ _ _ _ => ts_nil) (fun _ _ _ _ _ => (d_tup (das_cons (dv (pv 2)) (das_cons dc_bl das_nil)))) (by decide))) (fw (f_lc rfl sc_law_new_book.nd (ij (i_tup (d_ix (sw (dv (pv 0))) (sw dc_int)))) (blkOk_by (own := [("_law_pair", 2)]) (by kernel_rfl)) (fun _ _ _ _ _ => (g_name (pg_name (i := 2) sc_law_new_book.nd rfl (.inl rfl)))) (fun _ _ _ _ _ => ts_nil) (fun _ _ _ _ _ => (d_tup (das_cons (d_revT (dv (pv 2))) (das_cons dc_bl das_nil)))) (by decide))))) was_nil))))
  have body : PSs (cxOf CX0 P w K mg base ["_law_table", "_law_clash", "_law_pair"] "_law_new_book" (defScope st__law_new_book) (He.ga K "_law_new_book") cdv A outer s' H E).nox (defBody st__law_new_book) (tSeq (tS (setS 1 clashE)) _) :=
    pss_cons first (pss_one (ps_ret (pe_disp (pps_cons pe_str (pv 1) (pps_cons pe_str pe_int (pps_cons pe_str pe_dnewK (pps_cons pe_str pe_dnewK (pps_cons pe_str pe_dnewK (pps_cons pe_str pe_dnewK pps_nil)))))) (by rfl) (by rfl) (by simp) (by decide))))
  refine ⟨_, PSs.nox body, ?_⟩
  clear body first
  obtain ⟨W, B, tb, v, PD, sb, wk, rfl, rv, hf, kk⟩ := h
  rw [show L2.start ["_law_table", "_law_clash", "_law_pair"] [v] = [some v, none, none] from rfl]
  have E0 : EnvG ⟨W, B, H, B, [.d tb, .no, .no]⟩ [some v, none, none] H := scratch sb wk (fun i d h => by
    match i, h with
    | 0, h => cases h; exact ⟨v, rfl, rv⟩
    | 1, h => cases h
    | 2, h => cases h
    | i + 3, h => simp at h) (fun i x h => by
    match i, h with
    | 0, h => cases h; exact .inr ⟨_, rfl⟩
    | 1, h => cases h; exact .inl rfl
    | 2, h => cases h; exact .inl rfl
    | i + 3, h => simp at h) rfl
  refine ⟨⟨W, B, H, B, [.d tb, .no, .no]⟩, fun r => (match r with | .nx [_, .d d, _] => PD d | _ => False), E0, hf, fun ρ' p' σ' B' H' s1 E1 => ?_, fun ρ' p' => p'.elim, fun ρ' p' => p'.elim, fun d p' => p'.elim⟩
  match ρ', p', E1 with
  | [x0, .d dt, x2], p', E1 =>
  obtain ⟨c, hc, rc⟩ := E1.dat 1 dt rfl
  intro p0 h0
  refine ⟨c, hc, ?_⟩
  intro p1 h1 p2 h2 p3 h3 p4 h4
  have wk' := E1.r.wk
  have g0 := E1.r
  -- five new dicts
  let H0' := upd H' p0 (.dK [])
  let H1' := upd H0' p1 (.dK [])
  let H2' := upd H1' p2 (.dK [])
  let H3' := upd H2' p3 (.dK [])
  let H4' := upd H3' p4 (.dK [])
  have a0 : H0' p0 = some (.dK []) := upd_same
  have n10 : p0 ≠ p1 := ne_of_none a0 h1
  have a10 : H1' p0 = some (.dK []) := by show upd H0' p1 _ p0 = _; rw [upd_ne n10]; exact a0
  have a11 : H1' p1 = some (.dK []) := upd_same
  have n20 : p0 ≠ p2 := ne_of_none a10 h2
  have n21 : p1 ≠ p2 := ne_of_none a11 h2
  have a20 : H2' p0 = some (.dK []) := by show upd H1' p2 _ p0 = _; rw [upd_ne n20]; exact a10
  have a21 : H2' p1 = some (.dK []) := by show upd H1' p2 _ p1 = _; rw [upd_ne n21]; exact a11
  have a22 : H2' p2 = some (.dK []) := upd_same
  have n30 : p0 ≠ p3 := ne_of_none a20 h3
  have n31 : p1 ≠ p3 := ne_of_none a21 h3
  have n32 : p2 ≠ p3 := ne_of_none a22 h3
  have a30 : H3' p0 = some (.dK []) := by show upd H2' p3 _ p0 = _; rw [upd_ne n30]; exact a20
  have a31 : H3' p1 = some (.dK []) := by show upd H2' p3 _ p1 = _; rw [upd_ne n31]; exact a21
  have a32 : H3' p2 = some (.dK []) := by show upd H2' p3 _ p2 = _; rw [upd_ne n32]; exact a22
  have a33 : H3' p3 = some (.dK []) := upd_same
  have n40 : p0 ≠ p4 := ne_of_none a30 h4
  have n41 : p1 ≠ p4 := ne_of_none a31 h4
  have n42 : p2 ≠ p4 := ne_of_none a32 h4
  have n43 : p3 ≠ p4 := ne_of_none a33 h4
  have a40 : H4' p0 = some (.dK []) := by show upd H3' p4 _ p0 = _; rw [upd_ne n40]; exact a30
  have a41 : H4' p1 = some (.dK []) := by show upd H3' p4 _ p1 = _; rw [upd_ne n41]; exact a31
  have a42 : H4' p2 = some (.dK []) := by show upd H3' p4 _ p2 = _; rw [upd_ne n42]; exact a32
  have a43 : H4' p3 = some (.dK []) := by show upd H3' p4 _ p3 = _; rw [upd_ne n43]; exact a33
  have a44 : H4' p4 = some (.dK []) := upd_same
  refine ⟨a40, [(.inr "clash", c), (.inr "many", .int 0), (.inr "steps", .ref p1), (.inr "ends", .ref p2), (.inr "kept", .ref p3), (.inr "backs", .ref p4)], rfl, (show 6 ≤ 15 by decide), ?_⟩
  have none1 : H' p1 = none := by
    cases z : H' p1 with
    | none => rfl
    | some o => rw [show upd H' p0 (.dK []) p1 = H' p1 from upd_ne n10.symm, z] at h1; cases h1
  have none2 : H' p2 = none := by
    cases z : H' p2 with
    | none => rfl
    | some o => rw [show upd (upd H' p0 (.dK [])) p1 (.dK []) p2 = H' p2 from by rw [upd_ne n21.symm, upd_ne n20.symm], z] at h2; cases h2
  have none3 : H' p3 = none := by
    cases z : H' p3 with
    | none => rfl
    | some o => rw [show upd (upd (upd H' p0 (.dK [])) p1 (.dK [])) p2 (.dK []) p3 = H' p3 from by rw [upd_ne n32.symm, upd_ne n31.symm, upd_ne n30.symm], z] at h3; cases h3
  have none4 : H' p4 = none := by
    cases z : H' p4 with
    | none => rfl
    | some o => rw [show upd (upd (upd (upd H' p0 (.dK [])) p1 (.dK [])) p2 (.dK [])) p3 (.dK []) p4 = H' p4 from by rw [upd_ne n43.symm, upd_ne n42.symm, upd_ne n41.symm, upd_ne n40.symm], z] at h4; cases h4
  have w1 : Grow W B H B' (upd H4' p0 (.dK (mergeK [] [(.inr "clash", c), (.inr "many", .int 0), (.inr "steps", .ref p1), (.inr "ends", .ref p2), (.inr "kept", .ref p3), (.inr "backs", .ref p4)]))) := by
    have wr : ∀ {HH : Hp} {q : Addr} {o : HO}, Grow W B H B' HH → H' q = none → Grow W B H B' (upd HH q o) := fun g hq => g.wr (g0.pn hq) (g0.bh.none hq) (wk'.nd hq)
    exact wr (wr (wr (wr (wr (wr g0 h0) none1) none2) none3) none4) h0
  have all : ∀ q, H' q = none → B' q = none ∧ H q = none ∧ ND W q := fun q hq => ⟨g0.bh.none hq, g0.pn hq, wk'.nd hq⟩
  refine kk dt p' B' _ ⟨p0, fun i => match i with | 0 => p1 | 1 => p2 | 2 => p3 | 3 => p4⟩ w1 ⟨⟨c, by rw [upd_same]; rfl, rc⟩, fun i => ?_, fun i => ?_, fun i j e => ?_, all p0 h0, fun i => ?_⟩
  · refine ⟨[], ?_, rfl⟩
    match i with
    | 0 => show upd H4' p0 _ p1 = _; rw [upd_ne n10.symm]; exact a41
    | 1 => show upd H4' p0 _ p2 = _; rw [upd_ne n20.symm]; exact a42
    | 2 => show upd H4' p0 _ p3 = _; rw [upd_ne n30.symm]; exact a43
    | 3 => show upd H4' p0 _ p4 = _; rw [upd_ne n40.symm]; exact a44
  · match i with
    | 0 => exact n10.symm
    | 1 => exact n20.symm
    | 2 => exact n30.symm
    | 3 => exact n40.symm
  · match i, j, e with
    | 0, 0, _ => rfl
    | 1, 1, _ => rfl
    | 2, 2, _ => rfl
    | 3, 3, _ => rfl
    | 0, 1, e => exact absurd e n21
    | 0, 2, e => exact absurd e n31
    | 0, 3, e => exact absurd e n41
    | 1, 0, e => exact absurd e n21.symm
    | 1, 2, e => exact absurd e n32
    | 1, 3, e => exact absurd e n42
    | 2, 0, e => exact absurd e n31.symm
    | 2, 1, e => exact absurd e n32.symm
    | 2, 3, e => exact absurd e n43
    | 3, 0, e => exact absurd e n41.symm
    | 3, 1, e => exact absurd e n42.symm
    | 3, 2, e => exact absurd e n43.symm
  · match i with
    | 0 => exact all p1 none1
    | 1 => exact all p2 none2
    | 2 => exact all p3 none3
    | 3 => exact all p4 none4
end
end EC
end
/-! ## E9 -/
section
set_option Elab.async false
set_option linter.all false
set_option maxRecDepth 100000
set_option maxHeartbeats 4000000
/-! E9: an event is noted. -/
namespace EC
open PySem PySem.Spec PyProof.Rows L2
def noteD (b : BkD) : D → Option BkD
  | .tup [.str k, t, x] => if k = "do" then some { b.setT 0 (.inl b.many) (.tup [t, x]) with many := b.many + 1 } else none
  | .tup [.str k, .int t] => if k = "keep" then some { (b.setT 1 (.inl t) (.str k)).setT 2 (.inl t) (.int b.many) with many := b.many + 1 } else if k = "drop" then some { b.setT 1 (.inl t) (.str k) with many := b.many + 1 } else none
  | _ => none
theorem note_put {W : Wd} {B0 H0 B H : Hp} {a : BkA} {b : BkD} (g : Grow W B0 H0 B H) (k : BookAt W H0 B H a b) (i : _root_.Fin 4) (key : Key) {d : D} {v : V} (r : Rep B d v) :
    ∃ kv, H (a.p i) = some (.dK kv) ∧ kv.length = (b.tab i).length ∧ Grow W B0 H0 B (upd H (a.p i) (.dK (putK kv key v))) ∧ BookAt W H0 B (upd H (a.p i) (.dK (putK kv key v))) a (b.setT i key d) := by
  obtain ⟨kv, h1, h2⟩ := k.tab i
  exact ⟨kv, h1, h2.length, g.wr (k.fp i).2.1 (k.fp i).1 (k.fp i).2.2, k.put i h1 key r⟩
theorem note_many {W : Wd} {B0 H0 B H : Hp} {a : BkA} {b : BkD} (g : Grow W B0 H0 B H) (k : BookAt W H0 B H a b) (n : Int) :
    ∃ c, H a.p0 = some (.dK (bookK a c b.many)) ∧ Grow W B0 H0 B (upd H a.p0 (.dK (bookK a c n))) ∧ BookAt W H0 B (upd H a.p0 (.dK (bookK a c n))) a { b with many := n } := by
  obtain ⟨c, h1, h2⟩ := k.ex
  exact ⟨c, h1, g.wr k.f0.2.1 k.f0.1 k.f0.2.2, k.more h1 n⟩
theorem envN {W : Wd} {B0 H0 B H : Hp} {p : Addr} {ev : D} {v : V} (g : Grow W B0 H0 B H) (r : Rep B ev v) : EnvG ⟨W, B0, H0, B, [.no, .d ev]⟩ [some (.ref p), some v] H := by
  refine ⟨g, fun i d h => ?_, fun i xs h => ?_, fun i j xs ys l _ h _ _ _ => ?_, fun i h => ?_, rfl⟩
  · match i, h with
    | 0, h => cases h
    | 1, h => cases h; exact ⟨v, rfl, r⟩
    | i + 2, h => simp at h
  · match i, h with
    | 0, h => cases h
    | 1, h => cases h
    | i + 2, h => simp at h
  · match i, h with
    | 0, h => cases h
    | 1, h => cases h
    | i + 2, h => simp at h
  · match i, h with
    | 0, h => cases h
    | 1, h => cases h
    | i + 2, h => simp at h
theorem str_shp (x : Str) (h : PyData.strOk x = true) : SeqAt.shaped (.str x) = true := by
  unfold SeqAt.shaped
  rw [Bool.and_eq_true]
  exact ⟨by simp [PyData.canLay0, h], by simp [PyData.depth]⟩
theorem eqv_str (x y : Str) : PyData.eqv (.str x) (.str y) = (x == y) := by simp [PyData.eqv]
/-- an event's word asked -/
theorem tst_ev {g : G} {σ : L2.St} {H : Hp} {ds : List D} {k z : Str} {Q : Bool → Hp → Prop} (E : EnvG g σ H) (hr : g.ρ[1]? = some (.d (.tup ds))) (h0 : atI ds 0 = some (.str k)) (hk : PyData.strOk k = true) (hz : PyData.strOk z = true) (c : ∀ B' H', Grow g.W g.B H B' H' → Q (k == z) H') :
    tT (tst (op2 eqS (op2 ixS (var 1) (con (.int 0))) (con (.str z)))) σ H Q := by
  refine ⟨g, fun b => b = (k == z), E, ?_, fun b pb B' H' w => by rw [show b = (k == z) from pb]; exact c B' H' w⟩
  show var 1 g.ρ fun x => ixS x (.int 0) fun d => eqS d (.str z) fun d => asB d fun b => b = (k == z)
  unfold var
  rw [hr]
  show (match atI ds 0 with | some d => ret d | none => die) _
  rw [h0]
  exact ⟨⟨str_shp k hk, str_shp z hz⟩, eqv_str k z⟩
/-- an item of the event -/
theorem ix_ev {g : G} {σ : L2.St} {H : Hp} {ds : List D} {i : Int} {d : D} {Q : VK} (E : EnvG g σ H) (hr : g.ρ[1]? = some (.d (.tup ds))) (h0 : atI ds i = some d) (c : ∀ v B' H', Grow g.W g.B H B' H' → Rep B' d v → Q v H') :
    tD (op2 ixS (var 1) (con (.int i))) σ H Q := by
  refine ⟨g, fun x => x = d, E, ?_, fun x px v B' H' w r => by rw [show x = d from px] at r; exact c v B' H' w r⟩
  show var 1 g.ρ fun x => ixS x (.int i) fun x => x = d
  unfold var
  rw [hr]
  show (match atI ds i with | some d => ret d | none => die) _
  rw [h0]
  rfl
def spNote : Sp := fun vs H Q _ => ∃ (W : Wd) (B0 H0 B : Hp) (a : BkA) (b b' : BkD) (ev : D) (v : V), Grow W B0 H0 B H ∧ BookAt W H0 B H a b ∧ vs = [.ref a.p0, v] ∧ Rep B ev v ∧ noteD b ev = some b' ∧ (∀ i, (b.tab i).length < 1000000) ∧
  ∀ B' H', Sub B B' → Grow W B0 H0 B' H' → BookAt W H0 B' H' a b' → Q .non H'
section
variable {P : Program} {w : World} {K : PySem.W.Frag} {mg : Str → Option Value} {base : Heap}
theorem sc_law_noted : FnScope ["_law_book", "_law_event"] ["_law_book", "_law_event"] (defScope st__law_noted) := ⟨rfl, rfl, rfl, by decide +kernel, rfl, by decide +kernel, by decide +kernel⟩
theorem ok_law_noted (T : Txt K mg) : ∃ (fd : FuncData) (ps : List Str), FnOk P w K mg base CX0 1 (He.ga K "_law_noted") fd ps spNote ∧ Binds K fd ps [] := by
  obtain ⟨fdd, F⟩ := T.says.def_ 48 (d := df__law_noted) rfl
  refine ⟨fdd, ["_law_book", "_law_event"], ?_, FunD.bindsN F fun _ _ _ _ _ _ us hl => match us, hl with | [_, _], _ => rfl⟩
  have F : FnP K "_law_noted" st__law_noted (He.ga K "_law_noted") fdd := F
  refine F.ok sc_law_noted (fun vs H Q E h => ?_) (fun cdv A outer s' H vs Q E hr h => ?_)
  · obtain ⟨W, B0, H0, B, a, b, b', ev, v, _, _, rfl, _⟩ := h; rfl
  have hu := hu_of hr
  have body : PSs (cxOf CX0 P w K mg base ["_law_book", "_law_event"] "_law_noted" (defScope st__law_noted) (He.ga K "_law_noted") cdv A outer s' H E).nox (defBody st__law_noted)
      (tSeq (tIfS (tT (tst (op2 eqS (op2 ixS (var 1) (con (.int 0))) (con (.str "do"))))) (sDPut _ _ (tD (sliT (var 1) (part (con (.int 1))) noPart)))
        (tIfS (tT (tst (op2 eqS (op2 ixS (var 1) (con (.int 0))) (con (.str "back"))))) (fun _ _ _ => False)
          (tSeq (sDPut _ (tD (op2 ixS (var 1) (con (.int 1)))) (tD (op2 ixS (var 1) (con (.int 0))))) (tIfS (tT (tst (op2 eqS (op2 ixS (var 1) (con (.int 0))) (con (.str "keep"))))) (sDPut _ (tD (op2 ixS (var 1) (con (.int 1)))) _) tNext)))) _) :=
    pss_cons (ps_if (d_cmpT (o_eq hr.units) (sw (d_ix (sw (dv (pv 1))) (sw dc_int))) (sw dc_str)) (pss_one (ps_dput hu (pe_dget hu (pv 0) pe_str (fun _ _ => rfl)) (pe_dget hu (pv 0) pe_str (fun _ _ => rfl)) (d_sliT (dv (pv 1)) (p_some (sw dc_int)) p_none) rfl))
      (pss_one (ps_if (d_cmpT (o_eq hr.units) (sw (d_ix (sw (dv (pv 1))) (sw dc_int))) (sw dc_str)) ⟨fun _ _ _ _ _ _ z => z.elim⟩
        (pss_cons (ps_dput hu (pe_dget hu (pv 0) pe_str (fun _ _ => rfl)) (d_ix (sw (dv (pv 1))) (sw dc_int)) (d_ix (sw (dv (pv 1))) (sw dc_int)) rfl)
          (pss_one (ps_if (d_cmpT (o_eq hr.units) (sw (d_ix (sw (dv (pv 1))) (sw dc_int))) (sw dc_str)) (pss_one (ps_dput hu (pe_dget hu (pv 0) pe_str (fun _ _ => rfl)) (d_ix (sw (dv (pv 1))) (sw dc_int)) (pe_dget hu (pv 0) pe_str (fun _ _ => rfl)) rfl)) pss_nil))))))
    (pss_one (ps_dput hu (pv 0) pe_str (pe_op op_add (pe_dget hu (pv 0) pe_str (fun _ _ => rfl)) pe_int) rfl))
  refine ⟨_, PSs.nox body, ?_⟩
  clear body
  obtain ⟨W, B0, H0, B, a, b, b', ev, v, g, k, rfl, rv, hb, hz, kk⟩ := h
  rw [show L2.start ["_law_book", "_law_event"] [V.ref a.p0, v] = [some (.ref a.p0), some v] from rfl]
  -- the last row: one event more
  have last : ∀ (B1 H1 : Hp) (b1 : BkD), Sub B B1 → Grow W B0 H0 B1 H1 → BookAt W H0 B1 H1 a b1 → b1.many = b.many → { b1 with many := b.many + 1 } = b' → sDPut (tVar 0) (tC (.str "many")) (tOp (rI0 fun i j => .int (i + j)) (tDGet (tVar 0) (tC (.str "many"))) (tC (.int 1))) { nx := fun _ H' => Q .non H', rt := Q } [some (.ref a.p0), some v] H1 := fun B1 H1 b1 s1 g1 k1 em eb => by
    obtain ⟨c, h1, g2, k2⟩ := note_many g1 k1 (b1.many + 1)
    have t1 := pOp0 (f := fun i j => i + j) (pDG (σ := [some (V.ref a.p0), some v]) (i := 0) rfl h1 (book_many a c b1.many)) (pC (z := 1))
    refine t1 _ ⟨_, rfl, a.p0, _, rfl, DPut.k (k := .inr "many") h1 (show 6 < sizeLine by decide), ?_⟩
    rw [book_put]
    exact kk B1 _ s1 g2 (by rw [← eb, ← em]; exact k2)
  have dg : ∀ (H1 : Hp) (b1 : BkD) (B1 : Hp) (i : _root_.Fin 4) (Q1 : VK), BookAt W H0 B1 H1 a b1 → Q1 (.ref (a.p i)) H1 → tDGet (tVar 0) (tC (.str (bkNm i))) [some (.ref a.p0), some v] H1 Q1 := fun H1 b1 B1 i Q1 k1 q => by
    obtain ⟨c, h1, _⟩ := k1.ex
    exact ⟨_, rfl, a.p0, _, rfl, by rw [← book_tab a c b1.many i]; exact .inl ⟨_, .inr (bkNm i), .inl h1, rfl, rfl⟩, q⟩
  have dm : ∀ (H1 : Hp) (b1 : BkD) (B1 : Hp) (Q1 : VK), BookAt W H0 B1 H1 a b1 → Q1 (.int b1.many) H1 → tDGet (tVar 0) (tC (.str "many")) [some (.ref a.p0), some v] H1 Q1 := fun H1 b1 B1 Q1 k1 q => by
    obtain ⟨c, h1, _⟩ := k1.ex
    exact pDG (i := 0) rfl h1 (book_many a c b1.many) _ q
  unfold noteD at hb
  split at hb
  · -- a step
    rename_i kd t x
    split at hb
    · rename_i hk
      subst hk
      cases hb
      have E1 := envN (p := a.p0) g rv
      refine tst_ev (k := "do") E1 rfl rfl (by decide +kernel) (by decide +kernel) fun B1 H1 w1 => ?_
      have k1 := k.grow w1
      have g1 := g.trans w1
      have E2 := E1.grow w1
      refine iteT ?_
      refine ⟨_, fun d => d = .tup [t, x], E2, ?_, fun d pd u B2 H2 w2 r2 => ?_⟩
      · rfl
      rw [show d = .tup [t, x] from pd] at r2
      have k2 := k1.grow w2
      obtain ⟨kv, q1, q2, q3, q4⟩ := note_put (g1.trans w2) k2 0 (.inl b.many) r2
      refine dg H2 b B2 0 _ k2 (dm H2 b B2 _ k2 ⟨a.p 0, _, rfl, DPut.k (k := .inl b.many) q1 (by rw [q2]; exact mil_lt (hz 0)), ?_⟩)
      exact last B2 _ _ (w1.bb.tr w2.bb) q3 q4 rfl rfl
    · cases hb
  · -- an end
    rename_i kd t
    have E1 := envN (p := a.p0) g rv
    have ends : kd ≠ "do" ∧ kd ≠ "back" ∧ PyData.strOk kd = true := by
      split at hb
      · rename_i hk; subst hk; exact ⟨by decide +kernel, by decide +kernel, by decide +kernel⟩
      · split at hb
        · rename_i hk; subst hk; exact ⟨by decide +kernel, by decide +kernel, by decide +kernel⟩
        · cases hb
    refine tst_ev (k := kd) E1 rfl rfl ends.2.2 (by decide +kernel) fun B1 H1 w1 => ?_
    rw [beq_eq_false_iff_ne.mpr ends.1]
    refine iteF ?_
    have E2 := E1.grow w1
    refine tst_ev (k := kd) E2 rfl rfl ends.2.2 (by decide +kernel) fun B2 H2 w2 => ?_
    rw [beq_eq_false_iff_ne.mpr ends.2.1]
    refine iteF ?_
    have E3 := E2.grow w2
    have k3 := (k.grow w1).grow w2
    have g3 := (g.trans w1).trans w2
    refine ix_ev E3 rfl rfl fun u B3 H3 w3 r3 => ?_
    have k4 := k3.grow w3
    have g4 := g3.trans w3
    have E4 := E3.grow w3
    refine dg H3 b B3 1 _ k4 ?_
    refine ix_ev E4 rfl rfl fun u2 B4 H4 w4 r4 => ?_
    have k5 := k4.grow w4
    have g5 := g4.trans w4
    rw [show u2 = V.int t from r4]
    obtain ⟨kv, q1, q2, q3, q4⟩ := note_put g5 k5 1 (.inl t) (r3.mono w4.bb)
    refine ⟨a.p 1, _, rfl, DPut.k (k := .inl t) q1 (by rw [q2]; exact mil_lt (hz 1)), ?_⟩
    have s4 : Sub B B4 := ((w1.bb.tr w2.bb).tr w3.bb).tr w4.bb
    have E5 := envN (p := a.p0) q3 (rv.mono s4)
    refine tst_ev (k := kd) E5 rfl rfl ends.2.2 (by decide +kernel) fun B6 H6 w6 => ?_
    have k7 := q4.grow w6
    have g7 := q3.trans w6
    by_cases hkeep : kd = "keep"
    · subst hkeep
      rw [if_pos rfl] at hb
      cases hb
      refine iteT ?_
      refine dm H6 _ B6 _ k7 (dg H6 _ B6 2 _ k7 ?_)
      refine ix_ev (E5.grow w6) rfl rfl fun u3 B7 H7 w7 r7 => ?_
      rw [show u3 = V.int t from r7]
      obtain ⟨kv2, z1, z2, z3, z4⟩ := note_put (g7.trans w7) (k7.grow w7) 2 (.inl t) (d := .int b.many) (v := .int b.many) rfl
      have e2 : (b.setT 1 (.inl t) (.str "keep")).tab 2 = b.tab 2 := rfl
      refine ⟨a.p 2, _, rfl, DPut.k (k := .inl t) z1 (by rw [z2, e2]; exact mil_lt (hz 2)), ?_⟩
      exact last B7 _ _ ((s4.tr w6.bb).tr w7.bb) z3 z4 rfl rfl
    · rw [if_neg hkeep] at hb
      split at hb
      · cases hb
        rw [beq_eq_false_iff_ne.mpr hkeep]
        refine iteF ?_
        exact last B6 H6 _ (s4.tr w6.bb) g7 k7 rfl rfl
      · cases hb
  · cases hb
end
end EC
end
/-! ## E10 -/
section
set_option Elab.async false
set_option linter.all false
set_option maxRecDepth 100000
set_option maxHeartbeats 4000000
/-! E10: a book is read. -/
namespace EC
open PySem PySem.Spec PyProof.Rows L2
def readB : List D → BkD → Option BkD
  | [], b => some b
  | e :: es, b => (noteD b e).bind (readB es)
/-- pairs as a dict -/
def pK (l : List (Key × D)) : D := .dk (l.map (·.1)) (l.map (·.2))
def bookD (b : BkD) : D := .dk [.inr "clash", .inr "many", .inr "steps", .inr "ends", .inr "kept", .inr "backs"] [b.clash, .int b.many, .fk ((b.tab 0).map (·.1)) ((b.tab 0).map (·.2)), pK (b.tab 1), pK (b.tab 2), pK (b.tab 3)]
def F_law_read_book : List Sl → M D
  | [.d tb, .d (.tup evs)] => fun P => evs.length ≤ 10000 ∧ clashE [.d tb, .no, .no] fun dt => ∃ b, readB evs ⟨dt, 0, fun _ => []⟩ = some b ∧ P (bookD b)
  | _ => die
theorem noteD_len {b b' : BkD} {e : D} (h : noteD b e = some b') (i : _root_.Fin 4) : (b'.tab i).length ≤ (b.tab i).length + 1 := by
  have st : ∀ (b : BkD) (j : _root_.Fin 4) (k : Key) (d : D), ((b.setT j k d).tab i).length ≤ (b.tab i).length + (if i = j then 1 else 0) := fun b j k d => by
    show (if i = j then putP (b.tab j) k d else b.tab i).length ≤ _
    by_cases q : i = j
    · subst q; rw [if_pos rfl, if_pos rfl]; exact putP_length _ _ _
    · rw [if_neg q, if_neg q]; exact Nat.le_refl _
  unfold noteD at h
  split at h
  · split at h
    · cases h
      have := st b 0 (.inl b.many) (.tup [‹D›, ‹D›])
      refine Nat.le_trans (st _ _ _ _) ?_
      split <;> omega
    · cases h
  · split at h
    · cases h
      rename_i k t hk
      refine Nat.le_trans (st (b.setT 1 (.inl t) (.str k)) 2 _ _) ?_
      have := st b 1 (.inl t) (.str k)
      by_cases q1 : i = 1
      · subst q1; rw [if_neg (by decide)]; rw [if_pos rfl] at this; omega
      · rw [if_neg q1] at this; split <;> omega
    · split at h
      · cases h
        refine Nat.le_trans (st _ _ _ _) ?_
        split <;> omega
      · cases h
  · cases h
theorem book_rep {W : Wd} {B0 H0 B H : Hp} {a : BkA} {b : BkD} (g : Grow W B0 H0 B H) (k : BookAt W H0 B H a b) {kv0 : List (Key × V)} (h0 : H (a.p 0) = some (.dK kv0)) (od : Obj) :
    ∃ B', Grow W B0 H0 B' (upd H (a.p 0) (.frz od (.dK kv0))) ∧ Rep B' (bookD b) (.ref a.p0) := by
  have g1 : Grow W B0 H0 B (upd H (a.p 0) (.frz od (.dK kv0))) := g.wr (k.fp 0).2.1 (k.fp 0).1 (k.fp 0).2.2
  obtain ⟨c, hc, rc⟩ := k.ex
  obtain ⟨kv0', q0, r0⟩ := k.tab 0
  rw [h0] at q0; cases q0
  obtain ⟨kv1, q1, r1⟩ := k.tab 1
  obtain ⟨kv2, q2, r2⟩ := k.tab 2
  obtain ⟨kv3, q3, r3⟩ := k.tab 3
  have ne : ∀ i j, i ≠ j → a.p i ≠ a.p j := fun i j h e => h (k.inj _ _ e)
  have e0 : upd H (a.p 0) (.frz od (.dK kv0)) (a.p 0) = some (.frz od (.dK kv0)) := upd_same
  have e1 : upd H (a.p 0) (.frz od (.dK kv0)) (a.p 1) = some (.dK kv1) := by rw [upd_ne (ne 1 0 (by decide))]; exact q1
  have e2 : upd H (a.p 0) (.frz od (.dK kv0)) (a.p 2) = some (.dK kv2) := by rw [upd_ne (ne 2 0 (by decide))]; exact q2
  have e3 : upd H (a.p 0) (.frz od (.dK kv0)) (a.p 3) = some (.dK kv3) := by rw [upd_ne (ne 3 0 (by decide))]; exact q3
  have ec : upd H (a.p 0) (.frz od (.dK kv0)) a.p0 = some (.dK (bookK a c b.many)) := by rw [upd_ne (k.n0 0).symm]; exact hc
  generalize upd H (a.p 0) (.frz od (.dK kv0)) = H1 at g1 e0 e1 e2 e3 ec ⊢
  have w0 := g1.own (k.fp 0).2.1 (k.fp 0).1 e0 (k.fp 0).2.2
  have b1 : upd B (a.p 0) (.frz od (.dK kv0)) (a.p 1) = none := by rw [upd_ne (ne 1 0 (by decide))]; exact (k.fp 1).1
  have w1 := w0.own (k.fp 1).2.1 b1 e1 (k.fp 1).2.2
  have b2 : upd (upd B (a.p 0) (.frz od (.dK kv0))) (a.p 1) (.dK kv1) (a.p 2) = none := by rw [upd_ne (ne 2 1 (by decide)), upd_ne (ne 2 0 (by decide))]; exact (k.fp 2).1
  have w2 := w1.own (k.fp 2).2.1 b2 e2 (k.fp 2).2.2
  have b3 : upd (upd (upd B (a.p 0) (.frz od (.dK kv0))) (a.p 1) (.dK kv1)) (a.p 2) (.dK kv2) (a.p 3) = none := by rw [upd_ne (ne 3 2 (by decide)), upd_ne (ne 3 1 (by decide)), upd_ne (ne 3 0 (by decide))]; exact (k.fp 3).1
  have w3 := w2.own (k.fp 3).2.1 b3 e3 (k.fp 3).2.2
  have b4 : upd (upd (upd (upd B (a.p 0) (.frz od (.dK kv0))) (a.p 1) (.dK kv1)) (a.p 2) (.dK kv2)) (a.p 3) (.dK kv3) a.p0 = none := by
    rw [upd_ne (k.n0 3).symm, upd_ne (k.n0 2).symm, upd_ne (k.n0 1).symm, upd_ne (k.n0 0).symm]; exact k.f0.1
  have w4 := w3.own k.f0.2.1 b4 ec k.f0.2.2
  refine ⟨_, w4, ?_⟩
  generalize hBf : upd (upd (upd (upd (upd B (a.p 0) (.frz od (.dK kv0))) (a.p 1) (.dK kv1)) (a.p 2) (.dK kv2)) (a.p 3) (.dK kv3)) a.p0 (.dK (bookK a c b.many)) = Bf at w4
  have sb : Sub B Bf := by
    rw [← hBf]
    intro x o q
    rw [upd_ne (ne_of_none q k.f0.1), upd_ne (ne_of_none q (k.fp 3).1), upd_ne (ne_of_none q (k.fp 2).1), upd_ne (ne_of_none q (k.fp 1).1), upd_ne (ne_of_none q (k.fp 0).1)]
    exact q
  have f0 : Bf (a.p 0) = some (.frz od (.dK kv0)) := by rw [← hBf, upd_ne (k.n0 0), upd_ne (ne 0 3 (by decide)), upd_ne (ne 0 2 (by decide)), upd_ne (ne 0 1 (by decide)), upd_same]
  have f1 : Bf (a.p 1) = some (.dK kv1) := by rw [← hBf, upd_ne (k.n0 1), upd_ne (ne 1 3 (by decide)), upd_ne (ne 1 2 (by decide)), upd_same]
  have f2 : Bf (a.p 2) = some (.dK kv2) := by rw [← hBf, upd_ne (k.n0 2), upd_ne (ne 2 3 (by decide)), upd_same]
  have f3 : Bf (a.p 3) = some (.dK kv3) := by rw [← hBf, upd_ne (k.n0 3), upd_same]
  have f4 : Bf a.p0 = some (.dK (bookK a c b.many)) := by rw [← hBf, upd_same]
  have rk : ∀ {l : List (Key × D)} {kv : List (Key × V)} {p : Addr}, RepP B l kv → Bf p = some (.dK kv) → Rep Bf (pK l) (.ref p) := fun r h => by
    obtain ⟨z1, z2⟩ := (r.mono sb).vals
    exact ⟨_, _, rfl, .inl (by rw [h, ← z1]), by rw [List.length_map, List.length_map], z2⟩
  obtain ⟨z1, z2⟩ := (r0.mono sb).vals
  exact ⟨a.p0, [c, .int b.many, .ref (a.p 0), .ref (a.p 1), .ref (a.p 2), .ref (a.p 3)], rfl, .inl f4, rfl, c, _, rfl, rc.mono sb, _, _, rfl, rfl, _, _, rfl, ⟨_, _, od, rfl, by rw [f0, ← z1], by rw [List.length_map, List.length_map], z2⟩, _, _, rfl, rk r1 f1, _, _, rfl, rk r2 f2, _, _, rfl, rk r3 f3, rfl⟩
end EC
end
/-! ## E11 -/
section
set_option Elab.async false
set_option linter.all false
set_option maxRecDepth 100000
set_option maxHeartbeats 4000000
/-! E11: a book is read. -/
namespace EC
open PySem PySem.Spec PyProof.Rows L2
section
variable {P : Program} {w : World} {K : PySem.W.Frag} {mg : Str → Option Value} {base : Heap}
theorem sc_law_read_book : FnScope ["_law_table", "_law_history", "_law_book", "_law_event"] ["_law_table", "_law_history"] (defScope st__law_read_book) := ⟨rfl, rfl, rfl, by decide +kernel, rfl, by decide +kernel, by decide +kernel⟩
theorem ok_law_read_book (T : Txt K mg) : DefOk P w K mg base "_law_read_book" 2 2 F_law_read_book := by
  obtain ⟨fdd, F⟩ := T.says.def_ 49 (d := df__law_read_book) rfl
  refine ⟨⟨fdd, ["_law_table", "_law_history"], ?_, FunD.bindsN F fun _ _ _ _ _ _ us hl => match us, hl with | [_, _], _ => rfl⟩, T.glo 49 rfl, F.kp⟩
  have F : FnP K "_law_read_book" st__law_read_book (He.ga K "_law_read_book") fdd := F
  obtain ⟨fdn, psn, Gn, bn⟩ := ok_law_new_book (P := P) (w := w) (base := base) T
  obtain ⟨fde, pse, Ge, be⟩ := ok_law_noted (P := P) (w := w) (base := base) T
  obtain ⟨fdn', Fn'⟩ := T.says.def_ 47 (d := df__law_new_book) rfl
  obtain ⟨fde', Fe'⟩ := T.says.def_ 48 (d := df__law_noted) rfl
  refine F.ok sc_law_read_book (fun vs H Q E h => ?_) (fun cdv A outer s' H vs Q E hr h => ?_)
  · obtain ⟨W, B, ds, PP, hl, _, _, r, _⟩ := h
    rw [r.length, hl]; rfl
  have body : PSs (cxOf CX0 P w K mg base ["_law_table", "_law_history", "_law_book", "_law_event"] "_law_read_book" (defScope st__law_read_book) (He.ga K "_law_read_book") cdv A outer s' H E).nox (defBody st__law_read_book) (tSeq _ (tSeq _ _)) :=
    pss_cons (ps_set (i := 2) sc_law_read_book.nd rfl (.inl rfl) (pe_call (E := E0) Gn hr (by rfl) (T.glo 47 rfl) Fn'.kp bn .nil pass0 (pa_cons (pv 0) pa_nil)))
    (pss_cons (ps_for PassesOwn.never rfl (pi_tup (pv 1)) (pg_name (i := 3) sc_law_read_book.nd rfl (.inl rfl)) (pss_one (ps_expr (pe_call (E := E0) Ge hr (by rfl) (T.glo 48 rfl) Fe'.kp be .nil pass0 (pa_cons (pv 2) (pa_cons (pv 3) pa_nil))))))
    (pss_one (ps_ret (pe_frz (pv 2)))))
  refine ⟨_, PSs.nox body, ?_⟩
  clear body
  obtain ⟨W, B, ds, PP, hl, sb, wk, rr, hf, kk⟩ := h
  match ds, hl, hf, rr with
  | [.d tb, .d (.tup evs)], _, ⟨hlen, hf⟩, ⟨v1, r1, e1, q1, v2, r2, e2, q2, e3⟩ =>
  subst e3 e2 e1
  obtain ⟨ah, xs, eh, hB, rx⟩ := (show Rep B (.tup evs) v2 from q2)
  subst eh
  rw [show L2.start ["_law_table", "_law_history", "_law_book", "_law_event"] [v1, V.ref ah] = [some v1, some (.ref ah), none, none] from rfl]
  refine ⟨_, rfl, ?_⟩
  refine ⟨W, B, tb, v1, _, sb, wk, rfl, q1, hf, fun dt pd B1 H1 a w1 k1 => ?_⟩
  obtain ⟨bf, hbf, pf⟩ := pd
  show tSeq _ _ _ [some v1, some (V.ref ah), some (.ref a.p0), none] H1
  have sq : ∀ {B' H' : Hp}, Grow W B H B' H' → SqT K H' ah xs := fun g => SqT.of (g.bh _ _ (g.bb _ _ hB))
  refine ⟨_, rfl, ah, rfl, ⟨xs, sq w1⟩, ?_⟩
  refine ⟨fun i m σ' H' => m = evs.length - i ∧ i ≤ evs.length ∧ ∃ (B' : Hp) (b : BkD) (e : Option V), σ' = [some v1, some (V.ref ah), some (.ref a.p0), e] ∧ Grow W B H B' H' ∧ BookAt W H B' H' a b ∧ readB (evs.drop i) b = some bf ∧ ∀ j, (b.tab j).length ≤ i,
    ⟨evs.length, rfl, Nat.zero_le _, B1, _, none, rfl, w1, k1, hbf, fun j => Nat.le_refl _⟩, ?_⟩
  rintro i m σ' H' ⟨rfl, hi, B', b, e, rfl, g, k, hrd, hsz⟩
  by_cases hlt : i < evs.length
  · refine .inr ?_
    have hd : evs[i]? = some evs[i] := List.getElem?_eq_getElem hlt
    obtain ⟨x, hx, rxx⟩ := rx.get' hd
    refine ⟨⟨xs, x, sq g, hx⟩, fun σ2 H2 => ∃ (B' : Hp) (b : BkD) (e : Option V), σ2 = [some v1, some (V.ref ah), some (.ref a.p0), e] ∧ Grow W B H B' H2 ∧ BookAt W H B' H2 a b ∧ readB (evs.drop (i + 1)) b = some bf ∧ ∀ j, (b.tab j).length ≤ i + 1, fun σ2 H2 h2 => ⟨evs.length - (i + 1), by omega, rfl, hlt, h2⟩, fun y H2 ⟨eH, hy⟩ => ?_⟩
    have ey := hy xs (sq g)
    rw [hx] at ey
    cases ey
    subst eH
    rw [List.drop_eq_getElem_cons hlt] at hrd
    unfold readB at hrd
    obtain ⟨b', hb', hrd'⟩ := Option.bind_eq_some_iff.mp hrd
    show tDrop _ _ [some v1, some (V.ref ah), some (.ref a.p0), some x] H2
    refine ⟨_, rfl, _, rfl, ?_⟩
    exact ⟨W, B, H, B', a, b, b', evs[i], x, g, k, rfl, rxx.mono g.bb, hb', fun j => Nat.lt_of_le_of_lt (hsz j) (by omega), fun B3 H3 s3 g3 k3 => ⟨B3, b', _, rfl, g3, k3, hrd', fun j => Nat.le_trans (noteD_len hb' j) (Nat.add_le_add_right (hsz j) 1)⟩⟩
  · have ei : i = evs.length := by omega
    subst ei
    rw [List.drop_length] at hrd
    cases hrd
    refine .inl ⟨⟨xs, sq g, by rw [rx.length]; exact Nat.le_refl _⟩, ?_⟩
    obtain ⟨kv0, h0, _⟩ := k.tab 0
    refine ⟨_, rfl, a.p 0, _, h0, True.intro, fun od => ?_⟩
    obtain ⟨B3, g3, r3⟩ := book_rep g k h0 od
    exact kk _ pf _ B3 _ g3 r3
end
end EC
end
/-! ## W2 -/
section

set_option Elab.async false
set_option linter.all false
set_option maxRecDepth 100000
set_option maxHeartbeats 4000000
namespace EC
open PySem PySem.Spec PyProof.Rows L2
section
variable {P : Program} {w : World} {K : PySem.W.Frag} {mg : Str → Option Value} {base : Heap}
theorem sc_is_rising : FnScope ["some", "one", "other"] ["some"] (defScope st_is_rising) := ⟨rfl, rfl, rfl, by decide +kernel, rfl, by decide +kernel, by decide +kernel⟩
def F_is_rising : List Sl → M D := fnS 3 (retS (app (consL (asL (lcE [1, 2] (zipT (var 0) (sliT (var 0) (part (con (.int 1))) noPart)) (tupT 2 (consT (nameT 1) (consT (nameT 2) nilT))) yes (op2 ltA (var 1) (var 2)))) nilL) allS))
theorem ok_is_rising (T : Txt K mg) : DefOk P w K mg base "is_rising" 1 1 F_is_rising := by
  obtain ⟨fdd, F⟩ := T.says.def_ 6 (d := df_is_rising) rfl
  refine ⟨⟨fdd, ["some"], fn_ok (N := ["some", "one", "other"]) F sc_is_rising (fun cdv A outer s' H E hr => ?_), FunD.bindsN F fun _ _ _ _ _ _ us hl => match us, hl with | [_], _ => rfl⟩, T.glo 6 rfl, F.kp⟩
  exact (s_one (s_ret (d_callB (c_all rfl) (by rfl) (T.free 71 rfl) bt_all (was_cons (fw (f_lc rfl sc_is_rising.nd (ij (i_zipT (by rfl) (T.free 73 rfl) (dv (pv 0)) (d_sliT (dv (pv 0)) (p_some (sw dc_int)) p_none))) (blkOk_by (own := [("one", 1), ("other", 2)]) (by kernel_rfl)) (fun _ _ _ _ _ => (g_tup (n := 2) rfl (gs_cons (g_name (pg_name (i := 1) sc_is_rising.nd rfl (.inl rfl))) (gs_cons (g_name (pg_name (i := 2) sc_is_rising.nd rfl (.inl rfl))) gs_nil)))) (fun _ _ _ _ _ => ts_nil) (fun _ _ _ _ _ => (d_cmp (o_ltA (hu65 hr)) (sw (dv (pv 1))) (sw (dv (pv 2))))) (by decide))) was_nil))))
theorem sc_are_kinds : FnScope ["thing", "kind"] ["thing"] (defScope st_are_kinds) := ⟨rfl, rfl, rfl, by decide +kernel, rfl, by decide +kernel, by decide +kernel⟩
def F_are_kinds : List Sl → M D := fnS 2 (retS (andE (isS "tuple" (var 0)) (andE (app (consL (asL (lcE [1] (itT (var 0)) (nameT 1) yes (call 1 F_is_name (consA (var 1) nilL)))) nilL) allS) (call 1 F_is_rising (consA (var 0) nilL)))))
theorem ok_are_kinds (T : Txt K mg) : DefOk P w K mg base "are_kinds" 2 1 F_are_kinds := by
  obtain ⟨fdd, F⟩ := T.says.def_ 7 (d := df_are_kinds) rfl
  refine ⟨⟨fdd, ["thing"], fn_ok (N := ["thing", "kind"]) F sc_are_kinds (fun cdv A outer s' H E hr => ?_), FunD.bindsN F fun _ _ _ _ _ _ us hl => match us, hl with | [_], _ => rfl⟩, T.glo 7 rfl, F.kp⟩
  exact (s_one (s_ret (d_and (d_isi (T := "tuple") (sw (dv (pv 0))) (by rfl) (T.free 66 rfl) (by rfl) (T.free 70 rfl) bt_tuple) (d_and (d_callB (c_all rfl) (by rfl) (T.free 71 rfl) bt_all (was_cons (fw (f_lc rfl sc_are_kinds.nd (ij (i_tup (dv (pv 0)))) (blkOk_by (own := [("kind", 1)]) (by kernel_rfl)) (fun _ _ _ _ _ => (g_name (pg_name (i := 1) sc_are_kinds.nd rfl (.inl rfl)))) (fun _ _ _ _ _ => ts_nil) (fun _ _ _ _ _ => (d_callD (ok_is_name T) hr (by decide) (by rfl) (aas_cons (dv (pv 1)) aas_nil))) (by decide))) was_nil)) (d_one (d_callD (ok_is_rising T) hr (by decide) (by rfl) (aas_cons (dv (pv 0)) aas_nil)))))))
theorem sc_is_conflict : FnScope ["kinds", "thing"] ["kinds", "thing"] (defScope st_is_conflict) := ⟨rfl, rfl, rfl, by decide +kernel, rfl, by decide +kernel, by decide +kernel⟩
def F_is_conflict : List Sl → M D := fnS 2 (seqS (ifS (orT (notT (tst (call 2 F_is_row (consA (var 1) (consA (con (.int 2)) nilL))))) (orT (notT (tst (call 1 F_is_name (consA (op2 ixS (var 1) (con (.int 0))) nilL)))) (notT (tst (call 1 F_is_name (consA (op2 ixS (var 1) (con (.int 1))) nilL)))))) (retS (con (.bl false))) skip)
  (retS (andE (op2 inS (op2 ixS (var 1) (con (.int 0))) (var 0)) (andE (op2 inS (op2 ixS (var 1) (con (.int 1))) (var 0)) (op2 leX (op2 ixS (var 1) (con (.int 0))) (op2 ixS (var 1) (con (.int 1))))))))
theorem ok_is_conflict (T : Txt K mg) : DefOk P w K mg base "is_conflict" 2 2 F_is_conflict := by
  obtain ⟨fdd, F⟩ := T.says.def_ 8 (d := df_is_conflict) rfl
  refine ⟨⟨fdd, ["kinds", "thing"], fn_ok (N := ["kinds", "thing"]) F sc_is_conflict (fun cdv A outer s' H E hr => ?_), FunD.bindsN F fun _ _ _ _ _ _ us hl => match us, hl with | [_, _], _ => rfl⟩, T.glo 8 rfl, F.kp⟩
  exact (s_cons (s_if (PW.pt (w_or (t_not (dt_of (d_callD (ok_is_row T) hr (by decide) (by rfl) (aas_cons (dv (pv 1)) (aas_cons dc_int aas_nil))))) (w_or (t_not (dt_of (d_callD (ok_is_name T) hr (by decide) (by rfl) (aas_cons (d_ix (sw (dv (pv 1))) (sw dc_int)) aas_nil)))) (w_or1 (t_not (dt_of (d_callD (ok_is_name T) hr (by decide) (by rfl) (aas_cons (d_ix (sw (dv (pv 1))) (sw dc_int)) aas_nil)))))))) (s_one (s_ret dc_bl)) s_nil)
    (s_one (s_ret (d_and (d_cmp (o_in (hu65 hr)) (sw (d_ix (sw (dv (pv 1))) (sw dc_int))) (sw (dv (pv 0)))) (d_and (d_cmp (o_in (hu65 hr)) (sw (d_ix (sw (dv (pv 1))) (sw dc_int))) (sw (dv (pv 0)))) (d_one (d_cmp o_leX (sw (d_ix (sw (dv (pv 1))) (sw dc_int))) (sw (d_ix (sw (dv (pv 1))) (sw dc_int))))))))))
theorem sc_is_table_value : FnScope ["thing", "pair"] ["thing"] (defScope st_is_table_value) := ⟨rfl, rfl, rfl, by decide +kernel, rfl, by decide +kernel, by decide +kernel⟩
def F_is_table_value : List Sl → M D := fnS 2 (seqS (ifS (orT (notT (tst (call 2 F_is_row (consA (var 0) (consA (con (.int 2)) nilL))))) (orT (notT (tst (call 1 F_are_kinds (consA (op2 ixS (var 0) (con (.int 0))) nilL)))) (notT (tst (isS "tuple" (op2 ixS (var 0) (con (.int 1)))))))) (retS (con (.bl false))) skip)
  (retS (andE (app (consL (asL (lcE [1] (itT (op2 ixS (var 0) (con (.int 1)))) (nameT 1) yes (call 2 F_is_conflict (consA (op2 ixS (var 0) (con (.int 0))) (consA (var 1) nilL))))) nilL) allS) (call 1 F_is_rising (consA (op2 ixS (var 0) (con (.int 1))) nilL)))))
theorem ok_is_table_value (T : Txt K mg) : DefOk P w K mg base "is_table_value" 3 1 F_is_table_value := by
  obtain ⟨fdd, F⟩ := T.says.def_ 9 (d := df_is_table_value) rfl
  refine ⟨⟨fdd, ["thing"], fn_ok (N := ["thing", "pair"]) F sc_is_table_value (fun cdv A outer s' H E hr => ?_), FunD.bindsN F fun _ _ _ _ _ _ us hl => match us, hl with | [_], _ => rfl⟩, T.glo 9 rfl, F.kp⟩
  exact (s_cons (s_if (PW.pt (w_or (t_not (dt_of (d_callD (ok_is_row T) hr (by decide) (by rfl) (aas_cons (dv (pv 0)) (aas_cons dc_int aas_nil))))) (w_or (t_not (dt_of (d_callD (ok_are_kinds T) hr (by decide) (by rfl) (aas_cons (d_ix (sw (dv (pv 0))) (sw dc_int)) aas_nil)))) (w_or1 (t_not (dt_of (d_isi (T := "tuple") (sw (d_ix (sw (dv (pv 0))) (sw dc_int))) (by rfl) (T.free 66 rfl) (by rfl) (T.free 70 rfl) bt_tuple))))))) (s_one (s_ret dc_bl)) s_nil)
    (s_one (s_ret (d_and (d_callB (c_all rfl) (by rfl) (T.free 71 rfl) bt_all (was_cons (fw (f_lc rfl sc_is_table_value.nd (ij (i_tup (d_ix (sw (dv (pv 0))) (sw dc_int)))) (blkOk_by (own := [("pair", 1)]) (by kernel_rfl)) (fun _ _ _ _ _ => (g_name (pg_name (i := 1) sc_is_table_value.nd rfl (.inl rfl)))) (fun _ _ _ _ _ => ts_nil) (fun _ _ _ _ _ => (d_callD (ok_is_conflict T) hr (by decide) (by rfl) (aas_cons (d_ix (sw (dv (pv 0))) (sw dc_int)) (aas_cons (dv (pv 1)) aas_nil)))) (by decide))) was_nil)) (d_one (d_callD (ok_is_rising T) hr (by decide) (by rfl) (aas_cons (d_ix (sw (dv (pv 0))) (sw dc_int)) aas_nil)))))))
theorem sc_need_table : FnScope ["table"] ["table"] (defScope st_need_table) := ⟨rfl, rfl, rfl, by decide +kernel, rfl, by decide +kernel, by decide +kernel⟩
def F_need_table : List Sl → M D := fnS 1 (ifS (notT (tst (call 1 F_is_table_value (consA (var 0) nilL)))) never skip)
theorem ok_need_table (T : Txt K mg) : DefOk P w K mg base "need_table" 4 1 F_need_table := by
  obtain ⟨fdd, F⟩ := T.says.def_ 10 (d := df_need_table) rfl
  refine ⟨⟨fdd, ["table"], fn_ok (N := ["table"]) F sc_need_table (fun cdv A outer s' H E hr => ?_), FunD.bindsN F fun _ _ _ _ _ _ us hl => match us, hl with | [_], _ => rfl⟩, T.glo 10 rfl, F.kp⟩
  exact (s_one (s_if (t_not (dt_of (d_callD (ok_is_table_value T) hr (by decide) (by rfl) (aas_cons (dv (pv 0)) aas_nil)))) (s_one s_never) s_nil))
theorem sc_steps_in : FnScope ["history", "at", "event"] ["history"] (defScope st_steps_in) := ⟨rfl, rfl, rfl, by decide +kernel, rfl, by decide +kernel, by decide +kernel⟩
def F_steps_in : List Sl → M D := fnS 3 (retS (asL (lcE [1, 2] (enumT (var 0)) (tupT 2 (consT (nameT 1) (consT (nameT 2) nilT))) (tst (op2 eqS (op2 ixS (var 2) (con (.int 0))) (con (.str "do")))) (var 1))))
theorem ok_steps_in (T : Txt K mg) : DefOk P w K mg base "steps_in" 1 1 F_steps_in := by
  obtain ⟨fdd, F⟩ := T.says.def_ 11 (d := df_steps_in) rfl
  refine ⟨⟨fdd, ["history"], fn_ok (N := ["history", "at", "event"]) F sc_steps_in (fun cdv A outer s' H E hr => ?_), FunD.bindsN F fun _ _ _ _ _ _ us hl => match us, hl with | [_], _ => rfl⟩, T.glo 11 rfl, F.kp⟩
  exact (s_one (s_ret (fd (f_lc rfl sc_steps_in.nd (ij (i_enumT (by rfl) (T.free 74 rfl) (dv (pv 0)))) (blkOk_by (own := [("at", 1), ("event", 2)]) (by kernel_rfl)) (fun _ _ _ _ _ => (g_tup (n := 2) rfl (gs_cons (g_name (pg_name (i := 1) sc_steps_in.nd rfl (.inl rfl))) (gs_cons (g_name (pg_name (i := 2) sc_steps_in.nd rfl (.inl rfl))) gs_nil)))) (fun _ _ _ _ _ => (ts_one (d_cmpT (o_eq hr.units) (sw (d_ix (sw (dv (pv 2))) (sw dc_int))) (sw (dc_gstr (by rfl) (T.strg 85 rfl)))))) (fun _ _ _ _ _ => (dv (pv 1))) (by decide)))))
theorem sc_owner : FnScope ["history", "i"] ["history", "i"] (defScope st_owner) := ⟨rfl, rfl, rfl, by decide +kernel, rfl, by decide +kernel, by decide +kernel⟩
def F_owner : List Sl → M D := fnS 2 (retS (op2 ixS (op2 ixS (var 0) (var 1)) (con (.int 1))))
theorem ok_owner (T : Txt K mg) : DefOk P w K mg base "owner" 1 2 F_owner := by
  obtain ⟨fdd, F⟩ := T.says.def_ 12 (d := df_owner) rfl
  refine ⟨⟨fdd, ["history", "i"], fn_ok (N := ["history", "i"]) F sc_owner (fun cdv A outer s' H E hr => ?_), FunD.bindsN F fun _ _ _ _ _ _ us hl => match us, hl with | [_, _], _ => rfl⟩, T.glo 12 rfl, F.kp⟩
  exact (s_one (s_ret (d_ix (sw (d_ix (sw (dv (pv 0))) (sw (dv (pv 1))))) (sw dc_int))))
theorem sc_kind_of : FnScope ["history", "i"] ["history", "i"] (defScope st_kind_of) := ⟨rfl, rfl, rfl, by decide +kernel, rfl, by decide +kernel, by decide +kernel⟩
def F_kind_of : List Sl → M D := fnS 2 (retS (op2 ixS (op2 ixS (var 0) (var 1)) (con (.int 2))))
theorem ok_kind_of (T : Txt K mg) : DefOk P w K mg base "kind_of" 1 2 F_kind_of := by
  obtain ⟨fdd, F⟩ := T.says.def_ 13 (d := df_kind_of) rfl
  refine ⟨⟨fdd, ["history", "i"], fn_ok (N := ["history", "i"]) F sc_kind_of (fun cdv A outer s' H E hr => ?_), FunD.bindsN F fun _ _ _ _ _ _ us hl => match us, hl with | [_, _], _ => rfl⟩, T.glo 13 rfl, F.kp⟩
  exact (s_one (s_ret (d_ix (sw (d_ix (sw (dv (pv 0))) (sw (dv (pv 1))))) (sw dc_int))))
theorem sc_steps_of : FnScope ["history", "t", "i"] ["history", "t"] (defScope st_steps_of) := ⟨rfl, rfl, rfl, by decide +kernel, rfl, by decide +kernel, by decide +kernel⟩
def F_steps_of : List Sl → M D := fnS 3 (retS (asL (lcE [2] (itL (call 1 F_steps_in (consA (var 0) nilL))) (nameT 2) (tst (op2 eqS (call 2 F_owner (consA (var 0) (consA (var 2) nilL))) (var 1))) (var 2))))
theorem ok_steps_of (T : Txt K mg) : DefOk P w K mg base "steps_of" 2 2 F_steps_of := by
  obtain ⟨fdd, F⟩ := T.says.def_ 14 (d := df_steps_of) rfl
  refine ⟨⟨fdd, ["history", "t"], fn_ok (N := ["history", "t", "i"]) F sc_steps_of (fun cdv A outer s' H E hr => ?_), FunD.bindsN F fun _ _ _ _ _ _ us hl => match us, hl with | [_, _], _ => rfl⟩, T.glo 14 rfl, F.kp⟩
  exact (s_one (s_ret (fd (f_lc rfl sc_steps_of.nd (ij (i_list (d_callD (ok_steps_in T) hr (by decide) (by rfl) (aas_cons (dv (pv 0)) aas_nil)))) (blkOk_by (own := [("i", 2)]) (by kernel_rfl)) (fun _ _ _ _ _ => (g_name (pg_name (i := 2) sc_steps_of.nd rfl (.inl rfl)))) (fun _ _ _ _ _ => (ts_one (d_cmpT (o_eq hr.units) (sw (d_callD (ok_owner T) hr (by decide) (by rfl) (aas_cons (dv (pv 0)) (aas_cons (dv (pv 2)) aas_nil)))) (sw (dv (pv 1)))))) (fun _ _ _ _ _ => (dv (pv 2))) (by decide)))))
theorem sc_back_at : FnScope ["history", "at", "event"] ["history"] (defScope st_back_at) := ⟨rfl, rfl, rfl, by decide +kernel, rfl, by decide +kernel, by decide +kernel⟩
def F_back_at : List Sl → M D := fnS 3 (retS (dcKE [1, 2] (enumT (var 0)) (tupT 2 (consT (nameT 1) (consT (nameT 2) nilT))) (tst (op2 eqS (op2 ixS (var 2) (con (.int 0))) (con (.str "back")))) (op2 ixS (var 2) (con (.int 2))) (var 1)))
theorem ok_back_at (T : Txt K mg) : DefOk P w K mg base "back_at" 1 1 F_back_at := by
  obtain ⟨fdd, F⟩ := T.says.def_ 15 (d := df_back_at) rfl
  refine ⟨⟨fdd, ["history"], fn_ok (N := ["history", "at", "event"]) F sc_back_at (fun cdv A outer s' H E hr => ?_), FunD.bindsN F fun _ _ _ _ _ _ us hl => match us, hl with | [_], _ => rfl⟩, T.glo 15 rfl, F.kp⟩
  exact (s_one (s_ret (d_dcK rfl sc_back_at.nd (ij (i_enumT (by rfl) (T.free 74 rfl) (dv (pv 0)))) (blkOk_by (own := [("at", 1), ("event", 2)]) (by kernel_rfl)) (fun _ _ _ _ _ => (g_tup (n := 2) rfl (gs_cons (g_name (pg_name (i := 1) sc_back_at.nd rfl (.inl rfl))) (gs_cons (g_name (pg_name (i := 2) sc_back_at.nd rfl (.inl rfl))) gs_nil)))) (fun _ _ _ _ _ => (ts_one (d_cmpT (o_eq hr.units) (sw (d_ix (sw (dv (pv 2))) (sw dc_int))) (sw (dc_gstr (by rfl) (T.strg 88 rfl)))))) (fun _ _ _ _ _ => (d_ix (sw (dv (pv 2))) (sw dc_int))) (fun _ _ _ _ _ => (dv (pv 1))) (by decide))))
theorem sc_ends_in : FnScope ["history", "at", "event"] ["history"] (defScope st_ends_in) := ⟨rfl, rfl, rfl, by decide +kernel, rfl, by decide +kernel, by decide +kernel⟩
def F_ends_in : List Sl → M D := fnS 3 (retS (dcKE [1, 2] (enumT (var 0)) (tupT 2 (consT (nameT 1) (consT (nameT 2) nilT))) (tst (op2 inS (op2 ixS (var 2) (con (.int 0))) (tupE (consL (con (.str "keep")) (consL (con (.str "drop")) nilL))))) (op2 ixS (var 2) (con (.int 1))) (var 1)))
theorem ok_ends_in (T : Txt K mg) : DefOk P w K mg base "ends_in" 1 1 F_ends_in := by
  obtain ⟨fdd, F⟩ := T.says.def_ 16 (d := df_ends_in) rfl
  refine ⟨⟨fdd, ["history"], fn_ok (N := ["history", "at", "event"]) F sc_ends_in (fun cdv A outer s' H E hr => ?_), FunD.bindsN F fun _ _ _ _ _ _ us hl => match us, hl with | [_], _ => rfl⟩, T.glo 16 rfl, F.kp⟩
  exact (s_one (s_ret (d_dcK rfl sc_ends_in.nd (ij (i_enumT (by rfl) (T.free 74 rfl) (dv (pv 0)))) (blkOk_by (own := [("at", 1), ("event", 2)]) (by kernel_rfl)) (fun _ _ _ _ _ => (g_tup (n := 2) rfl (gs_cons (g_name (pg_name (i := 1) sc_ends_in.nd rfl (.inl rfl))) (gs_cons (g_name (pg_name (i := 2) sc_ends_in.nd rfl (.inl rfl))) gs_nil)))) (fun _ _ _ _ _ => (ts_one (d_cmpT (o_in (hu65 hr)) (sw (d_ix (sw (dv (pv 2))) (sw dc_int))) (sw (d_tup (das_cons (dc_gstr (by rfl) (T.strg 86 rfl)) (das_cons (dc_gstr (by rfl) (T.strg 87 rfl)) das_nil))))))) (fun _ _ _ _ _ => (d_ix (sw (dv (pv 2))) (sw dc_int))) (fun _ _ _ _ _ => (dv (pv 1))) (by decide))))
theorem sc_kept_in : FnScope ["history", "p", "event"] ["history", "p"] (defScope st_kept_in) := ⟨rfl, rfl, rfl, by decide +kernel, rfl, by decide +kernel, by decide +kernel⟩
def F_kept_in : List Sl → M D := fnS 3 (retS (asL (lcE [2] (itT (sliT (var 0) noPart (part (var 1)))) (nameT 2) (tst (op2 eqS (op2 ixS (var 2) (con (.int 0))) (con (.str "keep")))) (op2 ixS (var 2) (con (.int 1))))))
theorem ok_kept_in (T : Txt K mg) : DefOk P w K mg base "kept_in" 1 2 F_kept_in := by
  obtain ⟨fdd, F⟩ := T.says.def_ 17 (d := df_kept_in) rfl
  refine ⟨⟨fdd, ["history", "p"], fn_ok (N := ["history", "p", "event"]) F sc_kept_in (fun cdv A outer s' H E hr => ?_), FunD.bindsN F fun _ _ _ _ _ _ us hl => match us, hl with | [_, _], _ => rfl⟩, T.glo 17 rfl, F.kp⟩
  exact (s_one (s_ret (fd (f_lc rfl sc_kept_in.nd (ij (i_tup (d_sliT (dv (pv 0)) p_none (p_some (sw (dv (pv 1))))))) (blkOk_by (own := [("event", 2)]) (by kernel_rfl)) (fun _ _ _ _ _ => (g_name (pg_name (i := 2) sc_kept_in.nd rfl (.inl rfl)))) (fun _ _ _ _ _ => (ts_one (d_cmpT (o_eq hr.units) (sw (d_ix (sw (dv (pv 2))) (sw dc_int))) (sw (dc_gstr (by rfl) (T.strg 86 rfl)))))) (fun _ _ _ _ _ => (d_ix (sw (dv (pv 2))) (sw dc_int))) (by decide)))))
theorem sc_state_in : FnScope ["history", "t", "backs", "steps", "ends", "i"] ["history", "t"] (defScope st_state_in) := ⟨rfl, rfl, rfl, by decide +kernel, rfl, by decide +kernel, by decide +kernel⟩
def F_state_in : List Sl → M D := fnS 6 (seqS (parS [3, 4] (xD (call 2 F_steps_of (consA (var 0) (consA (var 1) nilL))) (xD (call 1 F_ends_in (consA (var 0) nilL)) nilL)))
  (seqS (ifS (tst (op2 eqS (var 3) (asL (lstE nilL)))) (retS (con (.str "new"))) skip)
  (seqS (ifS (tst (op2 dninS (var 1) (var 4))) (retS (con (.str "active"))) skip)
  (seqS (ifS (tst (op2 eqS (op2 ixS (op2 ixS (var 0) (op2 getS (var 4) (var 1))) (con (.int 0))) (con (.str "keep")))) (retS (con (.str "kept"))) skip)
  (seqS (setS 2 (call 1 F_back_at (consA (var 0) nilL)))
  (retS (ifE (tst (app (consL (asL (lcE [5] (itL (var 3)) (nameT 5) yes (op2 dinS (var 5) (var 2)))) nilL) allS)) (con (.str "gone")) (con (.str "dropping")))))))))
theorem ok_state_in (T : Txt K mg) : DefOk P w K mg base "state_in" 3 2 F_state_in := by
  obtain ⟨fdd, F⟩ := T.says.def_ 18 (d := df_state_in) rfl
  refine ⟨⟨fdd, ["history", "t"], fn_ok (N := ["history", "t", "backs", "steps", "ends", "i"]) F sc_state_in (fun cdv A outer s' H E hr => ?_), FunD.bindsN F fun _ _ _ _ _ _ us hl => match us, hl with | [_, _], _ => rfl⟩, T.glo 18 rfl, F.kp⟩
  exact (s_cons (s_par (i := 3) (j := 4) (fun ta h => ps_par rfl sc_state_in.nd rfl rfl (by decide) rfl rfl h (by rfl)) (x_d (d_callD (ok_steps_of T) hr (by decide) (by rfl) (aas_cons (dv (pv 0)) (aas_cons (dv (pv 1)) aas_nil))) (x_d (d_callD (ok_ends_in T) hr (by decide) (by rfl) (aas_cons (dv (pv 0)) aas_nil)) x_nil)))
    (s_cons (s_if (d_cmpT (o_eq hr.units) (sw (dv (pv 3))) (fw (d_lst das_nil))) (s_one (s_ret (dc_gstr (by rfl) (T.strg 93 rfl)))) s_nil)
    (s_cons (s_if (t_dnin (hu_of hr) (sw (dv (pv 1))) (sw (dv (pv 4)))) (s_one (s_ret (dc_gstr (by rfl) (T.strg 89 rfl)))) s_nil)
    (s_cons (s_if (d_cmpT (o_eq hr.units) (sw (d_ix (sw (d_ix (sw (dv (pv 0))) (sw (d_get (hu_of hr) (sw (dv (pv 4))) (sw (dv (pv 1))))))) (sw dc_int))) (sw (dc_gstr (by rfl) (T.strg 86 rfl)))) (s_one (s_ret (dc_gstr (by rfl) (T.strg 90 rfl)))) s_nil)
    (s_cons (s_set (ps_set (i := 2) sc_state_in.nd rfl (.inr rfl) (d_callD (ok_back_at T) hr (by decide) (by rfl) (aas_cons (dv (pv 0)) aas_nil))))
    (s_one (s_ret (d_if (dt_of (d_callB (c_all rfl) (by rfl) (T.free 71 rfl) bt_all (was_cons (fw (f_lc rfl sc_state_in.nd (ij (i_list (dv (pv 3)))) (blkOk_by (own := [("i", 5)]) (by kernel_rfl)) (fun _ _ _ _ _ => (g_name (pg_name (i := 5) sc_state_in.nd rfl (.inl rfl)))) (fun _ _ _ _ _ => ts_nil) (fun _ _ _ _ _ => (d_din (hu_of hr) (sw (dv (pv 5))) (sw (dv (pv 2))))) (by decide))) was_nil))) (dc_gstr (by rfl) (T.strg 92 rfl)) (dc_gstr (by rfl) (T.strg 91 rfl))))))))))
theorem sc_open_steps : FnScope ["history", "p", "part", "kept", "backs", "i"] ["history", "p"] (defScope st_open_steps) := ⟨rfl, rfl, rfl, by decide +kernel, rfl, by decide +kernel, by decide +kernel⟩
def F_open_steps : List Sl → M D := fnS 6 (seqS (setS 2 (sliT (var 0) noPart (part (var 1))))
  (seqS (parS [3, 4] (xD (call 2 F_kept_in (consA (var 0) (consA (var 1) nilL))) (xD (call 1 F_back_at (consA (var 2) nilL)) nilL)))
  (retS (asL (lcE [5] (itL (asL (revL (call 1 F_steps_in (consA (var 2) nilL))))) (nameT 5) (andT (tst (op2 dninS (var 5) (var 4))) (tst (op2 ninS (call 2 F_owner (consA (var 0) (consA (var 5) nilL))) (var 3)))) (var 5))))))
theorem ok_open_steps (T : Txt K mg) : DefOk P w K mg base "open_steps" 2 2 F_open_steps := by
  obtain ⟨fdd, F⟩ := T.says.def_ 19 (d := df_open_steps) rfl
  refine ⟨⟨fdd, ["history", "p"], fn_ok (N := ["history", "p", "part", "kept", "backs", "i"]) F sc_open_steps (fun cdv A outer s' H E hr => ?_), FunD.bindsN F fun _ _ _ _ _ _ us hl => match us, hl with | [_, _], _ => rfl⟩, T.glo 19 rfl, F.kp⟩
  exact (s_cons (s_set (ps_set (i := 2) sc_open_steps.nd rfl (.inl rfl) (d_sliT (dv (pv 0)) p_none (p_some (sw (dv (pv 1)))))))
    (s_cons (s_parT (is := [3, 4]) (n := 2) (fun ta h => ps_asg (pe_tup h) (pg_tup rfl (pgs_cons (pg_name (i := 3) sc_open_steps.nd rfl (.inr rfl)) (pgs_cons (pg_name (i := 4) sc_open_steps.nd rfl (.inr rfl)) pgs_nil)))) (x_d (d_callD (ok_kept_in T) hr (by decide) (by rfl) (aas_cons (dv (pv 0)) (aas_cons (dv (pv 1)) aas_nil))) (x_d (d_callD (ok_back_at T) hr (by decide) (by rfl) (aas_cons (dv (pv 2)) aas_nil)) x_nil)) rfl (by decide))
    (s_one (s_ret (fd (f_lc rfl sc_open_steps.nd (ij (i_list (fd (d_revL (sw (d_callD (ok_steps_in T) hr (by decide) (by rfl) (aas_cons (dv (pv 2)) aas_nil))))))) (blkOk_by (own := [("i", 5)]) (by kernel_rfl)) (fun _ _ _ _ _ => (g_name (pg_name (i := 5) sc_open_steps.nd rfl (.inl rfl)))) (fun _ _ _ _ _ => (ts_one (PW.pt (w_and (t_dnin (hu_of hr) (sw (dv (pv 5))) (sw (dv (pv 4)))) (w_and1 (d_cmpT (o_nin (hu65 hr)) (sw (d_callD (ok_owner T) hr (by decide) (by rfl) (aas_cons (dv (pv 0)) (aas_cons (dv (pv 5)) aas_nil)))) (sw (dv (pv 3))))))))) (fun _ _ _ _ _ => (dv (pv 5))) (by decide)))))))
theorem sc_word_to : FnScope ["history", "p", "word", "at", "event", "i"] ["history", "p"] (defScope st_word_to) := ⟨rfl, rfl, rfl, by decide +kernel, rfl, by decide +kernel, by decide +kernel⟩
def F_word_to : List Sl → M D := fnS 6 (seqS (setO 2 (lstE nilL))
  (seqS (forS (enumT (sliT (var 0) noPart (part (var 1)))) (tupT 2 (consT (nameT 3) (consT (nameT 4) nilT)))
  (ifS (tst (op2 eqS (op2 ixS (var 4) (con (.int 0))) (con (.str "do")))) (appS 2 (tupE (consL (var 3) (consL (con (.int 1)) nilL)))) (ifS (tst (op2 eqS (op2 ixS (var 4) (con (.int 0))) (con (.str "back")))) (appS 2 (tupE (consL (op2 ixS (var 4) (con (.int 2))) (consL (negE (con (.int 1))) nilL)))) skip)))
  (retS (app (consL (asL (catE (varW 2) (asL (lcE [5] (itL (call 2 F_open_steps (consA (var 0) (consA (var 1) nilL)))) (nameT 5) yes (tupE (consL (var 5) (consL (negE (con (.int 1))) nilL))))))) nilL) tupS))))
theorem ok_word_to (T : Txt K mg) : DefOk P w K mg base "word_to" 3 2 F_word_to := by
  obtain ⟨fdd, F⟩ := T.says.def_ 20 (d := df_word_to) rfl
  refine ⟨⟨fdd, ["history", "p"], fn_ok (N := ["history", "p", "word", "at", "event", "i"]) F sc_word_to (fun cdv A outer s' H E hr => ?_), FunD.bindsN F fun _ _ _ _ _ _ us hl => match us, hl with | [_, _], _ => rfl⟩, T.glo 20 rfl, F.kp⟩
  exact (s_cons (s_setLO (ps_set (i := 2) sc_word_to.nd rfl (.inl rfl) (d_lst das_nil)))
    (s_cons (s_for PassesOwn.never rfl (i_enumT (by rfl) (T.free 74 rfl) (d_sliT (dv (pv 0)) p_none (p_some (sw (dv (pv 1)))))) (g_tup (n := 2) rfl (gs_cons (g_name (pg_name (i := 3) sc_word_to.nd rfl (.inl rfl))) (gs_cons (g_name (pg_name (i := 4) sc_word_to.nd rfl (.inl rfl))) gs_nil)))
    (s_one (s_if (d_cmpT (o_eq hr.units) (sw (d_ix (sw (dv (pv 4))) (sw dc_int))) (sw (dc_gstr (by rfl) (T.strg 85 rfl)))) (s_one (s_append (i := 2) (ps_expr (pe_bm PySem.F.plainAttrs_list PySem.F.slot_list_append PySem.F.type_list_append mt_append (pv 2) (pa_cons (d_tup (das_cons (dv (pv 3)) (das_cons dc_int das_nil))) pa_nil))))) (s_one (s_if (d_cmpT (o_eq hr.units) (sw (d_ix (sw (dv (pv 4))) (sw dc_int))) (sw (dc_gstr (by rfl) (T.strg 88 rfl)))) (s_one (s_append (i := 2) (ps_expr (pe_bm PySem.F.plainAttrs_list PySem.F.slot_list_append PySem.F.type_list_append mt_append (pv 2) (pa_cons (d_tup (das_cons (d_ix (sw (dv (pv 4))) (sw dc_int)) (das_cons (d_neg (sw dc_int)) das_nil))) pa_nil))))) s_nil)))))
    (s_one (s_ret (d_callTy c_tuple (by rfl) (T.free 70 rfl) bt_tuple (was_cons (fw (f_cat (dvw (pv 2)) (fw (f_lc rfl sc_word_to.nd (ij (i_list (d_callD (ok_open_steps T) hr (by decide) (by rfl) (aas_cons (dv (pv 0)) (aas_cons (dv (pv 1)) aas_nil))))) (blkOk_by (own := [("i", 5)]) (by kernel_rfl)) (fun _ _ _ _ _ => (g_name (pg_name (i := 5) sc_word_to.nd rfl (.inl rfl)))) (fun _ _ _ _ _ => ts_nil) (fun _ _ _ _ _ => (d_tup (das_cons (dv (pv 5)) (das_cons (d_neg (sw dc_int)) das_nil)))) (by decide))))) was_nil))))))
end
end EC
end
/-! ## W3 -/
section

set_option Elab.async false
set_option linter.all false
set_option maxRecDepth 100000
set_option maxHeartbeats 4000000
namespace EC
open PySem PySem.Spec PyProof.Rows L2
section
variable {P : Program} {w : World} {K : PySem.W.Frag} {mg : Str → Option Value} {base : Heap}
theorem sc_is_event_after : FnScope ["table", "history", "thing"] ["table", "history", "thing"] (defScope st_is_event_after) := ⟨rfl, rfl, rfl, by decide +kernel, rfl, by decide +kernel, by decide +kernel⟩
def F_is_event_after : List Sl → M D := fnS 3 (seqS (ifS (tst (call 3 F_is_paper (consA (var 2) (consA (con (.str "do")) (consA (con (.int 3)) nilL))))) (seqS (ifS (orT (notT (tst (call 1 F_is_count (consA (op2 ixS (var 2) (con (.int 1))) nilL)))) (orT (notT (tst (call 1 F_is_name (consA (op2 ixS (var 2) (con (.int 2))) nilL)))) (tst (op2 ninS (op2 ixS (var 2) (con (.int 2))) (op2 ixS (var 0) (con (.int 0))))))) (retS (con (.bl false))) skip)
  (retS (op2 dninS (op2 ixS (var 2) (con (.int 1))) (call 1 F_ends_in (consA (var 1) nilL))))) skip)
  (seqS (ifS (orT (tst (call 3 F_is_paper (consA (var 2) (consA (con (.str "keep")) (consA (con (.int 2)) nilL))))) (tst (call 3 F_is_paper (consA (var 2) (consA (con (.str "drop")) (consA (con (.int 2)) nilL)))))) (retS (andE (call 1 F_is_count (consA (op2 ixS (var 2) (con (.int 1))) nilL)) (op2 eqS (call 2 F_state_in (consA (var 1) (consA (op2 ixS (var 2) (con (.int 1))) nilL))) (con (.str "active"))))) skip)
  (seqS (ifS (orT (notT (tst (call 3 F_is_paper (consA (var 2) (consA (con (.str "back")) (consA (con (.int 3)) nilL)))))) (orT (notT (tst (call 1 F_is_count (consA (op2 ixS (var 2) (con (.int 1))) nilL)))) (notT (tst (call 3 F_is_between (consA (op2 ixS (var 2) (con (.int 2))) (consA (con (.int 0)) (consA (op2 subS (app (consL (var 1) nilL) lenS) (con (.int 1))) nilL)))))))) (retS (con (.bl false))) skip)
  (seqS (ifS (orT (tst (op2 neS (call 2 F_state_in (consA (var 1) (consA (op2 ixS (var 2) (con (.int 1))) nilL))) (con (.str "dropping")))) (tst (op2 neS (op2 ixS (op2 ixS (var 1) (op2 ixS (var 2) (con (.int 2)))) (con (.int 0))) (con (.str "do"))))) (retS (con (.bl false))) skip)
  (retS (andE (op2 eqS (call 2 F_owner (consA (var 1) (consA (op2 ixS (var 2) (con (.int 2))) nilL))) (op2 ixS (var 2) (con (.int 1)))) (op2 dninS (op2 ixS (var 2) (con (.int 2))) (call 1 F_back_at (consA (var 1) nilL)))))))))
theorem ok_is_event_after (T : Txt K mg) : DefOk P w K mg base "is_event_after" 4 3 F_is_event_after := by
  obtain ⟨fdd, F⟩ := T.says.def_ 21 (d := df_is_event_after) rfl
  refine ⟨⟨fdd, ["table", "history", "thing"], fn_ok (N := ["table", "history", "thing"]) F sc_is_event_after (fun cdv A outer s' H E hr => ?_), FunD.bindsN F fun _ _ _ _ _ _ us hl => match us, hl with | [_, _, _], _ => rfl⟩, T.glo 21 rfl, F.kp⟩
  exact (s_cons (s_if (dt_of (d_callD (ok_is_paper T) hr (by decide) (by rfl) (aas_cons (dv (pv 2)) (aas_cons (dc_gstr (by rfl) (T.strg 85 rfl)) (aas_cons dc_int aas_nil))))) (s_cons (s_if (PW.pt (w_or (t_not (dt_of (d_callD (ok_is_count T) hr (by decide) (by rfl) (aas_cons (d_ix (sw (dv (pv 2))) (sw dc_int)) aas_nil)))) (w_or (t_not (dt_of (d_callD (ok_is_name T) hr (by decide) (by rfl) (aas_cons (d_ix (sw (dv (pv 2))) (sw dc_int)) aas_nil)))) (w_or1 (d_cmpT (o_nin (hu65 hr)) (sw (d_ix (sw (dv (pv 2))) (sw dc_int))) (sw (d_ix (sw (dv (pv 0))) (sw dc_int)))))))) (s_one (s_ret dc_bl)) s_nil)
    (s_one (s_ret (d_dnin (hu_of hr) (sw (d_ix (sw (dv (pv 2))) (sw dc_int))) (sw (d_callD (ok_ends_in T) hr (by decide) (by rfl) (aas_cons (dv (pv 1)) aas_nil))))))) s_nil)
    (s_cons (s_if (PW.pt (w_or (dt_of (d_callD (ok_is_paper T) hr (by decide) (by rfl) (aas_cons (dv (pv 2)) (aas_cons (dc_gstr (by rfl) (T.strg 86 rfl)) (aas_cons dc_int aas_nil))))) (w_or1 (dt_of (d_callD (ok_is_paper T) hr (by decide) (by rfl) (aas_cons (dv (pv 2)) (aas_cons (dc_gstr (by rfl) (T.strg 87 rfl)) (aas_cons dc_int aas_nil)))))))) (s_one (s_ret (d_and (d_callD (ok_is_count T) hr (by decide) (by rfl) (aas_cons (d_ix (sw (dv (pv 2))) (sw dc_int)) aas_nil)) (d_one (d_cmp (o_eq hr.units) (sw (d_callD (ok_state_in T) hr (by decide) (by rfl) (aas_cons (dv (pv 1)) (aas_cons (d_ix (sw (dv (pv 2))) (sw dc_int)) aas_nil)))) (sw (dc_gstr (by rfl) (T.strg 89 rfl)))))))) s_nil)
    (s_cons (s_if (PW.pt (w_or (t_not (dt_of (d_callD (ok_is_paper T) hr (by decide) (by rfl) (aas_cons (dv (pv 2)) (aas_cons (dc_gstr (by rfl) (T.strg 88 rfl)) (aas_cons dc_int aas_nil)))))) (w_or (t_not (dt_of (d_callD (ok_is_count T) hr (by decide) (by rfl) (aas_cons (d_ix (sw (dv (pv 2))) (sw dc_int)) aas_nil)))) (w_or1 (t_not (dt_of (d_callD (ok_is_between T) hr (by decide) (by rfl) (aas_cons (d_ix (sw (dv (pv 2))) (sw dc_int)) (aas_cons dc_int (aas_cons (d_bin o_sub (sw (d_callB c_len (by rfl) (T.free 65 rfl) bt_len (was_cons (sw (dv (pv 1))) was_nil))) (sw dc_int)) aas_nil)))))))))) (s_one (s_ret dc_bl)) s_nil)
    (s_cons (s_if (PW.pt (w_or (d_cmpT (o_ne hr.units) (sw (d_callD (ok_state_in T) hr (by decide) (by rfl) (aas_cons (dv (pv 1)) (aas_cons (d_ix (sw (dv (pv 2))) (sw dc_int)) aas_nil)))) (sw (dc_gstr (by rfl) (T.strg 91 rfl)))) (w_or1 (d_cmpT (o_ne hr.units) (sw (d_ix (sw (d_ix (sw (dv (pv 1))) (sw (d_ix (sw (dv (pv 2))) (sw dc_int))))) (sw dc_int))) (sw (dc_gstr (by rfl) (T.strg 85 rfl))))))) (s_one (s_ret dc_bl)) s_nil)
    (s_one (s_ret (d_and (d_cmp (o_eq hr.units) (sw (d_callD (ok_owner T) hr (by decide) (by rfl) (aas_cons (dv (pv 1)) (aas_cons (d_ix (sw (dv (pv 2))) (sw dc_int)) aas_nil)))) (sw (d_ix (sw (dv (pv 2))) (sw dc_int)))) (d_one (d_dnin (hu_of hr) (sw (d_ix (sw (dv (pv 2))) (sw dc_int))) (sw (d_callD (ok_back_at T) hr (by decide) (by rfl) (aas_cons (dv (pv 1)) aas_nil))))))))))))
theorem sc_is_history_value : FnScope ["table", "thing", "at", "event"] ["table", "thing"] (defScope st_is_history_value) := ⟨rfl, rfl, rfl, by decide +kernel, rfl, by decide +kernel, by decide +kernel⟩
def F_is_history_value : List Sl → M D := fnS 4 (seqS (ifS (notT (tst (isS "tuple" (var 1)))) (retS (con (.bl false))) skip)
  (seqS (forS (enumT (var 1)) (tupT 2 (consT (nameT 2) (consT (nameT 3) nilT)))
  (ifS (notT (tst (call 3 F_is_event_after (consA (var 0) (consA (sliT (var 1) noPart (part (var 2))) (consA (var 3) nilL)))))) (retS (con (.bl false))) skip))
  (retS (con (.bl true)))))
theorem ok_is_history_value (T : Txt K mg) : DefOk P w K mg base "is_history_value" 5 2 F_is_history_value := by
  obtain ⟨fdd, F⟩ := T.says.def_ 22 (d := df_is_history_value) rfl
  refine ⟨⟨fdd, ["table", "thing"], fn_ok (N := ["table", "thing", "at", "event"]) F sc_is_history_value (fun cdv A outer s' H E hr => ?_), FunD.bindsN F fun _ _ _ _ _ _ us hl => match us, hl with | [_, _], _ => rfl⟩, T.glo 22 rfl, F.kp⟩
  exact (s_cons (s_if (t_not (dt_of (d_isi (T := "tuple") (sw (dv (pv 1))) (by rfl) (T.free 66 rfl) (by rfl) (T.free 70 rfl) bt_tuple))) (s_one (s_ret dc_bl)) s_nil)
    (s_cons (s_for PassesOwn.never rfl (i_enumT (by rfl) (T.free 74 rfl) (dv (pv 1))) (g_tup (n := 2) rfl (gs_cons (g_name (pg_name (i := 2) sc_is_history_value.nd rfl (.inl rfl))) (gs_cons (g_name (pg_name (i := 3) sc_is_history_value.nd rfl (.inl rfl))) gs_nil)))
    (s_one (s_if (t_not (dt_of (d_callD (ok_is_event_after T) hr (by decide) (by rfl) (aas_cons (dv (pv 0)) (aas_cons (d_sliT (dv (pv 1)) p_none (p_some (sw (dv (pv 2))))) (aas_cons (dv (pv 3)) aas_nil)))))) (s_one (s_ret dc_bl)) s_nil)))
    (s_one (s_ret dc_bl))))
theorem sc_need_history : FnScope ["table", "history"] ["table", "history"] (defScope st_need_history) := ⟨rfl, rfl, rfl, by decide +kernel, rfl, by decide +kernel, by decide +kernel⟩
def F_need_history : List Sl → M D := fnS 2 (seqS (expS (call 1 F_need_table (consA (var 0) nilL)))
  (ifS (notT (tst (call 2 F_is_history_value (consA (var 0) (consA (var 1) nilL))))) never skip))
theorem ok_need_history (T : Txt K mg) : DefOk P w K mg base "need_history" 6 2 F_need_history := by
  obtain ⟨fdd, F⟩ := T.says.def_ 23 (d := df_need_history) rfl
  refine ⟨⟨fdd, ["table", "history"], fn_ok (N := ["table", "history"]) F sc_need_history (fun cdv A outer s' H E hr => ?_), FunD.bindsN F fun _ _ _ _ _ _ us hl => match us, hl with | [_, _], _ => rfl⟩, T.glo 23 rfl, F.kp⟩
  exact (s_cons (s_exp (d_callD (ok_need_table T) hr (by decide) (by rfl) (aas_cons (dv (pv 0)) aas_nil)))
    (s_one (s_if (t_not (dt_of (d_callD (ok_is_history_value T) hr (by decide) (by rfl) (aas_cons (dv (pv 0)) (aas_cons (dv (pv 1)) aas_nil))))) (s_one s_never) s_nil)))
theorem sc_need_cut : FnScope ["table", "history", "p"] ["table", "history", "p"] (defScope st_need_cut) := ⟨rfl, rfl, rfl, by decide +kernel, rfl, by decide +kernel, by decide +kernel⟩
def F_need_cut : List Sl → M D := fnS 3 (seqS (expS (call 2 F_need_history (consA (var 0) (consA (var 1) nilL))))
  (ifS (notT (tst (call 3 F_is_between (consA (var 2) (consA (con (.int 0)) (consA (app (consL (var 1) nilL) lenS) nilL)))))) never skip))
theorem ok_need_cut (T : Txt K mg) : DefOk P w K mg base "need_cut" 7 3 F_need_cut := by
  obtain ⟨fdd, F⟩ := T.says.def_ 24 (d := df_need_cut) rfl
  refine ⟨⟨fdd, ["table", "history", "p"], fn_ok (N := ["table", "history", "p"]) F sc_need_cut (fun cdv A outer s' H E hr => ?_), FunD.bindsN F fun _ _ _ _ _ _ us hl => match us, hl with | [_, _, _], _ => rfl⟩, T.glo 24 rfl, F.kp⟩
  exact (s_cons (s_exp (d_callD (ok_need_history T) hr (by decide) (by rfl) (aas_cons (dv (pv 0)) (aas_cons (dv (pv 1)) aas_nil))))
    (s_one (s_if (t_not (dt_of (d_callD (ok_is_between T) hr (by decide) (by rfl) (aas_cons (dv (pv 2)) (aas_cons dc_int (aas_cons (d_callB c_len (by rfl) (T.free 65 rfl) bt_len (was_cons (sw (dv (pv 1))) was_nil)) aas_nil)))))) (s_one s_never) s_nil)))
end
end EC
end
/-! ## W4 -/
section

set_option Elab.async false
set_option linter.all false
set_option maxRecDepth 100000
set_option maxHeartbeats 4000000
namespace EC
open PySem PySem.Spec PyProof.Rows L2
section
variable {P : Program} {w : World} {K : PySem.W.Frag} {mg : Str → Option Value} {base : Heap}
theorem sc_clashes : FnScope ["table", "found", "pair", "one", "other"] ["table"] (defScope st_clashes) := ⟨rfl, rfl, rfl, by decide +kernel, rfl, by decide +kernel, by decide +kernel⟩
def F_clashes : List Sl → M D := fnS 5 (clS 1 (dcTF [2] (itT (op2 ixS (var 0) (con (.int 1)))) (nameT 2) yes (var 2) (con (.bl true)))
  (dcTF [3, 4] (itT (op2 ixS (var 0) (con (.int 1)))) (tupT 2 (consT (nameT 3) (consT (nameT 4) nilT))) yes (tupE (consL (var 4) (consL (var 3) nilL))) (con (.bl true))))
theorem ok_clashes (T : Txt K mg) : DefOk P w K mg base "clashes" 1 1 F_clashes := by
  obtain ⟨fdd, F⟩ := T.says.def_ 25 (d := df_clashes) rfl
  refine ⟨⟨fdd, ["table"], fn_ok (N := ["table", "found", "pair", "one", "other"]) F sc_clashes (fun cdv A outer s' H E hr => ?_), FunD.bindsN F fun _ _ _ _ _ _ us hl => match us, hl with | [_], _ => rfl⟩, T.glo 25 rfl, F.kp⟩
  exact (s_clash (i := 1) (a_dcTF (i := 1) (hu_of hr) rfl sc_clashes.nd rfl rfl (sw_trueD rfl rfl rfl (by decide +kernel)) (ij (i_tup (d_ix (sw (dv (pv 0))) (sw dc_int)))) (blkOk_by (own := [("pair", 2)]) (by kernel_rfl)) (fun _ _ _ _ _ => (g_name (pg_name (i := 2) sc_clashes.nd rfl (.inl rfl)))) (fun _ _ _ _ _ => ts_nil) (fun _ _ _ _ _ => (dv (pv 2))) (fun _ _ _ _ _ => dc_bl) (by decide))
    (ps_expr (pe_bm PySem.F.plainAttrs_dict PySem.F.slot_dict_update PySem.F.type_dict_update (mt_dupdT (hu_of hr)) (pv 1) (pa_cons (f_dcT (hu_of hr) rfl sc_clashes.nd (ij (i_tup (d_ix (sw (dv (pv 0))) (sw dc_int)))) (blkOk_by (own := [("one", 3), ("other", 4)]) (by kernel_rfl)) (fun _ _ _ _ _ => (g_tup (n := 2) rfl (gs_cons (g_name (pg_name (i := 3) sc_clashes.nd rfl (.inl rfl))) (gs_cons (g_name (pg_name (i := 4) sc_clashes.nd rfl (.inl rfl))) gs_nil)))) (fun _ _ _ _ _ => ts_nil) (fun _ _ _ _ _ => (d_tup (das_cons (dv (pv 4)) (das_cons (dv (pv 3)) das_nil)))) (fun _ _ _ _ _ => dc_bl) (by decide)) pa_nil)))
    (ps_ret (pv 1)))
theorem sc_do_clash : FnScope ["fast", "history", "i", "j"] ["fast", "history", "i", "j"] (defScope st_do_clash) := ⟨rfl, rfl, rfl, by decide +kernel, rfl, by decide +kernel, by decide +kernel⟩
def F_do_clash : List Sl → M D := fnS 4 (retS (orE (op2 eqS (call 2 F_owner (consA (var 1) (consA (var 2) nilL))) (call 2 F_owner (consA (var 1) (consA (var 3) nilL)))) (op2 dinS (tupE (consL (call 2 F_kind_of (consA (var 1) (consA (var 2) nilL))) (consL (call 2 F_kind_of (consA (var 1) (consA (var 3) nilL))) nilL))) (var 0))))
theorem ok_do_clash (T : Txt K mg) : DefOk P w K mg base "do_clash" 2 4 F_do_clash := by
  obtain ⟨fdd, F⟩ := T.says.def_ 26 (d := df_do_clash) rfl
  refine ⟨⟨fdd, ["fast", "history", "i", "j"], fn_ok (N := ["fast", "history", "i", "j"]) F sc_do_clash (fun cdv A outer s' H E hr => ?_), FunD.bindsN F fun _ _ _ _ _ _ us hl => match us, hl with | [_, _, _, _], _ => rfl⟩, T.glo 26 rfl, F.kp⟩
  exact (s_one (s_ret (d_or (d_cmp (o_eq hr.units) (sw (d_callD (ok_owner T) hr (by decide) (by rfl) (aas_cons (dv (pv 1)) (aas_cons (dv (pv 2)) aas_nil)))) (sw (d_callD (ok_owner T) hr (by decide) (by rfl) (aas_cons (dv (pv 1)) (aas_cons (dv (pv 3)) aas_nil))))) (d_one (d_din (hu_of hr) (sw (d_tup (das_cons (d_callD (ok_kind_of T) hr (by decide) (by rfl) (aas_cons (dv (pv 1)) (aas_cons (dv (pv 2)) aas_nil))) (das_cons (d_callD (ok_kind_of T) hr (by decide) (by rfl) (aas_cons (dv (pv 1)) (aas_cons (dv (pv 3)) aas_nil))) das_nil)))) (sw (dv (pv 0))))))))
theorem sc_conflicting_pairs : FnScope ["table", "history", "p", "fast", "steps", "i", "j"] ["table", "history", "p"] (defScope st_conflicting_pairs) := ⟨rfl, rfl, rfl, by decide +kernel, rfl, by decide +kernel, by decide +kernel⟩
def F_conflicting_pairs : List Sl → M D := fnS 7 (seqS (parS [3, 4] (xD (call 1 F_clashes (consA (var 0) nilL)) (xD (asL (lcE [5] (itL (call 1 F_steps_in (consA (var 1) nilL))) (nameT 5) (tst (op2 ltS (var 5) (var 2))) (var 5))) nilL)))
  (retS (asL (lcE2 [5, 6] [6] (itL (var 4)) (nameT 5) (itL (var 4)) (nameT 6) (andT (tst (op2 ltS (var 5) (var 6))) (tst (call 4 F_do_clash (consA (var 3) (consA (var 1) (consA (var 5) (consA (var 6) nilL))))))) (tupE (consL (var 5) (consL (var 6) nilL)))))))
theorem ok_conflicting_pairs (T : Txt K mg) : DefOk P w K mg base "conflicting_pairs" 3 3 F_conflicting_pairs := by
  obtain ⟨fdd, F⟩ := T.says.def_ 27 (d := df_conflicting_pairs) rfl
  refine ⟨⟨fdd, ["table", "history", "p"], fn_ok (N := ["table", "history", "p", "fast", "steps", "i", "j"]) F sc_conflicting_pairs (fun cdv A outer s' H E hr => ?_), FunD.bindsN F fun _ _ _ _ _ _ us hl => match us, hl with | [_, _, _], _ => rfl⟩, T.glo 27 rfl, F.kp⟩
  exact (s_cons (s_parT (is := [3, 4]) (n := 2) (fun ta h => ps_asg (pe_tup h) (pg_tup rfl (pgs_cons (pg_name (i := 3) sc_conflicting_pairs.nd rfl (.inr rfl)) (pgs_cons (pg_name (i := 4) sc_conflicting_pairs.nd rfl (.inr rfl)) pgs_nil)))) (x_d (d_callD (ok_clashes T) hr (by decide) (by rfl) (aas_cons (dv (pv 0)) aas_nil)) (x_d (fd (f_lc rfl sc_conflicting_pairs.nd (ij (i_list (d_callD (ok_steps_in T) hr (by decide) (by rfl) (aas_cons (dv (pv 1)) aas_nil)))) (blkOk_by (own := [("i", 5)]) (by kernel_rfl)) (fun _ _ _ _ _ => (g_name (pg_name (i := 5) sc_conflicting_pairs.nd rfl (.inl rfl)))) (fun _ _ _ _ _ => (ts_one (d_cmpT o_lt (sw (dv (pv 5))) (sw (dv (pv 2)))))) (fun _ _ _ _ _ => (dv (pv 5))) (by decide))) x_nil)) rfl (by decide))
    (s_one (s_ret (fd (f_lc2 (vs1 := [6]) rfl sc_conflicting_pairs.nd (i_list (dv (pv 4))) (blkOk_by (own := [("i", 5), ("j", 6)]) (by kernel_rfl)) (by decide) (fun _ _ _ _ _ => (g_name (pg_name (i := 5) sc_conflicting_pairs.nd rfl (.inl rfl)))) (fun _ _ _ _ _ => ts_nil) (fun _ _ _ _ _ => (i_list (dv (pv 4)))) (fun _ _ _ _ _ => (g_name (pg_name (i := 6) sc_conflicting_pairs.nd rfl (.inl rfl)))) (fun _ _ _ _ _ => (ts_one (PW.pt (w_and (d_cmpT o_lt (sw (dv (pv 5))) (sw (dv (pv 6)))) (w_and1 (dt_of (d_callD (ok_do_clash T) hr (by decide) (by rfl) (aas_cons (dv (pv 3)) (aas_cons (dv (pv 1)) (aas_cons (dv (pv 5)) (aas_cons (dv (pv 6)) aas_nil))))))))))) (fun _ _ _ _ _ => (d_tup (das_cons (dv (pv 5)) (das_cons (dv (pv 6)) das_nil)))) (by decide) (by decide))))))
theorem sc_is_caught : FnScope ["places", "i", "j", "back"] ["places", "i", "j"] (defScope st_is_caught) := ⟨rfl, rfl, rfl, by decide +kernel, rfl, by decide +kernel, by decide +kernel⟩
def F_is_caught : List Sl → M D := fnS 4 (seqS (setS 3 (get1E (var 0) (tupE (consL (var 1) (consL (negE (con (.int 1))) nilL)))))
  (seqS (ifS (orT (tst (op2 isNS (var 3) (con .non))) (tst (op2 gtS (op2 getS (var 0) (tupE (consL (var 2) (consL (con (.int 1)) nilL)))) (var 3)))) (retS (con (.bl false))) skip)
  (retS (op2 geS (get2E (var 0) (tupE (consL (var 2) (consL (negE (con (.int 1))) nilL))) (var 3)) (var 3)))))
theorem ok_is_caught (T : Txt K mg) : DefOk P w K mg base "is_caught" 1 3 F_is_caught := by
  obtain ⟨fdd, F⟩ := T.says.def_ 28 (d := df_is_caught) rfl
  refine ⟨⟨fdd, ["places", "i", "j"], fn_ok (N := ["places", "i", "j", "back"]) F sc_is_caught (fun cdv A outer s' H E hr => ?_), FunD.bindsN F fun _ _ _ _ _ _ us hl => match us, hl with | [_, _, _], _ => rfl⟩, T.glo 28 rfl, F.kp⟩
  exact (s_cons (s_set (ps_set (i := 3) sc_is_caught.nd rfl (.inl rfl) (d_get1 (hu_of hr) (sw (dv (pv 0))) (sw (d_tup (das_cons (dv (pv 1)) (das_cons (d_neg (sw dc_int)) das_nil)))) ⟨rfl, rfl, rfl, rfl⟩)))
    (s_cons (s_if (PW.pt (w_or (d_cmpT o_isN (sw (dv (pv 3))) (sw dc_non)) (w_or1 (d_cmpT o_gt (sw (d_get (hu_of hr) (sw (dv (pv 0))) (sw (d_tup (das_cons (dv (pv 2)) (das_cons dc_int das_nil)))))) (sw (dv (pv 3))))))) (s_one (s_ret dc_bl)) s_nil)
    (s_one (s_ret (d_cmp o_ge (sw (d_get2 (hu_of hr) (sw (dv (pv 0))) (sw (d_tup (das_cons (dv (pv 2)) (das_cons (d_neg (sw dc_int)) das_nil)))) (dv (pv 3)) ⟨rfl, rfl, rfl, rfl⟩)) (sw (dv (pv 3))))))))
end
end EC
end
/-! ## W5 -/
section

set_option Elab.async false
set_option linter.all false
set_option maxRecDepth 100000
set_option maxHeartbeats 4000000
namespace EC
open PySem PySem.Spec PyProof.Rows L2
section
variable {P : Program} {w : World} {K : PySem.W.Frag} {mg : Str → Option Value} {base : Heap}
theorem sc_caught_pairs : FnScope ["table", "history", "p", "places", "pair", "at", "letter"] ["table", "history", "p"] (defScope st_caught_pairs) := ⟨rfl, rfl, rfl, by decide +kernel, rfl, by decide +kernel, by decide +kernel⟩
def F_caught_pairs : List Sl → M D := fnS 7 (seqS (setS 3 (dcTE [5, 6] (enumT (call 2 F_word_to (consA (var 1) (consA (var 2) nilL)))) (tupT 2 (consT (nameT 5) (consT (nameT 6) nilT))) yes (var 6) (var 5)))
  (retS (asL (lcE [4] (itL (call 3 F_conflicting_pairs (consA (var 0) (consA (var 1) (consA (var 2) nilL))))) (nameT 4) (tst (call 3 F_is_caught (consA (var 3) (consA (op2 ixS (var 4) (con (.int 0))) (consA (op2 ixS (var 4) (con (.int 1))) nilL))))) (var 4)))))
theorem ok_caught_pairs (T : Txt K mg) : DefOk P w K mg base "caught_pairs" 4 3 F_caught_pairs := by
  obtain ⟨fdd, F⟩ := T.says.def_ 29 (d := df_caught_pairs) rfl
  refine ⟨⟨fdd, ["table", "history", "p"], fn_ok (N := ["table", "history", "p", "places", "pair", "at", "letter"]) F sc_caught_pairs (fun cdv A outer s' H E hr => ?_), FunD.bindsN F fun _ _ _ _ _ _ us hl => match us, hl with | [_, _, _], _ => rfl⟩, T.glo 29 rfl, F.kp⟩
  exact (s_cons (s_set (ps_set (i := 3) sc_caught_pairs.nd rfl (.inr rfl) (d_dcT (hu_of hr) rfl sc_caught_pairs.nd (ij (i_enumT (by rfl) (T.free 74 rfl) (d_callD (ok_word_to T) hr (by decide) (by rfl) (aas_cons (dv (pv 1)) (aas_cons (dv (pv 2)) aas_nil))))) (blkOk_by (own := [("at", 5), ("letter", 6)]) (by kernel_rfl)) (fun _ _ _ _ _ => (g_tup (n := 2) rfl (gs_cons (g_name (pg_name (i := 5) sc_caught_pairs.nd rfl (.inl rfl))) (gs_cons (g_name (pg_name (i := 6) sc_caught_pairs.nd rfl (.inl rfl))) gs_nil)))) (fun _ _ _ _ _ => ts_nil) (fun _ _ _ _ _ => (dv (pv 6))) (fun _ _ _ _ _ => (dv (pv 5))) (by decide))))
    (s_one (s_ret (fd (f_lc rfl sc_caught_pairs.nd (ij (i_list (d_callD (ok_conflicting_pairs T) hr (by decide) (by rfl) (aas_cons (dv (pv 0)) (aas_cons (dv (pv 1)) (aas_cons (dv (pv 2)) aas_nil)))))) (blkOk_by (own := [("pair", 4)]) (by kernel_rfl)) (fun _ _ _ _ _ => (g_name (pg_name (i := 4) sc_caught_pairs.nd rfl (.inl rfl)))) (fun _ _ _ _ _ => (ts_one (dt_of (d_callD (ok_is_caught T) hr (by decide) (by rfl) (aas_cons (dv (pv 3)) (aas_cons (d_ix (sw (dv (pv 4))) (sw dc_int)) (aas_cons (d_ix (sw (dv (pv 4))) (sw dc_int)) aas_nil))))))) (fun _ _ _ _ _ => (dv (pv 4))) (by decide))))))
theorem sc_order_at : FnScope ["edges", "order", "rest", "free", "u", "t"] ["edges"] (defScope st_order_at) := ⟨rfl, rfl, rfl, by decide +kernel, rfl, by decide +kernel, by decide +kernel⟩
def F_order_at : List Sl → M D := fnS 6 (seqS (parS [1, 2] (xO (lstE nilL) (xD (asL (app (consL (var 0) nilL) sortDIS)) nilL)))
  (whS (tst (con (.bl true)))
  (seqS (setS 3 (asL (lcE [4] (itL (var 2)) (nameT 4) (notT (tst (app (consL (asL (lcE [5] (itL (var 2)) (nameT 5) yes (op2 inS (var 4) (op2 getS (var 0) (var 5))))) nilL) anyS))) (var 4))))
  (seqS (ifS (tst (op2 eqS (var 3) (asL (lstE nilL)))) (give 1 (retS (tupE (consL (var 1) (consL (var 2) nilL))))) skip)
  (seqS (appS 1 (op2 ixS (var 3) (con (.int 0))))
  (setS 2 (asL (lcE [5] (itL (var 2)) (nameT 5) (tst (op2 neS (var 5) (op2 ixS (var 3) (con (.int 0))))) (var 5)))))))))
theorem ok_order_at (T : Txt K mg) : DefOk P w K mg base "order_at" 1 1 F_order_at := by
  obtain ⟨fdd, F⟩ := T.says.def_ 31 (d := df_order_at) rfl
  refine ⟨⟨fdd, ["edges"], fn_ok (N := ["edges", "order", "rest", "free", "u", "t"]) F sc_order_at (fun cdv A outer s' H E hr => ?_), FunD.bindsN F fun _ _ _ _ _ _ us hl => match us, hl with | [_], _ => rfl⟩, T.glo 31 rfl, F.kp⟩
  exact (s_cons (s_parT (is := [1, 2]) (n := 2) (fun ta h => ps_asg (pe_tup h) (pg_tup rfl (pgs_cons (pg_name (i := 1) sc_order_at.nd rfl (.inl rfl)) (pgs_cons (pg_name (i := 2) sc_order_at.nd rfl (.inr rfl)) pgs_nil)))) (x_o (d_lst das_nil) (x_d (fd (f_callB (c_sortDI rfl) (by rfl) (T.free 76 rfl) bt_sorted (was_cons (sw (dv (pv 0))) was_nil))) x_nil)) rfl (by decide))
    (s_one (s_while PassesOwn.never (dt_of dc_bl)
    (s_cons (s_set (ps_set (i := 3) sc_order_at.nd rfl (.inr rfl) (fd (f_lc rfl sc_order_at.nd (ij (i_list (dv (pv 2)))) (blkOk_by (own := [("u", 4)]) (by kernel_rfl)) (fun _ _ _ _ _ => (g_name (pg_name (i := 4) sc_order_at.nd rfl (.inr rfl)))) (fun _ _ _ _ _ => (ts_one (t_not (dt_of (d_callB (c_any rfl) (by rfl) (T.free 72 rfl) bt_any (was_cons (fw (f_lc rfl sc_order_at.nd (ij (i_list (dv (pv 2)))) (blkOk_by (own := [("t", 5)]) (by kernel_rfl)) (fun _ _ _ _ _ => (g_name (pg_name (i := 5) sc_order_at.nd rfl (.inl rfl)))) (fun _ _ _ _ _ => ts_nil) (fun _ _ _ _ _ => (d_cmp (o_in (hu65 hr)) (sw (dv (pv 4))) (sw (d_get (hu_of hr) (sw (dv (pv 0))) (sw (dv (pv 5))))))) (by decide))) was_nil)))))) (fun _ _ _ _ _ => (dv (pv 4))) (by decide)))))
    (s_cons (s_if (d_cmpT (o_eq hr.units) (sw (dv (pv 3))) (fw (d_lst das_nil))) (s_one (s_give 1 (s_ret (d_tup (das_cons (dv (pv 1)) (das_cons (dv (pv 2)) das_nil)))))) s_nil)
    (s_cons (s_append (i := 1) (ps_expr (pe_bm PySem.F.plainAttrs_list PySem.F.slot_list_append PySem.F.type_list_append mt_append (pv 1) (pa_cons (d_ix (sw (dv (pv 3))) (sw dc_int)) pa_nil))))
    (s_one (s_set (ps_set (i := 2) sc_order_at.nd rfl (.inr rfl) (fd (f_lc rfl sc_order_at.nd (ij (i_list (dv (pv 2)))) (blkOk_by (own := [("t", 5)]) (by kernel_rfl)) (fun _ _ _ _ _ => (g_name (pg_name (i := 5) sc_order_at.nd rfl (.inl rfl)))) (fun _ _ _ _ _ => (ts_one (d_cmpT (o_ne hr.units) (sw (dv (pv 5))) (sw (d_ix (sw (dv (pv 3))) (sw dc_int)))))) (fun _ _ _ _ _ => (dv (pv 5))) (by decide))))))))))))
theorem sc_ring_in : FnScope ["edges", "rest", "row", "ahead", "t"] ["edges", "rest"] (defScope st_ring_in) := ⟨rfl, rfl, rfl, by decide +kernel, rfl, by decide +kernel, by decide +kernel⟩
def F_ring_in : List Sl → M D := fnS 5 (seqS (setO 2 (lstE (consL (op2 ixS (var 1) (con (.int 0))) nilL)))
  (whS (tst (con (.bl true)))
  (seqS (setS 3 (op2 ixS (asL (lcE [4] (itL (var 1)) (nameT 4) (tst (op2 inS (op2 ixS (varW 2) (negE (con (.int 1)))) (op2 getS (var 0) (var 4)))) (var 4))) (con (.int 0))))
  (seqS (ifS (tst (op2 inS (var 3) (varW 2))) (retS (app (consL (asL (revL (asL (sliL (varW 2) (part (indexL (varW 2) (var 3))) noPart)))) nilL) tupS)) skip)
  (appS 2 (var 3))))))
theorem ok_ring_in (T : Txt K mg) : DefOk P w K mg base "ring_in" 1 2 F_ring_in := by
  obtain ⟨fdd, F⟩ := T.says.def_ 32 (d := df_ring_in) rfl
  refine ⟨⟨fdd, ["edges", "rest"], fn_ok (N := ["edges", "rest", "row", "ahead", "t"]) F sc_ring_in (fun cdv A outer s' H E hr => ?_), FunD.bindsN F fun _ _ _ _ _ _ us hl => match us, hl with | [_, _], _ => rfl⟩, T.glo 32 rfl, F.kp⟩
  exact (s_cons (s_setLO (ps_set (i := 2) sc_ring_in.nd rfl (.inr rfl) (d_lst (das_cons (d_ix (sw (dv (pv 1))) (sw dc_int)) das_nil))))
    (s_one (s_while PassesOwn.never (dt_of dc_bl)
    (s_cons (s_set (ps_set (i := 3) sc_ring_in.nd rfl (.inl rfl) (d_ix (fw (f_lc rfl sc_ring_in.nd (ij (i_list (dv (pv 1)))) (blkOk_by (own := [("t", 4)]) (by kernel_rfl)) (fun _ _ _ _ _ => (g_name (pg_name (i := 4) sc_ring_in.nd rfl (.inl rfl)))) (fun _ _ _ _ _ => (ts_one (d_cmpT (o_in (hu65 hr)) (sw (d_ix (dvw (pv 2)) (sw (d_neg (sw dc_int))))) (sw (d_get (hu_of hr) (sw (dv (pv 0))) (sw (dv (pv 4)))))))) (fun _ _ _ _ _ => (dv (pv 4))) (by decide))) (sw dc_int))))
    (s_cons (s_if (d_cmpT (o_in (hu65 hr)) (sw (dv (pv 3))) (dvw (pv 2))) (s_one (s_ret (d_callTy c_tuple (by rfl) (T.free 70 rfl) bt_tuple (was_cons (fw (d_revL (fw (d_sliL (dvw (pv 2)) (p_some (sw (d_indexL (hu65 hr) (dvw (pv 2)) (sw (dv (pv 3)))))) p_none)))) was_nil)))) s_nil)
    (s_one (s_append (i := 2) (ps_expr (pe_bm PySem.F.plainAttrs_list PySem.F.slot_list_append PySem.F.type_list_append mt_append (pv 2) (pa_cons (dv (pv 3)) pa_nil))))))))))
end
end EC
end
/-! ## W6 -/
section

set_option Elab.async false
set_option linter.all false
set_option maxRecDepth 100000
set_option maxHeartbeats 4000000
namespace EC
open PySem PySem.Spec PyProof.Rows L2
section
variable {P : Program} {w : World} {K : PySem.W.Frag} {mg : Str → Option Value} {base : Heap}
theorem sc_law_do_clash : FnScope ["_law_book", "_law_i", "_law_j", "_law_t", "_law_one", "_law_u", "_law_other"] ["_law_book", "_law_i", "_law_j"] (defScope st__law_do_clash) := ⟨rfl, rfl, rfl, by decide +kernel, rfl, by decide +kernel, by decide +kernel⟩
def F_law_do_clash : List Sl → M D := fnS 7 (seqS (asgS (tupE (consL (op2 getS (op2 getS (var 0) (con (.str "steps"))) (var 1)) (consL (op2 getS (op2 getS (var 0) (con (.str "steps"))) (var 2)) nilL))) (tupT 2 (consT (tupT 2 (consT (nameT 3) (consT (nameT 4) nilT))) (consT (tupT 2 (consT (nameT 5) (consT (nameT 6) nilT))) nilT))))
  (retS (andE (op2 neS (var 1) (var 2)) (orE (op2 eqS (var 3) (var 5)) (op2 dinS (tupE (consL (var 4) (consL (var 6) nilL))) (op2 getS (var 0) (con (.str "clash"))))))))
theorem ok_law_do_clash (T : Txt K mg) : DefOk P w K mg base "_law_do_clash" 1 3 F_law_do_clash := by
  obtain ⟨fdd, F⟩ := T.says.def_ 50 (d := df__law_do_clash) rfl
  refine ⟨⟨fdd, ["_law_book", "_law_i", "_law_j"], fn_ok (N := ["_law_book", "_law_i", "_law_j", "_law_t", "_law_one", "_law_u", "_law_other"]) F sc_law_do_clash (fun cdv A outer s' H E hr => ?_), FunD.bindsN F fun _ _ _ _ _ _ us hl => match us, hl with | [_, _, _], _ => rfl⟩, T.glo 50 rfl, F.kp⟩
  exact (s_cons (s_asg (d_tup (das_cons (d_get (hu_of hr) (sw (d_get (hu_of hr) (sw (dv (pv 0))) (sw dc_str))) (sw (dv (pv 1)))) (das_cons (d_get (hu_of hr) (sw (d_get (hu_of hr) (sw (dv (pv 0))) (sw dc_str))) (sw (dv (pv 2)))) das_nil))) (g_tup (n := 2) rfl (gs_cons (g_tup (n := 2) rfl (gs_cons (g_name (pg_name (i := 3) sc_law_do_clash.nd rfl (.inl rfl))) (gs_cons (g_name (pg_name (i := 4) sc_law_do_clash.nd rfl (.inl rfl))) gs_nil))) (gs_cons (g_tup (n := 2) rfl (gs_cons (g_name (pg_name (i := 5) sc_law_do_clash.nd rfl (.inl rfl))) (gs_cons (g_name (pg_name (i := 6) sc_law_do_clash.nd rfl (.inl rfl))) gs_nil))) gs_nil))))
    (s_one (s_ret (d_and (d_cmp (o_ne hr.units) (sw (dv (pv 1))) (sw (dv (pv 2)))) (d_one (d_or (d_cmp (o_eq hr.units) (sw (dv (pv 3))) (sw (dv (pv 5)))) (d_one (d_din (hu_of hr) (sw (d_tup (das_cons (dv (pv 4)) (das_cons (dv (pv 6)) das_nil)))) (sw (d_get (hu_of hr) (sw (dv (pv 0))) (sw dc_str)))))))))))
theorem sc_law_in_series : FnScope ["_law_history", "_law_order", "_law_found", "_law_t", "_law_at", "_law_event"] ["_law_history", "_law_order"] (defScope st__law_in_series) := ⟨rfl, rfl, rfl, by decide +kernel, rfl, by decide +kernel, by decide +kernel⟩
def F_law_in_series : List Sl → M D := fnS 6 (seqS (setO 2 (lstE nilL))
  (seqS (forS (itL (var 1)) (nameT 3)
  (extS 2 (asL (lcE [4, 5] (enumT (var 0)) (tupT 2 (consT (nameT 4) (consT (nameT 5) nilT))) (tst (op2 eqS (sliT (var 5) noPart (part (con (.int 2)))) (tupE (consL (con (.str "do")) (consL (var 3) nilL))))) (tupE (consL (var 4) (consL (con (.int 1)) nilL)))))))
  (retS (app (consL (varW 2) nilL) tupS))))
theorem ok_law_in_series (T : Txt K mg) : DefOk P w K mg base "_law_in_series" 1 2 F_law_in_series := by
  obtain ⟨fdd, F⟩ := T.says.def_ 52 (d := df__law_in_series) rfl
  refine ⟨⟨fdd, ["_law_history", "_law_order"], fn_ok (N := ["_law_history", "_law_order", "_law_found", "_law_t", "_law_at", "_law_event"]) F sc_law_in_series (fun cdv A outer s' H E hr => ?_), FunD.bindsN F fun _ _ _ _ _ _ us hl => match us, hl with | [_, _], _ => rfl⟩, T.glo 52 rfl, F.kp⟩
  exact (s_cons (s_setLO (ps_set (i := 2) sc_law_in_series.nd rfl (.inl rfl) (d_lst das_nil)))
    (s_cons (s_for PassesOwn.never rfl (i_list (dv (pv 1))) (g_name (pg_name (i := 3) sc_law_in_series.nd rfl (.inr rfl)))
    (s_one (s_extend (i := 2) (ps_expr (pe_bm PySem.F.plainAttrs_list PySem.F.slot_list_extend PySem.F.type_list_extend mt_extend (pv 2) (pa_cons (fw (f_lc rfl sc_law_in_series.nd (ij (i_enumT (by rfl) (T.free 74 rfl) (dv (pv 0)))) (blkOk_by (own := [("_law_at", 4), ("_law_event", 5)]) (by kernel_rfl)) (fun _ _ _ _ _ => (g_tup (n := 2) rfl (gs_cons (g_name (pg_name (i := 4) sc_law_in_series.nd rfl (.inl rfl))) (gs_cons (g_name (pg_name (i := 5) sc_law_in_series.nd rfl (.inl rfl))) gs_nil)))) (fun _ _ _ _ _ => (ts_one (d_cmpT (o_eq hr.units) (sw (d_sliT (dv (pv 5)) p_none (p_some (sw dc_int)))) (sw (d_tup (das_cons dc_str (das_cons (dv (pv 3)) das_nil))))))) (fun _ _ _ _ _ => (d_tup (das_cons (dv (pv 4)) (das_cons dc_int das_nil)))) (by decide))) pa_nil))))))
    (s_one (s_ret (d_callTy c_tuple (by rfl) (T.free 70 rfl) bt_tuple (was_cons (dvw (pv 2)) was_nil))))))
theorem sc_law_left_over : FnScope ["_law_book", "_law_word", "_law_turn", "_law_left", "_law_before", "_law_at", "_law_far", "_law_i", "_law_sign", "_law_k", "_law_j", "_law_other"] ["_law_book", "_law_word"] (defScope st__law_left_over) := ⟨rfl, rfl, rfl, by decide +kernel, rfl, by decide +kernel, by decide +kernel⟩
def F_law_left_over : List Sl → M D := fnS 12 (seqS (parS [3, 4] (xD (asL (app (consL (var 1) nilL) listS)) (xD (negE (con (.int 1))) nilL)))
  (seqS (forS (rng1 (app (consL (var 1) nilL) lenS)) (nameT 2)
  (seqS (ifS (tst (op2 eqS (app (consL (var 3) nilL) lenS) (var 4))) brk skip)
  (seqS (setS 4 (app (consL (var 3) nilL) lenS))
  (forS (enumL (var 3)) (tupT 2 (consT (nameT 5) (consT (tupT 2 (consT (nameT 7) (consT (nameT 8) nilT))) nilT)))
  (seqS (setS 6 (asL (lcE [9] (rng2 (op2 addS (var 5) (con (.int 1))) (app (consL (var 3) nilL) lenS)) (nameT 9) (tst (op2 eqS (op2 ixS (op2 ixS (var 3) (var 9)) (con (.int 0))) (var 7))) (var 9))))
  (ifS (andT (tst (op2 neS (var 6) (asL (lstE nilL)))) (tst (op2 eqS (op2 ixS (op2 ixS (var 3) (op2 ixS (var 6) (con (.int 0)))) (con (.int 1))) (negE (var 8))))) (ifS (tst (op2 eqS (asL (lcE [10, 11] (itL (asL (sliL (var 3) (part (op2 addS (var 5) (con (.int 1)))) (part (op2 ixS (var 6) (con (.int 0))))))) (tupT 2 (consT (nameT 10) (consT (nameT 11) nilT))) (tst (call 3 F_law_do_clash (consA (var 0) (consA (var 7) (consA (var 10) nilL))))) (con (.int 1)))) (asL (lstE nilL)))) (seqS (setS 3 (asL (catE (asL (catE (asL (sliL (var 3) noPart (part (var 5)))) (asL (sliL (var 3) (part (op2 addS (var 5) (con (.int 1)))) (part (op2 ixS (var 6) (con (.int 0)))))))) (asL (sliL (var 3) (part (op2 addS (op2 ixS (var 6) (con (.int 0))) (con (.int 1)))) noPart)))))
  brk) skip) skip))))))
  (retS (var 3))))
theorem ok_law_left_over (T : Txt K mg) : DefOk P w K mg base "_law_left_over" 2 2 F_law_left_over := by
  obtain ⟨fdd, F⟩ := T.says.def_ 53 (d := df__law_left_over) rfl
  refine ⟨⟨fdd, ["_law_book", "_law_word"], fn_ok (N := ["_law_book", "_law_word", "_law_turn", "_law_left", "_law_before", "_law_at", "_law_far", "_law_i", "_law_sign", "_law_k", "_law_j", "_law_other"]) F sc_law_left_over (fun cdv A outer s' H E hr => ?_), FunD.bindsN F fun _ _ _ _ _ _ us hl => match us, hl with | [_, _], _ => rfl⟩, T.glo 53 rfl, F.kp⟩
  exact (s_cons (s_parT (is := [3, 4]) (n := 2) (fun ta h => ps_asg (pe_tup h) (pg_tup rfl (pgs_cons (pg_name (i := 3) sc_law_left_over.nd rfl (.inr rfl)) (pgs_cons (pg_name (i := 4) sc_law_left_over.nd rfl (.inl rfl)) pgs_nil)))) (x_d (fd (f_callTy c_list (by rfl) (T.free 77 rfl) bt_list (was_cons (sw (dv (pv 1))) was_nil))) (x_d (d_neg (sw dc_int)) x_nil)) rfl (by decide))
    (s_cons (s_for PassesOwn.never rfl (i_rng1 (by rfl) (T.free 75 rfl) (sw (d_callB c_len (by rfl) (T.free 65 rfl) bt_len (was_cons (sw (dv (pv 1))) was_nil)))) (g_name (pg_name (i := 2) sc_law_left_over.nd rfl (.inl rfl)))
    (s_cons (s_if (d_cmpT (o_eq hr.units) (sw (d_callB c_len (by rfl) (T.free 65 rfl) bt_len (was_cons (sw (dv (pv 3))) was_nil))) (sw (dv (pv 4)))) (s_one s_break) s_nil)
    (s_cons (s_set (ps_set (i := 4) sc_law_left_over.nd rfl (.inl rfl) (d_callB c_len (by rfl) (T.free 65 rfl) bt_len (was_cons (sw (dv (pv 3))) was_nil))))
    (s_one (s_for PassesOwn.never rfl (i_enumL (by rfl) (T.free 74 rfl) (dv (pv 3))) (g_tup (n := 2) rfl (gs_cons (g_name (pg_name (i := 5) sc_law_left_over.nd rfl (.inl rfl))) (gs_cons (g_tup (n := 2) rfl (gs_cons (g_name (pg_name (i := 7) sc_law_left_over.nd rfl (.inr rfl))) (gs_cons (g_name (pg_name (i := 8) sc_law_left_over.nd rfl (.inl rfl))) gs_nil))) gs_nil)))
    (s_cons (s_setLD (a_lc (i := 6) rfl sc_law_left_over.nd rfl rfl (sw_true rfl rfl rfl (by decide +kernel)) (ij (i_rng2 (by rfl) (T.free 75 rfl) (sw (d_bin o_add (sw (dv (pv 5))) (sw dc_int))) (sw (d_callB c_len (by rfl) (T.free 65 rfl) bt_len (was_cons (sw (dv (pv 3))) was_nil))))) (blkOk_by (own := [("_law_k", 9)]) (by kernel_rfl)) (fun _ _ _ _ _ => (g_name (pg_name (i := 9) sc_law_left_over.nd rfl (.inl rfl)))) (fun _ _ _ _ _ => (ts_one (d_cmpT (o_eq hr.units) (sw (d_ix (sw (d_ix (sw (dv (pv 3))) (sw (dv (pv 9))))) (sw dc_int))) (sw (dv (pv 7)))))) (fun _ _ _ _ _ => (dv (pv 9))) (by decide)))
    (s_one (s_if (PW.pt (w_and (d_cmpT (o_ne hr.units) (sw (dv (pv 6))) (fw (d_lst das_nil))) (w_and1 (d_cmpT (o_eq hr.units) (sw (d_ix (sw (d_ix (sw (dv (pv 3))) (sw (d_ix (sw (dv (pv 6))) (sw dc_int))))) (sw dc_int))) (sw (d_neg (sw (dv (pv 8))))))))) (s_one (s_if (d_cmpT (o_eq hr.units) (fw (f_lc rfl sc_law_left_over.nd (ij (i_list (fd (d_sliL (sw (dv (pv 3))) (p_some (sw (d_bin o_add (sw (dv (pv 5))) (sw dc_int)))) (p_some (sw (d_ix (sw (dv (pv 6))) (sw dc_int)))))))) (blkOk_by (own := [("_law_j", 10), ("_law_other", 11)]) (by kernel_rfl)) (fun _ _ _ _ _ => (g_tup (n := 2) rfl (gs_cons (g_name (pg_name (i := 10) sc_law_left_over.nd rfl (.inl rfl))) (gs_cons (g_name (pg_name (i := 11) sc_law_left_over.nd rfl (.inl rfl))) gs_nil)))) (fun _ _ _ _ _ => (ts_one (dt_of (d_callD (ok_law_do_clash T) hr (by decide) (by rfl) (aas_cons (dv (pv 0)) (aas_cons (dv (pv 7)) (aas_cons (dv (pv 10)) aas_nil))))))) (fun _ _ _ _ _ => dc_int) (by decide))) (fw (d_lst das_nil))) (s_cons (s_set (ps_set (i := 3) sc_law_left_over.nd rfl (.inr rfl) (fd (f_cat (fw (f_cat (fw (d_sliL (sw (dv (pv 3))) p_none (p_some (sw (dv (pv 5)))))) (fw (d_sliL (sw (dv (pv 3))) (p_some (sw (d_bin o_add (sw (dv (pv 5))) (sw dc_int)))) (p_some (sw (d_ix (sw (dv (pv 6))) (sw dc_int)))))))) (fw (d_sliL (sw (dv (pv 3))) (p_some (sw (d_bin o_add (sw (d_ix (sw (dv (pv 6))) (sw dc_int))) (sw dc_int)))) p_none))))))
    (s_one s_break)) s_nil)) s_nil))))))))
    (s_one (s_ret (dv (pv 3))))))
theorem sc_law_are_alike : FnScope ["_law_book", "_law_one", "_law_other", "_law_at", "_law_here", "_law_there"] ["_law_book", "_law_one", "_law_other"] (defScope st__law_are_alike) := ⟨rfl, rfl, rfl, by decide +kernel, rfl, by decide +kernel, by decide +kernel⟩
def F_law_are_alike : List Sl → M D := fnS 6 (seqS (ifS (tst (op2 neS (asL (app (consL (var 1) nilL) sortPS)) (asL (app (consL (var 2) nilL) sortPS)))) (retS (con (.bl false))) skip)
  (seqS (forS (enumL (var 1)) (tupT 2 (consT (nameT 3) (consT (nameT 4) nilT)))
  (forS (itL (asL (sliL (var 1) (part (op2 addS (var 3) (con (.int 1)))) noPart))) (nameT 5)
  (ifS (andT (tst (op2 neS (op2 ixS (var 4) (con (.int 0))) (op2 ixS (var 5) (con (.int 0))))) (tst (call 3 F_law_do_clash (consA (var 0) (consA (op2 ixS (var 4) (con (.int 0))) (consA (op2 ixS (var 5) (con (.int 0))) nilL)))))) (ifS (tst (op2 gtS (indexL (asL (app (consL (var 2) nilL) listS)) (var 4)) (indexL (asL (app (consL (var 2) nilL) listS)) (var 5)))) (retS (con (.bl false))) skip) skip)))
  (retS (con (.bl true)))))
theorem ok_law_are_alike (T : Txt K mg) : DefOk P w K mg base "_law_are_alike" 2 3 F_law_are_alike := by
  obtain ⟨fdd, F⟩ := T.says.def_ 54 (d := df__law_are_alike) rfl
  refine ⟨⟨fdd, ["_law_book", "_law_one", "_law_other"], fn_ok (N := ["_law_book", "_law_one", "_law_other", "_law_at", "_law_here", "_law_there"]) F sc_law_are_alike (fun cdv A outer s' H E hr => ?_), FunD.bindsN F fun _ _ _ _ _ _ us hl => match us, hl with | [_, _, _], _ => rfl⟩, T.glo 54 rfl, F.kp⟩
  exact (s_cons (s_if (d_cmpT (o_ne hr.units) (fw (f_callB (c_sortP) (by rfl) (T.free 76 rfl) bt_sorted (was_cons (sw (dv (pv 1))) was_nil))) (fw (f_callB (c_sortP) (by rfl) (T.free 76 rfl) bt_sorted (was_cons (sw (dv (pv 2))) was_nil)))) (s_one (s_ret dc_bl)) s_nil)
    (s_cons (s_for PassesOwn.never rfl (i_enumL (by rfl) (T.free 74 rfl) (dv (pv 1))) (g_tup (n := 2) rfl (gs_cons (g_name (pg_name (i := 3) sc_law_are_alike.nd rfl (.inl rfl))) (gs_cons (g_name (pg_name (i := 4) sc_law_are_alike.nd rfl (.inl rfl))) gs_nil)))
    (s_one (s_for PassesOwn.never rfl (i_list (fd (d_sliL (sw (dv (pv 1))) (p_some (sw (d_bin o_add (sw (dv (pv 3))) (sw dc_int)))) p_none))) (g_name (pg_name (i := 5) sc_law_are_alike.nd rfl (.inl rfl)))
    (s_one (s_if (PW.pt (w_and (d_cmpT (o_ne hr.units) (sw (d_ix (sw (dv (pv 4))) (sw dc_int))) (sw (d_ix (sw (dv (pv 5))) (sw dc_int)))) (w_and1 (dt_of (d_callD (ok_law_do_clash T) hr (by decide) (by rfl) (aas_cons (dv (pv 0)) (aas_cons (d_ix (sw (dv (pv 4))) (sw dc_int)) (aas_cons (d_ix (sw (dv (pv 5))) (sw dc_int)) aas_nil)))))))) (s_one (s_if (d_cmpT o_gt (sw (d_indexL (hu65 hr) (fw (f_callTy c_list (by rfl) (T.free 77 rfl) bt_list (was_cons (sw (dv (pv 2))) was_nil))) (sw (dv (pv 4))))) (sw (d_indexL (hu65 hr) (fw (f_callTy c_list (by rfl) (T.free 77 rfl) bt_list (was_cons (sw (dv (pv 2))) was_nil))) (sw (dv (pv 5)))))) (s_one (s_ret dc_bl)) s_nil)) s_nil)))))
    (s_one (s_ret dc_bl))))
theorem sc_law_is_int : FnScope ["_law_thing"] ["_law_thing"] (defScope st__law_is_int) := ⟨rfl, rfl, rfl, by decide +kernel, rfl, by decide +kernel, by decide +kernel⟩
def F_law_is_int : List Sl → M D := fnS 1 (retS (andE (isS "int" (var 0)) (notE (isS "bool" (var 0)))))
theorem ok_law_is_int (T : Txt K mg) : DefOk P w K mg base "_law_is_int" 1 1 F_law_is_int := by
  obtain ⟨fdd, F⟩ := T.says.def_ 56 (d := df__law_is_int) rfl
  refine ⟨⟨fdd, ["_law_thing"], fn_ok (N := ["_law_thing"]) F sc_law_is_int (fun cdv A outer s' H E hr => ?_), FunD.bindsN F fun _ _ _ _ _ _ us hl => match us, hl with | [_], _ => rfl⟩, T.glo 56 rfl, F.kp⟩
  exact (s_one (s_ret (d_and (d_isi (T := "int") (sw (dv (pv 0))) (by rfl) (T.free 66 rfl) (by rfl) (T.free 67 rfl) bt_int) (d_one (d_not (d_isi (T := "bool") (sw (dv (pv 0))) (by rfl) (T.free 66 rfl) (by rfl) (T.free 69 rfl) bt_bool))))))
end
end EC
end
/-! ## W7 -/
section

set_option Elab.async false
set_option linter.all false
set_option maxRecDepth 100000
set_option maxHeartbeats 4000000
namespace EC
open PySem PySem.Spec PyProof.Rows L2
section
variable {P : Program} {w : World} {K : PySem.W.Frag} {mg : Str → Option Value} {base : Heap}
theorem sc_law_cut_word : FnScope ["_law_history", "_law_p", "_law_book", "_law_found", "_law_left", "_law_at", "_law_event", "_law_i"] ["_law_history", "_law_p"] (defScope st__law_cut_word) := ⟨rfl, rfl, rfl, by decide +kernel, rfl, by decide +kernel, by decide +kernel⟩
def F_law_cut_word : List Sl → M D := fnS 8 (seqS (setS 2 (call 2 F_law_read_book (consA (tupE (consL (tupE nilL) (consL (tupE nilL) nilL))) (consA (sliT (var 0) noPart (part (var 1))) nilL))))
  (seqS (setO 3 (lstE nilL))
  (seqS (forS (enumT (sliT (var 0) noPart (part (var 1)))) (tupT 2 (consT (nameT 5) (consT (nameT 6) nilT)))
  (ifS (tst (op2 eqS (op2 ixS (var 6) (con (.int 0))) (con (.str "do")))) (appS 3 (tupE (consL (var 5) (consL (con (.int 1)) nilL)))) (ifS (tst (op2 eqS (op2 ixS (var 6) (con (.int 0))) (con (.str "back")))) (appS 3 (tupE (consL (op2 ixS (var 6) (con (.int 2))) (consL (negE (con (.int 1))) nilL)))) skip)))
  (seqS (setS 4 (asL (lcE [7] (itK (op2 getS (var 2) (con (.str "steps")))) (nameT 7) (andT (tst (op2 dninS (var 7) (op2 getS (var 2) (con (.str "backs"))))) (tst (op2 dninS (op2 ixS (op2 getS (op2 getS (var 2) (con (.str "steps"))) (var 7)) (con (.int 0))) (op2 getS (var 2) (con (.str "kept")))))) (var 7))))
  (retS (tupE (consL (app (consL (asL (catE (varW 3) (asL (lcE [7] (itL (asL (revL (var 4)))) (nameT 7) yes (tupE (consL (var 7) (consL (negE (con (.int 1))) nilL))))))) nilL) tupWS) (consL (asL (app (consL (op2 getS (var 2) (con (.str "kept"))) nilL) listKS)) nilL))))))))
theorem ok_law_cut_word (T : Txt K mg) : DefOk P w K mg base "_law_cut_word" 3 2 F_law_cut_word := by
  obtain ⟨fdd, F⟩ := T.says.def_ 51 (d := df__law_cut_word) rfl
  refine ⟨⟨fdd, ["_law_history", "_law_p"], fn_ok (N := ["_law_history", "_law_p", "_law_book", "_law_found", "_law_left", "_law_at", "_law_event", "_law_i"]) F sc_law_cut_word (fun cdv A outer s' H E hr => ?_), FunD.bindsN F fun _ _ _ _ _ _ us hl => match us, hl with | [_, _], _ => rfl⟩, T.glo 51 rfl, F.kp⟩
  exact (s_cons (s_set (ps_set (i := 2) sc_law_cut_word.nd rfl (.inr rfl) (d_callD (ok_law_read_book T) hr (by decide) (by rfl) (aas_cons (d_tup (das_cons (d_tup das_nil) (das_cons (d_tup das_nil) das_nil))) (aas_cons (d_sliT (dv (pv 0)) p_none (p_some (sw (dv (pv 1))))) aas_nil)))))
    (s_cons (s_setLO (ps_set (i := 3) sc_law_cut_word.nd rfl (.inl rfl) (d_lst das_nil)))
    (s_cons (s_for PassesOwn.never rfl (i_enumT (by rfl) (T.free 74 rfl) (d_sliT (dv (pv 0)) p_none (p_some (sw (dv (pv 1)))))) (g_tup (n := 2) rfl (gs_cons (g_name (pg_name (i := 5) sc_law_cut_word.nd rfl (.inl rfl))) (gs_cons (g_name (pg_name (i := 6) sc_law_cut_word.nd rfl (.inl rfl))) gs_nil)))
    (s_one (s_if (d_cmpT (o_eq hr.units) (sw (d_ix (sw (dv (pv 6))) (sw dc_int))) (sw dc_str)) (s_one (s_append (i := 3) (ps_expr (pe_bm PySem.F.plainAttrs_list PySem.F.slot_list_append PySem.F.type_list_append mt_append (pv 3) (pa_cons (d_tup (das_cons (dv (pv 5)) (das_cons dc_int das_nil))) pa_nil))))) (s_one (s_if (d_cmpT (o_eq hr.units) (sw (d_ix (sw (dv (pv 6))) (sw dc_int))) (sw dc_str)) (s_one (s_append (i := 3) (ps_expr (pe_bm PySem.F.plainAttrs_list PySem.F.slot_list_append PySem.F.type_list_append mt_append (pv 3) (pa_cons (d_tup (das_cons (d_ix (sw (dv (pv 6))) (sw dc_int)) (das_cons (d_neg (sw dc_int)) das_nil))) pa_nil))))) s_nil)))))
    (s_cons (s_setLD (a_lc (i := 4) rfl sc_law_cut_word.nd rfl rfl (sw_true rfl rfl rfl (by decide +kernel)) (ij (i_keys (d_get (hu_of hr) (sw (dv (pv 2))) (sw dc_str)))) (blkOk_by (own := [("_law_i", 7)]) (by kernel_rfl)) (fun _ _ _ _ _ => (g_name (pg_name (i := 7) sc_law_cut_word.nd rfl (.inl rfl)))) (fun _ _ _ _ _ => (ts_one (PW.pt (w_and (t_dnin (hu_of hr) (sw (dv (pv 7))) (sw (d_get (hu_of hr) (sw (dv (pv 2))) (sw dc_str)))) (w_and1 (t_dnin (hu_of hr) (sw (d_ix (sw (d_get (hu_of hr) (sw (d_get (hu_of hr) (sw (dv (pv 2))) (sw dc_str))) (sw (dv (pv 7))))) (sw dc_int))) (sw (d_get (hu_of hr) (sw (dv (pv 2))) (sw dc_str))))))))) (fun _ _ _ _ _ => (dv (pv 7))) (by decide)))
    (s_one (s_ret (d_tup (das_cons (d_callTy c_tupleW (by rfl) (T.free 70 rfl) bt_tuple (was_cons (fw (f_cat (dvw (pv 3)) (fw (f_lc rfl sc_law_cut_word.nd (ij (i_list (fd (d_revL (sw (dv (pv 4))))))) (blkOk_by (own := [("_law_i", 7)]) (by kernel_rfl)) (fun _ _ _ _ _ => (g_name (pg_name (i := 7) sc_law_cut_word.nd rfl (.inl rfl)))) (fun _ _ _ _ _ => ts_nil) (fun _ _ _ _ _ => (d_tup (das_cons (dv (pv 7)) (das_cons (d_neg (sw dc_int)) das_nil)))) (by decide))))) was_nil)) (das_cons (fd (f_callTy (c_listK rfl) (by rfl) (T.free 77 rfl) bt_list (was_cons (sw (d_get (hu_of hr) (sw (dv (pv 2))) (sw dc_str))) was_nil))) das_nil)))))))))
theorem sc_law_edges : FnScope ["_law_book", "_law_p", "_law_found", "_law_some", "_law_at", "_law_i", "_law_j"] ["_law_book", "_law_p"] (defScope st__law_edges) := ⟨rfl, rfl, rfl, by decide +kernel, rfl, by decide +kernel, by decide +kernel⟩
def F_law_edges : List Sl → M D := fnS 7 (seqS (parS [2, 3] (xO (lstE nilL) (xD (asL (lcE [5] (itK (op2 getS (var 0) (con (.str "steps")))) (nameT 5) (tst (op2 ltS (var 5) (var 1))) (var 5))) nilL)))
  (seqS (forS (enumL (var 3)) (tupT 2 (consT (nameT 4) (consT (nameT 5) nilT)))
  (extS 2 (asL (lcE [6] (itL (asL (sliL (var 3) (part (op2 addS (var 4) (con (.int 1)))) noPart))) (nameT 6) (tst (call 3 F_law_do_clash (consA (var 0) (consA (var 5) (consA (var 6) nilL))))) (tupE (consL (op2 ixS (op2 getS (op2 getS (var 0) (con (.str "steps"))) (var 5)) (con (.int 0))) (consL (op2 ixS (op2 getS (op2 getS (var 0) (con (.str "steps"))) (var 6)) (con (.int 0))) nilL)))))))
  (give 2 (retS (var 2)))))
theorem ok_law_edges (T : Txt K mg) : DefOk P w K mg base "_law_edges" 2 2 F_law_edges := by
  obtain ⟨fdd, F⟩ := T.says.def_ 58 (d := df__law_edges) rfl
  refine ⟨⟨fdd, ["_law_book", "_law_p"], fn_ok (N := ["_law_book", "_law_p", "_law_found", "_law_some", "_law_at", "_law_i", "_law_j"]) F sc_law_edges (fun cdv A outer s' H E hr => ?_), FunD.bindsN F fun _ _ _ _ _ _ us hl => match us, hl with | [_, _], _ => rfl⟩, T.glo 58 rfl, F.kp⟩
  exact (s_cons (s_par (i := 2) (j := 3) (fun ta h => ps_par rfl sc_law_edges.nd rfl rfl (by decide) rfl rfl h (by rfl)) (x_o (d_lst das_nil) (x_d (fd (f_lc rfl sc_law_edges.nd (ij (i_keys (d_get (hu_of hr) (sw (dv (pv 0))) (sw dc_str)))) (blkOk_by (own := [("_law_i", 5)]) (by kernel_rfl)) (fun _ _ _ _ _ => (g_name (pg_name (i := 5) sc_law_edges.nd rfl (.inl rfl)))) (fun _ _ _ _ _ => (ts_one (d_cmpT o_lt (sw (dv (pv 5))) (sw (dv (pv 1)))))) (fun _ _ _ _ _ => (dv (pv 5))) (by decide))) x_nil)))
    (s_cons (s_for PassesOwn.never rfl (i_enumL (by rfl) (T.free 74 rfl) (dv (pv 3))) (g_tup (n := 2) rfl (gs_cons (g_name (pg_name (i := 4) sc_law_edges.nd rfl (.inl rfl))) (gs_cons (g_name (pg_name (i := 5) sc_law_edges.nd rfl (.inr rfl))) gs_nil)))
    (s_one (s_extend (i := 2) (ps_expr (pe_bm PySem.F.plainAttrs_list PySem.F.slot_list_extend PySem.F.type_list_extend mt_extend (pv 2) (pa_cons (fw (f_lc rfl sc_law_edges.nd (ij (i_list (fd (d_sliL (sw (dv (pv 3))) (p_some (sw (d_bin o_add (sw (dv (pv 4))) (sw dc_int)))) p_none)))) (blkOk_by (own := [("_law_j", 6)]) (by kernel_rfl)) (fun _ _ _ _ _ => (g_name (pg_name (i := 6) sc_law_edges.nd rfl (.inl rfl)))) (fun _ _ _ _ _ => (ts_one (dt_of (d_callD (ok_law_do_clash T) hr (by decide) (by rfl) (aas_cons (dv (pv 0)) (aas_cons (dv (pv 5)) (aas_cons (dv (pv 6)) aas_nil))))))) (fun _ _ _ _ _ => (d_tup (das_cons (d_ix (sw (d_get (hu_of hr) (sw (d_get (hu_of hr) (sw (dv (pv 0))) (sw dc_str))) (sw (dv (pv 5))))) (sw dc_int)) (das_cons (d_ix (sw (d_get (hu_of hr) (sw (d_get (hu_of hr) (sw (dv (pv 0))) (sw dc_str))) (sw (dv (pv 6))))) (sw dc_int)) das_nil)))) (by decide))) pa_nil))))))
    (s_one (s_give 2 (s_ret (dv (pv 2)))))))
theorem sc_law_pick : FnScope ["_law_deck", "_law_some"] ["_law_deck", "_law_some"] (defScope st__law_pick) := ⟨rfl, rfl, rfl, by decide +kernel, rfl, by decide +kernel, by decide +kernel⟩
def F_law_pick : List Sl → M D := fnS 2 (retS (op2 ixS (var 1) (call 2 F_law_draw (consK 0 (consA (app (consL (var 1) nilL) lenS) nilL)))))
theorem ok_law_pick (T : Txt K mg) : DefOk P w K mg base "_law_pick" 2 2 F_law_pick := by
  obtain ⟨fdd, F⟩ := T.says.def_ 43 (d := df__law_pick) rfl
  refine ⟨⟨fdd, ["_law_deck", "_law_some"], fn_ok (N := ["_law_deck", "_law_some"]) F sc_law_pick (fun cdv A outer s' H E hr => ?_), FunD.bindsN F fun _ _ _ _ _ _ us hl => match us, hl with | [_, _], _ => rfl⟩, T.glo 43 rfl, F.kp⟩
  exact (s_one (s_ret (d_ix (sw (dv (pv 1))) (sw (d_callD (ok_law_draw T) hr (by decide) (by rfl) (aas_k (pv 0) (aas_cons (d_callB c_len (by rfl) (T.free 65 rfl) bt_len (was_cons (sw (dv (pv 1))) was_nil)) aas_nil)))))))
theorem sc_law_mixed : FnScope ["_law_deck", "_law_some", "_law_marks", "_law_at", "_law_mark"] ["_law_deck", "_law_some"] (defScope st__law_mixed) := ⟨rfl, rfl, rfl, by decide +kernel, rfl, by decide +kernel, by decide +kernel⟩
def F_law_mixed : List Sl → M D := fnS 5 (seqS (setS 2 (asL (app (consL (asL (lcE [3] (rng1 (app (consL (var 1) nilL) lenS)) (nameT 3) yes (tupE (consL (call 2 F_law_draw (consK 0 (consA (con (.int 1000)) nilL))) (consL (var 3) nilL))))) nilL) sortPS)))
  (retS (asL (lcE [4, 3] (itL (var 2)) (tupT 2 (consT (nameT 4) (consT (nameT 3) nilT))) yes (op2 ixS (var 1) (var 3))))))
theorem ok_law_mixed (T : Txt K mg) : DefOk P w K mg base "_law_mixed" 2 2 F_law_mixed := by
  obtain ⟨fdd, F⟩ := T.says.def_ 44 (d := df__law_mixed) rfl
  refine ⟨⟨fdd, ["_law_deck", "_law_some"], fn_ok (N := ["_law_deck", "_law_some", "_law_marks", "_law_at", "_law_mark"]) F sc_law_mixed (fun cdv A outer s' H E hr => ?_), FunD.bindsN F fun _ _ _ _ _ _ us hl => match us, hl with | [_, _], _ => rfl⟩, T.glo 44 rfl, F.kp⟩
  exact (s_cons (s_set (ps_set (i := 2) sc_law_mixed.nd rfl (.inl rfl) (fd (f_callB (c_sortP) (by rfl) (T.free 76 rfl) bt_sorted (was_cons (fw (f_lc rfl sc_law_mixed.nd (ij (i_rng1 (by rfl) (T.free 75 rfl) (sw (d_callB c_len (by rfl) (T.free 65 rfl) bt_len (was_cons (sw (dv (pv 1))) was_nil))))) (blkOk_by (own := [("_law_at", 3)]) (by kernel_rfl)) (fun _ _ _ _ _ => (g_name (pg_name (i := 3) sc_law_mixed.nd rfl (.inl rfl)))) (fun _ _ _ _ _ => ts_nil) (fun _ _ _ _ _ => (d_tup (das_cons (d_callD (ok_law_draw T) hr (by decide) (by rfl) (aas_k (pv 0) (aas_cons dc_int aas_nil))) (das_cons (dv (pv 3)) das_nil)))) (by decide))) was_nil)))))
    (s_one (s_ret (fd (f_lc rfl sc_law_mixed.nd (ij (i_list (dv (pv 2)))) (blkOk_by (own := [("_law_mark", 4), ("_law_at", 3)]) (by kernel_rfl)) (fun _ _ _ _ _ => (g_tup (n := 2) rfl (gs_cons (g_name (pg_name (i := 4) sc_law_mixed.nd rfl (.inl rfl))) (gs_cons (g_name (pg_name (i := 3) sc_law_mixed.nd rfl (.inl rfl))) gs_nil)))) (fun _ _ _ _ _ => ts_nil) (fun _ _ _ _ _ => (d_ix (sw (dv (pv 1))) (sw (dv (pv 3))))) (by decide))))))
theorem sc_law_any_word : FnScope ["_law_deck", "_law_most", "_law_size", "_law_place"] ["_law_deck", "_law_most"] (defScope st__law_any_word) := ⟨rfl, rfl, rfl, by decide +kernel, rfl, by decide +kernel, by decide +kernel⟩
def F_law_any_word : List Sl → M D := fnS 4 (seqS (setS 2 (op2 addS (con (.int 1)) (call 2 F_law_draw (consK 0 (consA (var 1) nilL)))))
  (retS (joinE (con (.str "")) (asL (lcE [3] (rng1 (var 2)) (nameT 3) yes (call 2 F_law_pick (consK 0 (consA (con (.str "qwertyuiopasdfghjklzxcvbnm")) nilL))))))))
theorem ok_law_any_word (T : Txt K mg) : DefOk P w K mg base "_law_any_word" 3 2 F_law_any_word := by
  obtain ⟨fdd, F⟩ := T.says.def_ 45 (d := df__law_any_word) rfl
  refine ⟨⟨fdd, ["_law_deck", "_law_most"], fn_ok (N := ["_law_deck", "_law_most", "_law_size", "_law_place"]) F sc_law_any_word (fun cdv A outer s' H E hr => ?_), FunD.bindsN F fun _ _ _ _ _ _ us hl => match us, hl with | [_, _], _ => rfl⟩, T.glo 45 rfl, F.kp⟩
  exact (s_cons (s_set (ps_set (i := 2) sc_law_any_word.nd rfl (.inl rfl) (d_bin o_add (sw dc_int) (sw (d_callD (ok_law_draw T) hr (by decide) (by rfl) (aas_k (pv 0) (aas_cons (dv (pv 1)) aas_nil)))))))
    (s_one (s_ret (d_join (sw dc_str) (fw (f_lc rfl sc_law_any_word.nd (ij (i_rng1 (by rfl) (T.free 75 rfl) (sw (dv (pv 2))))) (blkOk_by (own := [("_law_place", 3)]) (by kernel_rfl)) (fun _ _ _ _ _ => (g_name (pg_name (i := 3) sc_law_any_word.nd rfl (.inl rfl)))) (fun _ _ _ _ _ => ts_nil) (fun _ _ _ _ _ => (d_callD (ok_law_pick T) hr (by decide) (by rfl) (aas_k (pv 0) (aas_cons dc_str aas_nil)))) (by decide)))))))
end
end EC
end
/-! ## E12 -/
section
set_option Elab.async false
set_option linter.all false
set_option maxRecDepth 100000
set_option maxHeartbeats 4000000
/-! E12: a new dict of new lists. -/
namespace EC
open PySem PySem.Spec PyProof.Rows L2
def edK (ks : List Int) (ls : List Addr) : List (Key × V) := (ks.map Sum.inl).zip (ls.map V.ref)
structure EdgeAt (W : Wd) (H0 B H : Hp) (p : Addr) (ks : List Int) (ls : List Addr) (rows : List (List Int)) : Prop where
  dict : H p = some (.dK (edK ks ls))
  l1 : ls.length = ks.length
  l2 : rows.length = ks.length
  row : ∀ (i : Nat) (l : Addr) (r : List Int), ls[i]? = some l → rows[i]? = some r → H l = some (.lst (r.map V.int))
  nk : ks.Nodup
  nl : ls.Nodup
  np : p ∉ ls
  fr : ∀ x, x = p ∨ x ∈ ls → B x = none ∧ H0 x = none ∧ ND W x
theorem EdgeAt.there {W : Wd} {H0 B H : Hp} {p : Addr} {ks : List Int} {ls : List Addr} {rows : List (List Int)} (k : EdgeAt W H0 B H p ks ls rows) {x : Addr} (hx : x = p ∨ x ∈ ls) : ∃ o, H x = some o := by
  rcases hx with rfl | hx
  · exact ⟨_, k.dict⟩
  · obtain ⟨i, hi, e⟩ := List.getElem_of_mem hx
    have h2 : i < rows.length := by rw [k.l2, ← k.l1]; exact hi
    exact ⟨_, k.row i x rows[i] (by rw [List.getElem?_eq_getElem hi, e]) (List.getElem?_eq_getElem h2)⟩
theorem EdgeAt.grow {W : Wd} {H0 B H B' H' : Hp} {p : Addr} {ks : List Int} {ls : List Addr} {rows : List (List Int)} (k : EdgeAt W H0 B H p ks ls rows) (w : Grow W B H B' H') : EdgeAt W H0 B' H' p ks ls rows := by
  refine ⟨w.hh _ _ (k.fr p (.inl rfl)).2.2 k.dict, k.l1, k.l2, fun i l r h1 h2 => w.hh _ _ (k.fr l (.inr (List.mem_of_getElem? h1))).2.2 (k.row i l r h1 h2), k.nk, k.nl, k.np, fun x hx => ?_⟩
  obtain ⟨o, ho⟩ := k.there hx
  exact ⟨w.nw x (k.fr x hx).1 (by rw [ho]; simp), (k.fr x hx).2⟩
/-- as data, for a while -/
noncomputable def snapB (B H : Hp) (p : Addr) (ls : List Addr) : Hp := fun x => if x = p ∨ x ∈ ls then H x else B x
noncomputable def cutB (B : Hp) (p : Addr) (ls : List Addr) : Hp := fun x => if x = p ∨ x ∈ ls then none else B x
def rowsD (rows : List (List Int)) : List D := rows.map fun r => .lst (r.map D.int)
theorem snap_sub {W : Wd} {H0 B H : Hp} {p : Addr} {ks : List Int} {ls : List Addr} {rows : List (List Int)} (k : EdgeAt W H0 B H p ks ls rows) : Sub B (snapB B H p ls) := fun x o q => by
  unfold snapB
  by_cases hx : x = p ∨ x ∈ ls
  · rw [(k.fr x hx).1] at q; cases q
  · rw [if_neg hx]; exact q
theorem snap_rep {W : Wd} {H0 B H : Hp} {p : Addr} {ks : List Int} {ls : List Addr} {rows : List (List Int)} (k : EdgeAt W H0 B H p ks ls rows) : Rep (snapB B H p ls) (.dk (ks.map Sum.inl) (rowsD rows)) (.ref p) := by
  have at' : ∀ x, x = p ∨ x ∈ ls → snapB B H p ls x = H x := fun x hx => by unfold snapB; rw [if_pos hx]
  refine ⟨p, ls.map V.ref, rfl, .inl (by rw [at' p (.inl rfl)]; exact k.dict), by rw [rowsD, List.length_map, List.length_map, k.l2], ?_⟩
  have go : ∀ (ls' : List Addr) (rows' : List (List Int)), ls'.length = rows'.length → (∀ (i : Nat) (l : Addr) (r : List Int), ls'[i]? = some l → rows'[i]? = some r → H l = some (.lst (r.map V.int)) ∧ l ∈ ls) → RepL (snapB B H p ls) (rowsD rows') (ls'.map V.ref) := by
    intro ls'
    induction ls' with
    | nil => intro rows' h _; have : rows' = [] := List.eq_nil_of_length_eq_zero h.symm; subst this; rfl
    | cons l ls' ih =>
      intro rows' h hr
      match rows', h with
      | r :: rows', h =>
        obtain ⟨h1, h2⟩ := hr 0 l r rfl rfl
        exact ⟨.ref l, _, rfl, ⟨l, _, rfl, by rw [at' l (.inr h2)]; exact h1, ints_rep.mpr rfl⟩, ih rows' (by simpa using h) fun i l' r' q1 q2 => hr (i + 1) l' r' (by simpa using q1) (by simpa using q2)⟩
  exact go ls rows (by rw [k.l1, k.l2]) fun i l r h1 h2 => ⟨k.row i l r h1 h2, List.mem_of_getElem? h1⟩
theorem snap_grow {W : Wd} {B0 H0 B H : Hp} {p : Addr} {ks : List Int} {ls : List Addr} {rows : List (List Int)} (g : Grow W B0 H0 B H) (k : EdgeAt W H0 B H p ks ls rows) : Grow W B0 H0 (snapB B H p ls) H := by
  refine ⟨g.bb.tr (snap_sub k), fun x o q => ?_, g.hh, fun x h1 h2 => ?_, fun q e => ?_⟩
  · unfold snapB at q
    by_cases hx : x = p ∨ x ∈ ls
    · rw [if_pos hx] at q; exact q
    · rw [if_neg hx] at q; exact g.bh _ _ q
  · unfold snapB
    by_cases hx : x = p ∨ x ∈ ls
    · exact absurd (k.fr x hx).2.1 h2
    · rw [if_neg hx]; exact g.nw x h1 h2
  · obtain ⟨h1, h2, h3⟩ := g.wk q e
    have n : ∀ y, (y = q.1 ∨ y = q.2) → ¬ (y = p ∨ y ∈ ls) := fun y hy hx => by
      have nd := (k.fr y hx).2.2 q e
      rcases hy with z | z
      · exact nd.1 z
      · exact nd.2 z
    exact ⟨by unfold snapB; rw [if_neg (n _ (.inl rfl))]; exact h1, by unfold snapB; rw [if_neg (n _ (.inr rfl))]; exact h2, h3⟩
theorem snap_back {W : Wd} {H0 B H B' H' : Hp} {p : Addr} {ks : List Int} {ls : List Addr} {rows : List (List Int)} (k : EdgeAt W H0 B H p ks ls rows) (w : Grow W (snapB B H p ls) H B' H') : Grow W B H (cutB B' p ls) H' := by
  have sb := snap_sub k
  refine ⟨fun x o q => ?_, fun x o q => ?_, w.hh, fun x h1 h2 => ?_, fun q e => ?_⟩
  · have hx : ¬ (x = p ∨ x ∈ ls) := fun hx => by rw [(k.fr x hx).1] at q; cases q
    unfold cutB
    rw [if_neg hx]
    exact w.bb _ _ (sb _ _ q)
  · unfold cutB at q
    by_cases hx : x = p ∨ x ∈ ls
    · rw [if_pos hx] at q; cases q
    · rw [if_neg hx] at q; exact w.bh _ _ q
  · unfold cutB
    by_cases hx : x = p ∨ x ∈ ls
    · rw [if_pos hx]
    · rw [if_neg hx]
      exact w.nw x (by unfold snapB; rw [if_neg hx]; exact h1) h2
  · obtain ⟨h1, h2, h3⟩ := w.wk q e
    refine ⟨?_, ?_, h3⟩
    · unfold cutB; split
      · rfl
      · exact h1
    · unfold cutB; split
      · rfl
      · exact h2
/-- the dict and its lists as data in slot i -/
theorem snap_env {g : G} {σ : L2.St} {H : Hp} {p : Addr} {ks : List Int} {ls : List Addr} {rows : List (List Int)} (E : EnvG g σ H) (k : EdgeAt g.W g.H0 g.B H p ks ls rows) (i : Nat) (hi : σ[i]? = some (some (.ref p))) (hn : ∀ (j : Nat) (ys : List D), g.ρ[j]? ≠ some (.o ys)) :
    EnvG ⟨g.W, g.B0, g.H0, snapB g.B H p ls, g.ρ.set i (.d (.dk (ks.map Sum.inl) (rowsD rows)))⟩ σ H := by
  have E1 : EnvG ⟨g.W, g.B0, g.H0, snapB g.B H p ls, g.ρ⟩ σ H := by
    refine ⟨snap_grow E.r k, fun j d h => ?_, fun j ys h => absurd h (hn j ys), fun j j' xs ys l _ h _ _ _ => absurd h (hn j xs), E.dk, E.len⟩
    obtain ⟨v, h1, h2⟩ := E.dat j d h
    exact ⟨v, h1, h2.mono (snap_sub k)⟩
  have E2 := E1.setD (i := i) (snap_rep k)
  exact E2.same (by rw [List.length_set]) fun j x hx _ => by
    by_cases hj : i = j
    · subst hj
      have : i < σ.length := lt_of_get hi
      rw [List.getElem?_set_self this]; exact hi
    · rw [List.getElem?_set_ne hj]
end EC
end
/-! ## E13 -/
section
set_option Elab.async false
set_option linter.all false
set_option maxRecDepth 100000
set_option maxHeartbeats 4000000
/-! E13: the edges, plain. -/
namespace EC
open PySem PySem.Spec PyProof.Rows L2
theorem EnvG.forget {g : G} {σ : L2.St} {H : Hp} (E : EnvG g σ H) (i : Nat) : EnvG (g.to (g.ρ.set i .no)) σ H :=
  (E.setN i none).same (by rw [List.length_set]) fun j x hx hn => by
    by_cases hj : i = j
    · subst hj
      have hx : (g.ρ.set i .no)[i]? = some x := hx
      have hl : i < g.ρ.length := by have := lt_of_get hx; simpa using this
      rw [List.getElem?_set_self hl] at hx
      cases hx; exact absurd rfl hn
    · rw [List.getElem?_set_ne hj]
/-! ### plain -/
def rowAt (ks : List Int) (rows : List (List Int)) (t : Int) : Option (List Int) := ((ks.zip rows).find? fun p => decide (p.1 = t)).map (·.2)
def edOk (ks : List Int) (rows : List (List Int)) (t u : Int) : Bool := decide (t ≠ u ∧ t ∈ ks ∧ u ∈ ks) && ((rowAt ks rows t).map fun r => !r.contains u).getD false
def edStep (ks : List Int) (rows : List (List Int)) (t u : Int) : List (List Int) := if edOk ks rows t u = true then (ks.zip rows).map fun p => if p.1 = t then p.2 ++ [u] else p.2 else rows
theorem rowAt_get : ∀ {ks : List Int} {rows : List (List Int)} {t : Int}, rows.length = ks.length → t ∈ ks → ∃ (i : Nat) (r : List Int), ks[i]? = some t ∧ rows[i]? = some r ∧ rowAt ks rows t = some r
  | [], _, t, _, h => absurd h (by simp)
  | k :: ks, [], t, h, _ => by simp at h
  | k :: ks, r :: rows, t, h, hm => by
    by_cases e : k = t
    · exact ⟨0, r, by rw [e]; rfl, rfl, by simp [rowAt, e]⟩
    · have hm' : t ∈ ks := (List.mem_cons.mp hm).resolve_left (Ne.symm e)
      obtain ⟨i, r', h1, h2, h3⟩ := rowAt_get (ks := ks) (rows := rows) (by simpa using h) hm'
      refine ⟨i + 1, r', by simpa using h1, by simpa using h2, ?_⟩
      unfold rowAt at h3 ⊢
      rw [List.zip_cons_cons, List.find?_cons]
      simp only [e, decide_false]
      exact h3
theorem look_rows : ∀ {ks : List Int} {rows : List (List Int)} {t : Int}, look (ks.map (Sum.inl : Int → Key)) (rowsD rows) (Sum.inl t : Key) = (rowAt ks rows t).map fun r => D.lst (r.map D.int)
  | [], _, t => rfl
  | k :: ks, [], t => rfl
  | k :: ks, r :: rows, t => by
    have ih := look_rows (ks := ks) (rows := rows) (t := t)
    unfold look rowAt rowsD at *
    simp only [List.map_cons, List.zip_cons_cons, List.find?_cons]
    by_cases e : k = t
    · simp [e]
    · have e2 : ¬ ((Sum.inl k : Key) = Sum.inl t) := fun z => e (Sum.inl.inj z)
      simp only [e, e2, decide_false]
      exact ih
theorem look_isSome {ks : List Int} {rows : List (List Int)} {t : Int} (h : rows.length = ks.length) : (look (ks.map (Sum.inl : Int → Key)) (rowsD rows) (Sum.inl t : Key)).isSome = decide (t ∈ ks) := by
  rw [look_rows, Option.isSome_map]
  by_cases hm : t ∈ ks
  · obtain ⟨i, r, _, _, e⟩ := rowAt_get h hm
    rw [e, decide_eq_true hm]; rfl
  · rw [decide_eq_false hm]
    unfold rowAt
    rw [Option.isSome_map]
    cases q : (ks.zip rows).find? fun p => decide (p.1 = t) with
    | none => rfl
    | some p =>
      have h1 := List.find?_some q
      have h2 := List.mem_of_find?_eq_some q
      have : p.1 ∈ ks := (List.of_mem_zip h2).1
      rw [of_decide_eq_true h1] at this
      exact absurd this hm
theorem eqv_int (x y : Int) : PyData.eqv (.int x) (.int y) = (x == y) := by simp [PyData.eqv]
theorem int_shp (x : Int) : SeqAt.shaped (.int x) = true := by
  unfold SeqAt.shaped
  rw [Bool.and_eq_true]
  exact ⟨by simp [PyData.canLay0], by simp [PyData.depth]⟩
theorem pys_ints (r : List Int) : D.pys (r.map D.int) = r.map PyData.int := by
  rw [D.pys_map, List.map_map]; rfl
theorem inB_int (u : Int) (r : List Int) : inB (.int u) (r.map D.int) = r.contains u := by
  unfold inB
  rw [pys_ints]
  induction r with
  | nil => rfl
  | cons a r ih =>
    rw [List.map_cons, List.any_cons, ih, List.contains_cons]
    have e : PyData.eqv (.int a) (D.py (.int u)) = (a == u) := eqv_int a u
    rw [e, Bool.beq_comm]
theorem lst_shp (r : List Int) : shp (.lst (r.map D.int)) := by
  show SeqAt.shaped (.list (D.pys (r.map D.int))) = true
  rw [pys_ints]
  exact ints_shaped r
/-- the test of edges_at -/
def edT : Rho → M Bool := (andT (tst (op2 neS (var 6) (var 7))) (andT (tst (op2 dinS (var 6) (var 3))) (andT (tst (op2 dinS (var 7) (var 3))) (tst (op2 ninS (var 7) (op2 getS (var 3) (var 6)))))))
theorem edT_ok {ρ : Rho} {ks : List Int} {rows : List (List Int)} {t u : Int} {P : Bool → Prop} (h3 : ρ[3]? = some (.d (.dk (ks.map Sum.inl) (rowsD rows)))) (h6 : ρ[6]? = some (.d (.int t))) (h7 : ρ[7]? = some (.d (.int u))) (hl : rows.length = ks.length) (hp : P (edOk ks rows t u)) : edT ρ P := by
  have v3 : var 3 ρ = ret (.dk (ks.map Sum.inl) (rowsD rows)) := by unfold var; rw [h3]
  have v6 : var 6 ρ = ret (.int t) := by unfold var; rw [h6]
  have v7 : var 7 ρ = ret (.int u) := by unfold var; rw [h7]
  have d6 : tst (op2 dinS (var 6) (var 3)) ρ = ret (decide (t ∈ ks)) := by
    unfold tst op2
    rw [v6, v3]
    show bnd (dinS (.int t) (.dk (ks.map Sum.inl) (rowsD rows))) asB = _
    unfold dinS
    have e : dlook (.dk (ks.map Sum.inl) (rowsD rows)) (.int t) = some (look (ks.map Sum.inl) (rowsD rows) (.inl t)) := rfl
    rw [e]
    show ret ((look (ks.map Sum.inl) (rowsD rows) (.inl t)).isSome) = _
    rw [look_isSome hl]
  have d7 : tst (op2 dinS (var 7) (var 3)) ρ = ret (decide (u ∈ ks)) := by
    unfold tst op2
    rw [v7, v3]
    show bnd (dinS (.int u) (.dk (ks.map Sum.inl) (rowsD rows))) asB = _
    unfold dinS
    have e : dlook (.dk (ks.map Sum.inl) (rowsD rows)) (.int u) = some (look (ks.map Sum.inl) (rowsD rows) (.inl u)) := rfl
    rw [e]
    show ret ((look (ks.map Sum.inl) (rowsD rows) (.inl u)).isSome) = _
    rw [look_isSome hl]
  have dne : tst (op2 neS (var 6) (var 7)) ρ = ret (!(t == u)) := by
    unfold tst op2
    rw [v6, v7]
    show bnd (neS (.int t) (.int u)) asB = _
    unfold neS
    rw [chk_of ⟨int_shp t, int_shp u⟩]
    show ret (!PyData.eqv (.int t) (.int u)) = _
    rw [eqv_int]
  unfold edT andT
  rw [dne]
  show (if (!(t == u)) = true then (_ : M Bool) else (_ : M Bool)) P
  unfold edOk at hp
  by_cases htu : t = u
  · subst htu
    have e : (!(t == t)) = false := by simp
    rw [e, if_neg Bool.false_ne_true]
    show P false
    simpa using hp
  · have e : (!(t == u)) = true := by simp [htu]
    rw [e, if_pos rfl, d6]
    show (if decide (t ∈ ks) = true then (_ : M Bool) else (_ : M Bool)) P
    by_cases ht : t ∈ ks
    · rw [decide_eq_true ht, if_pos rfl, d7]
      show (if decide (u ∈ ks) = true then (_ : M Bool) else (_ : M Bool)) P
      by_cases hu : u ∈ ks
      · rw [decide_eq_true hu, if_pos rfl]
        obtain ⟨i, r, q1, q2, q3⟩ := rowAt_get hl ht
        unfold tst op2
        rw [v7, v3, v6]
        show bnd (bnd (getS (.dk (ks.map Sum.inl) (rowsD rows)) (.int t)) fun y => ninS (.int u) y) asB P
        have e2 : dlook (.dk (ks.map Sum.inl) (rowsD rows)) (.int t) = some (some (.lst (r.map D.int))) := by
          show some (look (ks.map Sum.inl) (rowsD rows) (.inl t)) = _
          rw [look_rows, q3]; rfl
        have e3 : getS (.dk (ks.map Sum.inl) (rowsD rows)) (.int t) = ret (.lst (r.map D.int)) := by unfold getS; rw [e2]
        rw [e3]
        show bnd (ninS (.int u) (.lst (r.map D.int))) asB P
        unfold ninS
        show bnd (chk (shp (.int u) ∧ shp (.lst (r.map D.int))) (ret (.bl (!inB (.int u) (r.map D.int))))) asB P
        rw [chk_of ⟨int_shp u, lst_shp r⟩, inB_int]
        show P (!r.contains u)
        rw [q3] at hp
        simpa [htu, ht, hu] using hp
      · rw [decide_eq_false hu, if_neg Bool.false_ne_true]
        show P false
        simpa [hu] using hp
    · rw [decide_eq_false ht, if_neg Bool.false_ne_true]
      show P false
      simpa [ht] using hp
end EC
end
/-! ## E14 -/
section
set_option Elab.async false
set_option linter.all false
set_option maxRecDepth 100000
set_option maxHeartbeats 4000000
/-! E14: the edges: the new dict, one more edge. -/
namespace EC
open PySem PySem.Spec PyProof.Rows L2
theorem nodup_get {α : Type} : ∀ {l : List α} {i j : Nat} {a : α}, l.Nodup → l[i]? = some a → l[j]? = some a → i = j
  | [], i, j, a, _, h, _ => by simp at h
  | b :: l, 0, 0, a, _, _, _ => rfl
  | b :: l, 0, j + 1, a, nd, h, h2 => by
    have e : b = a := by simpa using h
    subst e
    exact absurd (List.mem_of_getElem? (show l[j]? = some b by simpa using h2)) (List.nodup_cons.mp nd).1
  | b :: l, i + 1, 0, a, nd, h, h2 => by
    have e : b = a := by simpa using h2
    subst e
    exact absurd (List.mem_of_getElem? (show l[i]? = some b by simpa using h)) (List.nodup_cons.mp nd).1
  | b :: l, i + 1, j + 1, a, nd, h, h2 => by
    rw [nodup_get (l := l) (i := i) (j := j) (List.nodup_cons.mp nd).2 (by simpa using h) (by simpa using h2)]
theorem edK_len {ks : List Int} {ls : List Addr} (h : ls.length = ks.length) : (edK ks ls).length = ks.length := by
  unfold edK; rw [List.length_zip, List.length_map, List.length_map, h, Nat.min_self]
theorem ed_put {ks : List Int} {ls : List Addr} {k : Int} {l : Addr} (h : ls.length = ks.length) (hk : k ∉ ks) : putK (edK ks ls) (.inl k) (.ref l) = edK (ks ++ [k]) (ls ++ [l]) := by
  have e : valV (edK ks ls) (.inl k) = none := by
    cases q : valV (edK ks ls) (.inl k) with
    | none => rfl
    | some v =>
      unfold valV at q
      obtain ⟨p, hp, _⟩ := Option.map_eq_some_iff.mp q
      have h1 := List.find?_some hp
      have h2 := List.mem_of_find?_eq_some hp
      have h3 : p.1 ∈ ks.map (Sum.inl : Int → Key) := (List.of_mem_zip h2).1
      rw [of_decide_eq_true h1] at h3
      obtain ⟨k', hk', e'⟩ := List.mem_map.mp h3
      cases e'
      exact absurd hk' hk
  rw [putK_new _ e]
  unfold edK
  rw [List.map_append, List.map_append, List.zip_append (by rw [List.length_map, List.length_map, h])]
  rfl
theorem EdgeAt.key {W : Wd} {H0 B H : Hp} {p : Addr} {ks : List Int} {ls : List Addr} {rows : List (List Int)} (k : EdgeAt W H0 B H p ks ls rows) {i : Nat} {t : Int} {l : Addr} (h1 : ks[i]? = some t) (h2 : ls[i]? = some l) : valV (edK ks ls) (.inl t) = some (.ref l) := by
  have nk := k.nk
  have l1 := k.l1
  clear k
  induction ks generalizing ls i with
  | nil => simp at h1
  | cons a ks ih =>
    match ls, l1 with
    | b :: ls, l1 =>
      cases i with
      | zero => simp at h1 h2; subst h1 h2; exact valV_pos (p := (Sum.inl a, V.ref b)) rfl
      | succ i =>
        have e1 : ks[i]? = some t := by simpa using h1
        have ne : ¬ ((Sum.inl a : Key) = Sum.inl t) := fun z => by
          cases z
          exact (List.nodup_cons.mp nk).1 (List.mem_of_getElem? e1)
        exact (valV_neg (p := (Sum.inl a, V.ref b)) ne).trans (ih e1 (by simpa using h2) (List.nodup_cons.mp nk).2 (by simpa using l1))
/-- one more key -/
theorem EdgeAt.more {W : Wd} {H0 B H : Hp} {p : Addr} {ks : List Int} {ls : List Addr} {rows : List (List Int)} (k : EdgeAt W H0 B H p ks ls rows) {t : Int} {l : Addr} (ht : t ∉ ks) (hl : H l = some (.lst [])) (fl : B l = none ∧ H0 l = none ∧ ND W l) (nl : l ≠ p ∧ l ∉ ls) :
    EdgeAt W H0 B (upd H p (.dK (edK (ks ++ [t]) (ls ++ [l])))) p (ks ++ [t]) (ls ++ [l]) (rows ++ [[]]) := by
  refine ⟨upd_same, by simp [k.l1], by simp [k.l2], fun i x r h1 h2 => ?_, List.nodup_append.mpr ⟨k.nk, by simp, ?_⟩, List.nodup_append.mpr ⟨k.nl, by simp, ?_⟩, ?_, fun x hx => ?_⟩
  · by_cases hi : i < ls.length
    · rw [List.getElem?_append_left hi] at h1
      rw [List.getElem?_append_left (by rw [k.l2, ← k.l1]; exact hi)] at h2
      rw [upd_ne (fun z => k.np (by rw [← z]; exact List.mem_of_getElem? h1))]
      exact k.row i x r h1 h2
    · rw [List.getElem?_append_right (by omega)] at h1
      rw [List.getElem?_append_right (by rw [k.l2, ← k.l1]; omega)] at h2
      have e1 : x = l := by
        have := List.mem_of_getElem? h1
        simpa using this
      have e2 : r = [] := by
        have := List.mem_of_getElem? h2
        simpa using this
      subst e1 e2
      rw [upd_ne nl.1]; exact hl
  · intro a ha b hb e
    have : b = t := by simpa using hb
    subst this; subst e; exact ht ha
  · intro a ha b hb e
    have : b = l := by simpa using hb
    subst this; subst e; exact nl.2 ha
  · intro h
    rcases List.mem_append.mp h with h | h
    · exact k.np h
    · have : p = l := by simpa using h
      exact nl.1 this.symm
  · rcases hx with hx | hx
    · exact k.fr x (.inl hx)
    · rcases List.mem_append.mp hx with hx | hx
      · exact k.fr x (.inr hx)
      · have : x = l := by simpa using hx
        subst this; exact fl
/-- one more edge -/
theorem EdgeAt.app {W : Wd} {H0 B H : Hp} {p : Addr} {ks : List Int} {ls : List Addr} {rows : List (List Int)} (k : EdgeAt W H0 B H p ks ls rows) {i : Nat} {t u : Int} {l : Addr} {r : List Int} (h1 : ks[i]? = some t) (h2 : ls[i]? = some l) (h3 : rows[i]? = some r) (hok : edOk ks rows t u = true) :
    EdgeAt W H0 B (upd H l (.lst (r.map V.int ++ [.int u]))) p ks ls (edStep ks rows t u) := by
  have nlp : l ≠ p := fun z => k.np (by rw [← z]; exact List.mem_of_getElem? h2)
  have el : (edStep ks rows t u).length = rows.length := by
    unfold edStep; rw [if_pos hok, List.length_map, List.length_zip, k.l2, Nat.min_self]
  refine ⟨by rw [upd_ne nlp.symm]; exact k.dict, k.l1, el.trans k.l2, fun j x q e1 e2 => ?_, k.nk, k.nl, k.np, k.fr⟩
  unfold edStep at e2
  rw [if_pos hok, List.getElem?_map] at e2
  obtain ⟨pr, e3, e4⟩ := Option.map_eq_some_iff.mp e2
  have hj : j < ls.length := lt_of_get e1
  have hjk : j < ks.length := by rw [← k.l1]; exact hj
  have hjr : j < rows.length := by rw [k.l2]; exact hjk
  rw [List.getElem?_zip_eq_some] at e3
  obtain ⟨e5, e6⟩ := e3
  by_cases ej : j = i
  · subst ej
    rw [h1] at e5; rw [h3] at e6; rw [h2] at e1
    cases e1
    rw [upd_same, ← e4, ← Option.some.inj e5, ← Option.some.inj e6, if_pos rfl, List.map_append]; rfl
  · have ne : pr.1 ≠ t := fun z => by
      rw [z] at e5
      exact ej (nodup_get k.nk e5 h1)
    have nx : x ≠ l := fun z => by
      subst z
      exact ej (nodup_get k.nl e1 h2)
    rw [upd_ne nx, ← e4, if_neg ne]
    exact k.row j x pr.2 e1 e6
end EC
end
/-! ## E15 -/
section
set_option Elab.async false
set_option linter.all false
set_option maxRecDepth 100000
set_option maxHeartbeats 4000000
/-! E15: the edges walk. -/
namespace EC
open PySem PySem.Spec PyProof.Rows L2
abbrev edR0 (tb hist pp : D) : Rho := [.d tb, .d hist, .d pp, .no, .no, .no, .no, .no]
abbrev edR1 (tb hist pp di dj : D) : Rho := [.d tb, .d hist, .d pp, .no, .d di, .d dj, .no, .no]
def edTU : Rho → M (List D) := consL (call 2 F_owner (consA (var 1) (consA (var 4) nilL))) (consL (call 2 F_owner (consA (var 1) (consA (var 5) nilL))) nilL)
def edP : D → Option (D × D)
  | .tup [a, b] => some (a, b)
  | _ => none
theorem edP_eq {d a b : D} (h : edP d = some (a, b)) : d = .tup [a, b] := by
  unfold edP at h
  split at h
  · cases h; rfl
  · cases h
def edC {α : Type} : List D → (Int → Int → M α) → M α
  | [.int t, .int u], k => k t u
  | _, _ => die
theorem edC_eq {α : Type} {x : List D} {k : Int → Int → M α} {P : α → Prop} (h : edC x k P) : ∃ t u, x = [.int t, .int u] ∧ k t u P := by
  unfold edC at h
  split at h
  · exact ⟨_, _, rfl, h⟩
  · exact h.elim
def edL (tb hist pp : D) (ks : List Int) : List D → List (List Int) → M (List (List Int))
  | [], rows => ret rows
  | d :: ds, rows => match edP d with
    | some (di, dj) => bnd (edTU (edR1 tb hist pp di dj)) fun x => edC x fun t u => edL tb hist pp ks ds (edStep ks rows t u)
    | none => die
def edKeys (ds : List D) : M (List Int) := fun P => ∃ ks, D.ints ds = some ks ∧ ks.Nodup ∧ ks.length ≤ 1000 ∧ P ks
def F_edges_at : List Sl → M D
  | [.d tb, .d hist, .d pp] => bnd (itL (call 2 F_kept_in (consA (var 1) (consA (var 2) nilL))) (edR0 tb hist pp)) fun kd => bnd (edKeys kd) fun ks =>
      bnd (itL (call 3 F_conflicting_pairs (consA (var 0) (consA (var 1) (consA (var 2) nilL)))) (edR0 tb hist pp)) fun cps => chk (cps.length ≤ 100000) (bnd (edL tb hist pp ks cps (ks.map fun _ => [])) fun rows => ret (.dk (ks.map Sum.inl) (rowsD rows)))
  | _ => die
theorem edL_cons {tb hist pp : D} {ks : List Int} {d : D} {ds : List D} {rows : List (List Int)} {P : List (List Int) → Prop} (h : edL tb hist pp ks (d :: ds) rows P) : ∃ di dj, d = .tup [di, dj] ∧ edTU (edR1 tb hist pp di dj) fun x => edC x (fun t u => edL tb hist pp ks ds (edStep ks rows t u)) P := by
  unfold edL at h
  cases q : edP d with
  | none => rw [q] at h; exact h.elim
  | some p =>
    obtain ⟨di, dj⟩ := p
    rw [q] at h
    exact ⟨di, dj, edP_eq q, h⟩
/-- the new dict of new lists -/
theorem ed_new {g : G} {σ : L2.St} {H : Hp} {it : Rho → M (List D)} {C : List Int → Prop} {Q : VK} (E : EnvG g σ H) (h6 : 6 < σ.length) (hf : it g.ρ fun ds => edKeys ds C)
    (k : ∀ ks, C ks → ∀ p ls B' H', Grow g.W g.B H B' H' → EdgeAt g.W g.H0 B' H' p ks ls (ks.map fun _ => []) → Q (.ref p) H') : tDc (tJ it) (gName 6) tYes (tVar 6) (tLst tNil) [6] σ H Q := by
  refine ⟨g, _, E, hf, fun ds pds J B1 H1 w wk => fun N hN => ?_⟩
  obtain ⟨ks, hks, nk, hlen, pc⟩ := pds
  have eds := ints_eq hks
  subst eds
  have ndN : ND g.W N := w.wk.nd hN
  have dlen : (ks.map D.int).length = ks.length := List.length_map ..
  refine ⟨fun i m H' => m = ks.length - i ∧ i ≤ ks.length ∧ ∃ (B' : Hp) (ls : List Addr), Sub B1 B' ∧ Grow g.W g.B H B' H' ∧ EdgeAt g.W g.H0 B' H' N (ks.take i) ls ((ks.take i).map fun _ => []), ⟨ks.length, rfl, Nat.zero_le _, B1, [], Sub.rfl', ?_, ?_⟩, ?_⟩
  · exact w.trans (Grow.new0 w.bh w.wk hN)
  · exact ⟨upd_same, rfl, rfl, fun i l r h _ => by simp at h, List.nodup_nil, List.nodup_nil, by simp, fun x hx => by
      have : x = N := by simpa using hx
      subst this
      exact ⟨w.bh.none hN, E.r.pn (w.pn hN), ndN⟩⟩
  rintro i m H' ⟨rfl, hi, B', ls, sb, wg, ke⟩
  obtain ⟨go, stop⟩ := wk i B' H' sb wg
  by_cases hlt : i < ks.length
  · refine .inr ?_
    have hd : (ks.map D.int)[i]? = some (.int ks[i]) := by rw [List.getElem?_map, List.getElem?_eq_getElem hlt]; rfl
    obtain ⟨hgo, hy⟩ := go _ hd
    refine ⟨hgo, fun H' => ∃ (B' : Hp) (ls : List Addr), Sub B1 B' ∧ Grow g.W g.B H B' H' ∧ EdgeAt g.W g.H0 B' H' N (ks.take (i + 1)) ls ((ks.take (i + 1)).map fun _ => []), fun H2 h2 => ⟨_, by omega, rfl, hlt, h2⟩, fun x H2 y => ?_⟩
    obtain ⟨B2, w2, rx⟩ := hy x H2 y
    rw [show x = V.int ks[i] from rx]
    have ke2 := ke.grow w2
    have wg2 := wg.trans w2
    refine ⟨?_, ?_⟩
    · show L2.wipe ((L2.wipe σ [6]).set 6 _) [6] = _
      rw [(Out.set (vs := [6]) (σ := L2.wipe σ [6]) (i := 6) (x := some (V.int ks[i])) (by simp)).wipe, wipe_wipe]
    unfold tYes
    refine iteT ?_
    · refine ⟨.int ks[i], List.getElem?_set_self (by rw [L2.wipe_length]; exact h6), by show 0 ≤ sizeLine; exact Nat.zero_le _, fun l hl => ?_⟩
      have hNl : H2 N = some (.dK (edK (ks.take i) ls)) := ke2.dict
      have ndl : ND g.W l := w2.wk.nd hl
      have keep : ∀ x, x = N ∨ x ∈ ls → x ≠ l := fun x hx z => by
        obtain ⟨o, ho⟩ := ke2.there hx
        rw [z, hl] at ho; cases ho
      have nlN : l ≠ N := (keep N (.inl rfl)).symm
      have hb2 : B2 l = none := w2.bh.none hl
      have w3 : Grow g.W B2 H2 B2 (upd H2 l (.lst [])) := Grow.new0 w2.bh w2.wk hl
      have ke3 := ke2.grow w3
      refine ⟨edK (ks.take i) ls, .inl ks[i], rfl, ke3.dict, by rw [edK_len ke2.l1, List.length_take]; exact mil_lt (by omega), B2, ls ++ [l], sb.tr w2.bb, ?_, ?_⟩
      · exact (wg2.trans w3).wr (w.pn hN) (ke2.fr N (.inl rfl)).1 ndN
      · have nin : ks[i] ∉ ks.take i := fun h => by
          obtain ⟨j, hj, e⟩ := List.getElem_of_mem h
          rw [List.getElem_take] at e
          have hj2 : j < i := by rw [List.length_take] at hj; omega
          have := nodup_get nk (i := j) (j := i) (a := ks[i]) (by rw [List.getElem?_eq_getElem (by omega), e]) (List.getElem?_eq_getElem hlt)
          omega
        have e1 : ks.take (i + 1) = ks.take i ++ [ks[i]] := by rw [List.take_succ, List.getElem?_eq_getElem hlt]; rfl
        rw [ed_put ke2.l1 nin, e1, List.map_append]
        exact ke3.more (t := ks[i]) (l := l) nin upd_same ⟨hb2, E.r.pn (wg2.pn hl), ndl⟩ ⟨nlN, fun z => keep l (.inr z) rfl⟩
  · have e : i = ks.length := by omega
    subst e
    rw [List.take_length] at ke
    exact .inl ⟨stop (by rw [dlen]; exact Nat.le_refl _), k ks pc N ls B' H' wg ke⟩
end EC
end
/-! ## E16 -/
section
set_option Elab.async false
set_option linter.all false
set_option maxRecDepth 100000
set_option maxHeartbeats 4000000
/-! E16: the edges walk. -/
namespace EC
open PySem PySem.Spec PyProof.Rows L2
section
variable {P : Program} {w : World} {K : PySem.W.Frag} {mg : Str → Option Value} {base : Heap}
theorem sc_edges_at : FnScope ["table", "history", "p", "edges", "i", "j", "t", "u"] ["table", "history", "p"] (defScope st_edges_at) := ⟨rfl, rfl, rfl, by decide +kernel, rfl, by decide +kernel, by decide +kernel⟩
theorem ed_slots {tb hist pp : D} (a b c d : Sl) : ∀ (j : Nat) (ys : List D), (a = .no ∨ ∃ x, a = .d x) → (b = .no ∨ ∃ x, b = .d x) → (c = .no ∨ ∃ x, c = .d x) → (d = .no ∨ ∃ x, d = .d x) → ([.d tb, .d hist, .d pp, .no, a, b, c, d] : Rho)[j]? ≠ some (.o ys) := by
  intro j ys ha hb hc hd h
  match j, h with
  | 0, h => cases h
  | 1, h => cases h
  | 2, h => cases h
  | 3, h => cases h
  | 4, h => rcases ha with rfl | ⟨x, rfl⟩ <;> cases h
  | 5, h => rcases hb with rfl | ⟨x, rfl⟩ <;> cases h
  | 6, h => rcases hc with rfl | ⟨x, rfl⟩ <;> cases h
  | 7, h => rcases hd with rfl | ⟨x, rfl⟩ <;> cases h
  | j + 8, h => simp at h
theorem seq_asg {t : TE} {gn : TG} {r : TS} {D : Ends} {σ : L2.St} {H : Hp} (h : t σ H fun x H1 => gn x σ H1 fun σ1 H2 => r D σ1 H2) : tSeq (tAsg t gn) r D σ H := h
theorem ok_edges_at (T : Txt K mg) : DefOk P w K mg base "edges_at" 4 3 F_edges_at := by
  obtain ⟨fdd, F⟩ := T.says.def_ 30 (d := df_edges_at) rfl
  refine ⟨⟨fdd, ["table", "history", "p"], ?_, FunD.bindsN F fun _ _ _ _ _ _ us hl => match us, hl with | [_, _, _], _ => rfl⟩, T.glo 30 rfl, F.kp⟩
  have F : FnP K "edges_at" st_edges_at (He.ga K "edges_at") fdd := F
  refine F.ok sc_edges_at (fun vs H Q E h => ?_) (fun cdv A outer s' H vs Q E hr h => ?_)
  · obtain ⟨W, B, ds, PP, hl, _, _, r, _⟩ := h
    rw [r.length, hl]; rfl
  have body : PSs (cxOf CX0 P w K mg base ["table", "history", "p", "edges", "i", "j", "t", "u"] "edges_at" (defScope st_edges_at) (He.ga K "edges_at") cdv A outer s' H E).nox (defBody st_edges_at)
      (tSeq (tAsg (tDc (tJ (itL (call 2 F_kept_in (consA (var 1) (consA (var 2) nilL))))) (gName 6) tYes (tVar 6) (tLst tNil) (([("t", 6)] : List (Str × Nat)).map (·.2))) (gName 3))
        (tSeq (tFor (tI (itL (call 3 F_conflicting_pairs (consA (var 0) (consA (var 1) (consA (var 2) nilL)))))) (tGd (tupT 2 (consT (nameT 4) (consT (nameT 5) nilT))) [4, 5]) (tSeq (tPar 6 7 (tDs edTU)) (tIfS (tT edT) _ tNext))) (tRet (tVar 3)))) :=
    pss_cons (ps_setDcK (i := 3) rfl sc_edges_at.nd rfl rfl (sw_trueD rfl rfl rfl (by decide +kernel)) (ij (i_list (d_callD (ok_kept_in T) hr (by decide) (by rfl) (aas_cons (dv (pv 1)) (aas_cons (dv (pv 2)) aas_nil))))) (blkOk_by (own := [("t", 6)]) (by kernel_rfl)) (fun _ _ _ _ _ => pg_name (i := 6) sc_edges_at.nd rfl (.inl rfl)) (fun _ _ _ _ _ => pts_nil) (fun _ _ _ _ _ => pv 6) (fun _ _ _ _ _ => pe_lst pa_nil))
    (pss_cons (ps_for PassesOwn.never rfl (i_list (d_callD (ok_conflicting_pairs T) hr (by decide) (by rfl) (aas_cons (dv (pv 0)) (aas_cons (dv (pv 1)) (aas_cons (dv (pv 2)) aas_nil))))) (g_tup (n := 2) rfl (gs_cons (g_name (pg_name (i := 4) sc_edges_at.nd rfl (.inl rfl))) (gs_cons (g_name (pg_name (i := 5) sc_edges_at.nd rfl (.inl rfl))) gs_nil)))
      (pss_cons (ps_par (i := 6) (j := 7) rfl sc_edges_at.nd rfl rfl (by decide) rfl rfl (das_cons (d_callD (ok_owner T) hr (by decide) (by rfl) (aas_cons (dv (pv 1)) (aas_cons (dv (pv 4)) aas_nil))) (das_cons (d_callD (ok_owner T) hr (by decide) (by rfl) (aas_cons (dv (pv 1)) (aas_cons (dv (pv 5)) aas_nil))) das_nil)) (by rfl))
      (pss_one (ps_if (PW.pt (w_and (d_cmpT (o_ne hr.units) (sw (dv (pv 6))) (sw (dv (pv 7)))) (w_and (t_din (hu_of hr) (sw (dv (pv 6))) (sw (dv (pv 3)))) (w_and (t_din (hu_of hr) (sw (dv (pv 7))) (sw (dv (pv 3)))) (w_and1 (d_cmpT (o_nin (hu65 hr)) (sw (dv (pv 7))) (sw (d_get (hu_of hr) (sw (dv (pv 3))) (sw (dv (pv 6)))))))))))
        (pss_one (ps_expr (pe_bm PySem.F.plainAttrs_list PySem.F.slot_list_append PySem.F.type_list_append mt_append (pe_dget (hu_of hr) (pv 3) (pv 6) (fun _ _ => rfl)) (pa_cons (pv 7) pa_nil)))) pss_nil))))
    (pss_one (ps_ret (pv 3))))
  refine ⟨_, PSs.nox body, ?_⟩
  clear body
  obtain ⟨W, B, ds, PP, hl, sb, wk, rr, hf, kk⟩ := h
  match ds, hl, hf, rr with
  | [.d tb, .d hist, .d pp], _, hf, rr =>
  have E0 : EnvG ⟨W, B, H, B, edR0 tb hist pp⟩ (L2.start ["table", "history", "p", "edges", "i", "j", "t", "u"] vs) H := by
    have e := argsEnv sb wk (m := 5) rr
    have hst : L2.start ["table", "history", "p", "edges", "i", "j", "t", "u"] vs = vs.map some ++ List.replicate 5 none := by unfold L2.start; rw [rr.length]; rfl
    rw [hst]
    exact e
  generalize L2.start ["table", "history", "p", "edges", "i", "j", "t", "u"] vs = σ0 at E0 ⊢
  have len0 : σ0.length = 8 := E0.len
  have hf2 : itL (call 2 F_kept_in (consA (var 1) (consA (var 2) nilL))) (edR0 tb hist pp) fun ds => edKeys ds fun ks => (bnd (itL (call 3 F_conflicting_pairs (consA (var 0) (consA (var 1) (consA (var 2) nilL)))) (edR0 tb hist pp)) fun cps => chk (cps.length ≤ 100000) (bnd (edL tb hist pp ks cps (ks.map fun _ => [])) fun rows => ret (.dk (ks.map Sum.inl) (rowsD rows)))) PP := hf
  refine seq_asg (ed_new E0 (by omega) hf2 fun ks pc p ls B1 H1 w1 k1 => ?_)
  have E1 : EnvG ⟨W, B, H, B1, edR0 tb hist pp⟩ (σ0.set 3 (some (.ref p))) H1 := (E0.grow w1).setN 3 (some (.ref p))
  have s3 : (σ0.set 3 (some (V.ref p)))[3]? = some (some (.ref p)) := List.getElem?_set_self (by omega)
  show tSeq _ _ _ (σ0.set 3 (some (V.ref p))) H1
  generalize σ0.set 3 (some (V.ref p)) = σ1 at E1 s3 ⊢
  refine ⟨_, _, E1, pc, fun cps pcs J B2 H2 w2 wk2 => ?_⟩
  obtain ⟨hcl, hed⟩ := pcs
  refine ⟨fun i m σ' H' => m = cps.length - i ∧ i ≤ cps.length ∧ ∃ (B' : Hp) (rows : List (List Int)), Sub B2 B' ∧ EnvG ⟨W, B, H, B', edR0 tb hist pp⟩ σ' H' ∧ σ'[3]? = some (some (.ref p)) ∧ EdgeAt W H B' H' p ks ls rows ∧ (∀ r ∈ rows, r.length ≤ i) ∧
      edL tb hist pp ks (cps.drop i) rows (fun rows => PP (.dk (ks.map Sum.inl) (rowsD rows))), ⟨cps.length, rfl, Nat.zero_le _, B2, _, Sub.rfl', E1.grow w2, s3, k1.grow w2, fun r hr => ?_, hed⟩, ?_⟩
  · obtain ⟨_, _, rfl⟩ := List.mem_map.mp hr
    exact Nat.le_refl _
  rintro i m σ' H' ⟨rfl, hi, B', rows, sb', E', s3', k', hrow, hp⟩
  obtain ⟨go, stop⟩ := wk2 i B' H' sb' E'.sub E'.wok
  by_cases hlt : i < cps.length
  · refine .inr ?_
    have hd : cps[i]? = some cps[i] := List.getElem?_eq_getElem hlt
    obtain ⟨hgo, hy⟩ := go _ hd
    rw [List.drop_eq_getElem_cons hlt] at hp
    obtain ⟨di, dj, ed, hp⟩ := edL_cons hp
    refine ⟨hgo, fun σ2 H2 => ∃ (B' : Hp) (rows : List (List Int)), Sub B2 B' ∧ EnvG ⟨W, B, H, B', edR0 tb hist pp⟩ σ2 H2 ∧ σ2[3]? = some (some (.ref p)) ∧ EdgeAt W H B' H2 p ks ls rows ∧ (∀ r ∈ rows, r.length ≤ i + 1) ∧
      edL tb hist pp ks (cps.drop (i + 1)) rows (fun rows => PP (.dk (ks.map Sum.inl) (rowsD rows))), fun σ2 H2 h2 => ⟨_, by omega, rfl, hlt, h2⟩, fun x H3 y => ?_⟩
    obtain ⟨B3, w3, rx⟩ := hy x H3 y
    rw [ed] at rx
    have E3 := E'.grow w3
    have k3 := k'.grow w3
    refine ⟨_, .tup [di, dj], fun ρ' => ρ' = edR1 tb hist pp di dj, E3, rx, ⟨rfl, rfl⟩, fun ρ' p' σ4 E4 o4 => ?_⟩
    rw [show ρ' = edR1 tb hist pp di dj from p'] at E4
    have s4 : σ4[3]? = some (some (.ref p)) := (o4.1.2 3 (by decide)).trans s3'
    refine ⟨_, _, E4, hp, fun tu ptu us B5 H5 w5 r5 => ?_⟩
    obtain ⟨t, u, rfl, pnext⟩ := edC_eq ptu
    obtain ⟨u1, r1, e1, q1, u2, r2, e2, q2, e3⟩ := r5
    subst e3 e2 e1
    rw [show u1 = V.int t from q1, show u2 = V.int u from q2]
    refine ⟨_, _, rfl, ?_⟩
    have E5 := ((E4.grow w5).setD (i := 6) (d := .int t) (v := .int t) rfl).setD (i := 7) (d := .int u) (v := .int u) rfl
    have k5 := k3.grow w5
    have len4 : σ4.length = 8 := E4.len
    have s5 : ((σ4.set 6 (some (V.int t))).set 7 (some (.int u)))[3]? = some (some (.ref p)) := by rw [List.getElem?_set_ne (by decide), List.getElem?_set_ne (by decide)]; exact s4
    have s6 : ((σ4.set 6 (some (V.int t))).set 7 (some (.int u)))[6]? = some (some (.int t)) := by rw [List.getElem?_set_ne (by decide)]; exact List.getElem?_set_self (by omega)
    have s7 : ((σ4.set 6 (some (V.int t))).set 7 (some (.int u)))[7]? = some (some (.int u)) := List.getElem?_set_self (by rw [List.length_set]; omega)
    dsimp only
    generalize (σ4.set 6 (some (V.int t))).set 7 (some (V.int u)) = σ5 at E5 s5 s6 s7 ⊢
    have no5 : ∀ (j : Nat) (ys : List D), ([.d tb, .d hist, .d pp, .no, .d di, .d dj, .d (.int t), .d (.int u)] : Rho)[j]? ≠ some (.o ys) := fun j ys => ed_slots _ _ _ _ j ys (.inr ⟨_, rfl⟩) (.inr ⟨_, rfl⟩) (.inr ⟨_, rfl⟩) (.inr ⟨_, rfl⟩)
    have E5 : EnvG ⟨W, B, H, B5, [.d tb, .d hist, .d pp, .no, .d di, .d dj, .d (.int t), .d (.int u)]⟩ σ5 H5 := E5
    have Es := snap_env E5 k5 3 s5 no5
    refine ⟨_, fun b => b = edOk ks rows t u, Es, edT_ok (ks := ks) (rows := rows) (t := t) (u := u) rfl rfl rfl k5.l2 rfl, fun b pb B6 H6 w6 => ?_⟩
    have w6' := snap_back k5 w6
    have E6 := E5.grow w6'
    have k6 := k5.grow w6'
    have sB : Sub B2 (cutB B6 p ls) := ((sb'.tr w3.bb).tr w5.bb).tr w6'.bb
    rw [show b = edOk ks rows t u from pb]
    cases hok : edOk ks rows t u with
    | true =>
      refine iteT ?_
      have ht : t ∈ ks := by
        unfold edOk at hok
        rw [Bool.and_eq_true] at hok
        exact (of_decide_eq_true hok.1).2.1
      obtain ⟨j, r, h1, h3, _⟩ := rowAt_get k6.l2 ht
      have hj : j < ls.length := by rw [k6.l1]; exact lt_of_get h1
      have h2 : ls[j]? = some ls[j] := List.getElem?_eq_getElem hj
      have hr := k6.row j ls[j] r h2 h3
      refine ⟨_, s5, _, s6, p, .ref ls[j], rfl, (by rw [← k6.key h1 h2]; exact .inl ⟨_, .inl t, .inl k6.dict, rfl, rfl⟩), .inl ⟨rfl, _, SqL.of hr⟩, _, s7, ls[j], _, .int u, rfl, rfl, hr, by rw [List.length_map]; exact mil_lt (by have := hrow r (List.mem_of_getElem? h3); omega), ?_⟩
      have k7 := k6.app h1 h2 h3 hok
      have f := k6.fr ls[j] (.inr (List.mem_of_getElem? h2))
      have E7 := E6.wr (p := ls[j]) (o := .lst (r.map V.int ++ [.int u])) f.2.1 f.1 f.2.2 fun j' ys l hl => absurd hl (no5 j' ys)
      refine ⟨_, _, sB, (((E7.forget 4).forget 5).forget 6).forget 7, s5, k7, fun r' hr' => ?_, pnext⟩
      unfold edStep at hr'
      rw [if_pos hok] at hr'
      obtain ⟨pr, hpr, er⟩ := List.mem_map.mp hr'
      have hb := hrow pr.2 (List.of_mem_zip hpr).2
      rw [← er]
      split
      · rw [List.length_append]; exact Nat.add_le_add_right hb 1
      · omega
    | false =>
      refine iteF ?_
      have es : edStep ks rows t u = rows := by unfold edStep; rw [hok, if_neg Bool.false_ne_true]
      rw [es] at pnext
      exact ⟨_, _, sB, (((E6.forget 4).forget 5).forget 6).forget 7, s5, k6, fun r hr => Nat.le_succ_of_le (hrow r hr), pnext⟩
  · have e : i = cps.length := by omega
    subst e
    rw [List.drop_length] at hp
    exact .inl ⟨stop (Nat.le_refl _), .ref p, s3', kk _ hp _ _ _ (snap_grow E'.r k') (snap_rep k')⟩
end
end EC
end
/-! ## E17 -/
section
set_option Elab.async false
set_option linter.all false
set_option maxRecDepth 100000
set_option maxHeartbeats 2000000
namespace EC
open PySem PySem.Spec PyProof.Rows L2
theorem krev3 {n : Nat} (us ws : List Value) (hl : us.length + ws.length = n) (C : List Value → List Value → Prop) (hn : n = 3 := by rfl) (h : ∀ a b c, C [] [a, b, c] ∧ C [a] [b, c] ∧ C [a, b] [c] ∧ C [a, b, c] []) : C us ws := by
  subst hn
  rcases us with _ | ⟨a, _ | ⟨b, _ | ⟨c, us⟩⟩⟩
  · rcases ws with _ | ⟨a, _ | ⟨b, _ | ⟨c, _ | ⟨d, ws⟩⟩⟩⟩ <;> simp only [List.length_cons, List.length_nil] at hl <;> first | omega | exact (h _ _ _).1
  · rcases ws with _ | ⟨b, _ | ⟨c, _ | ⟨d, ws⟩⟩⟩ <;> simp only [List.length_cons, List.length_nil] at hl <;> first | omega | exact (h _ _ _).2.1
  · rcases ws with _ | ⟨c, _ | ⟨d, ws⟩⟩ <;> simp only [List.length_cons, List.length_nil] at hl <;> first | omega | exact (h _ _ _).2.2.1
  · have : us = [] := List.eq_nil_of_length_eq_zero (by simp only [List.length_cons] at hl; omega)
    have : ws = [] := List.eq_nil_of_length_eq_zero (by simp only [List.length_cons] at hl; omega)
    subst us ws
    exact (h _ _ _).2.2.2
theorem krev4 {n : Nat} (us ws : List Value) (hl : us.length + ws.length = n) (C : List Value → List Value → Prop) (hn : n = 4 := by rfl) (h : ∀ a b c d, C [] [a, b, c, d] ∧ C [a] [b, c, d] ∧ C [a, b] [c, d] ∧ C [a, b, c] [d] ∧ C [a, b, c, d] []) : C us ws := by
  subst hn
  rcases us with _ | ⟨a, _ | ⟨b, _ | ⟨c, _ | ⟨d, us⟩⟩⟩⟩
  · rcases ws with _ | ⟨a, _ | ⟨b, _ | ⟨c, _ | ⟨d, _ | ⟨e, ws⟩⟩⟩⟩⟩ <;> simp only [List.length_cons, List.length_nil] at hl <;> first | omega | exact (h _ _ _ _).1
  · rcases ws with _ | ⟨b, _ | ⟨c, _ | ⟨d, _ | ⟨e, ws⟩⟩⟩⟩ <;> simp only [List.length_cons, List.length_nil] at hl <;> first | omega | exact (h _ _ _ _).2.1
  · rcases ws with _ | ⟨c, _ | ⟨d, _ | ⟨e, ws⟩⟩⟩ <;> simp only [List.length_cons, List.length_nil] at hl <;> first | omega | exact (h _ _ _ _).2.2.1
  · rcases ws with _ | ⟨d, _ | ⟨e, ws⟩⟩ <;> simp only [List.length_cons, List.length_nil] at hl <;> first | omega | exact (h _ _ _ _).2.2.2.1
  · have : us = [] := List.eq_nil_of_length_eq_zero (by simp only [List.length_cons] at hl; omega)
    have : ws = [] := List.eq_nil_of_length_eq_zero (by simp only [List.length_cons] at hl; omega)
    subst us ws
    exact (h _ _ _ _).2.2.2.2
end EC
end
/-! ## W8 -/
section

set_option Elab.async false
set_option linter.all false
set_option maxRecDepth 100000
set_option maxHeartbeats 4000000
namespace EC
open PySem PySem.Spec PyProof.Rows L2
section
variable {P : Program} {w : World} {K : PySem.W.Frag} {mg : Str → Option Value} {base : Heap}
theorem sc_law_any_table : FnScope ["_law_deck", "_law_turn", "_law_kinds", "_law_share", "_law_word", "_law_pairs", "_law_at", "_law_one", "_law_other"] ["_law_deck"] (defScope st__law_any_table) := ⟨rfl, rfl, rfl, by decide +kernel, rfl, by decide +kernel, by decide +kernel⟩
def F_law_any_table : List Sl → M D := fnS 9 (seqS (parS [2, 3] (xO (lstE nilL) (xD (call 2 F_law_pick (consK 0 (consA (asL (lstE (consL (con (.int 4)) (consL (con (.int 6)) (consL (con (.int 8)) (consL (con (.int 5)) (consL (con (.int 3)) (consL (con (.int 2)) (consL (con (.int 8)) (consL (con (.int 0)) nilL)))))))))) nilL))) nilL)))
  (seqS (forS (rng1 (call 2 F_law_pick (consK 0 (consA (asL (lstE (consL (con (.int 3)) (consL (con (.int 2)) (consL (con (.int 4)) (consL (con (.int 5)) (consL (con (.int 3)) (consL (con (.int 1)) (consL (con (.int 6)) (consL (con (.int 2)) (consL (con (.int 1)) (consL (con (.int 3)) (consL (con (.int 2)) (consL (con (.int 0)) nilL)))))))))))))) nilL)))) (nameT 1)
  (seqS (setS 4 (call 2 F_law_any_word (consK 0 (consA (call 2 F_law_pick (consK 0 (consA (asL (lstE (consL (con (.int 1)) (consL (con (.int 1)) (consL (con (.int 2)) (consL (con (.int 10)) nilL)))))) nilL))) nilL))))
  (extS 2 (ifE (tst (op2 ninS (var 4) (varW 2))) (asL (lstE (consL (var 4) nilL))) (asL (lstE nilL))))))
  (seqS (parS [2, 5] (xO (app (consL (varW 2) nilL) sortSS) (xO (lstE nilL) nilL)))
  (seqS (give 2 (forS (enumL (var 2)) (tupT 2 (consT (nameT 6) (consT (nameT 7) nilT)))
  (extS 5 (asL (lcE [8] (itL (asL (sliL (var 2) (part (var 6)) noPart))) (nameT 8) (tst (op2 ltS (call 2 F_law_draw (consK 0 (consA (con (.int 8)) nilL))) (var 3))) (tupE (consL (var 7) (consL (var 8) nilL))))))))
  (retS (tupE (consL (app (consL (var 2) nilL) tupS) (consL (app (consL (varW 5) nilL) tupS) nilL))))))))
theorem ok_law_any_table (T : Txt K mg) : DefOk P w K mg base "_law_any_table" 4 1 F_law_any_table := by
  obtain ⟨fdd, F⟩ := T.says.def_ 46 (d := df__law_any_table) rfl
  refine ⟨⟨fdd, ["_law_deck"], fn_ok (N := ["_law_deck", "_law_turn", "_law_kinds", "_law_share", "_law_word", "_law_pairs", "_law_at", "_law_one", "_law_other"]) F sc_law_any_table (fun cdv A outer s' H E hr => ?_), FunD.bindsN F fun _ _ _ _ _ _ us hl => match us, hl with | [_], _ => rfl⟩, T.glo 46 rfl, F.kp⟩
  exact (s_cons (s_parT (is := [2, 3]) (n := 2) (fun ta h => ps_asg (pe_tup h) (pg_tup rfl (pgs_cons (pg_name (i := 2) sc_law_any_table.nd rfl (.inl rfl)) (pgs_cons (pg_name (i := 3) sc_law_any_table.nd rfl (.inr rfl)) pgs_nil)))) (x_o (d_lst das_nil) (x_d (d_callD (ok_law_pick T) hr (by decide) (by rfl) (aas_k (pv 0) (aas_cons (fd (d_lst (das_cons dc_int (das_cons dc_int (das_cons dc_int (das_cons dc_int (das_cons dc_int (das_cons dc_int (das_cons dc_int (das_cons dc_int das_nil)))))))))) aas_nil))) x_nil)) rfl (by decide))
    (s_cons (s_for PassesOwn.never rfl (i_rng1 (by rfl) (T.free 75 rfl) (sw (d_callD (ok_law_pick T) hr (by decide) (by rfl) (aas_k (pv 0) (aas_cons (fd (d_lst (das_cons dc_int (das_cons dc_int (das_cons dc_int (das_cons dc_int (das_cons dc_int (das_cons dc_int (das_cons dc_int (das_cons dc_int (das_cons dc_int (das_cons dc_int (das_cons dc_int (das_cons dc_int das_nil)))))))))))))) aas_nil))))) (g_name (pg_name (i := 1) sc_law_any_table.nd rfl (.inl rfl)))
    (s_cons (s_set (ps_set (i := 4) sc_law_any_table.nd rfl (.inl rfl) (d_callD (ok_law_any_word T) hr (by decide) (by rfl) (aas_k (pv 0) (aas_cons (d_callD (ok_law_pick T) hr (by decide) (by rfl) (aas_k (pv 0) (aas_cons (fd (d_lst (das_cons dc_int (das_cons dc_int (das_cons dc_int (das_cons dc_int das_nil)))))) aas_nil))) aas_nil)))))
    (s_one (s_extend (i := 2) (ps_expr (pe_bm PySem.F.plainAttrs_list PySem.F.slot_list_extend PySem.F.type_list_extend mt_extend (pv 2) (pa_cons (sw (d_if (d_cmpT (o_nin (hu65 hr)) (sw (dv (pv 4))) (dvw (pv 2))) (fd (d_lst (das_cons (dv (pv 4)) das_nil))) (fd (d_lst das_nil)))) pa_nil)))))))
    (s_cons (s_par (i := 2) (j := 5) (fun ta h => ps_par rfl sc_law_any_table.nd rfl rfl (by decide) rfl rfl h (by rfl)) (x_o (f_callB (c_sortS) (by rfl) (T.free 76 rfl) bt_sorted (was_cons (dvw (pv 2)) was_nil)) (x_o (d_lst das_nil) x_nil)))
    (s_cons (s_give 2 (s_for PassesOwn.never rfl (i_enumL (by rfl) (T.free 74 rfl) (dv (pv 2))) (g_tup (n := 2) rfl (gs_cons (g_name (pg_name (i := 6) sc_law_any_table.nd rfl (.inl rfl))) (gs_cons (g_name (pg_name (i := 7) sc_law_any_table.nd rfl (.inr rfl))) gs_nil)))
    (s_one (s_extend (i := 5) (ps_expr (pe_bm PySem.F.plainAttrs_list PySem.F.slot_list_extend PySem.F.type_list_extend mt_extend (pv 5) (pa_cons (fw (f_lc rfl sc_law_any_table.nd (ij (i_list (fd (d_sliL (sw (dv (pv 2))) (p_some (sw (dv (pv 6)))) p_none)))) (blkOk_by (own := [("_law_other", 8)]) (by kernel_rfl)) (fun _ _ _ _ _ => (g_name (pg_name (i := 8) sc_law_any_table.nd rfl (.inl rfl)))) (fun _ _ _ _ _ => (ts_one (d_cmpT o_lt (sw (d_callD (ok_law_draw T) hr (by decide) (by rfl) (aas_k (pv 0) (aas_cons dc_int aas_nil)))) (sw (dv (pv 3)))))) (fun _ _ _ _ _ => (d_tup (das_cons (dv (pv 7)) (das_cons (dv (pv 8)) das_nil)))) (by decide))) pa_nil)))))))
    (s_one (s_ret (d_tup (das_cons (d_callTy c_tuple (by rfl) (T.free 70 rfl) bt_tuple (was_cons (sw (dv (pv 2))) was_nil)) (das_cons (d_callTy c_tuple (by rfl) (T.free 70 rfl) bt_tuple (was_cons (dvw (pv 5)) was_nil)) das_nil)))))))))
theorem sc_law_right_order : FnScope ["_law_book", "_law_history", "_law_p", "_law_turn", "_law_word", "_law_kept", "_law_left", "_law_order", "_law_edges_here", "_law_rest", "_law_free", "_law_t", "_law_u"] ["_law_book", "_law_history", "_law_p"] (defScope st__law_right_order) := ⟨rfl, rfl, rfl, by decide +kernel, rfl, by decide +kernel, by decide +kernel⟩
def F_law_right_order : List Sl → M D := fnS 13 (seqS (asgS (call 2 F_law_cut_word (consA (var 1) (consA (var 2) nilL))) (tupT 2 (consT (nameT 4) (consT (nameT 5) nilT))))
  (seqS (parS [6, 7, 8] (xD (call 2 F_law_left_over (consA (var 0) (consA (var 4) nilL))) (xO (lstE nilL) (xD (call 2 F_law_edges (consA (var 0) (consA (var 2) nilL))) nilL))))
  (seqS (forS (rng1 (app (consL (var 5) nilL) lenS)) (nameT 3)
  (seqS (setS 9 (asL (lcE [11] (itL (var 5)) (nameT 11) (tst (op2 ninS (var 11) (varW 7))) (var 11))))
  (seqS (setS 10 (asL (lcE [11] (itL (var 9)) (nameT 11) (tst (op2 eqS (asL (lcE [12] (itL (var 9)) (nameT 12) (andT (tst (op2 neS (var 12) (var 11))) (tst (op2 inS (tupE (consL (var 12) (consL (var 11) nilL))) (var 8)))) (var 12))) (asL (lstE nilL)))) (var 11))))
  (extS 7 (asL (sliL (var 10) noPart (part (con (.int 1)))))))))
  (seqS (give 7 (ifS (orT (tst (op2 ltS (app (consL (var 7) nilL) lenS) (app (consL (var 5) nilL) lenS))) (notT (tst (call 3 F_law_are_alike (consA (var 0) (consA (var 6) (consA (call 2 F_law_in_series (consA (sliT (var 1) noPart (part (var 2))) (consA (var 7) nilL))) nilL))))))) (retS (con .non)) skip))
  (retS (var 7))))))
theorem ok_law_right_order (T : Txt K mg) : DefOk P w K mg base "_law_right_order" 4 3 F_law_right_order := by
  obtain ⟨fdd, F⟩ := T.says.def_ 55 (d := df__law_right_order) rfl
  refine ⟨⟨fdd, ["_law_book", "_law_history", "_law_p"], fn_ok (N := ["_law_book", "_law_history", "_law_p", "_law_turn", "_law_word", "_law_kept", "_law_left", "_law_order", "_law_edges_here", "_law_rest", "_law_free", "_law_t", "_law_u"]) F sc_law_right_order (fun cdv A outer s' H E hr => ?_), FunD.bindsN F fun _ _ _ _ _ _ us hl => match us, hl with | [_, _, _], _ => rfl⟩, T.glo 55 rfl, F.kp⟩
  exact (s_cons (s_asg (d_callD (ok_law_cut_word T) hr (by decide) (by rfl) (aas_cons (dv (pv 1)) (aas_cons (dv (pv 2)) aas_nil))) (g_tup (n := 2) rfl (gs_cons (g_name (pg_name (i := 4) sc_law_right_order.nd rfl (.inl rfl))) (gs_cons (g_name (pg_name (i := 5) sc_law_right_order.nd rfl (.inl rfl))) gs_nil))))
    (s_cons (s_parT (is := [6, 7, 8]) (n := 3) (fun ta h => ps_asg (pe_tup h) (pg_tup rfl (pgs_cons (pg_name (i := 6) sc_law_right_order.nd rfl (.inl rfl)) (pgs_cons (pg_name (i := 7) sc_law_right_order.nd rfl (.inr rfl)) (pgs_cons (pg_name (i := 8) sc_law_right_order.nd rfl (.inr rfl)) pgs_nil))))) (x_d (d_callD (ok_law_left_over T) hr (by decide) (by rfl) (aas_cons (dv (pv 0)) (aas_cons (dv (pv 4)) aas_nil))) (x_o (d_lst das_nil) (x_d (d_callD (ok_law_edges T) hr (by decide) (by rfl) (aas_cons (dv (pv 0)) (aas_cons (dv (pv 2)) aas_nil))) x_nil))) rfl (by decide))
    (s_cons (s_for PassesOwn.never rfl (i_rng1 (by rfl) (T.free 75 rfl) (sw (d_callB c_len (by rfl) (T.free 65 rfl) bt_len (was_cons (sw (dv (pv 5))) was_nil)))) (g_name (pg_name (i := 3) sc_law_right_order.nd rfl (.inl rfl)))
    (s_cons (s_set (ps_set (i := 9) sc_law_right_order.nd rfl (.inr rfl) (fd (f_lc rfl sc_law_right_order.nd (ij (i_list (dv (pv 5)))) (blkOk_by (own := [("_law_t", 11)]) (by kernel_rfl)) (fun _ _ _ _ _ => (g_name (pg_name (i := 11) sc_law_right_order.nd rfl (.inl rfl)))) (fun _ _ _ _ _ => (ts_one (d_cmpT (o_nin (hu65 hr)) (sw (dv (pv 11))) (dvw (pv 7))))) (fun _ _ _ _ _ => (dv (pv 11))) (by decide)))))
    (s_cons (s_setLD (a_lc (i := 10) rfl sc_law_right_order.nd rfl rfl (sw_true rfl rfl rfl (by decide +kernel)) (ij (i_list (dv (pv 9)))) (blkOk_by (own := [("_law_t", 11)]) (by kernel_rfl)) (fun _ _ _ _ _ => (g_name (pg_name (i := 11) sc_law_right_order.nd rfl (.inr rfl)))) (fun _ _ _ _ _ => (ts_one (d_cmpT (o_eq hr.units) (fw (f_lc rfl sc_law_right_order.nd (ij (i_list (dv (pv 9)))) (blkOk_by (own := [("_law_u", 12)]) (by kernel_rfl)) (fun _ _ _ _ _ => (g_name (pg_name (i := 12) sc_law_right_order.nd rfl (.inl rfl)))) (fun _ _ _ _ _ => (ts_one (PW.pt (w_and (d_cmpT (o_ne hr.units) (sw (dv (pv 12))) (sw (dv (pv 11)))) (w_and1 (d_cmpT (o_in (hu65 hr)) (sw (d_tup (das_cons (dv (pv 12)) (das_cons (dv (pv 11)) das_nil)))) (sw (dv (pv 8))))))))) (fun _ _ _ _ _ => (dv (pv 12))) (by decide))) (fw (d_lst das_nil))))) (fun _ _ _ _ _ => (dv (pv 11))) (by decide)))
    (s_one (s_extend (i := 7) (ps_expr (pe_bm PySem.F.plainAttrs_list PySem.F.slot_list_extend PySem.F.type_list_extend mt_extend (pv 7) (pa_cons (fw (d_sliL (sw (dv (pv 10))) p_none (p_some (sw dc_int)))) pa_nil))))))))
    (s_cons (s_give 7 (s_if (PW.pt (w_or (d_cmpT o_lt (sw (d_callB c_len (by rfl) (T.free 65 rfl) bt_len (was_cons (sw (dv (pv 7))) was_nil))) (sw (d_callB c_len (by rfl) (T.free 65 rfl) bt_len (was_cons (sw (dv (pv 5))) was_nil)))) (w_or1 (t_not (dt_of (d_callD (ok_law_are_alike T) hr (by decide) (by rfl) (aas_cons (dv (pv 0)) (aas_cons (dv (pv 6)) (aas_cons (d_callD (ok_law_in_series T) hr (by decide) (by rfl) (aas_cons (d_sliT (dv (pv 1)) p_none (p_some (sw (dv (pv 2))))) (aas_cons (dv (pv 7)) aas_nil))) aas_nil))))))))) (s_one (s_ret dc_non)) s_nil))
    (s_one (s_ret (dv (pv 7))))))))
theorem sc_law_is_caught : FnScope ["_law_book", "_law_word", "_law_thing", "_law_i", "_law_j", "_law_low", "_law_high"] ["_law_book", "_law_word", "_law_thing"] (defScope st__law_is_caught) := ⟨rfl, rfl, rfl, by decide +kernel, rfl, by decide +kernel, by decide +kernel⟩
def F_law_is_caught : List Sl → M D := fnS 7 (seqS (ifS (orT (notT (tst (isS "tuple" (var 2)))) (orT (tst (op2 neS (app (consL (var 2) nilL) lenS) (con (.int 3)))) (tst (op2 neS (app (consL (op2 ixS (var 2) (con (.int 0))) nilL) reprS) (con (.str "'caught'")))))) (retS (con (.bl false))) skip)
  (seqS (asgS (sliT (var 2) (part (con (.int 1))) noPart) (tupT 2 (consT (nameT 3) (consT (nameT 4) nilT))))
  (seqS (ifS (orT (notT (tst (call 1 F_law_is_int (consA (var 3) nilL)))) (orT (notT (tst (call 1 F_law_is_int (consA (var 4) nilL)))) (orT (tst (op2 ninS (tupE (consL (var 3) (consL (con (.int 1)) nilL))) (var 1))) (orT (tst (op2 ninS (tupE (consL (var 4) (consL (con (.int 1)) nilL))) (var 1))) (notT (tst (op2 ltS (var 3) (var 4)))))))) (retS (con (.bl false))) skip)
  (seqS (ifS (orT (notT (tst (call 3 F_law_do_clash (consA (var 0) (consA (var 3) (consA (var 4) nilL)))))) (tst (op2 ninS (tupE (consL (var 3) (consL (negE (con (.int 1))) nilL))) (var 1)))) (retS (con (.bl false))) skip)
  (seqS (parS [5, 6] (xD (indexT (var 1) (tupE (consL (var 4) (consL (con (.int 1)) nilL)))) (xD (indexT (var 1) (tupE (consL (var 3) (consL (negE (con (.int 1))) nilL)))) nilL)))
  (retS (andE (op2 ltS (var 5) (var 6)) (op2 ninS (tupE (consL (var 4) (consL (negE (con (.int 1))) nilL))) (sliT (var 1) (part (var 5)) (part (var 6)))))))))))
theorem ok_law_is_caught (T : Txt K mg) : DefOk P w K mg base "_law_is_caught" 2 3 F_law_is_caught := by
  obtain ⟨fdd, F⟩ := T.says.def_ 57 (d := df__law_is_caught) rfl
  refine ⟨⟨fdd, ["_law_book", "_law_word", "_law_thing"], fn_ok (N := ["_law_book", "_law_word", "_law_thing", "_law_i", "_law_j", "_law_low", "_law_high"]) F sc_law_is_caught (fun cdv A outer s' H E hr => ?_), FunD.bindsN F fun _ _ _ _ _ _ us hl => match us, hl with | [_, _, _], _ => rfl⟩, T.glo 57 rfl, F.kp⟩
  exact (s_cons (s_if (PW.pt (w_or (t_not (dt_of (d_isi (T := "tuple") (sw (dv (pv 2))) (by rfl) (T.free 66 rfl) (by rfl) (T.free 70 rfl) bt_tuple))) (w_or (d_cmpT (o_ne hr.units) (sw (d_callB c_len (by rfl) (T.free 65 rfl) bt_len (was_cons (sw (dv (pv 2))) was_nil))) (sw dc_int)) (w_or1 (d_cmpT (o_ne hr.units) (sw (d_callB c_repr (by rfl) (T.free 81 rfl) bt_repr (was_cons (sw (d_ix (sw (dv (pv 2))) (sw dc_int))) was_nil))) (sw dc_str)))))) (s_one (s_ret dc_bl)) s_nil)
    (s_cons (s_asg (d_sliT (dv (pv 2)) (p_some (sw dc_int)) p_none) (g_tup (n := 2) rfl (gs_cons (g_name (pg_name (i := 3) sc_law_is_caught.nd rfl (.inl rfl))) (gs_cons (g_name (pg_name (i := 4) sc_law_is_caught.nd rfl (.inl rfl))) gs_nil))))
    (s_cons (s_if (PW.pt (w_or (t_not (dt_of (d_callD (ok_law_is_int T) hr (by decide) (by rfl) (aas_cons (dv (pv 3)) aas_nil)))) (w_or (t_not (dt_of (d_callD (ok_law_is_int T) hr (by decide) (by rfl) (aas_cons (dv (pv 4)) aas_nil)))) (w_or (d_cmpT (o_nin (hu65 hr)) (sw (d_tup (das_cons (dv (pv 3)) (das_cons dc_int das_nil)))) (sw (dv (pv 1)))) (w_or (d_cmpT (o_nin (hu65 hr)) (sw (d_tup (das_cons (dv (pv 4)) (das_cons dc_int das_nil)))) (sw (dv (pv 1)))) (w_or1 (t_not (d_cmpT o_lt (sw (dv (pv 3))) (sw (dv (pv 4))))))))))) (s_one (s_ret dc_bl)) s_nil)
    (s_cons (s_if (PW.pt (w_or (t_not (dt_of (d_callD (ok_law_do_clash T) hr (by decide) (by rfl) (aas_cons (dv (pv 0)) (aas_cons (dv (pv 3)) (aas_cons (dv (pv 4)) aas_nil)))))) (w_or1 (d_cmpT (o_nin (hu65 hr)) (sw (d_tup (das_cons (dv (pv 3)) (das_cons (d_neg (sw dc_int)) das_nil)))) (sw (dv (pv 1))))))) (s_one (s_ret dc_bl)) s_nil)
    (s_cons (s_par (i := 5) (j := 6) (fun ta h => ps_par rfl sc_law_is_caught.nd rfl rfl (by decide) rfl rfl h (by rfl)) (x_d (d_indexT (hu65 hr) (sw (dv (pv 1))) (sw (d_tup (das_cons (dv (pv 4)) (das_cons dc_int das_nil))))) (x_d (d_indexT (hu65 hr) (sw (dv (pv 1))) (sw (d_tup (das_cons (dv (pv 3)) (das_cons (d_neg (sw dc_int)) das_nil))))) x_nil)))
    (s_one (s_ret (d_and (d_cmp o_lt (sw (dv (pv 5))) (sw (dv (pv 6)))) (d_one (d_cmp (o_nin (hu65 hr)) (sw (d_tup (das_cons (dv (pv 4)) (das_cons (d_neg (sw dc_int)) das_nil)))) (sw (d_sliT (dv (pv 1)) (p_some (sw (dv (pv 5)))) (p_some (sw (dv (pv 6))))))))))))))))
theorem sc_law_is_ring : FnScope ["_law_book", "_law_p", "_law_kept", "_law_thing", "_law_row", "_law_edges_here", "_law_pair", "_law_t"] ["_law_book", "_law_p", "_law_kept", "_law_thing"] (defScope st__law_is_ring) := ⟨rfl, rfl, rfl, by decide +kernel, rfl, by decide +kernel, by decide +kernel⟩
def F_law_is_ring : List Sl → M D := fnS 8 (seqS (ifS (orT (notT (tst (isS "tuple" (var 3)))) (orT (tst (op2 neS (app (consL (var 3) nilL) lenS) (con (.int 2)))) (orT (tst (op2 neS (app (consL (op2 ixS (var 3) (con (.int 0))) nilL) reprS) (con (.str "'ring'")))) (notT (tst (isS "tuple" (op2 ixS (var 3) (con (.int 1))))))))) (retS (con (.bl false))) skip)
  (seqS (setS 4 (op2 ixS (var 3) (con (.int 1))))
  (seqS (ifS (orT (tst (op2 ltS (app (consL (var 4) nilL) lenS) (con (.int 2)))) (orT (tst (op2 neS (asL (lcE [7] (itT (var 4)) (nameT 7) (orT (notT (tst (call 1 F_law_is_int (consA (var 7) nilL)))) (tst (op2 ninS (var 7) (var 2)))) (con (.int 1)))) (asL (lstE nilL)))) (tst (op2 neS (lensetE (var 4)) (app (consL (var 4) nilL) lenS))))) (retS (con (.bl false))) skip)
  (seqS (setS 5 (call 2 F_law_edges (consA (var 0) (consA (var 1) nilL))))
  (retS (op2 eqS (asL (lcE [6] (zipT (var 4) (op2 catT (sliT (var 4) (part (con (.int 1))) noPart) (sliT (var 4) noPart (part (con (.int 1)))))) (nameT 6) (tst (op2 ninS (var 6) (var 5))) (con (.int 1)))) (asL (lstE nilL))))))))
theorem ok_law_is_ring (T : Txt K mg) : DefOk P w K mg base "_law_is_ring" 3 4 F_law_is_ring := by
  obtain ⟨fdd, F⟩ := T.says.def_ 59 (d := df__law_is_ring) rfl
  refine ⟨⟨fdd, ["_law_book", "_law_p", "_law_kept", "_law_thing"], fn_ok (N := ["_law_book", "_law_p", "_law_kept", "_law_thing", "_law_row", "_law_edges_here", "_law_pair", "_law_t"]) F sc_law_is_ring (fun cdv A outer s' H E hr => ?_), FunD.bindsN F fun _ _ _ _ _ _ us hl => match us, hl with | [_, _, _, _], _ => rfl⟩, T.glo 59 rfl, F.kp⟩
  exact (s_cons (s_if (PW.pt (w_or (t_not (dt_of (d_isi (T := "tuple") (sw (dv (pv 3))) (by rfl) (T.free 66 rfl) (by rfl) (T.free 70 rfl) bt_tuple))) (w_or (d_cmpT (o_ne hr.units) (sw (d_callB c_len (by rfl) (T.free 65 rfl) bt_len (was_cons (sw (dv (pv 3))) was_nil))) (sw dc_int)) (w_or (d_cmpT (o_ne hr.units) (sw (d_callB c_repr (by rfl) (T.free 81 rfl) bt_repr (was_cons (sw (d_ix (sw (dv (pv 3))) (sw dc_int))) was_nil))) (sw dc_str)) (w_or1 (t_not (dt_of (d_isi (T := "tuple") (sw (d_ix (sw (dv (pv 3))) (sw dc_int))) (by rfl) (T.free 66 rfl) (by rfl) (T.free 70 rfl) bt_tuple)))))))) (s_one (s_ret dc_bl)) s_nil)
    (s_cons (s_set (ps_set (i := 4) sc_law_is_ring.nd rfl (.inl rfl) (d_ix (sw (dv (pv 3))) (sw dc_int))))
    (s_cons (s_if (PW.pt (w_or (d_cmpT o_lt (sw (d_callB c_len (by rfl) (T.free 65 rfl) bt_len (was_cons (sw (dv (pv 4))) was_nil))) (sw dc_int)) (w_or (d_cmpT (o_ne hr.units) (fw (f_lc rfl sc_law_is_ring.nd (ij (i_tup (dv (pv 4)))) (blkOk_by (own := [("_law_t", 7)]) (by kernel_rfl)) (fun _ _ _ _ _ => (g_name (pg_name (i := 7) sc_law_is_ring.nd rfl (.inl rfl)))) (fun _ _ _ _ _ => (ts_one (PW.pt (w_or (t_not (dt_of (d_callD (ok_law_is_int T) hr (by decide) (by rfl) (aas_cons (dv (pv 7)) aas_nil)))) (w_or1 (d_cmpT (o_nin (hu65 hr)) (sw (dv (pv 7))) (sw (dv (pv 2))))))))) (fun _ _ _ _ _ => dc_int) (by decide))) (fw (d_lst das_nil))) (w_or1 (d_cmpT (o_ne hr.units) (sw (d_lenset rfl (by rfl) (T.free 65 rfl) (by rfl) (T.free 79 rfl) (sw (dv (pv 4))))) (sw (d_callB c_len (by rfl) (T.free 65 rfl) bt_len (was_cons (sw (dv (pv 4))) was_nil)))))))) (s_one (s_ret dc_bl)) s_nil)
    (s_cons (s_set (ps_set (i := 5) sc_law_is_ring.nd rfl (.inr rfl) (d_callD (ok_law_edges T) hr (by decide) (by rfl) (aas_cons (dv (pv 0)) (aas_cons (dv (pv 1)) aas_nil)))))
    (s_one (s_ret (d_cmp (o_eq hr.units) (fw (f_lc rfl sc_law_is_ring.nd (ij (i_zipN (by rfl) (T.free 73 rfl) (dv (pv 4)) (d_bin o_catT (sw (d_sliT (dv (pv 4)) (p_some (sw dc_int)) p_none)) (sw (d_sliT (dv (pv 4)) p_none (p_some (sw dc_int))))))) (blkOk_by (own := [("_law_pair", 6)]) (by kernel_rfl)) (fun _ _ _ _ _ => (g_name (pg_name (i := 6) sc_law_is_ring.nd rfl (.inl rfl)))) (fun _ _ _ _ _ => (ts_one (d_cmpT (o_nin (hu65 hr)) (sw (dv (pv 6))) (sw (dv (pv 5)))))) (fun _ _ _ _ _ => dc_int) (by decide))) (fw (d_lst das_nil)))))))))
theorem sc_law_is_against : FnScope ["_law_book", "_law_history", "_law_p", "_law_thing", "_law_word", "_law_kept"] ["_law_book", "_law_history", "_law_p", "_law_thing"] (defScope st__law_is_against) := ⟨rfl, rfl, rfl, by decide +kernel, rfl, by decide +kernel, by decide +kernel⟩
def F_law_is_against : List Sl → M D := fnS 6 (seqS (asgS (call 2 F_law_cut_word (consA (var 1) (consA (var 2) nilL))) (tupT 2 (consT (nameT 4) (consT (nameT 5) nilT))))
  (retS (orE (call 3 F_law_is_caught (consA (var 0) (consA (var 4) (consA (var 3) nilL)))) (call 4 F_law_is_ring (consA (var 0) (consA (var 2) (consA (var 5) (consA (var 3) nilL))))))))
theorem ok_law_is_against (T : Txt K mg) : DefOk P w K mg base "_law_is_against" 4 4 F_law_is_against := by
  obtain ⟨fdd, F⟩ := T.says.def_ 60 (d := df__law_is_against) rfl
  refine ⟨⟨fdd, ["_law_book", "_law_history", "_law_p", "_law_thing"], fn_ok (N := ["_law_book", "_law_history", "_law_p", "_law_thing", "_law_word", "_law_kept"]) F sc_law_is_against (fun cdv A outer s' H E hr => ?_), FunD.bindsN F fun _ _ _ _ _ _ us hl => match us, hl with | [_, _, _, _], _ => rfl⟩, T.glo 60 rfl, F.kp⟩
  exact (s_cons (s_asg (d_callD (ok_law_cut_word T) hr (by decide) (by rfl) (aas_cons (dv (pv 1)) (aas_cons (dv (pv 2)) aas_nil))) (g_tup (n := 2) rfl (gs_cons (g_name (pg_name (i := 4) sc_law_is_against.nd rfl (.inl rfl))) (gs_cons (g_name (pg_name (i := 5) sc_law_is_against.nd rfl (.inl rfl))) gs_nil))))
    (s_one (s_ret (d_or (d_callD (ok_law_is_caught T) hr (by decide) (by rfl) (aas_cons (dv (pv 0)) (aas_cons (dv (pv 4)) (aas_cons (dv (pv 3)) aas_nil)))) (d_one (d_callD (ok_law_is_ring T) hr (by decide) (by rfl) (aas_cons (dv (pv 0)) (aas_cons (dv (pv 2)) (aas_cons (dv (pv 5)) (aas_cons (dv (pv 3)) aas_nil))))))))))
theorem sc_law_own_rings : FnScope ["_law_book", "_law_history", "_law_p", "_law_edges_here", "_law_rows", "_law_turn", "_law_kept", "_law_found", "_law_more", "_law_row", "_law_t"] ["_law_book", "_law_history", "_law_p"] (defScope st__law_own_rings) := ⟨rfl, rfl, rfl, by decide +kernel, rfl, by decide +kernel, by decide +kernel⟩
def F_law_own_rings : List Sl → M D := fnS 11 (seqS (parS [6, 7] (xD (op2 ixS (call 2 F_law_cut_word (consA (var 1) (consA (var 2) nilL))) (con (.int 1))) (xO (lstE nilL) nilL)))
  (seqS (setS 3 (call 2 F_law_edges (consA (var 0) (consA (var 2) nilL))))
  (seqS (setS 4 (asL (lcE [10] (itL (asL (sliL (var 6) noPart (part (con (.int 5)))))) (nameT 10) yes (tupE (consL (var 10) nilL)))))
  (seqS (forS (rng1 (con (.int 4))) (nameT 5)
  (seqS (setO 8 (lstE nilL))
  (seqS (forS (itL (var 4)) (nameT 9)
  (extS 8 (asL (lcE [10] (itL (asL (sliL (var 6) noPart (part (con (.int 5)))))) (nameT 10) (andT (tst (op2 ninS (var 10) (var 9))) (tst (op2 inS (tupE (consL (op2 ixS (var 9) (negE (con (.int 1)))) (consL (var 10) nilL))) (var 3)))) (op2 catT (var 9) (tupE (consL (var 10) nilL)))))))
  (seqS (give 8 (setS 4 (var 8)))
  (extS 7 (asL (lcE [9] (itL (var 4)) (nameT 9) (tst (op2 inS (tupE (consL (op2 ixS (var 9) (negE (con (.int 1)))) (consL (op2 ixS (var 9) (con (.int 0))) nilL))) (var 3))) (tupE (consL (con (.str "ring")) (consL (var 9) nilL))))))))))
  (give 7 (retS (var 7)))))))
theorem ok_law_own_rings (T : Txt K mg) : DefOk P w K mg base "_law_own_rings" 4 3 F_law_own_rings := by
  obtain ⟨fdd, F⟩ := T.says.def_ 61 (d := df__law_own_rings) rfl
  refine ⟨⟨fdd, ["_law_book", "_law_history", "_law_p"], fn_ok (N := ["_law_book", "_law_history", "_law_p", "_law_edges_here", "_law_rows", "_law_turn", "_law_kept", "_law_found", "_law_more", "_law_row", "_law_t"]) F sc_law_own_rings (fun cdv A outer s' H E hr => ?_), FunD.bindsN F fun _ _ _ _ _ _ us hl => match us, hl with | [_, _, _], _ => rfl⟩, T.glo 61 rfl, F.kp⟩
  exact (s_cons (s_par (i := 6) (j := 7) (fun ta h => ps_par rfl sc_law_own_rings.nd rfl rfl (by decide) rfl rfl h (by rfl)) (x_d (d_ix (sw (d_callD (ok_law_cut_word T) hr (by decide) (by rfl) (aas_cons (dv (pv 1)) (aas_cons (dv (pv 2)) aas_nil)))) (sw dc_int)) (x_o (d_lst das_nil) x_nil)))
    (s_cons (s_set (ps_set (i := 3) sc_law_own_rings.nd rfl (.inr rfl) (d_callD (ok_law_edges T) hr (by decide) (by rfl) (aas_cons (dv (pv 0)) (aas_cons (dv (pv 2)) aas_nil)))))
    (s_cons (s_setLD (a_lc (i := 4) rfl sc_law_own_rings.nd rfl rfl (sw_true rfl rfl rfl (by decide +kernel)) (ij (i_list (fd (d_sliL (sw (dv (pv 6))) p_none (p_some (sw dc_int)))))) (blkOk_by (own := [("_law_t", 10)]) (by kernel_rfl)) (fun _ _ _ _ _ => (g_name (pg_name (i := 10) sc_law_own_rings.nd rfl (.inl rfl)))) (fun _ _ _ _ _ => ts_nil) (fun _ _ _ _ _ => (d_tup (das_cons (dv (pv 10)) das_nil))) (by decide)))
    (s_cons (s_for PassesOwn.never rfl (i_rng1 (by rfl) (T.free 75 rfl) (sw dc_int)) (g_name (pg_name (i := 5) sc_law_own_rings.nd rfl (.inl rfl)))
    (s_cons (s_setLO (ps_set (i := 8) sc_law_own_rings.nd rfl (.inl rfl) (d_lst das_nil)))
    (s_cons (s_for PassesOwn.never rfl (i_list (dv (pv 4))) (g_name (pg_name (i := 9) sc_law_own_rings.nd rfl (.inr rfl)))
    (s_one (s_extend (i := 8) (ps_expr (pe_bm PySem.F.plainAttrs_list PySem.F.slot_list_extend PySem.F.type_list_extend mt_extend (pv 8) (pa_cons (fw (f_lc rfl sc_law_own_rings.nd (ij (i_list (fd (d_sliL (sw (dv (pv 6))) p_none (p_some (sw dc_int)))))) (blkOk_by (own := [("_law_t", 10)]) (by kernel_rfl)) (fun _ _ _ _ _ => (g_name (pg_name (i := 10) sc_law_own_rings.nd rfl (.inl rfl)))) (fun _ _ _ _ _ => (ts_one (PW.pt (w_and (d_cmpT (o_nin (hu65 hr)) (sw (dv (pv 10))) (sw (dv (pv 9)))) (w_and1 (d_cmpT (o_in (hu65 hr)) (sw (d_tup (das_cons (d_ix (sw (dv (pv 9))) (sw (d_neg (sw dc_int)))) (das_cons (dv (pv 10)) das_nil)))) (sw (dv (pv 3))))))))) (fun _ _ _ _ _ => (d_bin o_catT (sw (dv (pv 9))) (sw (d_tup (das_cons (dv (pv 10)) das_nil))))) (by decide))) pa_nil))))))
    (s_cons (s_give 8 (s_set (ps_set (i := 4) sc_law_own_rings.nd rfl (.inl rfl) (dv (pv 8)))))
    (s_one (s_extend (i := 7) (ps_expr (pe_bm PySem.F.plainAttrs_list PySem.F.slot_list_extend PySem.F.type_list_extend mt_extend (pv 7) (pa_cons (fw (f_lc rfl sc_law_own_rings.nd (ij (i_list (dv (pv 4)))) (blkOk_by (own := [("_law_row", 9)]) (by kernel_rfl)) (fun _ _ _ _ _ => (g_name (pg_name (i := 9) sc_law_own_rings.nd rfl (.inl rfl)))) (fun _ _ _ _ _ => (ts_one (d_cmpT (o_in (hu65 hr)) (sw (d_tup (das_cons (d_ix (sw (dv (pv 9))) (sw (d_neg (sw dc_int)))) (das_cons (d_ix (sw (dv (pv 9))) (sw dc_int)) das_nil)))) (sw (dv (pv 3)))))) (fun _ _ _ _ _ => (d_tup (das_cons dc_str (das_cons (dv (pv 9)) das_nil)))) (by decide))) pa_nil)))))))))
    (s_one (s_give 7 (s_ret (dv (pv 7)))))))))
end
end EC
end
/-! ## W9 -/
section

set_option Elab.async false
set_option linter.all false
set_option maxRecDepth 100000
set_option maxHeartbeats 4000000
namespace EC
open PySem PySem.Spec PyProof.Rows L2
section
variable {P : Program} {w : World} {K : PySem.W.Frag} {mg : Str → Option Value} {base : Heap}
theorem sc_law_one_way : FnScope ["_law_deck", "_law_names", "_law_at", "_law_row", "_law_kinds", "_law_many", "_law_rows", "_law_found", "_law_kind", "_law_t"] ["_law_deck"] (defScope st__law_one_way) := ⟨rfl, rfl, rfl, by decide +kernel, rfl, by decide +kernel, by decide +kernel⟩
def F_law_one_way : List Sl → M D := fnS 10 (seqS (parS [4, 5, 6, 7] (xD (asL (lstE (consL (con (.str "a")) (consL (con (.str "b")) (consL (con (.str "get")) (consL (con (.str "set")) (consL (con (.str "up")) (consL (con (.str "zz")) nilL)))))))) (xD (op2 addS (con (.int 3)) (call 2 F_law_draw (consK 0 (consA (con (.int 4)) nilL)))) (xO (lstE nilL) (xO (lstE nilL) nilL)))))
  (seqS (setS 1 (asL (sliL (call 2 F_law_mixed (consK 0 (consA (asL (lstE (consL (con (.int 0)) (consL (con (.int 3)) (consL (con (.int 5)) (consL (con (.int 11)) (consL (con (.int 4)) (consL (op2 powS (con (.int 10)) (con (.int 6))) nilL)))))))) nilL))) noPart (part (var 5)))))
  (seqS (forS (rng1 (var 5)) (nameT 2)
  (appS 6 (asL (lstE (consL (tupE (consL (con (.str "do")) (consL (op2 ixS (var 1) (var 2)) (consL (op2 ixS (var 4) (var 2)) nilL)))) (consL (tupE (consL (con (.str "do")) (consL (op2 ixS (var 1) (op2 modS (app (consL (op2 addS (var 2) (con (.int 1))) nilL) intS) (var 5))) (consL (op2 ixS (var 4) (var 2)) nilL)))) nilL))))))
  (seqS (give 6 (forS (itL (call 2 F_law_mixed (consK 0 (consA (var 6) nilL)))) (nameT 3)
  (extS 7 (var 3))))
  (retS (tupE (consL (tupE (consL (app (consL (var 4) nilL) tupS) (consL (app (consL (asL (lcE [8] (itL (var 4)) (nameT 8) yes (tupE (consL (var 8) (consL (var 8) nilL))))) nilL) tupS) nilL))) (consL (app (consL (asL (catE (varW 7) (asL (lcE [9] (itL (call 2 F_law_mixed (consK 0 (consA (var 1) nilL)))) (nameT 9) yes (tupE (consL (con (.str "keep")) (consL (var 9) nilL))))))) nilL) tupS) (consL (var 1) nilL)))))))))
theorem ok_law_one_way (T : Txt K mg) : DefOk P w K mg base "_law_one_way" 3 1 F_law_one_way := by
  obtain ⟨fdd, F⟩ := T.says.def_ 62 (d := df__law_one_way) rfl
  refine ⟨⟨fdd, ["_law_deck"], fn_ok (N := ["_law_deck", "_law_names", "_law_at", "_law_row", "_law_kinds", "_law_many", "_law_rows", "_law_found", "_law_kind", "_law_t"]) F sc_law_one_way (fun cdv A outer s' H E hr => ?_), FunD.bindsN F fun _ _ _ _ _ _ us hl => match us, hl with | [_], _ => rfl⟩, T.glo 62 rfl, F.kp⟩
  exact (s_cons (s_parT (is := [4, 5, 6, 7]) (n := 4) (fun ta h => ps_asg (pe_tup h) (pg_tup rfl (pgs_cons (pg_name (i := 4) sc_law_one_way.nd rfl (.inl rfl)) (pgs_cons (pg_name (i := 5) sc_law_one_way.nd rfl (.inl rfl)) (pgs_cons (pg_name (i := 6) sc_law_one_way.nd rfl (.inl rfl)) (pgs_cons (pg_name (i := 7) sc_law_one_way.nd rfl (.inl rfl)) pgs_nil)))))) (x_d (fd (d_lst (das_cons dc_str (das_cons dc_str (das_cons dc_str (das_cons dc_str (das_cons dc_str (das_cons dc_str das_nil)))))))) (x_d (d_bin o_add (sw dc_int) (sw (d_callD (ok_law_draw T) hr (by decide) (by rfl) (aas_k (pv 0) (aas_cons dc_int aas_nil))))) (x_o (d_lst das_nil) (x_o (d_lst das_nil) x_nil)))) rfl (by decide))
    (s_cons (s_set (ps_set (i := 1) sc_law_one_way.nd rfl (.inl rfl) (fd (d_sliL (sw (d_callD (ok_law_mixed T) hr (by decide) (by rfl) (aas_k (pv 0) (aas_cons (fd (d_lst (das_cons dc_int (das_cons dc_int (das_cons dc_int (das_cons dc_int (das_cons dc_int (das_cons (d_bin o_pow (sw dc_int) (sw dc_int)) das_nil)))))))) aas_nil)))) p_none (p_some (sw (dv (pv 5))))))))
    (s_cons (s_for PassesOwn.never rfl (i_rng1 (by rfl) (T.free 75 rfl) (sw (dv (pv 5)))) (g_name (pg_name (i := 2) sc_law_one_way.nd rfl (.inl rfl)))
    (s_one (s_append (i := 6) (ps_expr (pe_bm PySem.F.plainAttrs_list PySem.F.slot_list_append PySem.F.type_list_append mt_append (pv 6) (pa_cons (fd (d_lst (das_cons (d_tup (das_cons dc_str (das_cons (d_ix (sw (dv (pv 1))) (sw (dv (pv 2)))) (das_cons (d_ix (sw (dv (pv 4))) (sw (dv (pv 2)))) das_nil)))) (das_cons (d_tup (das_cons dc_str (das_cons (d_ix (sw (dv (pv 1))) (sw (d_bin o_mod (sw (d_callTy c_int (by rfl) (T.free 67 rfl) bt_int (was_cons (sw (d_bin o_add (sw (dv (pv 2))) (sw dc_int))) was_nil))) (sw (dv (pv 5)))))) (das_cons (d_ix (sw (dv (pv 4))) (sw (dv (pv 2)))) das_nil)))) das_nil)))) pa_nil))))))
    (s_cons (s_give 6 (s_for PassesOwn.never rfl (i_list (d_callD (ok_law_mixed T) hr (by decide) (by rfl) (aas_k (pv 0) (aas_cons (dv (pv 6)) aas_nil)))) (g_name (pg_name (i := 3) sc_law_one_way.nd rfl (.inl rfl)))
    (s_one (s_extend (i := 7) (ps_expr (pe_bm PySem.F.plainAttrs_list PySem.F.slot_list_extend PySem.F.type_list_extend mt_extend (pv 7) (pa_cons (sw (dv (pv 3))) pa_nil)))))))
    (s_one (s_ret (d_tup (das_cons (d_tup (das_cons (d_callTy c_tuple (by rfl) (T.free 70 rfl) bt_tuple (was_cons (sw (dv (pv 4))) was_nil)) (das_cons (d_callTy c_tuple (by rfl) (T.free 70 rfl) bt_tuple (was_cons (fw (f_lc rfl sc_law_one_way.nd (ij (i_list (dv (pv 4)))) (blkOk_by (own := [("_law_kind", 8)]) (by kernel_rfl)) (fun _ _ _ _ _ => (g_name (pg_name (i := 8) sc_law_one_way.nd rfl (.inl rfl)))) (fun _ _ _ _ _ => ts_nil) (fun _ _ _ _ _ => (d_tup (das_cons (dv (pv 8)) (das_cons (dv (pv 8)) das_nil)))) (by decide))) was_nil)) das_nil))) (das_cons (d_callTy c_tuple (by rfl) (T.free 70 rfl) bt_tuple (was_cons (fw (f_cat (dvw (pv 7)) (fw (f_lc rfl sc_law_one_way.nd (ij (i_list (d_callD (ok_law_mixed T) hr (by decide) (by rfl) (aas_k (pv 0) (aas_cons (dv (pv 1)) aas_nil))))) (blkOk_by (own := [("_law_t", 9)]) (by kernel_rfl)) (fun _ _ _ _ _ => (g_name (pg_name (i := 9) sc_law_one_way.nd rfl (.inl rfl)))) (fun _ _ _ _ _ => ts_nil) (fun _ _ _ _ _ => (d_tup (das_cons dc_str (das_cons (dv (pv 9)) das_nil)))) (by decide))))) was_nil)) (das_cons (dv (pv 1)) das_nil))))))))))
theorem sc_law_kept_history : FnScope ["_law_deck", "_law_table", "_law_names", "_law_turn", "_law_done", "_law_found", "_law_odd", "_law_at", "_law_t", "_law_event"] ["_law_deck", "_law_table"] (defScope st__law_kept_history) := ⟨rfl, rfl, rfl, by decide +kernel, rfl, by decide +kernel, by decide +kernel⟩
def F_law_kept_history : List Sl → M D := fnS 10 (seqS (setS 2 (asL (sliL (call 2 F_law_mixed (consK 0 (consA (asL (lstE (consL (con (.int 0)) (consL (con (.int 3)) (consL (con (.int 5)) (consL (con (.int 11)) (consL (con (.int 4)) (consL (op2 powS (con (.int 10)) (con (.int 6))) nilL)))))))) nilL))) noPart (part (op2 addS (con (.int 2)) (call 2 F_law_draw (consK 0 (consA (con (.int 5)) nilL))))))))
  (seqS (parS [5, 6] (xO (lstE nilL) (xD (op2 eqS (call 2 F_law_draw (consK 0 (consA (con (.int 3)) nilL))) (con (.int 0))) nilL)))
  (seqS (forS (rng1 (call 2 F_law_pick (consK 0 (consA (asL (lstE (consL (con (.int 5)) (consL (con (.int 8)) (consL (con (.int 11)) (consL (con (.int 15)) nilL)))))) nilL)))) (nameT 3)
  (appS 5 (tupE (consL (con (.str "do")) (consL (call 2 F_law_pick (consK 0 (consA (var 2) nilL))) (consL (call 2 F_law_pick (consK 0 (consA (op2 ixS (var 1) (con (.int 0))) nilL))) nilL))))))
  (seqS (setS 4 (asL (lcE [8] (itL (var 2)) (nameT 8) (tst (op2 neS (asL (lcE [9] (itO 5) (nameT 9) (tst (op2 eqS (op2 ixS (var 9) (con (.int 1))) (var 8))) (con (.int 1)))) (asL (lstE nilL)))) (var 8))))
  (seqS (forS (enumL (call 2 F_law_mixed (consK 0 (consA (var 4) nilL)))) (tupT 2 (consT (nameT 7) (consT (nameT 8) nilT)))
  (appS 5 (tupE (consL (ifE (andT (tst (var 6)) (tst (op2 eqS (var 7) (con (.int 0))))) (con (.str "drop")) (con (.str "keep"))) (consL (var 8) nilL)))))
  (retS (tupE (consL (app (consL (varW 5) nilL) tupS) (consL (var 4) nilL)))))))))
theorem ok_law_kept_history (T : Txt K mg) : DefOk P w K mg base "_law_kept_history" 3 2 F_law_kept_history := by
  obtain ⟨fdd, F⟩ := T.says.def_ 63 (d := df__law_kept_history) rfl
  refine ⟨⟨fdd, ["_law_deck", "_law_table"], fn_ok (N := ["_law_deck", "_law_table", "_law_names", "_law_turn", "_law_done", "_law_found", "_law_odd", "_law_at", "_law_t", "_law_event"]) F sc_law_kept_history (fun cdv A outer s' H E hr => ?_), FunD.bindsN F fun _ _ _ _ _ _ us hl => match us, hl with | [_, _], _ => rfl⟩, T.glo 63 rfl, F.kp⟩
  exact (s_cons (s_set (ps_set (i := 2) sc_law_kept_history.nd rfl (.inl rfl) (fd (d_sliL (sw (d_callD (ok_law_mixed T) hr (by decide) (by rfl) (aas_k (pv 0) (aas_cons (fd (d_lst (das_cons dc_int (das_cons dc_int (das_cons dc_int (das_cons dc_int (das_cons dc_int (das_cons (d_bin o_pow (sw dc_int) (sw dc_int)) das_nil)))))))) aas_nil)))) p_none (p_some (sw (d_bin o_add (sw dc_int) (sw (d_callD (ok_law_draw T) hr (by decide) (by rfl) (aas_k (pv 0) (aas_cons dc_int aas_nil)))))))))))
    (s_cons (s_parT (is := [5, 6]) (n := 2) (fun ta h => ps_asg (pe_tup h) (pg_tup rfl (pgs_cons (pg_name (i := 5) sc_law_kept_history.nd rfl (.inr rfl)) (pgs_cons (pg_name (i := 6) sc_law_kept_history.nd rfl (.inl rfl)) pgs_nil)))) (x_o (d_lst das_nil) (x_d (d_cmp (o_eq hr.units) (sw (d_callD (ok_law_draw T) hr (by decide) (by rfl) (aas_k (pv 0) (aas_cons dc_int aas_nil)))) (sw dc_int)) x_nil)) rfl (by decide))
    (s_cons (s_for PassesOwn.never rfl (i_rng1 (by rfl) (T.free 75 rfl) (sw (d_callD (ok_law_pick T) hr (by decide) (by rfl) (aas_k (pv 0) (aas_cons (fd (d_lst (das_cons dc_int (das_cons dc_int (das_cons dc_int (das_cons dc_int das_nil)))))) aas_nil))))) (g_name (pg_name (i := 3) sc_law_kept_history.nd rfl (.inl rfl)))
    (s_one (s_append (i := 5) (ps_expr (pe_bm PySem.F.plainAttrs_list PySem.F.slot_list_append PySem.F.type_list_append mt_append (pv 5) (pa_cons (d_tup (das_cons dc_str (das_cons (d_callD (ok_law_pick T) hr (by decide) (by rfl) (aas_k (pv 0) (aas_cons (dv (pv 2)) aas_nil))) (das_cons (d_callD (ok_law_pick T) hr (by decide) (by rfl) (aas_k (pv 0) (aas_cons (d_ix (sw (dv (pv 1))) (sw dc_int)) aas_nil))) das_nil)))) pa_nil))))))
    (s_cons (s_setLD (a_lc (i := 4) rfl sc_law_kept_history.nd rfl rfl (sw_true rfl rfl rfl (by decide +kernel)) (ij (i_list (dv (pv 2)))) (blkOk_by (own := [("_law_t", 8)]) (by kernel_rfl)) (fun _ _ _ _ _ => (g_name (pg_name (i := 8) sc_law_kept_history.nd rfl (.inr rfl)))) (fun _ _ _ _ _ => (ts_one (d_cmpT (o_ne hr.units) (fw (f_lc rfl sc_law_kept_history.nd (j_own (pv 5)) (blkOk_by (own := [("_law_event", 9)]) (by kernel_rfl)) (fun _ _ _ _ _ => (g_name (pg_name (i := 9) sc_law_kept_history.nd rfl (.inl rfl)))) (fun _ _ _ _ _ => (ts_one (d_cmpT (o_eq hr.units) (sw (d_ix (sw (dv (pv 9))) (sw dc_int))) (sw (dv (pv 8)))))) (fun _ _ _ _ _ => dc_int) (by decide))) (fw (d_lst das_nil))))) (fun _ _ _ _ _ => (dv (pv 8))) (by decide)))
    (s_cons (s_for PassesOwn.never rfl (i_enumL (by rfl) (T.free 74 rfl) (d_callD (ok_law_mixed T) hr (by decide) (by rfl) (aas_k (pv 0) (aas_cons (dv (pv 4)) aas_nil)))) (g_tup (n := 2) rfl (gs_cons (g_name (pg_name (i := 7) sc_law_kept_history.nd rfl (.inl rfl))) (gs_cons (g_name (pg_name (i := 8) sc_law_kept_history.nd rfl (.inl rfl))) gs_nil)))
    (s_one (s_append (i := 5) (ps_expr (pe_bm PySem.F.plainAttrs_list PySem.F.slot_list_append PySem.F.type_list_append mt_append (pv 5) (pa_cons (d_tup (das_cons (d_if (PW.pt (w_and (dt_of (dv (pv 6))) (w_and1 (d_cmpT (o_eq hr.units) (sw (dv (pv 7))) (sw dc_int))))) dc_str dc_str) (das_cons (dv (pv 8)) das_nil))) pa_nil))))))
    (s_one (s_ret (d_tup (das_cons (d_callTy c_tuple (by rfl) (T.free 70 rfl) bt_tuple (was_cons (dvw (pv 5)) was_nil)) (das_cons (dv (pv 4)) das_nil))))))))))
end
end EC
end
/-! ## W10 -/
section

set_option Elab.async false
set_option linter.all false
set_option maxRecDepth 100000
set_option maxHeartbeats 4000000
namespace EC
open PySem PySem.Spec PyProof.Rows L2
section
variable {P : Program} {w : World} {K : PySem.W.Frag} {mg : Str → Option Value} {base : Heap}
theorem sc_fault_at : FnScope ["table", "history", "p", "caught", "edges", "order", "rest"] ["table", "history", "p"] (defScope st_fault_at) := ⟨rfl, rfl, rfl, by decide +kernel, rfl, by decide +kernel, by decide +kernel⟩
def F_fault_at : List Sl → M D := fnS 7 (seqS (setS 3 (call 3 F_caught_pairs (consA (var 0) (consA (var 1) (consA (var 2) nilL)))))
  (seqS (ifS (tst (op2 neS (var 3) (asL (lstE nilL)))) (retS (op2 catT (tupE (consL (con (.str "caught")) nilL)) (op2 ixS (var 3) (con (.int 0))))) skip)
  (seqS (setS 4 (call 3 F_edges_at (consA (var 0) (consA (var 1) (consA (var 2) nilL)))))
  (seqS (asgS (call 1 F_order_at (consA (var 4) nilL)) (tupT 2 (consT (nameT 5) (consT (nameT 6) nilT))))
  (retS (ifE (tst (op2 eqS (var 6) (asL (lstE nilL)))) (con .non) (tupE (consL (con (.str "ring")) (consL (call 2 F_ring_in (consA (var 4) (consA (var 6) nilL))) nilL)))))))))
theorem ok_fault_at (T : Txt K mg) : DefOk P w K mg base "fault_at" 5 3 F_fault_at := by
  obtain ⟨fdd, F⟩ := T.says.def_ 33 (d := df_fault_at) rfl
  refine ⟨⟨fdd, ["table", "history", "p"], fn_ok (N := ["table", "history", "p", "caught", "edges", "order", "rest"]) F sc_fault_at (fun cdv A outer s' H E hr => ?_), FunD.bindsN F fun _ _ _ _ _ _ us hl => match us, hl with | [_, _, _], _ => rfl⟩, T.glo 33 rfl, F.kp⟩
  exact (s_cons (s_set (ps_set (i := 3) sc_fault_at.nd rfl (.inl rfl) (d_callD (ok_caught_pairs T) hr (by decide) (by rfl) (aas_cons (dv (pv 0)) (aas_cons (dv (pv 1)) (aas_cons (dv (pv 2)) aas_nil))))))
    (s_cons (s_if (d_cmpT (o_ne hr.units) (sw (dv (pv 3))) (fw (d_lst das_nil))) (s_one (s_ret (d_bin o_catT (sw (d_tup (das_cons (dc_gstr (by rfl) (T.strg 97 rfl)) das_nil))) (sw (d_ix (sw (dv (pv 3))) (sw dc_int)))))) s_nil)
    (s_cons (s_set (ps_set (i := 4) sc_fault_at.nd rfl (.inl rfl) (d_callD (ok_edges_at T) hr (by decide) (by rfl) (aas_cons (dv (pv 0)) (aas_cons (dv (pv 1)) (aas_cons (dv (pv 2)) aas_nil))))))
    (s_cons (s_asg (d_callD (ok_order_at T) hr (by decide) (by rfl) (aas_cons (dv (pv 4)) aas_nil)) (g_tup (n := 2) rfl (gs_cons (g_name (pg_name (i := 5) sc_fault_at.nd rfl (.inl rfl))) (gs_cons (g_name (pg_name (i := 6) sc_fault_at.nd rfl (.inl rfl))) gs_nil))))
    (s_one (s_ret (d_if (d_cmpT (o_eq hr.units) (sw (dv (pv 6))) (fw (d_lst das_nil))) dc_non (d_tup (das_cons (dc_gstr (by rfl) (T.strg 98 rfl)) (das_cons (d_callD (ok_ring_in T) hr (by decide) (by rfl) (aas_cons (dv (pv 4)) (aas_cons (dv (pv 6)) aas_nil))) das_nil))))))))))
theorem sc_paper_at : FnScope ["table", "history", "p", "fault", "order"] ["table", "history", "p"] (defScope st_paper_at) := ⟨rfl, rfl, rfl, by decide +kernel, rfl, by decide +kernel, by decide +kernel⟩
def F_paper_at : List Sl → M D := fnS 5 (seqS (setS 3 (call 3 F_fault_at (consA (var 0) (consA (var 1) (consA (var 2) nilL)))))
  (seqS (ifS (tst (op2 notNS (var 3) (con .non))) (retS (var 3)) skip)
  never))
theorem ok_paper_at (T : Txt K mg) : DefOk P w K mg base "paper_at" 6 3 F_paper_at := by
  obtain ⟨fdd, F⟩ := T.says.def_ 34 (d := df_paper_at) rfl
  refine ⟨⟨fdd, ["table", "history", "p"], fn_ok (N := ["table", "history", "p", "fault", "order"]) F sc_paper_at (fun cdv A outer s' H E hr => ?_), FunD.bindsN F fun _ _ _ _ _ _ us hl => match us, hl with | [_, _, _], _ => rfl⟩, T.glo 34 rfl, F.kp⟩
  exact (s_cons (s_set (ps_set (i := 3) sc_paper_at.nd rfl (.inl rfl) (d_callD (ok_fault_at T) hr (by decide) (by rfl) (aas_cons (dv (pv 0)) (aas_cons (dv (pv 1)) (aas_cons (dv (pv 2)) aas_nil))))))
    (s_cons (s_if (d_cmpT o_notN (sw (dv (pv 3))) (sw dc_non)) (s_one (s_ret (dv (pv 3)))) s_nil)
    ss_never))
theorem sc_is_ring : FnScope ["table", "history", "p", "thing", "edges", "t", "u"] ["table", "history", "p", "thing"] (defScope st_is_ring) := ⟨rfl, rfl, rfl, by decide +kernel, rfl, by decide +kernel, by decide +kernel⟩
def F_is_ring : List Sl → M D := fnS 7 (seqS (ifS (orT (notT (tst (isS "tuple" (var 3)))) (orT (tst (op2 ltS (app (consL (var 3) nilL) lenS) (con (.int 2)))) (notT (tst (app (consL (asL (lcE [5] (itT (var 3)) (nameT 5) yes (call 1 F_is_count (consA (var 5) nilL)))) nilL) allS))))) (retS (con (.bl false))) skip)
  (seqS (setS 4 (call 3 F_edges_at (consA (var 0) (consA (var 1) (consA (var 2) nilL)))))
  (seqS (ifS (orT (notT (tst (app (consL (asL (lcE [5] (itT (var 3)) (nameT 5) yes (op2 dinS (var 5) (var 4)))) nilL) allS))) (tst (op2 neS (app (consL (dcKE [5] (itT (var 3)) (nameT 5) yes (var 5) (con (.bl true))) nilL) lenS) (app (consL (var 3) nilL) lenS)))) (retS (con (.bl false))) skip)
  (retS (app (consL (asL (lcE [5, 6] (zipT (var 3) (op2 catT (sliT (var 3) (part (con (.int 1))) noPart) (sliT (var 3) noPart (part (con (.int 1)))))) (tupT 2 (consT (nameT 5) (consT (nameT 6) nilT))) yes (op2 inS (var 6) (op2 getS (var 4) (var 5))))) nilL) allS)))))
theorem ok_is_ring (T : Txt K mg) : DefOk P w K mg base "is_ring" 5 4 F_is_ring := by
  obtain ⟨fdd, F⟩ := T.says.def_ 35 (d := df_is_ring) rfl
  refine ⟨⟨fdd, ["table", "history", "p", "thing"], fn_ok (N := ["table", "history", "p", "thing", "edges", "t", "u"]) F sc_is_ring (fun cdv A outer s' H E hr => ?_), FunD.bindsN F fun _ _ _ _ _ _ us hl => match us, hl with | [_, _, _, _], _ => rfl⟩, T.glo 35 rfl, F.kp⟩
  exact (s_cons (s_if (PW.pt (w_or (t_not (dt_of (d_isi (T := "tuple") (sw (dv (pv 3))) (by rfl) (T.free 66 rfl) (by rfl) (T.free 70 rfl) bt_tuple))) (w_or (d_cmpT o_lt (sw (d_callB c_len (by rfl) (T.free 65 rfl) bt_len (was_cons (sw (dv (pv 3))) was_nil))) (sw dc_int)) (w_or1 (t_not (dt_of (d_callB (c_all rfl) (by rfl) (T.free 71 rfl) bt_all (was_cons (fw (f_lc rfl sc_is_ring.nd (ij (i_tup (dv (pv 3)))) (blkOk_by (own := [("t", 5)]) (by kernel_rfl)) (fun _ _ _ _ _ => (g_name (pg_name (i := 5) sc_is_ring.nd rfl (.inl rfl)))) (fun _ _ _ _ _ => ts_nil) (fun _ _ _ _ _ => (d_callD (ok_is_count T) hr (by decide) (by rfl) (aas_cons (dv (pv 5)) aas_nil))) (by decide))) was_nil)))))))) (s_one (s_ret dc_bl)) s_nil)
    (s_cons (s_set (ps_set (i := 4) sc_is_ring.nd rfl (.inr rfl) (d_callD (ok_edges_at T) hr (by decide) (by rfl) (aas_cons (dv (pv 0)) (aas_cons (dv (pv 1)) (aas_cons (dv (pv 2)) aas_nil))))))
    (s_cons (s_if (PW.pt (w_or (t_not (dt_of (d_callB (c_all rfl) (by rfl) (T.free 71 rfl) bt_all (was_cons (fw (f_lc rfl sc_is_ring.nd (ij (i_tup (dv (pv 3)))) (blkOk_by (own := [("t", 5)]) (by kernel_rfl)) (fun _ _ _ _ _ => (g_name (pg_name (i := 5) sc_is_ring.nd rfl (.inl rfl)))) (fun _ _ _ _ _ => ts_nil) (fun _ _ _ _ _ => (d_din (hu_of hr) (sw (dv (pv 5))) (sw (dv (pv 4))))) (by decide))) was_nil)))) (w_or1 (d_cmpT (o_ne hr.units) (sw (d_callB c_len (by rfl) (T.free 65 rfl) bt_len (was_cons (sw (d_dcK rfl sc_is_ring.nd (ij (i_tup (dv (pv 3)))) (blkOk_by (own := [("t", 5)]) (by kernel_rfl)) (fun _ _ _ _ _ => (g_name (pg_name (i := 5) sc_is_ring.nd rfl (.inl rfl)))) (fun _ _ _ _ _ => ts_nil) (fun _ _ _ _ _ => (dv (pv 5))) (fun _ _ _ _ _ => dc_bl) (by decide))) was_nil))) (sw (d_callB c_len (by rfl) (T.free 65 rfl) bt_len (was_cons (sw (dv (pv 3))) was_nil))))))) (s_one (s_ret dc_bl)) s_nil)
    (s_one (s_ret (d_callB (c_all rfl) (by rfl) (T.free 71 rfl) bt_all (was_cons (fw (f_lc rfl sc_is_ring.nd (ij (i_zipT (by rfl) (T.free 73 rfl) (dv (pv 3)) (d_bin o_catT (sw (d_sliT (dv (pv 3)) (p_some (sw dc_int)) p_none)) (sw (d_sliT (dv (pv 3)) p_none (p_some (sw dc_int))))))) (blkOk_by (own := [("t", 5), ("u", 6)]) (by kernel_rfl)) (fun _ _ _ _ _ => (g_tup (n := 2) rfl (gs_cons (g_name (pg_name (i := 5) sc_is_ring.nd rfl (.inl rfl))) (gs_cons (g_name (pg_name (i := 6) sc_is_ring.nd rfl (.inl rfl))) gs_nil)))) (fun _ _ _ _ _ => ts_nil) (fun _ _ _ _ _ => (d_cmp (o_in (hu65 hr)) (sw (dv (pv 6))) (sw (d_get (hu_of hr) (sw (dv (pv 4))) (sw (dv (pv 5))))))) (by decide))) was_nil)))))))
theorem sc_is_fault : FnScope ["table", "history", "p", "thing", "i"] ["table", "history", "p", "thing"] (defScope st_is_fault) := ⟨rfl, rfl, rfl, by decide +kernel, rfl, by decide +kernel, by decide +kernel⟩
def F_is_fault : List Sl → M D := fnS 5 (seqS (ifS (tst (call 3 F_is_paper (consA (var 3) (consA (con (.str "ring")) (consA (con (.int 2)) nilL))))) (retS (call 4 F_is_ring (consA (var 0) (consA (var 1) (consA (var 2) (consA (op2 ixS (var 3) (con (.int 1))) nilL)))))) skip)
  (seqS (ifS (orT (notT (tst (call 3 F_is_paper (consA (var 3) (consA (con (.str "caught")) (consA (con (.int 3)) nilL)))))) (notT (tst (app (consL (asL (lcE [4] (itT (sliT (var 3) (part (con (.int 1))) noPart)) (nameT 4) yes (call 3 F_is_between (consA (var 4) (consA (con (.int 0)) (consA (op2 subS (app (consL (var 1) nilL) lenS) (con (.int 1))) nilL)))))) nilL) allS)))) (retS (con (.bl false))) skip)
  (retS (op2 inS (sliT (var 3) (part (con (.int 1))) noPart) (call 3 F_caught_pairs (consA (var 0) (consA (var 1) (consA (var 2) nilL))))))))
theorem ok_is_fault (T : Txt K mg) : DefOk P w K mg base "is_fault" 6 4 F_is_fault := by
  obtain ⟨fdd, F⟩ := T.says.def_ 36 (d := df_is_fault) rfl
  refine ⟨⟨fdd, ["table", "history", "p", "thing"], fn_ok (N := ["table", "history", "p", "thing", "i"]) F sc_is_fault (fun cdv A outer s' H E hr => ?_), FunD.bindsN F fun _ _ _ _ _ _ us hl => match us, hl with | [_, _, _, _], _ => rfl⟩, T.glo 36 rfl, F.kp⟩
  exact (s_cons (s_if (dt_of (d_callD (ok_is_paper T) hr (by decide) (by rfl) (aas_cons (dv (pv 3)) (aas_cons (dc_gstr (by rfl) (T.strg 98 rfl)) (aas_cons dc_int aas_nil))))) (s_one (s_ret (d_callD (ok_is_ring T) hr (by decide) (by rfl) (aas_cons (dv (pv 0)) (aas_cons (dv (pv 1)) (aas_cons (dv (pv 2)) (aas_cons (d_ix (sw (dv (pv 3))) (sw dc_int)) aas_nil))))))) s_nil)
    (s_cons (s_if (PW.pt (w_or (t_not (dt_of (d_callD (ok_is_paper T) hr (by decide) (by rfl) (aas_cons (dv (pv 3)) (aas_cons (dc_gstr (by rfl) (T.strg 97 rfl)) (aas_cons dc_int aas_nil)))))) (w_or1 (t_not (dt_of (d_callB (c_all rfl) (by rfl) (T.free 71 rfl) bt_all (was_cons (fw (f_lc rfl sc_is_fault.nd (ij (i_tup (d_sliT (dv (pv 3)) (p_some (sw dc_int)) p_none))) (blkOk_by (own := [("i", 4)]) (by kernel_rfl)) (fun _ _ _ _ _ => (g_name (pg_name (i := 4) sc_is_fault.nd rfl (.inl rfl)))) (fun _ _ _ _ _ => ts_nil) (fun _ _ _ _ _ => (d_callD (ok_is_between T) hr (by decide) (by rfl) (aas_cons (dv (pv 4)) (aas_cons dc_int (aas_cons (d_bin o_sub (sw (d_callB c_len (by rfl) (T.free 65 rfl) bt_len (was_cons (sw (dv (pv 1))) was_nil))) (sw dc_int)) aas_nil))))) (by decide))) was_nil))))))) (s_one (s_ret dc_bl)) s_nil)
    (s_one (s_ret (d_cmp (o_in (hu65 hr)) (sw (d_sliT (dv (pv 3)) (p_some (sw dc_int)) p_none)) (sw (d_callD (ok_caught_pairs T) hr (by decide) (by rfl) (aas_cons (dv (pv 0)) (aas_cons (dv (pv 1)) (aas_cons (dv (pv 2)) aas_nil))))))))))
theorem sc_is_paper_at : FnScope ["table", "history", "p", "thing", "order", "t"] ["table", "history", "p", "thing"] (defScope st_is_paper_at) := ⟨rfl, rfl, rfl, by decide +kernel, rfl, by decide +kernel, by decide +kernel⟩
def F_is_paper_at : List Sl → M D := fnS 6 (seqS (ifS (notT (tst (call 3 F_is_paper (consA (var 3) (consA (con (.str "steps")) (consA (con (.int 3)) nilL)))))) (retS (call 4 F_is_fault (consA (var 0) (consA (var 1) (consA (var 2) (consA (var 3) nilL)))))) skip)
  never)
theorem ok_is_paper_at (T : Txt K mg) : DefOk P w K mg base "is_paper_at" 7 4 F_is_paper_at := by
  obtain ⟨fdd, F⟩ := T.says.def_ 37 (d := df_is_paper_at) rfl
  refine ⟨⟨fdd, ["table", "history", "p", "thing"], fn_ok (N := ["table", "history", "p", "thing", "order", "t"]) F sc_is_paper_at (fun cdv A outer s' H E hr => ?_), FunD.bindsN F fun _ _ _ _ _ _ us hl => match us, hl with | [_, _, _, _], _ => rfl⟩, T.glo 37 rfl, F.kp⟩
  exact (s_cons (s_if (t_not (dt_of (d_callD (ok_is_paper T) hr (by decide) (by rfl) (aas_cons (dv (pv 3)) (aas_cons (dc_gstr (by rfl) (T.strg 96 rfl)) (aas_cons dc_int aas_nil)))))) (s_one (s_ret (d_callD (ok_is_fault T) hr (by decide) (by rfl) (aas_cons (dv (pv 0)) (aas_cons (dv (pv 1)) (aas_cons (dv (pv 2)) (aas_cons (dv (pv 3)) aas_nil))))))) s_nil)
    ss_never)
theorem sc_judge_cut : FnScope ["table", "history", "p"] ["table", "history", "p"] (defScope st_judge_cut) := ⟨rfl, rfl, rfl, by decide +kernel, rfl, by decide +kernel, by decide +kernel⟩
def F_judge_cut : List Sl → M D := fnS 3 (seqS (expS (call 3 F_need_cut (consA (var 0) (consA (var 1) (consA (var 2) nilL)))))
  (retS (call 3 F_paper_at (consA (var 0) (consA (var 1) (consA (var 2) nilL))))))
theorem ok_judge_cut (T : Txt K mg) : DefOk P w K mg base "judge_cut" 8 3 F_judge_cut := by
  obtain ⟨fdd, F⟩ := T.says.def_ 38 (d := df_judge_cut) rfl
  refine ⟨⟨fdd, ["table", "history", "p"], fn_ok (N := ["table", "history", "p"]) F sc_judge_cut (fun cdv A outer s' H E hr => ?_), FunD.bindsN F fun _ _ _ _ _ _ us hl => match us, hl with | [_, _, _], _ => rfl⟩, T.glo 38 rfl, F.kp⟩
  exact (s_cons (s_exp (d_callD (ok_need_cut T) hr (by decide) (by rfl) (aas_cons (dv (pv 0)) (aas_cons (dv (pv 1)) (aas_cons (dv (pv 2)) aas_nil)))))
    (s_one (s_ret (d_callD (ok_paper_at T) hr (by decide) (by rfl) (aas_cons (dv (pv 0)) (aas_cons (dv (pv 1)) (aas_cons (dv (pv 2)) aas_nil)))))))
theorem sc_cut_holds : FnScope ["table", "history", "p", "thing"] ["table", "history", "p", "thing"] (defScope st_cut_holds) := ⟨rfl, rfl, rfl, by decide +kernel, rfl, by decide +kernel, by decide +kernel⟩
def F_cut_holds : List Sl → M D := fnS 4 (seqS (expS (call 3 F_need_cut (consA (var 0) (consA (var 1) (consA (var 2) nilL)))))
  (retS (call 4 F_is_paper_at (consA (var 0) (consA (var 1) (consA (var 2) (consA (var 3) nilL)))))))
theorem ok_cut_holds (T : Txt K mg) : DefOk P w K mg base "cut_holds" 8 4 F_cut_holds := by
  obtain ⟨fdd, F⟩ := T.says.def_ 39 (d := df_cut_holds) rfl
  refine ⟨⟨fdd, ["table", "history", "p", "thing"], fn_ok (N := ["table", "history", "p", "thing"]) F sc_cut_holds (fun cdv A outer s' H E hr => ?_), FunD.bindsN F fun _ _ _ _ _ _ us hl => match us, hl with | [_, _, _, _], _ => rfl⟩, T.glo 39 rfl, F.kp⟩
  exact (s_cons (s_exp (d_callD (ok_need_cut T) hr (by decide) (by rfl) (aas_cons (dv (pv 0)) (aas_cons (dv (pv 1)) (aas_cons (dv (pv 2)) aas_nil)))))
    (s_one (s_ret (d_callD (ok_is_paper_at T) hr (by decide) (by rfl) (aas_cons (dv (pv 0)) (aas_cons (dv (pv 1)) (aas_cons (dv (pv 2)) (aas_cons (dv (pv 3)) aas_nil))))))))
theorem okK_cut_holds (T : Txt K mg) : DefKOk P w K mg base "cut_holds" ["thing", "p", "history", "table"] 8 4 F_cut_holds := by
  obtain ⟨fdd, F⟩ := T.says.def_ 39 (d := df_cut_holds) rfl
  refine ⟨⟨fdd, ["table", "history", "p", "thing"], fn_ok (N := ["table", "history", "p", "thing"]) F sc_cut_holds (fun cdv A outer s' H E hr => ?_), krev_fun F fun _ _ _ _ _ _ us ws hl => ?_⟩, T.glo 39 rfl, F.kp⟩
  · exact (s_cons (s_exp (d_callD (ok_need_cut T) hr (by decide) (by rfl) (aas_cons (dv (pv 0)) (aas_cons (dv (pv 1)) (aas_cons (dv (pv 2)) aas_nil)))))
    (s_one (s_ret (d_callD (ok_is_paper_at T) hr (by decide) (by rfl) (aas_cons (dv (pv 0)) (aas_cons (dv (pv 1)) (aas_cons (dv (pv 2)) (aas_cons (dv (pv 3)) aas_nil))))))))
  · refine krev4 us ws hl (fun us ws => bindArgs (PySem.W.fnOf _ _ _ _ _ .none _ _ _ _ _ _) ⟨us, (["thing", "p", "history", "table"] : List Str).zip ws⟩ = pure ((["table", "history", "p", "thing"] : List Str).zip (us ++ ws.reverse))) rfl (fun _ _ _ _ => ?_)
    exact ⟨rfl, rfl, rfl, rfl, rfl⟩
theorem sc_is_right_at : FnScope ["table", "history", "p"] ["table", "history", "p"] (defScope st_is_right_at) := ⟨rfl, rfl, rfl, by decide +kernel, rfl, by decide +kernel, by decide +kernel⟩
def F_is_right_at : List Sl → M D := fnS 3 (seqS (expS (call 3 F_need_cut (consA (var 0) (consA (var 1) (consA (var 2) nilL)))))
  (retS (op2 isNS (call 3 F_fault_at (consA (var 0) (consA (var 1) (consA (var 2) nilL)))) (con .non))))
theorem ok_is_right_at (T : Txt K mg) : DefOk P w K mg base "is_right_at" 8 3 F_is_right_at := by
  obtain ⟨fdd, F⟩ := T.says.def_ 40 (d := df_is_right_at) rfl
  refine ⟨⟨fdd, ["table", "history", "p"], fn_ok (N := ["table", "history", "p"]) F sc_is_right_at (fun cdv A outer s' H E hr => ?_), FunD.bindsN F fun _ _ _ _ _ _ us hl => match us, hl with | [_, _, _], _ => rfl⟩, T.glo 40 rfl, F.kp⟩
  exact (s_cons (s_exp (d_callD (ok_need_cut T) hr (by decide) (by rfl) (aas_cons (dv (pv 0)) (aas_cons (dv (pv 1)) (aas_cons (dv (pv 2)) aas_nil)))))
    (s_one (s_ret (d_cmp o_isN (sw (d_callD (ok_fault_at T) hr (by decide) (by rfl) (aas_cons (dv (pv 0)) (aas_cons (dv (pv 1)) (aas_cons (dv (pv 2)) aas_nil))))) (sw dc_non)))))
theorem okK_is_right_at (T : Txt K mg) : DefKOk P w K mg base "is_right_at" ["p", "history", "table"] 8 3 F_is_right_at := by
  obtain ⟨fdd, F⟩ := T.says.def_ 40 (d := df_is_right_at) rfl
  refine ⟨⟨fdd, ["table", "history", "p"], fn_ok (N := ["table", "history", "p"]) F sc_is_right_at (fun cdv A outer s' H E hr => ?_), krev_fun F fun _ _ _ _ _ _ us ws hl => ?_⟩, T.glo 40 rfl, F.kp⟩
  · exact (s_cons (s_exp (d_callD (ok_need_cut T) hr (by decide) (by rfl) (aas_cons (dv (pv 0)) (aas_cons (dv (pv 1)) (aas_cons (dv (pv 2)) aas_nil)))))
    (s_one (s_ret (d_cmp o_isN (sw (d_callD (ok_fault_at T) hr (by decide) (by rfl) (aas_cons (dv (pv 0)) (aas_cons (dv (pv 1)) (aas_cons (dv (pv 2)) aas_nil))))) (sw dc_non)))))
  · refine krev3 us ws hl (fun us ws => bindArgs (PySem.W.fnOf _ _ _ _ _ .none _ _ _ _ _ _) ⟨us, (["p", "history", "table"] : List Str).zip ws⟩ = pure ((["table", "history", "p"] : List Str).zip (us ++ ws.reverse))) rfl (fun _ _ _ => ?_)
    exact ⟨rfl, rfl, rfl, rfl⟩
end
end EC
end
/-! ## W11 -/
section

set_option Elab.async false
set_option linter.all false
set_option maxRecDepth 100000
set_option maxHeartbeats 4000000
namespace EC
open PySem PySem.Spec PyProof.Rows L2
section
variable {P : Program} {w : World} {K : PySem.W.Frag} {mg : Str → Option Value} {base : Heap}
theorem sc_law : FnScope ["_law_script", "_law_deck", "_law_turn", "_law_table", "_law_book", "_law_p", "_law_rings", "_law_some", "_law_go", "_law_row", "_law_order", "_law_told", "_law_history", "_law_names", "_law_word", "_law_kept", "_law_due", "_law_ring"] ["_law_script"] (defScope st_law) := ⟨rfl, rfl, rfl, by decide +kernel, rfl, by decide +kernel, by decide +kernel⟩
def rhoL : Rho := [.no, .k, .no, .no, .no, .no, .no, .no, .no, .no, .no, .no, .no, .no, .no, .no, .no, .no]
def F_law : Rho → M Res := (seqS (forS (rng1 (con (.int 2))) (nameT 2)
  (seqS (setS 3 (call 1 F_law_any_table (consK 1 nilL)))
  (seqS (setS 3 (ifE (tst (op2 neS (op2 ixS (var 3) (con (.int 0))) (tupE nilL))) (var 3) (tupE (consL (tupE (consL (con (.str "a")) nilL)) (consL (tupE (consL (tupE (consL (con (.str "a")) (consL (con (.str "a")) nilL))) nilL)) nilL)))))
  (seqS (asgS (call 2 F_law_kept_history (consK 1 (consA (var 3) nilL))) (tupT 2 (consT (nameT 12) (consT (nameT 13) nilT))))
  (seqS (ifS (andT (tst (op2 eqS (var 2) (con (.int 1)))) (tst (op2 eqS (call 2 F_law_draw (consK 1 (consA (con (.int 2)) nilL))) (con (.int 0))))) (asgS (call 1 F_law_one_way (consK 1 nilL)) (tupT 3 (consT (nameT 3) (consT (nameT 12) (consT (nameT 13) nilT))))) skip)
  (seqS (setS 4 (call 2 F_law_read_book (consA (var 3) (consA (var 12) nilL))))
  (seqS (setS 5 (ifE (tst (op2 gtS (call 2 F_law_draw (consK 1 (consA (con (.int 3)) nilL))) (con (.int 0)))) (app (consL (var 12) nilL) lenS) (op2 subS (app (consL (var 12) nilL) lenS) (call 2 F_law_draw (consK 1 (consA (con (.int 3)) nilL))))))
  (seqS (asgS (call 2 F_law_cut_word (consA (var 12) (consA (var 5) nilL))) (tupT 2 (consT (nameT 14) (consT (nameT 15) nilT))))
  (seqS (setS 6 (call 3 F_law_own_rings (consA (var 4) (consA (var 12) (consA (var 5) nilL)))))
  (seqS (setO 7 (lcE [17] (itL (asL (sliL (call 2 F_law_mixed (consK 1 (consA (var 6) nilL))) noPart (part (con (.int 3)))))) (nameT 17) yes (op2 ixS (var 17) (con (.int 1)))))
  (seqS (forS (rng1 (con (.int 6))) (nameT 8)
  (appS 7 (app (consL (asL (sliL (call 2 F_law_mixed (consK 1 (consA (asL (catE (var 13) (asL (lstE (consL (con (.int 99)) nilL))))) nilL))) noPart (part (op2 addS (con (.int 2)) (call 2 F_law_draw (consK 1 (consA (con (.int 2)) nilL))))))) nilL) tupS)))
  (seqS (extS 7 (asL (catE (asL (lstE (consL (tupE (consL (op2 ixS (var 13) (con (.int 0))) nilL)) (consL (tupE nilL) (consL (tupE (consL (op2 ixS (var 13) (con (.int 0))) (consL (op2 ixS (var 13) (negE (con (.int 1)))) (consL (op2 ixS (var 13) (con (.int 0))) nilL)))) nilL))))) (asL (lcE [9] (itL (asL (sliL (varW 7) noPart (part (con (.int 1)))))) (nameT 9) yes (op2 catT (var 9) (sliT (var 9) noPart (part (con (.int 1))))))))))
  (seqS (extS 7 (asL (lstE (consL (app (consL (var 13) nilL) tupS) (consL (app (consL (asL (revL (var 13))) nilL) tupS) nilL)))))
  (seqS (extS 7 (asL (lcE [17] (itL (asL (sliL (var 6) noPart (part (con (.int 1)))))) (nameT 17) yes (op2 repT (op2 ixS (var 17) (con (.int 1))) (con (.int 2))))))
  (seqS (give 7 (forS (itL (var 7)) (nameT 9)
  (seqS (setS 16 (call 4 F_law_is_ring (consA (var 4) (consA (var 5) (consA (var 15) (consA (tupE (consL (con (.str "ring")) (consL (var 9) nilL))) nilL))))))
  (seqS (ifS (tst (op2 eqS (var 2) (con (.int 0)))) (setS 11 (call 4 F_cut_holds (consA (var 3) (consA (var 12) (consA (var 5) (consA (tupE (consL (con (.str "ring")) (consL (var 9) nilL))) nilL)))))) (setS 11 (callR 4 F_cut_holds (consA (tupE (consL (con (.str "ring")) (consL (var 9) nilL))) (consA (var 5) (consA (var 12) (consA (var 3) nilL)))))))
  (ifS (tst (op2 neS (app (consL (var 11) nilL) reprS) (app (consL (var 16) nilL) reprS))) (retS (con (.bl false))) skip)))))
  (seqS (setS 10 (call 3 F_law_right_order (consA (var 4) (consA (var 12) (consA (var 5) nilL)))))
  (seqS (ifS (andT (tst (op2 isNS (var 10) (con .non))) (notT (tst (call 4 F_law_is_against (consA (var 4) (consA (var 12) (consA (var 5) (consA (call 3 F_judge_cut (consA (var 3) (consA (var 12) (consA (var 5) nilL)))) nilL)))))))) (retS (con (.bl false))) skip)
  (seqS (setS 11 (ifE (tst (op2 eqS (var 2) (con (.int 0)))) (call 3 F_is_right_at (consA (var 3) (consA (var 12) (consA (var 5) nilL)))) (callR 3 F_is_right_at (consA (var 5) (consA (var 12) (consA (var 3) nilL))))))
  (ifS (orT (andT (tst (op2 neS (var 6) (asL (lstE nilL)))) (tst (op2 isNotB (var 11) (con (.bl false))))) (andT (tst (op2 eqS (app (consL (var 15) nilL) lenS) (app (consL (var 13) nilL) lenS))) (tst (op2 neS (app (consL (var 11) nilL) reprS) (app (consL (op2 notNS (var 10) (con .non)) nilL) reprS))))) (retS (con (.bl false))) skip)))))))))))))))))))
  (retS (con (.bl true))))
theorem body_law (T : Txt K mg) {cdv : Value} {A : Around} {outer : List Env} {s' : Shared} {H : Hp} {E : XK} (hr : Room 8 (A.deeper (envOfC "law" (defScope st_law) s'.heap.objs.size (He.ga K "law") cdv)))
    {f1 : FuncData} {p1 : List Str} (G : FnOk P w K mg base CX0 1 (He.ga K "_law_dealt") f1 p1 (spDeal K)) (b : Binds K f1 p1 []) (kp : PySem.W.keepIn K (.ref (He.ga K "_law_dealt")) = true) :
    PSs (cxOf CX0 P w K mg base ["_law_script", "_law_deck", "_law_turn", "_law_table", "_law_book", "_law_p", "_law_rings", "_law_some", "_law_go", "_law_row", "_law_order", "_law_told", "_law_history", "_law_names", "_law_word", "_law_kept", "_law_due", "_law_ring"] "law" (defScope st_law) (He.ga K "law") cdv A outer s' H E).nox (defBody st_law) (tSeq (tAsg (tCall (spDeal K) [] E0 (tCons (tVar 0) tNil)) (gName 1)) (tS F_law)) := by
  refine pss_cons (ps_set (i := 1) sc_law.nd rfl (.inl rfl) (pe_call (E := E0) G (hr.mono (by decide)) (by rfl) (T.glo 41 rfl) kp b .nil pass0 (pa_cons (pv 0) pa_nil))) ?_
  exact (s_cons (s_for PassesOwn.never rfl (i_rng1 (by rfl) (T.free 75 rfl) (sw dc_int)) (g_name (pg_name (i := 2) sc_law.nd rfl (.inl rfl)))
    (s_cons (s_set (ps_set (i := 3) sc_law.nd rfl (.inl rfl) (d_callD (ok_law_any_table T) hr (by decide) (by rfl) (aas_k (pv 1) aas_nil))))
    (s_cons (s_set (ps_set (i := 3) sc_law.nd rfl (.inl rfl) (d_if (d_cmpT (o_ne hr.units) (sw (d_ix (sw (dv (pv 3))) (sw dc_int))) (sw (d_tup das_nil))) (dv (pv 3)) (d_tup (das_cons (d_tup (das_cons dc_str das_nil)) (das_cons (d_tup (das_cons (d_tup (das_cons dc_str (das_cons dc_str das_nil))) das_nil)) das_nil))))))
    (s_cons (s_asg (d_callD (ok_law_kept_history T) hr (by decide) (by rfl) (aas_k (pv 1) (aas_cons (dv (pv 3)) aas_nil))) (g_tup (n := 2) rfl (gs_cons (g_name (pg_name (i := 12) sc_law.nd rfl (.inl rfl))) (gs_cons (g_name (pg_name (i := 13) sc_law.nd rfl (.inl rfl))) gs_nil))))
    (s_cons (s_if (PW.pt (w_and (d_cmpT (o_eq hr.units) (sw (dv (pv 2))) (sw dc_int)) (w_and1 (d_cmpT (o_eq hr.units) (sw (d_callD (ok_law_draw T) hr (by decide) (by rfl) (aas_k (pv 1) (aas_cons dc_int aas_nil)))) (sw dc_int))))) (s_one (s_asg (d_callD (ok_law_one_way T) hr (by decide) (by rfl) (aas_k (pv 1) aas_nil)) (g_tup (n := 3) rfl (gs_cons (g_name (pg_name (i := 3) sc_law.nd rfl (.inl rfl))) (gs_cons (g_name (pg_name (i := 12) sc_law.nd rfl (.inl rfl))) (gs_cons (g_name (pg_name (i := 13) sc_law.nd rfl (.inl rfl))) gs_nil)))))) s_nil)
    (s_cons (s_set (ps_set (i := 4) sc_law.nd rfl (.inl rfl) (d_callD (ok_law_read_book T) hr (by decide) (by rfl) (aas_cons (dv (pv 3)) (aas_cons (dv (pv 12)) aas_nil)))))
    (s_cons (s_set (ps_set (i := 5) sc_law.nd rfl (.inl rfl) (d_if (d_cmpT o_gt (sw (d_callD (ok_law_draw T) hr (by decide) (by rfl) (aas_k (pv 1) (aas_cons dc_int aas_nil)))) (sw dc_int)) (d_callB c_len (by rfl) (T.free 65 rfl) bt_len (was_cons (sw (dv (pv 12))) was_nil)) (d_bin o_sub (sw (d_callB c_len (by rfl) (T.free 65 rfl) bt_len (was_cons (sw (dv (pv 12))) was_nil))) (sw (d_callD (ok_law_draw T) hr (by decide) (by rfl) (aas_k (pv 1) (aas_cons dc_int aas_nil))))))))
    (s_cons (s_asg (d_callD (ok_law_cut_word T) hr (by decide) (by rfl) (aas_cons (dv (pv 12)) (aas_cons (dv (pv 5)) aas_nil))) (g_tup (n := 2) rfl (gs_cons (g_name (pg_name (i := 14) sc_law.nd rfl (.inl rfl))) (gs_cons (g_name (pg_name (i := 15) sc_law.nd rfl (.inl rfl))) gs_nil))))
    (s_cons (s_set (ps_set (i := 6) sc_law.nd rfl (.inl rfl) (d_callD (ok_law_own_rings T) hr (by decide) (by rfl) (aas_cons (dv (pv 4)) (aas_cons (dv (pv 12)) (aas_cons (dv (pv 5)) aas_nil))))))
    (s_cons (s_setLO (a_lc (i := 7) rfl sc_law.nd rfl rfl (sw_true rfl rfl rfl (by decide +kernel)) (ij (i_list (fd (d_sliL (sw (d_callD (ok_law_mixed T) hr (by decide) (by rfl) (aas_k (pv 1) (aas_cons (dv (pv 6)) aas_nil)))) p_none (p_some (sw dc_int)))))) (blkOk_by (own := [("_law_ring", 17)]) (by kernel_rfl)) (fun _ _ _ _ _ => (g_name (pg_name (i := 17) sc_law.nd rfl (.inl rfl)))) (fun _ _ _ _ _ => ts_nil) (fun _ _ _ _ _ => (d_ix (sw (dv (pv 17))) (sw dc_int))) (by decide)))
    (s_cons (s_for PassesOwn.never rfl (i_rng1 (by rfl) (T.free 75 rfl) (sw dc_int)) (g_name (pg_name (i := 8) sc_law.nd rfl (.inl rfl)))
    (s_one (s_append (i := 7) (ps_expr (pe_bm PySem.F.plainAttrs_list PySem.F.slot_list_append PySem.F.type_list_append mt_append (pv 7) (pa_cons (d_callTy c_tuple (by rfl) (T.free 70 rfl) bt_tuple (was_cons (fw (d_sliL (sw (d_callD (ok_law_mixed T) hr (by decide) (by rfl) (aas_k (pv 1) (aas_cons (fd (f_cat (sw (dv (pv 13))) (fw (d_lst (das_cons dc_int das_nil))))) aas_nil)))) p_none (p_some (sw (d_bin o_add (sw dc_int) (sw (d_callD (ok_law_draw T) hr (by decide) (by rfl) (aas_k (pv 1) (aas_cons dc_int aas_nil))))))))) was_nil)) pa_nil))))))
    (s_cons (s_extend (i := 7) (ps_expr (pe_bm PySem.F.plainAttrs_list PySem.F.slot_list_extend PySem.F.type_list_extend mt_extend (pv 7) (pa_cons (fw (f_cat (fw (d_lst (das_cons (d_tup (das_cons (d_ix (sw (dv (pv 13))) (sw dc_int)) das_nil)) (das_cons (d_tup das_nil) (das_cons (d_tup (das_cons (d_ix (sw (dv (pv 13))) (sw dc_int)) (das_cons (d_ix (sw (dv (pv 13))) (sw (d_neg (sw dc_int)))) (das_cons (d_ix (sw (dv (pv 13))) (sw dc_int)) das_nil)))) das_nil))))) (fw (f_lc rfl sc_law.nd (ij (i_list (fd (d_sliL (dvw (pv 7)) p_none (p_some (sw dc_int)))))) (blkOk_by (own := [("_law_row", 9)]) (by kernel_rfl)) (fun _ _ _ _ _ => (g_name (pg_name (i := 9) sc_law.nd rfl (.inl rfl)))) (fun _ _ _ _ _ => ts_nil) (fun _ _ _ _ _ => (d_bin o_catT (sw (dv (pv 9))) (sw (d_sliT (dv (pv 9)) p_none (p_some (sw dc_int)))))) (by decide))))) pa_nil))))
    (s_cons (s_extend (i := 7) (ps_expr (pe_bm PySem.F.plainAttrs_list PySem.F.slot_list_extend PySem.F.type_list_extend mt_extend (pv 7) (pa_cons (fw (d_lst (das_cons (d_callTy c_tuple (by rfl) (T.free 70 rfl) bt_tuple (was_cons (sw (dv (pv 13))) was_nil)) (das_cons (d_callTy c_tuple (by rfl) (T.free 70 rfl) bt_tuple (was_cons (fw (d_revL (sw (dv (pv 13))))) was_nil)) das_nil)))) pa_nil))))
    (s_cons (s_extend (i := 7) (ps_expr (pe_bm PySem.F.plainAttrs_list PySem.F.slot_list_extend PySem.F.type_list_extend mt_extend (pv 7) (pa_cons (fw (f_lc rfl sc_law.nd (ij (i_list (fd (d_sliL (sw (dv (pv 6))) p_none (p_some (sw dc_int)))))) (blkOk_by (own := [("_law_ring", 17)]) (by kernel_rfl)) (fun _ _ _ _ _ => (g_name (pg_name (i := 17) sc_law.nd rfl (.inl rfl)))) (fun _ _ _ _ _ => ts_nil) (fun _ _ _ _ _ => (d_bin o_repT (sw (d_ix (sw (dv (pv 17))) (sw dc_int))) (sw dc_int))) (by decide))) pa_nil))))
    (s_cons (s_give 7 (s_for PassesOwn.never rfl (i_list (dv (pv 7))) (g_name (pg_name (i := 9) sc_law.nd rfl (.inl rfl)))
    (s_cons (s_set (ps_set (i := 16) sc_law.nd rfl (.inl rfl) (d_callD (ok_law_is_ring T) hr (by decide) (by rfl) (aas_cons (dv (pv 4)) (aas_cons (dv (pv 5)) (aas_cons (dv (pv 15)) (aas_cons (d_tup (das_cons dc_str (das_cons (dv (pv 9)) das_nil))) aas_nil)))))))
    (s_cons (s_if (d_cmpT (o_eq hr.units) (sw (dv (pv 2))) (sw dc_int)) (s_one (s_set (ps_set (i := 11) sc_law.nd rfl (.inl rfl) (d_callD (ok_cut_holds T) hr (by decide) (by rfl) (aas_cons (dv (pv 3)) (aas_cons (dv (pv 12)) (aas_cons (dv (pv 5)) (aas_cons (d_tup (das_cons dc_str (das_cons (dv (pv 9)) das_nil))) aas_nil)))))))) (s_one (s_set (ps_set (i := 11) sc_law.nd rfl (.inl rfl) (d_callKW (okK_cut_holds T) hr (by decide) (by rfl) (kas_cons (d_tup (das_cons dc_str (das_cons (dv (pv 9)) das_nil))) (kas_cons (dv (pv 5)) (kas_cons (dv (pv 12)) (kas_cons (dv (pv 3)) kas_nil)))))))))
    (s_one (s_if (d_cmpT (o_ne hr.units) (sw (d_callB c_repr (by rfl) (T.free 81 rfl) bt_repr (was_cons (sw (dv (pv 11))) was_nil))) (sw (d_callB c_repr (by rfl) (T.free 81 rfl) bt_repr (was_cons (sw (dv (pv 16))) was_nil)))) (s_one (s_ret dc_bl)) s_nil))))))
    (s_cons (s_set (ps_set (i := 10) sc_law.nd rfl (.inl rfl) (d_callD (ok_law_right_order T) hr (by decide) (by rfl) (aas_cons (dv (pv 4)) (aas_cons (dv (pv 12)) (aas_cons (dv (pv 5)) aas_nil))))))
    (s_cons (s_if (PW.pt (w_and (d_cmpT o_isN (sw (dv (pv 10))) (sw dc_non)) (w_and1 (t_not (dt_of (d_callD (ok_law_is_against T) hr (by decide) (by rfl) (aas_cons (dv (pv 4)) (aas_cons (dv (pv 12)) (aas_cons (dv (pv 5)) (aas_cons (d_callD (ok_judge_cut T) hr (by decide) (by rfl) (aas_cons (dv (pv 3)) (aas_cons (dv (pv 12)) (aas_cons (dv (pv 5)) aas_nil)))) aas_nil)))))))))) (s_one (s_ret dc_bl)) s_nil)
    (s_cons (s_set (ps_set (i := 11) sc_law.nd rfl (.inl rfl) (d_if (d_cmpT (o_eq hr.units) (sw (dv (pv 2))) (sw dc_int)) (d_callD (ok_is_right_at T) hr (by decide) (by rfl) (aas_cons (dv (pv 3)) (aas_cons (dv (pv 12)) (aas_cons (dv (pv 5)) aas_nil)))) (d_callKW (okK_is_right_at T) hr (by decide) (by rfl) (kas_cons (dv (pv 5)) (kas_cons (dv (pv 12)) (kas_cons (dv (pv 3)) kas_nil)))))))
    (s_one (s_if (PW.pt (w_or (PW.pt (w_and (d_cmpT (o_ne hr.units) (sw (dv (pv 6))) (fw (d_lst das_nil))) (w_and1 (d_cmpT o_notB (sw (dv (pv 11))) (sw dc_bl))))) (w_or1 (PW.pt (w_and (d_cmpT (o_eq hr.units) (sw (d_callB c_len (by rfl) (T.free 65 rfl) bt_len (was_cons (sw (dv (pv 15))) was_nil))) (sw (d_callB c_len (by rfl) (T.free 65 rfl) bt_len (was_cons (sw (dv (pv 13))) was_nil)))) (w_and1 (d_cmpT (o_ne hr.units) (sw (d_callB c_repr (by rfl) (T.free 81 rfl) bt_repr (was_cons (sw (dv (pv 11))) was_nil))) (sw (d_callB c_repr (by rfl) (T.free 81 rfl) bt_repr (was_cons (sw (d_cmp o_notN (sw (dv (pv 10))) (sw dc_non))) was_nil)))))))))) (s_one (s_ret dc_bl)) s_nil))))))))))))))))))))
    (s_one (s_ret dc_bl)))
end
end EC
end
/-! ## W12 -/
section
set_option Elab.async false
set_option linter.all false
set_option maxRecDepth 100000
set_option maxHeartbeats 4000000
namespace EC
open PySem PySem.Spec PyProof.Rows L2
section
variable {P : Program} {w : World} {K : PySem.W.Frag} {mg : Str → Option Value} {base : Heap}
def spLaw (K : PySem.W.Frag) : Sp := fun vs H Q _ => ∃ (a : Addr) (ns : List Int), vs = [.ref a] ∧ SqL K H a (ns.map V.int) ∧ ns.length ≤ 63 ∧ ∀ H', Q (.bl true) H'
abbrev LawGood : Prop := F_law rhoL (fun r => r = .rt (.bl true))
theorem ok_law (good : LawGood) (T : Txt K mg) {fdd : FuncData} (F : FnP K "law" st_law (He.ga K "law") fdd) : FnOk P w K mg base CX0 9 (He.ga K "law") fdd ["_law_script"] (spLaw K) := by
  obtain ⟨f1, p1, G, b⟩ := ok_law_dealt (P := P) (w := w) (base := base) T
  obtain ⟨fd1, F1⟩ := T.says.def_ 41 (d := df__law_dealt) rfl
  refine F.ok sc_law (fun vs H Q E h => ?_) (fun cdv A outer s' H vs Q E hr h => ⟨_, PSs.nox (body_law T hr G b F1.kp), ?_⟩)
  · obtain ⟨a, ns, rfl, _⟩ := h; rfl
  obtain ⟨a, ns, rfl, hq, hn, kk⟩ := h
  refine ⟨_, rfl, a, ns, rfl, hq, hn, fun d l H1 hd hl keep deck => ?_⟩
  refine ⟨⟨some (d, l), fun _ => none, H1, fun _ => none, rhoL⟩, _, ?_, good, ?_⟩
  · refine ⟨Grow.refl (fun _ _ q => nomatch q) (fun p hp => ?_), fun i x h => ?_, fun i xs h => ?_, fun i j xs ys l' _ h _ _ _ => ?_, fun i h => ?_, rfl⟩
    · cases hp; exact ⟨rfl, rfl, deck⟩
    · have : i < 18 := lt_of_get h
      exfalso
      match i, this, h with
      | 0, _, h => cases h
      | 1, _, h => cases h
      | 2, _, h => cases h
      | 3, _, h => cases h
      | 4, _, h => cases h
      | 5, _, h => cases h
      | 6, _, h => cases h
      | 7, _, h => cases h
      | 8, _, h => cases h
      | 9, _, h => cases h
      | 10, _, h => cases h
      | 11, _, h => cases h
      | 12, _, h => cases h
      | 13, _, h => cases h
      | 14, _, h => cases h
      | 15, _, h => cases h
      | 16, _, h => cases h
      | 17, _, h => cases h
    · have : i < 18 := lt_of_get h
      exfalso
      match i, this, h with
      | 0, _, h => cases h
      | 1, _, h => cases h
      | 2, _, h => cases h
      | 3, _, h => cases h
      | 4, _, h => cases h
      | 5, _, h => cases h
      | 6, _, h => cases h
      | 7, _, h => cases h
      | 8, _, h => cases h
      | 9, _, h => cases h
      | 10, _, h => cases h
      | 11, _, h => cases h
      | 12, _, h => cases h
      | 13, _, h => cases h
      | 14, _, h => cases h
      | 15, _, h => cases h
      | 16, _, h => cases h
      | 17, _, h => cases h
    · have : i < 18 := lt_of_get h
      exfalso
      match i, this, h with
      | 0, _, h => cases h
      | 1, _, h => cases h
      | 2, _, h => cases h
      | 3, _, h => cases h
      | 4, _, h => cases h
      | 5, _, h => cases h
      | 6, _, h => cases h
      | 7, _, h => cases h
      | 8, _, h => cases h
      | 9, _, h => cases h
      | 10, _, h => cases h
      | 11, _, h => cases h
      | 12, _, h => cases h
      | 13, _, h => cases h
      | 14, _, h => cases h
      | 15, _, h => cases h
      | 16, _, h => cases h
      | 17, _, h => cases h
    · have : i < 18 := lt_of_get h
      match i, this, h with
      | 0, _, h => cases h
      | 1, _, h => exact ⟨(d, l), rfl, rfl⟩
      | 2, _, h => cases h
      | 3, _, h => cases h
      | 4, _, h => cases h
      | 5, _, h => cases h
      | 6, _, h => cases h
      | 7, _, h => cases h
      | 8, _, h => cases h
      | 9, _, h => cases h
      | 10, _, h => cases h
      | 11, _, h => cases h
      | 12, _, h => cases h
      | 13, _, h => cases h
      | 14, _, h => cases h
      | 15, _, h => cases h
      | 16, _, h => cases h
      | 17, _, h => cases h
  · refine ⟨fun ρ' p => (nomatch p), fun ρ' p => (nomatch p), fun ρ' p => (nomatch p), fun x p v B' H' _ r => ?_⟩
    cases p
    rw [show v = V.bl true from r]
    exact kk H'
end
theorem facts (good : LawGood) {P : Program} {w : World} {K : PySem.W.Frag} {h : Heap} {mg : Str → Option Value} {f : Addr} (X : K.In h) (G : h.Ns mainGlobals mg) (hfa : mg ("law" : Str) = some (.ref f)) (c : He.SaysD faAll fnAll K) :
    ∃ fd : FuncData, (∀ (s : Shared) (v : Value), BindsTo s fd ⟨[v], []⟩ [("_law_script", v)]) ∧ ∀ base : Heap, K.In base → base.Ns mainGlobals mg → FnOk P w K mg base CX0 9 f fd ["_law_script"] (spLaw K) := by
  have T : Txt K mg := ⟨c, h, X, G⟩
  obtain ⟨fd, F⟩ := c.def_ 64 (d := df_law) rfl
  have e := hfa.symm.trans (T.glo 64 rfl)
  cases e
  have b := FunD.bindsA (ps := ["_law_script"]) F fun _ _ _ _ _ _ us hl => match us, hl with | [_], _ => rfl
  exact ⟨fd, fun s v => b s [v] rfl, fun base _ _ => ok_law good T F⟩
end EC
open PySem PySem.W PySem.Calls PyProof.Rows
theorem holds_of (good : EC.LawGood) : PySem.Challenge.rw_eachcut_k18_whole_rings.Holds := by
  w_on; o_law
  refine HandSHeadRun.head_any (r := OpenLaw.row PySem.Challenge.rw_eachcut_k18_whole_rings) (q := view (OpenLaw.row PySem.Challenge.rw_eachcut_k18_whole_rings).prog [EC.lawIx]) (H := EC.hk) (ob := EC.ob) (M := 20000) (loose := EC.nmAll) (d := HandSHeadRun.topDef (OpenLaw.row PySem.Challenge.rw_eachcut_k18_whole_rings).prog EC.lawIx) (kwd := []) EC.ob_eq
    (by kernel_rfl) (fun s => by kernel_rfl) EC.run (by kernel_rfl) (by kernel_rfl) (by kernel_rfl) (by rfl) (by first | assumption | decide +kernel) (by decide +kernel) ⟨rfl, rfl, rfl, rfl, rfl, by decide +kernel⟩ ?hw ?hc
  case hw => w_witness2
  case hc =>
    refine L2.walk_ofE (l := PySem.Challenge.rw_eachcut_k18_whole_rings) (n := 63) (k := 9) (x := "_law_script") (CX := L2.CX0) rfl (by decide) (by kernel_rfl) ⟨rfl, by decide, by decide⟩ ?F (fun _ _ _ _ z => z)
    intro w mg fa h Y G hmg0
    obtain ⟨K, KX, c⟩ := Y
    have hmg : mg ("law" : PySem.Str) = some (.ref fa) := by
      have e : (HandSHeadRun.topDef (OpenLaw.row PySem.Challenge.rw_eachcut_k18_whole_rings).prog EC.lawIx).name = ("law" : PySem.Str) := by kernel_rfl
      rw [← e]
      exact hmg0
    obtain ⟨fd, hb, hF⟩ := EC.facts good (P := (PySem.Challenge.rw_eachcut_k18_whole_rings).prog) (w := w) KX G hmg c
    exact ⟨K, fd, EC.spLaw K, KX, hb, fun H a ns hl hz hS => ⟨a, ns, rfl, hS, by omega, fun _ => rfl⟩, hF⟩
end
/-! ## M1 -/
section
set_option Elab.async false
set_option linter.all false
set_option maxRecDepth 100000
set_option maxHeartbeats 2000000
/-! M1: the calculus, plain. -/
namespace EC
open PySem PySem.Spec PyProof.Rows L2
/-- a proof that simp does not take for plain unfolding (the kernel would have to find the way again) -/
theorem nd {α : Sort u} {a b : α} (h : a = b) : a = b := h
@[simp] theorem e_ret {α β : Type} (a : α) (f : α → M β) : bnd (ret a) f = f a := nd rfl
@[simp] theorem e_die {α β : Type} (f : α → M β) : bnd (die : M α) f = die := nd rfl
@[simp] theorem e_bnd {α β γ : Type} (m : M α) (f : α → M β) (g : β → M γ) : bnd (bnd m f) g = bnd m fun a => bnd (f a) g := nd rfl
theorem e_chk {α β : Type} (p : Prop) (m : M α) (f : α → M β) : bnd (chk p m) f = chk p (bnd m f) := rfl
@[simp] theorem v_0 (d : D) (ρ : Rho) : var 0 (.d d :: ρ) = ret d := nd rfl
@[simp] theorem v_s (i : Nat) (s : Sl) (ρ : Rho) : var (i + 1) (s :: ρ) = var i ρ := nd rfl
@[simp] theorem vw_0 (d : D) (ρ : Rho) : varW 0 (.d d :: ρ) = ret d := nd rfl
@[simp] theorem vw_0o (xs : List D) (ρ : Rho) : varW 0 (.o xs :: ρ) = ret (.lst xs) := nd rfl
@[simp] theorem vw_s (i : Nat) (s : Sl) (ρ : Rho) : varW (i + 1) (s :: ρ) = varW i ρ := nd rfl
@[simp] theorem e_con (d : D) (ρ : Rho) : con d ρ = ret d := nd rfl
@[simp] theorem e_nilL {α : Type} (ρ : Rho) : (nilL : Rho → M (List α)) ρ = ret [] := nd rfl
@[simp] theorem e_consL (f t) (ρ : Rho) : consL f t ρ = bnd (f ρ) fun d => bnd (t ρ) fun ds => ret (d :: ds) := nd rfl
@[simp] theorem e_consA (f t) (ρ : Rho) : consA f t ρ = bnd (f ρ) fun d => bnd (t ρ) fun ds => ret (.d d :: ds) := nd rfl
@[simp] theorem e_consK_0 (t) (ρ : Rho) : consK 0 t (.k :: ρ) = bnd (t (.k :: ρ)) fun ds => ret (.k :: ds) := nd rfl
@[simp] theorem e_consK_1 (t) (s : Sl) (ρ : Rho) : consK 1 t (s :: .k :: ρ) = bnd (t (s :: .k :: ρ)) fun ds => ret (.k :: ds) := nd rfl
@[simp] theorem e_asL (f) (ρ : Rho) : asL f ρ = bnd (f ρ) fun ds => ret (.lst ds) := nd rfl
@[simp] theorem e_tst (f) (ρ : Rho) : tst f ρ = bnd (f ρ) asB := nd rfl
@[simp] theorem e_asB (b : Bool) : asB (.bl b) = ret b := nd rfl
@[simp] theorem e_op2 (h f g) (ρ : Rho) : op2 h f g ρ = bnd (f ρ) fun x => bnd (g ρ) fun y => h x y := nd rfl
@[simp] theorem e_iop0 (z : Int → Int → D) (i j : Int) : iop0 z (.int i) (.int j) = ret (z i j) := nd rfl
@[simp] theorem e_iop (C z) (i j : Int) : iop C z (.int i) (.int j) = chk (C i j) (ret (z i j)) := nd rfl
@[simp] theorem e_sop (z : Str → Str → D) (i j : Str) : sop z (.str i) (.str j) = ret (z i j) := nd rfl
@[simp] theorem e_app {α : Type} (t) (h : List D → M α) (ρ : Rho) : app t h ρ = bnd (t ρ) h := nd rfl
@[simp] theorem e_one1 {α : Type} (h : D → M α) (d : D) : one1 h [d] = h d := nd rfl
@[simp] theorem e_call (n Fn t) (ρ : Rho) : call n Fn t ρ = bnd (t ρ) fun ds => chk (ds.length = n) (Fn ds) := nd rfl
@[simp] theorem e_callR (n Fn t) (ρ : Rho) : callR n Fn t ρ = bnd (t ρ) fun ds => chk (ds.length = n) (Fn ds.reverse) := nd rfl
@[simp] theorem e_noPart (ρ : Rho) : noPart ρ = ret none := nd rfl
@[simp] theorem e_yes (ρ : Rho) : yes ρ = ret true := nd rfl
def partK : D → M (Option Int)
  | .int i => ret (some i)
  | _ => die
@[simp] theorem e_part (f) (ρ : Rho) : part f ρ = bnd (f ρ) partK := by
  unfold part; exact nd rfl
@[simp] theorem e_partK (i : Int) : partK (.int i) = ret (some i) := nd rfl
def andK (m : M D) : D → M D
  | .bl true => m
  | .bl false => ret (.bl false)
  | _ => die
@[simp] theorem e_andE (f g) (ρ : Rho) : andE f g ρ = bnd (f ρ) (andK (g ρ)) := by
  unfold andE; exact nd rfl
@[simp] theorem e_andK (m : M D) (b : Bool) : andK m (.bl b) = if b = true then m else ret (.bl false) := by cases b <;> rfl
def orK (m : M D) : D → M D
  | .bl true => ret (.bl true)
  | .bl false => m
  | _ => die
@[simp] theorem e_orE (f g) (ρ : Rho) : orE f g ρ = bnd (f ρ) (orK (g ρ)) := by
  unfold orE; exact nd rfl
@[simp] theorem e_orK (m : M D) (b : Bool) : orK m (.bl b) = if b = true then ret (.bl true) else m := by cases b <;> rfl
def notK : D → M D
  | .bl b => ret (.bl (!b))
  | _ => die
@[simp] theorem e_notE (f) (ρ : Rho) : notE f ρ = bnd (f ρ) notK := by
  unfold notE; exact nd rfl
@[simp] theorem e_notK (b : Bool) : notK (.bl b) = ret (.bl (!b)) := nd rfl
@[simp] theorem e_andT (f g) (ρ : Rho) : andT f g ρ = bnd (f ρ) fun c => if c = true then g ρ else ret false := nd rfl
@[simp] theorem e_orT (f g) (ρ : Rho) : orT f g ρ = bnd (f ρ) fun c => if c = true then ret true else g ρ := nd rfl
@[simp] theorem e_notT (f) (ρ : Rho) : notT f ρ = bnd (f ρ) fun c => ret (!c) := nd rfl
@[simp] theorem e_ifE (t f g) (ρ : Rho) : ifE t f g ρ = bnd (t ρ) fun c => if c = true then f ρ else g ρ := nd rfl
def chainK (h' : D → D → M D) (y : D) (k : M D) : D → M D
  | .bl true => bnd k fun w => h' y w
  | .bl false => ret (.bl false)
  | _ => die
@[simp] theorem e_chainE (h h' f g k) (ρ : Rho) : chainE h h' f g k ρ = bnd (f ρ) fun x => bnd (g ρ) fun y => bnd (h x y) (chainK h' y (k ρ)) := by
  unfold chainE; exact nd rfl
@[simp] theorem e_chainK (h') (y) (k : M D) (b : Bool) : chainK h' y k (.bl b) = if b = true then bnd k fun w => h' y w else ret (.bl false) := by cases b <;> rfl
@[simp] theorem e_isNS (x : D) : isNS x .non = ret (.bl x.isNon) := nd rfl
@[simp] theorem e_notNS (x : D) : notNS x .non = ret (.bl (!x.isNon)) := nd rfl
@[simp] theorem e_isNotB (a b : Bool) : isNotB (.bl a) (.bl b) = ret (.bl (!decide (a = b))) := nd rfl
/-! statements -/
def seqK (t : Rho → M Res) : Res → M Res
  | .nx ρ' => t ρ'
  | r => ret r
@[simp] theorem e_seqS (s t) (ρ : Rho) : seqS s t ρ = bnd (s ρ) (seqK t) := by
  unfold seqS; exact nd rfl
@[simp] theorem e_seqK_nx (t) (ρ : Rho) : seqK t (.nx ρ) = t ρ := nd rfl
@[simp] theorem e_seqK_rt (t) (d : D) : seqK t (.rt d) = ret (.rt d) := nd rfl
@[simp] theorem e_seqK_bk (t) (ρ : Rho) : seqK t (.bk ρ) = ret (.bk ρ) := nd rfl
@[simp] theorem e_seqK_ct (t) (ρ : Rho) : seqK t (.ct ρ) = ret (.ct ρ) := nd rfl
@[simp] theorem e_skip (ρ : Rho) : skip ρ = ret (.nx ρ) := nd rfl
@[simp] theorem e_brk (ρ : Rho) : brk ρ = ret (.bk ρ) := nd rfl
@[simp] theorem e_never (ρ : Rho) : never ρ = die := nd rfl
@[simp] theorem e_retS (f) (ρ : Rho) : retS f ρ = bnd (f ρ) fun d => ret (.rt d) := nd rfl
@[simp] theorem e_expS (f) (ρ : Rho) : expS f ρ = bnd (f ρ) fun _ => ret (.nx ρ) := nd rfl
@[simp] theorem e_ifS (t s1 s2) (ρ : Rho) : ifS t s1 s2 ρ = bnd (t ρ) fun c => if c = true then s1 ρ else s2 ρ := nd rfl
@[simp] theorem e_nameT (i) (d : D) (ρ : Rho) : nameT i d ρ = ret (ρ.set i (.d d)) := nd rfl
@[simp] theorem e_nilT (ρ : Rho) : nilT [] ρ = ret ρ := nd rfl
@[simp] theorem e_consT (t u) (d : D) (r : List D) (ρ : Rho) : consT t u (d :: r) ρ = bnd (t d ρ) fun ρ' => u r ρ' := nd rfl
@[simp] theorem e_tupT (n u) (ds : List D) (ρ : Rho) : tupT n u (.tup ds) ρ = chk (ds.length = n) (u ds ρ) := nd rfl
@[simp] theorem e_asgS (f t) (ρ : Rho) : asgS f t ρ = bnd (f ρ) fun d => bnd (t d ρ) fun ρ' => ret (.nx ρ') := nd rfl
@[simp] theorem e_setS (i f) (ρ : Rho) : setS i f ρ = bnd (f ρ) fun d => ret (.nx (ρ.set i (.d d))) := nd rfl
@[simp] theorem e_setO (i f) (ρ : Rho) : setO i f ρ = bnd (f ρ) fun ds => ret (.nx (ρ.set i (.o ds))) := nd rfl
@[simp] theorem e_xD (f t) (ρ : Rho) : xD f t ρ = bnd (f ρ) fun d => bnd (t ρ) fun ds => ret (.d d :: ds) := nd rfl
@[simp] theorem e_xO (f t) (ρ : Rho) : xO f t ρ = bnd (f ρ) fun d => bnd (t ρ) fun ds => ret (.o d :: ds) := nd rfl
@[simp] theorem e_parS (is f) (ρ : Rho) : parS is f ρ = bnd (f ρ) fun sls => chk (sls.length = is.length) (ret (.nx (setR ρ is sls))) := nd rfl
@[simp] theorem e_setR_c (ρ : Rho) (i is x xs) : setR ρ (i :: is) (x :: xs) = setR (ρ.set i x) is xs := nd rfl
@[simp] theorem e_setR_n (ρ : Rho) : setR ρ [] [] = ρ := nd rfl
@[simp] theorem e_wipe_c (ρ : Rho) (v vs) : wipeR ρ (v :: vs) = (wipeR ρ vs).set v .no := nd rfl
@[simp] theorem e_wipe_n (ρ : Rho) : wipeR ρ [] = ρ := nd rfl
def fnK : Res → M D
  | .rt d => ret d
  | .nx _ => ret .non
  | _ => die
theorem e_fnS (m s) (args : List Sl) : fnS m s args = bnd (s (args ++ List.replicate (m - args.length) .no)) fnK := by
  unfold fnS; exact nd rfl
@[simp] theorem e_fnK_rt (d : D) : fnK (.rt d) = ret d := nd rfl
@[simp] theorem e_fnK_nx (ρ : Rho) : fnK (.nx ρ) = ret .non := nd rfl
@[simp] theorem own_0 (xs : List D) (ρ : Rho) : ownOf (.o xs :: ρ) 0 = some xs := nd rfl
@[simp] theorem own_s (i : Nat) (s : Sl) (ρ : Rho) : ownOf (s :: ρ) (i + 1) = ownOf ρ i := nd rfl
theorem e_own {i k} {ρ : Rho} {xs} (h : ownOf ρ i = some xs) : own i k ρ = k xs ρ := by unfold own; rw [h]
theorem e_appS {i f} {ρ : Rho} {xs} (h : ownOf ρ i = some xs) : appS i f ρ = bnd (f ρ) fun d => chk (xs.length < 1000000) (ret (.nx (ρ.set i (.o (xs ++ [d]))))) := e_own h
def extK (i : Nat) (xs : List D) (ρ : Rho) : D → M Res
  | .lst ds => chk (xs.length + ds.length < 1000000) (ret (.nx (ρ.set i (.o (xs ++ ds)))))
  | _ => die
theorem e_extS {i f} {ρ : Rho} {xs} (h : ownOf ρ i = some xs) : extS i f ρ = bnd (f ρ) (extK i xs ρ) := by
  unfold extS; rw [e_own h]; rfl
@[simp] theorem e_extK (i xs) (ρ : Rho) (ds) : extK i xs ρ (.lst ds) = chk (xs.length + ds.length < 1000000) (ret (.nx (ρ.set i (.o (xs ++ ds))))) := nd rfl
theorem e_give {i s} {ρ : Rho} {xs} (h : ρ[i]? = some (.o xs)) : give i s ρ = s (ρ.set i (.d (.lst xs))) := by unfold give; rw [h]
theorem e_itO {i} {ρ : Rho} {xs} (h : ownOf ρ i = some xs) : itO i ρ = ret xs := by unfold itO; rw [h]
/-! iterables -/
def itLK : D → M (List D)
  | .lst ds => ret ds
  | _ => die
@[simp] theorem e_itL (f) (ρ : Rho) : itL f ρ = bnd (f ρ) itLK := by unfold itL; exact nd rfl
@[simp] theorem e_itLK (ds) : itLK (.lst ds) = ret ds := nd rfl
def itTK : D → M (List D)
  | .tup ds => ret ds
  | _ => die
@[simp] theorem e_itT (f) (ρ : Rho) : itT f ρ = bnd (f ρ) itTK := by unfold itT; exact nd rfl
@[simp] theorem e_itTK (ds) : itTK (.tup ds) = ret ds := nd rfl
def itSK : D → M (List D)
  | .str x => ret (strD x)
  | _ => die
@[simp] theorem e_itS (f) (ρ : Rho) : itS f ρ = bnd (f ρ) itSK := by unfold itS; exact nd rfl
@[simp] theorem e_itSK (x) : itSK (.str x) = ret (strD x) := nd rfl
def enumLK : D → M (List D)
  | .lst ds => ret (enumD ds)
  | _ => die
@[simp] theorem e_enumL (f) (ρ : Rho) : enumL f ρ = bnd (f ρ) enumLK := by unfold enumL; exact nd rfl
@[simp] theorem e_enumLK (ds) : enumLK (.lst ds) = ret (enumD ds) := nd rfl
def enumTK : D → M (List D)
  | .tup ds => ret (enumD ds)
  | _ => die
@[simp] theorem e_enumT (f) (ρ : Rho) : enumT f ρ = bnd (f ρ) enumTK := by unfold enumT; exact nd rfl
@[simp] theorem e_enumTK (ds) : enumTK (.tup ds) = ret (enumD ds) := nd rfl
def rng1K : D → M (List D)
  | .int j => chk (-(2 ^ 62) ≤ j ∧ j < 2 ^ 62) (ret (rngD 0 j))
  | _ => die
@[simp] theorem e_rng1 (f) (ρ : Rho) : rng1 f ρ = bnd (f ρ) rng1K := by unfold rng1; exact nd rfl
theorem e_rng1K (n : Nat) (h : n ≤ 1000000) : rng1K (.int n) = ret ((List.range n).map fun (i : Nat) => D.int i) := by
  show chk _ _ = _
  rw [chk_of (by omega)]
  unfold rngD
  simp
def revK : D → M (List D)
  | .lst ds => ret ds.reverse
  | _ => die
@[simp] theorem e_revL (f) (ρ : Rho) : revL f ρ = bnd (f ρ) revK := by unfold revL; exact nd rfl
@[simp] theorem e_revK (ds) : revK (.lst ds) = ret ds.reverse := nd rfl
def negK : D → M D
  | .int i => ret (.int (-i))
  | _ => die
@[simp] theorem e_negE (f) (ρ : Rho) : negE f ρ = bnd (f ρ) negK := by unfold negE; exact nd rfl
@[simp] theorem e_negK (i : Int) : negK (.int i) = ret (.int (-i)) := nd rfl
@[simp] theorem e_catE (f g) (ρ : Rho) : catE f g ρ = bnd (f ρ) fun x => bnd (g ρ) fun y => catS x y := nd rfl
@[simp] theorem e_forS (it t s) (ρ : Rho) : forS it t s ρ = bnd (it ρ) fun ds => forL t s ds ρ := nd rfl
@[simp] theorem e_isS (T f) (ρ : Rho) : isS T f ρ = bnd (f ρ) fun d => ret (.bl ((kitB d.ty T).getD false)) := nd rfl
@[simp] theorem k_ii : (kitB "int" "int").getD false = true := by decide +kernel
@[simp] theorem k_ib : (kitB "int" "bool").getD false = false := by decide +kernel
@[simp] theorem k_ss : (kitB "str" "str").getD false = true := by decide +kernel
@[simp] theorem k_tt : (kitB "tuple" "tuple").getD false = true := by decide +kernel
@[simp] theorem ty_int (i) : (D.int i).ty = "int" := nd rfl
@[simp] theorem ty_str (i) : (D.str i).ty = "str" := nd rfl
@[simp] theorem ty_tup (i) : (D.tup i).ty = "tuple" := nd rfl
@[simp] theorem e_lenL (ds) : lenD (.lst ds) = ret (.int ds.length) := nd rfl
@[simp] theorem e_lenT (ds) : lenD (.tup ds) = ret (.int ds.length) := nd rfl
@[simp] theorem e_lenW (ds) : lenD (.wd ds) = ret (.int ds.length) := nd rfl
@[simp] theorem e_lenK (ks ds) : lenD (.dk ks ds) = ret (.int ds.length) := nd rfl
@[simp] theorem e_tupD (ds) : tupD (.lst ds) = ret (.tup ds) := nd rfl
@[simp] theorem e_tupWD (ds) : tupWD (.lst ds) = ret (.wd ds) := nd rfl
@[simp] theorem e_listL (ds) : listD (.lst ds) = ret ds := nd rfl
@[simp] theorem e_listT (ds) : listD (.tup ds) = ret ds := nd rfl
@[simp] theorem e_listW (ds) : listD (.wd ds) = ret ds := nd rfl
@[simp] theorem e_intD (i) : intD (.int i) = ret (.int i) := nd rfl
@[simp] theorem e_keysD (ks ds) : keysD (.dk ks ds) = ret (ks.map keyD) := nd rfl
@[simp] theorem e_tupE (t) (ρ : Rho) : tupE t ρ = bnd (t ρ) fun ds => chk (ds.length ≤ 1000000) (ret (.tup ds)) := nd rfl
@[simp] theorem e_lstE (t) (ρ : Rho) : lstE t ρ = bnd (t ρ) fun ds => chk (ds.length ≤ 1000000) (ret ds) := nd rfl
@[simp] theorem chk_true {α : Type} (m : M α) : chk True m = m := chk_of trivial m
/-! lists -/
theorem atI_nat {α : Type} (xs : List α) (i : Nat) : atI xs (i : Int) = xs[i]? := by
  unfold atI ixN
  rw [if_pos (by omega)]
  by_cases h : i < xs.length
  · rw [if_pos (by omega)]; simp
  · rw [if_neg (by omega)]; simp [h]
@[simp] theorem atI_0 {α : Type} (x : α) (xs : List α) : atI (x :: xs) 0 = some x := by
  have := atI_nat (x :: xs) 0; simpa using this
@[simp] theorem atI_1 {α : Type} (x y : α) (xs : List α) : atI (x :: y :: xs) 1 = some y := by
  have := atI_nat (x :: y :: xs) 1; simpa using this
@[simp] theorem atI_2 {α : Type} (x y z : α) (xs : List α) : atI (x :: y :: z :: xs) 2 = some z := by
  have := atI_nat (x :: y :: z :: xs) 2; simpa using this
theorem atI_last {α : Type} (xs : List α) (x : α) : atI (xs ++ [x]) (-1) = some x := by
  unfold atI ixN
  rw [if_neg (by omega), if_pos (by simp; omega)]
  rw [show ((-1 : Int) + ((xs ++ [x]).length : Nat)).toNat = xs.length by simp; omega]
  simp
theorem ix_lst {ds : List D} {i : Int} {d : D} (h : atI ds i = some d) : ixS (.lst ds) (.int i) = ret d := by unfold ixS; simp only [h]
theorem ix_tup {ds : List D} {i : Int} {d : D} (h : atI ds i = some d) : ixS (.tup ds) (.int i) = ret d := by unfold ixS; simp only [h]
@[simp] theorem ix_t0 (x : D) (xs) : ixS (.tup (x :: xs)) (.int 0) = ret x := ix_tup (atI_0 x xs)
@[simp] theorem ix_t1 (x y : D) (xs) : ixS (.tup (x :: y :: xs)) (.int 1) = ret y := ix_tup (atI_1 x y xs)
@[simp] theorem ix_t2 (x y z : D) (xs) : ixS (.tup (x :: y :: z :: xs)) (.int 2) = ret z := ix_tup (atI_2 x y z xs)
@[simp] theorem ix_l0 (x : D) (xs) : ixS (.lst (x :: xs)) (.int 0) = ret x := ix_lst (atI_0 x xs)
def sliTK (lo hi : Option Int) : D → M D
  | .tup ds => ret (.tup (cutD ds lo hi))
  | .wd ds => chk (¬ (HT.sIx ds.length 0 lo = 0 ∧ HT.sIx ds.length ds.length hi = ds.length)) (ret (.tup (cutD ds lo hi)))
  | _ => die
@[simp] theorem e_sliT (f l u) (ρ : Rho) : sliT f l u ρ = bnd (f ρ) fun x => bnd (l ρ) fun lo => bnd (u ρ) fun hi => sliTK lo hi x := by
  unfold sliT; exact nd rfl
@[simp] theorem e_sliTK (lo hi ds) : sliTK lo hi (.tup ds) = ret (.tup (cutD ds lo hi)) := nd rfl
def sliLK (lo hi : Option Int) : D → M (List D)
  | .lst ds => ret (cutD ds lo hi)
  | _ => die
@[simp] theorem e_sliL (f l u) (ρ : Rho) : sliL f l u ρ = bnd (f ρ) fun x => bnd (l ρ) fun lo => bnd (u ρ) fun hi => sliLK lo hi x := by
  unfold sliL; exact nd rfl
@[simp] theorem e_sliLK (lo hi ds) : sliLK lo hi (.lst ds) = ret (cutD ds lo hi) := nd rfl
theorem cut_take (ds : List D) (p : Nat) : cutD ds none (some (p : Int)) = ds.take p := by
  unfold cutD
  rw [HT.sIx_none, HT.sIx_nat]
  simp only [List.drop_zero, Nat.sub_zero]
  by_cases h : p ≤ ds.length
  · rw [Nat.min_eq_left h]
  · rw [Nat.min_eq_right (by omega), List.take_of_length_le (Nat.le_refl _), List.take_of_length_le (by omega)]
theorem cut_drop (ds : List D) (p : Nat) : cutD ds (some (p : Int)) none = ds.drop p := by
  unfold cutD
  rw [HT.sIx_none, HT.sIx_nat]
  by_cases h : p ≤ ds.length
  · rw [Nat.min_eq_left h, List.take_of_length_le (by simp)]
  · rw [Nat.min_eq_right (by omega), Nat.sub_self, List.take_zero, List.drop_of_length_le (by omega)]
theorem cut_both (ds : List D) (p q : Nat) (hq : q ≤ ds.length) : cutD ds (some (p : Int)) (some (q : Int)) = (ds.take q).drop p := by
  unfold cutD
  rw [HT.sIx_nat, HT.sIx_nat, Nat.min_eq_left hq, List.drop_take]
  by_cases h : p ≤ ds.length
  · rw [Nat.min_eq_left h]
  · rw [Nat.min_eq_right (by omega), show q - ds.length = 0 by omega, show q - p = 0 by omega]; simp
/-! comprehensions -/
def lcStep (t : D → Rho → M Rho) (c : Rho → M Bool) (f : Rho → M D) (ρ : Rho) (d : D) : M (Option D) := bnd (t d ρ) fun ρ1 => bnd (c ρ1) fun b => if b = true then bnd (f ρ1) fun y => ret (some y) else ret none
theorem lcL_cons (t c f) (d : D) (ds : List D) (ρ : Rho) : lcL t c f (d :: ds) ρ = bnd (lcStep t c f ρ d) fun o => match o with
    | some y => bnd (lcL t c f ds ρ) fun ys => ret (y :: ys)
    | none => lcL t c f ds ρ := by
  unfold lcStep
  show bnd (t d ρ) _ = _
  rw [e_bnd]
  congr; funext ρ1
  rw [e_bnd]
  congr; funext b
  cases b <;> rfl
theorem lcL_map {α : Type} {t : D → Rho → M Rho} {c : Rho → M Bool} {f : Rho → M D} {ρ : Rho} {enc : α → D} (b : α → Bool) (g : α → D) : ∀ (xs : List α), (∀ x ∈ xs, lcStep t c f ρ (enc x) = ret (if b x = true then some (g x) else none)) → lcL t c f (xs.map enc) ρ = ret ((xs.filter b).map g)
  | [], _ => rfl
  | x :: xs, h => by
    have ih := lcL_map b g xs fun y hy => h y (List.mem_cons_of_mem _ hy)
    rw [List.map_cons, lcL_cons, h x (by simp), e_ret, ih]
    cases hb : b x <;> simp [hb]
theorem lcE_map {α : Type} {vs it} {t : D → Rho → M Rho} {c : Rho → M Bool} {f : Rho → M D} {ρ : Rho} {enc : α → D} {xs : List α} (b : α → Bool) (g : α → D) (hi : it ρ = ret (xs.map enc)) (hl : xs.length ≤ 1000000)
    (h : ∀ x ∈ xs, lcStep t c f (wipeR ρ vs) (enc x) = ret (if b x = true then some (g x) else none)) : lcE vs it t c f ρ = ret ((xs.filter b).map g) := by
  unfold lcE
  rw [hi, e_ret, chk_of (by simpa using hl), lcL_map b g xs h]
theorem lcE_mapY {α : Type} {vs it} {t : D → Rho → M Rho} {f : Rho → M D} {ρ : Rho} {enc : α → D} {xs : List α} (g : α → D) (hi : it ρ = ret (xs.map enc)) (hl : xs.length ≤ 1000000)
    (h : ∀ x ∈ xs, lcStep t yes f (wipeR ρ vs) (enc x) = ret (some (g x))) : lcE vs it t yes f ρ = ret (xs.map g) := by
  rw [lcE_map (fun _ => true) g hi hl (fun x hx => h x hx)]; rw [List.filter_eq_self.mpr fun _ _ => rfl]
theorem bools_map {α : Type} (b : α → Bool) : ∀ xs : List α, D.bools (xs.map fun x => .bl (b x)) = some (xs.map b)
  | [] => rfl
  | x :: xs => by show (D.bools (xs.map _)).map _ = _; rw [bools_map b xs]; rfl
@[simp] theorem all_map {α : Type} (b : α → Bool) (xs : List α) : boolsD (fun bs => .bl (bs.all id)) (.lst (xs.map fun x => .bl (b x))) = ret (.bl (xs.all b)) := by
  show (match D.bools _ with | some bs => _ | none => _) = _; rw [bools_map]; simp [List.all_map]
@[simp] theorem any_map {α : Type} (b : α → Bool) (xs : List α) : boolsD (fun bs => .bl (bs.any id)) (.lst (xs.map fun x => .bl (b x))) = ret (.bl (xs.any b)) := by
  show (match D.bools _ with | some bs => _ | none => _) = _; rw [bools_map]; simp [List.any_map]
def dcStep {κ : Type} (kx : D → Option κ) (t : D → Rho → M Rho) (c : Rho → M Bool) (kf vf : Rho → M D) (ρ : Rho) (d : D) : M (Option (κ × D)) := bnd (t d ρ) fun ρ1 => bnd (c ρ1) fun b => if b = true then bnd (kf ρ1) fun kd => bnd (vf ρ1) fun vd => (match kx kd with
    | some k => ret (some (k, vd))
    | none => die) else ret none
theorem dcL_cons {κ : Type} [DecidableEq κ] (kx : D → Option κ) (t c kf vf) (d : D) (ds : List D) (ρ : Rho) (acc : List (κ × D)) : dcL kx t c kf vf (d :: ds) ρ acc = bnd (dcStep kx t c kf vf ρ d) fun o => match o with
    | some p => dcL kx t c kf vf ds ρ (putP acc p.1 p.2)
    | none => dcL kx t c kf vf ds ρ acc := by
  unfold dcStep
  show bnd (t d ρ) _ = _
  rw [e_bnd]
  congr; funext ρ1
  rw [e_bnd]
  congr; funext b
  cases b
  · rfl
  · show bnd (kf ρ1) _ = bnd (bnd (kf ρ1) _) _
    rw [e_bnd]
    congr; funext kd
    rw [e_bnd]
    congr; funext vd
    cases kx kd <;> rfl
theorem dcL_map {κ α : Type} [DecidableEq κ] {kx : D → Option κ} {t : D → Rho → M Rho} {c : Rho → M Bool} {kf vf : Rho → M D} {ρ : Rho} {enc : α → D} (b : α → Bool) (k : α → κ) (g : α → D) : ∀ (xs : List α) (acc : List (κ × D)), (∀ x ∈ xs, dcStep kx t c kf vf ρ (enc x) = ret (if b x = true then some (k x, g x) else none)) →
    dcL kx t c kf vf (xs.map enc) ρ acc = ret ((xs.filter b).foldl (fun a x => putP a (k x) (g x)) acc)
  | [], _, _ => rfl
  | x :: xs, acc, h => by
    have ih := fun acc => dcL_map b k g xs acc fun y hy => h y (List.mem_cons_of_mem _ hy)
    rw [List.map_cons, dcL_cons, h x (by simp), e_ret]
    cases hb : b x <;> simp [hb, ih]
end EC
end
/-! ## M2 -/
section
set_option Elab.async false
set_option linter.all false
set_option maxRecDepth 100000
set_option maxHeartbeats 2000000
/-! M2: equality and shape of plain data. -/
namespace EC
open PySem PySem.Spec PyProof.Rows L2
def Lv (n : Nat) (d : D) : Prop := d.py.canLay0 = true ∧ d.py.depth ≤ n
theorem canLayAll_of : ∀ xs : List D, (∀ d ∈ xs, d.py.canLay0 = true) → PyData.canLayAll0 (D.pys xs) = true
  | [], _ => by simp [D.pys, PyData.canLayAll0]
  | x :: xs, h => by simp [D.pys, PyData.canLayAll0, h x (by simp), canLayAll_of xs fun d hd => h d (List.mem_cons_of_mem _ hd)]
theorem depthAll_of {n : Nat} : ∀ xs : List D, (∀ d ∈ xs, d.py.depth ≤ n) → PyData.depthAll (D.pys xs) ≤ n
  | [], _ => by simp [D.pys, PyData.depthAll]
  | x :: xs, h => by
    have := depthAll_of xs fun d hd => h d (List.mem_cons_of_mem _ hd)
    have := h x (by simp)
    simp [D.pys, PyData.depthAll]; omega
theorem Lv.tup {n : Nat} {ds : List D} (h : ∀ d ∈ ds, Lv n d) : Lv (n + 1) (.tup ds) :=
  ⟨by simp only [D.py, PyData.canLay0]; exact canLayAll_of ds fun d hd => (h d hd).1, by simp only [D.py, PyData.depth]; have := depthAll_of ds fun d hd => (h d hd).2; omega⟩
theorem Lv.lst {n : Nat} {ds : List D} (h : ∀ d ∈ ds, Lv n d) : Lv (n + 1) (.lst ds) :=
  ⟨by simp only [D.py, PyData.canLay0]; exact canLayAll_of ds fun d hd => (h d hd).1, by simp only [D.py, PyData.depth]; have := depthAll_of ds fun d hd => (h d hd).2; omega⟩
@[simp] theorem lv_int {n : Nat} (i : Int) : Lv (n + 1) (.int i) := ⟨by simp [D.py, PyData.canLay0], by simp [D.py, PyData.depth]⟩
@[simp] theorem lv_bl {n : Nat} (i : Bool) : Lv (n + 1) (.bl i) := ⟨by simp [D.py, PyData.canLay0], by simp [D.py, PyData.depth]⟩
@[simp] theorem lv_non {n : Nat} : Lv (n + 1) .non := ⟨by simp [D.py, PyData.canLay0], by simp [D.py, PyData.depth]⟩
theorem lv_str {n : Nat} {x : Str} (h : PyData.strOk x = true) : Lv (n + 1) (.str x) := ⟨by simp [D.py, PyData.canLay0, h], by simp [D.py, PyData.depth]⟩
@[simp] theorem lv_tn {n : Nat} : Lv (n + 1) (.tup []) := Lv.tup (by simp)
@[simp] theorem lv_ln {n : Nat} : Lv (n + 1) (.lst []) := Lv.lst (by simp)
@[simp] theorem lv_t1 {n : Nat} {a : D} (h : Lv n a) : Lv (n + 1) (.tup [a]) := Lv.tup (by simpa using h)
@[simp] theorem lv_t2 {n : Nat} {a b : D} (h : Lv n a) (h2 : Lv n b) : Lv (n + 1) (.tup [a, b]) := Lv.tup (by simp [h, h2])
@[simp] theorem lv_t3 {n : Nat} {a b c : D} (h : Lv n a) (h2 : Lv n b) (h3 : Lv n c) : Lv (n + 1) (.tup [a, b, c]) := Lv.tup (by simp [h, h2, h3])
@[simp] theorem lv_lmap {α : Type} {n : Nat} {f : α → D} {xs : List α} (h : ∀ x ∈ xs, Lv n (f x)) : Lv (n + 1) (.lst (xs.map f)) := Lv.lst (by simpa using h)
@[simp] theorem lv_tmap {α : Type} {n : Nat} {f : α → D} {xs : List α} (h : ∀ x ∈ xs, Lv n (f x)) : Lv (n + 1) (.tup (xs.map f)) := Lv.tup (by simpa using h)
theorem Lv.shp {n : Nat} {d : D} (h : Lv n d) (hn : n ≤ 64 := by decide) : shp d := by
  unfold EC.shp SeqAt.shaped
  rw [Bool.and_eq_true]
  exact ⟨h.1, decide_eq_true (Nat.le_trans h.2 hn)⟩
/-- strings that may be asked -/
abbrev Kd := {x : Str // PyData.strOk x = true}
@[simp] theorem lv_kd {n : Nat} (k : Kd) : Lv (n + 1) (.str k.1) := lv_str k.2
@[simp] theorem lv_do {n : Nat} : Lv (n + 1) (.str "do") := lv_str (by decide +kernel)
@[simp] theorem lv_keep {n : Nat} : Lv (n + 1) (.str "keep") := lv_str (by decide +kernel)
@[simp] theorem lv_drop {n : Nat} : Lv (n + 1) (.str "drop") := lv_str (by decide +kernel)
@[simp] theorem lv_back {n : Nat} : Lv (n + 1) (.str "back") := lv_str (by decide +kernel)
@[simp] theorem lv_ring {n : Nat} : Lv (n + 1) (.str "ring") := lv_str (by decide +kernel)
@[simp] theorem lv_caught {n : Nat} : Lv (n + 1) (.str "caught") := lv_str (by decide +kernel)
@[simp] theorem lv_steps {n : Nat} : Lv (n + 1) (.str "steps") := lv_str (by decide +kernel)
@[simp] theorem lv_active {n : Nat} : Lv (n + 1) (.str "active") := lv_str (by decide +kernel)
@[simp] theorem lv_qring {n : Nat} : Lv (n + 1) (.str "'ring'") := lv_str (by decide +kernel)
@[simp] theorem lv_qcaught {n : Nat} : Lv (n + 1) (.str "'caught'") := lv_str (by decide +kernel)
@[simp] theorem lv_True {n : Nat} : Lv (n + 1) (.str "True") := lv_str (by decide +kernel)
@[simp] theorem lv_False {n : Nat} : Lv (n + 1) (.str "False") := lv_str (by decide +kernel)
/-! equality -/
def eqvD (x y : D) : Bool := PyData.eqv x.py y.py
def eqvDs (x y : List D) : Bool := PyData.eqvAll (D.pys x) (D.pys y)
@[simp] theorem q_int (i j : Int) : eqvD (.int i) (.int j) = decide (i = j) := by unfold eqvD; simp [D.py, PyData.eqv]; rfl
@[simp] theorem q_str (i j : Str) : eqvD (.str i) (.str j) = decide (i = j) := by unfold eqvD; simp [D.py, PyData.eqv]; rfl
@[simp] theorem q_bl (i j : Bool) : eqvD (.bl i) (.bl j) = decide (i = j) := by unfold eqvD; simp [D.py, PyData.eqv]; rfl
@[simp] theorem q_tup (i j) : eqvD (.tup i) (.tup j) = eqvDs i j := by unfold eqvD eqvDs; simp [D.py, PyData.eqv]
@[simp] theorem q_lst (i j) : eqvD (.lst i) (.lst j) = eqvDs i j := by unfold eqvD eqvDs; simp [D.py, PyData.eqv]
@[simp] theorem q_nn : eqvDs [] [] = true := by unfold eqvDs; simp [D.pys, PyData.eqvAll]
@[simp] theorem q_nc (y ys) : eqvDs [] (y :: ys) = false := by unfold eqvDs; simp [D.pys, PyData.eqvAll]
@[simp] theorem q_cn (y ys) : eqvDs (y :: ys) [] = false := by unfold eqvDs; simp [D.pys, PyData.eqvAll]
@[simp] theorem q_cc (x xs y ys) : eqvDs (x :: xs) (y :: ys) = (eqvD x y && eqvDs xs ys) := by unfold eqvDs eqvD; simp [D.pys, PyData.eqvAll]
theorem q_empty (xs : List D) : eqvDs xs [] = xs.isEmpty := by cases xs <;> simp
@[simp] theorem eqS_ev {x y : D} (hx : Lv 8 x) (hy : Lv 8 y) : eqS x y = ret (.bl (eqvD x y)) := chk_of ⟨hx.shp, hy.shp⟩ _
@[simp] theorem neS_ev {x y : D} (hx : Lv 8 x) (hy : Lv 8 y) : neS x y = ret (.bl (!eqvD x y)) := chk_of ⟨hx.shp, hy.shp⟩ _
theorem inB_any (x : D) (ds : List D) : inB x ds = ds.any fun z => eqvD z x := by
  unfold inB; rw [D.pys_map, List.any_map]; rfl
@[simp] theorem inS_lst {x : D} {ds} (hx : Lv 8 x) (hy : Lv 8 (.lst ds)) : inS x (.lst ds) = ret (.bl (inB x ds)) := chk_of ⟨hx.shp, hy.shp⟩ _
@[simp] theorem inS_tup {x : D} {ds} (hx : Lv 8 x) (hy : Lv 8 (.tup ds)) : inS x (.tup ds) = ret (.bl (inB x ds)) := chk_of ⟨hx.shp, hy.shp⟩ _
@[simp] theorem inS_wd {x : D} {ds} (hx : Lv 8 x) (hy : Lv 8 (.tup ds)) : inS x (.wd ds) = ret (.bl (inB x ds)) := chk_of ⟨hx.shp, hy.shp⟩ _
@[simp] theorem ninS_lst {x : D} {ds} (hx : Lv 8 x) (hy : Lv 8 (.lst ds)) : ninS x (.lst ds) = ret (.bl (!inB x ds)) := chk_of ⟨hx.shp, hy.shp⟩ _
@[simp] theorem ninS_tup {x : D} {ds} (hx : Lv 8 x) (hy : Lv 8 (.tup ds)) : ninS x (.tup ds) = ret (.bl (!inB x ds)) := chk_of ⟨hx.shp, hy.shp⟩ _
@[simp] theorem ninS_wd {x : D} {ds} (hx : Lv 8 x) (hy : Lv 8 (.tup ds)) : ninS x (.wd ds) = ret (.bl (!inB x ds)) := chk_of ⟨hx.shp, hy.shp⟩ _
section
variable {α : Type} [DecidableEq α] {enc : α → D}
theorem inB_map (h : ∀ a b, eqvD (enc a) (enc b) = decide (a = b)) (x : α) (xs : List α) : inB (enc x) (xs.map enc) = decide (x ∈ xs) := by
  rw [inB_any, List.any_map]
  induction xs with
  | nil => rfl
  | cons y ys ih =>
    rw [List.any_cons, ih]
    show (eqvD (enc y) (enc x) || _) = _
    rw [h, Bool.eq_iff_iff, Bool.or_eq_true, decide_eq_true_eq, decide_eq_true_eq, decide_eq_true_eq, List.mem_cons, eq_comm]
theorem eqvDs_map (h : ∀ a b, eqvD (enc a) (enc b) = decide (a = b)) : ∀ (xs ys : List α), eqvDs (xs.map enc) (ys.map enc) = decide (xs = ys)
  | [], [] => q_nn
  | [], y :: ys => q_nc _ _
  | x :: xs, [] => q_cn _ _
  | x :: xs, y :: ys => by
    rw [List.map_cons, List.map_cons, q_cc, h, eqvDs_map h xs ys, Bool.eq_iff_iff]; simp only [Bool.and_eq_true, decide_eq_true_eq, List.cons.injEq]
theorem idxD_map (h : ∀ a b, eqvD (enc a) (enc b) = decide (a = b)) (x : α) (xs : List α) : idxD (xs.map enc) (enc x) = xs.findIdx? fun z => decide (z = x) := by
  unfold idxD
  rw [D.pys_map, List.map_map, List.findIdx?_map]
  congr
  funext z
  exact h z x
end
@[simp] theorem q_pair (a b : Int × Int) : eqvD (pairD a) (pairD b) = decide (a = b) := by
  obtain ⟨a, a'⟩ := a; obtain ⟨b, b'⟩ := b
  unfold pairD; rw [Bool.eq_iff_iff]; simp
@[simp] theorem lv_pair {n : Nat} (a : Int × Int) : Lv (n + 2) (pairD a) := lv_t2 (lv_int _) (lv_int _)
/-- an event -/
inductive Ev where
  | dos (t : Int) (k : Kd) | keep (t : Int) | drop (t : Int)
def Ev.enc : Ev → D
  | .dos t k => .tup [.str "do", .int t, .str k.1]
  | .keep t => .tup [.str "keep", .int t]
  | .drop t => .tup [.str "drop", .int t]
def Ev.name : Ev → Int
  | .dos t _ => t
  | .keep t => t
  | .drop t => t
def Ev.isDo : Ev → Bool
  | .dos _ _ => true
  | _ => false
def Ev.isKeep : Ev → Bool
  | .keep _ => true
  | _ => false
def Ev.isEnd : Ev → Bool
  | .dos _ _ => false
  | _ => true
@[simp] theorem lv_ev {n : Nat} (e : Ev) : Lv (n + 2) e.enc := by cases e <;> simp [Ev.enc]
@[simp] theorem w_kd : (("keep" : Str) = "do") = False := by simp; decide +kernel
@[simp] theorem w_dd : (("drop" : Str) = "do") = False := by simp; decide +kernel
@[simp] theorem w_dk : (("do" : Str) = "keep") = False := by simp; decide +kernel
@[simp] theorem w_pk : (("drop" : Str) = "keep") = False := by simp; decide +kernel
@[simp] theorem w_od : (("do" : Str) = "drop") = False := by simp; decide +kernel
@[simp] theorem w_kp : (("keep" : Str) = "drop") = False := by simp; decide +kernel
@[simp] theorem w_ob : (("do" : Str) = "back") = False := by simp; decide +kernel
@[simp] theorem w_kb : (("keep" : Str) = "back") = False := by simp; decide +kernel
@[simp] theorem w_pb : (("drop" : Str) = "back") = False := by simp; decide +kernel
@[simp] theorem w_rs : (("ring" : Str) = "steps") = False := by simp; decide +kernel
@[simp] theorem w_cr : (("'caught'" : Str) = "'ring'") = False := by simp; decide +kernel
@[simp] theorem w_rc : (("'ring'" : Str) = "'caught'") = False := by simp; decide +kernel
theorem enumD_map {α : Type} (enc : α → D) (xs : List α) : enumD (xs.map enc) = xs.zipIdx.map fun p => .tup [.int (p.2 : Nat), enc p.1] := by
  unfold enumD; rw [List.zipIdx_map, List.map_map]; rfl
end EC
end
/-! ## M3 -/
section
set_option Elab.async false
set_option linter.all false
set_option maxRecDepth 100000
set_option maxHeartbeats 2000000
/-! M3: histories. -/
namespace EC
open PySem PySem.Spec PyProof.Rows L2
def hD (H : List Ev) : D := .tup (H.map Ev.enc)
def natsD (xs : List Nat) : D := .lst (xs.map fun i => .int (i : Nat))
def stepsI (H : List Ev) : List Nat := (H.zipIdx.filter fun p => p.1.isDo).map (·.2)
theorem ev_steps_in {H : List Ev} (hl : H.length ≤ 1000) : F_steps_in [.d (hD H)] = ret (natsD (stepsI H)) := by
  unfold F_steps_in
  rw [e_fnS]
  simp
  rw [lcE_map (xs := H.zipIdx) (enc := fun p => .tup [.int (p.2 : Nat), p.1.enc]) (fun p => p.1.isDo) (fun p => .int (p.2 : Nat)) (by simp [hD, enumD_map]) (by simp; omega)]
  · simp [natsD, stepsI]; rfl
  · intro p _
    obtain ⟨e, i⟩ := p
    cases e <;> simp [lcStep, Ev.enc, Ev.isDo]
theorem forL_fold {α σ : Type} {t : D → Rho → M Rho} {body : Rho → M Res} (enc : α → D) (st : σ → Rho) (step : σ → α → σ) (I : Nat → σ → Prop) : ∀ (xs : List α) (n : Nat) (s0 : σ), I n s0 →
    (∀ x ∈ xs, ∀ m s, m < n + xs.length → I m s → bnd (t (enc x) (st s)) body = ret (.nx (st (step s x))) ∧ I (m + 1) (step s x)) → forL t body (xs.map enc) (st s0) = ret (.nx (st (xs.foldl step s0)))
  | [], _, _, _, _ => rfl
  | x :: xs, n, s0, h0, h => by
    obtain ⟨h1, h2⟩ := h x (by simp) n s0 (by simp) h0
    have ih := forL_fold enc st step I xs (n + 1) (step s0 x) h2 fun y hy m s hm hi => h y (List.mem_cons_of_mem _ hy) m s (by simp; omega) hi
    rw [List.map_cons, List.foldl_cons, ← ih]
    show bnd (t (enc x) (st s0)) (fun ρ1 => bnd (body ρ1) _) = _
    rw [← e_bnd, h1]
    rfl
/-! dicts as pairs -/
theorem look_any {κ : Type} [DecidableEq κ] (l : List (κ × D)) (k : κ) : (look (l.map (·.1)) (l.map (·.2)) k).isSome = l.any fun p => decide (p.1 = k) := by
  unfold look
  have e : (l.map (·.1)).zip (l.map (·.2)) = l := by
    induction l with
    | nil => rfl
    | cons a l ih => simp only [List.map_cons, List.zip_cons_cons, ih]
  rw [e, Option.isSome_map, Bool.eq_iff_iff, List.find?_isSome, List.any_eq_true]
theorem put_any {κ : Type} [DecidableEq κ] (l : List (κ × D)) (k k' : κ) (d : D) : ((putP l k d).any fun p => decide (p.1 = k')) = ((l.any fun p => decide (p.1 = k')) || decide (k = k')) := by
  unfold putP
  by_cases h : (l.any fun p => decide (p.1 = k)) = true
  · rw [if_pos h, List.any_map]
    have e : (l.any ((fun p => decide (p.1 = k')) ∘ fun p => if p.1 = k then (p.1, d) else p)) = l.any fun p => decide (p.1 = k') := by
      congr; funext p
      show decide ((if p.1 = k then (p.1, d) else p).1 = k') = _
      split <;> rfl
    rw [e]
    by_cases hk : k = k'
    · subst hk; rw [h]; rfl
    · simp [hk]
  · rw [if_neg h, List.any_append]; simp
theorem foldl_any {κ α : Type} [DecidableEq κ] (f : α → κ) (g : α → D) (k : κ) : ∀ (xs : List α) (acc : List (κ × D)), ((xs.foldl (fun a x => putP a (f x) (g x)) acc).any fun p => decide (p.1 = k)) = ((acc.any fun p => decide (p.1 = k)) || xs.any fun x => decide (f x = k))
  | [], acc => by simp
  | x :: xs, acc => by rw [List.foldl_cons, foldl_any f g k xs, put_any, List.any_cons, Bool.or_assoc]
theorem dnin_dk (l : List (Key × D)) (t : Int) : dninS (.int t) (dkOf l) = ret (.bl (!l.any fun p => decide (p.1 = Sum.inl t))) := by
  show ret (D.bl (!(look _ _ _).isSome)) = _
  rw [look_any]
theorem din_dk (l : List (Key × D)) (t : Int) : dinS (.int t) (dkOf l) = ret (.bl (l.any fun p => decide (p.1 = Sum.inl t))) := by
  show ret (D.bl (look _ _ _).isSome) = _
  rw [look_any]
/-! the history asked -/
theorem hD_at {H : List Ev} {i : Nat} {e : Ev} (h : H[i]? = some e) : ixS (hD H) (.int (i : Nat)) = ret e.enc := ix_tup (by rw [atI_nat, List.getElem?_map, h]; rfl)
theorem ev_owner {H : List Ev} {i : Nat} {e : Ev} (h : H[i]? = some e) : F_owner [.d (hD H), .d (.int (i : Nat))] = ret (.int e.name) := by
  unfold F_owner
  rw [e_fnS]
  simp [hD_at h]
  cases e <;> simp [Ev.enc, Ev.name]
theorem ev_kind {H : List Ev} {i : Nat} {t : Int} {k : Kd} (h : H[i]? = some (.dos t k)) : F_kind_of [.d (hD H), .d (.int (i : Nat))] = ret (.str k.1) := by
  unfold F_kind_of
  rw [e_fnS]
  simp [hD_at h, Ev.enc]
def intsD (xs : List Int) : D := .lst (xs.map .int)
def keptI (H : List Ev) : List Int := (H.filter Ev.isKeep).map Ev.name
theorem ev_kept_in {H : List Ev} (hl : H.length ≤ 1000) (p : Nat) : F_kept_in [.d (hD H), .d (.int (p : Nat))] = ret (intsD (keptI (H.take p))) := by
  unfold F_kept_in
  rw [e_fnS]
  simp
  rw [lcE_map (xs := H.take p) (enc := Ev.enc) Ev.isKeep (fun e => .int e.name) (by simp [hD, cut_take, List.map_take]) (by simp; omega)]
  · simp [intsD, keptI]; rfl
  · intro e _
    cases e <;> simp [lcStep, Ev.enc, Ev.isKeep, Ev.name]
def endsP (H : List Ev) : List (Key × D) := (H.zipIdx.filter fun p => p.1.isEnd).foldl (fun a p => putP a (Sum.inl p.1.name : Key) (.int (p.2 : Nat))) []
theorem ev_ends_in {H : List Ev} (hl : H.length ≤ 1000) : F_ends_in [.d (hD H)] = ret (dkOf (endsP H)) := by
  unfold F_ends_in
  rw [e_fnS]
  simp
  unfold dcKE
  simp [hD, enumD_map]
  rw [chk_of (by omega), dcL_map (xs := H.zipIdx) (enc := fun p => .tup [.int (p.2 : Nat), p.1.enc]) (fun p => p.1.isEnd) (fun p => (Sum.inl p.1.name : Key)) (fun p => .int (p.2 : Nat))]
  · rfl
  · intro p _
    obtain ⟨e, i⟩ := p
    cases e <;> simp [dcStep, Ev.enc, Ev.isEnd, Ev.name, inB_any, D.key]
theorem ev_back_at {H : List Ev} (hl : H.length ≤ 1000) : F_back_at [.d (hD H)] = ret (dkOf []) := by
  unfold F_back_at
  rw [e_fnS]
  simp
  unfold dcKE
  simp [hD, enumD_map]
  rw [chk_of (by omega), dcL_map (xs := H.zipIdx) (enc := fun p => .tup [.int (p.2 : Nat), p.1.enc]) (fun p => false) (fun p => (Sum.inl p.1.name : Key)) (fun p => .int (p.2 : Nat))]
  · rw [List.filter_eq_nil_iff.mpr (by simp)]; rfl
  · intro p _
    obtain ⟨e, i⟩ := p
    cases e <;> simp [dcStep, Ev.enc, Ev.isEnd, Ev.name, inB_any, D.key]
end EC
end
/-! ## M4 -/
section
set_option Elab.async false
set_option linter.all false
set_option maxRecDepth 100000
set_option maxHeartbeats 2000000
/-! M4: the word at a cut. -/
namespace EC
open PySem PySem.Spec PyProof.Rows L2
def opensI (H : List Ev) (p : Nat) : List Nat := (stepsI (H.take p)).reverse.filter fun i => match H[i]? with
  | some e => !decide (e.name ∈ keptI (H.take p))
  | none => false
theorem mem_stepsI {H : List Ev} {i : Nat} (h : i ∈ stepsI H) : ∃ t k, H[i]? = some (.dos t k) := by
  unfold stepsI at h
  obtain ⟨⟨e, j⟩, hp, rfl⟩ := List.mem_map.mp h
  obtain ⟨h1, h2⟩ := List.mem_filter.mp hp
  have := List.mem_zipIdx_iff_getElem?.mp h1
  cases e with
  | dos t k => exact ⟨t, k, this⟩
  | keep t => cases h2
  | drop t => cases h2
theorem mem_steps_take {H : List Ev} {p i : Nat} (h : i ∈ stepsI (H.take p)) : ∃ t k, H[i]? = some (.dos t k) := by
  obtain ⟨t, k, e⟩ := mem_stepsI h
  rw [List.getElem?_take] at e
  split at e
  · exact ⟨t, k, e⟩
  · cases e
theorem stepsI_len (H : List Ev) : (stepsI H).length ≤ H.length := by
  unfold stepsI
  rw [List.length_map]
  exact Nat.le_trans (List.length_filter_le _ _) (by simp)
theorem hD_take (H : List Ev) (p : Nat) : sliTK none (some (p : Int)) (hD H) = ret (hD (H.take p)) := by
  simp [hD, cut_take, List.map_take]
@[simp] theorem lv_ints {n : Nat} (xs : List Int) : Lv (n + 2) (.lst (xs.map .int)) := lv_lmap fun _ _ => lv_int _
theorem inB_i (x : Int) (xs : List Int) : inB (.int x) (xs.map .int) = decide (x ∈ xs) := inB_map (enc := D.int) q_int x xs
theorem ev_open_steps {H : List Ev} (hl : H.length ≤ 1000) (p : Nat) : F_open_steps [.d (hD H), .d (.int (p : Nat))] = ret (natsD (opensI H p)) := by
  have hl2 : (H.take p).length ≤ 1000 := by simp; omega
  unfold F_open_steps
  rw [e_fnS]
  simp [hD_take, ev_kept_in hl, ev_back_at hl2]
  rw [lcE_map (xs := (stepsI (H.take p)).reverse) (enc := fun i => .int (i : Nat)) (fun i => match H[i]? with
    | some e => !decide (e.name ∈ keptI (H.take p))
    | none => false) (fun i => .int (i : Nat)) (by simp [ev_steps_in hl2, natsD]) (by have := stepsI_len (H.take p); simp; omega)]
  · rfl
  · intro i hi
    obtain ⟨t, k, e⟩ := mem_steps_take (List.mem_reverse.mp hi)
    by_cases hm : t ∈ keptI (H.take p) <;> simp [lcStep, dnin_dk, ev_owner e, e, intsD, inB_i, Ev.name, hm]
def ltrs (xs : List Nat) (s : Int) : List (Int × Int) := xs.map fun (i : Nat) => ((i : Int), s)
def wordI (H : List Ev) (p : Nat) : List (Int × Int) := ltrs (stepsI (H.take p)) 1 ++ ltrs (opensI H p) (-1)
def pairsD (xs : List (Int × Int)) : List D := xs.map pairD
theorem opens_len (H : List Ev) (p : Nat) : (opensI H p).length ≤ H.length := by
  unfold opensI
  refine Nat.le_trans (List.length_filter_le _ _) ?_
  have := stepsI_len (H.take p)
  simp at this ⊢; omega
end EC
end
/-! ## M5 -/
section
set_option Elab.async false
set_option linter.all false
set_option maxRecDepth 100000
set_option maxHeartbeats 2000000
/-! M5: the word at a cut. -/
namespace EC
open PySem PySem.Spec PyProof.Rows L2
theorem fold_do : ∀ (ps : List (Ev × Nat)) (acc : List D) (a b : Sl), ∃ a' b', ps.foldl (fun (s : List D × Sl × Sl) p => (if p.1.isDo = true then s.1 ++ [.tup [.int (p.2 : Nat), .int 1]] else s.1, Sl.d (.int (p.2 : Nat)), Sl.d p.1.enc)) (acc, a, b) = (acc ++ pairsD (ltrs ((ps.filter fun p => p.1.isDo).map (·.2)) 1), a', b')
  | [], acc, a, b => ⟨a, b, by simp [pairsD, ltrs]⟩
  | p :: ps, acc, a, b => by
    obtain ⟨a', b', ih⟩ := fold_do ps (if p.1.isDo = true then acc ++ [.tup [.int (p.2 : Nat), .int 1]] else acc) (Sl.d (.int (p.2 : Nat))) (Sl.d p.1.enc)
    refine ⟨a', b', ?_⟩
    rw [List.foldl_cons, ih]
    cases h : p.1.isDo <;> simp [h, pairsD, ltrs, pairD]
theorem e_catS (xs ys : List D) : catS (.lst xs) (.lst ys) = chk (xs.length + ys.length ≤ 1000000) (ret (xs ++ ys)) := rfl
theorem ev_word_to {H : List Ev} (hl : H.length ≤ 1000) (p : Nat) : F_word_to [.d (hD H), .d (.int (p : Nat))] = ret (.tup (pairsD (wordI H p))) := by
  have hl2 : (H.take p).length ≤ 1000 := by simp; omega
  unfold F_word_to
  rw [e_fnS]
  simp [hD_take]
  have e : enumTK (hD (H.take p)) = ret ((H.take p).zipIdx.map fun p => .tup [.int (p.2 : Nat), p.1.enc]) := by
    simp only [hD, e_enumTK, enumD_map]
  rw [e, e_ret]
  obtain ⟨a', b', hf⟩ := fold_do (H.take p).zipIdx [] .no .no
  rw [forL_fold (fun p : Ev × Nat => D.tup [.int (p.2 : Nat), p.1.enc]) (fun s : List D × Sl × Sl => [.d (hD H), .d (.int (p : Nat)), .o s.1, s.2.1, s.2.2, .no])
    (fun s p => (if p.1.isDo = true then s.1 ++ [.tup [.int (p.2 : Nat), .int 1]] else s.1, Sl.d (.int (p.2 : Nat)), Sl.d p.1.enc)) (fun n s => s.1.length ≤ n) _ 0 ([], .no, .no) (by simp), hf]
  · have ho := opens_len H p
    simp only [e_ret, e_bnd, e_seqK_nx, e_retS, e_app, e_consL, e_asL, e_catE, vw_0o, vw_s, e_nilL, List.nil_append, e_one1]
    rw [lcE_mapY (xs := opensI H p) (enc := fun i => D.int (i : Nat)) (fun i => pairD ((i : Int), -1)) (by simp [ev_open_steps hl, natsD]) (by omega)]
    · have h1 := stepsI_len (H.take p)
      have h2 : (H.take p).length ≤ H.length := by simp; omega
      have h3 : (pairsD (wordI H p)) = pairsD (ltrs (stepsI (H.take p)) 1) ++ (opensI H p).map (fun i : Nat => pairD ((i : Int), -1)) := by simp [wordI, pairsD, ltrs]
      rw [h3]
      simp only [e_ret, e_catS]
      rw [chk_of (by simp only [pairsD, ltrs, stepsI, List.length_map] at h1 ⊢; omega)]
      simp only [e_ret, e_tupD, e_fnK_rt]
      rfl
    · intro i _
      simp [lcStep, pairD]
  · intro x hx m s hm hi
    obtain ⟨e, i⟩ := x
    obtain ⟨acc, s3, s4⟩ := s
    have hi : acc.length ≤ m := hi
    have hm : m < 1000000 := by simp at hm; omega
    cases e with
    | dos t k =>
      simp [Ev.enc, Ev.isDo]
      rw [e_appS (xs := acc) (by rfl)]
      simp
      exact ⟨chk_of (by omega) _, hi⟩
    | keep t => simp [Ev.enc, Ev.isDo]; omega
    | drop t => simp [Ev.enc, Ev.isDo]; omega
end EC
end
/-! ## P1 -/
section
set_option Elab.async false
set_option linter.all false
/-! P1: plain mathematics: orders and rings. -/
namespace EC
def Stuck (E : Int → Int → Bool) (Q : List Int) : Prop := ∀ t ∈ Q, ∃ u ∈ Q, E u t = true
def HasRing (E : Int → Int → Bool) (ks : List Int) : Prop := ∃ Q : List Int, Q ≠ [] ∧ (∀ t ∈ Q, t ∈ ks) ∧ Stuck E Q
def kfree (E : Int → Int → Bool) (rest : List Int) : List Int := rest.filter fun t => !(rest.any fun u => E u t)
theorem mem_kfree {E : Int → Int → Bool} {rest : List Int} {t : Int} : t ∈ kfree E rest ↔ t ∈ rest ∧ ∀ u ∈ rest, E u t = false := by
  unfold kfree
  rw [List.mem_filter, Bool.not_eq_true', List.any_eq_false]
  simp
theorem free_not_stuck {E : Int → Int → Bool} {rest Q : List Int} {t : Int} (h : t ∈ kfree E rest) (hs : Stuck E Q) (hq : ∀ q ∈ Q, q ∈ rest) : t ∉ Q := by
  intro ht
  obtain ⟨u, hu, he⟩ := hs t ht
  have := (mem_kfree.mp h).2 u (hq u hu)
  rw [he] at this; cases this
theorem stuck_of_free {E : Int → Int → Bool} {rest : List Int} (h : kfree E rest = []) : Stuck E rest := by
  intro t ht
  apply Classical.byContradiction
  intro hn
  have : t ∈ kfree E rest := mem_kfree.mpr ⟨ht, fun u hu => by
    cases he : E u t with
    | false => rfl
    | true => exact absurd ⟨u, hu, he⟩ hn⟩
  rw [h] at this; cases this
theorem len_le {α : Type} [DecidableEq α] : ∀ {a b : List α}, a.Nodup → (∀ x ∈ a, x ∈ b) → a.length ≤ b.length
  | [], _, _, _ => Nat.zero_le _
  | x :: a, b, h, hs => by
    rw [List.nodup_cons] at h
    have h1 := len_le (b := b.erase x) h.2 fun y hy => (List.mem_erase_of_ne fun (e : y = x) => h.1 (e ▸ hy)).mpr (hs y (List.mem_cons_of_mem _ hy))
    have h2 := hs x (by simp)
    rw [List.length_erase_of_mem h2] at h1
    have := List.length_pos_of_mem h2
    simp only [List.length_cons]; omega
/-! the law's order -/
def lrest (kept order : List Int) : List Int := kept.filter fun t => !decide (t ∈ order)
theorem mem_lrest {kept order : List Int} {t : Int} : t ∈ lrest kept order ↔ t ∈ kept ∧ t ∉ order := by
  unfold lrest; rw [List.mem_filter]; simp
def lstep (E : Int → Int → Bool) (kept order : List Int) : List Int := order ++ (kfree E (lrest kept order)).take 1
structure LInv (E : Int → Int → Bool) (kept order : List Int) : Prop where
  nd : order.Nodup
  sub : ∀ a ∈ order, a ∈ kept
  out : ∀ a ∈ order, ∀ t ∈ kept, t ∉ order → E t a = false
  pw : order.Pairwise fun a b => E b a = false
theorem LInv.step {E : Int → Int → Bool} {kept order : List Int} (h : LInv E kept order) : LInv E kept (lstep E kept order) := by
  unfold lstep
  cases hf : kfree E (lrest kept order) with
  | nil => simpa using h
  | cons t ts =>
    have ht : t ∈ kfree E (lrest kept order) := by rw [hf]; simp
    obtain ⟨h1, h2⟩ := mem_kfree.mp ht
    obtain ⟨h3, h4⟩ := mem_lrest.mp h1
    rw [List.take_succ_cons, List.take_zero]
    refine ⟨?_, ?_, ?_, ?_⟩
    · rw [List.nodup_append]
      refine ⟨h.nd, by simp, ?_⟩
      intro a ha b hb e
      rw [List.mem_singleton] at hb
      exact h4 (hb ▸ e ▸ ha)
    · intro a ha
      rcases List.mem_append.mp ha with ha | ha
      · exact h.sub a ha
      · rw [List.mem_singleton] at ha; exact ha ▸ h3
    · intro a ha s hs hn
      rw [List.mem_append, not_or] at hn
      rcases List.mem_append.mp ha with ha | ha
      · exact h.out a ha s hs hn.1
      · rw [List.mem_singleton] at ha
        rw [ha]
        exact h2 s (mem_lrest.mpr ⟨hs, hn.1⟩)
    · rw [List.pairwise_append]
      refine ⟨h.pw, by simp, ?_⟩
      intro a ha b hb
      rw [List.mem_singleton] at hb
      rw [hb]
      exact h.out a ha t h3 h4
def lawOrd (E : Int → Int → Bool) (kept : List Int) : Nat → List Int
  | 0 => []
  | n + 1 => lstep E kept (lawOrd E kept n)
theorem lawOrd_inv (E : Int → Int → Bool) (kept : List Int) : ∀ n, LInv E kept (lawOrd E kept n)
  | 0 => ⟨by simp [lawOrd], by simp [lawOrd], by simp [lawOrd], by simp [lawOrd]⟩
  | n + 1 => (lawOrd_inv E kept n).step
theorem lawOrd_out {E : Int → Int → Bool} {kept Q : List Int} (hs : Stuck E Q) (hq : ∀ q ∈ Q, q ∈ kept) : ∀ n, ∀ q ∈ Q, q ∉ lawOrd E kept n
  | 0, _, _ => by simp [lawOrd]
  | n + 1, q, hqq => by
    have ih := lawOrd_out hs hq n
    show q ∉ lstep E kept (lawOrd E kept n)
    unfold lstep
    rw [List.mem_append, not_or]
    refine ⟨ih q hqq, fun hm => ?_⟩
    exact free_not_stuck (List.mem_of_mem_take hm) hs (fun x hx => mem_lrest.mpr ⟨hq x hx, ih x hx⟩) hqq
theorem lawOrd_short {E : Int → Int → Bool} {kept : List Int} (h : HasRing E kept) (n : Nat) : (lawOrd E kept n).length < kept.length := by
  obtain ⟨Q, hn, hq, hs⟩ := h
  cases Q with
  | nil => exact absurd rfl hn
  | cons q Q =>
    have h1 := lawOrd_out hs hq n q (by simp)
    have hi := lawOrd_inv E kept n
    have := len_le (a := q :: lawOrd E kept n) (b := kept) (List.nodup_cons.mpr ⟨h1, hi.nd⟩) (by
      intro x hx
      rcases List.mem_cons.mp hx with rfl | hx
      · exact hq _ (by simp)
      · exact hi.sub x hx)
    simp at this; omega
theorem lawOrd_full {E : Int → Int → Bool} {kept : List Int} (hk : kept.Nodup) (h : ¬HasRing E kept) : ∀ n, n ≤ kept.length → (lawOrd E kept n).length = n
  | 0, _ => rfl
  | n + 1, hle => by
    have ih := lawOrd_full hk h n (by omega)
    show (lstep E kept (lawOrd E kept n)).length = n + 1
    unfold lstep
    cases hf : kfree E (lrest kept (lawOrd E kept n)) with
    | cons t ts => simp [ih]
    | nil =>
      exfalso
      apply h
      refine ⟨lrest kept (lawOrd E kept n), ?_, fun t ht => (mem_lrest.mp ht).1, stuck_of_free hf⟩
      intro he
      have : kept.length ≤ (lawOrd E kept n).length := len_le hk fun x hx => by
        apply Classical.byContradiction
        intro hn
        have : x ∈ lrest kept (lawOrd E kept n) := mem_lrest.mpr ⟨hx, hn⟩
        rw [he] at this; cases this
      omega
theorem sub_perm {α : Type} [DecidableEq α] : ∀ {a b : List α}, a.Nodup → (∀ x ∈ a, x ∈ b) → a.length = b.length → a.Perm b
  | [], b, _, _, hl => by
    have : b = [] := List.length_eq_zero_iff.mp hl.symm
    subst this; exact List.Perm.refl _
  | x :: a, b, h, hs, hl => by
    rw [List.nodup_cons] at h
    have h2 := hs x (by simp)
    have := List.length_pos_of_mem h2
    have h1 := sub_perm (b := b.erase x) h.2 (fun y hy => (List.mem_erase_of_ne fun (e : y = x) => h.1 (e ▸ hy)).mpr (hs y (List.mem_cons_of_mem _ hy))) (by
      rw [List.length_erase_of_mem h2]; simp only [List.length_cons] at hl; omega)
    exact (h1.cons x).trans (List.perm_cons_erase h2).symm
theorem lawOrd_perm {E : Int → Int → Bool} {kept : List Int} (hk : kept.Nodup) (h : ¬HasRing E kept) : (lawOrd E kept kept.length).Perm kept :=
  sub_perm (lawOrd_inv E kept _).nd (lawOrd_inv E kept _).sub (lawOrd_full hk h _ (Nat.le_refl _))
/-! the judge's order -/
structure JInv (E : Int → Int → Bool) (kept rest : List Int) : Prop where
  sub : ∀ a ∈ rest, a ∈ kept
  all : ∀ Q : List Int, (∀ q ∈ Q, q ∈ kept) → Stuck E Q → ∀ q ∈ Q, q ∈ rest
theorem JInv.step {E : Int → Int → Bool} {kept rest : List Int} {t : Int} (h : JInv E kept rest) (ht : t ∈ kfree E rest) : JInv E kept (rest.filter fun u => !decide (u = t)) := by
  refine ⟨fun a ha => h.sub a (List.mem_filter.mp ha).1, fun Q hQ hs q hq => List.mem_filter.mpr ⟨h.all Q hQ hs q hq, ?_⟩⟩
  have := free_not_stuck ht hs (h.all Q hQ hs)
  simp only [Bool.not_eq_true', decide_eq_false_iff_not]
  intro e; exact this (e ▸ hq)
theorem JInv.fin {E : Int → Int → Bool} {kept rest : List Int} (h : JInv E kept rest) (hf : kfree E rest = []) : rest ≠ [] ↔ HasRing E kept := by
  constructor
  · intro hn; exact ⟨rest, hn, h.sub, stuck_of_free hf⟩
  · rintro ⟨Q, hn, hq, hs⟩ he
    cases Q with
    | nil => exact hn rfl
    | cons q Q =>
      have := h.all _ hq hs q (by simp)
      rw [he] at this; cases this
end EC
end
/-! ## P2 -/
section
set_option Elab.async false
set_option linter.all false
/-! P2: plain mathematics: striking. -/
namespace EC
abbrev Lt := Int × Int
def loSplit (i : Int) : List Lt → Option (List Lt × Int × List Lt)
  | [] => none
  | (j, s) :: w => if j = i then some ([], s, w) else (loSplit i w).map fun p => ((j, s) :: p.1, p.2.1, p.2.2)
def loTry (cl : Int → Int → Bool) : List Lt → Option (List Lt)
  | [] => none
  | (i, s) :: w => match loSplit i w with
    | some (mid, s', rest) => if s' = -s ∧ (mid.all fun l => !cl i l.1) = true then some (mid ++ rest) else (loTry cl w).map fun v => (i, s) :: v
    | none => (loTry cl w).map fun v => (i, s) :: v
def loRun (cl : Int → Int → Bool) : Nat → List Lt → List Lt
  | 0, w => w
  | n + 1, w => match loTry cl w with
    | some v => loRun cl n v
    | none => w
theorem loSplit_some {i : Int} : ∀ {w mid rest : List Lt} {s : Int}, loSplit i w = some (mid, s, rest) → w = mid ++ (i, s) :: rest ∧ ∀ l ∈ mid, l.1 ≠ i
  | [], _, _, _, h => by simp [loSplit] at h
  | (j, t) :: w, mid, rest, s, h => by
    unfold loSplit at h
    by_cases hj : j = i
    · rw [if_pos hj] at h
      injection h with h
      injection h with h1 h2
      injection h2 with h2 h3
      subst hj; subst h1; subst h2; subst h3
      simp
    · rw [if_neg hj] at h
      obtain ⟨⟨m, s1, r⟩, hp, hq⟩ := Option.map_eq_some_iff.mp h
      obtain ⟨h1, h2⟩ := loSplit_some hp
      injection hq with hq1 hq2
      injection hq2 with hq2 hq3
      simp only at hq1 hq2 hq3
      subst hq1; subst hq2; subst hq3; subst h1
      refine ⟨rfl, ?_⟩
      intro l hl
      rcases List.mem_cons.mp hl with rfl | hl
      · exact hj
      · exact h2 l hl
theorem loSplit_of {i s : Int} {rest : List Lt} : ∀ {mid : List Lt}, (∀ l ∈ mid, l.1 ≠ i) → loSplit i (mid ++ (i, s) :: rest) = some (mid, s, rest)
  | [], _ => by simp [loSplit]
  | (j, t) :: mid, h => by
    have hj : j ≠ i := h (j, t) (by simp)
    simp [loSplit, hj, loSplit_of (mid := mid) fun l hl => h l (List.mem_cons_of_mem _ hl)]
theorem loTry_some {cl : Int → Int → Bool} : ∀ {w v : List Lt}, loTry cl w = some v → ∃ pre i s mid rest, w = pre ++ (i, s) :: (mid ++ (i, -s) :: rest) ∧ (∀ l ∈ mid, l.1 ≠ i) ∧ v = pre ++ (mid ++ rest)
  | [], _, h => by simp [loTry] at h
  | (i, s) :: w, v, h => by
    have go : ∀ {v}, (loTry cl w).map (fun v => (i, s) :: v) = some v → ∃ pre i' s' mid rest, (i, s) :: w = pre ++ (i', s') :: (mid ++ (i', -s') :: rest) ∧ (∀ l ∈ mid, l.1 ≠ i') ∧ v = pre ++ (mid ++ rest) := by
      intro v hv
      obtain ⟨u, hu, hq⟩ := Option.map_eq_some_iff.mp hv
      obtain ⟨pre, i', s', mid, rest, h1, h2, h3⟩ := loTry_some hu
      exact ⟨(i, s) :: pre, i', s', mid, rest, by rw [h1]; rfl, h2, by rw [← hq, h3]; rfl⟩
    unfold loTry at h
    split at h
    · rename_i mid s' rest hs
      split at h
      · rename_i hc
        injection h with h
        obtain ⟨h1, h2⟩ := loSplit_some hs
        refine ⟨[], i, s, mid, rest, ?_, h2, by rw [← h]; rfl⟩
        rw [h1, hc.1]; rfl
      · exact go h
    · exact go h
theorem loTry_of {cl : Int → Int → Bool} {i s : Int} {mid rest : List Lt} (hm : ∀ l ∈ mid, l.1 ≠ i) (hc : ∀ l ∈ mid, cl i l.1 = false) : ∀ pre : List Lt, loTry cl (pre ++ (i, s) :: (mid ++ (i, -s) :: rest)) ≠ none
  | [] => by
    rw [List.nil_append]
    unfold loTry
    rw [loSplit_of hm]
    simp only
    rw [if_pos ⟨trivial, by rw [List.all_eq_true]; intro l hl; rw [hc l hl]; rfl⟩]
    simp
  | (j, t) :: pre => by
    have ih := loTry_of hm hc pre (rest := rest) (s := s)
    rw [List.cons_append]
    unfold loTry
    have go : (loTry cl (pre ++ (i, s) :: (mid ++ (i, -s) :: rest))).map (fun v => (j, t) :: v) ≠ none := by
      simpa using ih
    split
    · split
      · simp
      · exact go
    · exact go
/-! the word of a set -/
def ltr (s : Int) (i : Nat) : Lt := ((i : Int), s)
def Wq (S : List Nat) (op q : Nat → Bool) : List Lt := (S.filter fun i => !op i || q i).map (ltr 1) ++ ((S.filter q).reverse).map (ltr (-1))
theorem Wq_sign {S : List Nat} {op q : Nat → Bool} {l : Lt} (h : l ∈ Wq S op q) : ∃ i ∈ S, (l = ltr 1 i ∧ (!op i || q i) = true) ∨ (l = ltr (-1) i ∧ q i = true) := by
  unfold Wq at h
  rcases List.mem_append.mp h with h | h
  · obtain ⟨i, hi, rfl⟩ := List.mem_map.mp h
    exact ⟨i, (List.mem_filter.mp hi).1, .inl ⟨rfl, (List.mem_filter.mp hi).2⟩⟩
  · obtain ⟨i, hi, rfl⟩ := List.mem_map.mp h
    have := List.mem_filter.mp (List.mem_reverse.mp hi)
    exact ⟨i, this.1, .inr ⟨rfl, this.2⟩⟩
theorem ltr_inj {s : Int} {i j : Nat} (h : ltr s i = ltr s j) : i = j := by
  unfold ltr at h; injection h with h1 h2; omega
theorem nodup_map {α β : Type} {f : α → β} (hf : ∀ a b, f a = f b → a = b) {xs : List α} (h : xs.Nodup) : (xs.map f).Nodup := by
  unfold List.Nodup at *
  rw [List.pairwise_map]
  exact h.imp fun hn e => hn (hf _ _ e)
theorem Wq_nodup {S : List Nat} (hS : S.Nodup) (op q : Nat → Bool) : (Wq S op q).Nodup := by
  unfold Wq
  rw [List.nodup_append]
  refine ⟨nodup_map (fun a b => ltr_inj) (hS.filter _), nodup_map (fun a b => ltr_inj) ((List.pairwise_reverse.mpr ((hS.filter q).imp fun h e => h e.symm))), ?_⟩
  intro a ha b hb e
  obtain ⟨i, _, rfl⟩ := List.mem_map.mp ha
  obtain ⟨j, _, rfl⟩ := List.mem_map.mp hb
  unfold ltr at e; injection e with e1 e2; cases e2
theorem Wq_minus {S : List Nat} {op q : Nat → Bool} {i : Nat} (hi : op i = true) : (Wq S op q).filter (fun l => !decide (l.1 = (i : Int))) = Wq S op (fun j => q j && !decide (j = i)) := by
  have e : ∀ (s : Int) (j : Nat), (!decide ((ltr s j).1 = (i : Int))) = !decide (j = i) := by
    intro s j
    have : ((ltr s j).1 = (i : Int)) ↔ j = i := by unfold ltr; omega
    rw [decide_eq_decide.mpr this]
  unfold Wq
  rw [List.filter_append, List.filter_map, List.filter_map, List.filter_reverse, List.filter_filter, List.filter_filter]
  congr 2
  · congr 1; funext j
    show ((!decide ((ltr 1 j).1 = (i : Int))) && _) = _
    rw [e]
    by_cases hj : j = i
    · subst hj; simp [hi]
    · simp [hj]
  · congr 2; funext j
    show ((!decide ((ltr (-1) j).1 = (i : Int))) && _) = _
    rw [e, Bool.and_comm]
theorem loTry_Wq {cl : Int → Int → Bool} {S : List Nat} (hS : S.Nodup) {op q : Nat → Bool} (hq : ∀ i, q i = true → op i = true) {v : List Lt} (h : loTry cl (Wq S op q) = some v) :
    ∃ i ∈ S, q i = true ∧ v = Wq S op (fun j => q j && !decide (j = i)) := by
  obtain ⟨pre, i, s, mid, rest, h1, h2, h3⟩ := loTry_some h
  have nd := Wq_nodup hS op q
  have m1 : (i, s) ∈ Wq S op q := by rw [h1]; simp
  have m2 : (i, -s) ∈ Wq S op q := by rw [h1]; simp
  obtain ⟨n, hn, hs1⟩ := Wq_sign m1
  obtain ⟨n', hn', hs2⟩ := Wq_sign m2
  have hin : i = (n : Int) ∧ (s = 1 ∨ s = -1) := by
    rcases hs1 with ⟨e, _⟩ | ⟨e, _⟩ <;> (unfold ltr at e; injection e with e1 e2; exact ⟨e1, by omega⟩)
  have hin' : i = (n' : Int) := by
    rcases hs2 with ⟨e, _⟩ | ⟨e, _⟩ <;> (unfold ltr at e; injection e with e1 e2)
  have hnn : n' = n := by omega
  subst hnn
  have hqn : q n' = true := by
    rcases hs1 with ⟨e, _⟩ | ⟨e, h⟩
    · rcases hs2 with ⟨e', _⟩ | ⟨e', h⟩
      · unfold ltr at e e'; injection e with _ e2; injection e' with _ e2'; omega
      · exact h
    · exact h
  refine ⟨n', hn, hqn, ?_⟩
  rw [← Wq_minus (hq _ hqn), h3, h1]
  rw [h1] at nd
  have hsgn : ∀ l ∈ Wq S op q, l.2 = 1 ∨ l.2 = -1 := by
    intro l hl
    obtain ⟨k, _, hk⟩ := Wq_sign hl
    rcases hk with ⟨e, _⟩ | ⟨e, _⟩ <;> (rw [e]; simp [ltr])
  have only : ∀ l : Lt, l.1 = i → (l.2 = 1 ∨ l.2 = -1) → l = (i, s) ∨ l = (i, -s) := by
    intro l hl hb
    obtain ⟨a, b⟩ := l
    simp only at hl hb
    rw [hl]
    rcases hin.2 with e1 | e1 <;> rcases hb with e2 | e2 <;> rw [e1, e2] <;> simp
  have hpre : ∀ l ∈ pre, l.1 ≠ i := by
    intro l hl e
    have hm : l ∈ Wq S op q := by rw [h1]; simp [hl]
    rw [List.nodup_append] at nd
    rcases only l e (hsgn l hm) with rfl | rfl
    · exact nd.2.2 _ hl _ (by simp) rfl
    · exact nd.2.2 _ hl _ (by simp) rfl
  have hrest : ∀ l ∈ rest, l.1 ≠ i := by
    intro l hl e
    have hm : l ∈ Wq S op q := by rw [h1]; simp [hl]
    rw [List.nodup_append, List.nodup_cons, List.nodup_append, List.nodup_cons] at nd
    rcases only l e (hsgn l hm) with rfl | rfl
    · exact nd.2.1.1 (by simp [hl])
    · exact nd.2.1.2.2.1.1 hl
  have keep : ∀ xs : List Lt, (∀ l ∈ xs, l.1 ≠ i) → xs.filter (fun l => !decide (l.1 = i)) = xs := by
    intro xs hx
    rw [List.filter_eq_self]
    intro l hl
    simp [hx l hl]
  rw [← hin.1, List.filter_append, List.filter_cons, List.filter_append, List.filter_cons, keep pre hpre, keep mid h2, keep rest hrest]
  simp
theorem last_split {q : Nat → Bool} : ∀ {S : List Nat}, S.filter q ≠ [] → ∃ A o B, S = A ++ o :: B ∧ q o = true ∧ ∀ j ∈ B, q j = false
  | [], h => absurd rfl h
  | x :: S, h => by
    by_cases hS : S.filter q = []
    · refine ⟨[], x, S, rfl, ?_, ?_⟩
      · cases hx : q x with
        | true => rfl
        | false => rw [List.filter_cons_of_neg (by simp [hx])] at h; exact absurd hS h
      · intro j hj
        rw [List.filter_eq_nil_iff] at hS
        simpa using hS j hj
    · obtain ⟨A, o, B, h1, h2, h3⟩ := last_split hS
      exact ⟨x :: A, o, B, by rw [h1]; rfl, h2, h3⟩
theorem loTry_go {cl : Int → Int → Bool} {S : List Nat} (hS : S.Pairwise (· < ·)) {op q : Nat → Bool} (hq : ∀ i, q i = true → op i = true)
    (hc : ∀ i ∈ S, ∀ j ∈ S, i < j → op i = true → op j = false → cl i j = false) (hn : S.filter q ≠ []) : loTry cl (Wq S op q) ≠ none := by
  obtain ⟨A, o, B, h1, h2, h3⟩ := last_split hn
  have hp := hS
  rw [h1, List.pairwise_append, List.pairwise_cons] at hp
  have hB : B.filter q = [] := by rw [List.filter_eq_nil_iff]; intro j hj; simp [h3 j hj]
  have e : Wq S op q = ((A.filter fun i => !op i || q i).map (ltr 1)) ++ ((o : Int), 1) :: (((B.filter fun i => !op i || q i).map (ltr 1)) ++ ((o : Int), -1) :: ((A.filter q).reverse.map (ltr (-1)))) := by
    unfold Wq
    rw [h1]
    simp [List.filter_cons, h2, hB, ltr]
  rw [e]
  apply loTry_of
  · intro l hl
    obtain ⟨j, hj, rfl⟩ := List.mem_map.mp hl
    have := hp.2.1.1 j (List.mem_filter.mp hj).1
    unfold ltr; simp; omega
  · intro l hl
    obtain ⟨j, hj, rfl⟩ := List.mem_map.mp hl
    obtain ⟨hj1, hj2⟩ := List.mem_filter.mp hj
    have := hp.2.1.1 j hj1
    have hqj := h3 j hj1
    rw [hqj, Bool.or_false, Bool.not_eq_true'] at hj2
    exact hc o (by rw [h1]; simp) j (by rw [h1]; simp [hj1]) this (hq _ h2) hj2
theorem Wq_congr {S : List Nat} {op q q' : Nat → Bool} (h : ∀ i ∈ S, q i = q' i) : Wq S op q = Wq S op q' := by
  unfold Wq
  rw [List.filter_congr h, List.filter_congr (p := fun i => !op i || q i) (q := fun i => !op i || q' i) fun i hi => by rw [h i hi]]
theorem filter_minus_len {S : List Nat} (hS : S.Nodup) {q : Nat → Bool} {i : Nat} (hi : i ∈ S) (hq : q i = true) : (S.filter fun j => q j && !decide (j = i)).length < (S.filter q).length := by
  have hm : i ∈ S.filter q := List.mem_filter.mpr ⟨hi, hq⟩
  have := len_le (a := i :: S.filter fun j => q j && !decide (j = i)) (b := S.filter q) (List.nodup_cons.mpr ⟨by simp, hS.filter _⟩) (by
    intro x hx
    rcases List.mem_cons.mp hx with rfl | hx
    · exact hm
    · obtain ⟨h1, h2⟩ := List.mem_filter.mp hx
      rw [Bool.and_eq_true] at h2
      exact List.mem_filter.mpr ⟨h1, h2.1⟩)
  simp only [List.length_cons] at this
  omega
theorem loRun_Wq {cl : Int → Int → Bool} {S : List Nat} (hS : S.Pairwise (· < ·)) {op : Nat → Bool}
    (hc : ∀ i ∈ S, ∀ j ∈ S, i < j → op i = true → op j = false → cl i j = false) : ∀ (n : Nat) (q : Nat → Bool), (∀ i, q i = true → op i = true) → (S.filter q).length ≤ n → loRun cl n (Wq S op q) = (S.filter fun i => !op i).map (ltr 1)
  | n, q, hq, hn => by
    have nd : S.Nodup := hS.imp fun h => Nat.ne_of_lt h
    by_cases he : S.filter q = []
    · have hf : ∀ i ∈ S, q i = false := by
        rw [List.filter_eq_nil_iff] at he
        intro i hi; simpa using he i hi
      have e : Wq S op q = (S.filter fun i => !op i).map (ltr 1) := by
        rw [Wq_congr hf]; unfold Wq; simp
      have e2 : loTry cl (Wq S op q) = none := by
        cases ht : loTry cl (Wq S op q) with
        | none => rfl
        | some v =>
          obtain ⟨i, hi, hqi, _⟩ := loTry_Wq nd hq ht
          rw [hf i hi] at hqi; cases hqi
      cases n with
      | zero => exact e
      | succ n => unfold loRun; rw [e2]; exact e
    · cases n with
      | zero => exact absurd (List.length_eq_zero_iff.mp (Nat.le_zero.mp hn)) he
      | succ n =>
        cases ht : loTry cl (Wq S op q) with
        | none => exact absurd ht (loTry_go hS hq hc he)
        | some v =>
          obtain ⟨i, hi, hqi, hv⟩ := loTry_Wq nd hq ht
          unfold loRun
          rw [ht]
          simp only
          rw [hv]
          exact loRun_Wq hS hc n _ (fun j hj => by rw [Bool.and_eq_true] at hj; exact hq j hj.1) (by have := filter_minus_len nd hi hqi; omega)
/-! the letters of a run are among the word's -/
theorem loTry_mem {cl : Int → Int → Bool} {w v : List Lt} (h : loTry cl w = some v) : ∀ l ∈ v, l ∈ w := by
  obtain ⟨pre, i, s, mid, rest, h1, h2, h3⟩ := loTry_some h
  subst h1; subst h3
  intro l hl
  simp only [List.mem_append, List.mem_cons] at hl ⊢
  rcases hl with h | h | h <;> simp [h]
theorem loRun_mem {cl : Int → Int → Bool} : ∀ (n : Nat) {w : List Lt}, ∀ l ∈ loRun cl n w, l ∈ w
  | 0, _, l, h => h
  | n + 1, w, l, h => by
    unfold loRun at h
    split at h
    · rename_i v hv
      exact loTry_mem hv l (loRun_mem n l h)
    · exact h
theorem loTry_len {cl : Int → Int → Bool} {w v : List Lt} (h : loTry cl w = some v) : v.length + 2 = w.length := by
  obtain ⟨pre, i, s, mid, rest, h1, h2, h3⟩ := loTry_some h
  subst h1; subst h3
  simp; omega
end EC
end
/-! ## P3 -/
section
set_option Elab.async false
set_option linter.all false
/-! P3: plain mathematics: series and rings. -/
namespace EC
def ser (nm : Nat → Int) (S : List Nat) (order : List Int) : List Lt := order.flatMap fun t => (S.filter fun i => decide (nm i = t)).map (ltr 1)
theorem filter_or_perm {p q : Nat → Bool} : ∀ {S : List Nat}, (∀ i ∈ S, p i = true → q i = false) → (S.filter fun i => p i || q i).Perm (S.filter p ++ S.filter q)
  | [], _ => List.Perm.refl _
  | x :: S, h => by
    have ih := filter_or_perm (p := p) (q := q) (S := S) fun i hi => h i (List.mem_cons_of_mem _ hi)
    have hx := h x (by simp)
    cases hp : p x with
    | true =>
      have := hx hp
      simp only [List.filter_cons, hp, this, Bool.true_or, if_true]
      simpa using ih
    | false =>
      cases hq : q x with
      | true => simp only [List.filter_cons, hp, hq, Bool.or_true, if_true]; simpa using (ih.cons x).trans List.perm_middle.symm
      | false => simp only [List.filter_cons, hp, hq]; simpa using ih
theorem ser_perm {nm : Nat → Int} {S : List Nat} : ∀ {order : List Int}, order.Nodup → (ser nm S order).Perm ((S.filter fun i => decide (nm i ∈ order)).map (ltr 1))
  | [], _ => by simp [ser]
  | t :: order, h => by
    rw [List.nodup_cons] at h
    have ih := ser_perm (nm := nm) (S := S) h.2
    have e : (S.filter fun i => decide (nm i ∈ t :: order)) = S.filter fun i => decide (nm i = t) || decide (nm i ∈ order) := by
      congr; funext i; simp
    have e2 : ser nm S (t :: order) = (S.filter fun i => decide (nm i = t)).map (ltr 1) ++ ser nm S order := by simp [ser]
    rw [e, e2]
    have hp := filter_or_perm (p := fun i => decide (nm i = t)) (q := fun i => decide (nm i ∈ order)) (S := S) (by
      intro i _ hi
      have hi : nm i = t := by simpa using hi
      simp [hi, h.1])
    refine ((ih.append_left _).trans ?_)
    rw [← List.map_append]
    exact (hp.map _).symm
theorem ser_pw {nm : Nat → Int} {S : List Nat} {order : List Int} {E : Int → Int → Bool} {cl : Int → Int → Bool} (hS : S.Pairwise (· < ·)) (hn : order.Nodup) (ho : order.Pairwise fun a b => E b a = false)
    (hE : ∀ i ∈ S, ∀ j ∈ S, i < j → cl i j = true → nm i ≠ nm j → nm i ∈ order → nm j ∈ order → E (nm i) (nm j) = true) : (ser nm S order).Pairwise fun l m => ¬(m.1 < l.1 ∧ cl m.1 l.1 = true) := by
  unfold ser
  rw [List.pairwise_flatMap]
  constructor
  · intro t _
    rw [List.pairwise_map]
    refine (hS.filter _).imp ?_
    intro i j hij hh
    have := hh.1
    unfold ltr at this; simp at this; omega
  · have hm : order.Pairwise fun a b => a ∈ order ∧ b ∈ order := by
      rw [List.pairwise_iff_getElem]; intro i j hi hj _; exact ⟨List.getElem_mem _, List.getElem_mem _⟩
    refine (hm.and (ho.and hn)).imp ?_
    rintro a b ⟨⟨ha, hb⟩, he, hne⟩ l hl m hmm ⟨h1, h2⟩
    obtain ⟨i, hi, rfl⟩ := List.mem_map.mp hl
    obtain ⟨j, hj, rfl⟩ := List.mem_map.mp hmm
    obtain ⟨hi1, hi2⟩ := List.mem_filter.mp hi
    obtain ⟨hj1, hj2⟩ := List.mem_filter.mp hj
    have hi2 : nm i = a := by simpa using hi2
    have hj2 : nm j = b := by simpa using hj2
    have hlt : j < i := by unfold ltr at h1; simp at h1; omega
    have := hE j hj1 i hi1 hlt h2 (by rw [hi2, hj2]; exact fun e => hne e.symm) (by rw [hj2]; exact hb) (by rw [hi2]; exact ha)
    rw [hi2, hj2, he] at this; cases this
def idxL (w : List Lt) (l : Lt) : Nat := (w.findIdx? fun z => decide (z = l)).getD 0
theorem idxL_some {w : List Lt} {l : Lt} (h : l ∈ w) : (w.findIdx? fun z => decide (z = l)) = some (idxL w l) ∧ ∃ hk : idxL w l < w.length, w[idxL w l] = l := by
  cases hf : w.findIdx? fun z => decide (z = l) with
  | none =>
    rw [List.findIdx?_eq_none_iff] at hf
    have := hf l h
    simp at this
  | some k =>
    have e : idxL w l = k := by unfold idxL; rw [hf]; rfl
    rw [e]
    obtain ⟨hk, h1, _⟩ := List.findIdx?_eq_some_iff_getElem.mp hf
    exact ⟨rfl, hk, by simpa using h1⟩
def alikeT (cl : Int → Int → Bool) (other : List Lt) (h : Lt) (w : List Lt) : Bool := w.all fun g => !((!decide (h.1 = g.1)) && cl h.1 g.1 && decide (idxL other g < idxL other h))
def alikeB (cl : Int → Int → Bool) (other : List Lt) : List Lt → Bool
  | [] => true
  | h :: w => alikeT cl other h w && alikeB cl other w
theorem alikeB_of {cl : Int → Int → Bool} {other : List Lt} (hp : other.Pairwise fun l m => ¬(m.1 < l.1 ∧ cl m.1 l.1 = true)) : ∀ {one : List Lt}, (∀ l ∈ one, l ∈ other) → one.Pairwise (fun l m => l.1 < m.1) → alikeB cl other one = true
  | [], _, _ => rfl
  | h :: w, hm, ho => by
    rw [List.pairwise_cons] at ho
    have ih := alikeB_of hp (one := w) (fun l hl => hm l (List.mem_cons_of_mem _ hl)) ho.2
    unfold alikeB
    rw [ih, Bool.and_true]
    unfold alikeT
    rw [List.all_eq_true]
    intro g hg
    rw [Bool.not_eq_true']
    apply Bool.eq_false_iff.mpr
    intro hh
    rw [Bool.and_eq_true, Bool.and_eq_true, decide_eq_true_eq] at hh
    obtain ⟨⟨_, hc⟩, hi⟩ := hh
    obtain ⟨_, k1, e1⟩ := idxL_some (hm h (by simp))
    obtain ⟨_, k2, e2⟩ := idxL_some (hm g (by simp [hg]))
    have := List.pairwise_iff_getElem.mp hp _ _ k2 k1 hi
    rw [e1, e2] at this
    exact this ⟨ho.1 g hg, hc⟩
/-! rings -/
def Adj {α : Type} (R : α → α → Prop) : List α → Prop
  | a :: b :: l => R a b ∧ Adj R (b :: l)
  | _ => True
def cyc {α : Type} (row : List α) : List (α × α) := row.zip (row.drop 1 ++ row.take 1)
theorem Adj.pre {α : Type} {R : α → α → Prop} : ∀ {l m : List α}, Adj R (l ++ m) → Adj R l
  | [], _, _ => trivial
  | [_], _, _ => trivial
  | a :: b :: l, m, h => ⟨h.1, Adj.pre (l := b :: l) (m := m) h.2⟩
theorem Adj.snoc {α : Type} {R : α → α → Prop} {t : α} : ∀ {l : List α}, Adj R l → (∀ c, l.getLast? = some c → R c t) → Adj R (l ++ [t])
  | [], _, _ => trivial
  | [a], _, h => ⟨h a rfl, trivial⟩
  | a :: b :: l, h, h2 => ⟨h.1, Adj.snoc (l := b :: l) h.2 fun c hc => h2 c (by rw [List.getLast?_cons_cons]; exact hc)⟩
theorem zip_all {α : Type} {R : α → α → Prop} {x : α} : ∀ {l : List α} {a : α}, Adj R (a :: l) → (∀ c, (a :: l).getLast? = some c → R c x) → ∀ p ∈ (a :: l).zip (l ++ [x]), R p.1 p.2
  | [], a, _, h, p, hp => by
    simp at hp; subst hp; exact h a rfl
  | b :: l, a, h1, h, p, hp => by
    rw [List.cons_append, List.zip_cons_cons] at hp
    rcases List.mem_cons.mp hp with rfl | hp
    · exact h1.1
    · exact zip_all h1.2 (fun c hc => h c (by rw [List.getLast?_cons_cons]; exact hc)) p hp
theorem cyc_all {α : Type} {R : α → α → Prop} {l : List α} {a : α} (h1 : Adj R (a :: l)) (h : ∀ c, (a :: l).getLast? = some c → R c a) : ∀ p ∈ cyc (a :: l), R p.1 p.2 := by
  unfold cyc; exact zip_all h1 h
theorem zip_ne {α : Type} {x : α} : ∀ {l : List α} {a : α}, (a :: l).Nodup → (l ≠ [] → x ∉ l) → (l = [] → x ≠ a) → ∀ p ∈ (a :: l).zip (l ++ [x]), p.1 ≠ p.2
  | [], a, _, _, h, p, hp => by
    simp at hp; subst hp; exact fun e => h rfl e.symm
  | b :: l, a, h1, h2, _, p, hp => by
    rw [List.cons_append, List.zip_cons_cons] at hp
    rw [List.nodup_cons] at h1
    have hx := h2 (by simp)
    rw [List.mem_cons, not_or] at hx
    rcases List.mem_cons.mp hp with rfl | hp
    · exact fun e => h1.1 (by simp [show a = b from e])
    · exact zip_ne h1.2 (fun _ => hx.2) (fun _ => hx.1) p hp
theorem cyc_ne {α : Type} {row : List α} (hn : row.Nodup) (hl : 2 ≤ row.length) : ∀ p ∈ cyc row, p.1 ≠ p.2 := by
  match row, hn, hl with
  | a :: b :: l, hn, _ =>
    unfold cyc
    exact zip_ne hn (fun _ => (List.nodup_cons.mp hn).1) (fun h => by cases h)
theorem cyc_snd {α : Type} (row : List α) : (cyc row).map (·.2) = row.drop 1 ++ row.take 1 := by
  unfold cyc
  rw [List.map_snd_zip]
  cases row <;> simp
theorem cyc_mem {α : Type} {row : List α} {p : α × α} (h : p ∈ cyc row) : p.1 ∈ row ∧ p.2 ∈ row := by
  unfold cyc at h
  obtain ⟨h1, h2⟩ := List.of_mem_zip (a := p.1) (b := p.2) h
  refine ⟨h1, ?_⟩
  rcases List.mem_append.mp h2 with h | h
  · exact List.mem_of_mem_drop h
  · exact List.mem_of_mem_take h
theorem cyc_hit {α : Type} {row : List α} {t : α} (h : t ∈ row) : ∃ p ∈ cyc row, p.2 = t := by
  have : t ∈ (cyc row).map (·.2) := by
    rw [cyc_snd]
    cases row with
    | nil => cases h
    | cons a l => simp at h ⊢; exact h.symm
  exact List.mem_map.mp this
theorem ring_of_cyc {E : Int → Int → Bool} {kept row : List Int} (hs : ∀ t ∈ row, t ∈ kept) (hn : row ≠ []) (h : ∀ p ∈ cyc row, E p.1 p.2 = true) : HasRing E kept :=
  ⟨row, hn, hs, fun t ht => by
    obtain ⟨p, hp, e⟩ := cyc_hit ht
    exact ⟨p.1, (cyc_mem hp).1, e ▸ h p hp⟩⟩
/-- the judge's ring -/
theorem ring_ok {E : Int → Int → Bool} (hirr : ∀ t, E t t = false) {A B : List Int} {x c : Int} (hadj : Adj (fun a b => E a b = true) (A ++ x :: B).reverse) (hc : (A ++ x :: B).getLast? = some c) (he : E x c = true) :
    2 ≤ (x :: B).reverse.length ∧ ∀ p ∈ cyc (x :: B).reverse, E p.1 p.2 = true := by
  have hlast : (x :: B).getLast? = some c := by
    rw [List.getLast?_append] at hc
    cases hB : (x :: B).getLast? with
    | none => simp at hB
    | some d => rw [hB] at hc; simpa using hc
  have hB : B ≠ [] := by
    rintro rfl
    simp at hlast
    rw [hlast, hirr] at he; cases he
  refine ⟨by cases B with
    | nil => exact absurd rfl hB
    | cons b B => simp, ?_⟩
  have h1 : Adj (fun a b => E a b = true) (x :: B).reverse := by
    rw [List.reverse_append] at hadj
    exact hadj.pre
  cases hr : (x :: B).reverse with
  | nil => simp at hr
  | cons a l =>
    rw [hr] at h1
    apply cyc_all h1
    intro d hd
    rw [← hr, List.getLast?_reverse] at hd
    have ha : a = c := by
      have := congrArg List.head? hr
      rw [List.head?_reverse, hlast] at this
      simpa using this.symm
    simp at hd
    rw [← hd, ha]; exact he
end EC
end
/-! ## M6 -/
section
set_option Elab.async false
set_option linter.all false
set_option maxRecDepth 100000
set_option maxHeartbeats 2000000
/-! M6: the table. -/
namespace EC
open PySem PySem.Spec PyProof.Rows L2
theorem pairwise_zip {α : Type} {R : α → α → Prop} : ∀ {xs : List α}, xs.Pairwise R → ∀ p ∈ xs.zip (xs.drop 1), R p.1 p.2
  | [], _, p, hp => by simp at hp
  | [a], _, p, hp => by simp at hp
  | a :: b :: l, h, p, hp => by
    rw [List.pairwise_cons] at h
    simp only [List.drop_succ_cons, List.drop_zero, List.zip_cons_cons, List.mem_cons] at hp
    rcases hp with rfl | hp
    · exact h.1 b (by simp)
    · exact pairwise_zip h.2 p (by simpa using hp)
@[simp] theorem cut_1 (ds : List D) : cutD ds (some 1) none = ds.drop 1 := cut_drop ds 1
@[simp] theorem cut_t1 (ds : List D) : cutD ds none (some 1) = ds.take 1 := cut_take ds 1
theorem zipD_map {α : Type} (enc : α → D) (xs ys : List α) : zipD (xs.map enc) (ys.map enc) = (xs.zip ys).map fun p => .tup [enc p.1, enc p.2] := by
  unfold zipD
  rw [List.zipWith_map, List.zip, List.map_zipWith]
def zipTK : D → D → M (List D) := fun x y => match x, y with
  | .tup xs, .tup ys => ret (zipD xs ys)
  | _, _ => die
@[simp] theorem e_zipT (f g) (ρ : Rho) : zipT f g ρ = bnd (f ρ) fun x => bnd (g ρ) fun y => zipTK x y := by unfold zipT; exact nd rfl
@[simp] theorem e_zipTK (xs ys) : zipTK (.tup xs) (.tup ys) = ret (zipD xs ys) := nd rfl
theorem all_t {α : Type} (xs : List α) : boolsD (fun bs => .bl (bs.all id)) (.lst (xs.map fun _ => .bl true)) = ret (.bl true) := by
  have := all_map (fun _ : α => true) xs
  rw [this]
  congr 2
  rw [List.all_eq_true]; intros; rfl
theorem ev_is_rising {α : Type} {enc : α → D} {R : α → α → Prop} {xs : List α} (hl : xs.length ≤ 1000) (hp : xs.Pairwise R) (h : ∀ x y, R x y → ltA (enc x) (enc y) = ret (.bl true)) : F_is_rising [.d (.tup (xs.map enc))] = ret (.bl true) := by
  unfold F_is_rising
  rw [e_fnS]
  simp
  rw [lcE_mapY (xs := xs.zip (xs.drop 1)) (enc := fun p => .tup [enc p.1, enc p.2]) (fun _ => .bl true) (by simp [← List.map_drop, zipD_map, -List.drop_one, -List.map_tail]) (by simp; omega)]
  · simp [all_t, -all_map]
  · intro p hq
    have := h _ _ (pairwise_zip hp p hq)
    simp [lcStep, this]
theorem e_sign (c : Nat) (z : Str) : signS (.str ⟨#[c]⟩) (.str z) = ret (.bl (decide (c ∈ z.cps.toList))) := by
  funext P
  apply propext
  constructor
  · rintro ⟨c', z', h1, h2, h3⟩
    injection h1 with h1
    injection h2 with h2
    injection h1 with h1
    have : c = c' := by simpa using h1
    subst this; subst h2
    exact h3
  · intro h
    exact ⟨c, z, rfl, rfl, h⟩
def NmOk (x : Str) : Prop := 1 ≤ x.length ∧ x.length ≤ 10 ∧ ∀ c ∈ x.cps.toList, c ∈ ("abcdefghijklmnopqrstuvwxyz" : Str).cps.toList
theorem e_lenStr {x : Str} (h : x.length ≤ 1000000) : lenD (.str x) = ret (.int x.length) := chk_of h _
theorem ev_is_name {x : Str} (h : NmOk x) : F_is_name [.d (.str x)] = ret (.bl true) := by
  unfold F_is_name
  rw [e_fnS]
  have h1 : (1 : Int) ≤ (x.length : Nat) := by have := h.1; omega
  have h2 : ((x.length : Nat) : Int) ≤ 10 := by have := h.2.1; omega
  have hln : x.cps.toList.length ≤ 1000000 := by
    have h3 : x.cps.toList.length = x.length := by simp [Str.length]
    have := h.2.1
    omega
  simp [e_lenStr (show x.length ≤ 1000000 by have := h.2.1; omega), h1, h2]
  rw [lcE_mapY (xs := x.cps.toList) (enc := fun c => .str ⟨#[c]⟩) (fun _ => .bl true) (by simp [strD]) hln]
  · simp [all_t, -all_map]
  · intro c hc
    have := h.2.2 c hc
    simp [lcStep, e_sign, this]
def kdD (k : Kd) : D := .str k.1
def kpD (p : Kd × Kd) : D := .tup [.str p.1.1, .str p.2.1]
def ltK (a b : Kd) : Prop := a.1.cps.toList < b.1.cps.toList
def ltKP (p q : Kd × Kd) : Prop := if p.1 = q.1 then ltK p.2 q.2 else ltK p.1 q.1
structure GoodT (K : List Kd) (T : List (Kd × Kd)) : Prop where
  nm : ∀ k ∈ K, NmOk k.1
  kpw : K.Pairwise ltK
  mem : ∀ p ∈ T, p.1 ∈ K ∧ p.2 ∈ K ∧ ¬ltK p.2 p.1
  tpw : T.Pairwise ltKP
  kl : K.length ≤ 100
  tl : T.length ≤ 1000
theorem lt_kd {a b : Kd} (h : ltK a b) : ltA (kdD a) (kdD b) = ret (.bl true) := by
  unfold ltA
  have e : PySem.W.dataLt (kdD a).py (kdD b).py = true := by
    show PySem.W.dataLt (.str a.1) (.str b.1) = true
    rw [PySem.W.dataLt_str]; exact decide_eq_true h
  have al : PySem.W.alike (kdD a).py (kdD b).py = true := by
    show PySem.W.alike (.str a.1) (.str b.1) = true
    simp only [PySem.W.alike]
  rw [chk_of ⟨(lv_kd (n := 7) a).shp, (lv_kd (n := 7) b).shp, al, fun z => by cases z⟩, e]
theorem lt_kp {a b : Kd × Kd} (h : ltKP a b) : ltA (kpD a) (kpD b) = ret (.bl true) := by
  unfold ltA
  have ea : ∀ p : Kd × Kd, (kpD p).py = PySem.W.Datum.toD ((p.1.1, p.2.1) : Str × Str) := fun _ => rfl
  have e : PySem.W.dataLt (kpD a).py (kpD b).py = true := by
    rw [ea, ea, PySem.W.DatumOrd.lt_eq]
    show (if a.1.1 = b.1.1 then decide (a.2.1.cps.toList < b.2.1.cps.toList) else decide (a.1.1.cps.toList < b.1.1.cps.toList)) = true
    unfold ltKP at h
    by_cases hh : a.1 = b.1
    · rw [if_pos (by rw [hh])]; rw [if_pos hh] at h; exact decide_eq_true h
    · rw [if_neg (fun z => hh (Subtype.ext z))]; rw [if_neg hh] at h; exact decide_eq_true h
  have al : PySem.W.alike (kpD a).py (kpD b).py = true := by
    rw [ea, ea]; exact PySem.W.DatumOrd.alike _ _
  have lv : ∀ p : Kd × Kd, Lv 8 (kpD p) := fun p => lv_t2 (lv_kd _) (lv_kd _)
  rw [chk_of ⟨(lv a).shp, (lv b).shp, al, fun z => by cases z⟩, e]
theorem ev_are_kinds {K T} (h : GoodT K T) : F_are_kinds [.d (.tup (K.map kdD))] = ret (.bl true) := by
  have hl := h.kl
  unfold F_are_kinds
  rw [e_fnS]
  simp
  rw [lcE_mapY (xs := K) (enc := kdD) (fun _ => .bl true) (by simp) (by omega)]
  · simp [all_t, -all_map, ev_is_rising (by omega) h.kpw fun x y => lt_kd]
  · intro c hc
    simp [lcStep, kdD, ev_is_name (h.nm c hc)]
@[simp] theorem q_kd (a b : Kd) : eqvD (kdD a) (kdD b) = decide (a = b) := by
  unfold kdD; rw [q_str, decide_eq_decide]; exact ⟨Subtype.ext, fun h => by rw [h]⟩
@[simp] theorem e_row2 (a b : D) : F_is_row [.d (.tup [a, b]), .d (.int 2)] = ret (.bl true) := by
  unfold F_is_row
  rw [e_fnS]
  simp
@[simp] theorem lv_kinds {n : Nat} (K : List Kd) : Lv (n + 2) (.tup (K.map kdD)) := lv_tmap fun k _ => lv_kd k
theorem kin {k : Kd} {K : List Kd} (h : k ∈ K) : inB (.str k.1) (K.map kdD) = true := by
  have := inB_map (enc := kdD) q_kd k K
  unfold kdD at this ⊢; rw [this]; simpa using h
theorem ev_is_conflict {K T} (h : GoodT K T) {p : Kd × Kd} (hp : p ∈ T) : F_is_conflict [.d (.tup (K.map kdD)), .d (kpD p)] = ret (.bl true) := by
  obtain ⟨h1, h2, h3⟩ := h.mem p hp
  have i1 := kin h1
  have i2 := kin h2
  have h3 : ¬(p.2.1.cps.toList < p.1.1.cps.toList) := h3
  unfold F_is_conflict
  rw [e_fnS]
  simp [kpD, ev_is_name (h.nm _ h1), ev_is_name (h.nm _ h2), i1, i2, h3]
def tbD (K : List Kd) (T : List (Kd × Kd)) : D := .tup [.tup (K.map kdD), .tup (T.map kpD)]
theorem ev_is_table_value {K T} (h : GoodT K T) : F_is_table_value [.d (tbD K T)] = ret (.bl true) := by
  have hl := h.tl
  unfold F_is_table_value
  rw [e_fnS]
  simp [tbD, ev_are_kinds h]
  rw [lcE_mapY (xs := T) (enc := kpD) (fun _ => .bl true) (by simp) (by omega)]
  · simp [all_t, -all_map, ev_is_rising (by omega) h.tpw fun x y => lt_kp]
  · intro c hc
    simp [lcStep, ev_is_conflict h hc]
theorem ev_need_table {K T} (h : GoodT K T) : F_need_table [.d (tbD K T)] = ret .non := by
  unfold F_need_table
  rw [e_fnS]
  simp [ev_is_table_value h]
end EC
end
/-! ## M7 -/
section
set_option Elab.async false
set_option linter.all false
set_option maxRecDepth 100000
set_option maxHeartbeats 2000000
/-! M7: a history that is right, a cut that is right. -/
namespace EC
open PySem PySem.Spec PyProof.Rows L2
def DoneIn (H : List Ev) (t : Int) : Prop := ∃ k, Ev.dos t k ∈ H
def EndIn (H : List Ev) (t : Int) : Prop := Ev.keep t ∈ H ∨ Ev.drop t ∈ H
def EvOk (K : List Kd) (pre : List Ev) : Ev → Prop
  | .dos t k => 0 ≤ t ∧ k ∈ K ∧ ¬EndIn pre t
  | .keep t => 0 ≤ t ∧ DoneIn pre t ∧ ¬EndIn pre t
  | .drop t => 0 ≤ t ∧ DoneIn pre t ∧ ¬EndIn pre t
structure GoodH (K : List Kd) (H : List Ev) : Prop where
  len : H.length ≤ 100
  ok : ∀ i e, H[i]? = some e → EvOk K (H.take i) e
theorem stepsI_of {H : List Ev} {i : Nat} {t : Int} {k : Kd} (h : H[i]? = some (.dos t k)) : i ∈ stepsI H := by
  unfold stepsI
  exact List.mem_map.mpr ⟨(.dos t k, i), List.mem_filter.mpr ⟨List.mem_zipIdx_iff_getElem?.mpr h, rfl⟩, rfl⟩
theorem lv_nats {n : Nat} (xs : List Nat) : Lv (n + 2) (natsD xs) := lv_lmap fun _ _ => lv_int _
theorem ev_steps_of {H : List Ev} (hl : H.length ≤ 1000) (t : Int) : F_steps_of [.d (hD H), .d (.int t)] = ret (natsD ((stepsI H).filter fun i => match H[i]? with
    | some e => decide (e.name = t)
    | none => false)) := by
  have h1 := stepsI_len H
  unfold F_steps_of
  rw [e_fnS]
  simp
  rw [lcE_map (xs := stepsI H) (enc := fun i => .int (i : Nat)) (fun i => match H[i]? with
    | some e => decide (e.name = t)
    | none => false) (fun i => .int (i : Nat)) (by simp [ev_steps_in hl, natsD]) (by omega)]
  · rfl
  · intro i hi
    obtain ⟨u, k, e⟩ := mem_stepsI hi
    by_cases hm : u = t <;> simp [lcStep, ev_owner e, e, Ev.name, hm]
theorem ends_any {H : List Ev} {t : Int} (h : ¬EndIn H t) : ((endsP H).any fun p => decide (p.1 = Sum.inl t)) = false := by
  unfold endsP
  rw [foldl_any, List.any_nil, Bool.false_or, List.any_eq_false]
  rintro ⟨e, i⟩ hp
  obtain ⟨h1, h2⟩ := List.mem_filter.mp hp
  have hm : e ∈ H := List.mem_of_getElem? (List.mem_zipIdx_iff_getElem?.mp h1)
  simp only [decide_eq_true_eq]
  intro hh
  injection hh with hh
  apply h
  cases e with
  | dos t k => cases h2
  | keep u => exact .inl (show Ev.keep t ∈ H by rw [← show u = t from hh]; exact hm)
  | drop u => exact .inr (show Ev.drop t ∈ H by rw [← show u = t from hh]; exact hm)
theorem ev_state_in {H : List Ev} (hl : H.length ≤ 1000) {t : Int} (h1 : DoneIn H t) (h2 : ¬EndIn H t) : F_state_in [.d (hD H), .d (.int t)] = ret (.str "active") := by
  obtain ⟨k, hk⟩ := h1
  obtain ⟨i, hi⟩ := List.getElem?_of_mem hk
  unfold F_state_in
  rw [e_fnS]
  simp [ev_steps_of hl, ev_ends_in hl]
  have hne : ((stepsI H).filter fun i => match H[i]? with
    | some e => decide (e.name = t)
    | none => false) ≠ [] := by
    intro he
    have : i ∈ (stepsI H).filter fun i => match H[i]? with
      | some e => decide (e.name = t)
      | none => false := List.mem_filter.mpr ⟨stepsI_of hi, by rw [hi]; simp [Ev.name]⟩
    rw [he] at this; cases this
  rw [eqS_ev (lv_nats _) (by simp)]
  have hq : eqvD (natsD ((stepsI H).filter fun i => match H[i]? with
    | some e => decide (e.name = t)
    | none => false)) (.lst []) = false := by
    unfold natsD
    rw [q_lst, q_empty, List.isEmpty_map]
    exact List.isEmpty_eq_false_iff.mpr hne
  simp [hq, dnin_dk, ends_any h2]
theorem ev_count {t : Int} (h : 0 ≤ t) : F_is_count [.d (.int t)] = ret (.bl true) := by
  unfold F_is_count F_is_integer
  rw [e_fnS]
  simp [e_fnS, h]
theorem ev_between {i a b : Int} : F_is_between [.d (.int i), .d (.int a), .d (.int b)] = ret (.bl (decide (a ≤ i ∧ i ≤ b))) := by
  unfold F_is_between F_is_integer
  rw [e_fnS]
  by_cases h : a ≤ i <;> by_cases h2 : i ≤ b <;> simp [e_fnS, h, h2]
theorem ev_event_after {K T} (hT : GoodT K T) {H : List Ev} (hl : H.length ≤ 1000) {e : Ev} (h : EvOk K H e) : F_is_event_after [.d (tbD K T), .d (hD H), .d e.enc] = ret (.bl true) := by
  unfold F_is_event_after F_is_paper
  rw [e_fnS]
  cases e with
  | dos t k =>
    obtain ⟨h1, h2, h3⟩ := h
    have i1 := kin h2
    simp [Ev.enc, e_fnS, tbD, ev_count h1, ev_is_name (hT.nm _ h2), i1, ev_ends_in hl, dnin_dk, ends_any h3]
  | keep t =>
    obtain ⟨h1, h2, h3⟩ := h
    simp [Ev.enc, e_fnS, ev_count h1, ev_state_in hl h2 h3]
  | drop t =>
    obtain ⟨h1, h2, h3⟩ := h
    simp [Ev.enc, e_fnS, ev_count h1, ev_state_in hl h2 h3]
theorem ev_is_history {K T} (hT : GoodT K T) {H : List Ev} (h : GoodH K H) : F_is_history_value [.d (tbD K T), .d (hD H)] = ret (.bl true) := by
  unfold F_is_history_value
  rw [e_fnS]
  have hl := h.len
  have e : enumTK (hD H) = ret (H.zipIdx.map fun p => .tup [.int (p.2 : Nat), p.1.enc]) := by
    simp only [hD, e_enumTK, enumD_map]
  have ht : (hD H).ty = "tuple" := rfl
  simp [ht, e]
  rw [forL_fold (fun p : Ev × Nat => D.tup [.int (p.2 : Nat), p.1.enc]) (fun s : Sl × Sl => [.d (tbD K T), .d (hD H), s.1, s.2])
    (fun s p => (Sl.d (.int (p.2 : Nat)), Sl.d p.1.enc)) (fun n s => True) _ 0 (.no, .no) trivial]
  · simp
  · intro x hx m s _ _
    obtain ⟨e, i⟩ := x
    have hi := List.mem_zipIdx_iff_getElem?.mp hx
    have := ev_event_after hT (H := H.take i) (by simp; omega) (h.ok i e hi)
    simp [hD_take, this]
theorem ev_need_history {K T} (hT : GoodT K T) {H : List Ev} (h : GoodH K H) : F_need_history [.d (tbD K T), .d (hD H)] = ret .non := by
  unfold F_need_history
  rw [e_fnS]
  simp [ev_need_table hT, ev_is_history hT h]
theorem ev_need_cut {K T} (hT : GoodT K T) {H : List Ev} (h : GoodH K H) {p : Nat} (hp : p ≤ H.length) : F_need_cut [.d (tbD K T), .d (hD H), .d (.int (p : Nat))] = ret .non := by
  unfold F_need_cut
  rw [e_fnS]
  have h2 : lenD (hD H) = ret (.int (H.length : Nat)) := by simp [hD]
  have h3 : (0 : Int) ≤ p ∧ (p : Int) ≤ H.length := by omega
  simp [ev_need_history hT h, h2, ev_between, h3]
end EC
end
/-! ## M8 -/
section
set_option Elab.async false
set_option linter.all false
set_option maxRecDepth 100000
set_option maxHeartbeats 2000000
/-! M8: clashes; the pairs that conflict. -/
namespace EC
open PySem PySem.Spec PyProof.Rows L2
def kkey (a b : Kd) : List Key := [.inr a.1, .inr b.1]
theorem kkey_eq {a b c d : Kd} : kkey a b = kkey c d ↔ a = c ∧ b = d := by
  unfold kkey
  constructor
  · intro h
    injection h with h1 h2
    injection h2 with h2 _
    injection h1 with h1
    injection h2 with h2
    exact ⟨Subtype.ext h1, Subtype.ext h2⟩
  · rintro ⟨rfl, rfl⟩; rfl
def cf (T : List (Kd × Kd)) (a b : Kd) : Bool := decide ((a, b) ∈ T) || decide ((b, a) ∈ T)
def ClashD (T : List (Kd × Kd)) (dt : D) : Prop := ∀ a b : Kd, dinS (.tup [.str a.1, .str b.1]) dt = ret (.bl (cf T a b))
theorem din_dt (l : List (List Key × D)) (a b : Kd) : dinS (.tup [.str a.1, .str b.1]) (dtOf l) = ret (.bl (l.any fun p => decide (p.1 = kkey a b))) := by
  show ret (D.bl (look _ _ _).isSome) = _
  rw [look_any]; rfl
theorem any_key {α : Type} (T : List (Kd × Kd)) (a b : Kd) : (T.any fun x => decide (kkey x.1 x.2 = kkey a b)) = decide ((a, b) ∈ T) := by
  rw [Bool.eq_iff_iff, List.any_eq_true, decide_eq_true_eq]
  constructor
  · rintro ⟨⟨c, d⟩, h1, h2⟩
    obtain ⟨rfl, rfl⟩ := kkey_eq.mp (of_decide_eq_true h2)
    exact h1
  · intro h; exact ⟨(a, b), h, by simp⟩
theorem any_key2 {α : Type} (T : List (Kd × Kd)) (a b : Kd) : (T.any fun x => decide (kkey x.2 x.1 = kkey a b)) = decide ((b, a) ∈ T) := by
  rw [Bool.eq_iff_iff, List.any_eq_true, decide_eq_true_eq]
  constructor
  · rintro ⟨⟨c, d⟩, h1, h2⟩
    obtain ⟨rfl, rfl⟩ := kkey_eq.mp (of_decide_eq_true h2)
    exact h1
  · intro h; exact ⟨(b, a), h, by simp⟩
def foldK {α κ : Type} [DecidableEq κ] (k : α → κ) (g : α → D) (xs : List α) : List (κ × D) := xs.foldl (fun a x => putP a (k x) (g x)) []
theorem foldP_len {α κ : Type} [DecidableEq κ] (k : α → κ) (g : α → D) : ∀ (xs : List α) (acc : List (κ × D)), (xs.foldl (fun a x => putP a (k x) (g x)) acc).length ≤ acc.length + xs.length
  | [], _ => Nat.le_refl _
  | x :: xs, acc => by
    have h1 := foldP_len k g xs (putP acc (k x) (g x))
    have h2 := putP_length acc (k x) (g x)
    rw [List.foldl_cons, List.length_cons]; omega
theorem clash_any (l1 l2 : List (List Key × D)) (kk : List Key) : ((putAllP l1 l2).any fun p => decide (p.1 = kk)) = ((l1.any fun p => decide (p.1 = kk)) || l2.any fun p => decide (p.1 = kk)) := foldl_any (fun p : List Key × D => p.1) (fun p => p.2) kk l2 l1
theorem ev_clashes {K : List Kd} {T : List (Kd × Kd)} (hl : T.length ≤ 1000) : ∃ dt, F_clashes [.d (tbD K T)] = ret dt ∧ ClashD T dt := by
  let l1 := foldK (fun p : Kd × Kd => kkey p.1 p.2) (fun _ => .bl true) T
  let l2 := foldK (fun p : Kd × Kd => kkey p.2 p.1) (fun _ => .bl true) T
  refine ⟨dtOf (putAllP l1 l2), ?_, ?_⟩
  · unfold F_clashes
    rw [e_fnS]
    unfold clS
    simp
    have a1 : dcTF [2] (itT (op2 ixS (var 0) (con (.int 1)))) (nameT 2) yes (var 2) (con (.bl true)) [.d (tbD K T), .no, .no, .no, .no] = ret l1 := by
      unfold dcTF
      simp [tbD]
      rw [chk_of (by omega), dcL_map (xs := T) (enc := kpD) (fun _ => true) (fun p => kkey p.1 p.2) (fun _ => .bl true)]
      · rw [List.filter_eq_self.mpr fun _ _ => rfl]; rfl
      · intro p _
        simp [dcStep, kpD, D.tkey, D.keys, D.key, kkey]
    have a2 : dcTF [3, 4] (itT (op2 ixS (var 0) (con (.int 1)))) (tupT 2 (consT (nameT 3) (consT (nameT 4) nilT))) yes (tupE (consL (var 4) (consL (var 3) nilL))) (con (.bl true)) [.d (tbD K T), .no, .no, .no, .no] = ret l2 := by
      unfold dcTF
      simp [tbD]
      rw [chk_of (by omega), dcL_map (xs := T) (enc := kpD) (fun _ => true) (fun p => kkey p.2 p.1) (fun _ => .bl true)]
      · rw [List.filter_eq_self.mpr fun _ _ => rfl]; rfl
      · intro p _
        simp [dcStep, kpD, D.tkey, D.keys, D.key, kkey]
    rw [a1, e_ret, a2, e_ret]
    have h1 : l1.length ≤ T.length := by have := foldP_len (fun p : Kd × Kd => kkey p.1 p.2) (fun _ => .bl true) T []; simp only [List.length_nil, Nat.zero_add] at this; exact this
    have h2 : l2.length ≤ T.length := by have := foldP_len (fun p : Kd × Kd => kkey p.2 p.1) (fun _ => .bl true) T []; simp only [List.length_nil, Nat.zero_add] at this; exact this
    rw [chk_of]
    · simp
    · refine ⟨?_, by omega⟩
      cases hT : T with
      | nil => right; show l2 = []; simp only [l2, hT]; rfl
      | cons x xs =>
        left
        intro he
        have : (l1.any fun p => decide (p.1 = kkey x.1 x.2)) = true := by
          have := foldl_any (fun p : Kd × Kd => kkey p.1 p.2) (fun _ => .bl true) (kkey x.1 x.2) T []
          simp only [l1, foldK]
          rw [this, hT]; simp
        rw [he] at this; cases this
  · intro a b
    rw [din_dt, clash_any]
    have e1 := foldl_any (fun p : Kd × Kd => kkey p.1 p.2) (fun _ => .bl true) (kkey a b) T []
    have e2 := foldl_any (fun p : Kd × Kd => kkey p.2 p.1) (fun _ => .bl true) (kkey a b) T []
    simp only [l1, l2, foldK]
    rw [e1, e2, any_key (α := Unit), any_key2 (α := Unit)]
    rfl
/-- do two steps clash -/
def cl (H : List Ev) (T : List (Kd × Kd)) (i j : Nat) : Bool := match H[i]?, H[j]? with
  | some (.dos t a), some (.dos u b) => decide (t = u) || cf T a b
  | _, _ => false
theorem cl_of {H : List Ev} {T : List (Kd × Kd)} {i j : Nat} {t u : Int} {a b : Kd} (h1 : H[i]? = some (.dos t a)) (h2 : H[j]? = some (.dos u b)) : cl H T i j = (decide (t = u) || cf T a b) := by unfold cl; rw [h1, h2]
theorem ev_do_clash {H : List Ev} {T : List (Kd × Kd)} {dt : D} (hd : ClashD T dt) {i j : Nat} {t u : Int} {a b : Kd} (h1 : H[i]? = some (.dos t a)) (h2 : H[j]? = some (.dos u b)) :
    F_do_clash [.d dt, .d (hD H), .d (.int (i : Nat)), .d (.int (j : Nat))] = ret (.bl (cl H T i j)) := by
  unfold F_do_clash
  rw [e_fnS, cl_of h1 h2]
  have := hd a b
  by_cases hh : t = u <;> simp [ev_owner h1, ev_owner h2, ev_kind h1, ev_kind h2, Ev.name, this, hh]
theorem zipIdx_take : ∀ (H : List Ev) (n p : Nat), (H.zipIdx n).filter (fun x => decide (x.2 < n + p)) = (H.take p).zipIdx n
  | [], _, _ => by simp
  | e :: H, n, 0 => by
    rw [List.take_zero, List.zipIdx_nil, List.filter_eq_nil_iff]
    rintro ⟨x, i⟩ hx
    have := (List.mem_zipIdx hx).1
    simp; omega
  | e :: H, n, p + 1 => by
    have ih := zipIdx_take H (n + 1) p
    rw [List.zipIdx_cons, List.take_succ_cons, List.zipIdx_cons, List.filter_cons]
    simp only [show n < n + (p + 1) by omega, decide_true, if_true]
    rw [← ih]
    congr 1
    congr 1
    funext x
    rw [show n + (p + 1) = n + 1 + p by omega]
theorem steps_take (H : List Ev) (p : Nat) : (stepsI H).filter (fun i => decide (i < p)) = stepsI (H.take p) := by
  unfold stepsI
  rw [List.filter_map, List.filter_filter]
  have := zipIdx_take H 0 p
  simp only [Nat.zero_add] at this
  rw [← this, List.filter_filter]
  congr 2
  funext x
  exact Bool.and_comm _ _
theorem lcL2_map {α β : Type} {t it1 t1 c f vs1} {ρ : Rho} {enc : α → D} {enc2 : β → D} {ys : List β} (b : α → β → Bool) (g : α → β → D) (hy : ys.length ≤ 900) : ∀ (xs : List α), (∀ x ∈ xs, ∃ ρ1, t (enc x) ρ = ret ρ1 ∧ it1 ρ1 = ret (ys.map enc2) ∧ ∀ y ∈ ys, lcStep t1 c f (wipeR ρ1 vs1) (enc2 y) = ret (if b x y = true then some (g x y) else none)) →
    lcL2 t it1 t1 c f vs1 (xs.map enc) ρ = ret (xs.flatMap fun x => (ys.filter (b x)).map (g x))
  | [], _ => rfl
  | x :: xs, h => by
    have ih := lcL2_map b g hy xs fun z hz => h z (List.mem_cons_of_mem _ hz)
    obtain ⟨ρ1, h1, h2, h3⟩ := h x (by simp)
    show bnd (t (enc x) ρ) _ = _
    rw [h1, e_ret, h2, e_ret, chk_of (by simpa using hy), lcL_map (b x) (g x) ys h3, e_ret, ih, e_ret]
    rfl
def nnD (p : Nat × Nat) : D := .tup [.int (p.1 : Nat), .int (p.2 : Nat)]
def CPl (H : List Ev) (T : List (Kd × Kd)) (S : List Nat) : List (Nat × Nat) := S.flatMap fun i => (S.filter fun j => decide (i < j) && cl H T i j).map fun j => (i, j)
theorem mem_CP {H T S} {i j : Nat} : (i, j) ∈ CPl H T S ↔ i ∈ S ∧ j ∈ S ∧ i < j ∧ cl H T i j = true := by
  unfold CPl
  rw [List.mem_flatMap]
  constructor
  · rintro ⟨k, h1, h2⟩
    obtain ⟨m, h3, h4⟩ := List.mem_map.mp h2
    obtain ⟨h5, h6⟩ := List.mem_filter.mp h3
    injection h4 with h7 h8
    subst h7; subst h8
    rw [Bool.and_eq_true] at h6
    exact ⟨h1, h5, of_decide_eq_true h6.1, h6.2⟩
  · rintro ⟨h1, h2, h3, h4⟩
    exact ⟨i, h1, List.mem_map.mpr ⟨j, List.mem_filter.mpr ⟨h2, by rw [Bool.and_eq_true]; exact ⟨decide_eq_true h3, h4⟩⟩, rfl⟩⟩
theorem ev_conflicting {K : List Kd} {T : List (Kd × Kd)} (hT : T.length ≤ 1000) {H : List Ev} (hl : H.length ≤ 100) (p : Nat) : F_conflicting_pairs [.d (tbD K T), .d (hD H), .d (.int (p : Nat))] = ret (.lst ((CPl H T (stepsI (H.take p))).map nnD)) := by
  obtain ⟨dt, h1, h2⟩ := ev_clashes (K := K) hT
  have hs := stepsI_len H
  have hs2 := stepsI_len (H.take p)
  have hs3 : (H.take p).length ≤ H.length := by simp; omega
  unfold F_conflicting_pairs
  rw [e_fnS]
  simp [h1]
  rw [lcE_map (xs := stepsI H) (enc := fun i => .int (i : Nat)) (fun i => decide (i < p)) (fun i => .int (i : Nat)) (by simp [ev_steps_in (show H.length ≤ 1000 by omega), natsD]) (by omega)]
  · rw [steps_take]
    simp
    unfold lcE2
    simp
    rw [chk_of (by omega), lcL2_map (xs := stepsI (H.take p)) (ys := stepsI (H.take p)) (enc := fun i => .int (i : Nat)) (enc2 := fun i => .int (i : Nat)) (fun i j => decide (i < j) && cl H T i j) (fun i j => nnD (i, j)) (by omega)]
    · simp [CPl, List.map_flatMap]; rfl
    · intro i hi
      refine ⟨_, e_nameT _ _ _, by simp, fun j hj => ?_⟩
      obtain ⟨t, a, e1⟩ := mem_steps_take hi
      obtain ⟨u, b, e2⟩ := mem_steps_take hj
      have := ev_do_clash h2 e1 e2
      by_cases hij : i < j <;> cases hc : cl H T i j <;> simp [lcStep, this, hij, hc, nnD]
  · intro i hi
    by_cases hip : i < p <;> simp [lcStep, hip]
end EC
end
/-! ## M9 -/
section
set_option Elab.async false
set_option linter.all false
set_option maxRecDepth 100000
set_option maxHeartbeats 2000000
/-! M9: the pairs that are caught. -/
namespace EC
open PySem PySem.Spec PyProof.Rows L2
def nm (H : List Ev) (i : Nat) : Int := match H[i]? with
  | some e => e.name
  | none => 0
def op (H : List Ev) (p : Nat) (i : Nat) : Bool := !decide (nm H i ∈ keptI (H.take p))
theorem opens_eq (H : List Ev) (p : Nat) : opensI H p = ((stepsI (H.take p)).filter (op H p)).reverse := by
  unfold opensI
  rw [← List.filter_reverse]
  apply List.filter_congr
  intro i hi
  obtain ⟨t, k, e⟩ := mem_steps_take (List.mem_reverse.mp hi)
  unfold op nm
  rw [e]
theorem wordI_eq (H : List Ev) (p : Nat) : wordI H p = Wq (stepsI (H.take p)) (op H p) (op H p) := by
  unfold wordI Wq
  rw [opens_eq]
  have : ((stepsI (H.take p)).filter fun i => !op H p i || op H p i) = stepsI (H.take p) := List.filter_eq_self.mpr fun i _ => by cases op H p i <;> rfl
  rw [this]
  rfl
theorem stepsI_lt (H : List Ev) : (stepsI H).Pairwise (· < ·) := by
  have h : (H.zipIdx.map (·.2)).Pairwise (· < ·) := by
    rw [List.zipIdx_map_snd]
    exact List.pairwise_lt_range'
  exact h.sublist (List.filter_sublist.map _)
theorem stepsI_nodup (H : List Ev) : (stepsI H).Nodup := (stepsI_lt H).imp fun h => Nat.ne_of_lt h
theorem word_nodup (H : List Ev) (p : Nat) : (wordI H p).Nodup := by rw [wordI_eq]; exact Wq_nodup (stepsI_nodup _) _ _
theorem fold_append {α κ : Type} [DecidableEq κ] (k : α → κ) (g : α → D) : ∀ (xs : List α) (acc : List (κ × D)), (xs.map k).Nodup → (∀ x ∈ xs, ∀ q ∈ acc, q.1 ≠ k x) → xs.foldl (fun a x => putP a (k x) (g x)) acc = acc ++ xs.map fun x => (k x, g x)
  | [], acc, _, _ => by simp
  | x :: xs, acc, h, h2 => by
    rw [List.map_cons, List.nodup_cons] at h
    have e : putP acc (k x) (g x) = acc ++ [(k x, g x)] := by
      unfold putP
      rw [if_neg]
      rw [Bool.not_eq_true, List.any_eq_false]
      intro q hq
      simpa using h2 x (by simp) q hq
    rw [List.foldl_cons, e, fold_append k g xs _ h.2, List.append_assoc]
    · rfl
    · intro y hy q hq
      rcases List.mem_append.mp hq with hq | hq
      · exact h2 y (by simp [hy]) q hq
      · rw [List.mem_singleton] at hq
        rw [hq]
        intro e
        exact h.1 (List.mem_map.mpr ⟨y, hy, e.symm⟩)
theorem look_map {α κ : Type} [DecidableEq κ] (k : α → κ) (g : α → D) (xs : List α) (key : κ) : look ((xs.map fun x => (k x, g x)).map (·.1)) ((xs.map fun x => (k x, g x)).map (·.2)) key = (xs.find? fun x => decide (k x = key)).map g := by
  unfold look
  have e : ∀ l : List (κ × D), (l.map (·.1)).zip (l.map (·.2)) = l := by
    intro l
    induction l with
    | nil => rfl
    | cons a l ih => simp only [List.map_cons, List.zip_cons_cons, ih]
  rw [e, List.find?_map, Option.map_map]
  rfl
theorem find_zipIdx {α : Type} (q : α → Bool) : ∀ (w : List α) (n : Nat), ((w.zipIdx n).find? fun p => q p.1).map (·.2) = (w.findIdx? q).map (· + n)
  | [], _ => rfl
  | x :: w, n => by
    rw [List.zipIdx_cons, List.find?_cons, List.findIdx?_cons]
    cases hq : q x with
    | true => simp
    | false =>
      simp only [hq]
      rw [find_zipIdx q w (n + 1)]
      cases w.findIdx? q with
      | none => rfl
      | some k => simp; omega
def lkey (l : Lt) : List Key := [.inl l.1, .inl l.2]
theorem lkey_inj {a b : Lt} (h : lkey a = lkey b) : a = b := by
  unfold lkey at h
  injection h with h1 h2
  injection h2 with h2 _
  injection h1 with h1
  injection h2 with h2
  exact Prod.ext h1 h2
def plD (w : List Lt) : D := dtOf (w.zipIdx.foldl (fun a p => putP a (lkey p.1) (.int (p.2 : Nat))) [])
theorem look_pl {w : List Lt} (hw : w.Nodup) (l : Lt) : dlook (plD w) (pairD l) = some ((w.findIdx? fun z => decide (z = l)).map fun n => .int (n : Nat)) := by
  have hk : (w.zipIdx.map fun p => lkey p.1).Nodup := by
    have : (w.zipIdx.map fun p => lkey p.1) = w.map lkey := by
      have h0 := List.zipIdx_map_fst 0 w
      conv => rhs; rw [← h0]
      rw [List.map_map]; rfl
    rw [this]
    exact nodup_map (fun a b => lkey_inj) hw
  unfold plD
  rw [fold_append (fun p : Lt × Nat => lkey p.1) (fun p => .int (p.2 : Nat)) _ _ hk (by simp), List.nil_append]
  show some (look _ _ (lkey l)) = _
  rw [look_map]
  congr 1
  have e : (fun x : Lt × Nat => decide (lkey x.1 = lkey l)) = fun x => (fun z => decide (z = l)) x.1 := by
    funext x; rw [decide_eq_decide]; exact ⟨lkey_inj, fun h => by rw [h]⟩
  rw [e]
  have := find_zipIdx (fun z => decide (z = l)) w 0
  rw [show (fun n : Nat => D.int (n : Nat)) = (fun n : Nat => D.int (n : Nat)) ∘ (fun n : Nat => n + 0) from rfl, ← Option.map_map, ← this, Option.map_map]
  rfl
theorem pos_eq {w : List Lt} (hw : w.Nodup) {l : Lt} {k : Nat} (h : w[k]? = some l) : (w.findIdx? fun z => decide (z = l)) = some k := by
  obtain ⟨h1, hk, h2⟩ := idxL_some (List.mem_of_getElem? h)
  rw [h1, nodup_get hw (List.getElem?_eq_some_iff.mpr ⟨hk, h2⟩) h]
theorem pos_none {w : List Lt} {l : Lt} (h : l ∉ w) : (w.findIdx? fun z => decide (z = l)) = none := by
  rw [List.findIdx?_eq_none_iff]
  intro x hx
  simp only [decide_eq_false_iff_not]
  intro e; exact h (e ▸ hx)
/-- where the letters stand -/
theorem pos_do {H : List Ev} {p i : Nat} (hi : i ∈ stepsI (H.take p)) : ∃ a, a < (stepsI (H.take p)).length ∧ ((wordI H p).findIdx? fun z => decide (z = ((i : Int), 1))) = some a := by
  obtain ⟨a, ha⟩ := List.getElem?_of_mem hi
  have hal := (List.getElem?_eq_some_iff.mp ha).1
  refine ⟨a, hal, pos_eq (word_nodup H p) ?_⟩
  unfold wordI ltrs
  rw [List.getElem?_append_left (by simpa using hal), List.getElem?_map, ha]; rfl
theorem pos_open {H : List Ev} {p i : Nat} (hi : i ∈ opensI H p) : ∃ b, (opensI H p)[b]? = some i ∧ ((wordI H p).findIdx? fun z => decide (z = ((i : Int), -1))) = some ((stepsI (H.take p)).length + b) := by
  obtain ⟨b, hb⟩ := List.getElem?_of_mem hi
  refine ⟨b, hb, pos_eq (word_nodup H p) ?_⟩
  unfold wordI ltrs
  rw [List.getElem?_append_right (by simp), List.length_map, Nat.add_sub_cancel_left, List.getElem?_map, hb]; rfl
theorem mem_opens {H : List Ev} {p i : Nat} : i ∈ opensI H p ↔ i ∈ stepsI (H.take p) ∧ op H p i = true := by
  rw [opens_eq, List.mem_reverse, List.mem_filter]
theorem not_neg {H : List Ev} {p i : Nat} (h : op H p i = false) : ((i : Int), (-1 : Int)) ∉ wordI H p := by
  rw [wordI_eq]
  intro hm
  obtain ⟨j, _, hj⟩ := Wq_sign hm
  rcases hj with ⟨e, _⟩ | ⟨e, h2⟩
  · unfold ltr at e; injection e with e1 e2; cases e2
  · unfold ltr at e; injection e with e1 e2
    have : i = j := by omega
    rw [this, h2] at h; cases h
theorem opens_gt (H : List Ev) (p : Nat) : (opensI H p).Pairwise (fun a b => b < a) := by
  rw [opens_eq, List.pairwise_reverse]
  exact (stepsI_lt _).filter _
theorem ev_is_caught {H : List Ev} {p i j : Nat} (hi : i ∈ stepsI (H.take p)) (hj : j ∈ stepsI (H.take p)) (hij : i < j) :
    F_is_caught [.d (plD (wordI H p)), .d (.int (i : Nat)), .d (.int (j : Nat))] = ret (.bl (op H p i && !op H p j)) := by
  have dict : (plD (wordI H p)).isDict = true := rfl
  have lk := fun l => look_pl (word_nodup H p) l
  obtain ⟨a, ha, pa⟩ := pos_do hj
  have gj : getS (plD (wordI H p)) (.tup [.int (j : Nat), .int 1]) = ret (.int (a : Nat)) := by
    unfold getS
    rw [show (D.tup [.int (j : Nat), .int 1]) = pairD ((j : Int), 1) from rfl, lk, pa]; rfl
  have g1 : ∀ i : Nat, get1S (plD (wordI H p)) (.tup [.int (i : Nat), .int (-1)]) = ret ((((wordI H p).findIdx? fun z => decide (z = ((i : Int), -1))).map fun n => D.int (n : Nat)).getD .non) := by
    intro i
    unfold get1S
    rw [show (D.tup [.int (i : Nat), .int (-1)]) = pairD ((i : Int), -1) from rfl, lk]
  have g2 : ∀ z : D, get2S (plD (wordI H p)) (.tup [.int (j : Nat), .int (-1)]) z = ret ((((wordI H p).findIdx? fun z => decide (z = ((j : Int), -1))).map fun n => D.int (n : Nat)).getD z) := by
    intro z
    unfold get2S
    rw [show (D.tup [.int (j : Nat), .int (-1)]) = pairD ((j : Int), -1) from rfl, lk]
  unfold F_is_caught
  rw [e_fnS]
  cases h1 : op H p i with
  | false =>
    have n1 := pos_none (not_neg h1)
    simp [get1E, dict, g1, n1, D.isNon]
  | true =>
    obtain ⟨b, hb, pb⟩ := pos_open (mem_opens.mpr ⟨hi, h1⟩)
    have hlt : ¬((stepsI (H.take p)).length : Int) + (b : Nat) < (a : Nat) := by omega
    cases h2 : op H p j with
    | false =>
      have n2 := pos_none (not_neg h2)
      simp [get1E, get2E, dict, g1, g2, gj, pb, n2, D.isNon, hlt]
    | true =>
      obtain ⟨c, hc, pc⟩ := pos_open (mem_opens.mpr ⟨hj, h2⟩)
      have hcb : c < b := by
        apply Classical.byContradiction
        intro hn
        obtain ⟨hb1, hb2⟩ := List.getElem?_eq_some_iff.mp hb
        obtain ⟨hc1, hc2⟩ := List.getElem?_eq_some_iff.mp hc
        by_cases he : b = c
        · subst he; rw [hb] at hc; injection hc with hc; omega
        · have := List.pairwise_iff_getElem.mp (opens_gt H p) b c hb1 hc1 (by omega)
          omega
      have hle : ¬(b : Int) ≤ c := by omega
      simp [get1E, get2E, dict, g1, g2, gj, pb, pc, D.isNon, hlt, hle]
def Caught (H : List Ev) (p : Nat) (q : Nat × Nat) : Bool := op H p q.1 && !op H p q.2
theorem CP_len {H T S} (h : S.length ≤ 100) : (CPl H T S).length ≤ 10000 := by
  unfold CPl
  have : ∀ xs : List Nat, (xs.flatMap fun i => (S.filter fun j => decide (i < j) && cl H T i j).map fun j => (i, j)).length ≤ xs.length * S.length := by
    intro xs
    induction xs with
    | nil => simp
    | cons x xs ih =>
      rw [List.flatMap_cons, List.length_append, List.length_map, List.length_cons, Nat.add_mul]
      have := List.length_filter_le (fun j => decide (x < j) && cl H T x j) S
      omega
  exact Nat.le_trans (this S) (Nat.le_trans (Nat.mul_le_mul h h) (by decide))
theorem pairsD_enum (w : List Lt) : enumTK (.tup (pairsD w)) = ret (w.zipIdx.map fun p => .tup [.int (p.2 : Nat), pairD p.1]) := by
  unfold pairsD; simp only [e_enumTK, enumD_map]
theorem wordI_len (H : List Ev) (p : Nat) : (wordI H p).length ≤ 2 * H.length := by
  unfold wordI ltrs
  have h1 := stepsI_len (H.take p)
  have h2 := opens_len H p
  simp at h1 ⊢; omega
theorem ev_caught_pairs {K : List Kd} {T : List (Kd × Kd)} (hT : T.length ≤ 1000) {H : List Ev} (hl : H.length ≤ 100) (p : Nat) :
    F_caught_pairs [.d (tbD K T), .d (hD H), .d (.int (p : Nat))] = ret (.lst (((CPl H T (stepsI (H.take p))).filter (Caught H p)).map nnD)) := by
  have hw := wordI_len H p
  have hs := stepsI_len (H.take p)
  have hs3 : (H.take p).length ≤ H.length := by simp; omega
  have hc := CP_len (H := H) (T := T) (S := stepsI (H.take p)) (by omega)
  unfold F_caught_pairs
  rw [e_fnS]
  have e : dcTE [5, 6] (enumT (call 2 F_word_to (consA (var 1) (consA (var 2) nilL)))) (tupT 2 (consT (nameT 5) (consT (nameT 6) nilT))) yes (var 6) (var 5) [.d (tbD K T), .d (hD H), .d (.int (p : Nat)), .no, .no, .no, .no] = ret (plD (wordI H p)) := by
    unfold dcTE
    simp [ev_word_to (show H.length ≤ 1000 by omega), pairsD, enumD_map]
    rw [chk_of (by omega), dcL_map (xs := (wordI H p).zipIdx) (enc := fun x => .tup [.int (x.2 : Nat), pairD x.1]) (fun _ => true) (fun x => lkey x.1) (fun x => .int (x.2 : Nat))]
    · rw [List.filter_eq_self.mpr fun _ _ => rfl]; rfl
    · rintro ⟨⟨i, s⟩, n⟩ _
      simp [dcStep, pairD, D.tkey, D.keys, D.key, lkey]
  simp [e]
  rw [lcE_map (xs := CPl H T (stepsI (H.take p))) (enc := nnD) (Caught H p) nnD (by simp [ev_conflicting hT hl]) (by omega)]
  · simp
  · rintro ⟨i, j⟩ hq
    obtain ⟨h1, h2, h3, _⟩ := mem_CP.mp hq
    have := ev_is_caught h1 h2 h3
    cases hc : Caught H p (i, j) <;> (simp only [Caught] at hc; simp [lcStep, nnD, this, hc])
end EC
end
/-! ## M10 -/
section
set_option Elab.async false
set_option linter.all false
set_option maxRecDepth 100000
set_option maxHeartbeats 2000000
/-! M10: the edges. -/
namespace EC
open PySem PySem.Spec PyProof.Rows L2
theorem GoodH.take {K H} (h : GoodH K H) (p : Nat) : GoodH K (H.take p) := by
  refine ⟨by have := h.len; simp; omega, fun i e he => ?_⟩
  rw [List.getElem?_take] at he
  split at he
  · rename_i hip
    rw [List.take_take, Nat.min_eq_left (Nat.le_of_lt hip)]
    exact h.ok i e he
  · cases he
theorem GoodH.kept_nodup {K H} (h : GoodH K H) : (keptI H).Nodup := by
  have hp : H.Pairwise fun e f => e.isEnd = true → f.isEnd = true → e.name ≠ f.name := by
    rw [List.pairwise_iff_getElem]
    intro i j hi hj hij h1 h2 he
    have hok := h.ok j H[j] (List.getElem?_eq_getElem hj)
    have hm : H[i] ∈ H.take j := by
      have : (H.take j)[i]? = some H[i] := by rw [List.getElem?_take, if_pos hij, List.getElem?_eq_getElem hi]
      exact List.mem_of_getElem? this
    have hend : EndIn (H.take j) H[j].name := by
      rw [← he]
      cases q : H[i] with
      | dos t k => rw [q] at h1; cases h1
      | keep t => rw [q] at hm; exact .inl hm
      | drop t => rw [q] at hm; exact .inr hm
    cases q : H[j] with
    | dos t k => rw [q] at h2; cases h2
    | keep t => rw [q] at hok hend; exact hok.2.2 hend
    | drop t => rw [q] at hok hend; exact hok.2.2 hend
  unfold keptI List.Nodup
  rw [List.pairwise_map, List.pairwise_filter]
  refine hp.imp ?_
  intro e f hh h1 h2
  apply hh
  · cases e <;> first | rfl | cases h1
  · cases f <;> first | rfl | cases h2
theorem keptI_len (H : List Ev) : (keptI H).length ≤ H.length := by
  unfold keptI; rw [List.length_map]; exact List.length_filter_le _ _
theorem edKeys_ret {ks : List Int} (h : ks.Nodup) (hl : ks.length ≤ 1000) : edKeys (ks.map .int) = ret ks := by
  funext P
  apply propext
  constructor
  · rintro ⟨ks', h1, _, _, h2⟩
    rw [ints_map] at h1
    injection h1 with h1
    exact h1 ▸ h2
  · intro hp; exact ⟨ks, ints_map ks, h, hl, hp⟩
theorem rowAt_cons (k : Int) (ks : List Int) (r : List Int) (rows : List (List Int)) (t : Int) : rowAt (k :: ks) (r :: rows) t = if k = t then some r else rowAt ks rows t := by
  unfold rowAt
  rw [List.zip_cons_cons, List.find?_cons]
  by_cases h : k = t <;> simp [h]
def updR (ks : List Int) (rows : List (List Int)) (a b : Int) : List (List Int) := (ks.zip rows).map fun p => if p.1 = a then p.2 ++ [b] else p.2
theorem rowAt_upd (a b t : Int) : ∀ (ks : List Int) (rows : List (List Int)), rowAt ks (updR ks rows a b) t = (rowAt ks rows t).map fun r => if t = a then r ++ [b] else r
  | [], rows => by unfold updR rowAt; simp
  | k :: ks, [] => by unfold updR rowAt; simp
  | k :: ks, r :: rows => by
    have ih := rowAt_upd a b t ks rows
    have e : updR (k :: ks) (r :: rows) a b = (if k = a then r ++ [b] else r) :: updR ks rows a b := by unfold updR; simp
    rw [e, rowAt_cons, rowAt_cons, ih]
    by_cases h : k = t
    · subst h; simp
    · simp [h]
theorem edStep_len {ks : List Int} {rows : List (List Int)} (h : rows.length = ks.length) (a b : Int) : (edStep ks rows a b).length = ks.length := by
  unfold edStep
  split
  · simp [h]
  · exact h
theorem edStep_mem {ks : List Int} {rows : List (List Int)} (h : rows.length = ks.length) (a b : Int) {t : Int} {r : List Int} (hr : rowAt ks rows t = some r) (ht : t ∈ ks) :
    ∃ r', rowAt ks (edStep ks rows a b) t = some r' ∧ ∀ u, u ∈ r' ↔ u ∈ r ∨ (t = a ∧ u = b ∧ a ≠ b ∧ b ∈ ks) := by
  unfold edStep
  by_cases hok : edOk ks rows a b = true
  · rw [if_pos hok]
    have hok' := hok
    unfold edOk at hok'
    rw [Bool.and_eq_true, decide_eq_true_eq] at hok'
    obtain ⟨⟨h1, h2, h3⟩, h4⟩ := hok'
    have e := rowAt_upd a b t ks rows
    unfold updR at e
    rw [hr] at e
    refine ⟨_, e, fun u => ?_⟩
    by_cases hta : t = a
    · simp only [hta, if_true, List.mem_append, List.mem_singleton, true_and]
      constructor
      · rintro (h | h)
        · exact .inl h
        · exact .inr ⟨h, h1, h3⟩
      · rintro (h | ⟨h, _⟩)
        · exact .inl h
        · exact .inr h
    · simp [hta]
  · rw [if_neg hok]
    refine ⟨r, hr, fun u => ⟨.inl, ?_⟩⟩
    rintro (h | ⟨h1, h2, h3, h4⟩)
    · exact h
    · apply Classical.byContradiction
      intro hn
      apply hok
      unfold edOk
      rw [Bool.and_eq_true, decide_eq_true_eq]
      subst h1; subst h2
      refine ⟨⟨h3, ht, h4⟩, ?_⟩
      rw [hr]
      simp [hn]
def rowsF (H : List Ev) (ks : List Int) (qs : List (Nat × Nat)) (rows : List (List Int)) : List (List Int) := qs.foldl (fun rows q => edStep ks rows (nm H q.1) (nm H q.2)) rows
theorem rowsF_len {H ks} : ∀ (qs : List (Nat × Nat)) {rows : List (List Int)}, rows.length = ks.length → (rowsF H ks qs rows).length = ks.length
  | [], _, h => h
  | q :: qs, _, h => rowsF_len (H := H) qs (edStep_len h _ _)
theorem rowsF_mem {H ks} {t : Int} (ht : t ∈ ks) : ∀ (qs : List (Nat × Nat)) {rows : List (List Int)} {r : List Int}, rows.length = ks.length → rowAt ks rows t = some r →
    ∃ r', rowAt ks (rowsF H ks qs rows) t = some r' ∧ ∀ u, u ∈ r' ↔ u ∈ r ∨ (t ≠ u ∧ u ∈ ks ∧ ∃ q ∈ qs, nm H q.1 = t ∧ nm H q.2 = u)
  | [], rows, r, _, hr => ⟨r, hr, fun u => by simp⟩
  | q :: qs, rows, r, hl, hr => by
    obtain ⟨r1, h1, h2⟩ := edStep_mem hl (nm H q.1) (nm H q.2) hr ht
    obtain ⟨r2, h3, h4⟩ := rowsF_mem ht qs (edStep_len hl (nm H q.1) (nm H q.2)) h1
    refine ⟨r2, h3, fun u => ?_⟩
    rw [h4, h2]
    constructor
    · rintro ((h | ⟨a1, a2, a3, a4⟩) | ⟨b1, b2, q', b3, b4⟩)
      · exact .inl h
      · exact .inr ⟨by rw [a1, a2]; exact a3, by rw [a2]; exact a4, q, by simp, a1.symm, a2.symm⟩
      · exact .inr ⟨b1, b2, q', by simp [b3], b4⟩
    · rintro (h | ⟨b1, b2, q', b3, b4⟩)
      · exact .inl (.inl h)
      · rcases List.mem_cons.mp b3 with rfl | b3
        · exact .inl (.inr ⟨b4.1.symm, b4.2.symm, by rw [b4.1, b4.2]; exact b1, by rw [b4.2]; exact b2⟩)
        · exact .inr ⟨b1, b2, q', b3, b4⟩
/-- the relation -/
def Eg (H : List Ev) (T : List (Kd × Kd)) (p : Nat) (t u : Int) : Bool := decide (t ≠ u ∧ t ∈ keptI (H.take p) ∧ u ∈ keptI (H.take p)) && (CPl H T (stepsI (H.take p))).any fun q => decide (nm H q.1 = t) && decide (nm H q.2 = u)
theorem Eg_iff {H T p} {t u : Int} : Eg H T p t u = true ↔ t ≠ u ∧ t ∈ keptI (H.take p) ∧ u ∈ keptI (H.take p) ∧ ∃ q ∈ CPl H T (stepsI (H.take p)), nm H q.1 = t ∧ nm H q.2 = u := by
  unfold Eg
  rw [Bool.and_eq_true, decide_eq_true_eq, List.any_eq_true]
  constructor
  · rintro ⟨⟨h1, h2, h3⟩, q, h4, h5⟩
    rw [Bool.and_eq_true, decide_eq_true_eq, decide_eq_true_eq] at h5
    exact ⟨h1, h2, h3, q, h4, h5⟩
  · rintro ⟨h1, h2, h3, q, h4, h5⟩
    exact ⟨⟨h1, h2, h3⟩, q, h4, by rw [Bool.and_eq_true, decide_eq_true_eq, decide_eq_true_eq]; exact h5⟩
theorem Eg_irr {H T p} (t : Int) : Eg H T p t t = false := by
  cases h : Eg H T p t t with
  | false => rfl
  | true => exact absurd rfl (Eg_iff.mp h).1
def EdD (ks : List Int) (E : Int → Int → Bool) (d : D) : Prop := ∃ rows : List (List Int), d = .dk (ks.map Sum.inl) (rowsD rows) ∧ rows.length = ks.length ∧ ∀ t ∈ ks, ∃ r, rowAt ks rows t = some r ∧ ∀ u, decide (u ∈ r) = E t u
theorem nm_of {H : List Ev} {i : Nat} {e : Ev} (h : H[i]? = some e) : nm H i = e.name := by unfold nm; rw [h]
theorem edL_ret {tb : D} {H : List Ev} {pp : D} {ks : List Int} : ∀ (qs : List (Nat × Nat)) (rows : List (List Int)), (∀ q ∈ qs, (∃ e, H[q.1]? = some e) ∧ ∃ e, H[q.2]? = some e) → edL tb (hD H) pp ks (qs.map nnD) rows = ret (rowsF H ks qs rows)
  | [], rows, _ => rfl
  | q :: qs, rows, h => by
    obtain ⟨⟨e1, h1⟩, e2, h2⟩ := h q (by simp)
    have ih := edL_ret (tb := tb) (pp := pp) (ks := ks) qs (edStep ks rows (nm H q.1) (nm H q.2)) fun q' hq => h q' (by simp [hq])
    have e : edTU (edR1 tb (hD H) pp (.int (q.1 : Nat)) (.int (q.2 : Nat))) = ret [.int (nm H q.1), .int (nm H q.2)] := by
      unfold edTU
      simp [ev_owner h1, ev_owner h2, nm_of h1, nm_of h2]
    show bnd (edTU (edR1 tb (hD H) pp (.int (q.1 : Nat)) (.int (q.2 : Nat)))) _ = _
    rw [e, e_ret]
    exact ih
theorem ev_edges_at {K : List Kd} {T : List (Kd × Kd)} (hT : T.length ≤ 1000) {H : List Ev} (hH : GoodH K H) (p : Nat) :
    ∃ d, F_edges_at [.d (tbD K T), .d (hD H), .d (.int (p : Nat))] = ret d ∧ EdD (keptI (H.take p)) (Eg H T p) d := by
  have hl := hH.len
  have hs := stepsI_len (H.take p)
  have hs3 : (H.take p).length ≤ H.length := by simp; omega
  have hc := CP_len (H := H) (T := T) (S := stepsI (H.take p)) (by omega)
  have hk := (hH.take p).kept_nodup
  have hkl := keptI_len (H.take p)
  let ks := keptI (H.take p)
  let rows := rowsF H ks (CPl H T (stepsI (H.take p))) (ks.map fun _ => [])
  refine ⟨.dk (ks.map Sum.inl) (rowsD rows), ?_, rows, rfl, rowsF_len _ (by simp), ?_⟩
  · unfold F_edges_at
    simp only
    have e1 : itL (call 2 F_kept_in (consA (var 1) (consA (var 2) nilL))) (edR0 (tbD K T) (hD H) (.int (p : Nat))) = ret (ks.map .int) := by
      simp [ev_kept_in (show H.length ≤ 1000 by omega), intsD]; rfl
    have e2 : itL (call 3 F_conflicting_pairs (consA (var 0) (consA (var 1) (consA (var 2) nilL)))) (edR0 (tbD K T) (hD H) (.int (p : Nat))) = ret ((CPl H T (stepsI (H.take p))).map nnD) := by
      simp [ev_conflicting hT hl]
    rw [e1, e_ret, edKeys_ret hk (by omega), e_ret, e2, e_ret, chk_of (by rw [List.length_map]; omega), edL_ret, e_ret]
    rintro ⟨i, j⟩ hq
    obtain ⟨h1, h2, _⟩ := mem_CP.mp hq
    obtain ⟨_, _, e1⟩ := mem_steps_take h1
    obtain ⟨_, _, e2⟩ := mem_steps_take h2
    exact ⟨⟨_, e1⟩, _, e2⟩
  · intro t ht
    have hr : ∀ (ks : List Int), t ∈ ks → rowAt ks (ks.map fun _ => ([] : List Int)) t = some [] := by
      intro ks
      induction ks with
      | nil => intro h; cases h
      | cons k ks ih =>
        intro h
        rw [List.map_cons, rowAt_cons]
        by_cases hkt : k = t
        · rw [if_pos hkt]
        · rw [if_neg hkt]; exact ih ((List.mem_cons.mp h).resolve_left (Ne.symm hkt))
    obtain ⟨r, h1, h2⟩ := rowsF_mem (H := H) (ks := ks) ht (CPl H T (stepsI (H.take p))) (rows := ks.map fun _ => []) (by simp) (hr ks ht)
    refine ⟨r, h1, fun u => ?_⟩
    rw [Bool.eq_iff_iff, decide_eq_true_eq, h2, Eg_iff]
    constructor
    · rintro (h | ⟨a, b, c⟩)
      · cases h
      · exact ⟨a, ht, b, c⟩
    · rintro ⟨a, _, b, c⟩
      exact .inr ⟨a, b, c⟩
theorem get_row {ks : List Int} {E : Int → Int → Bool} {d : D} (h : EdD ks E d) {t : Int} (ht : t ∈ ks) : ∃ r : List Int, getS d (.int t) = ret (.lst (r.map .int)) ∧ ∀ u, inB (.int u) (r.map .int) = E t u := by
  obtain ⟨rows, rfl, hl, hr⟩ := h
  obtain ⟨r, h1, h2⟩ := hr t ht
  refine ⟨r, ?_, fun u => by rw [inB_i, h2]⟩
  have : dlook (.dk (ks.map Sum.inl) (rowsD rows)) (.int t) = some (some (.lst (r.map .int))) := by
    show some (look _ _ (Sum.inl t)) = _
    rw [look_rows, h1]; rfl
  unfold getS; rw [this]
theorem ev_inrow {ks : List Int} {E : Int → Int → Bool} {d : D} (h : EdD ks E d) {t : Int} (ht : t ∈ ks) (u : Int) : bnd (getS d (.int t)) (fun y => inS (.int u) y) = ret (.bl (E t u)) := by
  obtain ⟨r, h1, h2⟩ := get_row h ht
  rw [h1, e_ret, inS_lst (lv_int _) (lv_ints _), h2]
theorem din_ed {ks : List Int} {E : Int → Int → Bool} {d : D} (h : EdD ks E d) (t : Int) : dinS (.int t) d = ret (.bl (decide (t ∈ ks))) := by
  obtain ⟨rows, rfl, hl, hr⟩ := h
  show ret (D.bl (look _ _ (Sum.inl t)).isSome) = _
  rw [look_isSome hl]
end EC
end
/-! ## M11 -/
section
set_option Elab.async false
set_option linter.all false
set_option maxRecDepth 100000
set_option maxHeartbeats 2000000
/-! M11: the judge's order, its ring, its fault. -/
namespace EC
open PySem PySem.Spec PyProof.Rows L2
/-- all that may come is of S -/
def Can {α : Type} (m : M α) (S : α → Prop) : Prop := ∀ P : α → Prop, (∀ a, S a → P a) → m P
theorem Can.ret {α : Type} {a : α} {S : α → Prop} (h : S a) : Can (EC.ret a) S := fun P hp => hp a h
theorem Can.bnd {α β : Type} {m : M α} {f : α → M β} {S : α → Prop} {R : β → Prop} (h : Can m S) (h2 : ∀ a, S a → Can (f a) R) : Can (EC.bnd m f) R := fun P hp => h _ fun a ha => h2 a ha P hp
theorem Can.eq {α : Type} {m : M α} {a : α} {S : α → Prop} (h : m = EC.ret a) (hs : S a) : Can m S := by rw [h]; exact Can.ret hs
theorem Can.mono {α : Type} {m : M α} {S R : α → Prop} (h : Can m S) (h2 : ∀ a, S a → R a) : Can m R := fun P hp => h P fun a ha => hp a (h2 a ha)
theorem can_srtI {ks : List Int} (h : ks.length < 64) : Can (srtI ks) fun ds => ∃ ys : List Int, ds = ys.map .int ∧ ys.Perm ks := fun P hp => ⟨h, fun ys h1 _ => hp _ ⟨ys, rfl, h1⟩⟩
theorem eq_nil_ints (xs : List Int) : eqS (.lst (xs.map .int)) (.lst []) = ret (.bl xs.isEmpty) := by
  rw [eqS_ev (lv_ints _) (by simp), q_lst, q_empty, List.isEmpty_map]
theorem ne_nil_ints (xs : List Int) : neS (.lst (xs.map .int)) (.lst []) = ret (.bl (!xs.isEmpty)) := by
  rw [neS_ev (lv_ints _) (by simp), q_lst, q_empty, List.isEmpty_map]
theorem JInv.self {E : Int → Int → Bool} {kept rest : List Int} (h : rest.Perm kept) : JInv E kept rest :=
  ⟨fun a ha => h.mem_iff.mp ha, fun Q hQ _ q hq => h.mem_iff.mpr (hQ q hq)⟩
def OrdR (ks : List Int) (E : Int → Int → Bool) (r : D) : Prop := ∃ order rest : List Int, r = .tup [.lst (order.map .int), .lst (rest.map .int)] ∧ JInv E ks rest ∧ kfree E rest = [] ∧ rest.length < 64
def RingR (E : Int → Int → Bool) (rest : List Int) (r : D) : Prop := ∃ row : List Int, r = .tup (row.map .int) ∧ 2 ≤ row.length ∧ row.Nodup ∧ (∀ t ∈ row, t ∈ rest) ∧ ∀ q ∈ cyc row, E q.1 q.2 = true
def OrdI (ks : List Int) (E : Int → Int → Bool) (d : D) (m : Nat) (ρ : Rho) : Prop := ∃ (order rest : List Int) (x3 x4 x5 : Sl), ρ = [.d d, .o (order.map .int), .d (.lst (rest.map .int)), x3, x4, x5] ∧ JInv E ks rest ∧ rest.length = m ∧ order.length + rest.length < 64
def RingI (E : Int → Int → Bool) (rest : List Int) (d : D) (m : Nat) (ρ : Rho) : Prop := ∃ (row : List Int) (c : Int) (x3 x4 : Sl), ρ = [.d d, .d (.lst (rest.map .int)), .o (row.map .int), x3, x4] ∧ row.getLast? = some c ∧ row.Nodup ∧ (∀ t ∈ row, t ∈ rest) ∧ Adj (fun a b => E a b = true) row.reverse ∧ m + row.length = rest.length
theorem can_order_at {ks : List Int} {E : Int → Int → Bool} {d : D} (hd : EdD ks E d) (hl : ks.length < 64) :
    Can (F_order_at [.d d]) (OrdR ks E) := by
  have hd' := hd
  obtain ⟨rows, rfl, hrl, hrr⟩ := hd'
  unfold F_order_at
  rw [e_fnS]
  simp [sortDID, keyInts_map]
  refine Can.bnd (can_srtI hl) ?_
  rintro _ ⟨ys, rfl, hp⟩
  try simp
  intro P hP
  refine ⟨OrdI ks E (.dk (ks.map Sum.inl) (rowsD rows)),
    ⟨ys.length, [], ys, .no, .no, .no, rfl, JInv.self hp, rfl, by have := hp.length_eq; simp; omega⟩, ?_⟩
  rintro m ρ ⟨order, rest, x3, x4, x5, rfl, hj, hm, hle⟩
  have e1 : lcE [4] (itL (var 2)) (nameT 4) (notT (tst (app (consL (asL (lcE [5] (itL (var 2)) (nameT 5) yes (op2 inS (var 4) (op2 getS (var 0) (var 5))))) nilL) anyS))) (var 4) [.d (.dk (ks.map Sum.inl) (rowsD rows)), .o (order.map .int), .d (.lst (rest.map .int)), x3, x4, x5] = ret ((kfree E rest).map .int) := by
    rw [lcE_map (xs := rest) (enc := .int) (fun t => !(rest.any fun u => E u t)) .int (by simp) (by omega)]
    · rfl
    · intro t ht
      have e2 : lcE [5] (itL (var 2)) (nameT 5) yes (op2 inS (var 4) (op2 getS (var 0) (var 5))) [.d (.dk (ks.map Sum.inl) (rowsD rows)), .o (order.map .int), .d (.lst (rest.map .int)), x3, .d (.int t), x5] = ret (rest.map fun u => .bl (E u t)) := by
        rw [lcE_mapY (xs := rest) (enc := .int) (fun u => .bl (E u t)) (by simp) (by omega)]
        intro u hu
        obtain ⟨r, g1, g2⟩ := get_row hd (hj.sub u hu)
        simp [lcStep, g1, g2]
      cases hb : rest.any fun u => E u t <;> simp [lcStep, e2, hb]
  cases hf : kfree E rest with
  | nil =>
    rw [hf] at e1
    simp [e1]
    rw [e_give (xs := order.map .int) (by rfl)]
    simp
    exact hP _ ⟨order, rest, rfl, hj, hf, by omega⟩
  | cons t ts =>
    rw [hf] at e1
    have e3 := eq_nil_ints (t :: ts)
    simp at e3
    simp [e1, e3]
    rw [e_appS (xs := order.map .int) (by rfl)]
    simp
    rw [chk_of (by omega)]
    simp
    have ht : t ∈ kfree E rest := by rw [hf]; simp
    have ht2 := (mem_kfree.mp ht).1
    rw [lcE_map (xs := rest) (enc := .int) (fun u => !decide (u = t)) .int (by simp) (by omega)]
    · simp
      have hlt : (rest.filter fun u => !decide (u = t)).length < rest.length := by
        have h1 := List.length_filter_le (fun u => !decide (u = t)) rest
        have h2 : (rest.filter fun u => !decide (u = t)).length ≠ rest.length := by
          intro h3
          have := List.length_filter_eq_length_iff.mp h3 t ht2
          simp at this
        omega
      refine ⟨_, by omega, order ++ [t], rest.filter fun u => !decide (u = t), _, _, _, by rw [List.map_append]; rfl, hj.step ht, rfl, by rw [List.length_append]; simp only [List.length_singleton]; omega⟩
    · intro u hu
      by_cases hh : u = t <;> simp [lcStep, hh]
theorem can_ring_in {ks : List Int} {E : Int → Int → Bool} {d : D} (hd : EdD ks E d) (hirr : ∀ t, E t t = false) {rest : List Int} (hsub : ∀ t ∈ rest, t ∈ ks) (hst : Stuck E rest) (hne : rest ≠ []) (hl : rest.length < 64) :
    Can (F_ring_in [.d d, .d (.lst (rest.map .int))]) (RingR E rest) := by
  unfold F_ring_in
  rw [e_fnS]
  cases hr : rest with
  | nil => exact absurd hr hne
  | cons t0 ts =>
    have ht0 : t0 ∈ rest := by rw [hr]; simp
    have e0 : ixS (.lst (rest.map .int)) (.int 0) = ret (.int t0) := by rw [hr]; simp
    rw [← hr]
    simp [e0]
    intro P hP
    refine ⟨RingI E rest d,
      ⟨rest.length - 1, [t0], t0, .no, .no, rfl, rfl, by simp, by simpa using ht0, trivial, by have := List.length_pos_of_mem ht0; simp; omega⟩, ?_⟩
    rintro m ρ ⟨row, c, x3, x4, rfl, hc, hn, hs, ha, hm⟩
    have hcr : c ∈ row := List.mem_of_getLast? hc
    have e1 : ixS (.lst (row.map .int)) (.int (-1)) = ret (.int c) := by
      obtain ⟨ys, rfl⟩ := List.getLast?_eq_some_iff.mp hc
      apply ix_lst
      rw [List.map_append]
      exact atI_last _ _
    have e2 : lcE [4] (itL (var 1)) (nameT 4) (tst (op2 inS (op2 ixS (varW 2) (negE (con (.int 1)))) (op2 getS (var 0) (var 4)))) (var 4) [.d d, .d (.lst (rest.map .int)), .o (row.map .int), x3, x4] = ret ((rest.filter fun u => E u c).map .int) := by
      rw [lcE_map (xs := rest) (enc := .int) (fun u => E u c) .int (by simp) (by omega)]
      intro u hu
      obtain ⟨r, g1, g2⟩ := get_row hd (hsub u hu)
      cases he : E u c <;> simp [lcStep, e1, g1, g2, he]
    obtain ⟨x, hx1, hx2⟩ := hst c (hs c hcr)
    have hxf : x ∈ rest.filter fun u => E u c := List.mem_filter.mpr ⟨hx1, hx2⟩
    cases hq : rest.filter fun u => E u c with
    | nil => rw [hq] at hxf; cases hxf
    | cons y ys =>
      have hy : y ∈ rest.filter fun u => E u c := by rw [hq]; simp
      obtain ⟨hy1, hy2⟩ := List.mem_filter.mp hy
      rw [hq] at e2
      simp [e2, inB_i]
      by_cases hin : y ∈ row
      · simp [hin]
        have hi := idxD_map (enc := D.int) q_int y row
        have hg : ∃ k, (row.findIdx? fun z => decide (z = y)) = some k ∧ ∃ hk : k < row.length, row[k] = y := by
          cases hf : row.findIdx? fun z => decide (z = y) with
          | none =>
            rw [List.findIdx?_eq_none_iff] at hf
            have := hf y hin
            simp at this
          | some k =>
            obtain ⟨hk, h1, _⟩ := List.findIdx?_eq_some_iff_getElem.mp hf
            exact ⟨k, rfl, hk, by simpa using h1⟩
        obtain ⟨k, hk0, hk, hky⟩ := hg
        rw [hk0] at hi
        have e3 : indexL (varW 2) (var 3) [.d d, .d (.lst (rest.map .int)), .o (row.map .int), .d (.int y), x4] = ret (.int (k : Nat)) := by
          unfold indexL
          simp
          unfold idxR
          simp only [hi]
          exact chk_of ⟨(lv_ints (n := 6) row).shp, (lv_int (n := 7) y).shp⟩ _
        simp [e3, cut_drop]
        have hd2 : row.drop k = y :: row.drop (k + 1) := by rw [List.drop_eq_getElem_cons hk, hky]
        have hsplit : row = row.take k ++ y :: row.drop (k + 1) := by
          rw [← hd2, List.take_append_drop]
        have hok := ring_ok hirr (A := row.take k) (B := row.drop (k + 1)) (x := y) (c := c) (by rw [← hsplit]; exact ha) (by rw [← hsplit]; exact hc) hy2
        rw [← hd2] at hok
        apply hP
        refine ⟨(row.drop k).reverse, by simp [List.map_drop], hok.1, ?_, ?_, hok.2⟩
        · exact List.pairwise_reverse.mpr ((hn.sublist (List.drop_sublist _ _)).imp fun h e => h e.symm)
        · intro t ht
          exact hs t (List.mem_of_mem_drop (List.mem_reverse.mp ht))
      · simp [hin]
        rw [e_appS (xs := row.map .int) (by rfl)]
        have hn2 : (row ++ [y]).Nodup := by
          rw [List.nodup_append]
          refine ⟨hn, by simp, ?_⟩
          intro a ha b hb e
          rw [List.mem_singleton] at hb
          exact hin (hb ▸ e ▸ ha)
        have hs2 : ∀ t ∈ row ++ [y], t ∈ rest := by
          intro t ht
          rcases List.mem_append.mp ht with ht | ht
          · exact hs t ht
          · rw [List.mem_singleton] at ht; rw [ht]; exact hy1
        have hle := len_le hn2 hs2
        rw [List.length_append] at hle
        simp only [List.length_singleton] at hle
        simp
        rw [chk_of (by omega)]
        refine ⟨m - 1, by omega, row ++ [y], y, _, _, by rw [List.map_append]; rfl, by simp, hn2, hs2, ?_, by simp; omega⟩
        rw [List.reverse_append]
        show Adj _ (y :: row.reverse)
        cases hrv : row.reverse with
        | nil => trivial
        | cons b l =>
          have hb : b = c := by
            have := congrArg List.head? hrv
            rw [List.head?_reverse, hc] at this
            simpa using this.symm
          rw [hrv] at ha
          exact ⟨by rw [hb]; exact hy2, ha⟩
/-! the fault -/
def Cau (H : List Ev) (T : List (Kd × Kd)) (p : Nat) : List (Nat × Nat) := (CPl H T (stepsI (H.take p))).filter (Caught H p)
inductive Fault (H : List Ev) (T : List (Kd × Kd)) (p : Nat) : D → Prop
  | none : Cau H T p = [] → ¬HasRing (Eg H T p) (keptI (H.take p)) → Fault H T p .non
  | caught (i j : Nat) : (i, j) ∈ Cau H T p → Fault H T p (.tup [.str "caught", .int (i : Nat), .int (j : Nat)])
  | ring (row : List Int) : HasRing (Eg H T p) (keptI (H.take p)) → 2 ≤ row.length → row.Nodup → (∀ t ∈ row, t ∈ keptI (H.take p)) → (∀ q ∈ cyc row, Eg H T p q.1 q.2 = true) → Fault H T p (.tup [.str "ring", .tup (row.map .int)])
theorem lv_nn {n : Nat} (q : Nat × Nat) : Lv (n + 2) (nnD q) := lv_t2 (lv_int _) (lv_int _)
theorem can_fault_at {K : List Kd} {T : List (Kd × Kd)} (hT : T.length ≤ 1000) {H : List Ev} (hH : GoodH K H) (hk : (keptI (H.take p)).length < 64) :
    Can (F_fault_at [.d (tbD K T), .d (hD H), .d (.int (p : Nat))]) (Fault H T p) := by
  have hl := hH.len
  have e1 := ev_caught_pairs (K := K) hT hl p
  obtain ⟨d, e2, hd⟩ := ev_edges_at hT hH p
  unfold F_fault_at
  rw [e_fnS]
  have hne : neS (.lst ((Cau H T p).map nnD)) (.lst []) = ret (.bl (!(Cau H T p).isEmpty)) := by
    rw [neS_ev (lv_lmap fun q _ => lv_nn q) (by simp), q_lst, q_empty, List.isEmpty_map]
  rw [show (CPl H T (stepsI (H.take p))).filter (Caught H p) = Cau H T p from rfl] at e1
  cases hc : Cau H T p with
  | cons q qs =>
    rw [hc] at e1 hne
    obtain ⟨i, j⟩ := q
    have hnn : nnD (i, j) = .tup [.int (i : Nat), .int (j : Nat)] := rfl
    simp [hnn] at e1 hne
    simp [e1, hne, e2, catT]
    try rw [chk_of (by decide)]
    try simp
    exact Can.ret (Fault.caught i j (by rw [hc]; simp))
  | nil =>
    rw [hc] at e1 hne
    simp at e1 hne
    simp [e1, hne, e2]
    refine Can.bnd (can_order_at hd hk) ?_
    rintro _ ⟨order, rest, rfl, hj, hf, hrl⟩
    simp [eq_nil_ints]
    cases hr : rest with
    | nil =>
      simp
      refine Can.ret (Fault.none hc fun h => ?_)
      exact ((hj.fin hf).mpr h) hr
    | cons t ts =>
      have hring : HasRing (Eg H T p) (keptI (H.take p)) := (hj.fin hf).mp (by rw [hr]; simp)
      rw [← hr]
      have hem : rest.isEmpty = false := by rw [hr]; rfl
      have hq : eqvDs (rest.map .int) [] = false := by rw [q_empty, List.isEmpty_map, hem]
      simp [hq]
      refine Can.bnd (can_ring_in hd Eg_irr hj.sub (stuck_of_free hf) (by rw [hr]; simp) hrl) ?_
      rintro _ ⟨row, rfl, h1, h2, h3, h4⟩
      try simp
      exact Can.ret (Fault.ring row hring h1 h2 (fun t ht => hj.sub t (h3 t ht)) h4)
end EC
end
/-! ## M12 -/
section
set_option Elab.async false
set_option linter.all false
set_option maxRecDepth 100000
set_option maxHeartbeats 2000000
/-! M12: the law's book. -/
namespace EC
open PySem PySem.Spec PyProof.Rows L2
def stD : Ev → D
  | .dos t k => .tup [.int t, .str k.1]
  | _ => .non
def bstep (b : BkD) : Ev → BkD
  | .dos t k => { b.setT 0 (.inl b.many) (.tup [.int t, .str k.1]) with many := b.many + 1 }
  | .keep t => { (b.setT 1 (.inl t) (.str "keep")).setT 2 (.inl t) (.int b.many) with many := b.many + 1 }
  | .drop t => { b.setT 1 (.inl t) (.str "drop") with many := b.many + 1 }
theorem noteD_enc (b : BkD) (e : Ev) : noteD b e.enc = some (bstep b e) := by
  cases e with
  | dos t k => simp [Ev.enc, noteD, bstep]
  | keep t => simp [Ev.enc, noteD, bstep]
  | drop t => simp [Ev.enc, noteD, bstep]
theorem readB_enc : ∀ (H : List Ev) (b : BkD), readB (H.map Ev.enc) b = some (H.foldl bstep b)
  | [], _ => rfl
  | e :: H, b => by
    show (noteD b e.enc).bind (readB (H.map Ev.enc)) = _
    rw [noteD_enc]
    exact readB_enc H (bstep b e)
theorem book_tabs : ∀ (H : List Ev) (b : BkD) (n : Nat), b.many = n →
    (H.foldl bstep b).tab 0 = ((H.zipIdx n).filter fun p => p.1.isDo).foldl (fun a p => putP a (Sum.inl ((p.2 : Nat) : Int) : Key) (stD p.1)) (b.tab 0) ∧
    (H.foldl bstep b).tab 2 = ((H.zipIdx n).filter fun p => p.1.isKeep).foldl (fun a p => putP a (Sum.inl p.1.name : Key) (.int (p.2 : Nat))) (b.tab 2) ∧
    (H.foldl bstep b).tab 3 = b.tab 3 ∧ (H.foldl bstep b).clash = b.clash
  | [], b, n, _ => ⟨rfl, rfl, rfl, rfl⟩
  | e :: H, b, n, hn => by
    have ih := book_tabs H (bstep b e) (n + 1) (by cases e <;> (simp only [bstep]; omega))
    rw [List.foldl_cons, List.zipIdx_cons]
    obtain ⟨h1, h2, h3, h4⟩ := ih
    rw [h1, h2, h3, h4]
    cases e with
    | dos t k => exact ⟨by rw [List.filter_cons_of_pos rfl, List.foldl_cons, ← hn]; rfl, by rw [List.filter_cons_of_neg (by simp [Ev.isKeep])]; rfl, rfl, rfl⟩
    | keep t => exact ⟨by rw [List.filter_cons_of_neg (by simp [Ev.isDo])]; rfl, by rw [List.filter_cons_of_pos rfl, List.foldl_cons, ← hn]; rfl, rfl, rfl⟩
    | drop t => exact ⟨by rw [List.filter_cons_of_neg (by simp [Ev.isDo])]; rfl, by rw [List.filter_cons_of_neg (by simp [Ev.isKeep])]; rfl, rfl, rfl⟩
theorem tpairs_map {α : Type} (k : α → List Key) (f : α → D) (hf : ∀ a, D.tkey (f a) = some (k a)) : ∀ xs : List α, D.tpairs (xs.map fun x => .tup [f x, .bl true]) = some (xs.map fun x => (k x, .bl true))
  | [] => rfl
  | x :: xs => by
    show (match D.tkey (f x), D.tpairs (xs.map fun x => .tup [f x, .bl true]) with | some kk, some ps => some ((kk, D.bl true) :: ps) | _, _ => none) = _
    rw [hf, tpairs_map k f hf xs]; rfl
theorem ev_clashE {K : List Kd} {T : List (Kd × Kd)} (hl : T.length ≤ 1000) : ∃ dt, clashE [.d (tbD K T), .no, .no] = ret dt ∧ ClashD T dt := by
  let xs : List (Kd × Kd) := T ++ T.map fun p => (p.2, p.1)
  let ps : List (List Key × D) := xs.map fun p => (kkey p.1 p.2, .bl true)
  refine ⟨dtOf (putAllP [] ps), ?_, ?_⟩
  · unfold clashE
    simp
    rw [lcE_mapY (xs := T) (enc := kpD) (fun p => .tup [kpD p, .bl true]) (by simp [tbD]) (by omega)]
    · rw [e_ret]
      rw [lcE_mapY (xs := T) (enc := kpD) (fun p => .tup [kpD (p.2, p.1), .bl true]) (by simp [tbD]) (by omega)]
      · rw [e_ret, e_catS, chk_of (by simp; omega), e_ret]
        have e : (T.map fun p => D.tup [kpD p, .bl true]) ++ (T.map fun p => D.tup [kpD (p.2, p.1), .bl true]) = xs.map fun p => .tup [kpD p, .bl true] := by
          simp [xs, Function.comp_def]
        rw [e]
        show dictTR _ = _
        unfold dictTR
        rw [tpairs_map (fun p : Kd × Kd => kkey p.1 p.2) kpD (fun p => rfl)]
        exact chk_of (by simp [xs]; omega) _
      · intro p _
        simp [lcStep, kpD, revT]
    · intro p _
      simp [lcStep]
  · intro a b
    rw [din_dt, clash_any, List.any_nil, Bool.false_or]
    have : (ps.any fun p => decide (p.1 = kkey a b)) = xs.any fun x => decide (kkey x.1 x.2 = kkey a b) := by
      simp [ps, List.any_map, Function.comp_def]
    rw [this]
    simp only [xs]
    rw [List.any_append, any_key (α := Unit), List.any_map]
    have e2 := any_key2 (α := Unit) T a b
    simp only [Function.comp_def]
    rw [e2]; rfl
/-! the facts -/
def bkOf (H : List Ev) (dt : D) : BkD := H.foldl bstep ⟨dt, 0, fun _ => []⟩
theorem ev_read_book {K T} (hl : T.length ≤ 1000) {H : List Ev} (hh : H.length ≤ 1000) : ∃ dt, F_law_read_book [.d (tbD K T), .d (hD H)] = ret (bookD (bkOf H dt)) ∧ ClashD T dt := by
  obtain ⟨dt, h1, h2⟩ := ev_clashE (K := K) hl
  refine ⟨dt, ?_, h2⟩
  funext P
  apply propext
  show (_ ∧ clashE _ _) ↔ _
  rw [h1]
  show (_ ∧ ∃ b, readB (H.map Ev.enc) _ = some b ∧ _) ↔ _
  rw [readB_enc]
  constructor
  · rintro ⟨_, b, h3, h4⟩
    injection h3 with h3
    rw [← h3] at h4; exact h4
  · intro h; exact ⟨by simp; omega, _, rfl, h⟩
structure Bk (H : List Ev) (T : List (Kd × Kd)) (b : D) : Prop where
  steps : ∃ st, getS b (.str "steps") = ret st ∧ (∀ (ρ : Rho) (f : Rho → M D), f ρ = ret st → itK f ρ = ret ((stepsI H).map fun i => .int (i : Nat))) ∧ ∀ (i : Nat) (t : Int) (k : Kd), H[i]? = some (.dos t k) → getS st (.int (i : Nat)) = ret (.tup [.int t, .str k.1])
  backs : ∀ t : Int, ∃ d, getS b (.str "backs") = ret d ∧ dninS (.int t) d = ret (.bl true)
  kept : ∃ d, getS b (.str "kept") = ret d ∧ keysD d = ret ((keptI H).map .int) ∧ ∀ t : Int, dninS (.int t) d = ret (.bl (!decide (t ∈ keptI H)))
  clash : ∃ dt, getS b (.str "clash") = ret dt ∧ ClashD T dt
@[simp] theorem w_cs : (("clash" : Str) = "steps") = False := by simp; decide +kernel
@[simp] theorem w_ms : (("many" : Str) = "steps") = False := by simp; decide +kernel
@[simp] theorem w_cb : (("clash" : Str) = "backs") = False := by simp; decide +kernel
@[simp] theorem w_mb : (("many" : Str) = "backs") = False := by simp; decide +kernel
@[simp] theorem w_sb : (("steps" : Str) = "backs") = False := by simp; decide +kernel
@[simp] theorem w_eb : (("ends" : Str) = "backs") = False := by simp; decide +kernel
@[simp] theorem w_kb2 : (("kept" : Str) = "backs") = False := by simp; decide +kernel
@[simp] theorem w_ck : (("clash" : Str) = "kept") = False := by simp; decide +kernel
@[simp] theorem w_mk : (("many" : Str) = "kept") = False := by simp; decide +kernel
@[simp] theorem w_sk : (("steps" : Str) = "kept") = False := by simp; decide +kernel
@[simp] theorem w_ek : (("ends" : Str) = "kept") = False := by simp; decide +kernel
theorem look_cons {κ : Type} [DecidableEq κ] (k : κ) (ks : List κ) (d : D) (ds : List D) (key : κ) : look (k :: ks) (d :: ds) key = if k = key then some d else look ks ds key := by
  unfold look
  rw [List.zip_cons_cons, List.find?_cons]
  by_cases h : k = key <;> simp [h]
theorem get_some {x y d : D} (h : dlook x y = some (some d)) : getS x y = ret d := by unfold getS; rw [h]
theorem fst_filter (q : Ev → Bool) (H : List Ev) : ((H.zipIdx.filter fun p => q p.1).map (·.1)) = H.filter q := by
  have := List.filter_map (f := fun p : Ev × Nat => p.1) (p := q) (l := H.zipIdx)
  rw [List.zipIdx_map_fst] at this
  exact this.symm
theorem bk_of {H : List Ev} {T : List (Kd × Kd)} {dt : D} (hk : (keptI H).Nodup) (hc : ClashD T dt) : Bk H T (bookD (bkOf H dt)) := by
  obtain ⟨h1, h2, h3, h4⟩ := book_tabs H ⟨dt, 0, fun _ => []⟩ 0 rfl
  have t0 : (bkOf H dt).tab 0 = (H.zipIdx.filter fun p => p.1.isDo).map fun p => ((Sum.inl ((p.2 : Nat) : Int) : Key), stD p.1) := by
    unfold bkOf
    rw [h1, fold_append (fun p : Ev × Nat => (Sum.inl ((p.2 : Nat) : Int) : Key)) (fun p => stD p.1) _ _ ?_ (by simp)]
    · rfl
    · have := stepsI_nodup H
      unfold stepsI at this
      have h := nodup_map (f := fun i : Nat => (Sum.inl (i : Int) : Key)) (fun a b e => by injection e with e; omega) this
      rw [List.map_map] at h
      exact h
  have t2 : (bkOf H dt).tab 2 = (H.zipIdx.filter fun p => p.1.isKeep).map fun p => ((Sum.inl p.1.name : Key), D.int (p.2 : Nat)) := by
    unfold bkOf
    rw [h2, fold_append (fun p : Ev × Nat => (Sum.inl p.1.name : Key)) (fun p => D.int (p.2 : Nat)) _ _ ?_ (by simp)]
    · rfl
    · have e : ((H.zipIdx.filter fun p => p.1.isKeep).map fun p => (Sum.inl p.1.name : Key)) = (keptI H).map Sum.inl := by
        unfold keptI
        rw [← fst_filter, List.map_map, List.map_map]; rfl
      rw [e]
      exact nodup_map (fun a b e => by injection e) hk
  have t3 : (bkOf H dt).tab 3 = [] := h3
  have tc : (bkOf H dt).clash = dt := h4
  have k2 : ((bkOf H dt).tab 2).map (·.1) = (keptI H).map Sum.inl := by
    rw [t2, List.map_map]
    unfold keptI
    rw [← fst_filter, List.map_map, List.map_map]; rfl
  refine ⟨⟨.fk (((bkOf H dt).tab 0).map (·.1)) (((bkOf H dt).tab 0).map (·.2)), get_some ?_, ?_, ?_⟩, ?_, ⟨pK ((bkOf H dt).tab 2), get_some ?_, ?_, ?_⟩, dt, get_some ?_, hc⟩
  · show some (look _ _ (Sum.inr ("steps" : Str) : Key)) = _
    simp [look_cons]
  · intro ρ f hf
    unfold itK
    rw [hf, e_ret]
    show ret _ = _
    rw [t0, List.map_map, List.map_map]
    unfold stepsI
    rw [List.map_map]
    rfl
  · intro i t k hi
    apply get_some
    show some (look _ _ (Sum.inl ((i : Nat) : Int))) = _
    rw [t0, look_map]
    have hm : (Ev.dos t k, i) ∈ H.zipIdx.filter fun p => p.1.isDo := List.mem_filter.mpr ⟨List.mem_zipIdx_iff_getElem?.mpr hi, rfl⟩
    cases hf : (H.zipIdx.filter fun p => p.1.isDo).find? fun x => decide ((Sum.inl ((x.2 : Nat) : Int) : Key) = Sum.inl ((i : Nat) : Int)) with
    | none =>
      rw [List.find?_eq_none] at hf
      have := hf _ hm
      simp at this
    | some q =>
      have h5 := List.find?_some hf
      have h6 := List.mem_of_find?_eq_some hf
      obtain ⟨e, j⟩ := q
      have h5 : (Sum.inl ((j : Nat) : Int) : Key) = Sum.inl ((i : Nat) : Int) := of_decide_eq_true h5
      injection h5 with h5
      have h5 : j = i := by omega
      subst h5
      have h7 := List.mem_zipIdx_iff_getElem?.mp (List.mem_filter.mp h6).1
      simp only at h7
      rw [hi] at h7
      injection h7 with h7
      subst h7
      rfl
  · intro t
    refine ⟨pK ((bkOf H dt).tab 3), get_some ?_, ?_⟩
    · show some (look _ _ (Sum.inr ("backs" : Str) : Key)) = _
      simp [look_cons]
    · rw [t3]; rfl
  · show some (look _ _ (Sum.inr ("kept" : Str) : Key)) = _
    simp [look_cons]
  · show ret _ = _
    rw [k2, List.map_map]; rfl
  · intro t
    show ret (D.bl (!(look _ _ (Sum.inl t)).isSome)) = _
    rw [look_any]
    congr 2
    rw [Bool.eq_iff_iff, Bool.not_eq_true', Bool.not_eq_true']
    have : (((bkOf H dt).tab 2).any fun p => decide (p.1 = Sum.inl t)) = ((keptI H).map (Sum.inl : Int → Key)).any fun k => decide (k = Sum.inl t) := by
      rw [← k2, List.any_map]; rfl
    rw [this, List.any_map]
    have : ((keptI H).any ((fun k : Key => decide (k = Sum.inl t)) ∘ Sum.inl)) = decide (t ∈ keptI H) := by
      rw [Bool.eq_iff_iff, List.any_eq_true, decide_eq_true_eq]
      constructor
      · rintro ⟨x, hx, e⟩
        have e : (Sum.inl x : Key) = Sum.inl t := of_decide_eq_true e
        injection e with e
        exact e ▸ hx
      · intro h; exact ⟨t, h, by simp⟩
    rw [this]
  · show some (look _ _ (Sum.inr ("clash" : Str) : Key)) = _
    rw [tc]
    simp [look_cons]
@[simp] theorem lv_wsteps {n : Nat} : Lv (n + 1) (.str "steps") := lv_str (by decide +kernel)
theorem ev_law_do_clash {H T b} (hb : Bk H T b) {i j : Nat} {t u : Int} {a c : Kd} (h1 : H[i]? = some (.dos t a)) (h2 : H[j]? = some (.dos u c)) :
    F_law_do_clash [.d b, .d (.int (i : Nat)), .d (.int (j : Nat))] = ret (.bl (!decide (i = j) && cl H T i j)) := by
  obtain ⟨st, s1, _, s2⟩ := hb.steps
  obtain ⟨dt, d1, d2⟩ := hb.clash
  have g1 := s2 _ _ _ h1
  have g2 := s2 _ _ _ h2
  have := d2 a c
  unfold F_law_do_clash
  rw [e_fnS, cl_of h1 h2]
  by_cases hij : i = j
  · by_cases htu : t = u <;> simp [s1, g1, g2, d1, this, hij, htu]
  · have hij' : ¬(i : Int) = j := by omega
    by_cases htu : t = u <;> simp [s1, g1, g2, d1, this, hij, hij', htu]
end EC
end
/-! ## M13 -/
section
set_option Elab.async false
set_option linter.all false
set_option maxRecDepth 100000
set_option maxHeartbeats 2000000
/-! M13: the law's word, the law's edges. -/
namespace EC
open PySem PySem.Spec PyProof.Rows L2
theorem ev_law_cut_word {K} {H : List Ev} (hH : GoodH K H) (p : Nat) : F_law_cut_word [.d (hD H), .d (.int (p : Nat))] = ret (.tup [.wd (pairsD (wordI H p)), intsD (keptI (H.take p))]) := by
  have hl := hH.len
  have hl2 : (H.take p).length ≤ 1000 := by simp; omega
  obtain ⟨dt, b1, b2⟩ := ev_read_book (K := []) (T := []) (by simp) hl2
  have hb := bk_of (hH.take p).kept_nodup b2
  obtain ⟨st, s1, s2, s3⟩ := hb.steps
  obtain ⟨kd, k1, k2, k3⟩ := hb.kept
  have b1 : F_law_read_book [.d (.tup [.tup [], .tup []]), .d (hD (H.take p))] = ret (bookD (bkOf (H.take p) dt)) := b1
  unfold F_law_cut_word
  rw [e_fnS]
  simp [hD_take, b1]
  have e : enumTK (hD (H.take p)) = ret ((H.take p).zipIdx.map fun p => .tup [.int (p.2 : Nat), p.1.enc]) := by
    simp only [hD, e_enumTK, enumD_map]
  rw [e, e_ret]
  obtain ⟨a', b', hf⟩ := fold_do (H.take p).zipIdx [] .no .no
  rw [forL_fold (fun p : Ev × Nat => D.tup [.int (p.2 : Nat), p.1.enc]) (fun s : List D × Sl × Sl => [.d (hD H), .d (.int (p : Nat)), .d (bookD (bkOf (H.take p) dt)), .o s.1, .no, s.2.1, s.2.2, .no])
    (fun s p => (if p.1.isDo = true then s.1 ++ [.tup [.int (p.2 : Nat), .int 1]] else s.1, Sl.d (.int (p.2 : Nat)), Sl.d p.1.enc)) (fun n s => s.1.length ≤ n) _ 0 ([], .no, .no) (by simp), hf]
  · have ho := opens_len H p
    have hs := stepsI_len (H.take p)
    have h2 : (H.take p).length ≤ H.length := by simp; omega
    have lc1 : ∀ (x3 x4 x5 x6 x7 : Sl), lcE [7] (itK (op2 getS (var 2) (con (.str "steps")))) (nameT 7) (andT (tst (op2 dninS (var 7) (op2 getS (var 2) (con (.str "backs"))))) (tst (op2 dninS (op2 ixS (op2 getS (op2 getS (var 2) (con (.str "steps"))) (var 7)) (con (.int 0))) (op2 getS (var 2) (con (.str "kept")))))) (var 7)
        [.d (hD H), .d (.int (p : Nat)), .d (bookD (bkOf (H.take p) dt)), x3, x4, x5, x6, x7] = ret (((stepsI (H.take p)).filter (op H p)).map fun i => .int (i : Nat)) := by
      intro x3 x4 x5 x6 x7
      rw [lcE_map (xs := stepsI (H.take p)) (enc := fun i => .int (i : Nat)) (op H p) (fun i => .int (i : Nat)) (s2 _ _ (by simp [s1])) (by omega)]
      intro i hi
      obtain ⟨t, k, e⟩ := mem_stepsI hi
      obtain ⟨t', k', e'⟩ := mem_steps_take hi
      have g := s3 _ _ _ e
      obtain ⟨bd, c1, c2⟩ := hb.backs (i : Nat)
      have hop : op H p i = !decide (t ∈ keptI (H.take p)) := by
        rw [List.getElem?_take] at e
        split at e
        · unfold op nm; rw [e]; rfl
        · cases e
      by_cases hm : t ∈ keptI (H.take p) <;> simp [lcStep, c1, c2, s1, g, k1, k3, hop, hm]
    simp [lc1]
    rw [lcE_mapY (xs := opensI H p) (enc := fun i => D.int (i : Nat)) (fun i => pairD ((i : Int), -1)) (by simp [opens_eq, List.map_reverse]) (by omega)]
    · have h3 : (pairsD (wordI H p)) = pairsD (ltrs (stepsI (H.take p)) 1) ++ (opensI H p).map (fun i : Nat => pairD ((i : Int), -1)) := by simp [wordI, pairsD, ltrs]
      have h4 : ((H.take p).zipIdx.filter fun p => p.1.isDo).map (·.2) = stepsI (H.take p) := rfl
      rw [h3]
      simp [h4, e_catS, k1, k2]
      rw [chk_of (by simp [pairsD, ltrs]; omega)]
      simp
      rfl
    · intro i _
      simp [lcStep, pairD]
  · intro x hx m s hm hi
    obtain ⟨e, i⟩ := x
    obtain ⟨acc, s3, s4⟩ := s
    have hi : acc.length ≤ m := hi
    have hm : m < 1000000 := by simp at hm; omega
    cases e with
    | dos t k =>
      simp [Ev.enc, Ev.isDo]
      rw [e_appS (xs := acc) (by rfl)]
      simp
      exact ⟨chk_of (by omega) _, hi⟩
    | keep t => simp [Ev.enc, Ev.isDo]; omega
    | drop t => simp [Ev.enc, Ev.isDo]; omega
/-- the law's edges -/
def Lx (H : List Ev) (T : List (Kd × Kd)) (S : List Nat) (x : Nat × Nat) : List (Int × Int) := ((S.drop (x.2 + 1)).filter fun j => !decide (x.1 = j) && cl H T x.1 j).map fun j => (nm H x.1, nm H j)
def Led (H : List Ev) (T : List (Kd × Kd)) (p : Nat) : List (Int × Int) := (stepsI (H.take p)).zipIdx.flatMap (Lx H T (stepsI (H.take p)))
theorem mem_Led {H T p} {t u : Int} : (t, u) ∈ Led H T p ↔ ∃ q ∈ CPl H T (stepsI (H.take p)), nm H q.1 = t ∧ nm H q.2 = u := by
  have hS := stepsI_lt (H.take p)
  unfold Led
  rw [List.mem_flatMap]
  constructor
  · rintro ⟨⟨i, n⟩, h1, h2⟩
    unfold Lx at h2
    obtain ⟨j, h3, h4⟩ := List.mem_map.mp h2
    obtain ⟨h5, h6⟩ := List.mem_filter.mp h3
    rw [Bool.and_eq_true] at h6
    have h7 := List.mem_zipIdx_iff_getElem?.mp h1
    simp only at h7 h5 h6 h4
    obtain ⟨hn, h8⟩ := List.getElem?_eq_some_iff.mp h7
    obtain ⟨m, hm⟩ := List.getElem?_of_mem h5
    rw [List.getElem?_drop] at hm
    obtain ⟨hm1, hm2⟩ := List.getElem?_eq_some_iff.mp hm
    have hlt := List.pairwise_iff_getElem.mp hS n (n + 1 + m) hn hm1 (by omega)
    rw [h8, hm2] at hlt
    injection h4 with h9 h10
    exact ⟨(i, j), mem_CP.mpr ⟨h8 ▸ List.getElem_mem _, hm2 ▸ List.getElem_mem _, hlt, h6.2⟩, h9, h10⟩
  · rintro ⟨⟨i, j⟩, h1, rfl, rfl⟩
    obtain ⟨h2, h3, h4, h5⟩ := mem_CP.mp h1
    obtain ⟨n, hn⟩ := List.getElem?_of_mem h2
    obtain ⟨m, hm⟩ := List.getElem?_of_mem h3
    obtain ⟨hn1, hn2⟩ := List.getElem?_eq_some_iff.mp hn
    obtain ⟨hm1, hm2⟩ := List.getElem?_eq_some_iff.mp hm
    have hnm : n < m := by
      apply Classical.byContradiction
      intro hh
      by_cases e : m = n
      · subst e; omega
      · have := List.pairwise_iff_getElem.mp hS m n hm1 hn1 (by omega)
        omega
    refine ⟨(i, n), List.mem_zipIdx_iff_getElem?.mpr hn, List.mem_map.mpr ⟨j, List.mem_filter.mpr ⟨?_, ?_⟩, rfl⟩⟩
    · apply List.mem_of_getElem? (i := m - (n + 1))
      rw [List.getElem?_drop]
      simp only
      rw [show n + 1 + (m - (n + 1)) = m by omega]
      exact hm
    · rw [Bool.and_eq_true]
      refine ⟨?_, h5⟩
      simp; omega
theorem Eg_Led {H T p} {t u : Int} (h : t ≠ u) (ht : t ∈ keptI (H.take p)) (hu : u ∈ keptI (H.take p)) : Eg H T p t u = decide ((t, u) ∈ Led H T p) := by
  rw [Bool.eq_iff_iff, Eg_iff, decide_eq_true_eq, mem_Led]
  exact ⟨fun h => h.2.2.2, fun q => ⟨h, ht, hu, q⟩⟩
theorem fold_app {α : Type} (f : α → List D) : ∀ (xs : List α) (acc : List D) (a b : Sl) (fa fb : α → Sl), ∃ a' b', xs.foldl (fun (s : List D × Sl × Sl) x => (s.1 ++ f x, fa x, fb x)) (acc, a, b) = (acc ++ xs.flatMap f, a', b')
  | [], acc, a, b, _, _ => ⟨a, b, by simp⟩
  | x :: xs, acc, a, b, fa, fb => by
    obtain ⟨a', b', ih⟩ := fold_app f xs (acc ++ f x) (fa x) (fb x) fa fb
    exact ⟨a', b', by rw [List.foldl_cons, ih, List.flatMap_cons, List.append_assoc]⟩
theorem ev_law_edges {H T b} (hb : Bk H T b) (hl : H.length ≤ 100) (p : Nat) : F_law_edges [.d b, .d (.int (p : Nat))] = ret (.lst (pairsD (Led H T p))) := by
  obtain ⟨st, s1, s2, s3⟩ := hb.steps
  have hs := stepsI_len H
  have hs2 := stepsI_len (H.take p)
  have hs3 : (H.take p).length ≤ H.length := by simp; omega
  unfold F_law_edges
  rw [e_fnS]
  simp
  rw [lcE_map (xs := stepsI H) (enc := fun i => .int (i : Nat)) (fun i => decide (i < p)) (fun i => .int (i : Nat)) (s2 _ _ (by simp [s1])) (by omega)]
  · rw [steps_take]
    simp [enumD_map]
    generalize hS : stepsI (H.take p) = S
    obtain ⟨a', b', hf⟩ := fold_app (fun x => pairsD (Lx H T S x)) S.zipIdx [] .no .no (fun x => Sl.d (.int (x.2 : Nat))) (fun x => Sl.d (.int (x.1 : Nat)))
    rw [forL_fold (fun x : Nat × Nat => D.tup [.int (x.2 : Nat), .int (x.1 : Nat)]) (fun s : List D × Sl × Sl => [.d b, .d (.int (p : Nat)), .o s.1, .d (.lst (S.map fun i => .int (i : Nat))), s.2.1, s.2.2, .no])
      (fun s x => (s.1 ++ pairsD (Lx H T S x), Sl.d (.int (x.2 : Nat)), Sl.d (.int (x.1 : Nat)))) (fun n s => s.1.length ≤ n * 100) _ 0 ([], .no, .no) (by simp), hf]
    · simp
      rw [e_give (xs := S.zipIdx.flatMap fun x => pairsD (Lx H T S x)) (by simp)]
      simp [Led, hS, pairsD, List.map_flatMap]
    · rintro ⟨i, n⟩ hx m s hm hi
      obtain ⟨acc, x4, x5⟩ := s
      have hi : acc.length ≤ m * 100 := hi
      have hn := List.mem_zipIdx_iff_getElem?.mp hx
      simp only at hn
      have hiS : i ∈ stepsI (H.take p) := hS ▸ List.mem_of_getElem? hn
      obtain ⟨t, a, e1⟩ := mem_steps_take hiS
      have hlen : (Lx H T S (i, n)).length ≤ 100 := by
        unfold Lx
        rw [List.length_map]
        refine Nat.le_trans (List.length_filter_le _ _) ?_
        rw [List.length_drop, ← hS]; omega
      have hc : cutD (S.map fun i => D.int (i : Nat)) (some ((n : Int) + 1)) none = (S.drop (n + 1)).map fun i => D.int (i : Nat) := by
        rw [show ((n : Int) + 1) = ((n + 1 : Nat) : Int) by omega, cut_drop, List.map_drop]
      simp
      rw [e_extS (xs := acc) (by rfl)]
      simp
      rw [lcE_map (xs := S.drop (n + 1)) (enc := fun i => .int (i : Nat)) (fun j => !decide (i = j) && cl H T i j) (fun j => pairD (nm H i, nm H j)) (by simp [hc]) (by rw [List.length_drop, ← hS]; omega)]
      · have he : ((S.drop (n + 1)).filter fun j => !decide (i = j) && cl H T i j).map (fun j => pairD (nm H i, nm H j)) = pairsD (Lx H T S (i, n)) := by
          unfold Lx pairsD; rw [List.map_map]; rfl
        rw [he]
        simp
        have hm : m ≤ 100 := by simp at hm; rw [← hS] at hm; omega
        refine ⟨chk_of ?_ _, ?_⟩
        · simp [pairsD]; omega
        · simp [pairsD]; omega
      · intro j hj
        have hjS : j ∈ stepsI (H.take p) := hS ▸ List.mem_of_mem_drop hj
        obtain ⟨u, c, e2⟩ := mem_steps_take hjS
        have h5 := ev_law_do_clash hb e1 e2
        have g1 := s3 _ _ _ e1
        have g2 := s3 _ _ _ e2
        have n1 := nm_of e1
        have n2 := nm_of e2
        simp only [Ev.name] at n1 n2
        generalize (!decide (i = j) && cl H T i j) = v at h5 ⊢
        cases v <;> simp [lcStep, h5, s1, g1, g2, pairD, n1, n2]
  · intro i hi
    by_cases hip : i < p <;> simp [lcStep, hip]
end EC
end
/-! ## M14 -/
section
set_option Elab.async false
set_option linter.all false
set_option maxRecDepth 100000
set_option maxHeartbeats 2000000
/-! M14: is it a ring. -/
namespace EC
open PySem PySem.Spec PyProof.Rows L2
def dd : List Int → List Int
  | [] => []
  | x :: xs => if x ∈ dd xs then dd xs else x :: dd xs
theorem dd_cons (x : Int) (xs : List Int) : dd (x :: xs) = if x ∈ dd xs then dd xs else x :: dd xs := rfl
theorem mem_dd : ∀ {xs : List Int} {k : Int}, k ∈ dd xs ↔ k ∈ xs
  | [], k => Iff.rfl
  | x :: xs, k => by
    rw [dd_cons]
    by_cases h : x ∈ dd xs
    · rw [if_pos h, mem_dd, List.mem_cons]
      constructor
      · exact .inr
      · rintro (rfl | h2)
        · exact mem_dd.mp h
        · exact h2
    · rw [if_neg h, List.mem_cons, List.mem_cons, mem_dd]
theorem dd_nodup : ∀ xs : List Int, (dd xs).Nodup
  | [] => List.Pairwise.nil
  | x :: xs => by
    rw [dd_cons]
    by_cases h : x ∈ dd xs
    · rw [if_pos h]; exact dd_nodup xs
    · rw [if_neg h]; exact List.nodup_cons.mpr ⟨h, dd_nodup xs⟩
theorem dd_le : ∀ xs : List Int, (dd xs).length ≤ xs.length
  | [] => Nat.le_refl _
  | x :: xs => by
    have := dd_le xs
    rw [dd_cons]
    by_cases h : x ∈ dd xs
    · rw [if_pos h, List.length_cons]; omega
    · rw [if_neg h, List.length_cons, List.length_cons]; omega
theorem dd_len : ∀ {xs : List Int}, (dd xs).length = xs.length ↔ xs.Nodup
  | [] => by simp [dd]
  | x :: xs => by
    have := dd_le xs
    rw [List.nodup_cons, ← dd_len, dd_cons]
    by_cases h : x ∈ dd xs
    · rw [if_pos h, List.length_cons]
      constructor
      · intro h2; omega
      · rintro ⟨h2, _⟩; exact absurd (mem_dd.mp h) h2
    · rw [if_neg h, List.length_cons, List.length_cons]
      constructor
      · intro h2; exact ⟨fun h3 => h (mem_dd.mpr h3), by omega⟩
      · rintro ⟨_, h2⟩; omega
theorem same_len {α : Type} [DecidableEq α] {a b : List α} (ha : a.Nodup) (hb : b.Nodup) (h : ∀ k, k ∈ a ↔ k ∈ b) : a.length = b.length :=
  Nat.le_antisymm (len_le ha fun x hx => (h x).mp hx) (len_le hb fun x hx => (h x).mpr hx)
theorem e_lensetI {xs : List Int} (h : xs.length ≤ 1000) : lensetI xs = ret (.int ((dd xs).length : Nat)) := by
  funext P
  apply propext
  constructor
  · rintro ⟨_, h2⟩; exact h2 (dd xs) (dd_nodup xs) fun k => mem_dd
  · intro hp
    refine ⟨h, fun l h1 h2 => ?_⟩
    rw [same_len h1 (dd_nodup xs) fun k => (h2 k).trans mem_dd.symm]
    exact hp
def lensetK : D → M D
  | .tup ds => match D.ints ds with
    | some xs => lensetI xs
    | none => die
  | _ => die
theorem e_lensetE (f) (ρ : Rho) : lensetE f ρ = bnd (f ρ) lensetK := by unfold lensetE; exact nd rfl
theorem e_lensetK {xs : List Int} (h : xs.length ≤ 1000) : lensetK (.tup (xs.map .int)) = ret (.int ((dd xs).length : Nat)) := by
  show (match D.ints _ with | some xs => lensetI xs | none => die) = _
  rw [ints_map]
  exact e_lensetI h
theorem put_keys {κ : Type} [DecidableEq κ] (l : List (κ × D)) (k : κ) (d : D) (hn : (l.map (·.1)).Nodup) : ((putP l k d).map (·.1)).Nodup ∧ ∀ x, x ∈ (putP l k d).map (·.1) ↔ x ∈ l.map (·.1) ∨ x = k := by
  unfold putP
  by_cases h : (l.any fun p => decide (p.1 = k)) = true
  · rw [if_pos h]
    have e : (l.map fun p => if p.1 = k then (p.1, d) else p).map (·.1) = l.map (·.1) := by
      rw [List.map_map]
      apply List.map_congr_left
      intro p _
      show (if p.1 = k then (p.1, d) else p).1 = p.1
      split <;> rfl
    rw [e]
    refine ⟨hn, fun x => ⟨.inl, ?_⟩⟩
    rintro (hx | rfl)
    · exact hx
    · obtain ⟨p, hp, hq⟩ := List.any_eq_true.mp h
      exact List.mem_map.mpr ⟨p, hp, of_decide_eq_true hq⟩
  · rw [if_neg h, List.map_append]
    have hk : k ∉ l.map (·.1) := by
      intro hk
      obtain ⟨p, hp, hq⟩ := List.mem_map.mp hk
      exact h (List.any_eq_true.mpr ⟨p, hp, decide_eq_true hq⟩)
    refine ⟨?_, fun x => by simp⟩
    rw [List.nodup_append]
    refine ⟨hn, by simp, ?_⟩
    intro a ha b hb e
    simp at hb
    exact hk (hb ▸ e ▸ ha)
theorem foldP_keys {α κ : Type} [DecidableEq κ] (k : α → κ) (g : α → D) : ∀ (xs : List α) (acc : List (κ × D)), (acc.map (·.1)).Nodup → ((xs.foldl (fun a x => putP a (k x) (g x)) acc).map (·.1)).Nodup ∧ ∀ y, y ∈ (xs.foldl (fun a x => putP a (k x) (g x)) acc).map (·.1) ↔ y ∈ acc.map (·.1) ∨ y ∈ xs.map k
  | [], acc, h => ⟨h, fun y => by simp⟩
  | x :: xs, acc, h => by
    obtain ⟨h1, h2⟩ := put_keys acc (k x) (g x) h
    obtain ⟨h3, h4⟩ := foldP_keys k g xs _ h1
    refine ⟨h3, fun y => ?_⟩
    rw [List.foldl_cons, h4, h2, List.map_cons, List.mem_cons, or_assoc]
theorem set_len (xs : List Int) : (xs.foldl (fun a x => putP a (Sum.inl x : Key) (.bl true)) []).length = (dd xs).length := by
  obtain ⟨h1, h2⟩ := foldP_keys (fun x : Int => (Sum.inl x : Key)) (fun _ => .bl true) xs [] (by simp)
  have h3 : ((dd xs).map (Sum.inl : Int → Key)).Nodup := nodup_map (fun a b e => by injection e) (dd_nodup xs)
  have := same_len h1 h3 fun y => by
    rw [h2, List.mem_map, List.mem_map]
    simp [mem_dd]
  rw [List.length_map, List.length_map] at this
  exact this
def rB (H : List Ev) (T : List (Kd × Kd)) (p : Nat) (row : List Int) : Bool := decide (2 ≤ row.length) && (row.all fun t => decide (t ∈ keptI (H.take p))) && decide (row.Nodup) && (cyc row).all fun q => decide (q ∈ Led H T p)
theorem rB_iff {H T p row} : rB H T p row = true ↔ 2 ≤ row.length ∧ (∀ t ∈ row, t ∈ keptI (H.take p)) ∧ row.Nodup ∧ ∀ q ∈ cyc row, Eg H T p q.1 q.2 = true := by
  unfold rB
  rw [Bool.and_eq_true, Bool.and_eq_true, Bool.and_eq_true, decide_eq_true_eq, decide_eq_true_eq, List.all_eq_true, List.all_eq_true]
  constructor
  · rintro ⟨⟨⟨h1, h2⟩, h3⟩, h4⟩
    refine ⟨h1, fun t ht => of_decide_eq_true (h2 t ht), h3, fun q hq => ?_⟩
    have hm := cyc_mem hq
    rw [Eg_Led (cyc_ne h3 h1 q hq) (of_decide_eq_true (h2 _ hm.1)) (of_decide_eq_true (h2 _ hm.2))]
    exact h4 q hq
  · rintro ⟨h1, h2, h3, h4⟩
    refine ⟨⟨⟨h1, fun t ht => decide_eq_true (h2 t ht)⟩, h3⟩, fun q hq => ?_⟩
    have hm := cyc_mem hq
    rw [← Eg_Led (cyc_ne h3 h1 q hq) (h2 _ hm.1) (h2 _ hm.2)]
    exact h4 q hq
theorem e_is_int (i : Int) : F_law_is_int [.d (.int i)] = ret (.bl true) := by
  unfold F_law_is_int
  rw [e_fnS]
  simp
@[simp] theorem e_catT (xs ys : List D) : catT (.tup xs) (.tup ys) = chk (xs.length + ys.length ≤ 1000000) (ret (.tup (xs ++ ys))) := nd rfl
theorem r_ring : reprD (.str "ring") = ret (.str "'ring'") := by
  have e : reprText ("ring" : Str) = ("'ring'" : Str) := by decide +kernel
  show chk _ _ = _
  rw [e]
  exact chk_of (by decide +kernel) _
theorem r_caught : reprD (.str "caught") = ret (.str "'caught'") := by
  have e : reprText ("caught" : Str) = ("'caught'" : Str) := by decide +kernel
  show chk _ _ = _
  rw [e]
  exact chk_of (by decide +kernel) _
theorem inB_pair (q : Int × Int) (L : List (Int × Int)) : inB (pairD q) (pairsD L) = decide (q ∈ L) := by
  refine (inB_map (enc := pairD) q_pair q L).trans ?_
  exact decide_eq_decide.mpr Iff.rfl
theorem lv_pairs {n : Nat} (L : List (Int × Int)) : Lv (n + 3) (.lst (pairsD L)) := lv_lmap fun q _ => lv_pair q
theorem ones_nil {α : Type} (b : α → Bool) (xs : List α) : neS (.lst ((xs.filter b).map fun _ => .int 1)) (.lst []) = ret (.bl (xs.any b)) := by
  rw [neS_ev (lv_lmap fun _ _ => lv_int _) (by simp), q_lst, q_empty, List.isEmpty_map]
  congr 2
  rw [Bool.eq_iff_iff, Bool.not_eq_true', List.isEmpty_eq_false_iff, List.any_eq_true]
  constructor
  · intro h
    obtain ⟨x, hx⟩ := List.exists_mem_of_ne_nil _ h
    exact ⟨x, (List.mem_filter.mp hx).1, (List.mem_filter.mp hx).2⟩
  · rintro ⟨x, h1, h2⟩ h
    have : x ∈ xs.filter b := List.mem_filter.mpr ⟨h1, h2⟩
    rw [h] at this; cases this
theorem ones_nilE {α : Type} (b : α → Bool) (xs : List α) : eqS (.lst ((xs.filter b).map fun _ => .int 1)) (.lst []) = ret (.bl (!xs.any b)) := by
  rw [eqS_ev (lv_lmap fun _ _ => lv_int _) (by simp), q_lst, q_empty, List.isEmpty_map]
  congr 2
  rw [Bool.eq_iff_iff, List.isEmpty_iff, List.filter_eq_nil_iff, Bool.not_eq_true', List.any_eq_false]
theorem zip_cyc {f : Rho → M D} {ρ : Rho} {row : List Int} (h : f ρ = ret (.tup (row.map .int))) (hr : row.length ≤ 1000) :
    zipT f (op2 catT (sliT f (part (con (.int 1))) noPart) (sliT f noPart (part (con (.int 1))))) ρ = ret ((cyc row).map pairD) := by
  simp [h, -List.drop_one, -List.map_tail]
  rw [chk_of (by omega)]
  rw [e_ret, e_zipTK, ← List.map_drop, ← List.map_take, ← List.map_append, zipD_map]
  rfl
theorem ev_law_is_ring {H T b} (hb : Bk H T b) (hl : H.length ≤ 100) (p : Nat) {row : List Int} (hr : row.length ≤ 1000) :
    F_law_is_ring [.d b, .d (.int (p : Nat)), .d (intsD (keptI (H.take p))), .d (.tup [.str "ring", .tup (row.map .int)])] = ret (.bl (rB H T p row)) := by
  unfold F_law_is_ring
  rw [e_fnS]
  simp [r_ring]
  by_cases h1 : row.length < 2
  · have e : rB H T p row = false := by unfold rB; simp; intro h; omega
    have h1' : (row.length : Int) < 2 := by omega
    simp [h1', e]
  have h1' : ¬(row.length : Int) < 2 := by omega
  simp [h1']
  rw [lcE_map (xs := row) (enc := .int) (fun t => !decide (t ∈ keptI (H.take p))) (fun _ => .int 1) (by simp) (by omega)]
  · rw [e_ret, ones_nil]
    by_cases h2 : ∀ t ∈ row, t ∈ keptI (H.take p)
    · have h2' : (row.any fun t => !decide (t ∈ keptI (H.take p))) = false := by
        rw [List.any_eq_false]; intro t ht; simp [h2 t ht]
      simp [h2', e_lensetE, e_lensetK hr]
      by_cases h3 : row.Nodup
      · have h3' : ((dd row).length : Int) = row.length := by rw [dd_len.mpr h3]
        simp [h3', ev_law_edges hb hl]
        rw [lcE_map (xs := cyc row) (enc := pairD) (fun q => !decide (q ∈ Led H T p)) (fun _ => .int 1) (zip_cyc (by simp) hr) (by unfold cyc; simp; omega)]
        · rw [e_ret, ones_nilE]
          simp
          congr 2
          rw [Bool.eq_iff_iff]
          unfold rB
          simp [h3]
          have h1'' : 2 ≤ row.length := by omega
          simp [h1'']
          intro _; exact h2
        · intro q _
          have := inB_pair q (Led H T p)
          have h5 : ninS (pairD q) (.lst (pairsD (Led H T p))) = ret (.bl (!decide (q ∈ Led H T p))) := by
            rw [ninS_lst (lv_pair _) (lv_pairs _), this]
          by_cases hq : q ∈ Led H T p <;> simp [lcStep, h5, hq]
      · have h3' : ¬((dd row).length : Int) = row.length := by
          intro h; exact h3 (dd_len.mp (by omega))
        have e : rB H T p row = false := by unfold rB; simp [h3]
        simp [h3', e]
    · have h2' : (row.any fun t => !decide (t ∈ keptI (H.take p))) = true := by
        rw [List.any_eq_true]
        apply Classical.byContradiction
        intro hn
        apply h2
        intro t ht
        apply Classical.byContradiction
        intro hh
        exact hn ⟨t, ht, by simp [hh]⟩
      have e : rB H T p row = false := by
        cases hh : rB H T p row with
        | false => rfl
        | true => exact absurd (rB_iff.mp hh).2.1 h2
      simp [h2', e]
  · intro t _
    have h5 : ninS (.int t) (.lst ((keptI (H.take p)).map .int)) = ret (.bl (!decide (t ∈ keptI (H.take p)))) := by
      rw [ninS_lst (lv_int _) (lv_ints _), inB_i]
    by_cases hm : t ∈ keptI (H.take p) <;> simp [lcStep, e_is_int, intsD, h5, hm]
theorem ev_is_ring {K T} (hT : T.length ≤ 1000) {H : List Ev} (hH : GoodH K H) (p : Nat) {row : List Int} (hr : row.length ≤ 1000) (h0 : ∀ t ∈ row, 0 ≤ t) :
    F_is_ring [.d (tbD K T), .d (hD H), .d (.int (p : Nat)), .d (.tup (row.map .int))] = ret (.bl (rB H T p row)) := by
  obtain ⟨d, e2, hd⟩ := ev_edges_at hT hH p
  unfold F_is_ring
  rw [e_fnS]
  by_cases h1 : row.length < 2
  · have e : rB H T p row = false := by unfold rB; simp; intro h; omega
    have h1' : (row.length : Int) < 2 := by omega
    simp [h1', e]
  have h1' : ¬(row.length : Int) < 2 := by omega
  simp [h1']
  rw [lcE_mapY (xs := row) (enc := .int) (fun t => .bl true) (by simp) (by omega)]
  · have := all_map (fun _ : Int => true) row
    simp [this, e2]
    rw [lcE_mapY (xs := row) (enc := .int) (fun t => .bl (decide (t ∈ keptI (H.take p)))) (by simp) (by omega)]
    · simp
      by_cases h2 : ∀ t ∈ row, t ∈ keptI (H.take p)
      · have h2' : ¬∃ x, x ∈ row ∧ ¬x ∈ keptI (H.take p) := fun ⟨x, h3, h4⟩ => h4 (h2 x h3)
        have ed : dcKE [5] (itT (var 3)) (nameT 5) yes (var 5) (con (.bl true)) [.d (tbD K T), .d (hD H), .d (.int (p : Nat)), .d (.tup (row.map .int)), .d d, .no, .no] = ret (dkOf (row.foldl (fun a x => putP a (Sum.inl x : Key) (.bl true)) [])) := by
          unfold dcKE
          simp
          rw [chk_of (by omega), dcL_map (xs := row) (enc := .int) (fun _ => true) (fun x => (Sum.inl x : Key)) (fun _ => .bl true)]
          · rw [List.filter_eq_self.mpr fun _ _ => rfl]; rfl
          · intro x _
            simp [dcStep, D.key]
        have el : lenD (dkOf (row.foldl (fun a x => putP a (Sum.inl x : Key) (.bl true)) [])) = ret (.int ((dd row).length : Nat)) := by
          unfold dkOf
          rw [e_lenK, List.length_map, set_len]
        simp [h2', ed, el]
        by_cases h3 : row.Nodup
        · have h3' : ((dd row).length : Int) = row.length := by rw [dd_len.mpr h3]
          simp [h3']
          rw [lcE_mapY (xs := cyc row) (enc := pairD) (fun q => .bl (Eg H T p q.1 q.2)) (zip_cyc (by simp) hr) (by unfold cyc; simp; omega)]
          · simp
            congr 2
            rw [Bool.eq_iff_iff, rB_iff, List.all_eq_true]
            exact ⟨fun h => ⟨by omega, h2, h3, h⟩, fun h => h.2.2.2⟩
          · intro q hq
            obtain ⟨r, g1, g2⟩ := get_row hd (h2 _ (cyc_mem hq).1)
            simp [lcStep, pairD, g1, g2]
        · have h3' : ¬((dd row).length : Int) = row.length := by
            intro h; exact h3 (dd_len.mp (by omega))
          have e : rB H T p row = false := by unfold rB; simp [h3]
          simp [h3', e]
      · have h2' : ∃ x, x ∈ row ∧ ¬x ∈ keptI (H.take p) := by
          apply Classical.byContradiction
          intro hn
          exact h2 fun t ht => Classical.byContradiction fun hh => hn ⟨t, ht, hh⟩
        have e : rB H T p row = false := by
          cases hh : rB H T p row with
          | false => rfl
          | true => exact absurd (rB_iff.mp hh).2.1 h2
        simp [h2', e]
    · intro t _
      simp [lcStep, din_ed hd]
  · intro t ht
    simp [lcStep, ev_count (h0 t ht)]
theorem ev_cut_holds {K T} (hT : GoodT K T) {H : List Ev} (hH : GoodH K H) {p : Nat} (hp : p ≤ H.length) {row : List Int} (hr : row.length ≤ 1000) (h0 : ∀ t ∈ row, 0 ≤ t) :
    F_cut_holds [.d (tbD K T), .d (hD H), .d (.int (p : Nat)), .d (.tup [.str "ring", .tup (row.map .int)])] = ret (.bl (rB H T p row)) := by
  unfold F_cut_holds
  rw [e_fnS]
  simp [ev_need_cut hT hH hp]
  unfold F_is_paper_at F_is_paper
  rw [e_fnS]
  simp [e_fnS]
  unfold F_is_fault F_is_paper
  rw [e_fnS]
  simp [e_fnS, ev_is_ring hT.tl hH p hr h0]
end EC
end
/-! ## M15 -/
section
set_option Elab.async false
set_option linter.all false
set_option maxRecDepth 100000
set_option maxHeartbeats 2000000
/-! M15: what is left over. -/
namespace EC
open PySem PySem.Spec PyProof.Rows L2
def clI (H : List Ev) (T : List (Kd × Kd)) (i j : Int) : Bool := !decide (i = j) && cl H T i.toNat j.toNat
def GoodL (H : List Ev) (i : Int) : Prop := ∃ n : Nat, i = n ∧ ∃ t k, H[n]? = some (.dos t k)
theorem ev_clI {H T b} (hb : Bk H T b) {i j : Int} (hi : GoodL H i) (hj : GoodL H j) : F_law_do_clash [.d b, .d (.int i), .d (.int j)] = ret (.bl (clI H T i j)) := by
  obtain ⟨n, rfl, t, k, h1⟩ := hi
  obtain ⟨m, rfl, u, c, h2⟩ := hj
  rw [ev_law_do_clash hb h1 h2]
  unfold clI
  have e : decide ((n : Int) = m) = decide (n = m) := decide_eq_decide.mpr ⟨fun h => by omega, fun h => by omega⟩
  rw [e]; rfl
def loT : D → Rho → M Rho := tupT 2 (consT (nameT 5) (consT (tupT 2 (consT (nameT 7) (consT (nameT 8) nilT))) nilT))
def loF : Rho → M (List D) := lcE [9] (rng2 (op2 addS (var 5) (con (.int 1))) (app (consL (var 3) nilL) lenS)) (nameT 9) (tst (op2 eqS (op2 ixS (op2 ixS (var 3) (var 9)) (con (.int 0))) (var 7))) (var 9)
def loC : Rho → M (List D) := lcE [10, 11] (itL (asL (sliL (var 3) (part (op2 addS (var 5) (con (.int 1)))) (part (op2 ixS (var 6) (con (.int 0))))))) (tupT 2 (consT (nameT 10) (consT (nameT 11) nilT))) (tst (call 3 F_law_do_clash (consA (var 0) (consA (var 7) (consA (var 10) nilL))))) (con (.int 1))
def loB : Rho → M Res := seqS (setS 6 (asL loF))
  (ifS (andT (tst (op2 neS (var 6) (asL (lstE nilL)))) (tst (op2 eqS (op2 ixS (op2 ixS (var 3) (op2 ixS (var 6) (con (.int 0)))) (con (.int 1))) (negE (var 8))))) (ifS (tst (op2 eqS (asL loC) (asL (lstE nilL)))) (seqS (setS 3 (asL (catE (asL (catE (asL (sliL (var 3) noPart (part (var 5)))) (asL (sliL (var 3) (part (op2 addS (var 5) (con (.int 1)))) (part (op2 ixS (var 6) (con (.int 0)))))))) (asL (sliL (var 3) (part (op2 addS (op2 ixS (var 6) (con (.int 0))) (con (.int 1)))) noPart)))))
  brk) skip) skip)
def loO : Rho → M Res := seqS (ifS (tst (op2 eqS (app (consL (var 3) nilL) lenS) (var 4))) brk skip)
  (seqS (setS 4 (app (consL (var 3) nilL) lenS))
  (forS (enumL (var 3)) loT loB))
theorem left_over_eq : F_law_left_over = fnS 12 (seqS (parS [3, 4] (xD (asL (app (consL (var 1) nilL) listS)) (xD (negE (con (.int 1))) nilL)))
  (seqS (forS (rng1 (app (consL (var 1) nilL) lenS)) (nameT 2) loO) (retS (var 3)))) := rfl
abbrev loS (b wd : D) (x2 : Sl) (L : List Lt) (x4 y5 y6 y7 y8 : Sl) : Rho := [.d b, .d wd, x2, .d (.lst (pairsD L)), x4, y5, y6, y7, y8, .no, .no, .no]
def farB (i : Int) (w : List Lt) (m : Nat) : Bool := match w[m]? with
  | some l => decide (l.1 = i)
  | none => false
theorem far_none {i : Int} : ∀ {w : List Lt}, loSplit i w = none → ∀ l ∈ w, l.1 ≠ i
  | [], _, l, hl => by cases hl
  | (j, s) :: w, h, l, hl => by
    unfold loSplit at h
    by_cases hj : j = i
    · rw [if_pos hj] at h; cases h
    · rw [if_neg hj, Option.map_eq_none_iff] at h
      rcases List.mem_cons.mp hl with rfl | hl
      · exact hj
      · exact far_none h l hl
theorem far_nil {i : Int} {w : List Lt} (h : loSplit i w = none) : (List.range w.length).filter (farB i w) = [] := by
  rw [List.filter_eq_nil_iff]
  intro m hm
  have hm := List.mem_range.mp hm
  have := far_none h w[m] (List.getElem_mem hm)
  unfold farB
  rw [List.getElem?_eq_getElem hm]
  simp [this]
theorem far_some {i s' : Int} {w mid rest : List Lt} (h : loSplit i w = some (mid, s', rest)) : ∃ tl, (List.range w.length).filter (farB i w) = mid.length :: tl := by
  obtain ⟨h1, h2⟩ := loSplit_some h
  have e : List.range w.length = List.range' 0 mid.length ++ mid.length :: List.range' (mid.length + 1) rest.length := by
    rw [h1, List.range_eq_range', List.length_append, List.length_cons]
    rw [← List.range'_append_1, Nat.zero_add, List.range'_succ]
  have e1 : (List.range' 0 mid.length).filter (farB i w) = [] := by
    rw [List.filter_eq_nil_iff]
    intro m hm
    have hm : m < mid.length := by have := List.mem_range'.mp hm; omega
    have := h2 mid[m] (List.getElem_mem hm)
    unfold farB
    rw [h1, List.getElem?_append_left hm, List.getElem?_eq_getElem hm]
    simp [this]
  have e2 : farB i w mid.length = true := by
    unfold farB
    rw [h1, List.getElem?_append_right (Nat.le_refl _), Nat.sub_self]
    simp
  rw [e, List.filter_append, e1, List.nil_append, List.filter_cons, if_pos e2]
  exact ⟨_, rfl⟩
/-- a place behind n -/
def kN (n m : Nat) : Nat := n + 1 + m
theorem pairs_at {L : List Lt} {i : Nat} {l : Lt} (h : L[i]? = some l) : ixS (.lst (pairsD L)) (.int (i : Nat)) = ret (pairD l) := ix_lst (by rw [atI_nat]; unfold pairsD; rw [List.getElem?_map, h]; rfl)
theorem ev_loF {b wd : D} {x2 x4 y6 : Sl} {pre w : List Lt} {i s : Int} (hl : (pre ++ (i, s) :: w).length ≤ 1000) :
    loF (loS b wd x2 (pre ++ (i, s) :: w) x4 (.d (.int (pre.length : Nat))) y6 (.d (.int i)) (.d (.int s))) = ret (((List.range w.length).filter (farB i w)).map fun (m : Nat) => .int (kN pre.length m : Nat)) := by
  have hl2 : w.length ≤ 1000 := by simp at hl; omega
  unfold loF
  rw [lcE_map (xs := List.range w.length) (enc := fun m => .int (kN pre.length m : Nat)) (farB i w) (fun m => .int (kN pre.length m : Nat)) ?_ (by simp; omega)]
  · intro m hm
    have hm := List.mem_range.mp hm
    have hg : (pre ++ (i, s) :: w)[kN pre.length m]? = some w[m] := by
      unfold kN
      rw [List.getElem?_append_right (by omega), show pre.length + 1 + m - pre.length = m + 1 by omega, List.getElem?_cons_succ, List.getElem?_eq_getElem hm]
    have := pairs_at hg
    have hf : farB i w m = decide ((w[m]).1 = i) := by unfold farB; rw [List.getElem?_eq_getElem hm]
    by_cases hh : (w[m]).1 = i <;> simp [lcStep, this, hf, hh, pairD]
  · unfold rng2
    simp
    rw [chk_of]
    · unfold rngD
      congr 1
      have : ((pairsD (pre ++ (i, s) :: w)).length - ((pre.length : Int) + 1)).toNat = w.length := by
        unfold pairsD
        rw [List.length_map, List.length_append, List.length_cons]
        omega
      rw [this]
      apply List.map_congr_left
      intro m _
      unfold kN
      congr 1
    · have : (pairsD (pre ++ (i, s) :: w)).length ≤ 1000 := by unfold pairsD; rw [List.length_map]; exact hl
      have : pre.length ≤ 1000 := by simp at hl; omega
      omega
theorem lo_body {H T b} (hb : Bk H T b) {wd : D} {x2 x4 x5 x6 x7 x8 : Sl} {pre w : List Lt} {i s : Int} (hl : (pre ++ (i, s) :: w).length ≤ 1000) (hg : ∀ l ∈ pre ++ (i, s) :: w, GoodL H l.1) :
    ∃ y5 y6 y7 y8, bnd (loT (.tup [.int (pre.length : Nat), pairD (i, s)]) (loS b wd x2 (pre ++ (i, s) :: w) x4 x5 x6 x7 x8)) loB = ret (match loSplit i w with
      | some (mid, s', rest) => if s' = -s ∧ (mid.all fun l => !clI H T i l.1) = true then .bk (loS b wd x2 (pre ++ (mid ++ rest)) x4 y5 y6 y7 y8) else .nx (loS b wd x2 (pre ++ (i, s) :: w) x4 y5 y6 y7 y8)
      | none => .nx (loS b wd x2 (pre ++ (i, s) :: w) x4 y5 y6 y7 y8)) := by
  refine ⟨.d (.int (pre.length : Nat)), .d (.lst (((List.range w.length).filter (farB i w)).map fun (m : Nat) => .int (kN pre.length m : Nat))), .d (.int i), .d (.int s), ?_⟩
  have eT : loT (.tup [.int (pre.length : Nat), pairD (i, s)]) (loS b wd x2 (pre ++ (i, s) :: w) x4 x5 x6 x7 x8) = ret (loS b wd x2 (pre ++ (i, s) :: w) x4 (.d (.int (pre.length : Nat))) x6 (.d (.int i)) (.d (.int s))) := by
    unfold loT
    simp [pairD]
  rw [eT, e_ret]
  unfold loB
  simp only [e_seqS, e_setS, e_asL, ev_loF hl, e_ret, e_bnd, e_seqK_nx, List.set_cons_succ, List.set_cons_zero]
  cases hs : loSplit i w with
  | none =>
    rw [far_nil hs]
    simp
  | some q =>
    obtain ⟨mid, s', rest⟩ := q
    obtain ⟨tl, ht⟩ := far_some hs
    obtain ⟨h1, h2⟩ := loSplit_some hs
    rw [ht]
    have hx : (pre ++ (i, s) :: w)[kN pre.length mid.length]? = some (i, s') := by
      unfold kN
      rw [List.getElem?_append_right (by omega), show pre.length + 1 + mid.length - pre.length = mid.length + 1 by omega, List.getElem?_cons_succ, h1, List.getElem?_append_right (Nat.le_refl _), Nat.sub_self]
      rfl
    have hx := pairs_at hx
    have hne : neS (.lst (D.int (kN pre.length mid.length : Nat) :: tl.map fun (m : Nat) => .int (kN pre.length m : Nat))) (.lst []) = ret (.bl true) := by
      have hv : Lv 8 (.lst ((mid.length :: tl).map fun (m : Nat) => .int (kN pre.length m : Nat))) := lv_lmap fun _ _ => lv_int _
      rw [List.map_cons] at hv
      rw [neS_ev hv (by simp), q_lst, q_cn]; rfl
    have L1 : (pre ++ (i, s) :: w) = pre ++ ((i, s) :: (mid ++ (i, s') :: rest)) := by rw [h1]
    have lp : (pairsD (pre ++ (i, s) :: w)).length = pre.length + 1 + mid.length + 1 + rest.length := by
      rw [L1]; unfold pairsD; simp; omega
    have c1 : cutD (pairsD (pre ++ (i, s) :: w)) none (some (pre.length : Int)) = pairsD pre := by
      rw [cut_take]; unfold pairsD; rw [← List.map_take, List.take_left' rfl]
    have c2 : cutD (pairsD (pre ++ (i, s) :: w)) (some ((pre.length : Int) + 1)) (some ((kN pre.length mid.length : Nat) : Int)) = pairsD mid := by
      rw [show ((pre.length : Int) + 1) = ((pre.length + 1 : Nat) : Int) by omega, cut_both _ _ _ (by rw [lp]; unfold kN; omega)]
      unfold pairsD kN
      rw [← List.map_take, ← List.map_drop, L1, List.append_cons, ← List.append_assoc, List.take_left' (by simp; omega), List.drop_left' (by simp)]
    have c3 : cutD (pairsD (pre ++ (i, s) :: w)) (some (((kN pre.length mid.length : Nat) : Int) + 1)) none = pairsD rest := by
      rw [show (((kN pre.length mid.length : Nat) : Int) + 1) = ((kN pre.length mid.length + 1 : Nat) : Int) by omega, cut_drop]
      unfold pairsD kN
      rw [← List.map_drop, L1, List.append_cons, ← List.append_assoc, List.append_cons, List.drop_left' (by simp; omega)]
    have gi : GoodL H i := hg (i, s) (by simp)
    have eC : ∀ (z6 z8 : Sl), z6 = .d (.lst (D.int (kN pre.length mid.length : Nat) :: tl.map fun (m : Nat) => .int (kN pre.length m : Nat))) → loC (loS b wd x2 (pre ++ (i, s) :: w) x4 (.d (.int (pre.length : Nat))) z6 (.d (.int i)) z8) = ret ((mid.filter fun l => clI H T i l.1).map fun _ => .int 1) := by
      rintro z6 z8 rfl
      unfold loC
      rw [lcE_map (xs := mid) (enc := pairD) (fun l => clI H T i l.1) (fun _ => .int 1)]
      · simp [c2]; rfl
      · simp at hl; rw [h1] at hl; simp at hl; omega
      · intro l hlm
        have := ev_clI hb gi (hg l (by rw [h1]; simp [hlm]))
        obtain ⟨j, r⟩ := l
        cases hc : clI H T i j <;> (simp only [hc] at this; simp [lcStep, pairD, this, hc])
    have eC := eC _ (.d (.int s)) rfl
    simp [hne, hx, pairD]
    simp only [loS] at eC
    rw [eC]
    by_cases hs' : s' = -s
    · rw [if_pos hs']
      simp only [e_ret, ones_nilE]
      have hall : (mid.all fun l => !clI H T i l.1) = !mid.any fun l => clI H T i l.1 := by rw [List.not_any_eq_all_not]
      have hall2 : (s' = -s ∧ (mid.all fun l => !clI H T i l.1) = true) ↔ (mid.any fun l => clI H T i l.1) = false := by
        rw [hall]; simp [hs']
      cases ha : mid.any fun l => clI H T i l.1 with
      | true =>
        rw [if_neg (fun h => by have := hall2.mp h; rw [ha] at this; cases this)]
        simp
      | false =>
        rw [if_pos (hall2.mpr ha)]
        have hpl : (pairsD pre).length = pre.length := by simp [pairsD]
        have hml : (pairsD mid).length = mid.length := by simp [pairsD]
        have hrl : (pairsD rest).length = rest.length := by simp [pairsD]
        have hlen : pre.length + 1 + mid.length + 1 + rest.length ≤ 1000 := by rw [← lp]; simpa [pairsD] using hl
        have hap : pairsD pre ++ (pairsD mid ++ pairsD rest) = pairsD (pre ++ (mid ++ rest)) := by simp [pairsD]
        simp [c1, c2, c3, e_catS]
        rw [chk_of (by omega)]
        simp
        rw [chk_of (by omega)]
        simp [hap]
    · rw [if_neg hs']
      simp [hs']

end EC
end
/-! ## M16 -/
section
set_option Elab.async false
set_option linter.all false
set_option maxRecDepth 100000
set_option maxHeartbeats 2000000
/-! M16: what is left over, whole; are they alike. -/
namespace EC
open PySem PySem.Spec PyProof.Rows L2
theorem forL_cons (t : D → Rho → M Rho) (s : Rho → M Res) (d : D) (ds : List D) (ρ : Rho) : forL t s (d :: ds) ρ = bnd (bnd (t d ρ) s) fun
    | .nx ρ' => forL t s ds ρ'
    | .ct ρ' => forL t s ds ρ'
    | .bk ρ' => ret (.nx ρ')
    | .rt d => ret (.rt d) := rfl
theorem lo_inner {H T b} (hb : Bk H T b) {wd : D} {x2 x4 : Sl} : ∀ (suf pre : List Lt) (x5 x6 x7 x8 : Sl), (pre ++ suf).length ≤ 1000 → (∀ l ∈ pre ++ suf, GoodL H l.1) →
    ∃ y5 y6 y7 y8, forL loT loB ((suf.zipIdx pre.length).map fun p => .tup [.int (p.2 : Nat), pairD p.1]) (loS b wd x2 (pre ++ suf) x4 x5 x6 x7 x8) = ret (.nx (loS b wd x2 (pre ++ (loTry (clI H T) suf).getD suf) x4 y5 y6 y7 y8))
  | [], pre, x5, x6, x7, x8, _, _ => ⟨x5, x6, x7, x8, rfl⟩
  | (i, s) :: w, pre, x5, x6, x7, x8, hl, hg => by
    obtain ⟨y5, y6, y7, y8, h⟩ := lo_body hb (x2 := x2) (x4 := x4) (x5 := x5) (x6 := x6) (x7 := x7) (x8 := x8) (wd := wd) hl hg
    have ec : pre ++ (i, s) :: w = (pre ++ [(i, s)]) ++ w := by simp
    obtain ⟨z5, z6, z7, z8, h2⟩ := lo_inner hb (wd := wd) (x2 := x2) (x4 := x4) w (pre ++ [(i, s)]) y5 y6 y7 y8 (by rw [← ec]; exact hl) (by rw [← ec]; exact hg)
    rw [← ec, List.length_append, List.length_singleton] at h2
    rw [List.zipIdx_cons, List.map_cons, forL_cons, h, e_ret]
    have eg : ∀ o : Option (List Lt), pre ++ (o.map fun v => (i, s) :: v).getD ((i, s) :: w) = (pre ++ [(i, s)]) ++ o.getD w := by
      intro o; cases o <;> simp
    unfold loTry
    cases hs : loSplit i w with
    | none =>
      simp only
      refine ⟨z5, z6, z7, z8, ?_⟩
      rw [eg]
      exact h2
    | some q =>
      obtain ⟨mid, s', rest⟩ := q
      simp only
      by_cases hc : s' = -s ∧ (mid.all fun l => !clI H T i l.1) = true
      · rw [if_pos hc, if_pos hc]
        exact ⟨y5, y6, y7, y8, rfl⟩
      · rw [if_neg hc, if_neg hc]
        refine ⟨z5, z6, z7, z8, ?_⟩
        rw [eg]
        exact h2
theorem loRun_stop {cl : Int → Int → Bool} {w : List Lt} (h : loTry cl w = none) : ∀ n, loRun cl n w = w
  | 0 => rfl
  | n + 1 => by unfold loRun; rw [h]
theorem lo_outer {H T b} (hb : Bk H T b) {wd : D} : ∀ (ds : List D) (left : List Lt) (bf : Int) (x2 x5 x6 x7 x8 : Sl), (bf = left.length → loTry (clI H T) left = none) → left.length ≤ 1000 → (∀ l ∈ left, GoodL H l.1) →
    ∃ y2 y4 y5 y6 y7 y8, forL (nameT 2) loO ds (loS b wd x2 left (.d (.int bf)) x5 x6 x7 x8) = ret (.nx (loS b wd y2 (loRun (clI H T) ds.length left) y4 y5 y6 y7 y8))
  | [], left, bf, x2, x5, x6, x7, x8, _, _, _ => ⟨x2, .d (.int bf), x5, x6, x7, x8, rfl⟩
  | d :: ds, left, bf, x2, x5, x6, x7, x8, hi, hl, hg => by
    have hpl : (pairsD left).length = left.length := by simp [pairsD]
    rw [forL_cons]
    unfold loO
    by_cases hbf : (left.length : Int) = bf
    · simp [hpl, hbf]
      refine ⟨.d d, .d (.int bf), x5, x6, x7, x8, ?_⟩
      rw [loRun_stop (hi hbf.symm)]
    · obtain ⟨y5, y6, y7, y8, h⟩ := lo_inner hb (wd := wd) (x2 := .d d) (x4 := .d (.int (left.length : Nat))) left [] x5 x6 x7 x8 (by simpa using hl) (by simpa using hg)
      simp only [List.nil_append, List.length_nil] at h
      have he : enumD (pairsD left) = left.zipIdx.map fun p => .tup [.int (p.2 : Nat), pairD p.1] := enumD_map pairD left
      simp [hpl, hbf, he]
      simp only [loS] at h
      rw [h]
      simp only [e_ret]
      have hlen : loRun (clI H T) (ds.length + 1) left = loRun (clI H T) ds.length ((loTry (clI H T) left).getD left) := by
        cases ht : loTry (clI H T) left with
        | none => rw [loRun_stop ht]; exact (loRun_stop ht _).symm
        | some v => show (match loTry (clI H T) left with | some v => _ | none => _) = _; rw [ht]; rfl
      rw [hlen]
      exact lo_outer hb ds _ _ _ _ _ _ _ (by
        intro hq
        cases ht : loTry (clI H T) left with
        | none => simpa using ht
        | some v =>
          rw [ht] at hq
          have := loTry_len ht
          simp only [Option.getD_some] at hq
          omega) (by
        cases ht : loTry (clI H T) left with
        | none => exact hl
        | some v => have := loTry_len ht; simp only [Option.getD_some]; omega) (by
        cases ht : loTry (clI H T) left with
        | none => exact hg
        | some v => exact fun l hlv => hg l (loTry_mem ht l hlv))
theorem ev_left_over {H T b} (hb : Bk H T b) {w : List Lt} (hl : w.length ≤ 1000) (hg : ∀ l ∈ w, GoodL H l.1) :
    F_law_left_over [.d b, .d (.wd (pairsD w))] = ret (.lst (pairsD (loRun (clI H T) w.length w))) := by
  have hpl : (pairsD w).length = w.length := by simp [pairsD]
  rw [left_over_eq, e_fnS]
  simp [hpl, e_rng1K w.length (by omega)]
  obtain ⟨y2, y4, y5, y6, y7, y8, h⟩ := lo_outer hb (wd := .wd (pairsD w)) ((List.range w.length).map fun (i : Nat) => D.int i) w (-1) .no .no .no .no .no (fun h => by omega) hl hg
  simp only [loS] at h
  rw [h]
  simp
/-! sorted -/
def lexB (p q : Int × Int) : Bool := decide (p.1 < q.1 ∨ (p.1 = q.1 ∧ p.2 ≤ q.2))
theorem lexB_iff {p q : Int × Int} : lexB p q = true ↔ lexLe p q := by unfold lexB lexLe; rw [decide_eq_true_eq]
def isort (xs : List (Int × Int)) : List (Int × Int) := xs.mergeSort lexB
theorem isort_pw (xs : List (Int × Int)) : (isort xs).Pairwise lexLe := by
  have := List.pairwise_mergeSort (le := lexB) (fun a b c h1 h2 => by
    rw [lexB_iff] at *
    unfold lexLe at *
    omega) (fun a b => by
    rw [Bool.or_eq_true, lexB_iff, lexB_iff]
    unfold lexLe
    omega) xs
  exact this.imp fun h => lexB_iff.mp h
theorem lex_uniq {xs ys : List (Int × Int)} (h : xs.Perm ys) (hx : xs.Pairwise lexLe) (hy : ys.Pairwise lexLe) : xs = ys :=
  h.eq_of_pairwise (fun a b _ _ h1 h2 => by
    unfold lexLe at h1 h2
    apply Prod.ext <;> omega) hx hy
theorem srtP_ret (ps : List (Int × Int)) : srtP ps = ret (pairsD (isort ps)) := by
  funext P
  apply propext
  constructor
  · intro h
    exact h (isort ps) (List.mergeSort_perm ps lexB) (isort_pw ps)
  · intro h qs h1 h2
    have : qs = isort ps := lex_uniq (h1.trans (List.mergeSort_perm ps lexB).symm) h2 (isort_pw ps)
    rw [this]; exact h
end EC
end
/-! ## M17 -/
section
set_option Elab.async false
set_option linter.all false
set_option maxRecDepth 100000
set_option maxHeartbeats 2000000
/-! M17: are they alike; in series. -/
namespace EC
open PySem PySem.Spec PyProof.Rows L2
theorem forL_test {α σ : Type} {t : D → Rho → M Rho} {body : Rho → M Res} (enc : α → D) (st : σ → Rho) (ok : α → Bool) (d : D) : ∀ (xs : List α) (s : σ),
    (∀ x ∈ xs, ∀ s, ∃ s', bnd (t (enc x) (st s)) body = ret (if ok x = true then .nx (st s') else .rt d)) → ∃ s', forL t body (xs.map enc) (st s) = ret (if xs.all ok = true then .nx (st s') else .rt d)
  | [], s, _ => ⟨s, rfl⟩
  | x :: xs, s, h => by
    obtain ⟨s1, h1⟩ := h x (by simp) s
    obtain ⟨s2, h2⟩ := forL_test enc st ok d xs s1 fun y hy => h y (List.mem_cons_of_mem _ hy)
    refine ⟨s2, ?_⟩
    rw [List.map_cons, forL_cons, h1, e_ret, List.all_cons]
    cases ok x with
    | true => simpa using h2
    | false => simp
theorem alike_zip (cl : Int → Int → Bool) (other : List Lt) : ∀ (w pre : List Lt), ((w.zipIdx pre.length).all fun p => alikeT cl other p.1 ((pre ++ w).drop (p.2 + 1))) = alikeB cl other w
  | [], pre => rfl
  | h :: w, pre => by
    have ih := alike_zip cl other w (pre ++ [h])
    rw [← List.append_cons, List.length_append, List.length_singleton] at ih
    rw [List.zipIdx_cons, List.all_cons, ih]
    have : (pre ++ h :: w).drop (pre.length + 1) = w := by
      rw [List.append_cons, List.drop_left' (by simp)]
    rw [this]
    rfl
theorem idx_pair {other : List Lt} {l : Lt} (h : l ∈ other) : idxR (pairsD other) (pairD l) = ret (.int (idxL other l : Nat)) := by
  have h1 := idxD_map (enc := pairD) q_pair l other
  obtain ⟨h2, _⟩ := idxL_some h
  rw [h2] at h1
  have h1 : idxD (pairsD other) (pairD l) = some (idxL other l) := h1
  unfold idxR
  rw [h1]
  exact chk_of ⟨(lv_pairs (n := 5) other).shp, (lv_pair (n := 6) l).shp⟩ _
theorem pairs_sort (xs : List Lt) : sortPD (.lst (pairsD xs)) = ret (pairsD (isort xs)) := by
  show (match D.pairs (pairsD xs) with | some ps => srtP ps | none => die) = _
  unfold pairsD
  rw [pairs_map]
  exact srtP_ret xs
theorem pairs_sortT (xs : List Lt) : sortPD (.tup (pairsD xs)) = ret (pairsD (isort xs)) := by
  show (match D.pairs (pairsD xs) with | some ps => srtP ps | none => die) = _
  unfold pairsD
  rw [pairs_map]
  exact srtP_ret xs
theorem ev_are_alike {H T b} (hb : Bk H T b) {one other : List Lt} (hl : one.length ≤ 1000) (hg : ∀ l ∈ one, GoodL H l.1) :
    ∃ v : Bool, F_law_are_alike [.d b, .d (.lst (pairsD one)), .d (.tup (pairsD other))] = ret (.bl v) ∧ (one.Perm other → alikeB (clI H T) other one = true → v = true) := by
  have hq : neS (.lst (pairsD (isort one))) (.lst (pairsD (isort other))) = ret (.bl (!decide (isort one = isort other))) := by
    rw [neS_ev (lv_pairs _) (lv_pairs _), q_lst]
    unfold pairsD
    rw [eqvDs_map (enc := pairD) q_pair]
  by_cases hs : isort one = isort other
  · have hp : one.Perm other := (List.mergeSort_perm one lexB).symm.trans ((show (isort one).Perm (isort other) by rw [hs]).trans (List.mergeSort_perm other lexB))
    refine ⟨alikeB (clI H T) other one, ?_, fun _ h => h⟩
    unfold F_law_are_alike
    rw [e_fnS]
    rw [hs] at hq
    simp only [decide_true, Bool.not_true] at hq
    simp [pairs_sort, pairs_sortT, hq, hs]
    have he : enumD (pairsD one) = one.zipIdx.map fun p => .tup [.int (p.2 : Nat), pairD p.1] := enumD_map pairD one
    rw [he]
    obtain ⟨s', h⟩ := forL_test (fun p : Lt × Nat => D.tup [.int (p.2 : Nat), pairD p.1]) (fun s : Sl × Sl × Sl => [.d b, .d (.lst (pairsD one)), .d (.tup (pairsD other)), s.1, s.2.1, s.2.2]) (t := tupT 2 (consT (nameT 3) (consT (nameT 4) nilT)))
      (body := forS (itL (asL (sliL (var 1) (part (op2 addS (var 3) (con (.int 1)))) noPart))) (nameT 5)
        (ifS (andT (tst (op2 neS (op2 ixS (var 4) (con (.int 0))) (op2 ixS (var 5) (con (.int 0))))) (tst (call 3 F_law_do_clash (consA (var 0) (consA (op2 ixS (var 4) (con (.int 0))) (consA (op2 ixS (var 5) (con (.int 0))) nilL)))))) (ifS (tst (op2 gtS (indexL (asL (app (consL (var 2) nilL) listS)) (var 4)) (indexL (asL (app (consL (var 2) nilL) listS)) (var 5)))) (retS (con (.bl false))) skip) skip))
      (fun p => alikeT (clI H T) other p.1 (one.drop (p.2 + 1))) (.bl false) one.zipIdx (.no, .no, .no) (by
        rintro ⟨l, n⟩ hx ⟨x3, x4, x5⟩
        have hn := List.mem_zipIdx_iff_getElem?.mp hx
        simp only at hn
        have hlo : l ∈ one := List.mem_of_getElem? hn
        have hc : cutD (pairsD one) (some ((n : Int) + 1)) none = (one.drop (n + 1)).map pairD := by
          rw [show ((n : Int) + 1) = ((n + 1 : Nat) : Int) by omega, cut_drop]
          unfold pairsD
          rw [List.map_drop]
        obtain ⟨s2, h2⟩ := forL_test pairD (fun s : Sl => [.d b, .d (.lst (pairsD one)), .d (.tup (pairsD other)), .d (.int (n : Nat)), .d (pairD l), s]) (t := nameT 5)
          (body := (ifS (andT (tst (op2 neS (op2 ixS (var 4) (con (.int 0))) (op2 ixS (var 5) (con (.int 0))))) (tst (call 3 F_law_do_clash (consA (var 0) (consA (op2 ixS (var 4) (con (.int 0))) (consA (op2 ixS (var 5) (con (.int 0))) nilL)))))) (ifS (tst (op2 gtS (indexL (asL (app (consL (var 2) nilL) listS)) (var 4)) (indexL (asL (app (consL (var 2) nilL) listS)) (var 5)))) (retS (con (.bl false))) skip) skip))
          (fun g => !((!decide (l.1 = g.1)) && clI H T l.1 g.1 && decide (idxL other g < idxL other l))) (.bl false) (one.drop (n + 1)) x5 (by
            intro g hgm s
            have hgo : g ∈ one := List.mem_of_mem_drop hgm
            refine ⟨.d (pairD g), ?_⟩
            have hcl := ev_clI hb (hg l hlo) (hg g hgo)
            have i1 : ∀ s5 : Sl, indexL (asL (app (consL (var 2) nilL) listS)) (var 4) [.d b, .d (.lst (pairsD one)), .d (.tup (pairsD other)), .d (.int (n : Nat)), .d (pairD l), s5] = ret (.int (idxL other l : Nat)) := by
              intro s5
              unfold indexL
              simp [idx_pair (hp.mem_iff.mp hlo)]
            have i2 : indexL (asL (app (consL (var 2) nilL) listS)) (var 5) [.d b, .d (.lst (pairsD one)), .d (.tup (pairsD other)), .d (.int (n : Nat)), .d (pairD l), .d (pairD g)] = ret (.int (idxL other g : Nat)) := by
              unfold indexL
              simp [idx_pair (hp.mem_iff.mp hgo)]
            have x0 : ∀ q : Lt, ixS (pairD q) (.int 0) = ret (.int q.1) := fun q => ix_t0 _ _
            by_cases c1 : l.1 = g.1
            · simp [x0, c1]
            · cases c2 : clI H T l.1 g.1 with
              | false => rw [c2] at hcl; simp [x0, c1, hcl]
              | true =>
                rw [c2] at hcl
                have e3 : decide ((idxL other g : Int) < (idxL other l : Nat)) = decide (idxL other g < idxL other l) := decide_eq_decide.mpr ⟨fun h => by omega, fun h => by omega⟩
                by_cases c3 : idxL other g < idxL other l
                · have c3' : (idxL other g : Int) < (idxL other l : Nat) := by omega
                  simp [x0, c1, hcl, i1, i2, c3, c3']
                · have c3' : ¬(idxL other g : Int) < (idxL other l : Nat) := by omega
                  simp [x0, c1, hcl, i1, i2, c3, c3'])
        refine ⟨(.d (.int (n : Nat)), .d (pairD l), s2), ?_⟩
        simp only [e_tupT, e_consT, e_nilT, e_nameT, e_ret, List.length_cons, List.length_nil, e_bnd, List.set_cons_succ, List.set_cons_zero]
        rw [chk_of (by decide)]
        simp only [e_ret, e_bnd, List.set_cons_succ, List.set_cons_zero, e_forS, e_itL, e_asL, e_sliL, v_s, v_0, e_part, e_op2, e_con, e_iop0, e_partK, e_sliLK, e_itLK, e_noPart, hc]
        exact h2)
    rw [h, e_ret]
    have := alike_zip (clI H T) other one []
    simp only [List.nil_append, List.length_nil] at this
    rw [this]
    cases alikeB (clI H T) other one <;> simp
  · refine ⟨false, ?_, fun hp _ => ?_⟩
    · unfold F_law_are_alike
      rw [e_fnS]
      simp [pairs_sort, pairs_sortT, hq, hs]
    · exact absurd (lex_uniq ((List.mergeSort_perm one lexB).trans (hp.trans (List.mergeSort_perm other lexB).symm)) (isort_pw one) (isort_pw other)) hs
/-! in series -/
@[simp] theorem cut_t2 (ds : List D) : cutD ds none (some 2) = ds.take 2 := cut_take ds 2
theorem ser_one (H : List Ev) (p : Nat) (t : Int) : ((H.take p).zipIdx.filter fun q => q.1.isDo && decide (q.1.name = t)).map (fun q => pairD ((q.2 : Int), 1)) = pairsD (((stepsI (H.take p)).filter fun i => decide (nm H i = t)).map (ltr 1)) := by
  unfold stepsI pairsD
  rw [List.filter_map, List.map_map, List.map_map, List.filter_filter]
  have : ((H.take p).zipIdx.filter fun q => q.1.isDo && decide (q.1.name = t)) = (H.take p).zipIdx.filter fun q => ((fun i => decide (nm H i = t)) ∘ fun x : Ev × Nat => x.2) q && q.1.isDo := by
    apply List.filter_congr
    rintro ⟨e, i⟩ hx
    have hi := List.mem_zipIdx_iff_getElem?.mp hx
    simp only at hi
    rw [List.getElem?_take] at hi
    split at hi
    · have := nm_of hi
      simp only [Function.comp_def, this]
      exact Bool.and_comm _ _
    · cases hi
  rw [this]
  rfl
theorem ev_in_series {H : List Ev} (hl : H.length ≤ 100) (p : Nat) {order : List Int} (ho : order.length ≤ 1000) :
    F_law_in_series [.d (hD (H.take p)), .d (.lst (order.map .int))] = ret (.tup (pairsD (ser (nm H) (stepsI (H.take p)) order))) := by
  have hl2 : (H.take p).length ≤ 100 := by simp; omega
  have hsl := stepsI_len (H.take p)
  unfold F_law_in_series
  rw [e_fnS]
  simp
  obtain ⟨a', b', hf⟩ := fold_app (fun t => pairsD (((stepsI (H.take p)).filter fun i => decide (nm H i = t)).map (ltr 1))) order [] .no .no (fun t => Sl.d (.int t)) (fun t => .no)
  rw [forL_fold D.int (fun s : List D × Sl × Sl => [.d (hD (H.take p)), .d (.lst (order.map .int)), .o s.1, s.2.1, .no, .no])
    (fun s t => (s.1 ++ pairsD (((stepsI (H.take p)).filter fun i => decide (nm H i = t)).map (ltr 1)), Sl.d (.int t), .no)) (fun n s => s.1.length ≤ n * 100) order 0 ([], .no, .no) (by simp), hf]
  · simp
    congr 2
    unfold ser pairsD
    rw [List.map_flatMap]
  · intro t _ m s hm hi
    obtain ⟨acc, x3, x4⟩ := s
    have hi : acc.length ≤ m * 100 := hi
    have hm : m < 1000 := by omega
    have hlen : (pairsD (((stepsI (H.take p)).filter fun i => decide (nm H i = t)).map (ltr 1))).length ≤ 100 := by
      unfold pairsD
      rw [List.length_map, List.length_map]
      refine Nat.le_trans (List.length_filter_le _ _) (by omega)
    simp
    rw [e_extS (xs := acc) (by rfl)]
    have e : enumTK (hD (H.take p)) = ret ((H.take p).zipIdx.map fun p => .tup [.int (p.2 : Nat), p.1.enc]) := by
      simp only [hD, e_enumTK, enumD_map]
    simp
    rw [lcE_map (xs := (H.take p).zipIdx) (enc := fun p => .tup [.int (p.2 : Nat), p.1.enc]) (fun q => q.1.isDo && decide (q.1.name = t)) (fun q => pairD ((q.2 : Int), 1)) (by simp [e]) (by simp; omega)]
    · rw [ser_one]
      simp
      exact ⟨chk_of (by omega) _, by omega⟩
    · rintro ⟨e, i⟩ _
      cases e with
      | dos u k => by_cases hu : u = t <;> simp [lcStep, Ev.enc, Ev.isDo, Ev.name, pairD, hu]
      | keep u => simp [lcStep, Ev.enc, Ev.isDo]
      | drop u => simp [lcStep, Ev.enc, Ev.isDo]
end EC
end
/-! ## M18 -/
section
set_option Elab.async false
set_option linter.all false
set_option maxRecDepth 100000
set_option maxHeartbeats 2000000
/-! M18: the right order. -/
namespace EC
open PySem PySem.Spec PyProof.Rows L2
theorem word_good {H : List Ev} {p : Nat} : ∀ l ∈ wordI H p, GoodL H l.1 := by
  intro l hl
  rw [wordI_eq] at hl
  obtain ⟨i, hi, h⟩ := Wq_sign hl
  obtain ⟨t, k, e⟩ := mem_steps_take hi
  refine ⟨i, ?_, t, k, e⟩
  rcases h with ⟨h, _⟩ | ⟨h, _⟩ <;> (rw [h]; rfl)
theorem clI_cl {H T} {i j : Nat} : clI H T i j = (!decide (i = j) && cl H T i j) := by
  unfold clI
  have e : decide ((i : Int) = j) = decide (i = j) := decide_eq_decide.mpr ⟨fun h => by omega, fun h => by omega⟩
  rw [e]; rfl
theorem left_kept {H T p} (hc : Cau H T p = []) : loRun (clI H T) (wordI H p).length (wordI H p) = ((stepsI (H.take p)).filter fun i => !op H p i).map (ltr 1) := by
  rw [wordI_eq]
  apply loRun_Wq (stepsI_lt _) (op := op H p)
  · intro i hi j hj hij h1 h2
    rw [clI_cl]
    cases hcl : cl H T i j with
    | false => simp
    | true =>
      have : (i, j) ∈ Cau H T p := List.mem_filter.mpr ⟨mem_CP.mpr ⟨hi, hj, hij, hcl⟩, by simp [Caught, h1, h2]⟩
      rw [hc] at this; cases this
  · exact fun i h => h
  · unfold Wq
    rw [List.length_append, List.length_map, List.length_map, List.length_reverse]
    omega
theorem foldl_lawOrd (E : Int → Int → Bool) (ks : List Int) : ∀ n : Nat, (List.range n).foldl (fun s _ => lstep E ks s) [] = lawOrd E ks n
  | 0 => rfl
  | n + 1 => by rw [List.range_succ, List.foldl_append, foldl_lawOrd E ks n]; rfl
theorem alike_law {H T p} {order : List Int} (hn : order.Nodup) (hp : order.Perm (keptI (H.take p))) (ho : order.Pairwise fun a b => Eg H T p b a = false) :
    (((stepsI (H.take p)).filter fun i => !op H p i).map (ltr 1)).Perm (ser (nm H) (stepsI (H.take p)) order) ∧ alikeB (clI H T) (ser (nm H) (stepsI (H.take p)) order) (((stepsI (H.take p)).filter fun i => !op H p i).map (ltr 1)) = true := by
  have h1 : (((stepsI (H.take p)).filter fun i => !op H p i).map (ltr 1)).Perm (ser (nm H) (stepsI (H.take p)) order) := by
    refine List.Perm.symm ?_
    have e : ((stepsI (H.take p)).filter fun i => !op H p i) = (stepsI (H.take p)).filter fun i => decide (nm H i ∈ order) := by
      congr; funext i
      unfold op
      rw [Bool.not_not]
      exact decide_eq_decide.mpr hp.mem_iff.symm
    rw [e]
    exact ser_perm hn
  refine ⟨h1, ?_⟩
  apply alikeB_of
  · apply ser_pw (E := Eg H T p) (stepsI_lt _) hn ho
    intro i hi j hj hij hcl hne hio hjo
    rw [clI_cl, Bool.and_eq_true] at hcl
    rw [Eg_iff]
    exact ⟨hne, hp.mem_iff.mp hio, hp.mem_iff.mp hjo, (i, j), mem_CP.mpr ⟨hi, hj, hij, hcl.2⟩, rfl, rfl⟩
  · intro l hl; exact h1.mem_iff.mp hl
  · rw [List.pairwise_map]
    refine ((stepsI_lt _).filter _).imp ?_
    intro a b hab
    unfold ltr; simp; omega
theorem inB_pair2 (a b : Int) (L : List (Int × Int)) : inB (.tup [.int a, .int b]) (pairsD L) = decide ((a, b) ∈ L) := inB_pair (a, b) L
theorem ev_right_order {K T b} {H : List Ev} (hT : T.length ≤ 1000) (hH : GoodH K H) (hb : Bk H T b) (p : Nat) :
    ∃ r, F_law_right_order [.d b, .d (hD H), .d (.int (p : Nat))] = ret r ∧ (r = .non ∨ ∃ o : List Int, r = .lst (o.map .int)) ∧ (HasRing (Eg H T p) (keptI (H.take p)) → r = .non) ∧ (¬HasRing (Eg H T p) (keptI (H.take p)) → Cau H T p = [] → r ≠ .non) := by
  have hl := hH.len
  have hkn := (hH.take p).kept_nodup
  have hkl := keptI_len (H.take p)
  have hs3 : (H.take p).length ≤ H.length := by simp; omega
  have hwl := wordI_len H p
  generalize hks : keptI (H.take p) = ks at *
  have hlen : ks.length ≤ 100 := by omega
  have e1 := ev_law_cut_word hH p
  rw [hks] at e1
  have e2 := ev_left_over hb (w := wordI H p) (by omega) word_good
  have e3 := ev_law_edges hb hl p
  have inv := lawOrd_inv (Eg H T p) ks
  have e4 : ∀ (x3 x9 x10 : Sl) (w l ed : D), ∃ y3 y9 y10, forL (nameT 3)
      (seqS (setS 9 (asL (lcE [11] (itL (var 5)) (nameT 11) (tst (op2 ninS (var 11) (varW 7))) (var 11))))
      (seqS (setS 10 (asL (lcE [11] (itL (var 9)) (nameT 11) (tst (op2 eqS (asL (lcE [12] (itL (var 9)) (nameT 12) (andT (tst (op2 neS (var 12) (var 11))) (tst (op2 inS (tupE (consL (var 12) (consL (var 11) nilL))) (var 8)))) (var 12))) (asL (lstE nilL)))) (var 11))))
      (extS 7 (asL (sliL (var 10) noPart (part (con (.int 1)))))))) ((List.range ks.length).map fun (i : Nat) => D.int i)
      [.d b, .d (hD H), .d (.int (p : Nat)), x3, .d w, .d (intsD ks), .d l, .o [], .d (.lst (pairsD (Led H T p))), x9, x10, .no, .no] =
      ret (.nx [.d b, .d (hD H), .d (.int (p : Nat)), y3, .d w, .d (intsD ks), .d l, .o ((lawOrd (Eg H T p) ks ks.length).map .int), .d (.lst (pairsD (Led H T p))), y9, y10, .no, .no]) := by
    intro x3 x9 x10 w l ed
    refine ⟨((List.range ks.length).foldl (fun (s : List Int × Sl × Sl × Sl) (i : Nat) => (lstep (Eg H T p) ks s.1, Sl.d (.int i), Sl.d (.lst ((lrest ks s.1).map .int)), Sl.d (.lst ((kfree (Eg H T p) (lrest ks s.1)).map .int)))) ([], x3, x9, x10)).2.1, ((List.range ks.length).foldl (fun (s : List Int × Sl × Sl × Sl) (i : Nat) => (lstep (Eg H T p) ks s.1, Sl.d (.int i), Sl.d (.lst ((lrest ks s.1).map .int)), Sl.d (.lst ((kfree (Eg H T p) (lrest ks s.1)).map .int)))) ([], x3, x9, x10)).2.2.1, ((List.range ks.length).foldl (fun (s : List Int × Sl × Sl × Sl) (i : Nat) => (lstep (Eg H T p) ks s.1, Sl.d (.int i), Sl.d (.lst ((lrest ks s.1).map .int)), Sl.d (.lst ((kfree (Eg H T p) (lrest ks s.1)).map .int)))) ([], x3, x9, x10)).2.2.2, ?_⟩
    have hfst : ∀ (xs : List Nat) (s : List Int × Sl × Sl × Sl), (xs.foldl (fun (s : List Int × Sl × Sl × Sl) (i : Nat) => (lstep (Eg H T p) ks s.1, Sl.d (.int i), Sl.d (.lst ((lrest ks s.1).map .int)), Sl.d (.lst ((kfree (Eg H T p) (lrest ks s.1)).map .int)))) s).1 = xs.foldl (fun s _ => lstep (Eg H T p) ks s) s.1 := by
      intro xs
      induction xs with
      | nil => intro s; rfl
      | cons x xs ih => intro s; rw [List.foldl_cons, ih]; rfl
    have h0 : lawOrd (Eg H T p) ks ks.length = ((List.range ks.length).foldl (fun (s : List Int × Sl × Sl × Sl) (i : Nat) => (lstep (Eg H T p) ks s.1, Sl.d (.int i), Sl.d (.lst ((lrest ks s.1).map .int)), Sl.d (.lst ((kfree (Eg H T p) (lrest ks s.1)).map .int)))) ([], x3, x9, x10)).1 := by
      rw [hfst, foldl_lawOrd]
    rw [h0]
    refine forL_fold (fun (i : Nat) => D.int i) (fun s : List Int × Sl × Sl × Sl => [.d b, .d (hD H), .d (.int (p : Nat)), s.2.1, .d w, .d (intsD ks), .d l, .o (s.1.map .int), .d (.lst (pairsD (Led H T p))), s.2.2.1, s.2.2.2, .no, .no])
      (fun (s : List Int × Sl × Sl × Sl) (i : Nat) => (lstep (Eg H T p) ks s.1, Sl.d (.int i), Sl.d (.lst ((lrest ks s.1).map .int)), Sl.d (.lst ((kfree (Eg H T p) (lrest ks s.1)).map .int)))) (fun n s => s.1 = lawOrd (Eg H T p) ks n) (List.range ks.length) 0 ([], x3, x9, x10) rfl ?_
    rintro i _ m ⟨order, y3, y9, y10⟩ hm hi
    have hi : order = lawOrd (Eg H T p) ks m := hi
    have hol : order.length ≤ ks.length := by rw [hi]; exact len_le (inv m).nd (inv m).sub
    refine ⟨?_, by rw [show lawOrd (Eg H T p) ks (m + 1) = lstep (Eg H T p) ks (lawOrd (Eg H T p) ks m) from rfl, ← hi]⟩
    have f1 : ∀ y3 y9 y10 : Sl, lcE [11] (itL (var 5)) (nameT 11) (tst (op2 ninS (var 11) (varW 7))) (var 11) [.d b, .d (hD H), .d (.int (p : Nat)), y3, .d w, .d (intsD ks), .d l, .o (order.map .int), .d (.lst (pairsD (Led H T p))), y9, y10, .no, .no] = ret ((lrest ks order).map .int) := by
      intro y3 y9 y10
      rw [lcE_map (xs := ks) (enc := .int) (fun t => !decide (t ∈ order)) .int (by simp [intsD]) (by omega)]
      · rfl
      · intro t _
        by_cases ht : t ∈ order <;> simp [lcStep, inB_i, ht]
    have hrl : (lrest ks order).length ≤ 100 := Nat.le_trans (List.length_filter_le _ _) hlen
    have f2 : ∀ y3 y10 : Sl, lcE [11] (itL (var 9)) (nameT 11) (tst (op2 eqS (asL (lcE [12] (itL (var 9)) (nameT 12) (andT (tst (op2 neS (var 12) (var 11))) (tst (op2 inS (tupE (consL (var 12) (consL (var 11) nilL))) (var 8)))) (var 12))) (asL (lstE nilL)))) (var 11) [.d b, .d (hD H), .d (.int (p : Nat)), y3, .d w, .d (intsD ks), .d l, .o (order.map .int), .d (.lst (pairsD (Led H T p))), .d (.lst ((lrest ks order).map .int)), y10, .no, .no] = ret ((kfree (Eg H T p) (lrest ks order)).map .int) := by
      intro y3 y10
      rw [lcE_map (xs := lrest ks order) (enc := .int) (fun t => !((lrest ks order).any fun u => Eg H T p u t)) .int (by simp) (by omega)]
      · rfl
      · intro t ht
        have f3 : lcE [12] (itL (var 9)) (nameT 12) (andT (tst (op2 neS (var 12) (var 11))) (tst (op2 inS (tupE (consL (var 12) (consL (var 11) nilL))) (var 8)))) (var 12) [.d b, .d (hD H), .d (.int (p : Nat)), y3, .d w, .d (intsD ks), .d l, .o (order.map .int), .d (.lst (pairsD (Led H T p))), .d (.lst ((lrest ks order).map .int)), y10, .d (.int t), .no] = ret (((lrest ks order).filter fun u => Eg H T p u t).map .int) := by
          rw [lcE_map (xs := lrest ks order) (enc := .int) (fun u => Eg H T p u t) .int (by simp) (by omega)]
          intro u hu
          have hv : inS (.tup [.int u, .int t]) (.lst (pairsD (Led H T p))) = ret (.bl (decide ((u, t) ∈ Led H T p))) := by
            rw [inS_lst (lv_t2 (lv_int _) (lv_int _)) (lv_pairs _), inB_pair2]
          by_cases hut : u = t
          · have : Eg H T p u t = false := by rw [hut]; exact Eg_irr t
            simp [lcStep, hut] at this ⊢
            simp [this]
          · have := Eg_Led (H := H) (T := T) (p := p) hut (by rw [hks]; exact (mem_lrest.mp hu).1) (by rw [hks]; exact (mem_lrest.mp ht).1)
            by_cases hm : (u, t) ∈ Led H T p <;> (simp only [hm, decide_true, decide_false] at this hv; simp [lcStep, hut, hv, this])
        have hz := eq_nil_ints ((lrest ks order).filter fun u => Eg H T p u t)
        have hany : ((lrest ks order).filter fun u => Eg H T p u t).isEmpty = !((lrest ks order).any fun u => Eg H T p u t) := by
          rw [Bool.eq_iff_iff, List.isEmpty_iff, List.filter_eq_nil_iff, Bool.not_eq_true', List.any_eq_false]
        rw [hany] at hz
        generalize (!((lrest ks order).any fun u => Eg H T p u t)) = v at hz ⊢
        simp only [lcStep, e_nameT, wipeR, e_wipe_c, e_wipe_n, List.set_cons_succ, List.set_cons_zero, e_ret, e_tst, e_op2, e_asL, f3, e_bnd, e_lstE, e_nilL, List.length_nil, e_yes]
        rw [chk_of (by decide)]
        simp only [e_ret, hz, e_asB]
        cases v <;> simp
    simp
    rw [f1]
    simp
    rw [f2]
    simp
    rw [e_extS (xs := order.map .int) (by rfl)]
    simp
    rw [chk_of (by first | omega | (simp; omega))]
    simp [lstep, List.map_take]
  obtain ⟨y3, y9, y10, e4⟩ := e4 .no .no .no (.wd (pairsD (wordI H p))) (.lst (pairsD (loRun (clI H T) (wordI H p).length (wordI H p)))) .non
  have hsub : ∀ l ∈ loRun (clI H T) (wordI H p).length (wordI H p), l ∈ wordI H p := loRun_mem _
  obtain ⟨v, e5, e6⟩ := ev_are_alike (T := T) hb (one := loRun (clI H T) (wordI H p).length (wordI H p)) (other := ser (nm H) (stepsI (H.take p)) (lawOrd (Eg H T p) ks ks.length)) (by
    have : ∀ (n : Nat) (w : List Lt), (loRun (clI H T) n w).length ≤ w.length := by
      intro n
      induction n with
      | zero => intro w; exact Nat.le_refl _
      | succ n ih =>
        intro w
        unfold loRun
        split
        · rename_i v hv
          have := ih v
          have := loTry_len hv
          omega
        · exact Nat.le_refl _
    have := this (wordI H p).length (wordI H p)
    omega) (fun l hlm => word_good l (hsub l hlm))
  have hol : (lawOrd (Eg H T p) ks ks.length).length ≤ ks.length := len_le (inv _).nd (inv _).sub
  have e7 := ev_in_series hl p (order := lawOrd (Eg H T p) ks ks.length) (by omega)
  refine ⟨if (lawOrd (Eg H T p) ks ks.length).length < ks.length then .non else if v = true then .lst ((lawOrd (Eg H T p) ks ks.length).map .int) else .non, ?_, ?_, ?_, ?_⟩
  · unfold F_law_right_order
    rw [e_fnS]
    simp [e1, e2, e3]
    have hil : lenD (intsD ks) = ret (.int (ks.length : Nat)) := by simp [intsD]
    simp [hil, e_rng1K ks.length (by omega)]
    rw [e4]
    simp
    rw [e_give (xs := (lawOrd (Eg H T p) ks ks.length).map .int) (by rfl)]
    simp [hil, hD_take, e7, e5]
    by_cases hsh : (lawOrd (Eg H T p) ks ks.length).length < ks.length
    · have hsh' : ((lawOrd (Eg H T p) ks ks.length).length : Int) < ks.length := by omega
      simp [hsh, hsh']
    · have hsh' : ¬((lawOrd (Eg H T p) ks ks.length).length : Int) < ks.length := by omega
      cases v <;> simp [hsh, hsh']
  · by_cases hsh : (lawOrd (Eg H T p) ks ks.length).length < ks.length
    · left; rw [if_pos hsh]
    · rw [if_neg hsh]
      cases v with
      | true => right; exact ⟨_, rfl⟩
      | false => left; rfl
  · intro hr
    rw [if_pos (lawOrd_short hr _)]
  · intro hr hc
    have hfull := lawOrd_full hkn hr ks.length (Nat.le_refl _)
    have hperm := lawOrd_perm hkn hr
    rw [← hks] at hperm
    rw [← hks] at inv
    have ha := alike_law (H := H) (T := T) (p := p) (inv _).nd hperm (inv _).pw
    rw [hks] at ha
    rw [left_kept hc] at e6
    have hv := e6 ha.1 ha.2
    rw [if_neg (by omega), if_pos hv]
    intro h; cases h
end EC
end
/-! ## M19 -/
section
set_option Elab.async false
set_option linter.all false
set_option maxRecDepth 100000
set_option maxHeartbeats 2000000
/-! M19: does it speak against; the law's own rings. -/
namespace EC
open PySem PySem.Spec PyProof.Rows L2
theorem word_pos {H : List Ev} {p i : Nat} (hi : i ∈ stepsI (H.take p)) : ((i : Int), (1 : Int)) ∈ wordI H p := by
  unfold wordI ltrs
  exact List.mem_append_left _ (List.mem_map.mpr ⟨i, hi, rfl⟩)
theorem word_neg {H : List Ev} {p i : Nat} (hi : i ∈ opensI H p) : ((i : Int), (-1 : Int)) ∈ wordI H p := by
  unfold wordI ltrs
  exact List.mem_append_right _ (List.mem_map.mpr ⟨i, hi, rfl⟩)
theorem lv_wpairs {n : Nat} (L : List (Int × Int)) : Lv (n + 3) (.tup (pairsD L)) := lv_tmap fun q _ => lv_pair q
theorem inwd (a c : Int) (L : List (Int × Int)) : inS (.tup [.int a, .int c]) (.wd (pairsD L)) = ret (.bl (decide ((a, c) ∈ L))) := by
  rw [inS_wd (lv_t2 (lv_int _) (lv_int _)) (lv_wpairs _), inB_pair2]
theorem ninwd (a c : Int) (L : List (Int × Int)) : ninS (.tup [.int a, .int c]) (.wd (pairsD L)) = ret (.bl (!decide ((a, c) ∈ L))) := by
  rw [ninS_wd (lv_t2 (lv_int _) (lv_int _)) (lv_wpairs _), inB_pair2]
theorem ninT (a c : Int) (L : List (Int × Int)) : ninS (.tup [.int a, .int c]) (.tup (pairsD L)) = ret (.bl (!decide ((a, c) ∈ L))) := by
  rw [ninS_tup (lv_t2 (lv_int _) (lv_int _)) (lv_wpairs _), inB_pair2]
theorem idx_of {w : List Lt} {l : Lt} {k : Nat} (h : (w.findIdx? fun z => decide (z = l)) = some k) : idxL w l = k := by unfold idxL; rw [h]; rfl
theorem ev_law_is_caught {H T b} (hb : Bk H T b) {p i j : Nat} (h : (i, j) ∈ Cau H T p) :
    F_law_is_caught [.d b, .d (.wd (pairsD (wordI H p))), .d (.tup [.str "caught", .int (i : Nat), .int (j : Nat)])] = ret (.bl true) := by
  obtain ⟨hq, hca⟩ := List.mem_filter.mp h
  obtain ⟨hi, hj, hij, hcl⟩ := mem_CP.mp hq
  unfold Caught at hca
  rw [Bool.and_eq_true, Bool.not_eq_true'] at hca
  obtain ⟨t, a, e1⟩ := mem_steps_take hi
  obtain ⟨u, c, e2⟩ := mem_steps_take hj
  have hio : i ∈ opensI H p := mem_opens.mpr ⟨hi, hca.1⟩
  have m1 := word_pos hi
  have m2 := word_pos hj
  have m3 := word_neg hio
  have m4 := not_neg (H := H) (p := p) hca.2
  have hd := ev_law_do_clash hb e1 e2
  have hne : decide (i = j) = false := decide_eq_false (by omega)
  rw [hcl, hne] at hd
  obtain ⟨a1, ha1, p1⟩ := pos_do hj
  obtain ⟨b1, hb1, p2⟩ := pos_open hio
  have i1 := idx_pair m2
  have i2 := idx_pair m3
  rw [idx_of p1] at i1
  rw [idx_of p2] at i2
  obtain ⟨k1, k2⟩ := (List.findIdx?_eq_some_iff_getElem.mp p2)
  have hwl : (pairsD (wordI H p)).length = (wordI H p).length := by simp [pairsD]
  generalize hhi : (stepsI (H.take p)).length + b1 = hi' at *
  have x1 : indexT (var 1) (tupE (consL (var 4) (consL (con (.int 1)) nilL))) [.d b, .d (.wd (pairsD (wordI H p))), .d (.tup [.str "caught", .int (i : Nat), .int (j : Nat)]), .d (.int (i : Nat)), .d (.int (j : Nat)), .no, .no] = ret (.int (a1 : Nat)) := by
    unfold indexT
    simp
    exact i1
  have x2 : indexT (var 1) (tupE (consL (var 3) (consL (negE (con (.int 1))) nilL))) [.d b, .d (.wd (pairsD (wordI H p))), .d (.tup [.str "caught", .int (i : Nat), .int (j : Nat)]), .d (.int (i : Nat)), .d (.int (j : Nat)), .no, .no] = ret (.int (hi' : Nat)) := by
    unfold indexT
    simp
    exact i2
  have x3 : sliTK (some (a1 : Int)) (some (hi' : Int)) (.wd (pairsD (wordI H p))) = ret (.tup (pairsD (((wordI H p).take hi').drop a1))) := by
    show chk _ _ = _
    rw [chk_of]
    · rw [cut_both _ _ _ (by rw [hwl]; omega)]
      unfold pairsD
      rw [List.map_drop, List.map_take]
    · rintro ⟨_, h2⟩
      rw [HT.sIx_nat, hwl] at h2
      omega
  have m5 : ((j : Int), (-1 : Int)) ∉ ((wordI H p).take hi').drop a1 := fun h => m4 (List.mem_of_mem_take (List.mem_of_mem_drop h))
  have hlt : (i : Int) < j := by omega
  have hlt2 : (a1 : Int) < hi' := by omega
  unfold F_law_is_caught
  rw [e_fnS]
  simp [r_caught, e_is_int, ninwd, m1, m2, m3, hlt, hd, x1, x2, x3, hlt2, ninT, m5]
theorem ev_is_against {K T b} {H : List Ev} (hH : GoodH K H) (hb : Bk H T b) {p : Nat} {d : D} (hf : Fault H T p d) (hn : d ≠ .non) :
    F_law_is_against [.d b, .d (hD H), .d (.int (p : Nat)), .d d] = ret (.bl true) := by
  have e1 := ev_law_cut_word hH p
  have hl := hH.len
  unfold F_law_is_against
  rw [e_fnS]
  cases hf with
  | none _ _ => exact absurd rfl hn
  | caught i j h => simp [e1, ev_law_is_caught hb h]
  | ring row hr h1 h2 h3 h4 =>
    have hkl := keptI_len (H.take p)
    have hs3 : (H.take p).length ≤ H.length := by simp; omega
    have hrl : row.length ≤ 1000 := by have := len_le h2 h3; omega
    have hrb : rB H T p row = true := rB_iff.mpr ⟨h1, h3, h2, h4⟩
    have e2 := ev_law_is_ring hb hl p hrl
    have e3 : F_law_is_caught [.d b, .d (.wd (pairsD (wordI H p))), .d (.tup [.str "ring", .tup (row.map .int)])] = ret (.bl false) := by
      unfold F_law_is_caught
      rw [e_fnS]
      simp
    simp [e1, e3, e2, hrb]
/-! own rings -/
structure RowI (L : List (Int × Int)) (ks : List Int) (m : Nat) (r : List Int) : Prop where
  len : r.length = m + 1
  nd : r.Nodup
  sub : ∀ t ∈ r, t ∈ ks
  adj : Adj (fun a c => (a, c) ∈ L) r
def lastI (r : List Int) : Int := r.getLast?.getD 0
def headI (r : List Int) : Int := r.head?.getD 0
def rowD (r : List Int) : D := .tup (r.map .int)
def ringD (r : List Int) : D := .tup [.str "ring", rowD r]
def moreI (L : List (Int × Int)) (k5 : List Int) (r : List Int) : List (List Int) := (k5.filter fun t => !decide (t ∈ r) && decide ((lastI r, t) ∈ L)).map fun t => r ++ [t]
theorem RowI.more {L ks m r} (h : RowI L ks m r) {k5 : List Int} (hk : ∀ t ∈ k5, t ∈ ks) : ∀ r' ∈ moreI L k5 r, RowI L ks (m + 1) r' := by
  intro r' hr
  obtain ⟨t, ht, rfl⟩ := List.mem_map.mp hr
  obtain ⟨h1, h2⟩ := List.mem_filter.mp ht
  rw [Bool.and_eq_true, Bool.not_eq_true', decide_eq_false_iff_not, decide_eq_true_eq] at h2
  refine ⟨by rw [List.length_append, h.len]; rfl, ?_, ?_, h.adj.snoc ?_⟩
  · rw [List.nodup_append]
    refine ⟨h.nd, by simp, ?_⟩
    intro a ha b hb e
    rw [List.mem_singleton] at hb
    exact h2.1 (hb ▸ e ▸ ha)
  · intro x hx
    rcases List.mem_append.mp hx with hx | hx
    · exact h.sub x hx
    · rw [List.mem_singleton] at hx; rw [hx]; exact hk t h1
  · intro c hc
    have : lastI r = c := by unfold lastI; rw [hc]; rfl
    rw [← this]; exact h2.2
theorem last_at {r : List Int} (h : r ≠ []) : ixS (rowD r) (.int (-1)) = ret (.int (lastI r)) := by
  obtain ⟨ys, c, rfl⟩ : ∃ ys c, r = ys ++ [c] := ⟨r.dropLast, r.getLast h, (List.dropLast_concat_getLast h).symm⟩
  have : lastI (ys ++ [c]) = c := by unfold lastI; simp
  rw [this]
  apply ix_tup
  rw [List.map_append]
  exact atI_last _ _
theorem head_at {r : List Int} (h : r ≠ []) : ixS (rowD r) (.int 0) = ret (.int (headI r)) := by
  cases r with
  | nil => exact absurd rfl h
  | cons a l => exact ix_t0 _ _
def RingOk (L : List (Int × Int)) (ks : List Int) (r : List Int) : Prop := 2 ≤ r.length ∧ r.Nodup ∧ (∀ t ∈ r, t ∈ ks) ∧ ∀ q ∈ cyc r, q ∈ L
theorem RowI.ring {L ks m r} (h : RowI L ks (m + 1) r) (hc : (lastI r, headI r) ∈ L) : RingOk L ks r := by
  refine ⟨by rw [h.len]; omega, h.nd, h.sub, ?_⟩
  cases r with
  | nil => have := h.len; simp at this
  | cons a l =>
    have := cyc_all (R := fun a c => (a, c) ∈ L) h.adj (fun c hcl => by
      have e : lastI (a :: l) = c := by unfold lastI; rw [hcl]; rfl
      rw [e] at hc
      exact hc)
    exact this
theorem RingOk.has {H T p r} (h : RingOk (Led H T p) (keptI (H.take p)) r) : HasRing (Eg H T p) (keptI (H.take p)) := by
  obtain ⟨h1, h2, h3, h4⟩ := h
  refine ring_of_cyc h3 (by rintro rfl; simp at h1) fun q hq => ?_
  rw [Eg_Led (cyc_ne h2 h1 q hq) (h3 _ (cyc_mem hq).1) (h3 _ (cyc_mem hq).2)]
  exact decide_eq_true (h4 q hq)
end EC
end
/-! ## M20 -/
section
set_option Elab.async false
set_option linter.all false
set_option maxRecDepth 100000
set_option maxHeartbeats 2000000
/-! M20: the law's own rings, whole. -/
namespace EC
open PySem PySem.Spec PyProof.Rows L2
@[simp] theorem cut_t5 (ds : List D) : cutD ds none (some 5) = ds.take 5 := cut_take ds 5
def owM : Rho → M (List D) := lcE [10] (itL (asL (sliL (var 6) noPart (part (con (.int 5)))))) (nameT 10) (andT (tst (op2 ninS (var 10) (var 9))) (tst (op2 inS (tupE (consL (op2 ixS (var 9) (negE (con (.int 1)))) (consL (var 10) nilL))) (var 3)))) (op2 catT (var 9) (tupE (consL (var 10) nilL)))
def owR : Rho → M (List D) := lcE [9] (itL (var 4)) (nameT 9) (tst (op2 inS (tupE (consL (op2 ixS (var 9) (negE (con (.int 1)))) (consL (op2 ixS (var 9) (con (.int 0))) nilL))) (var 3))) (tupE (consL (con (.str "ring")) (consL (var 9) nilL)))
def owB : Rho → M Res := seqS (setO 8 (lstE nilL))
  (seqS (forS (itL (var 4)) (nameT 9) (extS 8 (asL owM)))
  (seqS (give 8 (setS 4 (var 8)))
  (extS 7 (asL owR))))
theorem ownr_eq : F_law_own_rings = fnS 11 (seqS (parS [6, 7] (xD (op2 ixS (call 2 F_law_cut_word (consA (var 1) (consA (var 2) nilL))) (con (.int 1))) (xO (lstE nilL) nilL)))
  (seqS (setS 3 (call 2 F_law_edges (consA (var 0) (consA (var 2) nilL))))
  (seqS (setS 4 (asL (lcE [10] (itL (asL (sliL (var 6) noPart (part (con (.int 5)))))) (nameT 10) yes (tupE (consL (var 10) nilL)))))
  (seqS (forS (rng1 (con (.int 4))) (nameT 5) owB)
  (give 7 (retS (var 7))))))) := rfl
abbrev owS (b h : D) (p : Nat) (L : List (Int × Int)) (rows : List (List Int)) (x5 : Sl) (ks : List Int) (found : List (List Int)) (x8 x9 : Sl) : Rho := [.d b, .d h, .d (.int (p : Nat)), .d (.lst (pairsD L)), .d (.lst (rows.map rowD)), x5, .d (intsD ks), .o (found.map ringD), x8, x9, .no]
theorem inL (a c : Int) (L : List (Int × Int)) : inS (.tup [.int a, .int c]) (.lst (pairsD L)) = ret (.bl (decide ((a, c) ∈ L))) := by
  rw [inS_lst (lv_t2 (lv_int _) (lv_int _)) (lv_pairs _), inB_pair2]
theorem nin_row (t : Int) (r : List Int) : ninS (.int t) (rowD r) = ret (.bl (!decide (t ∈ r))) := by
  unfold rowD
  rw [ninS_tup (lv_int _) (lv_tmap fun _ _ => lv_int _), inB_i]
theorem ev_owM {b h : D} {p : Nat} {L : List (Int × Int)} {rows : List (List Int)} {x5 x8 : Sl} {ks : List Int} {found : List (List Int)} {r : List Int} (hr : r ≠ []) (hrl : r.length ≤ 1000) :
    owM (owS b h p L rows x5 ks found x8 (.d (rowD r))) = ret ((moreI L (ks.take 5) r).map rowD) := by
  unfold owM
  rw [lcE_map (xs := ks.take 5) (enc := .int) (fun t => !decide (t ∈ r) && decide ((lastI r, t) ∈ L)) (fun t => rowD (r ++ [t])) (by simp [intsD, List.map_take]) (by simp; omega)]
  · unfold moreI; rw [List.map_map]; rfl
  · intro t _
    have h1 := inL (lastI r) t L
    have h2 := last_at hr
    have h3 : catT (rowD r) (.tup [.int t]) = ret (rowD (r ++ [t])) := by
      unfold rowD
      rw [e_catT, chk_of (by simp; omega)]
      simp
    by_cases c1 : t ∈ r <;> by_cases c2 : (lastI r, t) ∈ L <;> simp [lcStep, nin_row, h1, h2, h3, c1, c2]
theorem ev_owR {b h : D} {p : Nat} {L : List (Int × Int)} {rows : List (List Int)} {x5 x8 x9 : Sl} {ks : List Int} {found : List (List Int)} (hr : ∀ r ∈ rows, r ≠ []) (hl : rows.length ≤ 100000) :
    owR (owS b h p L rows x5 ks found x8 x9) = ret ((rows.filter fun r => decide ((lastI r, headI r) ∈ L)).map ringD) := by
  unfold owR
  rw [lcE_map (xs := rows) (enc := rowD) (fun r => decide ((lastI r, headI r) ∈ L)) ringD (by simp) (by omega)]
  intro r hrr
  have h1 := inL (lastI r) (headI r) L
  have h2 := last_at (hr r hrr)
  have h3 := head_at (hr r hrr)
  by_cases c2 : (lastI r, headI r) ∈ L <;> simp [lcStep, h1, h2, h3, c2, ringD]
theorem more_len (L : List (Int × Int)) {k5 : List Int} (h : k5.length ≤ 5) (r : List Int) : (moreI L k5 r).length ≤ 5 := by
  unfold moreI
  rw [List.length_map]
  exact Nat.le_trans (List.length_filter_le _ _) h
theorem mores_len (L : List (Int × Int)) {k5 : List Int} (h : k5.length ≤ 5) : ∀ rows : List (List Int), (rows.flatMap (moreI L k5)).length ≤ rows.length * 5
  | [] => by simp
  | r :: rows => by
    have := mores_len L h rows
    have := more_len L h r
    rw [List.flatMap_cons, List.length_append, List.length_cons]; omega
theorem ow_loop {b h : D} {p : Nat} {L : List (Int × Int)} {ks : List Int} (hks : ks.length ≤ 900) : ∀ (ds : List D) (m : Nat) (rows found : List (List Int)) (x5 x8 x9 : Sl), (∀ r ∈ rows, RowI L ks m r) → (∀ r ∈ found, RingOk L ks r) → rows.length * 5 ^ ds.length ≤ 10000 → found.length + ds.length * 10000 ≤ 100000 →
    ∃ rows' found' y5 y8 y9, forL (nameT 5) owB ds (owS b h p L rows x5 ks found x8 x9) = ret (.nx (owS b h p L rows' y5 ks found' y8 y9)) ∧ (∀ r ∈ found', RingOk L ks r) ∧ found'.length ≤ 100000
  | [], m, rows, found, x5, x8, x9, _, h2, _, h4 => ⟨rows, found, x5, x8, x9, rfl, h2, by simpa using h4⟩
  | d :: ds, m, rows, found, x5, x8, x9, h1, h2, h3, h4 => by
    have hk5 : (ks.take 5).length ≤ 5 := by rw [List.length_take]; omega
    have hne : ∀ r ∈ rows, r ≠ [] := fun r hr e => by have := (h1 r hr).len; rw [e] at this; simp at this
    have hrl : ∀ r ∈ rows, r.length ≤ 1000 := fun r hr => by have := len_le (h1 r hr).nd (h1 r hr).sub; omega
    have hpow : 1 ≤ 5 ^ ds.length := Nat.one_le_pow _ _ (by decide)
    have hrows : rows.length * 5 ≤ 10000 := by
      refine Nat.le_trans ?_ h3
      rw [List.length_cons, Nat.pow_succ, Nat.mul_comm (5 ^ ds.length) 5, ← Nat.mul_assoc]
      exact Nat.le_mul_of_pos_right _ hpow
    let rows' := rows.flatMap (moreI L (ks.take 5))
    have hl' : rows'.length ≤ rows.length * 5 := mores_len L hk5 rows
    have h1' : ∀ r ∈ rows', RowI L ks (m + 1) r := by
      intro r hr
      obtain ⟨r0, hr0, hr1⟩ := List.mem_flatMap.mp hr
      exact (h1 r0 hr0).more (fun t ht => List.mem_of_mem_take ht) r hr1
    have hne' : ∀ r ∈ rows', r ≠ [] := fun r hr e => by have := (h1' r hr).len; rw [e] at this; simp at this
    let found' := found ++ rows'.filter fun r => decide ((lastI r, headI r) ∈ L)
    have hfl := List.length_filter_le (fun r => decide ((lastI r, headI r) ∈ L)) rows'
    have h2' : ∀ r ∈ found', RingOk L ks r := by
      intro r hr
      rcases List.mem_append.mp hr with hr | hr
      · exact h2 r hr
      · obtain ⟨h5, h6⟩ := List.mem_filter.mp hr
        exact (h1' r h5).ring (of_decide_eq_true h6)
    obtain ⟨a', b', hf⟩ := fold_app (fun r => (moreI L (ks.take 5) r).map rowD) rows [] x9 .no (fun r => Sl.d (rowD r)) (fun r => .no)
    have e1 : forL (nameT 9) (extS 8 (asL owM)) (rows.map rowD) (owS b h p L rows (.d d) ks found (.o []) x9) = ret (.nx (owS b h p L rows (.d d) ks found (.o (rows.flatMap fun r => (moreI L (ks.take 5) r).map rowD)) a')) := by
      have := forL_fold (t := nameT 9) (body := extS 8 (asL owM)) rowD (fun s : List D × Sl × Sl => owS b h p L rows (.d d) ks found (.o s.1) s.2.1)
        (fun s r => (s.1 ++ (moreI L (ks.take 5) r).map rowD, Sl.d (rowD r), .no)) (fun n s => s.1.length ≤ n * 5) rows 0 ([], x9, .no) (by simp) (by
          rintro r hr k ⟨acc, y9, z⟩ hk hi
          have hi : acc.length ≤ k * 5 := hi
          have hml := more_len L hk5 r
          have e2 := ev_owM (b := b) (h := h) (p := p) (L := L) (rows := rows) (x5 := .d d) (x8 := .o acc) (ks := ks) (found := found) (hne r hr) (hrl r hr)
          simp
          rw [e_extS (xs := acc) (by rfl)]
          simp only [owS] at e2
          simp [e2]
          refine ⟨chk_of (by omega) _, by omega⟩)
      rw [hf] at this
      simpa using this
    have e3 : (rows.flatMap fun r => (moreI L (ks.take 5) r).map rowD) = rows'.map rowD := by
      simp only [rows']
      rw [List.map_flatMap]
    rw [e3] at e1
    have e4 := ev_owR (b := b) (h := h) (p := p) (L := L) (rows := rows') (x5 := .d d) (x8 := .d (.lst (rows'.map rowD))) (x9 := a') (ks := ks) (found := found) hne' (by omega)
    have h4' : found.length + 10000 + ds.length * 10000 ≤ 100000 := by
      rw [List.length_cons, Nat.add_mul] at h4; omega
    have e5 : bnd (nameT 5 d (owS b h p L rows x5 ks found x8 x9)) owB = ret (.nx (owS b h p L rows' (.d d) ks found' (.d (.lst (rows'.map rowD))) a')) := by
      unfold owB
      simp
      simp only [owS] at e1 e4
      rw [e1]
      simp
      rw [e_give (xs := rows'.map rowD) (by rfl)]
      simp
      rw [e_extS (xs := found.map ringD) (by rfl)]
      simp [e4]
      rw [chk_of (by omega)]
      simp [found', owS]
    rw [forL_cons, e5, e_ret]
    refine ow_loop hks ds (m + 1) rows' found' _ _ _ h1' h2' ?_ ?_
    · rw [List.length_cons, Nat.pow_succ, Nat.mul_comm (5 ^ ds.length) 5, ← Nat.mul_assoc] at h3
      exact Nat.le_trans (Nat.mul_le_mul_right _ hl') h3
    · simp only [found']
      rw [List.length_append]
      omega
theorem ev_own_rings {K T b} {H : List Ev} (hH : GoodH K H) (hb : Bk H T b) (p : Nat) :
    ∃ rings : List (List Int), F_law_own_rings [.d b, .d (hD H), .d (.int (p : Nat))] = ret (.lst (rings.map ringD)) ∧ (∀ r ∈ rings, RingOk (Led H T p) (keptI (H.take p)) r) ∧ rings.length ≤ 100000 := by
  have hl := hH.len
  have hkl := keptI_len (H.take p)
  have hs3 : (H.take p).length ≤ H.length := by simp; omega
  have e1 := ev_law_cut_word hH p
  have e2 := ev_law_edges hb hl p
  generalize hks : keptI (H.take p) = ks at *
  have hk5 : (ks.take 5).length ≤ 5 := by rw [List.length_take]; omega
  obtain ⟨rows', found', y5, y8, y9, h1, h2, h3⟩ := ow_loop (b := b) (h := hD H) (p := p) (L := Led H T p) (ks := ks) (by omega) ((List.range 4).map fun (i : Nat) => D.int i) 0 ((ks.take 5).map fun t => [t]) [] .no .no .no (by
      intro r hr
      obtain ⟨t, ht, rfl⟩ := List.mem_map.mp hr
      exact ⟨rfl, by simp, by intro x hx; rw [List.mem_singleton] at hx; rw [hx]; exact List.mem_of_mem_take ht, trivial⟩) (by intro r hr; cases hr) (by
      rw [List.length_map, List.length_map, List.length_range]
      have : (ks.take 5).length * 5 ^ 4 ≤ 5 * 5 ^ 4 := Nat.mul_le_mul_right _ hk5
      omega) (by simp)
  refine ⟨found', ?_, h2, h3⟩
  rw [ownr_eq, e_fnS]
  have e3 : ∀ x3 x4 x5 x7 x8 x9 x10 : Sl, lcE [10] (itL (asL (sliL (var 6) noPart (part (con (.int 5)))))) (nameT 10) yes (tupE (consL (var 10) nilL)) [.d b, .d (hD H), .d (.int (p : Nat)), x3, x4, x5, .d (intsD ks), x7, x8, x9, x10] = ret (((ks.take 5).map fun t => [t]).map rowD) := by
    intro x3 x4 x5 x7 x8 x9 x10
    rw [lcE_mapY (xs := ks.take 5) (enc := .int) (fun t => rowD [t]) (by simp [intsD, List.map_take]) (by omega)]
    · rw [List.map_map]; rfl
    · intro t _
      simp [lcStep, rowD]
  have e4 := e_rng1K 4 (by decide)
  simp only [Int.cast_ofNat_Int] at e4
  simp [e1, e2, e3]
  have e5 : rng1K (.int 4) = ret ((List.range 4).map fun (i : Nat) => D.int i) := e_rng1K 4 (by decide)
  simp only [owS, List.map_nil] at h1
  rw [e5, e_ret]
  have e6 : List.take 5 (ks.map (rowD ∘ fun t => [t])) = ((ks.take 5).map fun t => [t]).map rowD := by rw [List.map_map, List.map_take]
  rw [e6, h1]
  simp
  rw [e_give (xs := found'.map ringD) (by rfl)]
  simp
end EC
end
/-! ## M21 -/
section
set_option Elab.async false
set_option linter.all false
set_option maxRecDepth 100000
set_option maxHeartbeats 2000000
/-! M21: drawn: one figure, one of some, a mixture. -/
namespace EC
open PySem PySem.Spec PyProof.Rows L2
theorem can_draw {n : Nat} (h1 : 1 ≤ n) (h2 : n ≤ 1000000) : Can (F_law_draw [.k, .d (.int (n : Nat))]) fun d => ∃ r : Nat, d = .int (r : Nat) ∧ r < n := by
  intro P hP
  refine ⟨⟨by omega, by omega⟩, fun r hr hr2 => hP _ ⟨r.toNat, ?_, ?_⟩⟩
  · rw [Int.toNat_of_nonneg hr]
  · omega
theorem ix_nat {ds : List D} {i : Nat} (h : i < ds.length) : ixS (.lst ds) (.int (i : Nat)) = ret ds[i] := ix_lst (by rw [atI_nat, List.getElem?_eq_getElem h])
theorem ixT_nat {ds : List D} {i : Nat} (h : i < ds.length) : ixS (.tup ds) (.int (i : Nat)) = ret ds[i] := ix_tup (by rw [atI_nat, List.getElem?_eq_getElem h])
theorem can_pick {ds : List D} (h1 : ds ≠ []) (h2 : ds.length ≤ 1000000) : Can (F_law_pick [.k, .d (.lst ds)]) fun d => d ∈ ds := by
  have := List.length_pos_iff.mpr h1
  unfold F_law_pick
  rw [e_fnS]
  simp
  refine Can.bnd (can_draw this h2) ?_
  rintro _ ⟨r, rfl, hr⟩
  simp [ix_nat hr]
  exact Can.ret (List.getElem_mem hr)
theorem can_pickT {ds : List D} (h1 : ds ≠ []) (h2 : ds.length ≤ 1000000) : Can (F_law_pick [.k, .d (.tup ds)]) fun d => d ∈ ds := by
  have := List.length_pos_iff.mpr h1
  unfold F_law_pick
  rw [e_fnS]
  simp
  refine Can.bnd (can_draw this h2) ?_
  rintro _ ⟨r, rfl, hr⟩
  simp [ixT_nat hr]
  exact Can.ret (List.getElem_mem hr)
def PkS (x : Str) (d : D) : Prop := ∃ c ∈ x.cps.toList, d = .str ⟨#[c]⟩
theorem can_pickS {x : Str} (h1 : 1 ≤ x.length) (h2 : x.length ≤ 1000000) : Can (F_law_pick [.k, .d (.str x)]) (PkS x) := by
  unfold F_law_pick
  rw [e_fnS]
  simp [e_lenStr h2]
  refine Can.bnd (can_draw h1 h2) ?_
  rintro _ ⟨r, rfl, hr⟩
  have hr' : r < x.cps.toList.length := by simpa [Str.length] using hr
  have : ixS (.str x) (.int (r : Nat)) = ret (.str ⟨#[x.cps.toList[r]]⟩) := by
    show (match atI x.cps.toList (r : Int) with | some c => chk (x.length ≤ 1000000) (ret (D.str ⟨#[c]⟩)) | none => die) = _
    rw [atI_nat, List.getElem?_eq_getElem hr']
    exact chk_of h2 _
  simp only [this, e_ret, e_fnK_rt]
  exact Can.ret ⟨_, List.getElem_mem hr', rfl⟩
/-! comprehensions whose steps are drawn -/
def LR {α : Type} (R : α → Option D → Prop) : List α → List D → Prop
  | [], ds => ds = []
  | x :: xs, ds => (∃ y ys, ds = y :: ys ∧ R x (some y) ∧ LR R xs ys) ∨ (R x none ∧ LR R xs ds)
theorem can_lcL {α : Type} {t : D → Rho → M Rho} {c : Rho → M Bool} {f : Rho → M D} {ρ : Rho} {enc : α → D} (R : α → Option D → Prop) : ∀ (xs : List α), (∀ x ∈ xs, Can (lcStep t c f ρ (enc x)) (R x)) → Can (lcL t c f (xs.map enc) ρ) (LR R xs)
  | [], _ => Can.ret rfl
  | x :: xs, h => by
    have ih := can_lcL R xs fun y hy => h y (List.mem_cons_of_mem _ hy)
    rw [List.map_cons, lcL_cons]
    refine Can.bnd (h x (by simp)) ?_
    intro o ho
    cases o with
    | none => exact ih.mono fun ds hds => .inr ⟨ho, hds⟩
    | some y => exact Can.bnd ih fun ys hys => Can.ret (.inl ⟨y, ys, rfl, ho, hys⟩)
theorem can_lcE {α : Type} {vs it} {t : D → Rho → M Rho} {c : Rho → M Bool} {f : Rho → M D} {ρ : Rho} {enc : α → D} {xs : List α} (R : α → Option D → Prop) (hi : it ρ = EC.ret (xs.map enc)) (hl : xs.length ≤ 1000000)
    (h : ∀ x ∈ xs, Can (lcStep t c f (wipeR ρ vs) (enc x)) (R x)) : Can (lcE vs it t c f ρ) (LR R xs) := by
  unfold lcE
  rw [hi, e_ret, chk_of (by simpa using hl)]
  exact can_lcL R xs h
theorem LR_sub {α : Type} {g : α → D} : ∀ {xs : List α} {ds : List D}, LR (fun x o => o = none ∨ o = some (g x)) xs ds → ∃ ys : List α, ys.Sublist xs ∧ ds = ys.map g
  | [], ds, h => ⟨[], List.Sublist.refl _, h⟩
  | x :: xs, ds, h => by
    rcases h with ⟨y, ys, rfl, h1, h2⟩ | ⟨_, h2⟩
    · obtain ⟨zs, h3, rfl⟩ := LR_sub h2
      rcases h1 with h1 | h1
      · cases h1
      · injection h1 with h1
        exact ⟨x :: zs, h3.cons_cons x, by rw [h1]; rfl⟩
    · obtain ⟨zs, h3, h4⟩ := LR_sub h2
      exact ⟨zs, h3.cons x, h4⟩
theorem LR_all {α β : Type} {S : α → β → Prop} {g : β → D} : ∀ {xs : List α} {ds : List D}, LR (fun x o => ∃ y, o = some (g y) ∧ S x y) xs ds → ∃ ys : List β, ds = ys.map g ∧ ys.length = xs.length ∧ ∀ p ∈ xs.zip ys, S p.1 p.2
  | [], ds, h => ⟨[], h, rfl, by simp⟩
  | x :: xs, ds, h => by
    rcases h with ⟨y, ys, rfl, ⟨z, h1, h1'⟩, h2⟩ | ⟨⟨z, h1, _⟩, _⟩
    · obtain ⟨zs, rfl, h3, h4⟩ := LR_all h2
      injection h1 with h1
      refine ⟨z :: zs, by rw [h1]; rfl, by simp [h3], ?_⟩
      intro p hp
      rw [List.zip_cons_cons] at hp
      rcases List.mem_cons.mp hp with rfl | hp
      · exact h1'
      · exact h4 p hp
    · cases h1
/-- loops whose steps are drawn -/
theorem can_forL {α : Type} {t : D → Rho → M Rho} {body : Rho → M Res} {enc : α → D} (I : Nat → Rho → Prop) : ∀ (xs : List α) (n : Nat) (ρ : Rho), (∀ i x, xs[i]? = some x → ∀ ρ, I (n + i) ρ → Can (bnd (t (enc x) ρ) body) fun r => ∃ ρ', r = .nx ρ' ∧ I (n + i + 1) ρ') → I n ρ →
    Can (forL t body (xs.map enc) ρ) fun r => ∃ ρ', r = .nx ρ' ∧ I (n + xs.length) ρ'
  | [], n, ρ, _, h => Can.ret ⟨ρ, rfl, h⟩
  | x :: xs, n, ρ, h, h0 => by
    rw [List.map_cons, forL_cons]
    refine Can.bnd (h 0 x rfl ρ h0) ?_
    rintro _ ⟨ρ', rfl, h1⟩
    have ih := can_forL I xs (n + 1) ρ' (fun i y hy ρ hi => by
      have := h (i + 1) y (by simpa using hy) ρ (by rw [show n + (i + 1) = n + 1 + i by omega]; exact hi)
      rw [show n + (i + 1) + 1 = n + 1 + i + 1 by omega] at this
      exact this) h1
    refine ih.mono ?_
    rintro r ⟨ρ'', h2, h3⟩
    exact ⟨ρ'', h2, by rw [List.length_cons, show n + (xs.length + 1) = n + 1 + xs.length by omega]; exact h3⟩
def MxR (i : Nat) (o : Option D) : Prop := ∃ q : Int × Int, o = some (pairD q) ∧ q.2 = i
theorem can_mixed {α : Type} {enc : α → D} {xs : List α} (hl : xs.length ≤ 1000000) : Can (F_law_mixed [.k, .d (.lst (xs.map enc))]) fun d => ∃ ys : List α, d = .lst (ys.map enc) ∧ ys.Perm xs := by
  unfold F_law_mixed
  rw [e_fnS]
  simp
  refine Can.bnd (can_lcE (xs := List.range xs.length) (enc := fun (i : Nat) => D.int i) (fun i o => ∃ q : Int × Int, o = some (pairD q) ∧ q.2 = i) (by simp [e_rng1K xs.length hl]) (by simpa using hl) ?_) ?_
  · intro i _
    have hd := can_draw (n := 1000) (by decide) (by decide)
    show Can _ (MxR i)
    simp [lcStep]
    refine Can.bnd hd ?_
    rintro _ ⟨r, rfl, _⟩
    exact Can.ret ⟨((r : Int), (i : Int)), rfl, rfl⟩
  · intro ds hds
    obtain ⟨ps, rfl, h1, h2⟩ := LR_all hds
    have h3 := pairs_sort ps
    unfold pairsD at h3
    simp [h3]
    have hperm : (isort ps).Perm ps := List.mergeSort_perm ps lexB
    have hsnd : ps.map (fun q => q.2.toNat) = List.range xs.length := by
      apply List.ext_getElem
      · simpa using h1
      · intro i g1 g2
        have g3 : i < ps.length := by simpa using g1
        have g4 : i < (List.range xs.length).length := g2
        have hm : ((List.range xs.length)[i], ps[i]) ∈ (List.range xs.length).zip ps := by
          have : ((List.range xs.length).zip ps)[i]? = some ((List.range xs.length)[i], ps[i]) := by
            rw [List.getElem?_zip_eq_some]
            exact ⟨List.getElem?_eq_getElem g4, List.getElem?_eq_getElem g3⟩
          exact List.mem_of_getElem? this
        have := h2 _ hm
        simp at this ⊢
        omega
    have hin : ∀ q ∈ isort ps, ∃ h : q.2.toNat < xs.length, q.2 = (q.2.toNat : Nat) := by
      intro q hq
      have hq := hperm.mem_iff.mp hq
      obtain ⟨k, hk⟩ := List.getElem?_of_mem hq
      obtain ⟨hk1, hk2⟩ := List.getElem?_eq_some_iff.mp hk
      have hk3 : k < xs.length := by rw [h1] at hk1; simpa using hk1
      have hm : (k, q) ∈ (List.range xs.length).zip ps := by
        have : ((List.range xs.length).zip ps)[k]? = some (k, q) := by
          rw [List.getElem?_zip_eq_some]
          exact ⟨List.getElem?_range hk3, hk⟩
        exact List.mem_of_getElem? this
      have := h2 _ hm
      simp at this
      exact ⟨by omega, by omega⟩
    by_cases hx : xs = []
    · subst hx
      have hps : ps = [] := by simpa using h1
      subst hps
      refine Can.eq (a := .lst []) ?_ ⟨[], rfl, List.Perm.refl _⟩
      have : isort ([] : List (Int × Int)) = [] := by unfold isort; simp
      rw [this, lcE_mapY (xs := ([] : List (Int × Int))) (enc := pairD) (fun _ => .non) (by simp) (by simp) (by simp)]
      simp
    · obtain ⟨x0, xs', hx0⟩ := List.exists_cons_of_ne_nil hx
      have hil : (isort ps).length = xs.length := by rw [hperm.length_eq, h1, List.length_range]
      rw [lcE_mapY (xs := isort ps) (enc := pairD) (fun q => enc (xs.getD q.2.toNat x0)) (by simp) (by omega)]
      · simp
        refine Can.ret ⟨(isort ps).map fun q => xs.getD q.2.toNat x0, by rw [List.map_map]; rfl, ?_⟩
        refine (hperm.map _).trans ?_
        have e : ps.map (fun q => xs.getD q.2.toNat x0) = (List.range xs.length).map fun i => xs.getD i x0 := by
          rw [← hsnd, List.map_map]; rfl
        rw [e]
        have e2 : ((List.range xs.length).map fun i => xs.getD i x0) = xs := by
          apply List.ext_getElem
          · simp
          · intro i g1 g2
            simp [g2]
        rw [e2]
      · intro q hq
        obtain ⟨h5, h6⟩ := hin q hq
        have h7 : ixS (.lst (xs.map enc)) (.int q.2) = ret (enc (xs.getD q.2.toNat x0)) := by
          conv => lhs; rw [h6]
          rw [ix_nat (by simpa using h5)]
          simp [h5]
        obtain ⟨a, c⟩ := q
        simp only at h7
        simp [lcStep, pairD, h7]
end EC
end
/-! ## M22 -/
section
set_option Elab.async false
set_option linter.all false
set_option maxRecDepth 100000
set_option maxHeartbeats 2000000
/-! M22: drawn: a word, a table. -/
namespace EC
open PySem PySem.Spec PyProof.Rows L2
theorem join_signs (e : Str) (he : e.cps.toList = []) : ∀ ys : List Nat, (Str.join e (ys.map fun c => ⟨#[c]⟩)).cps.toList = ys
  | [] => rfl
  | [c] => rfl
  | c :: d :: r => by
    have ih := join_signs e he (d :: r)
    show ((⟨#[c]⟩ : Str) ++ e ++ Str.join e ((d :: r).map fun c => ⟨#[c]⟩)).cps.toList = _
    show (#[c] ++ e.cps ++ (Str.join e ((d :: r).map fun c => ⟨#[c]⟩)).cps).toList = _
    rw [Array.toList_append, Array.toList_append, he, ih]
    rfl
theorem txt_join (e : Str) (ys : List Str) : Txt.join e ys = Str.join e ys := StrLaws.glued_eq_join e ys
def joinK (x : Str) : D → M D
  | .lst ds => joinR x ds
  | _ => die
theorem e_joinE (x : Str) (g) (ρ : Rho) : joinE (con (.str x)) g ρ = bnd (g ρ) (joinK x) := by
  unfold joinE
  rw [e_con, e_ret]
  rfl
theorem e_joinK {x : Str} {ys : List Str} (h : (ys.map (fun (y : Str) => y.length)).sum + ys.length * x.length ≤ 16777216) : joinK x (.lst (ys.map .str)) = ret (.str (Txt.join x ys)) := by
  show joinR x _ = _
  unfold joinR
  rw [strs_map]
  exact chk_of h _
theorem abc_ok : ∀ c ∈ ("abcdefghijklmnopqrstuvwxyz" : Str).cps.toList, c < 0x110000 := by decide +kernel
theorem qwe_abc : ∀ c ∈ ("qwertyuiopasdfghjklzxcvbnm" : Str).cps.toList, c ∈ ("abcdefghijklmnopqrstuvwxyz" : Str).cps.toList := by decide +kernel
theorem qwe_len : ("qwertyuiopasdfghjklzxcvbnm" : Str).length = 26 := by decide +kernel
theorem nil_cps : ("" : Str).cps.toList = [] := by decide +kernel
theorem nm_strOk {x : Str} (h : NmOk x) : PyData.strOk x = true := by
  unfold PyData.strOk
  rw [Array.all_eq_true']
  intro c hc
  have := abc_ok c (h.2.2 c (by simpa using hc))
  simpa using this
def AwR (i : Nat) (o : Option D) : Prop := ∃ c : Nat, o = some (.str ⟨#[c]⟩) ∧ c ∈ ("qwertyuiopasdfghjklzxcvbnm" : Str).cps.toList
def AwS (d : D) : Prop := ∃ k : Kd, d = kdD k ∧ NmOk k.1
theorem can_any_word {most : Nat} (h1 : 1 ≤ most) (h2 : most ≤ 10) : Can (F_law_any_word [.k, .d (.int (most : Nat))]) AwS := by
  unfold F_law_any_word
  rw [e_fnS]
  simp
  refine Can.bnd (can_draw h1 (by omega)) ?_
  rintro _ ⟨r, rfl, hr⟩
  simp [e_joinE]
  refine Can.bnd (can_lcE (xs := List.range (1 + r)) (enc := fun (i : Nat) => D.int i) (fun i o => ∃ c : Nat, o = some (.str ⟨#[c]⟩) ∧ c ∈ ("qwertyuiopasdfghjklzxcvbnm" : Str).cps.toList) ?_ (by simp; omega) ?_) ?_
  · simp
    exact e_rng1K (1 + r) (by omega)
  · intro i _
    show Can _ (AwR i)
    simp [lcStep]
    refine Can.bnd (can_pickS (x := "qwertyuiopasdfghjklzxcvbnm") (by rw [qwe_len]; decide) (by rw [qwe_len]; decide)) ?_
    rintro _ ⟨c, hc, rfl⟩
    exact Can.ret ⟨c, rfl, hc⟩
  · intro ds hds
    obtain ⟨ys, rfl, h3, h4⟩ := LR_all (S := fun _ c => c ∈ ("qwertyuiopasdfghjklzxcvbnm" : Str).cps.toList) (g := fun c : Nat => D.str ⟨#[c]⟩) hds
    have h5 : ∀ c ∈ ys, c ∈ ("abcdefghijklmnopqrstuvwxyz" : Str).cps.toList := by
      intro c hc
      apply qwe_abc
      obtain ⟨k, hk⟩ := List.getElem?_of_mem hc
      obtain ⟨hk1, _⟩ := List.getElem?_eq_some_iff.mp hk
      have hk2 : k < (List.range (1 + r)).length := by rw [← h3]; exact hk1
      have hm : ((List.range (1 + r))[k], c) ∈ (List.range (1 + r)).zip ys := by
        have : ((List.range (1 + r)).zip ys)[k]? = some ((List.range (1 + r))[k], c) := by
          rw [List.getElem?_zip_eq_some]
          exact ⟨List.getElem?_eq_getElem hk2, hk⟩
        exact List.mem_of_getElem? this
      exact h4 _ hm
    have hyl : ys.length = 1 + r := by simpa using h3
    have e1 : ys.map (fun c => D.str ⟨#[c]⟩) = (ys.map fun c => (⟨#[c]⟩ : Str)).map .str := by rw [List.map_map]; rfl
    have hsum : ((ys.map fun c => (⟨#[c]⟩ : Str)).map (fun (y : Str) => y.length)).sum = ys.length := by
      rw [List.map_map]
      clear h3 h4 h5 hyl e1 hds
      induction ys with
      | nil => rfl
      | cons y ys ih => rw [List.map_cons, List.sum_cons, ih]; simp [Str.length]; omega
    have e0 : ("" : Str).length = 0 := by decide +kernel
    have e2 := e_joinK (x := ("" : Str)) (ys := ys.map fun c => (⟨#[c]⟩ : Str)) (by rw [hsum, e0]; omega)
    rw [e1, e2]
    have hj : (Txt.join "" (ys.map fun c => (⟨#[c]⟩ : Str))).cps.toList = ys := by rw [txt_join]; exact join_signs _ nil_cps ys
    have hlen : (Txt.join "" (ys.map fun c => (⟨#[c]⟩ : Str))).length = ys.length := by
      have := congrArg List.length hj
      simpa [Str.length] using this
    have hnm : NmOk (Txt.join "" (ys.map fun c => (⟨#[c]⟩ : Str))) := ⟨by omega, by omega, by rw [hj]; exact h5⟩
    exact Can.eq (a := D.str (Txt.join "" (ys.map fun c => (⟨#[c]⟩ : Str)))) (by simp) ⟨⟨_, nm_strOk hnm⟩, rfl, hnm⟩
/-! order of texts -/
theorem ltK_tr {a b c : Kd} (h : ltK a b) (h2 : ltK b c) : ltK a c := List.lt_trans h h2
theorem ltK_ir (a : Kd) : ¬ltK a a := List.lt_irrefl _
theorem ltK_as {a b : Kd} (h : ltK a b) : ¬ltK b a := List.lt_asymm h
theorem kd_ext {a b : Kd} (h : a.1.cps.toList = b.1.cps.toList) : a = b := by
  apply Subtype.ext
  have : a.1.cps = b.1.cps := Array.toList_inj.mp h
  cases ha : a.1; cases hb : b.1
  rw [ha, hb] at this
  simp only at this
  rw [this]
theorem rising_le : ∀ (l : List Str) (p : Str), risingS p l = true → (∀ x ∈ l, ¬x.cps.toList < p.cps.toList) ∧ l.Pairwise fun a b => ¬b.cps.toList < a.cps.toList
  | [], p, _ => ⟨by simp, List.Pairwise.nil⟩
  | x :: r, p, h => by
    unfold risingS at h
    rw [Bool.and_eq_true, Bool.not_eq_true', ltCps_eq, decide_eq_false_iff_not] at h
    obtain ⟨h1, h2⟩ := rising_le r x h.2
    refine ⟨?_, List.pairwise_cons.mpr ⟨h1, h2⟩⟩
    intro y hy
    rcases List.mem_cons.mp hy with rfl | hy
    · exact h.1
    · exact List.not_lt.mpr (List.le_trans (List.not_lt.mp h.1) (List.not_lt.mp (h1 y hy)))
theorem sorted_pw {l : List Str} (h : sortedS l = true) : l.Pairwise fun a b => ¬b.cps.toList < a.cps.toList := by
  cases l with
  | nil => exact List.Pairwise.nil
  | cons x r =>
    obtain ⟨h1, h2⟩ := rising_le r x h
    exact List.pairwise_cons.mpr ⟨h1, h2⟩
theorem kd_lift : ∀ ys : List Str, (∀ y ∈ ys, PyData.strOk y = true) → ∃ K : List Kd, K.map (·.1) = ys
  | [], _ => ⟨[], rfl⟩
  | y :: ys, h => by
    obtain ⟨K, hK⟩ := kd_lift ys fun z hz => h z (List.mem_cons_of_mem _ hz)
    exact ⟨⟨y, h y (by simp)⟩ :: K, by rw [List.map_cons, hK]⟩
theorem can_sortSS {ks : List Kd} (hl : ks.length < 64) (hn : ks.Nodup) : Can (sortSD (.lst (ks.map kdD))) fun ds => ∃ K : List Kd, ds = K.map kdD ∧ (∀ k, k ∈ K ↔ k ∈ ks) ∧ K.Pairwise ltK ∧ K.length = ks.length := by
  have e : sortSD (.lst (ks.map kdD)) = srtS (ks.map (·.1)) := by
    show (match D.strs (ks.map kdD) with | some xs => srtS xs | none => die) = _
    have : ks.map kdD = (ks.map (·.1)).map .str := by rw [List.map_map]; rfl
    rw [this, strs_map]
  rw [e]
  intro P hP
  refine ⟨by simpa using hl, fun ys h1 h2 => ?_⟩
  obtain ⟨K, hK⟩ := kd_lift ys fun y hy => by
    obtain ⟨k, _, rfl⟩ := List.mem_map.mp (h1.mem_iff.mp hy)
    exact k.2
  subst hK
  have hinj : ∀ a b : Kd, a.1 = b.1 → a = b := fun a b h => Subtype.ext h
  have hmem : ∀ k, k ∈ K ↔ k ∈ ks := by
    intro k
    have := h1.mem_iff (a := k.1)
    rw [List.mem_map, List.mem_map] at this
    constructor
    · intro h
      obtain ⟨k', h3, h4⟩ := this.mp ⟨k, h, rfl⟩
      exact hinj _ _ h4 ▸ h3
    · intro h
      obtain ⟨k', h3, h4⟩ := this.mpr ⟨k, h, rfl⟩
      exact hinj _ _ h4 ▸ h3
  have hKn : K.Nodup := by
    have : (K.map (·.1)).Nodup := h1.nodup_iff.mpr (nodup_map hinj hn)
    unfold List.Nodup at this ⊢
    rw [List.pairwise_map] at this
    exact this.imp fun h e => h (by rw [e])
  have hpw := sorted_pw h2
  rw [List.pairwise_map] at hpw
  have hlen : K.length = ks.length := by have := h1.length_eq; simpa using this
  have := hP (K.map kdD) ⟨K, rfl, hmem, (hpw.and hKn).imp (fun {a b} hab => by
    unfold ltK
    apply Classical.byContradiction
    intro hc
    exact hab.2 (kd_ext (List.le_antisymm (List.not_lt.mp hab.1) (List.not_lt.mp hc)))), hlen⟩
  have e2 : (K.map (·.1)).map D.str = K.map kdD := by rw [List.map_map]; rfl
  rw [e2]; exact this
end EC
end
/-! ## M23 -/
section
set_option Elab.async false
set_option linter.all false
set_option maxRecDepth 100000
set_option maxHeartbeats 2000000
/-! M23: drawn: a table. -/
namespace EC
open PySem PySem.Spec PyProof.Rows L2
theorem can_pickN {ns : List Nat} (h1 : ns ≠ []) (h2 : ns.length ≤ 1000000) : Can (F_law_pick [.k, .d (.lst (ns.map fun n => D.int (n : Nat)))]) fun d => ∃ n ∈ ns, d = .int (n : Nat) :=
  (can_pick (by simpa using h1) (by simpa using h2)).mono fun d hd => by
    obtain ⟨n, hn, rfl⟩ := List.mem_map.mp hd
    exact ⟨n, hn, rfl⟩
def TbI1 (share : Int) (m : Nat) (ρ : Rho) : Prop := ∃ (ks : List Kd) (x1 x4 : Sl), ρ = [.k, x1, .o (ks.map kdD), .d (.int share), x4, .no, .no, .no, .no] ∧ ks.Nodup ∧ (∀ k ∈ ks, NmOk k.1) ∧ ks.length ≤ m
def TbI2 (K : List Kd) (share : Int) (x1 : Sl) (m : Nat) (ρ : Rho) : Prop := ∃ (T : List (Kd × Kd)) (x4 x6 x7 : Sl), ρ = [.k, x1, .d (.lst (K.map kdD)), .d (.int share), x4, .o (T.map kpD), x6, x7, .no] ∧ T.Pairwise ltKP ∧ (∀ p ∈ T, p.1 ∈ K.take m ∧ p.2 ∈ K ∧ ¬ltK p.2 p.1) ∧ T.length ≤ m * 64
def atB1 : Rho → M Res := seqS (setS 4 (call 2 F_law_any_word (consK 0 (consA (call 2 F_law_pick (consK 0 (consA (asL (lstE (consL (con (.int 1)) (consL (con (.int 1)) (consL (con (.int 2)) (consL (con (.int 10)) nilL)))))) nilL))) nilL))))
  (extS 2 (ifE (tst (op2 ninS (var 4) (varW 2))) (asL (lstE (consL (var 4) nilL))) (asL (lstE nilL))))
def atB2 : Rho → M Res := extS 5 (asL (lcE [8] (itL (asL (sliL (var 2) (part (var 6)) noPart))) (nameT 8) (tst (op2 ltS (call 2 F_law_draw (consK 0 (consA (con (.int 8)) nilL))) (var 3))) (tupE (consL (var 7) (consL (var 8) nilL)))))
theorem any_table_eq : F_law_any_table = fnS 9 (seqS (parS [2, 3] (xO (lstE nilL) (xD (call 2 F_law_pick (consK 0 (consA (asL (lstE (consL (con (.int 4)) (consL (con (.int 6)) (consL (con (.int 8)) (consL (con (.int 5)) (consL (con (.int 3)) (consL (con (.int 2)) (consL (con (.int 8)) (consL (con (.int 0)) nilL)))))))))) nilL))) nilL)))
  (seqS (forS (rng1 (call 2 F_law_pick (consK 0 (consA (asL (lstE (consL (con (.int 3)) (consL (con (.int 2)) (consL (con (.int 4)) (consL (con (.int 5)) (consL (con (.int 3)) (consL (con (.int 1)) (consL (con (.int 6)) (consL (con (.int 2)) (consL (con (.int 1)) (consL (con (.int 3)) (consL (con (.int 2)) (consL (con (.int 0)) nilL)))))))))))))) nilL)))) (nameT 1) atB1)
  (seqS (parS [2, 5] (xO (app (consL (varW 2) nilL) sortSS) (xO (lstE nilL) nilL)))
  (seqS (give 2 (forS (enumL (var 2)) (tupT 2 (consT (nameT 6) (consT (nameT 7) nilT))) atB2))
  (retS (tupE (consL (app (consL (var 2) nilL) tupS) (consL (app (consL (varW 5) nilL) tupS) nilL)))))))) := rfl
theorem kd_in (k : Kd) (ks : List Kd) : ninS (kdD k) (.lst (ks.map kdD)) = ret (.bl (!decide (k ∈ ks))) := by
  have v1 : Lv 8 (kdD k) := lv_kd k
  have v2 : Lv 8 (.lst (ks.map kdD)) := lv_lmap fun k _ => lv_kd k
  rw [ninS_lst v1 v2, inB_map q_kd]
  congr 3
  exact decide_eq_decide.mpr Iff.rfl
theorem can_atB1 {share : Int} {m : Nat} (hm : m ≤ 10) {d : D} {ρ : Rho} (h : TbI1 share m ρ) : Can (bnd (nameT 1 d ρ) atB1) fun r => ∃ ρ', r = .nx ρ' ∧ TbI1 share (m + 1) ρ' := by
  obtain ⟨ks, x1, x4, rfl, h1, h2, h3⟩ := h
  unfold atB1
  try simp
  refine Can.bnd (can_pickN (ns := [1, 1, 2, 10]) (by simp) (by simp)) ?_
  rintro _ ⟨n, hn, rfl⟩
  have hn2 : 1 ≤ n ∧ n ≤ 10 := by
    simp at hn; omega
  try simp
  refine Can.bnd (can_any_word hn2.1 hn2.2) ?_
  rintro _ ⟨k, rfl, hk⟩
  try simp
  rw [e_extS (xs := ks.map kdD) (by rfl)]
  simp [kd_in]
  by_cases hc : k ∈ ks
  · simp [hc]
    rw [chk_of (by omega)]
    exact Can.ret ⟨_, rfl, ks, _, _, rfl, h1, h2, by omega⟩
  · simp [hc]
    rw [chk_of (by omega)]
    refine Can.ret ⟨_, rfl, ks ++ [k], .d d, .d (kdD k), by simp, ?_, ?_, by simp; omega⟩
    · rw [List.nodup_append]
      refine ⟨h1, by simp, ?_⟩
      intro a ha b hb e
      rw [List.mem_singleton] at hb
      exact hc (hb ▸ e ▸ ha)
    · intro x hx
      rcases List.mem_append.mp hx with hx | hx
      · exact h2 x hx
      · rw [List.mem_singleton] at hx; rw [hx]; exact hk
theorem can_atB2 {K : List Kd} (hK : K.Pairwise ltK) (hKl : K.length ≤ 20) {share : Int} {x1 : Sl} {m : Nat} {one : Kd} (hm : K[m]? = some one) {ρ : Rho} (h : TbI2 K share x1 m ρ) :
    Can (bnd (tupT 2 (consT (nameT 6) (consT (nameT 7) nilT)) (.tup [.int (m : Nat), kdD one]) ρ) atB2) fun r => ∃ ρ', r = .nx ρ' ∧ TbI2 K share x1 (m + 1) ρ' := by
  obtain ⟨T, x4, x6, x7, rfl, h1, h2, h3⟩ := h
  obtain ⟨hml, hmo⟩ := List.getElem?_eq_some_iff.mp hm
  unfold atB2
  try simp
  rw [e_extS (xs := T.map kpD) (by rfl)]
  try simp
  refine Can.bnd (can_lcE (xs := K.drop m) (enc := kdD) (fun o out => out = none ∨ out = some (kpD (one, o))) (by simp [cut_drop, List.map_drop]) (by simp; omega) ?_) ?_
  · intro o _
    simp [lcStep]
    refine Can.bnd (can_draw (n := 8) (by decide) (by decide)) ?_
    rintro _ ⟨r, rfl, _⟩
    by_cases hr : (r : Int) < share
    · simp [hr]
      exact Can.ret (.inr rfl)
    · simp [hr]
      exact Can.ret (.inl rfl)
  · intro ds hds
    obtain ⟨ys, hys, rfl⟩ := LR_sub hds
    have hyl : ys.length ≤ 20 := by have := hys.length_le; rw [List.length_drop] at this; omega
    simp
    rw [chk_of (by omega)]
    have hymem : ∀ o ∈ ys, o ∈ K ∧ ¬ltK o one := by
      intro o ho
      have hd := hys.mem ho
      refine ⟨List.mem_of_mem_drop hd, ?_⟩
      rw [List.drop_eq_getElem_cons hml, hmo] at hd
      rcases List.mem_cons.mp hd with rfl | hd
      · exact ltK_ir _
      · obtain ⟨j, hj⟩ := List.getElem?_of_mem hd
        rw [List.getElem?_drop] at hj
        obtain ⟨hj1, hj2⟩ := List.getElem?_eq_some_iff.mp hj
        have := List.pairwise_iff_getElem.mp hK m (m + 1 + j) hml hj1 (by omega)
        rw [hmo, hj2] at this
        exact ltK_as this
    refine Can.ret ⟨_, rfl, T ++ ys.map (fun o => (one, o)), x4, _, _, by rw [List.map_append, List.map_map]; rfl, ?_, ?_, ?_⟩
    · rw [List.pairwise_append]
      refine ⟨h1, ?_, ?_⟩
      · rw [List.pairwise_map]
        refine ((hK.sublist (hys.trans (List.drop_sublist _ _)))).imp ?_
        intro a b hab
        unfold ltKP
        simpa using hab
      · intro p hp q hq
        obtain ⟨o, ho, rfl⟩ := List.mem_map.mp hq
        obtain ⟨g1, _, _⟩ := h2 p hp
        have hlt : ltK p.1 one := by
          obtain ⟨j, hj⟩ := List.getElem?_of_mem g1
          rw [List.getElem?_take] at hj
          split at hj
          · rename_i hjm
            obtain ⟨hj1, hj2⟩ := List.getElem?_eq_some_iff.mp hj
            have := List.pairwise_iff_getElem.mp hK j m hj1 hml hjm
            rw [hj2, hmo] at this
            exact this
          · cases hj
        unfold ltKP
        rw [if_neg (fun e => ltK_ir one (by rw [e] at hlt; exact hlt))]
        exact hlt
    · intro p hp
      rcases List.mem_append.mp hp with hp | hp
      · obtain ⟨g1, g2, g3⟩ := h2 p hp
        refine ⟨?_, g2, g3⟩
        have : K.take m = (K.take (m + 1)).take m := by rw [List.take_take, Nat.min_eq_left (by omega)]
        rw [this] at g1
        exact List.mem_of_mem_take g1
      · obtain ⟨o, ho, rfl⟩ := List.mem_map.mp hp
        obtain ⟨g1, g2⟩ := hymem o ho
        refine ⟨?_, g1, g2⟩
        apply List.mem_of_getElem? (i := m)
        rw [List.getElem?_take, if_pos (by omega)]
        exact hm
    · simp; omega
def TbR (d : D) : Prop := ∃ K T, d = tbD K T ∧ GoodT K T
theorem can_any_table : Can (F_law_any_table [.k]) TbR := by
  rw [any_table_eq, e_fnS]
  try simp
  refine Can.bnd (can_pickN (ns := [4, 6, 8, 5, 3, 2, 8, 0]) (by simp) (by simp)) ?_
  rintro _ ⟨share, _, rfl⟩
  try simp
  refine Can.bnd (can_pickN (ns := [3, 2, 4, 5, 3, 1, 6, 2, 1, 3, 2, 0]) (by simp) (by simp)) ?_
  rintro _ ⟨n, hn, rfl⟩
  have hn6 : n ≤ 6 := by simp at hn; omega
  rw [e_rng1K n (by omega), e_ret]
  refine Can.bnd (can_forL (TbI1 (share : Nat)) (List.range n) 0 _ (fun i x hx ρ hi => can_atB1 (by
    have := (List.getElem?_eq_some_iff.mp hx).1
    simp at this; omega) hi) ⟨[], .no, .no, rfl, List.Pairwise.nil, by simp, by simp⟩) ?_
  rintro _ ⟨ρ, rfl, ks, x1, x4, rfl, h1, h2, h3⟩
  have hkl : ks.length ≤ 6 := by simp at h3; omega
  try simp
  refine Can.bnd (can_sortSS (by omega) h1) ?_
  rintro _ ⟨K, rfl, hmem, hpw, hKl⟩
  try simp
  rw [e_give (xs := K.map kdD) (by rfl)]
  simp [enumD_map]
  refine Can.bnd (can_forL (enc := fun p : Kd × Nat => D.tup [.int (p.2 : Nat), kdD p.1]) (TbI2 K (share : Nat) x1) K.zipIdx 0 _ (fun i x hx ρ hi => ?_) ⟨[], x4, .no, .no, rfl, List.Pairwise.nil, by simp, by simp⟩) ?_
  · obtain ⟨k, j⟩ := x
    have hji : j = i ∧ K[i]? = some k := by
      rw [List.getElem?_zipIdx] at hx
      obtain ⟨k', hk', e⟩ := Option.map_eq_some_iff.mp hx
      injection e with e1 e2
      exact ⟨by omega, by rw [hk', e1]⟩
    obtain ⟨rfl, hk⟩ := hji
    rw [Nat.zero_add] at hi ⊢
    exact can_atB2 hpw (by omega) hk hi
  · rintro _ ⟨ρ, rfl, T, x4', x6, x7, rfl, g1, g2, g3⟩
    simp
    refine Can.ret ⟨K, T, rfl, ?_⟩
    rw [List.length_zipIdx, Nat.zero_add] at g2 g3
    exact ⟨fun k hk => h2 k ((hmem k).mp hk), hpw, fun p hp => ⟨List.mem_of_mem_take (g2 p hp).1, (g2 p hp).2⟩, g1, by omega, by omega⟩
end EC
end
/-! ## M24 -/
section
set_option Elab.async false
set_option linter.all false
set_option maxRecDepth 100000
set_option maxHeartbeats 2000000
/-! M24: drawn: a history whose transactions are kept. -/
namespace EC
open PySem PySem.Spec PyProof.Rows L2
structure GoodN (H : List Ev) (names : List Int) : Prop where
  nd : names.Nodup
  nn : ∀ t ∈ names, 0 ≤ t
  ne : names ≠ []
  len : names.length ≤ 6
  all : ∀ e ∈ H, e.name ∈ names
  lg : 2 ≤ H.length
theorem good_of_shape {K : List Kd} {dos ends : List Ev} (hl : (dos ++ ends).length ≤ 100) (h1 : ∀ e ∈ dos, ∃ t k, e = .dos t k ∧ 0 ≤ t ∧ k ∈ K) (h2 : ∀ e ∈ ends, e.isEnd = true ∧ 0 ≤ e.name ∧ DoneIn dos e.name) (h3 : (ends.map Ev.name).Nodup) : GoodH K (dos ++ ends) := by
  have noend : ∀ (xs : List Ev), (∀ e ∈ xs, e ∈ dos) → ∀ t, ¬EndIn xs t := by
    intro xs hx t h
    rcases h with h | h
    · obtain ⟨_, _, e, _⟩ := h1 _ (hx _ h); cases e
    · obtain ⟨_, _, e, _⟩ := h1 _ (hx _ h); cases e
  refine ⟨hl, fun i e he => ?_⟩
  by_cases hi : i < dos.length
  · rw [List.getElem?_append_left hi] at he
    obtain ⟨t, k, rfl, h4, h5⟩ := h1 e (List.mem_of_getElem? he)
    rw [List.take_append_of_le_length (by omega)]
    exact ⟨h4, h5, noend _ (fun e he => List.mem_of_mem_take he) t⟩
  · rw [List.getElem?_append_right (by omega)] at he
    obtain ⟨g1, g2, g3⟩ := h2 e (List.mem_of_getElem? he)
    have et : (dos ++ ends).take i = dos ++ ends.take (i - dos.length) := by
      rw [List.take_append, List.take_of_length_le (by omega)]
    rw [et]
    obtain ⟨j1, j2⟩ := List.getElem?_eq_some_iff.mp he
    have hne : ∀ x ∈ ends.take (i - dos.length), x.name ≠ e.name := by
      intro x hx hxe
      obtain ⟨m, hm⟩ := List.getElem?_of_mem hx
      rw [List.getElem?_take] at hm
      split at hm
      · rename_i hlt
        obtain ⟨m1, m2⟩ := List.getElem?_eq_some_iff.mp hm
        unfold List.Nodup at h3
        rw [List.pairwise_map] at h3
        have := List.pairwise_iff_getElem.mp h3 m (i - dos.length) m1 j1 hlt
        rw [m2, j2] at this
        exact this hxe
      · cases hm
    have hend : ∀ t, t = e.name → ¬EndIn (dos ++ ends.take (i - dos.length)) t := by
      rintro t rfl h
      rcases h with h | h
      · rcases List.mem_append.mp h with h | h
        · exact noend dos (fun e he => he) _ (.inl h)
        · exact hne _ h rfl
      · rcases List.mem_append.mp h with h | h
        · exact noend dos (fun e he => he) _ (.inr h)
        · exact hne _ h rfl
    have hdone : DoneIn (dos ++ ends.take (i - dos.length)) e.name := by
      obtain ⟨k, hk⟩ := g3
      exact ⟨k, List.mem_append_left _ hk⟩
    cases e with
    | dos t k => cases g1
    | keep t => exact ⟨g2, hdone, hend _ rfl⟩
    | drop t => exact ⟨g2, hdone, hend _ rfl⟩
def names0 : List Int := [0, 3, 5, 11, 4, 1000000]
def mix0 : Rho → M D := call 2 F_law_mixed (consK 0 (consA (asL (lstE (consL (con (.int 0)) (consL (con (.int 3)) (consL (con (.int 5)) (consL (con (.int 11)) (consL (con (.int 4)) (consL (op2 powS (con (.int 10)) (con (.int 6))) nilL)))))))) nilL))
theorem can_mix0 (ρ : Rho) : Can (mix0 (.k :: ρ)) fun d => ∃ zs : List Int, d = .lst (zs.map .int) ∧ zs.Perm names0 := by
  have hp : powS (.int 10) (.int 6) = ret (.int 1000000) := by
    show chk (CPow 10 6) _ = _
    rw [chk_of ⟨by decide, by decide, by decide⟩]
    rfl
  unfold mix0
  simp [hp]
  exact can_mixed (enc := D.int) (xs := names0) (by decide)
theorem names0_take {zs : List Int} (h : zs.Perm names0) (r : Nat) : (zs.take (2 + r)).Nodup ∧ (∀ t ∈ zs.take (2 + r), 0 ≤ t) ∧ 2 ≤ (zs.take (2 + r)).length ∧ (zs.take (2 + r)).length ≤ 6 := by
  have hn : zs.Nodup := h.nodup_iff.mpr (by decide)
  have hl : zs.length = 6 := h.length_eq
  refine ⟨hn.sublist (List.take_sublist _ _), fun t ht => ?_, by rw [List.length_take]; omega, by rw [List.length_take]; omega⟩
  have : ∀ t ∈ names0, 0 ≤ t := by decide
  exact this t (h.mem_iff.mp (List.mem_of_mem_take ht))
def KhI1 (tb : D) (names : List Int) (K : List Kd) (odd : Bool) (m : Nat) (ρ : Rho) : Prop := ∃ (H : List Ev) (x3 : Sl), ρ = [.k, .d tb, .d (intsD names), x3, .no, .o (H.map Ev.enc), .d (.bl odd), .no, .no, .no] ∧ H.length = m ∧ ∀ e ∈ H, ∃ t ∈ names, ∃ k ∈ K, e = .dos t k
def KhI2 (tb : D) (names done zs : List Int) (dos : List Ev) (x3 : Sl) (odd : Bool) (m : Nat) (ρ : Rho) : Prop := ∃ (ends : List Ev) (x7 x8 : Sl), ρ = [.k, .d tb, .d (intsD names), x3, .d (intsD done), .o ((dos ++ ends).map Ev.enc), .d (.bl odd), x7, x8, .no] ∧ ends.map Ev.name = zs.take m ∧ ∀ e ∈ ends, e.isEnd = true
def khB1 : Rho → M Res := appS 5 (tupE (consL (con (.str "do")) (consL (call 2 F_law_pick (consK 0 (consA (var 2) nilL))) (consL (call 2 F_law_pick (consK 0 (consA (op2 ixS (var 1) (con (.int 0))) nilL))) nilL))))
def khB2 : Rho → M Res := appS 5 (tupE (consL (ifE (andT (tst (var 6)) (tst (op2 eqS (var 7) (con (.int 0))))) (con (.str "drop")) (con (.str "keep"))) (consL (var 8) nilL)))
def khD : Rho → M (List D) := lcE [8] (itL (var 2)) (nameT 8) (tst (op2 neS (asL (lcE [9] (itO 5) (nameT 9) (tst (op2 eqS (op2 ixS (var 9) (con (.int 1))) (var 8))) (con (.int 1)))) (asL (lstE nilL)))) (var 8)
theorem kept_history_eq : F_law_kept_history = fnS 10 (seqS (setS 2 (asL (sliL mix0 noPart (part (op2 addS (con (.int 2)) (call 2 F_law_draw (consK 0 (consA (con (.int 5)) nilL))))))))
  (seqS (parS [5, 6] (xO (lstE nilL) (xD (op2 eqS (call 2 F_law_draw (consK 0 (consA (con (.int 3)) nilL))) (con (.int 0))) nilL)))
  (seqS (forS (rng1 (call 2 F_law_pick (consK 0 (consA (asL (lstE (consL (con (.int 5)) (consL (con (.int 8)) (consL (con (.int 11)) (consL (con (.int 15)) nilL)))))) nilL)))) (nameT 3) khB1)
  (seqS (setS 4 (asL khD))
  (seqS (forS (enumL (call 2 F_law_mixed (consK 0 (consA (var 4) nilL)))) (tupT 2 (consT (nameT 7) (consT (nameT 8) nilT))) khB2)
  (retS (tupE (consL (app (consL (varW 5) nilL) tupS) (consL (var 4) nilL))))))))) := rfl
theorem can_khB1 {K T} {names : List Int} (hn : names ≠ []) (hnl : names.length ≤ 6) (hK : K ≠ []) (hKl : K.length ≤ 100) {odd : Bool} {m : Nat} (hm : m ≤ 100) {d : D} {ρ : Rho} (h : KhI1 (tbD K T) names K odd m ρ) :
    Can (bnd (nameT 3 d ρ) khB1) fun r => ∃ ρ', r = .nx ρ' ∧ KhI1 (tbD K T) names K odd (m + 1) ρ' := by
  obtain ⟨H, x3, rfl, h1, h2⟩ := h
  unfold khB1
  simp
  rw [e_appS (xs := H.map Ev.enc) (by rfl)]
  simp [intsD]
  refine Can.bnd (can_pick (ds := names.map .int) (by simpa using hn) (by simp; omega)) ?_
  intro dt hdt
  obtain ⟨t, ht, rfl⟩ := List.mem_map.mp hdt
  simp [tbD]
  refine Can.bnd (can_pickT (ds := K.map kdD) (by simpa using hK) (by simp; omega)) ?_
  intro dk hdk
  obtain ⟨k, hk, rfl⟩ := List.mem_map.mp hdk
  try simp
  rw [chk_of (by omega)]
  refine Can.ret ⟨_, rfl, H ++ [.dos t k], _, by rw [List.map_append]; rfl, by simp [h1], ?_⟩
  intro e he
  rcases List.mem_append.mp he with he | he
  · exact h2 e he
  · rw [List.mem_singleton] at he
    exact ⟨t, ht, k, hk, he⟩
theorem ev_khD {tb : D} {names : List Int} {H : List Ev} {x3 x4 x6 x7 x8 x9 : Sl} (hnl : names.length ≤ 6) (hHl : H.length ≤ 100) :
    khD [.k, .d tb, .d (intsD names), x3, x4, .o (H.map Ev.enc), x6, x7, x8, x9] = ret ((names.filter fun t => H.any fun e => decide (e.name = t)).map .int) := by
  unfold khD
  rw [lcE_map (xs := names) (enc := .int) (fun t => H.any fun e => decide (e.name = t)) .int (by simp [intsD]) (by omega)]
  intro t _
  have e1 : ∀ y8 y9 : Sl, y8 = .d (.int t) → lcE [9] (itO 5) (nameT 9) (tst (op2 eqS (op2 ixS (var 9) (con (.int 1))) (var 8))) (con (.int 1)) [.k, .d tb, .d (intsD names), x3, x4, .o (H.map Ev.enc), x6, x7, y8, y9] = ret ((H.filter fun e => decide (e.name = t)).map fun _ => .int 1) := by
    rintro y8 y9 rfl
    rw [lcE_map (xs := H) (enc := Ev.enc) (fun e => decide (e.name = t)) (fun _ => .int 1) (e_itO (by rfl)) (by omega)]
    intro e _
    cases e with
    | dos u k => by_cases hu : u = t <;> simp [lcStep, Ev.enc, Ev.name, hu]
    | keep u => by_cases hu : u = t <;> simp [lcStep, Ev.enc, Ev.name, hu]
    | drop u => by_cases hu : u = t <;> simp [lcStep, Ev.enc, Ev.name, hu]
  have e1 := fun y9 => e1 _ y9 rfl
  have e2 := ones_nil (fun e : Ev => decide (e.name = t)) H
  generalize (H.any fun e => decide (e.name = t)) = v at e2 ⊢
  simp only [lcStep, e_nameT, e_wipe_c, e_wipe_n, List.set_cons_succ, List.set_cons_zero, e_ret, e_tst, e_op2, e_asL, e1, e_bnd, e_lstE, e_nilL, List.length_nil]
  rw [chk_of (by decide)]
  simp only [e_ret, e2, e_asB]
  cases v <;> simp
theorem can_khB2 {tb : D} {names done zs : List Int} {dos : List Ev} {x3 : Sl} {odd : Bool} {m : Nat} {t : Int} (ht : zs[m]? = some t) (hz : zs.length ≤ 6) (hdl : dos.length ≤ 100) {ρ : Rho} (h : KhI2 tb names done zs dos x3 odd m ρ) :
    Can (bnd (tupT 2 (consT (nameT 7) (consT (nameT 8) nilT)) (.tup [.int (m : Nat), .int t]) ρ) khB2) fun r => ∃ ρ', r = .nx ρ' ∧ KhI2 tb names done zs dos x3 odd (m + 1) ρ' := by
  obtain ⟨ends, x7, x8, rfl, h1, h2⟩ := h
  obtain ⟨m1, m2⟩ := List.getElem?_eq_some_iff.mp ht
  have hel : ends.length ≤ 6 := by
    have := congrArg List.length h1
    rw [List.length_map, List.length_take] at this
    omega
  unfold khB2
  simp
  rw [e_appS (xs := (dos ++ ends).map Ev.enc) (by simp)]
  have key : ∀ ev : Ev, ev.isEnd = true → ev.name = t → KhI2 tb names done zs dos x3 odd (m + 1) [.k, .d tb, .d (intsD names), x3, .d (intsD done), .o ((dos ++ ends).map Ev.enc ++ [ev.enc]), .d (.bl odd), .d (.int (m : Nat)), .d (.int t), .no] := by
    intro ev g1 g2
    refine ⟨ends ++ [ev], _, _, by rw [← List.append_assoc, List.map_append (l₁ := dos ++ ends)]; rfl, ?_, ?_⟩
    · rw [List.map_append, h1, List.take_succ, ht, List.map_cons, g2]; rfl
    · intro e he
      rcases List.mem_append.mp he with he | he
      · exact h2 e he
      · rw [List.mem_singleton] at he; rw [he]; exact g1
  have k1 := key (.keep t) rfl rfl
  have k2 := key (.drop t) rfl rfl
  simp only [Ev.enc] at k1 k2
  have hlen : ((dos ++ ends).map Ev.enc).length < 1000000 := by simp; omega
  cases odd with
  | false =>
    simp
    rw [chk_of (by simpa using hlen)]
    exact Can.ret ⟨_, rfl, by simpa using k1⟩
  | true =>
    by_cases hm0 : m = 0
    · simp [hm0]
      rw [chk_of (by simpa using hlen)]
      exact Can.ret ⟨_, rfl, by simpa [hm0] using k2⟩
    · have hm0' : ¬(m : Int) = 0 := by omega
      simp [hm0, hm0']
      rw [chk_of (by simpa using hlen)]
      exact Can.ret ⟨_, rfl, by simpa using k1⟩
def KhR (K : List Kd) (d : D) : Prop := ∃ H names, d = .tup [hD H, intsD names] ∧ GoodH K H ∧ GoodN H names
theorem can_kept_history {K T} (hT : GoodT K T) (hK : K ≠ []) : Can (F_law_kept_history [.k, .d (tbD K T)]) (KhR K) := by
  rw [kept_history_eq, e_fnS]
  simp
  refine Can.bnd (can_mix0 _) ?_
  rintro _ ⟨zs0, rfl, hz0⟩
  simp
  refine Can.bnd (can_draw (n := 5) (by decide) (by decide)) ?_
  rintro _ ⟨r, rfl, _⟩
  obtain ⟨n1, n2, n3, n4⟩ := names0_take hz0 r
  have ec : cutD (zs0.map D.int) none (some (2 + (r : Int))) = (zs0.take (2 + r)).map .int := by
    rw [show (2 + (r : Int)) = ((2 + r : Nat) : Int) by omega, cut_take, List.map_take]
  generalize hnm : zs0.take (2 + r) = names at *
  simp [ec]
  refine Can.bnd (can_draw (n := 3) (by decide) (by decide)) ?_
  rintro _ ⟨q, rfl, _⟩
  simp
  refine Can.bnd (can_pickN (ns := [5, 8, 11, 15]) (by simp) (by simp)) ?_
  rintro _ ⟨n, hn, rfl⟩
  have hnn : 5 ≤ n ∧ n ≤ 15 := by simp at hn; omega
  rw [e_rng1K n (by omega), e_ret]
  have hne : names ≠ [] := by intro e; rw [e] at n3; simp at n3
  refine Can.bnd (can_forL (KhI1 (tbD K T) names K (decide (q = 0))) (List.range n) 0 _ (fun i x hx ρ hi => can_khB1 hne n4 hK hT.kl (by
    have := (List.getElem?_eq_some_iff.mp hx).1
    simp at this; omega) hi) ⟨[], .no, rfl, rfl, by simp⟩) ?_
  rintro _ ⟨ρ, rfl, H, x3, rfl, h1, h2⟩
  have hHl : H.length = n := by simpa using h1
  simp [ev_khD n4 (show H.length ≤ 100 by omega)]
  generalize hdn : (names.filter fun t => H.any fun e => decide (e.name = t)) = done
  have d1 : done.Nodup := by rw [← hdn]; exact n1.filter _
  have d2 : done.length ≤ 6 := by rw [← hdn]; exact Nat.le_trans (List.length_filter_le _ _) n4
  have d3 : ∀ t, t ∈ done ↔ t ∈ names ∧ ∃ e ∈ H, e.name = t := by
    intro t
    rw [← hdn, List.mem_filter, List.any_eq_true]
    constructor
    · rintro ⟨a, e, b, c⟩; exact ⟨a, e, b, of_decide_eq_true c⟩
    · rintro ⟨a, e, b, c⟩; exact ⟨a, e, b, decide_eq_true c⟩
  refine Can.bnd (can_mixed (enc := D.int) (xs := done) (by omega)) ?_
  rintro _ ⟨zs, rfl, hz⟩
  have hzl := hz.length_eq
  simp [enumD_map]
  refine Can.bnd (can_forL (enc := fun p : Int × Nat => D.tup [.int (p.2 : Nat), .int p.1]) (KhI2 (tbD K T) names done zs H x3 (decide (q = 0))) zs.zipIdx 0 _ (fun i x hx ρ hi => ?_) ⟨[], .no, .no, by simp [intsD], by simp, by simp⟩) ?_
  · obtain ⟨t, j⟩ := x
    have hji : j = i ∧ zs[i]? = some t := by
      rw [List.getElem?_zipIdx] at hx
      obtain ⟨k', hk', e⟩ := Option.map_eq_some_iff.mp hx
      injection e with e1 e2
      exact ⟨by omega, by rw [hk', e1]⟩
    obtain ⟨rfl, hk⟩ := hji
    rw [Nat.zero_add] at hi ⊢
    exact can_khB2 hk (by omega) (by omega) hi
  · rintro _ ⟨ρ, rfl, ends, x7, x8, rfl, g1, g2⟩
    rw [List.length_zipIdx, Nat.zero_add, List.take_length] at g1
    simp
    have hel : ends.length ≤ 6 := by
      have := congrArg List.length g1
      rw [List.length_map] at this
      omega
    have hendn : ∀ e ∈ ends, e.name ∈ done := fun e he => hz.mem_iff.mp (g1 ▸ List.mem_map.mpr ⟨e, he, rfl⟩)
    refine Can.ret ⟨H ++ ends, done, by simp [hD, intsD], ?_, ?_⟩
    · apply good_of_shape
      · simp; omega
      · intro e he
        obtain ⟨t, ht, k, hk, rfl⟩ := h2 e he
        exact ⟨t, k, rfl, n2 t ht, hk⟩
      · intro e he
        obtain ⟨a, e', b, c⟩ := (d3 _).mp (hendn e he)
        refine ⟨g2 e he, n2 _ a, ?_⟩
        obtain ⟨t, ht, k, hk, rfl⟩ := h2 e' b
        exact ⟨k, by rw [← c]; exact b⟩
      · rw [g1]; exact hz.nodup_iff.mpr d1
    · refine ⟨d1, fun t ht => n2 t ((d3 t).mp ht).1, ?_, d2, ?_, ?_⟩
      · intro he
        cases hH : H with
        | nil => rw [hH] at hHl; simp at hHl; omega
        | cons e es =>
          have hm : e ∈ H := by rw [hH]; simp
          obtain ⟨t, ht, k, hk, rfl⟩ := h2 e hm
          have : t ∈ done := (d3 t).mpr ⟨ht, _, hm, rfl⟩
          rw [he] at this; cases this
      · intro e he
        rcases List.mem_append.mp he with he | he
        · obtain ⟨t, ht, k, hk, rfl⟩ := h2 e he
          exact (d3 t).mpr ⟨ht, _, he, rfl⟩
        · exact hendn e he
      · rw [List.length_append]; omega
end EC
end
/-! ## M25 -/
section
set_option Elab.async false
set_option linter.all false
set_option maxRecDepth 100000
set_option maxHeartbeats 2000000
/-! M25: drawn: transactions that go round in one direction. -/
namespace EC
open PySem PySem.Spec PyProof.Rows L2
def lcK (vs : List Nat) (t : D → Rho → M Rho) (c : Rho → M Bool) (f : Rho → M D) (ρ : Rho) (ds : List D) : M (List D) := chk (ds.length ≤ 1000000) (lcL t c f ds (wipeR ρ vs))
theorem e_lcE (vs it t c f) (ρ : Rho) : lcE vs it t c f ρ = bnd (it ρ) (lcK vs t c f ρ) := rfl
theorem lcK_mapY {α : Type} {vs} {t : D → Rho → M Rho} {f : Rho → M D} {ρ : Rho} {enc : α → D} {xs : List α} (g : α → D) (hl : xs.length ≤ 1000000)
    (h : ∀ x ∈ xs, lcStep t yes f (wipeR ρ vs) (enc x) = ret (some (g x))) : lcK vs t yes f ρ (xs.map enc) = ret (xs.map g) := by
  have := lcE_mapY (vs := vs) (it := fun _ => ret (xs.map enc)) (t := t) (f := f) (ρ := ρ) g rfl hl h
  rw [e_lcE, e_ret] at this
  exact this
def K6 : List Kd := [⟨"a", by decide +kernel⟩, ⟨"b", by decide +kernel⟩, ⟨"get", by decide +kernel⟩, ⟨"set", by decide +kernel⟩, ⟨"up", by decide +kernel⟩, ⟨"zz", by decide +kernel⟩]
def T6 : List (Kd × Kd) := K6.map fun k => (k, k)
theorem K6_pw : K6.Pairwise ltK := by
  show K6.Pairwise fun a b => a.1.cps.toList < b.1.cps.toList
  decide +kernel
theorem K6_nm : ∀ k ∈ K6, NmOk k.1 := by
  show ∀ k ∈ K6, 1 ≤ k.1.length ∧ k.1.length ≤ 10 ∧ ∀ c ∈ k.1.cps.toList, c ∈ ("abcdefghijklmnopqrstuvwxyz" : Str).cps.toList
  decide +kernel
theorem good6 : GoodT K6 T6 := by
  refine ⟨K6_nm, K6_pw, ?_, ?_, by decide, by decide⟩
  · intro p hp
    obtain ⟨k, hk, rfl⟩ := List.mem_map.mp hp
    exact ⟨hk, hk, ltK_ir k⟩
  · unfold T6
    rw [List.pairwise_map]
    refine K6_pw.imp ?_
    intro a b hab
    unfold ltKP
    rw [if_neg (fun e => ltK_ir b (by
      have e : a = b := e
      rw [e] at hab; exact hab))]
    exact hab
def rowE (r : List Ev) : D := .lst (r.map Ev.enc)
def kinds6 : D := .lst (K6.map kdD)
def OwI (names : List Int) (many : Nat) (m : Nat) (ρ : Rho) : Prop := ∃ (rows : List (List Ev)) (x2 : Sl), ρ = [.k, .d (intsD names), x2, .no, .d kinds6, .d (.int (many : Nat)), .o (rows.map rowE), .o [], .no, .no] ∧ rows.length = m ∧ (∀ r ∈ rows, ∀ e ∈ r, ∃ t ∈ names, ∃ k ∈ K6, e = .dos t k) ∧ (∀ (i : Nat) (t : Int), i < m → names[i]? = some t → ∃ r ∈ rows, ∃ e ∈ r, e.name = t) ∧ ∀ r ∈ rows, r.length = 2
def owC : Rho → M Res := appS 6 (asL (lstE (consL (tupE (consL (con (.str "do")) (consL (op2 ixS (var 1) (var 2)) (consL (op2 ixS (var 4) (var 2)) nilL)))) (consL (tupE (consL (con (.str "do")) (consL (op2 ixS (var 1) (op2 modS (app (consL (op2 addS (var 2) (con (.int 1))) nilL) intS) (var 5))) (consL (op2 ixS (var 4) (var 2)) nilL)))) nilL))))
theorem one_way_eq : F_law_one_way = fnS 10 (seqS (parS [4, 5, 6, 7] (xD (asL (lstE (consL (con (.str "a")) (consL (con (.str "b")) (consL (con (.str "get")) (consL (con (.str "set")) (consL (con (.str "up")) (consL (con (.str "zz")) nilL)))))))) (xD (op2 addS (con (.int 3)) (call 2 F_law_draw (consK 0 (consA (con (.int 4)) nilL)))) (xO (lstE nilL) (xO (lstE nilL) nilL)))))
  (seqS (setS 1 (asL (sliL mix0 noPart (part (var 5)))))
  (seqS (forS (rng1 (var 5)) (nameT 2) owC)
  (seqS (give 6 (forS (itL (call 2 F_law_mixed (consK 0 (consA (var 6) nilL)))) (nameT 3)
  (extS 7 (var 3))))
  (retS (tupE (consL (tupE (consL (app (consL (var 4) nilL) tupS) (consL (app (consL (asL (lcE [8] (itL (var 4)) (nameT 8) yes (tupE (consL (var 8) (consL (var 8) nilL))))) nilL) tupS) nilL))) (consL (app (consL (asL (catE (varW 7) (asL (lcE [9] (itL (call 2 F_law_mixed (consK 0 (consA (var 1) nilL)))) (nameT 9) yes (tupE (consL (con (.str "keep")) (consL (var 9) nilL))))))) nilL) tupS) (consL (var 1) nilL))))))))) := rfl
theorem fmod_nat (i n : Nat) : ((i : Int) + 1).fmod (n : Int) = (((i + 1) % n : Nat) : Int) := by
  rw [Int.fmod_eq_emod_of_nonneg _ (by omega), show ((i : Int) + 1) = ((i + 1 : Nat) : Int) by omega]
  rfl
theorem can_owC {names : List Int} {many : Nat} (hn : names.length = many) (hm6 : many ≤ 6) {m : Nat} (hm : m < many) {ρ : Rho} (h : OwI names many m ρ) :
    Can (bnd (nameT 2 (.int (m : Nat)) ρ) owC) fun r => ∃ ρ', r = .nx ρ' ∧ OwI names many (m + 1) ρ' := by
  obtain ⟨rows, x2, rfl, h1, h2, h3, h4⟩ := h
  have hm1 : m < names.length := by omega
  have hmod : (m + 1) % many < names.length := by rw [hn]; exact Nat.mod_lt _ (by omega)
  have hk : m < K6.length := by show m < 6; omega
  have i1 : ixS (intsD names) (.int (m : Nat)) = ret (.int names[m]) := by
    unfold intsD
    rw [ix_nat (by simpa using hm1)]
    simp
  have i2 : ixS (intsD names) (.int (((m + 1) % many : Nat) : Int)) = ret (.int names[(m + 1) % many]) := by
    unfold intsD
    rw [ix_nat (by simpa using hmod)]
    simp
  have i3 : ixS kinds6 (.int (m : Nat)) = ret (kdD K6[m]) := by
    unfold kinds6
    rw [ix_nat (by simpa using hk)]
    simp
  unfold owC
  simp
  rw [e_appS (xs := rows.map rowE) (by rfl)]
  have hc : ((many : Nat) : Int) ≠ 0 := by omega
  have hmod2 : modS (.int ((m : Int) + 1)) (.int (many : Nat)) = ret (.int (((m + 1) % many : Nat) : Int)) := by
    show chk _ _ = _
    rw [chk_of hc]
    exact congrArg (fun z => ret (D.int z)) (fmod_nat m many)
  simp only [e_asL, e_lstE, e_consL, e_tupE, e_con, e_op2, v_s, v_0, e_ret, e_bnd, e_nilL, i1, i3, e_app, e_one1, e_iop0, e_intD, hmod2, i2, List.length_cons, List.length_nil]
  rw [chk_of (by decide)]
  simp only [e_ret]
  rw [chk_of (by decide)]
  simp only [e_ret]
  rw [chk_of (by decide)]
  simp only [e_ret, List.length_map]
  rw [chk_of (by omega)]
  refine Can.ret ⟨_, rfl, rows ++ [[.dos names[m] K6[m], .dos names[(m + 1) % many] K6[m]]], _, by rw [List.map_append]; rfl, by simp [h1], ?_, ?_, ?_⟩
  · intro r hr e he
    rcases List.mem_append.mp hr with hr | hr
    · exact h2 r hr e he
    · rw [List.mem_singleton] at hr
      subst hr
      rcases List.mem_cons.mp he with rfl | he
      · exact ⟨_, List.getElem_mem _, _, List.getElem_mem _, rfl⟩
      · rw [List.mem_singleton] at he
        subst he
        exact ⟨_, List.getElem_mem _, _, List.getElem_mem _, rfl⟩
  · intro i t hi ht
    by_cases him : i < m
    · obtain ⟨r, hr, e, he, h5⟩ := h3 i t him ht
      exact ⟨r, List.mem_append_left _ hr, e, he, h5⟩
    · have : i = m := by omega
      subst this
      refine ⟨_, List.mem_append_right _ (List.mem_singleton.mpr rfl), .dos names[i] K6[i], by simp, ?_⟩
      rw [List.getElem?_eq_getElem hm1] at ht
      injection ht
  · intro r hr
    rcases List.mem_append.mp hr with hr | hr
    · exact h4 r hr
    · rw [List.mem_singleton] at hr; rw [hr]; rfl
def OwR (d : D) : Prop := ∃ K T H names, d = .tup [tbD K T, hD H, intsD names] ∧ GoodT K T ∧ GoodH K H ∧ GoodN H names
theorem flat_len : ∀ {zs : List (List Ev)}, (∀ r ∈ zs, r.length = 2) → zs.flatten.length = 2 * zs.length
  | [], _ => rfl
  | z :: zs, h => by
    rw [List.flatten_cons, List.length_append, h z (by simp), flat_len fun r hr => h r (List.mem_cons_of_mem _ hr), List.length_cons]; omega
theorem sum_len : ∀ {zs : List (List Ev)}, (∀ r ∈ zs, r.length = 2) → (zs.map (List.length ∘ List.map Ev.enc)).sum = 2 * zs.length
  | [], _ => rfl
  | z :: zs, h => by
    have := h z (by simp)
    rw [List.map_cons, List.sum_cons, sum_len fun r hr => h r (List.mem_cons_of_mem _ hr), List.length_cons]
    simp [this]; omega
theorem can_one_way : Can (F_law_one_way [.k]) OwR := by
  rw [one_way_eq, e_fnS]
  simp
  refine Can.bnd (can_draw (n := 4) (by decide) (by decide)) ?_
  rintro _ ⟨r, rfl, hr⟩
  simp
  refine Can.bnd (can_mix0 _) ?_
  rintro _ ⟨zs0, rfl, hz0⟩
  obtain ⟨n1, n2, n3, n4⟩ := names0_take hz0 (1 + r)
  have ec : cutD (zs0.map D.int) none (some (3 + (r : Int))) = (zs0.take (2 + (1 + r))).map .int := by
    rw [show (3 + (r : Int)) = ((2 + (1 + r) : Nat) : Int) by omega, cut_take, List.map_take]
  have hz0l : zs0.length = 6 := hz0.length_eq
  have hnl : (zs0.take (2 + (1 + r))).length = 3 + r := by rw [List.length_take]; omega
  generalize hnm : zs0.take (2 + (1 + r)) = names at *
  simp [ec]
  have e3 : (3 + (r : Int)) = ((3 + r : Nat) : Int) := by omega
  rw [e3]
  have hm36 : 3 ≤ 3 + r ∧ 3 + r ≤ 6 := by omega
  generalize hmany : 3 + r = many at *
  rw [e_rng1K many (by omega), e_ret]
  refine Can.bnd (can_forL (OwI names many) (List.range many) 0 _ (fun i x hx ρ hi => ?_) ⟨[], .no, rfl, rfl, by simp, by intro i t h; omega, by simp⟩) ?_
  · obtain ⟨g1, g2⟩ := List.getElem?_eq_some_iff.mp hx
    have g3 : x = i := by rw [← g2]; simp
    have g4 : i < many := by simpa using g1
    subst g3
    rw [Nat.zero_add] at hi ⊢
    exact can_owC hnl (by omega) g4 hi
  · rintro _ ⟨ρ, rfl, rows, x2, rfl, h1, h2, h3, h4⟩
    have hrl : rows.length = many := by simpa using h1
    rw [List.length_range, Nat.zero_add] at h3
    simp
    rw [e_give (xs := rows.map rowE) (by rfl)]
    simp
    refine Can.bnd (can_mixed (enc := rowE) (xs := rows) (by omega)) ?_
    rintro _ ⟨zs, rfl, hz⟩
    have hzl := hz.length_eq
    simp
    obtain ⟨a', b', hf⟩ := fold_app (fun z : List Ev => z.map Ev.enc) zs [] .no .no (fun z => Sl.d (rowE z)) (fun z => .no)
    have hz4 : ∀ z ∈ zs, z.length = 2 := fun z hz' => h4 z (hz.mem_iff.mp hz')
    rw [forL_fold rowE (fun s : List D × Sl × Sl => [.k, .d (intsD names), x2, s.2.1, .d kinds6, .d (.int (many : Nat)), .d (.lst (rows.map rowE)), .o s.1, .no, .no])
      (fun s z => (s.1 ++ z.map Ev.enc, Sl.d (rowE z), .no)) (fun n s => s.1.length ≤ n * 2) zs 0 ([], .no, .no) (by simp), hf]
    · have hfl := flat_len hz4
      have he7 : ([] ++ zs.flatMap fun z => z.map Ev.enc) = zs.flatten.map Ev.enc := by
        rw [List.nil_append, List.map_flatten, List.flatMap_def]
      have l8 : ∀ (x1 x2 x3 x5 x6 x7 x8 x9 : Sl), lcE [8] (itL (var 4)) (nameT 8) yes (tupE (consL (var 8) (consL (var 8) nilL))) [.k, x1, x2, x3, .d kinds6, x5, x6, x7, x8, x9] = ret (T6.map kpD) := by
        intro x1 x2 x3 x5 x6 x7 x8 x9
        rw [lcE_mapY (xs := K6) (enc := kdD) (fun k => kpD (k, k)) (by simp [kinds6]) (by decide)]
        · unfold T6; rw [List.map_map]; rfl
        · intro k _
          simp [lcStep, kdD, kpD]
      have ht4 : tupD kinds6 = ret (.tup (K6.map kdD)) := rfl
      simp only [he7]
      simp [l8, ht4, e_lcE, intsD]
      refine Can.bnd (can_mixed (enc := D.int) (xs := names) (by omega)) ?_
      rintro _ ⟨zs2, rfl, hz2⟩
      have hz2l := hz2.length_eq
      simp
      rw [lcK_mapY (fun t => Ev.enc (.keep t)) (by omega) (by intro t _; simp [lcStep, Ev.enc])]
      simp [e_catS]
      rw [chk_of (by
        rw [sum_len hz4]
        omega)]
      simp
      refine Can.ret ⟨K6, T6, zs.flatten ++ zs2.map .keep, names, ?_, good6, ?_, ?_⟩
      · simp [tbD, hD, intsD]
      · have hdos : ∀ e ∈ zs.flatten, ∃ t ∈ names, ∃ k ∈ K6, e = .dos t k := by
          intro e he
          obtain ⟨z, hzz, hez⟩ := List.mem_flatten.mp he
          exact h2 z (hz.mem_iff.mp hzz) e hez
        apply good_of_shape
        · rw [List.length_append, hfl, List.length_map]; omega
        · intro e he
          obtain ⟨t, ht, k, hk, rfl⟩ := hdos e he
          exact ⟨t, k, rfl, n2 t ht, hk⟩
        · intro e he
          obtain ⟨t, ht, rfl⟩ := List.mem_map.mp he
          have htn := hz2.mem_iff.mp ht
          refine ⟨rfl, n2 t htn, ?_⟩
          obtain ⟨i, hi⟩ := List.getElem?_of_mem htn
          obtain ⟨z, hzz, e, hez, hen⟩ := h3 i t (by have := (List.getElem?_eq_some_iff.mp hi).1; omega) hi
          obtain ⟨t', ht', k, hk, rfl⟩ := h2 z hzz e hez
          refine ⟨k, List.mem_flatten.mpr ⟨z, hz.mem_iff.mpr hzz, ?_⟩⟩
          have : t' = t := hen
          rw [← show t' = (Ev.keep t).name from this]
          exact hez
        · rw [List.map_map]
          have : (Ev.name ∘ Ev.keep) = id := rfl
          rw [this, List.map_id]
          exact hz2.nodup_iff.mpr n1
      · refine ⟨n1, n2, by intro e; rw [e] at n3; simp at n3, n4, ?_, by rw [List.length_append, List.length_map]; omega⟩
        intro e he
        rcases List.mem_append.mp he with he | he
        · obtain ⟨z, hzz, hez⟩ := List.mem_flatten.mp he
          obtain ⟨t, ht, k, hk, rfl⟩ := h2 z (hz.mem_iff.mp hzz) e hez
          exact ht
        · obtain ⟨t, ht, rfl⟩ := List.mem_map.mp he
          exact hz2.mem_iff.mp ht
    · intro z hzz m s hm hi
      obtain ⟨acc, x3, x4⟩ := s
      have hi : acc.length ≤ m * 2 := hi
      have hzl2 := hz4 z hzz
      simp
      rw [e_extS (xs := acc) (by rfl)]
      simp [rowE]
      exact ⟨chk_of (by omega) _, by omega⟩
end EC
end
/-! ## M26 -/
section
set_option Elab.async false
set_option linter.all false
set_option maxRecDepth 100000
set_option maxHeartbeats 2000000
/-! M26: the law, step by step (first half). -/
namespace EC
open PySem PySem.Spec PyProof.Rows L2
def lw1 : Rho → M Res := (setS 3 (call 1 F_law_any_table (consK 1 nilL)))
def lw2 : Rho → M Res := (setS 3 (ifE (tst (op2 neS (op2 ixS (var 3) (con (.int 0))) (tupE nilL))) (var 3) (tupE (consL (tupE (consL (con (.str "a")) nilL)) (consL (tupE (consL (tupE (consL (con (.str "a")) (consL (con (.str "a")) nilL))) nilL)) nilL)))))
def lw3 : Rho → M Res := (asgS (call 2 F_law_kept_history (consK 1 (consA (var 3) nilL))) (tupT 2 (consT (nameT 12) (consT (nameT 13) nilT))))
def lw4 : Rho → M Res := (ifS (andT (tst (op2 eqS (var 2) (con (.int 1)))) (tst (op2 eqS (call 2 F_law_draw (consK 1 (consA (con (.int 2)) nilL))) (con (.int 0))))) (asgS (call 1 F_law_one_way (consK 1 nilL)) (tupT 3 (consT (nameT 3) (consT (nameT 12) (consT (nameT 13) nilT))))) skip)
def lw5 : Rho → M Res := (setS 4 (call 2 F_law_read_book (consA (var 3) (consA (var 12) nilL))))
def lw6 : Rho → M Res := (setS 5 (ifE (tst (op2 gtS (call 2 F_law_draw (consK 1 (consA (con (.int 3)) nilL))) (con (.int 0)))) (app (consL (var 12) nilL) lenS) (op2 subS (app (consL (var 12) nilL) lenS) (call 2 F_law_draw (consK 1 (consA (con (.int 3)) nilL))))))
def lw7 : Rho → M Res := (asgS (call 2 F_law_cut_word (consA (var 12) (consA (var 5) nilL))) (tupT 2 (consT (nameT 14) (consT (nameT 15) nilT))))
def lw8 : Rho → M Res := (setS 6 (call 3 F_law_own_rings (consA (var 4) (consA (var 12) (consA (var 5) nilL)))))
def lw9 : Rho → M Res := (setO 7 (lcE [17] (itL (asL (sliL (call 2 F_law_mixed (consK 1 (consA (var 6) nilL))) noPart (part (con (.int 3)))))) (nameT 17) yes (op2 ixS (var 17) (con (.int 1)))))
def lw10 : Rho → M Res := (forS (rng1 (con (.int 6))) (nameT 8) (appS 7 (app (consL (asL (sliL (call 2 F_law_mixed (consK 1 (consA (asL (catE (var 13) (asL (lstE (consL (con (.int 99)) nilL))))) nilL))) noPart (part (op2 addS (con (.int 2)) (call 2 F_law_draw (consK 1 (consA (con (.int 2)) nilL))))))) nilL) tupS)))
def lw11 : Rho → M Res := (extS 7 (asL (catE (asL (lstE (consL (tupE (consL (op2 ixS (var 13) (con (.int 0))) nilL)) (consL (tupE nilL) (consL (tupE (consL (op2 ixS (var 13) (con (.int 0))) (consL (op2 ixS (var 13) (negE (con (.int 1)))) (consL (op2 ixS (var 13) (con (.int 0))) nilL)))) nilL))))) (asL (lcE [9] (itL (asL (sliL (varW 7) noPart (part (con (.int 1)))))) (nameT 9) yes (op2 catT (var 9) (sliT (var 9) noPart (part (con (.int 1))))))))))
def lw12 : Rho → M Res := (extS 7 (asL (lstE (consL (app (consL (var 13) nilL) tupS) (consL (app (consL (asL (revL (var 13))) nilL) tupS) nilL)))))
def lw13 : Rho → M Res := (extS 7 (asL (lcE [17] (itL (asL (sliL (var 6) noPart (part (con (.int 1)))))) (nameT 17) yes (op2 repT (op2 ixS (var 17) (con (.int 1))) (con (.int 2))))))
def lw14 : Rho → M Res := (give 7 (forS (itL (var 7)) (nameT 9) (seqS (setS 16 (call 4 F_law_is_ring (consA (var 4) (consA (var 5) (consA (var 15) (consA (tupE (consL (con (.str "ring")) (consL (var 9) nilL))) nilL)))))) (seqS (ifS (tst (op2 eqS (var 2) (con (.int 0)))) (setS 11 (call 4 F_cut_holds (consA (var 3) (consA (var 12) (consA (var 5) (consA (tupE (consL (con (.str "ring")) (consL (var 9) nilL))) nilL)))))) (setS 11 (callR 4 F_cut_holds (consA (tupE (consL (con (.str "ring")) (consL (var 9) nilL))) (consA (var 5) (consA (var 12) (consA (var 3) nilL))))))) (ifS (tst (op2 neS (app (consL (var 11) nilL) reprS) (app (consL (var 16) nilL) reprS))) (retS (con (.bl false))) skip)))))
def lw15 : Rho → M Res := (setS 10 (call 3 F_law_right_order (consA (var 4) (consA (var 12) (consA (var 5) nilL)))))
def lw16 : Rho → M Res := (ifS (andT (tst (op2 isNS (var 10) (con .non))) (notT (tst (call 4 F_law_is_against (consA (var 4) (consA (var 12) (consA (var 5) (consA (call 3 F_judge_cut (consA (var 3) (consA (var 12) (consA (var 5) nilL)))) nilL)))))))) (retS (con (.bl false))) skip)
def lw17 : Rho → M Res := (setS 11 (ifE (tst (op2 eqS (var 2) (con (.int 0)))) (call 3 F_is_right_at (consA (var 3) (consA (var 12) (consA (var 5) nilL)))) (callR 3 F_is_right_at (consA (var 5) (consA (var 12) (consA (var 3) nilL))))))
def lw18 : Rho → M Res := (ifS (orT (andT (tst (op2 neS (var 6) (asL (lstE nilL)))) (tst (op2 isNotB (var 11) (con (.bl false))))) (andT (tst (op2 eqS (app (consL (var 15) nilL) lenS) (app (consL (var 13) nilL) lenS))) (tst (op2 neS (app (consL (var 11) nilL) reprS) (app (consL (op2 notNS (var 10) (con .non)) nilL) reprS))))) (retS (con (.bl false))) skip)
theorem law_eq : F_law = seqS (forS (rng1 (con (.int 2))) (nameT 2) (seqS lw1 (seqS lw2 (seqS lw3 (seqS lw4 (seqS lw5 (seqS lw6 (seqS lw7 (seqS lw8 (seqS lw9 (seqS lw10 (seqS lw11 (seqS lw12 (seqS lw13 (seqS lw14 (seqS lw15 (seqS lw16 (seqS lw17 (lw18))))))))))))))))))) (retS (con (.bl true))) := rfl
abbrev lS (x2 x3 x4 x5 x6 x7 x8 x9 x10 x11 x12 x13 x14 x15 x16 x17 : Sl) : Rho := [.no, .k, x2, x3, x4, x5, x6, x7, x8, x9, x10, x11, x12, x13, x14, x15, x16, x17]
theorem can_seq {s t : Rho → M Res} {ρ : Rho} {J : Rho → Prop} {R : Res → Prop} (h : Can (s ρ) fun r => ∃ ρ', r = .nx ρ' ∧ J ρ') (h2 : ∀ ρ', J ρ' → Can (t ρ') R) : Can (seqS s t ρ) R := by
  rw [e_seqS]
  refine Can.bnd h ?_
  rintro _ ⟨ρ', rfl, hj⟩
  exact h2 ρ' hj
/-! the judge, whole -/
theorem fault_non {H T p d} (h : Fault H T p d) : d.isNon = true ↔ (Cau H T p = [] ∧ ¬HasRing (Eg H T p) (keptI (H.take p))) := by
  cases h with
  | none h1 h2 => exact ⟨fun _ => ⟨h1, h2⟩, fun _ => rfl⟩
  | caught i j h1 => exact ⟨fun h => (by cases h), fun h => by rw [h.1] at h1; cases h1⟩
  | ring row h1 _ _ _ _ => exact ⟨fun h => (by cases h), fun h => absurd h1 h.2⟩
def JdR (H : List Ev) (T : List (Kd × Kd)) (p : Nat) (d : D) : Prop := Fault H T p d ∧ d ≠ .non
theorem can_judge {K T} {H : List Ev} {p : Nat} (hT : GoodT K T) (hH : GoodH K H) (hp : p ≤ H.length) (hk : (keptI (H.take p)).length < 64) (hn : ¬(Cau H T p = [] ∧ ¬HasRing (Eg H T p) (keptI (H.take p)))) :
    Can (F_judge_cut [.d (tbD K T), .d (hD H), .d (.int (p : Nat))]) (JdR H T p) := by
  unfold F_judge_cut
  rw [e_fnS]
  simp [ev_need_cut hT hH hp]
  unfold F_paper_at
  rw [e_fnS]
  simp
  refine Can.bnd (can_fault_at hT.tl hH hk) ?_
  intro d hd
  have hdn : d.isNon = false := by
    cases h : d.isNon with
    | false => rfl
    | true => exact absurd ((fault_non hd).mp h) hn
  simp [hdn]
  exact Can.ret ⟨hd, fun e => by rw [e] at hdn; cases hdn⟩
def IrR (H : List Ev) (T : List (Kd × Kd)) (p : Nat) (d : D) : Prop := ∃ v : Bool, d = .bl v ∧ (v = true ↔ (Cau H T p = [] ∧ ¬HasRing (Eg H T p) (keptI (H.take p))))
theorem can_is_right {K T} {H : List Ev} {p : Nat} (hT : GoodT K T) (hH : GoodH K H) (hp : p ≤ H.length) (hk : (keptI (H.take p)).length < 64) :
    Can (F_is_right_at [.d (tbD K T), .d (hD H), .d (.int (p : Nat))]) (IrR H T p) := by
  unfold F_is_right_at
  rw [e_fnS]
  simp [ev_need_cut hT hH hp]
  refine Can.bnd (can_fault_at hT.tl hH hk) ?_
  intro d hd
  try simp
  exact Can.ret ⟨_, rfl, fault_non hd⟩
/-! the steps -/
section
variable {x2 x3 x4 x5 x6 x7 x8 x9 x10 x11 x12 x13 x14 x15 x16 x17 : Sl}
theorem can_lw1 : Can (lw1 (lS x2 x3 x4 x5 x6 x7 x8 x9 x10 x11 x12 x13 x14 x15 x16 x17)) fun r => ∃ ρ', r = .nx ρ' ∧ ∃ K T, ρ' = lS x2 (.d (tbD K T)) x4 x5 x6 x7 x8 x9 x10 x11 x12 x13 x14 x15 x16 x17 ∧ GoodT K T := by
  unfold lw1
  simp only [e_setS, e_call, e_consK_1, e_nilL, e_ret, List.length_cons, List.length_nil, e_bnd]
  rw [chk_of (by decide)]
  refine Can.bnd can_any_table ?_
  rintro _ ⟨K, T, rfl, h⟩
  exact Can.ret ⟨_, rfl, K, T, rfl, h⟩
def K1 : List Kd := [⟨"a", by decide +kernel⟩]
def T1 : List (Kd × Kd) := K1.map fun k => (k, k)
theorem good1 : GoodT K1 T1 := by
  have nm : ∀ k ∈ K1, NmOk k.1 := by
    show ∀ k ∈ K1, 1 ≤ k.1.length ∧ k.1.length ≤ 10 ∧ ∀ c ∈ k.1.cps.toList, c ∈ ("abcdefghijklmnopqrstuvwxyz" : Str).cps.toList
    decide +kernel
  refine ⟨nm, by unfold K1; simp, ?_, by unfold T1 K1; simp, by decide, by decide⟩
  intro p hp
  obtain ⟨k, hk, rfl⟩ := List.mem_map.mp hp
  exact ⟨hk, hk, ltK_ir k⟩
theorem can_lw2 {K T} (hT : GoodT K T) : Can (lw2 (lS x2 (.d (tbD K T)) x4 x5 x6 x7 x8 x9 x10 x11 x12 x13 x14 x15 x16 x17)) fun r => ∃ ρ', r = .nx ρ' ∧ ∃ K' T', ρ' = lS x2 (.d (tbD K' T')) x4 x5 x6 x7 x8 x9 x10 x11 x12 x13 x14 x15 x16 x17 ∧ GoodT K' T' ∧ K' ≠ [] := by
  have hk0 : ixS (tbD K T) (.int 0) = ret (.tup (K.map kdD)) := by unfold tbD; simp
  have hne : neS (.tup (K.map kdD)) (.tup []) = ret (.bl (!K.isEmpty)) := by
    rw [neS_ev (lv_kinds K) (by simp), q_tup, q_empty, List.isEmpty_map]
  cases hK : K with
  | nil =>
    rw [hK] at hne hk0
    refine Can.eq (a := .nx (lS x2 (.d (tbD K1 T1)) x4 x5 x6 x7 x8 x9 x10 x11 x12 x13 x14 x15 x16 x17)) ?_ ⟨_, rfl, K1, T1, rfl, good1, by unfold K1; simp⟩
    unfold lw2
    simp [hk0]
    rfl
  | cons k ks =>
    rw [hK] at hne hk0 hT
    refine Can.eq (a := .nx (lS x2 (.d (tbD (k :: ks) T)) x4 x5 x6 x7 x8 x9 x10 x11 x12 x13 x14 x15 x16 x17)) ?_ ⟨_, rfl, k :: ks, T, rfl, hT, by simp⟩
    unfold lw2
    simp at hne hk0
    simp [hk0, hne]
theorem can_lw3 {K T} (hT : GoodT K T) (hK : K ≠ []) : Can (lw3 (lS x2 (.d (tbD K T)) x4 x5 x6 x7 x8 x9 x10 x11 x12 x13 x14 x15 x16 x17)) fun r => ∃ ρ', r = .nx ρ' ∧ ∃ H names, ρ' = lS x2 (.d (tbD K T)) x4 x5 x6 x7 x8 x9 x10 x11 (.d (hD H)) (.d (intsD names)) x14 x15 x16 x17 ∧ GoodH K H ∧ GoodN H names := by
  unfold lw3
  simp only [e_asgS, e_call, e_consK_1, e_consA, v_s, v_0, e_nilL, e_ret, List.length_cons, List.length_nil, e_bnd]
  rw [chk_of (by decide)]
  refine Can.bnd (can_kept_history hT hK) ?_
  rintro _ ⟨H, names, rfl, h1, h2⟩
  simp only [e_tupT, List.length_cons, List.length_nil]
  rw [chk_of (by decide)]
  exact Can.ret ⟨_, rfl, H, names, rfl, h1, h2⟩
theorem can_lw4 {m : Nat} {K T} {H : List Ev} {names : List Int} (hT : GoodT K T) (hH : GoodH K H) (hN : GoodN H names) : Can (lw4 (lS (.d (.int (m : Nat))) (.d (tbD K T)) x4 x5 x6 x7 x8 x9 x10 x11 (.d (hD H)) (.d (intsD names)) x14 x15 x16 x17)) fun r => ∃ ρ', r = .nx ρ' ∧ ∃ K T H names, ρ' = lS (.d (.int (m : Nat))) (.d (tbD K T)) x4 x5 x6 x7 x8 x9 x10 x11 (.d (hD H)) (.d (intsD names)) x14 x15 x16 x17 ∧ GoodT K T ∧ GoodH K H ∧ GoodN H names := by
  have keep := Can.ret (S := fun r => ∃ ρ', r = Res.nx ρ' ∧ ∃ K T H names, ρ' = lS (.d (.int (m : Nat))) (.d (tbD K T)) x4 x5 x6 x7 x8 x9 x10 x11 (.d (hD H)) (.d (intsD names)) x14 x15 x16 x17 ∧ GoodT K T ∧ GoodH K H ∧ GoodN H names) ⟨_, rfl, K, T, H, names, rfl, hT, hH, hN⟩
  unfold lw4
  simp only [e_ifS, e_andT, e_tst, e_op2, v_s, v_0, e_con, e_ret, e_bnd, eqS_ev (lv_int _) (lv_int _), q_int, e_asB]
  by_cases hm : (m : Int) = 1
  · simp only [hm, decide_true, if_true, e_call, e_consK_1, e_consA, e_con, e_ret, e_nilL, e_bnd, List.length_cons, List.length_nil]
    rw [chk_of (by decide)]
    refine Can.bnd (can_draw (n := 2) (by decide) (by decide)) ?_
    rintro _ ⟨r, rfl, _⟩
    simp only [eqS_ev (lv_int _) (lv_int _), q_int, e_ret, e_asB]
    by_cases hr : (r : Int) = 0
    · simp only [hr, decide_true, if_true, e_asgS, e_call, e_consK_1, e_nilL, e_ret, e_bnd, List.length_cons, List.length_nil]
      rw [chk_of (by decide)]
      refine Can.bnd can_one_way ?_
      rintro _ ⟨K, T, H, names, rfl, h1, h2, h3⟩
      simp only [e_tupT, List.length_cons, List.length_nil]
      rw [chk_of (by decide)]
      exact Can.ret ⟨_, rfl, K, T, H, names, rfl, h1, h2, h3⟩
    · simp only [hr, decide_false, Bool.false_eq_true, if_false, e_skip]
      rw [hm] at keep
      exact keep
  · simp only [hm, decide_false, Bool.false_eq_true, if_false, e_ret, e_skip]
    exact keep
theorem ev_lw5 {K T} {H : List Ev} (hT : GoodT K T) (hH : GoodH K H) : ∃ b, Bk H T b ∧ lw5 (lS x2 (.d (tbD K T)) x4 x5 x6 x7 x8 x9 x10 x11 (.d (hD H)) x13 x14 x15 x16 x17) = ret (.nx (lS x2 (.d (tbD K T)) (.d b) x5 x6 x7 x8 x9 x10 x11 (.d (hD H)) x13 x14 x15 x16 x17)) := by
  have hl := hH.len
  obtain ⟨dt, h1, h2⟩ := ev_read_book (K := K) hT.tl (show H.length ≤ 1000 by omega)
  refine ⟨_, bk_of hH.kept_nodup h2, ?_⟩
  unfold lw5
  simp [h1]
theorem can_lw6 {H : List Ev} (hl : 2 ≤ H.length) : Can (lw6 (lS x2 x3 x4 x5 x6 x7 x8 x9 x10 x11 (.d (hD H)) x13 x14 x15 x16 x17)) fun r => ∃ ρ', r = .nx ρ' ∧ ∃ p : Nat, ρ' = lS x2 x3 x4 (.d (.int (p : Nat))) x6 x7 x8 x9 x10 x11 (.d (hD H)) x13 x14 x15 x16 x17 ∧ p ≤ H.length := by
  have h2 : lenD (hD H) = ret (.int (H.length : Nat)) := by simp [hD]
  unfold lw6
  simp only [e_setS, e_ifE, e_tst, e_op2, e_call, e_consK_1, e_consA, e_con, e_ret, e_nilL, e_bnd, List.length_cons, List.length_nil]
  rw [chk_of (by decide)]
  refine Can.bnd (can_draw (n := 3) (by decide) (by decide)) ?_
  rintro _ ⟨r, rfl, _⟩
  simp only [e_iop0, e_ret, e_asB]
  by_cases hr : (0 : Int) < r
  · simp only [hr, decide_true, if_true, e_app, e_consL, v_s, v_0, e_ret, e_nilL, e_bnd, e_one1, h2]
    exact Can.ret ⟨_, rfl, H.length, rfl, Nat.le_refl _⟩
  · simp only [hr, decide_false, Bool.false_eq_true, if_false, e_app, e_consL, v_s, v_0, e_ret, e_nilL, e_bnd, e_one1, h2, e_op2, e_call, e_consK_1, e_consA, e_con, List.length_cons, List.length_nil]
    refine Can.bnd (can_draw (n := 3) (by decide) (by decide)) ?_
    rintro _ ⟨q, rfl, hq⟩
    simp only [e_iop0, e_ret]
    have e : ((H.length : Nat) : Int) - (q : Int) = ((H.length - q : Nat) : Int) := by omega
    rw [e]
    exact Can.ret ⟨_, rfl, H.length - q, rfl, by omega⟩
theorem ev_lw7 {K} {H : List Ev} (hH : GoodH K H) (p : Nat) : lw7 (lS x2 x3 x4 (.d (.int (p : Nat))) x6 x7 x8 x9 x10 x11 (.d (hD H)) x13 x14 x15 x16 x17) = ret (.nx (lS x2 x3 x4 (.d (.int (p : Nat))) x6 x7 x8 x9 x10 x11 (.d (hD H)) x13 (.d (.wd (pairsD (wordI H p)))) (.d (intsD (keptI (H.take p)))) x16 x17)) := by
  unfold lw7
  simp [ev_law_cut_word hH p]
theorem ev_lw8 {K T b} {H : List Ev} (hH : GoodH K H) (hb : Bk H T b) (p : Nat) : ∃ rings : List (List Int), (∀ r ∈ rings, RingOk (Led H T p) (keptI (H.take p)) r) ∧ rings.length ≤ 100000 ∧
    lw8 (lS x2 x3 (.d b) (.d (.int (p : Nat))) x6 x7 x8 x9 x10 x11 (.d (hD H)) x13 x14 x15 x16 x17) = ret (.nx (lS x2 x3 (.d b) (.d (.int (p : Nat))) (.d (.lst (rings.map ringD))) x7 x8 x9 x10 x11 (.d (hD H)) x13 x14 x15 x16 x17)) := by
  obtain ⟨rings, h1, h2, h3⟩ := ev_own_rings hH hb p
  refine ⟨rings, h2, h3, ?_⟩
  unfold lw8
  simp [h1]
end
end EC
end
/-! ## M27 -/
section
set_option Elab.async false
set_option linter.all false
set_option maxRecDepth 100000
set_option maxHeartbeats 2000000
/-! M27: the law, step by step (the rows that are asked). -/
namespace EC
open PySem PySem.Spec PyProof.Rows L2
structure RowsOk (bd : Nat) (rows : List (List Int)) (n : Nat) : Prop where
  row : ∀ r ∈ rows, r.length ≤ bd ∧ ∀ t ∈ r, 0 ≤ t
  len : rows.length ≤ n
theorem RowsOk.up {bd : Nat} {a : List (List Int)} {n : Nat} (h : RowsOk bd a n) (c : Nat) (hc : bd ≤ c) : RowsOk c a n := ⟨fun r hr => ⟨Nat.le_trans (h.row r hr).1 hc, (h.row r hr).2⟩, h.len⟩
theorem RowsOk.app {bd : Nat} {a b : List (List Int)} {n m : Nat} (h : RowsOk bd a n) (h2 : RowsOk bd b m) : RowsOk bd (a ++ b) (n + m) :=
  ⟨fun r hr => (List.mem_append.mp hr).elim (h.row r) (h2.row r), by rw [List.length_append]; have := h.len; have := h2.len; omega⟩
theorem kept_sub {K} {H : List Ev} {names : List Int} (hH : GoodH K H) (hN : GoodN H names) (p : Nat) : ∀ t ∈ keptI (H.take p), t ∈ names := by
  intro t ht
  unfold keptI at ht
  obtain ⟨e, he, rfl⟩ := List.mem_map.mp ht
  exact hN.all e (List.mem_of_mem_take (List.mem_filter.mp he).1)
theorem kept_len {K} {H : List Ev} {names : List Int} (hH : GoodH K H) (hN : GoodN H names) (p : Nat) : (keptI (H.take p)).length ≤ names.length := len_le (hH.take p).kept_nodup (kept_sub hH hN p)
theorem ring_row {K T} {H : List Ev} {names : List Int} (hH : GoodH K H) (hN : GoodN H names) {p : Nat} {r : List Int} (h : RingOk (Led H T p) (keptI (H.take p)) r) : r.length ≤ 6 ∧ r ≠ [] ∧ ∀ t ∈ r, 0 ≤ t := by
  obtain ⟨h1, h2, h3, _⟩ := h
  have := len_le h2 h3
  have := kept_len hH hN p
  have := hN.len
  exact ⟨by omega, by rintro rfl; simp at h1, fun t ht => hN.nn t (kept_sub hH hN p t (h3 t ht))⟩
section
variable {x2 x3 x4 x5 x6 x7 x8 x9 x10 x11 x12 x13 x14 x15 x16 x17 : Sl}
@[simp] theorem cut_t3 (ds : List D) : cutD ds none (some 3) = ds.take 3 := cut_take ds 3
theorem can_lw9 {rings : List (List Int)} (hl : rings.length ≤ 100000) (hr : ∀ r ∈ rings, r.length ≤ 6 ∧ r ≠ [] ∧ ∀ t ∈ r, 0 ≤ t) :
    Can (lw9 (lS x2 x3 x4 x5 (.d (.lst (rings.map ringD))) x7 x8 x9 x10 x11 x12 x13 x14 x15 x16 x17)) fun r => ∃ ρ', r = .nx ρ' ∧ ∃ rows : List (List Int), ρ' = lS x2 x3 x4 x5 (.d (.lst (rings.map ringD))) (.o (rows.map rowD)) x8 x9 x10 x11 x12 x13 x14 x15 x16 x17 ∧ RowsOk 100 rows 3 := by
  unfold lw9
  simp only [e_setO, e_lcE, e_itL, e_asL, e_sliL, e_call, e_consK_1, e_consA, v_s, v_0, e_ret, e_nilL, e_bnd, List.length_cons, List.length_nil, e_noPart, e_part, e_con, e_partK]
  rw [chk_of (by decide)]
  refine Can.bnd (can_mixed (enc := ringD) (xs := rings) (by omega)) ?_
  rintro _ ⟨zs, rfl, hz⟩
  have hzl := hz.length_eq
  simp only [e_sliLK, e_ret, e_itLK, cut_t3, ← List.map_take]
  rw [lcK_mapY (enc := ringD) (xs := zs.take 3) rowD (by rw [List.length_take]; omega)]
  · simp only [e_ret]
    refine Can.ret ⟨_, rfl, zs.take 3, rfl, fun r hrr => ?_, by rw [List.length_take]; omega⟩
    have := hr r (hz.mem_iff.mp (List.mem_of_mem_take hrr))
    exact ⟨by omega, this.2.2⟩
  · intro r _
    simp [lcStep, ringD]
def LwI (x2 x3 x4 x5 x6 x9 x10 x11 x12 x13 x14 x15 x16 x17 : Sl) (m : Nat) (ρ : Rho) : Prop := ∃ (rows : List (List Int)) (x8 : Sl), ρ = lS x2 x3 x4 x5 x6 (.o (rows.map rowD)) x8 x9 x10 x11 x12 x13 x14 x15 x16 x17 ∧ RowsOk 100 rows (3 + m)
theorem can_lw10 {names : List Int} (hn : ∀ t ∈ names, 0 ≤ t) (hnl : names.length ≤ 6) {rows : List (List Int)} (h : RowsOk 100 rows 3) :
    Can (lw10 (lS x2 x3 x4 x5 x6 (.o (rows.map rowD)) x8 x9 x10 x11 x12 (.d (intsD names)) x14 x15 x16 x17)) fun r => ∃ ρ', r = .nx ρ' ∧ LwI x2 x3 x4 x5 x6 x9 x10 x11 x12 (.d (intsD names)) x14 x15 x16 x17 6 ρ' := by
  unfold lw10
  simp only [e_forS, e_rng1, e_con, e_ret]
  have e5 : rng1K (.int 6) = ret ((List.range 6).map fun (i : Nat) => D.int i) := e_rng1K 6 (by decide)
  rw [e5, e_ret]
  refine (can_forL (enc := fun (i : Nat) => D.int i) (LwI x2 x3 x4 x5 x6 x9 x10 x11 x12 (.d (intsD names)) x14 x15 x16 x17) (List.range 6) 0 _ (fun i x hx ρ hi => ?_) ⟨rows, x8, rfl, h⟩).mono ?_
  · obtain ⟨rows, y8, rfl, hrows⟩ := hi
    have hi6 : i < 6 := by have := (List.getElem?_eq_some_iff.mp hx).1; simpa using this
    have hrl := hrows.len
    simp only [e_nameT, e_ret, List.set_cons_succ, List.set_cons_zero]
    rw [e_appS (xs := rows.map rowD) (by rfl)]
    have ecat : catS (intsD names) (.lst [.int 99]) = ret ((names ++ [99]).map .int) := by
      unfold intsD
      rw [e_catS, chk_of (by simp; omega)]
      simp
    simp only [e_app, e_consL, e_asL, e_sliL, e_call, e_consK_1, e_consA, e_catE, e_lstE, e_con, v_s, v_0, e_ret, e_nilL, e_bnd, List.length_cons, List.length_nil]
    rw [chk_of (by decide)]
    simp only [e_ret, e_bnd, ecat]
    rw [chk_of (by decide)]
    refine Can.bnd (can_mixed (enc := D.int) (xs := names ++ [99]) (by simp; omega)) ?_
    rintro _ ⟨zs, rfl, hz⟩
    have hzl := hz.length_eq
    rw [List.length_append] at hzl
    simp only [e_noPart, e_ret, e_part, e_op2, e_con, e_call, e_consK_1, e_consA, e_nilL, e_bnd, List.length_cons, List.length_nil]
    rw [chk_of (by decide)]
    refine Can.bnd (can_draw (n := 2) (by decide) (by decide)) ?_
    rintro _ ⟨r, rfl, _⟩
    have ec : cutD (zs.map D.int) none (some (2 + (r : Int))) = (zs.take (2 + r)).map .int := by
      rw [show (2 + (r : Int)) = ((2 + r : Nat) : Int) by omega, cut_take, List.map_take]
    simp only [e_iop0, e_ret, e_partK, e_sliLK, ec, e_one1, e_tupD]
    rw [chk_of (by rw [List.length_map]; omega)]
    refine Can.ret ⟨_, rfl, rows ++ [zs.take (2 + r)], _, by rw [List.map_append]; rfl, ?_⟩
    have := hrows.app (b := [zs.take (2 + r)]) (m := 1) ⟨fun r' hr' => by
      rw [List.mem_singleton] at hr'
      subst hr'
      refine ⟨by rw [List.length_take]; simp at hzl; omega, fun t ht => ?_⟩
      have := hz.mem_iff.mp (List.mem_of_mem_take ht)
      rcases List.mem_append.mp this with h | h
      · exact hn t h
      · rw [List.mem_singleton] at h; rw [h]; decide, by simp⟩
    rw [show 3 + (0 + i) + 1 = 3 + (0 + i + 1) by omega] at this
    exact this
  · rintro r ⟨ρ', h1, h2⟩
    exact ⟨ρ', h1, by rw [List.length_range] at h2; exact h2⟩
theorem rowD_cat (a b : List Int) (h : a.length + b.length ≤ 1000) : catT (rowD a) (rowD b) = ret (rowD (a ++ b)) := by
  unfold rowD
  rw [e_catT, chk_of (by simp; omega)]
  simp
theorem ev_lw11 {names : List Int} (hn : ∀ t ∈ names, 0 ≤ t) (hne : names ≠ []) {rows : List (List Int)} {n : Nat} (hn9 : n ≤ 1000) (h : RowsOk 100 rows n) :
    ∃ rows' : List (List Int), RowsOk 200 rows' (n + 4) ∧ lw11 (lS x2 x3 x4 x5 x6 (.o (rows.map rowD)) x8 x9 x10 x11 x12 (.d (intsD names)) x14 x15 x16 x17) = ret (.nx (lS x2 x3 x4 x5 x6 (.o (rows'.map rowD)) x8 x9 x10 x11 x12 (.d (intsD names)) x14 x15 x16 x17)) := by
  have hrl := h.len
  have i1 : ixS (intsD names) (.int 0) = ret (.int (headI names)) := by
    cases names with
    | nil => exact absurd rfl hne
    | cons a l => exact ix_l0 _ _
  have i2 : ixS (intsD names) (.int (-1)) = ret (.int (lastI names)) := by
    obtain ⟨ys, c, rfl⟩ : ∃ ys c, names = ys ++ [c] := ⟨names.dropLast, names.getLast hne, (List.dropLast_concat_getLast hne).symm⟩
    have : lastI (ys ++ [c]) = c := by unfold lastI; simp
    rw [this]
    apply ix_lst
    rw [List.map_append]
    exact atI_last _ _
  have m1 : 0 ≤ headI names := by
    cases names with
    | nil => exact absurd rfl hne
    | cons a l => exact hn a (by simp)
  have m2 : 0 ≤ lastI names := by
    obtain ⟨ys, c, rfl⟩ : ∃ ys c, names = ys ++ [c] := ⟨names.dropLast, names.getLast hne, (List.dropLast_concat_getLast hne).symm⟩
    have : lastI (ys ++ [c]) = c := by unfold lastI; simp
    rw [this]
    exact hn c (by simp)
  let new3 : List (List Int) := [[headI names], [], [headI names, lastI names, headI names]]
  let new1 : List (List Int) := (rows.take 1).map fun r => r ++ r.take 1
  have l1 : lcE [9] (itL (asL (sliL (varW 7) noPart (part (con (.int 1)))))) (nameT 9) yes (op2 catT (var 9) (sliT (var 9) noPart (part (con (.int 1))))) (lS x2 x3 x4 x5 x6 (.o (rows.map rowD)) x8 x9 x10 x11 x12 (.d (intsD names)) x14 x15 x16 x17) = ret (new1.map rowD) := by
    rw [lcE_mapY (xs := rows.take 1) (enc := rowD) (fun r => rowD (r ++ r.take 1)) (by simp [List.map_take]) (by rw [List.length_take]; omega)]
    · simp only [new1]; rw [List.map_map]; rfl
    · intro r hr
      have hrr := h.row r (List.mem_of_mem_take hr)
      have e1 : sliTK none (some 1) (rowD r) = ret (rowD (r.take 1)) := by
        unfold rowD
        rw [e_sliTK, cut_t1, List.map_take]
      have e2 := rowD_cat r (r.take 1) (by rw [List.length_take]; omega)
      simp [lcStep, e1, e2]
  refine ⟨rows ++ (new3 ++ new1), ?_, ?_⟩
  · refine (h.up 200 (by decide)).app (m := 4) ⟨fun r hr => ?_, ?_⟩
    · rcases List.mem_append.mp hr with hr | hr
      · simp only [new3, List.mem_cons, List.not_mem_nil, or_false] at hr
        rcases hr with rfl | rfl | rfl
        · exact ⟨by simp, by intro t ht; simp at ht; rw [ht]; exact m1⟩
        · exact ⟨by simp, by simp⟩
        · exact ⟨by simp, by
            intro t ht
            simp at ht
            rcases ht with rfl | rfl | rfl
            · exact m1
            · exact m2
            · exact m1⟩
      · obtain ⟨r0, hr0, rfl⟩ := List.mem_map.mp hr
        have hrr := h.row r0 (List.mem_of_mem_take hr0)
        refine ⟨by rw [List.length_append, List.length_take]; omega, fun t ht => ?_⟩
        rcases List.mem_append.mp ht with ht | ht
        · exact hrr.2 t ht
        · exact hrr.2 t (List.mem_of_mem_take ht)
    · rw [List.length_append, List.length_map, List.length_take]; simp [new3]; omega
  · unfold lw11
    rw [e_extS (xs := rows.map rowD) (by rfl)]
    have hn1 : new1.length ≤ 1 := by simp only [new1]; rw [List.length_map, List.length_take]; omega
    have e3 : ∀ xs : List D, bnd (catS (.lst (new3.map rowD)) (.lst (new1.map rowD))) (fun ds => EC.ret (D.lst ds)) = EC.ret (D.lst ((new3 ++ new1).map rowD)) := by
      intro _
      rw [e_catS, chk_of (by rw [List.length_map, List.length_map]; simp [new3]; omega), e_ret, List.map_append]
    have e4 : asL (lstE (consL (tupE (consL (op2 ixS (var 13) (con (.int 0))) nilL)) (consL (tupE nilL) (consL (tupE (consL (op2 ixS (var 13) (con (.int 0))) (consL (op2 ixS (var 13) (negE (con (.int 1)))) (consL (op2 ixS (var 13) (con (.int 0))) nilL)))) nilL)))) (lS x2 x3 x4 x5 x6 (.o (rows.map rowD)) x8 x9 x10 x11 x12 (.d (intsD names)) x14 x15 x16 x17) = ret (.lst (new3.map rowD)) := by
      simp [i1, i2, new3, rowD]
    simp only [e_asL, e_catE] at e4 ⊢
    rw [e4, e_ret, l1, e_ret, e_ret, e3 [], e_ret, e_extK, chk_of (by
      rw [List.length_map, List.length_map, List.length_append]
      simp [new3]
      omega), ← List.map_append]
    rfl
theorem ev_lw12 {names : List Int} (hn : ∀ t ∈ names, 0 ≤ t) (hnl : names.length ≤ 6) {rows : List (List Int)} {n : Nat} (hn9 : n ≤ 1000) (h : RowsOk 200 rows n) :
    ∃ rows' : List (List Int), RowsOk 200 rows' (n + 2) ∧ lw12 (lS x2 x3 x4 x5 x6 (.o (rows.map rowD)) x8 x9 x10 x11 x12 (.d (intsD names)) x14 x15 x16 x17) = ret (.nx (lS x2 x3 x4 x5 x6 (.o (rows'.map rowD)) x8 x9 x10 x11 x12 (.d (intsD names)) x14 x15 x16 x17)) := by
  have hrl := h.len
  refine ⟨rows ++ [names, names.reverse], ?_, ?_⟩
  · refine h.app (m := 2) ⟨fun r hr => ?_, by simp⟩
    simp only [List.mem_cons, List.not_mem_nil, or_false] at hr
    rcases hr with rfl | rfl
    · exact ⟨by omega, hn⟩
    · exact ⟨by rw [List.length_reverse]; omega, fun t ht => hn t (List.mem_reverse.mp ht)⟩
  · unfold lw12
    rw [e_extS (xs := rows.map rowD) (by rfl)]
    simp [intsD]
    rw [chk_of (by omega)]
    simp [rowD]
theorem rep2 (r : List Int) (h : r ≠ []) (hl : r.length ≤ 6) : repT (rowD r) (.int 2) = ret (rowD (r ++ r)) := by
  show chk _ _ = _
  rw [chk_of ⟨by simpa [rowD] using h, by decide, by decide, by rw [List.length_map]; omega⟩]
  show ret (D.tup ((List.replicate 2 (r.map D.int)).flatten)) = _
  unfold rowD
  simp [List.replicate]
theorem ev_lw13 {rings : List (List Int)} (hr : ∀ r ∈ rings, r.length ≤ 6 ∧ r ≠ [] ∧ ∀ t ∈ r, 0 ≤ t) {rows : List (List Int)} {n : Nat} (hn9 : n ≤ 1000) (h : RowsOk 200 rows n) :
    ∃ rows' : List (List Int), RowsOk 200 rows' (n + 1) ∧ lw13 (lS x2 x3 x4 x5 (.d (.lst (rings.map ringD))) (.o (rows.map rowD)) x8 x9 x10 x11 x12 x13 x14 x15 x16 x17) = ret (.nx (lS x2 x3 x4 x5 (.d (.lst (rings.map ringD))) (.o (rows'.map rowD)) x8 x9 x10 x11 x12 x13 x14 x15 x16 x17)) := by
  have hrl := h.len
  refine ⟨rows ++ (rings.take 1).map fun r => r ++ r, ?_, ?_⟩
  · refine h.app (m := 1) ⟨fun r hrr => ?_, by rw [List.length_map, List.length_take]; omega⟩
    obtain ⟨r0, hr0, rfl⟩ := List.mem_map.mp hrr
    have := hr r0 (List.mem_of_mem_take hr0)
    refine ⟨by rw [List.length_append]; omega, fun t ht => ?_⟩
    rcases List.mem_append.mp ht with ht | ht <;> exact this.2.2 t ht
  · unfold lw13
    rw [e_extS (xs := rows.map rowD) (by rfl)]
    have l1 : lcE [17] (itL (asL (sliL (var 6) noPart (part (con (.int 1)))))) (nameT 17) yes (op2 repT (op2 ixS (var 17) (con (.int 1))) (con (.int 2))) (lS x2 x3 x4 x5 (.d (.lst (rings.map ringD))) (.o (rows.map rowD)) x8 x9 x10 x11 x12 x13 x14 x15 x16 x17) = ret (((rings.take 1).map fun r => r ++ r).map rowD) := by
      rw [lcE_mapY (xs := rings.take 1) (enc := ringD) (fun r => rowD (r ++ r)) (by simp [List.map_take]) (by rw [List.length_take]; omega)]
      · rw [List.map_map]; rfl
      · intro r hrr
        have := hr r (List.mem_of_mem_take hrr)
        have e1 := rep2 r this.2.1 this.1
        simp [lcStep, ringD, e1]
    simp only [e_asL]
    rw [l1, e_ret, e_ret, e_extK, chk_of (by
      rw [List.length_map, List.length_map, List.length_map, List.length_take]
      omega), ← List.map_append]
    rfl
theorem ev_lw14 {m : Nat} {K T b} {H : List Ev} {p : Nat} (hT : GoodT K T) (hH : GoodH K H) (hb : Bk H T b) (hp : p ≤ H.length) {rows : List (List Int)} {n : Nat} (h : RowsOk 200 rows n) :
    ∃ y9 y11 y16, lw14 (lS (.d (.int (m : Nat))) (.d (tbD K T)) (.d b) (.d (.int (p : Nat))) x6 (.o (rows.map rowD)) x8 x9 x10 x11 (.d (hD H)) x13 x14 (.d (intsD (keptI (H.take p)))) x16 x17) =
      ret (.nx (lS (.d (.int (m : Nat))) (.d (tbD K T)) (.d b) (.d (.int (p : Nat))) x6 (.d (.lst (rows.map rowD))) x8 y9 x10 y11 (.d (hD H)) x13 x14 (.d (intsD (keptI (H.take p)))) y16 x17)) := by
  refine ⟨(rows.foldl (fun (s : Sl × Sl × Sl) r => (Sl.d (rowD r), Sl.d (.bl (rB H T p r)), Sl.d (.bl (rB H T p r)))) (x9, x11, x16)).1, (rows.foldl (fun (s : Sl × Sl × Sl) r => (Sl.d (rowD r), Sl.d (.bl (rB H T p r)), Sl.d (.bl (rB H T p r)))) (x9, x11, x16)).2.1, (rows.foldl (fun (s : Sl × Sl × Sl) r => (Sl.d (rowD r), Sl.d (.bl (rB H T p r)), Sl.d (.bl (rB H T p r)))) (x9, x11, x16)).2.2, ?_⟩
  unfold lw14
  rw [e_give (xs := rows.map rowD) (by rfl)]
  simp only [e_forS, e_itL, List.set_cons_succ, List.set_cons_zero, v_s, v_0, e_ret, e_itLK]
  refine forL_fold rowD (fun s : Sl × Sl × Sl => lS (.d (.int (m : Nat))) (.d (tbD K T)) (.d b) (.d (.int (p : Nat))) x6 (.d (.lst (rows.map rowD))) x8 s.1 x10 s.2.1 (.d (hD H)) x13 x14 (.d (intsD (keptI (H.take p)))) s.2.2 x17)
    (fun (s : Sl × Sl × Sl) r => (Sl.d (rowD r), Sl.d (.bl (rB H T p r)), Sl.d (.bl (rB H T p r)))) (fun _ _ => True) rows 0 (x9, x11, x16) trivial ?_
  rintro r hrr k ⟨y9, y11, y16⟩ _ _
  have hr := h.row r hrr
  have e1 := ev_law_is_ring hb hH.len p (row := r) (by omega)
  have e2 := ev_cut_holds hT hH hp (row := r) (by omega) hr.2
  refine ⟨?_, trivial⟩
  have e1 : F_law_is_ring [.d b, .d (.int (p : Nat)), .d (intsD (keptI (H.take p))), .d (.tup [.str "ring", rowD r])] = ret (.bl (rB H T p r)) := e1
  have e2 : F_cut_holds [.d (tbD K T), .d (hD H), .d (.int (p : Nat)), .d (.tup [.str "ring", rowD r])] = ret (.bl (rB H T p r)) := e2
  have e3 : ∀ v : Bool, neS (.str (if v then "True" else "False")) (.str (if v then "True" else "False")) = ret (.bl false) := by
    intro v; cases v <;> simp
  have e4 : ∀ v : Bool, reprD (.bl v) = ret (.str (if v then "True" else "False")) := fun _ => rfl
  have e5 : reprD (.bl true) = ret (.str "True") := rfl
  have e6 : reprD (.bl false) = ret (.str "False") := rfl
  generalize rB H T p r = v at e1 e2 ⊢
  by_cases hm : m = 0
  · subst hm
    cases v <;> simp [e1, e2, e5, e6]
  · have hm' : ¬(m : Int) = 0 := by omega
    cases v <;> simp [e1, e2, hm, hm', e5, e6]
end
end EC
end
/-! ## M28 -/
section
set_option Elab.async false
set_option linter.all false
set_option maxRecDepth 100000
set_option maxHeartbeats 2000000
/-! M28: the law, whole. -/
namespace EC
open PySem PySem.Spec PyProof.Rows L2
def RoOk (H : List Ev) (T : List (Kd × Kd)) (p : Nat) (r : D) : Prop := (r = .non ∨ ∃ o : List Int, r = .lst (o.map .int)) ∧ (HasRing (Eg H T p) (keptI (H.take p)) → r = .non) ∧ (¬HasRing (Eg H T p) (keptI (H.take p)) → Cau H T p = [] → r ≠ .non)
section
variable {x2 x3 x4 x5 x6 x7 x8 x9 x10 x11 x12 x13 x14 x15 x16 x17 : Sl}
theorem ev_lw15 {K T b} {H : List Ev} {p : Nat} (hT : GoodT K T) (hH : GoodH K H) (hb : Bk H T b) :
    ∃ r, RoOk H T p r ∧ lw15 (lS x2 x3 (.d b) (.d (.int (p : Nat))) x6 x7 x8 x9 x10 x11 (.d (hD H)) x13 x14 x15 x16 x17) = ret (.nx (lS x2 x3 (.d b) (.d (.int (p : Nat))) x6 x7 x8 x9 (.d r) x11 (.d (hD H)) x13 x14 x15 x16 x17)) := by
  obtain ⟨r, h1, h2, h3, h4⟩ := ev_right_order hT.tl hH hb p
  refine ⟨r, ⟨h2, h3, h4⟩, ?_⟩
  unfold lw15
  simp [h1]
theorem non_iff {r : D} : r.isNon = true ↔ r = .non := by
  cases r <;> simp [D.isNon]
theorem can_lw16 {K T b} {H : List Ev} {p : Nat} {r : D} (hT : GoodT K T) (hH : GoodH K H) (hb : Bk H T b) (hp : p ≤ H.length) (hk : (keptI (H.take p)).length < 64) (hr : RoOk H T p r) :
    Can (lw16 (lS x2 (.d (tbD K T)) (.d b) (.d (.int (p : Nat))) x6 x7 x8 x9 (.d r) x11 (.d (hD H)) x13 x14 x15 x16 x17)) fun q => ∃ ρ', q = .nx ρ' ∧ ρ' = lS x2 (.d (tbD K T)) (.d b) (.d (.int (p : Nat))) x6 x7 x8 x9 (.d r) x11 (.d (hD H)) x13 x14 x15 x16 x17 := by
  unfold lw16
  by_cases hn : r = .non
  · have hnf : ¬(Cau H T p = [] ∧ ¬HasRing (Eg H T p) (keptI (H.take p))) := fun h => hr.2.2 h.2 h.1 hn
    have hrn : r.isNon = true := non_iff.mpr hn
    simp only [e_ifS, e_andT, e_tst, e_op2, v_s, v_0, e_con, e_ret, e_bnd, e_isNS, e_asB, hrn, if_true, e_notT, e_call, e_consA, e_nilL, List.length_cons, List.length_nil]
    rw [chk_of (by decide)]
    refine Can.bnd (can_judge hT hH hp hk hnf) ?_
    rintro d ⟨h1, h2⟩
    try simp only [e_ret]
    rw [chk_of (by decide), ev_is_against hH hb h1 h2]
    simp only [e_ret, e_asB, Bool.not_true, Bool.false_eq_true, if_false, e_skip]
    exact Can.ret ⟨_, rfl, rfl⟩
  · have hrn : r.isNon = false := by
      cases h : r.isNon with
      | false => rfl
      | true => exact absurd (non_iff.mp h) hn
    simp only [e_ifS, e_andT, e_tst, e_op2, v_s, v_0, e_con, e_ret, e_bnd, e_isNS, e_asB, hrn, Bool.false_eq_true, if_false, e_skip]
    exact Can.ret ⟨_, rfl, rfl⟩
theorem can_lw17 {m : Nat} {K T} {H : List Ev} {p : Nat} (hT : GoodT K T) (hH : GoodH K H) (hp : p ≤ H.length) (hk : (keptI (H.take p)).length < 64) :
    Can (lw17 (lS (.d (.int (m : Nat))) (.d (tbD K T)) x4 (.d (.int (p : Nat))) x6 x7 x8 x9 x10 x11 (.d (hD H)) x13 x14 x15 x16 x17)) fun q => ∃ ρ', q = .nx ρ' ∧ ∃ v : Bool, ρ' = lS (.d (.int (m : Nat))) (.d (tbD K T)) x4 (.d (.int (p : Nat))) x6 x7 x8 x9 x10 (.d (.bl v)) (.d (hD H)) x13 x14 x15 x16 x17 ∧ (v = true ↔ (Cau H T p = [] ∧ ¬HasRing (Eg H T p) (keptI (H.take p)))) := by
  unfold lw17
  simp only [e_setS, e_ifE, e_tst, e_op2, v_s, v_0, e_con, e_ret, e_bnd, eqS_ev (lv_int _) (lv_int _), q_int, e_asB]
  by_cases hm : (m : Int) = 0
  · simp only [hm, decide_true, if_true, e_call, e_consA, v_s, v_0, e_nilL, e_ret, e_bnd, List.length_cons, List.length_nil]
    rw [chk_of (by decide)]
    refine Can.bnd (can_is_right hT hH hp hk) ?_
    rintro _ ⟨v, rfl, hv⟩
    exact Can.ret ⟨_, rfl, v, rfl, hv⟩
  · simp only [hm, decide_false, Bool.false_eq_true, if_false, e_callR, e_consA, v_s, v_0, e_nilL, e_ret, e_bnd, List.length_cons, List.length_nil]
    rw [chk_of (by decide)]
    refine Can.bnd (can_is_right hT hH hp hk) ?_
    rintro _ ⟨v, rfl, hv⟩
    exact Can.ret ⟨_, rfl, v, rfl, hv⟩
theorem all_kept {K T} {H : List Ev} {names : List Int} {p : Nat} (hH : GoodH K H) (hN : GoodN H names) (hl : (keptI (H.take p)).length = names.length) : Cau H T p = [] := by
  have hkn := (hH.take p).kept_nodup
  have hperm := sub_perm hkn (kept_sub hH hN p) hl
  unfold Cau
  rw [List.filter_eq_nil_iff]
  rintro ⟨i, j⟩ hq hc
  obtain ⟨hi, _⟩ := mem_CP.mp hq
  obtain ⟨t, k, e⟩ := mem_steps_take hi
  unfold Caught op at hc
  rw [Bool.and_eq_true, Bool.not_eq_true', decide_eq_false_iff_not] at hc
  apply hc.1
  show nm H i ∈ _
  rw [nm_of e]
  exact hperm.mem_iff.mpr (hN.all _ (List.mem_of_getElem? e))
theorem ne_nil_map {α : Type} (f : α → D) (xs : List α) (hv : Lv 8 (.lst (xs.map f))) : neS (.lst (xs.map f)) (.lst []) = ret (.bl (!xs.isEmpty)) := by
  rw [neS_ev hv (by simp), q_lst, q_empty, List.isEmpty_map]
theorem ev_lw18 {K T} {H : List Ev} {names : List Int} {p : Nat} {r : D} {v : Bool} {rings : List (List Int)} (hH : GoodH K H) (hN : GoodN H names) (hr : RoOk H T p r)
    (hv : v = true ↔ (Cau H T p = [] ∧ ¬HasRing (Eg H T p) (keptI (H.take p)))) (hrg : ∀ r ∈ rings, RingOk (Led H T p) (keptI (H.take p)) r) :
    lw18 (lS x2 x3 x4 x5 (.d (.lst (rings.map ringD))) x7 x8 x9 (.d r) (.d (.bl v)) x12 (.d (intsD names)) x14 (.d (intsD (keptI (H.take p)))) x16 x17) = ret (.nx (lS x2 x3 x4 x5 (.d (.lst (rings.map ringD))) x7 x8 x9 (.d r) (.d (.bl v)) x12 (.d (intsD names)) x14 (.d (intsD (keptI (H.take p)))) x16 x17)) := by
  have e1 := ne_nil_map ringD rings (lv_lmap fun r _ => lv_t2 lv_ring (lv_tmap fun _ _ => lv_int _))
  have l1 : lenD (intsD names) = ret (.int (names.length : Nat)) := by simp [intsD]
  have l2 : lenD (intsD (keptI (H.take p))) = ret (.int ((keptI (H.take p)).length : Nat)) := by simp [intsD]
  have e5 : reprD (.bl true) = ret (.str "True") := rfl
  have e6 : reprD (.bl false) = ret (.str "False") := rfl
  have hfirst : rings.isEmpty = false → v = false := by
    intro h
    cases rings with
    | nil => cases h
    | cons r0 rs =>
      have := (hrg r0 (by simp)).has
      cases v with
      | false => rfl
      | true => exact absurd this (hv.mp rfl).2
  have hsecond : (keptI (H.take p)).length = names.length → v = !r.isNon := by
    intro h
    have hc := all_kept (T := T) hH hN h
    by_cases hring : HasRing (Eg H T p) (keptI (H.take p))
    · have h1 := hr.2.1 hring
      have h2 : v = false := by
        cases v with
        | false => rfl
        | true => exact absurd hring (hv.mp rfl).2
      rw [h1, h2]; rfl
    · have h1 := hr.2.2 hring hc
      have h2 : v = true := hv.mpr ⟨hc, hring⟩
      have h3 : r.isNon = false := by
        cases h : r.isNon with
        | false => rfl
        | true => exact absurd (non_iff.mp h) h1
      rw [h2, h3]; rfl
  have second : (bnd (lenD (intsD (keptI (H.take p)))) fun a => bnd (lenD (intsD names)) fun c => eqS a c) = ret (.bl (decide ((keptI (H.take p)).length = names.length))) := by
    rw [l2, e_ret, l1, e_ret, eqS_ev (lv_int _) (lv_int _), q_int]
    congr 2
    exact decide_eq_decide.mpr ⟨fun h => by omega, fun h => by omega⟩
  unfold lw18
  generalize hle : decide ((keptI (H.take p)).length = names.length) = le at second
  have hsecond : le = true → v = !r.isNon := fun h => hsecond (by rw [← hle] at h; exact of_decide_eq_true h)
  rw [l2, e_ret, l1, e_ret] at second
  generalize hie : rings.isEmpty = ie at e1 hfirst
  generalize hin : r.isNon = rn at hsecond
  have hns : notNS r .non = ret (.bl (!rn)) := by rw [e_notNS, hin]
  simp only [e_ifS, e_orT, e_andT, e_tst, e_op2, v_s, v_0, e_asL, e_lstE, e_nilL, e_ret, e_bnd, List.length_nil]
  rw [chk_of (by decide)]
  simp only [e_ret, e1, e_asB, e_con, e_isNotB, e_app, e_consL, v_s, v_0, e_nilL, e_one1, e_bnd, l1, l2, second, e_op2, hns]
  cases ie with
  | false =>
    rw [hfirst rfl] at hsecond ⊢
    simp only [Bool.not_false, if_true, e_ret, e_asB, decide_true, Bool.not_true, Bool.false_eq_true, if_false]
    cases le with
    | false => simp
    | true =>
      have := hsecond rfl
      rw [← this]
      simp [e5, e6]
  | true =>
    simp only [Bool.not_true, Bool.false_eq_true, if_false, e_ret]
    cases le with
    | false => simp
    | true =>
      have := hsecond rfl
      rw [← this]
      cases v <;> simp [e5, e6]
end
def LawI (_ : Nat) (ρ : Rho) : Prop := ∃ x2 x3 x4 x5 x6 x7 x8 x9 x10 x11 x12 x13 x14 x15 x16 x17, ρ = lS x2 x3 x4 x5 x6 x7 x8 x9 x10 x11 x12 x13 x14 x15 x16 x17
theorem nx_seq {s t : Rho → M Res} {ρ ρ' : Rho} {R : Res → Prop} (h : s ρ = ret (.nx ρ')) (h2 : Can (t ρ') R) : Can (seqS s t ρ) R := by
  rw [e_seqS, h, e_ret]; exact h2
theorem can_body {m : Nat} {ρ : Rho} (h : LawI m ρ) : Can (bnd (nameT 2 (.int (m : Nat)) ρ) (seqS lw1 (seqS lw2 (seqS lw3 (seqS lw4 (seqS lw5 (seqS lw6 (seqS lw7 (seqS lw8 (seqS lw9 (seqS lw10 (seqS lw11 (seqS lw12 (seqS lw13 (seqS lw14 (seqS lw15 (seqS lw16 (seqS lw17 lw18)))))))))))))))))) fun r => ∃ ρ', r = .nx ρ' ∧ LawI (m + 1) ρ' := by
  obtain ⟨x2, x3, x4, x5, x6, x7, x8, x9, x10, x11, x12, x13, x14, x15, x16, x17, rfl⟩ := h
  rw [e_nameT, e_ret]
  refine can_seq can_lw1 ?_
  rintro _ ⟨K0, T0, rfl, hT0⟩
  refine can_seq (can_lw2 hT0) ?_
  rintro _ ⟨K1, T1, rfl, hT1, hK1⟩
  refine can_seq (can_lw3 hT1 hK1) ?_
  rintro _ ⟨H1, names1, rfl, hH1, hN1⟩
  refine can_seq (can_lw4 hT1 hH1 hN1) ?_
  rintro _ ⟨K, T, H, names, rfl, hT, hH, hN⟩
  obtain ⟨b, hb, e5⟩ := ev_lw5 hT hH
  refine nx_seq e5 ?_
  refine can_seq (can_lw6 hN.lg) ?_
  rintro _ ⟨p, rfl, hp⟩
  refine nx_seq (ev_lw7 hH p) ?_
  obtain ⟨rings, hrg, hrl, e8⟩ := ev_lw8 hH hb p
  refine nx_seq e8 ?_
  have hrr : ∀ r ∈ rings, r.length ≤ 6 ∧ r ≠ [] ∧ ∀ t ∈ r, 0 ≤ t := fun r h => ring_row hH hN (hrg r h)
  refine can_seq (can_lw9 hrl hrr) ?_
  rintro _ ⟨rows, rfl, hrows⟩
  refine can_seq (can_lw10 hN.nn hN.len hrows) ?_
  rintro _ ⟨rows2, y8, rfl, hrows2⟩
  obtain ⟨rows3, hrows3, e11⟩ := ev_lw11 hN.nn hN.ne (by decide) hrows2
  refine nx_seq e11 ?_
  obtain ⟨rows4, hrows4, e12⟩ := ev_lw12 hN.nn hN.len (by decide) hrows3
  refine nx_seq e12 ?_
  obtain ⟨rows5, hrows5, e13⟩ := ev_lw13 hrr (by decide) hrows4
  refine nx_seq e13 ?_
  obtain ⟨y9, y11, y16, e14⟩ := ev_lw14 hT hH hb hp hrows5
  refine nx_seq e14 ?_
  obtain ⟨r, hr, e15⟩ := ev_lw15 hT hH hb
  refine nx_seq e15 ?_
  have hk : (keptI (H.take p)).length < 64 := by have := kept_len hH hN p; have := hN.len; omega
  refine can_seq (can_lw16 hT hH hb hp hk hr) ?_
  rintro _ rfl
  refine can_seq (can_lw17 hT hH hp hk) ?_
  rintro _ ⟨v, rfl, hv⟩
  exact Can.eq (ev_lw18 hH hN hr hv hrg) ⟨_, rfl, _, _, _, _, _, _, _, _, _, _, _, _, _, _, _, _, rfl⟩
theorem law_good : LawGood := by
  unfold LawGood
  refine (show Can (F_law rhoL) (fun r => r = .rt (.bl true)) from ?_) _ (fun _ h => h)
  rw [law_eq, e_seqS]
  simp only [e_forS, e_rng1, e_con, e_ret]
  have e5 : rng1K (.int 2) = ret ((List.range 2).map fun (i : Nat) => D.int i) := e_rng1K 2 (by decide)
  rw [e5, e_ret]
  refine Can.bnd (can_forL (enc := fun (i : Nat) => D.int i) LawI (List.range 2) 0 _ (fun i x hx ρ hi => can_body hi) ⟨.no, .no, .no, .no, .no, .no, .no, .no, .no, .no, .no, .no, .no, .no, .no, .no, rfl⟩) ?_
  rintro _ ⟨ρ, rfl, _⟩
  simp only [e_seqK_nx, e_retS, e_con, e_ret]
  exact Can.ret rfl
end EC
end
section
theorem PySem.Challenge.cw_eachcut_k18_whole_rings_holds : PySem.Challenge.rw_eachcut_k18_whole_rings.Holds := by
  exact holds_of EC.law_good
end
