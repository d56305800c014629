import PyProof.Rows.All
import Wide.All
import OpenK.AllK
import Wide.FinOn
import KE.KStateDown
import Lean
import HandS.ForMost
import HandS.Exc
import HandS.ExcOwn
import HandS.ExcInit
import HandS.ExcField
import HandS.TryMany
import HandS.WordsExc
import HandS.Defaults
import HandS.Head0
import HandS.Head1
import HandS.Head2
import HandS.HeadEnd
import HandS.HeadHook1
import HandS.HeadHook2
import PySem.Challenge.RW_arrowcells_k66_whole_walkers_on_stores
import HandS.Head3
import HandS.Flow
import HandS.Style
import HandS.Gcd
import HandS.IsInst
import HandS.ExcIs
import HandS.More
import HandS.Conv
import HandS.Evl
import HandS.Steps
import PyProof.ReprRoads
import KE.KDictPairs
import KE.GoesMore
import PyProof.Draws
import PyProof.EnumMake
import HandS.Strs
import HandS.Text
import HandS.StrSplit
import HandS.AnyAll
import HandS.DictTup
import HandS.ListItems
import HandS.MakeKwOnly
import HandS.Ends
import PyProof.ReprReads
import HandS.Walk
import HandS.Deep
import HandS.WideBits
import HandS.NoneIn
section
set_option Elab.async false
set_option linter.all false
set_option maxRecDepth 100000
set_option maxHeartbeats 0
namespace K66
open PySem PySem.Spec PyProof.Rows L2
/-! ### the text by places -/
def top (i : Nat) : Stmt := PySem.Challenge.pw_arrowcells_k66_whole_walkers_on_stores.main.body.getD i (.Pass ⟨0, 0, 0, 0⟩)
abbrev s_InvalidNumber_init : Stmt := (inClass (top 6) 0)
abbrev s_NotAStore_init : Stmt := (inClass (top 8) 0)
abbrev s_UnknownName_init : Stmt := (inClass (top 9) 0)
abbrev s_is_whole : Stmt := (top 19)
abbrev s_is_between : Stmt := (top 20)
abbrev s_is_place : Stmt := (top 21)
abbrev s_is_letter : Stmt := (top 22)
abbrev s_is_pair : Stmt := (top 23)
abbrev s_are_name_pairs : Stmt := (top 25)
abbrev s_check_cells : Stmt := (top 26)
abbrev s_Store_init : Stmt := (inClass (top 27) 0)
abbrev s_Store_at : Stmt := (inClass (top 27) 3)
abbrev s_check_store : Stmt := (top 28)
abbrev s_walked : Stmt := (top 30)
abbrev s_tail_and_ring : Stmt := (top 31)
abbrev s_check_number : Stmt := (top 33)
abbrev s_check_track : Stmt := (top 34)
abbrev s_check_paces : Stmt := (top 35)
abbrev s_stop_after : Stmt := (top 36)
abbrev s_inverse : Stmt := (top 37)
abbrev s_first_turn : Stmt := (top 38)
abbrev s_meet : Stmt := (top 39)
abbrev s_doubling_steps : Stmt := (top 40)
abbrev s_track_of : Stmt := (top 41)
abbrev s_meeting_place : Stmt := (top 42)
abbrev s_Heap_init : Stmt := (inClass (top 44) 0)
abbrev s_Heap_place_of : Stmt := (inClass (top 44) 1)
abbrev s_Heap_done : Stmt := (inClass (top 44) 3)
abbrev s_Heap_is_same : Stmt := (inClass (top 44) 4)
abbrev s_Heap_holds : Stmt := (inClass (top 44) 5)
abbrev s_Heap_store : Stmt := (inClass (top 44) 6)
abbrev s_heap_of : Stmt := (top 45)
abbrev s_asked_letters : Stmt := (top 46)
abbrev s_set_letters : Stmt := (top 47)
abbrev s_is_goal : Stmt := (top 52)
abbrev s_Words_init : Stmt := (inClass (top 53) 0)
abbrev s_Words_peek : Stmt := (inClass (top 53) 1)
abbrev s_Words_take : Stmt := (inClass (top 53) 2)
abbrev s_Words_is_over : Stmt := (inClass (top 53) 3)
abbrev s_split_words : Stmt := (top 54)
abbrev s_read_comparison : Stmt := (top 55)
abbrev s_read_test : Stmt := (top 56)
abbrev s_read_next_or_tie : Stmt := (top 57)
abbrev s_read_block : Stmt := (top 58)
abbrev s_read_while : Stmt := (top 60)
abbrev s_read_statement : Stmt := (top 61)
abbrev s_read_rows : Stmt := (top 62)
abbrev s_count_statements : Stmt := (top 63)
abbrev s_tree_of : Stmt := (top 64)
abbrev s_program_tree : Stmt := (top 66)
abbrev s_test_letters : Stmt := (top 67)
abbrev s_tree_letters : Stmt := (top 68)
abbrev s_put_loop : Stmt := (top 73)
abbrev s_put_steps : Stmt := (top 74)
abbrev s_steps_of : Stmt := (top 75)
abbrev s_helpers_of : Stmt := (top 76)
abbrev s_check_letters : Stmt := (top 77)
abbrev s_check_most : Stmt := (top 78)
abbrev s_Run_init : Stmt := (inClass (top 81) 0)
abbrev s_Notes_init : Stmt := (inClass (top 82) 0)
abbrev s_Notes_note_deed : Stmt := (inClass (top 82) 1)
abbrev s_Notes_note_test : Stmt := (inClass (top 82) 2)
abbrev s_Walk_init : Stmt := (inClass (top 83) 0)
abbrev s_Walk_lead : Stmt := (inClass (top 83) 1)
abbrev s_Walk_is_over : Stmt := (inClass (top 83) 2)
abbrev s_Walk_step : Stmt := (inClass (top 83) 3)
abbrev s_walk_of : Stmt := (top 84)
abbrev s_word_of : Stmt := (top 85)
abbrev s_check_run_cells : Stmt := (top 86)
abbrev s_walked_run : Stmt := (top 87)
abbrev s_run : Stmt := (top 88)
abbrev s__law_well : Stmt := (top 90)
abbrev s__law_take : Stmt := (top 91)
abbrev s__law_pick : Stmt := (top 92)
abbrev s__law_drawn : Stmt := (top 93)
abbrev s__law_store : Stmt := (top 94)
abbrev s__law_odd : Stmt := (top 95)
abbrev s__law_stop : Stmt := (top 96)
abbrev s__law_first_meeting : Stmt := (top 97)
abbrev s__law_great_number : Stmt := (top 98)
abbrev s__law_track : Stmt := (top 99)
abbrev s__law_doubling : Stmt := (top 100)
abbrev s__law_formula : Stmt := (top 101)
abbrev s__law_error : Stmt := (top 102)
abbrev s__law_are_refused : Stmt := (top 103)
abbrev s__law_is_store_right : Stmt := (top 104)
abbrev s__law_is_program_right : Stmt := (top 105)
abbrev s__law_right : Stmt := (top 106)
abbrev s_law : Stmt := (top 107)
/-! ### an exception class of one's own under own classes under ValueError -/
def oexB (K : PySem.W.Frag) (C : Addr) : Bool := match K.lookup C with
  | some ⟨.type "type", _, .cls cd, sl⟩ => (match cd.mro, sl.toList with
    | .ref C' :: bm, [_, _, _, _, some (.builtin n), _] => C' == C && n == "ValueError.__new__" && !cd.hasDel && cd.hasDict && PySem.HandSPX.refsVE bm && (PySem.W.findIn K (.ref C) "__setattr__" == some (some (.builtin "object.__setattr__")) && (PySem.W.subIn K (.ref C) (.type "BaseException") == some true && (PySem.W.typeIn K (.ref C) == some (.type "type") && PySem.W.keepIn K (.ref C))))
    | _, _ => false)
  | _ => false
theorem oexB_ok {K : PySem.W.Frag} {C : Addr} (q : oexB K C = true) : OexC K C := by
  unfold oexB at q
  split at q
  · rename_i dd cd sl ho
    split at q
    · rename_i C' bm k0 k1 k2 k3 n k5 hm hs
      simp only [Bool.and_eq_true, beq_iff_eq, Bool.not_eq_true'] at q
      obtain ⟨⟨⟨⟨⟨rfl, rfl⟩, hdel⟩, hdct⟩, hbm⟩, hsa, hsub, hty, hk⟩ := q
      obtain ⟨nm, bs, mro, ns, qn, hd, sn, sub, ab, col, del⟩ := cd
      dsimp only at hm hdel hdct
      subst hm hdel hdct
      have hsl : sl = #[k0, k1, k2, k3, some (.builtin "ValueError.__new__"), k5] := by
        obtain ⟨l⟩ := sl
        simp only at hs
        rw [hs]
      subst hsl
      exact ⟨⟨nm, qn, ns, bs, bm, sn, sub, ab, col, dd, k0, k1, k2, k3, k5, ho, hbm⟩, hsa, hsub, hty, hk⟩
    · cases q
  · cases q
/-! ### the defs -/
def d_InvalidNumber_init : He.DefD := ⟨("InvalidNumber", some "__init__"), "__init__", "InvalidNumber.__init__", defArgs s_InvalidNumber_init, defBody s_InvalidNumber_init, defScope s_InvalidNumber_init, [], []⟩
def d_NotAStore_init : He.DefD := ⟨("NotAStore", some "__init__"), "__init__", "NotAStore.__init__", defArgs s_NotAStore_init, defBody s_NotAStore_init, defScope s_NotAStore_init, [], []⟩
def d_UnknownName_init : He.DefD := ⟨("UnknownName", some "__init__"), "__init__", "UnknownName.__init__", defArgs s_UnknownName_init, defBody s_UnknownName_init, defScope s_UnknownName_init, [], []⟩
def d_is_whole : He.DefD := ⟨("is_whole", none), "is_whole", "is_whole", defArgs s_is_whole, defBody s_is_whole, defScope s_is_whole, [], []⟩
def d_is_between : He.DefD := ⟨("is_between", none), "is_between", "is_between", defArgs s_is_between, defBody s_is_between, defScope s_is_between, [], []⟩
def d_is_place : He.DefD := ⟨("is_place", none), "is_place", "is_place", defArgs s_is_place, defBody s_is_place, defScope s_is_place, [], []⟩
def d_is_letter : He.DefD := ⟨("is_letter", none), "is_letter", "is_letter", defArgs s_is_letter, defBody s_is_letter, defScope s_is_letter, [], []⟩
def d_is_pair : He.DefD := ⟨("is_pair", none), "is_pair", "is_pair", defArgs s_is_pair, defBody s_is_pair, defScope s_is_pair, [], []⟩
def d_are_name_pairs : He.DefD := ⟨("are_name_pairs", none), "are_name_pairs", "are_name_pairs", defArgs s_are_name_pairs, defBody s_are_name_pairs, defScope s_are_name_pairs, [], []⟩
def d_check_cells : He.DefD := ⟨("check_cells", none), "check_cells", "check_cells", defArgs s_check_cells, defBody s_check_cells, defScope s_check_cells, [], []⟩
def d_Store_init : He.DefD := ⟨("Store", some "__init__"), "__init__", "Store.__init__", defArgs s_Store_init, defBody s_Store_init, defScope s_Store_init, [], []⟩
def d_Store_at : He.DefD := ⟨("Store", some "at"), "at", "Store.at", defArgs s_Store_at, defBody s_Store_at, defScope s_Store_at, [], []⟩
def d_check_store : He.DefD := ⟨("check_store", none), "check_store", "check_store", defArgs s_check_store, defBody s_check_store, defScope s_check_store, [], []⟩
def d_walked : He.DefD := ⟨("walked", none), "walked", "walked", defArgs s_walked, defBody s_walked, defScope s_walked, [], []⟩
def d_tail_and_ring : He.DefD := ⟨("tail_and_ring", none), "tail_and_ring", "tail_and_ring", defArgs s_tail_and_ring, defBody s_tail_and_ring, defScope s_tail_and_ring, [], []⟩
def d_check_number : He.DefD := ⟨("check_number", none), "check_number", "check_number", defArgs s_check_number, defBody s_check_number, defScope s_check_number, [], []⟩
def d_check_track : He.DefD := ⟨("check_track", none), "check_track", "check_track", defArgs s_check_track, defBody s_check_track, defScope s_check_track, [], []⟩
def d_check_paces : He.DefD := ⟨("check_paces", none), "check_paces", "check_paces", defArgs s_check_paces, defBody s_check_paces, defScope s_check_paces, [], []⟩
def d_stop_after : He.DefD := ⟨("stop_after", none), "stop_after", "stop_after", defArgs s_stop_after, defBody s_stop_after, defScope s_stop_after, [], []⟩
def d_inverse : He.DefD := ⟨("inverse", none), "inverse", "inverse", defArgs s_inverse, defBody s_inverse, defScope s_inverse, [], []⟩
def d_first_turn : He.DefD := ⟨("first_turn", none), "first_turn", "first_turn", defArgs s_first_turn, defBody s_first_turn, defScope s_first_turn, [], []⟩
def d_meet : He.DefD := ⟨("meet", none), "meet", "meet", defArgs s_meet, defBody s_meet, defScope s_meet, [], []⟩
def d_doubling_steps : He.DefD := ⟨("doubling_steps", none), "doubling_steps", "doubling_steps", defArgs s_doubling_steps, defBody s_doubling_steps, defScope s_doubling_steps, [], []⟩
def d_track_of : He.DefD := ⟨("track_of", none), "track_of", "track_of", defArgs s_track_of, defBody s_track_of, defScope s_track_of, [], []⟩
def d_meeting_place : He.DefD := ⟨("meeting_place", none), "meeting_place", "meeting_place", defArgs s_meeting_place, defBody s_meeting_place, defScope s_meeting_place, [], []⟩
def d_Heap_init : He.DefD := ⟨("Heap", some "__init__"), "__init__", "Heap.__init__", defArgs s_Heap_init, defBody s_Heap_init, defScope s_Heap_init, [], []⟩
def d_Heap_place_of : He.DefD := ⟨("Heap", some "place_of"), "place_of", "Heap.place_of", defArgs s_Heap_place_of, defBody s_Heap_place_of, defScope s_Heap_place_of, [], []⟩
def d_Heap_done : He.DefD := ⟨("Heap", some "done"), "done", "Heap.done", defArgs s_Heap_done, defBody s_Heap_done, defScope s_Heap_done, [], []⟩
def d_Heap_is_same : He.DefD := ⟨("Heap", some "is_same"), "is_same", "Heap.is_same", defArgs s_Heap_is_same, defBody s_Heap_is_same, defScope s_Heap_is_same, [], []⟩
def d_Heap_holds : He.DefD := ⟨("Heap", some "holds"), "holds", "Heap.holds", defArgs s_Heap_holds, defBody s_Heap_holds, defScope s_Heap_holds, [], []⟩
def d_Heap_store : He.DefD := ⟨("Heap", some "store"), "store", "Heap.store", defArgs s_Heap_store, defBody s_Heap_store, defScope s_Heap_store, [], []⟩
def d_heap_of : He.DefD := ⟨("heap_of", none), "heap_of", "heap_of", defArgs s_heap_of, defBody s_heap_of, defScope s_heap_of, [], []⟩
def d_asked_letters : He.DefD := ⟨("asked_letters", none), "asked_letters", "asked_letters", defArgs s_asked_letters, defBody s_asked_letters, defScope s_asked_letters, [], []⟩
def d_set_letters : He.DefD := ⟨("set_letters", none), "set_letters", "set_letters", defArgs s_set_letters, defBody s_set_letters, defScope s_set_letters, [], []⟩
def d_is_goal : He.DefD := ⟨("is_goal", none), "is_goal", "is_goal", defArgs s_is_goal, defBody s_is_goal, defScope s_is_goal, [], []⟩
def d_Words_init : He.DefD := ⟨("Words", some "__init__"), "__init__", "Words.__init__", defArgs s_Words_init, defBody s_Words_init, defScope s_Words_init, [], []⟩
def d_Words_peek : He.DefD := ⟨("Words", some "peek"), "peek", "Words.peek", defArgs s_Words_peek, defBody s_Words_peek, defScope s_Words_peek, [], []⟩
def d_Words_take : He.DefD := ⟨("Words", some "take"), "take", "Words.take", defArgs s_Words_take, defBody s_Words_take, defScope s_Words_take, [], []⟩
def d_Words_is_over : He.DefD := ⟨("Words", some "is_over"), "is_over", "Words.is_over", defArgs s_Words_is_over, defBody s_Words_is_over, defScope s_Words_is_over, [], []⟩
def d_split_words : He.DefD := ⟨("split_words", none), "split_words", "split_words", defArgs s_split_words, defBody s_split_words, defScope s_split_words, [], []⟩
def d_read_comparison : He.DefD := ⟨("read_comparison", none), "read_comparison", "read_comparison", defArgs s_read_comparison, defBody s_read_comparison, defScope s_read_comparison, [], []⟩
def d_read_test : He.DefD := ⟨("read_test", none), "read_test", "read_test", defArgs s_read_test, defBody s_read_test, defScope s_read_test, [], []⟩
def d_read_next_or_tie : He.DefD := ⟨("read_next_or_tie", none), "read_next_or_tie", "read_next_or_tie", defArgs s_read_next_or_tie, defBody s_read_next_or_tie, defScope s_read_next_or_tie, [], []⟩
def d_read_block : He.DefD := ⟨("read_block", none), "read_block", "read_block", defArgs s_read_block, defBody s_read_block, defScope s_read_block, [], []⟩
def d_read_while : He.DefD := ⟨("read_while", none), "read_while", "read_while", defArgs s_read_while, defBody s_read_while, defScope s_read_while, [], []⟩
def d_read_statement : He.DefD := ⟨("read_statement", none), "read_statement", "read_statement", defArgs s_read_statement, defBody s_read_statement, defScope s_read_statement, [], []⟩
def d_read_rows : He.DefD := ⟨("read_rows", none), "read_rows", "read_rows", defArgs s_read_rows, defBody s_read_rows, defScope s_read_rows, [], []⟩
def d_count_statements : He.DefD := ⟨("count_statements", none), "count_statements", "count_statements", defArgs s_count_statements, defBody s_count_statements, defScope s_count_statements, [], []⟩
def d_tree_of : He.DefD := ⟨("tree_of", none), "tree_of", "tree_of", defArgs s_tree_of, defBody s_tree_of, defScope s_tree_of, [], []⟩
def d_program_tree : He.DefD := ⟨("program_tree", none), "program_tree", "program_tree", defArgs s_program_tree, defBody s_program_tree, defScope s_program_tree, [], []⟩
def d_test_letters : He.DefD := ⟨("test_letters", none), "test_letters", "test_letters", defArgs s_test_letters, defBody s_test_letters, defScope s_test_letters, [], []⟩
def d_tree_letters : He.DefD := ⟨("tree_letters", none), "tree_letters", "tree_letters", defArgs s_tree_letters, defBody s_tree_letters, defScope s_tree_letters, [], []⟩
def d_put_loop : He.DefD := ⟨("put_loop", none), "put_loop", "put_loop", defArgs s_put_loop, defBody s_put_loop, defScope s_put_loop, [], []⟩
def d_put_steps : He.DefD := ⟨("put_steps", none), "put_steps", "put_steps", defArgs s_put_steps, defBody s_put_steps, defScope s_put_steps, [], []⟩
def d_steps_of : He.DefD := ⟨("steps_of", none), "steps_of", "steps_of", defArgs s_steps_of, defBody s_steps_of, defScope s_steps_of, [], []⟩
def d_helpers_of : He.DefD := ⟨("helpers_of", none), "helpers_of", "helpers_of", defArgs s_helpers_of, defBody s_helpers_of, defScope s_helpers_of, [], []⟩
def d_check_letters : He.DefD := ⟨("check_letters", none), "check_letters", "check_letters", defArgs s_check_letters, defBody s_check_letters, defScope s_check_letters, [], []⟩
def d_check_most : He.DefD := ⟨("check_most", none), "check_most", "check_most", defArgs s_check_most, defBody s_check_most, defScope s_check_most, [], []⟩
def d_Run_init : He.DefD := ⟨("Run", some "__init__"), "__init__", "Run.__init__", defArgs s_Run_init, defBody s_Run_init, defScope s_Run_init, [], []⟩
def d_Notes_init : He.DefD := ⟨("Notes", some "__init__"), "__init__", "Notes.__init__", defArgs s_Notes_init, defBody s_Notes_init, defScope s_Notes_init, [], []⟩
def d_Notes_note_deed : He.DefD := ⟨("Notes", some "note_deed"), "note_deed", "Notes.note_deed", defArgs s_Notes_note_deed, defBody s_Notes_note_deed, defScope s_Notes_note_deed, [], []⟩
def d_Notes_note_test : He.DefD := ⟨("Notes", some "note_test"), "note_test", "Notes.note_test", defArgs s_Notes_note_test, defBody s_Notes_note_test, defScope s_Notes_note_test, [], []⟩
def d_Walk_init : He.DefD := ⟨("Walk", some "__init__"), "__init__", "Walk.__init__", defArgs s_Walk_init, defBody s_Walk_init, defScope s_Walk_init, [], []⟩
def d_Walk_lead : He.DefD := ⟨("Walk", some "lead"), "lead", "Walk.lead", defArgs s_Walk_lead, defBody s_Walk_lead, defScope s_Walk_lead, [], []⟩
def d_Walk_is_over : He.DefD := ⟨("Walk", some "is_over"), "is_over", "Walk.is_over", defArgs s_Walk_is_over, defBody s_Walk_is_over, defScope s_Walk_is_over, [], []⟩
def d_Walk_step : He.DefD := ⟨("Walk", some "step"), "step", "Walk.step", defArgs s_Walk_step, defBody s_Walk_step, defScope s_Walk_step, [], []⟩
def d_walk_of : He.DefD := ⟨("walk_of", none), "walk_of", "walk_of", defArgs s_walk_of, defBody s_walk_of, defScope s_walk_of, [], []⟩
def d_word_of : He.DefD := ⟨("word_of", none), "word_of", "word_of", defArgs s_word_of, defBody s_word_of, defScope s_word_of, [], []⟩
def d_check_run_cells : He.DefD := ⟨("check_run_cells", none), "check_run_cells", "check_run_cells", defArgs s_check_run_cells, defBody s_check_run_cells, defScope s_check_run_cells, [], []⟩
def d_walked_run : He.DefD := ⟨("walked_run", none), "walked_run", "walked_run", defArgs s_walked_run, defBody s_walked_run, defScope s_walked_run, [], []⟩
def d_run : He.DefD := ⟨("run", none), "run", "run", defArgs s_run, defBody s_run, defScope s_run, [], []⟩
def d__law_well : He.DefD := ⟨("_law_well", none), "_law_well", "_law_well", defArgs s__law_well, defBody s__law_well, defScope s__law_well, [], []⟩
def d__law_take : He.DefD := ⟨("_law_take", none), "_law_take", "_law_take", defArgs s__law_take, defBody s__law_take, defScope s__law_take, [], []⟩
def d__law_pick : He.DefD := ⟨("_law_pick", none), "_law_pick", "_law_pick", defArgs s__law_pick, defBody s__law_pick, defScope s__law_pick, [], []⟩
def d__law_drawn : He.DefD := ⟨("_law_drawn", none), "_law_drawn", "_law_drawn", defArgs s__law_drawn, defBody s__law_drawn, defScope s__law_drawn, [], []⟩
def d__law_store : He.DefD := ⟨("_law_store", none), "_law_store", "_law_store", defArgs s__law_store, defBody s__law_store, defScope s__law_store, [], []⟩
def d__law_odd : He.DefD := ⟨("_law_odd", none), "_law_odd", "_law_odd", defArgs s__law_odd, defBody s__law_odd, defScope s__law_odd, [], []⟩
def d__law_stop : He.DefD := ⟨("_law_stop", none), "_law_stop", "_law_stop", defArgs s__law_stop, defBody s__law_stop, defScope s__law_stop, [], []⟩
def d__law_first_meeting : He.DefD := ⟨("_law_first_meeting", none), "_law_first_meeting", "_law_first_meeting", defArgs s__law_first_meeting, defBody s__law_first_meeting, defScope s__law_first_meeting, [], []⟩
def d__law_great_number : He.DefD := ⟨("_law_great_number", none), "_law_great_number", "_law_great_number", defArgs s__law_great_number, defBody s__law_great_number, defScope s__law_great_number, [], []⟩
def d__law_track : He.DefD := ⟨("_law_track", none), "_law_track", "_law_track", defArgs s__law_track, defBody s__law_track, defScope s__law_track, [], []⟩
def d__law_doubling : He.DefD := ⟨("_law_doubling", none), "_law_doubling", "_law_doubling", defArgs s__law_doubling, defBody s__law_doubling, defScope s__law_doubling, [], []⟩
def d__law_formula : He.DefD := ⟨("_law_formula", none), "_law_formula", "_law_formula", defArgs s__law_formula, defBody s__law_formula, defScope s__law_formula, [], []⟩
def d__law_error : He.DefD := ⟨("_law_error", none), "_law_error", "_law_error", defArgs s__law_error, defBody s__law_error, defScope s__law_error, [], []⟩
def d__law_are_refused : He.DefD := ⟨("_law_are_refused", none), "_law_are_refused", "_law_are_refused", defArgs s__law_are_refused, defBody s__law_are_refused, defScope s__law_are_refused, [], []⟩
def d__law_is_store_right : He.DefD := ⟨("_law_is_store_right", none), "_law_is_store_right", "_law_is_store_right", defArgs s__law_is_store_right, defBody s__law_is_store_right, defScope s__law_is_store_right, [], []⟩
def d__law_is_program_right : He.DefD := ⟨("_law_is_program_right", none), "_law_is_program_right", "_law_is_program_right", defArgs s__law_is_program_right, defBody s__law_is_program_right, defScope s__law_is_program_right, [], []⟩
def d__law_right : He.DefD := ⟨("_law_right", none), "_law_right", "_law_right", defArgs s__law_right, defBody s__law_right, defScope s__law_right, [], []⟩
def d_law : He.DefD := ⟨("law", none), "law", "law", defArgs s_law, defBody s_law, defScope s_law, [], []⟩
def fn0 : List He.DefD := [d_InvalidNumber_init, d_NotAStore_init, d_UnknownName_init, d_is_whole, d_is_between, d_is_place, d_is_letter, d_is_pair, d_are_name_pairs, d_check_cells, d_Store_init, d_Store_at, d_check_store, d_walked, d_tail_and_ring, d_check_number, d_check_track, d_check_paces, d_stop_after, d_inverse, d_first_turn, d_meet, d_doubling_steps, d_track_of, d_meeting_place]
def fn1 : List He.DefD := [d_Heap_init, d_Heap_place_of, d_Heap_done, d_Heap_is_same, d_Heap_holds, d_Heap_store, d_heap_of, d_asked_letters, d_set_letters, d_is_goal, d_Words_init, d_Words_peek, d_Words_take, d_Words_is_over, d_split_words, d_read_comparison, d_read_test, d_read_next_or_tie, d_read_block, d_read_while, d_read_statement, d_read_rows, d_count_statements, d_tree_of, d_program_tree]
def fn2 : List He.DefD := [d_test_letters, d_tree_letters, d_put_loop, d_put_steps, d_steps_of, d_helpers_of, d_check_letters, d_check_most, d_Run_init, d_Notes_init, d_Notes_note_deed, d_Notes_note_test, d_Walk_init, d_Walk_lead, d_Walk_is_over, d_Walk_step, d_walk_of, d_word_of, d_check_run_cells, d_walked_run, d_run, d__law_well, d__law_take, d__law_pick, d__law_drawn]
def fn3 : List He.DefD := [d__law_store, d__law_odd, d__law_stop, d__law_first_meeting, d__law_great_number, d__law_track, d__law_doubling, d__law_formula, d__law_error, d__law_are_refused, d__law_is_store_right, d__law_is_program_right, d__law_right, d_law]
def fn : List He.DefD := fn0 ++ fn1 ++ fn2 ++ fn3
def ex0 : List (PySem.W.Frag → Bool) := [fun K => (He.Fa.ok K (.glo "is_whole")),
  fun K => (He.Fa.ok K (.glo "is_between")),
  fun K => (He.Fa.ok K (.glo "is_place")),
  fun K => (He.Fa.ok K (.glo "is_letter")),
  fun K => (He.Fa.ok K (.glo "is_pair")),
  fun K => (He.Fa.ok K (.glo "are_name_pairs")),
  fun K => (He.Fa.ok K (.glo "check_cells")),
  fun K => (He.Fa.ok K (.glo "check_store")),
  fun K => (He.Fa.ok K (.glo "walked")),
  fun K => (He.Fa.ok K (.glo "tail_and_ring")),
  fun K => (He.Fa.ok K (.glo "check_number")),
  fun K => (He.Fa.ok K (.glo "check_track")),
  fun K => (He.Fa.ok K (.glo "check_paces")),
  fun K => (He.Fa.ok K (.glo "stop_after")),
  fun K => (He.Fa.ok K (.glo "inverse")),
  fun K => (He.Fa.ok K (.glo "first_turn")),
  fun K => (He.Fa.ok K (.glo "meet")),
  fun K => (He.Fa.ok K (.glo "doubling_steps")),
  fun K => (He.Fa.ok K (.glo "track_of")),
  fun K => (He.Fa.ok K (.glo "meeting_place")),
  fun K => (He.Fa.ok K (.glo "heap_of")),
  fun K => (He.Fa.ok K (.glo "asked_letters")),
  fun K => (He.Fa.ok K (.glo "set_letters")),
  fun K => (He.Fa.ok K (.glo "is_goal")),
  fun K => (He.Fa.ok K (.glo "split_words"))]
def ex1 : List (PySem.W.Frag → Bool) := [fun K => (He.Fa.ok K (.glo "read_comparison")),
  fun K => (He.Fa.ok K (.glo "read_test")),
  fun K => (He.Fa.ok K (.glo "read_next_or_tie")),
  fun K => (He.Fa.ok K (.glo "read_block")),
  fun K => (He.Fa.ok K (.glo "read_while")),
  fun K => (He.Fa.ok K (.glo "read_statement")),
  fun K => (He.Fa.ok K (.glo "read_rows")),
  fun K => (He.Fa.ok K (.glo "count_statements")),
  fun K => (He.Fa.ok K (.glo "tree_of")),
  fun K => (He.Fa.ok K (.glo "program_tree")),
  fun K => (He.Fa.ok K (.glo "test_letters")),
  fun K => (He.Fa.ok K (.glo "tree_letters")),
  fun K => (He.Fa.ok K (.glo "put_loop")),
  fun K => (He.Fa.ok K (.glo "put_steps")),
  fun K => (He.Fa.ok K (.glo "steps_of")),
  fun K => (He.Fa.ok K (.glo "helpers_of")),
  fun K => (He.Fa.ok K (.glo "check_letters")),
  fun K => (He.Fa.ok K (.glo "check_most")),
  fun K => (He.Fa.ok K (.glo "walk_of")),
  fun K => (He.Fa.ok K (.glo "word_of")),
  fun K => (He.Fa.ok K (.glo "check_run_cells")),
  fun K => (He.Fa.ok K (.glo "walked_run")),
  fun K => (He.Fa.ok K (.glo "run")),
  fun K => (He.Fa.ok K (.glo "_law_well")),
  fun K => (He.Fa.ok K (.glo "_law_take"))]
def ex2 : List (PySem.W.Frag → Bool) := [fun K => (He.Fa.ok K (.glo "_law_pick")),
  fun K => (He.Fa.ok K (.glo "_law_drawn")),
  fun K => (He.Fa.ok K (.glo "_law_store")),
  fun K => (He.Fa.ok K (.glo "_law_odd")),
  fun K => (He.Fa.ok K (.glo "_law_stop")),
  fun K => (He.Fa.ok K (.glo "_law_first_meeting")),
  fun K => (He.Fa.ok K (.glo "_law_great_number")),
  fun K => (He.Fa.ok K (.glo "_law_track")),
  fun K => (He.Fa.ok K (.glo "_law_doubling")),
  fun K => (He.Fa.ok K (.glo "_law_formula")),
  fun K => (He.Fa.ok K (.glo "_law_error")),
  fun K => (He.Fa.ok K (.glo "_law_are_refused")),
  fun K => (He.Fa.ok K (.glo "_law_is_store_right")),
  fun K => (He.Fa.ok K (.glo "_law_is_program_right")),
  fun K => (He.Fa.ok K (.glo "_law_right")),
  fun K => (He.Fa.ok K (.glo "law")),
  fun K => (He.Fa.ok K (.glo "Store")),
  fun K => (He.Fa.ok K (.glo "Heap")),
  fun K => (He.Fa.ok K (.glo "Words")),
  fun K => (He.Fa.ok K (.glo "Run")),
  fun K => (He.Fa.ok K (.glo "Notes")),
  fun K => (He.Fa.ok K (.glo "Walk")),
  fun K => (He.Fa.ok K (.glo "InvalidNumber")),
  fun K => (He.Fa.ok K (.glo "NotAStore")),
  fun K => (He.Fa.ok K (.glo "UnknownName"))]
def ex3 : List (PySem.W.Frag → Bool) := [fun K => (He.Fa.ok K (.glo "ArrowError")),
  fun K => (He.Fa.ok K (.free "len")),
  fun K => (He.Fa.ok K (.free "isinstance")),
  fun K => (He.Fa.ok K (.free "tuple")),
  fun K => (He.Fa.ok K (.free "dict")),
  fun K => (He.Fa.ok K (.free "sorted")),
  fun K => (He.Fa.ok K (.free "int")),
  fun K => (He.Fa.ok K (.free "abs")),
  fun K => (He.Fa.ok K (.free "max")),
  fun K => (He.Fa.ok K (.free "min")),
  fun K => (He.Fa.ok K (.free "all")),
  fun K => (He.Fa.ok K (.free "any")),
  fun K => (He.Fa.ok K (.free "list")),
  fun K => (He.Fa.ok K (.free "repr")),
  fun K => (He.Fa.ok K (.free "divmod")),
  fun K => (He.Fa.ok K (.free "range")),
  fun K => (He.Fa.ok K (.free "enumerate")),
  fun K => (He.Fa.ok K (.free "sum")),
  fun K => (He.Fa.ok K (.free "str")),
  fun K => (He.Fa.ok K (.free "bool")),
  fun K => (He.Fa.ok K (.int "END" 0)),
  fun K => (He.Fa.ok K (.int "MOST_PLACE" 999)),
  fun K => (He.Fa.ok K (.int "MOST_CELLS" 500)),
  fun K => (He.Fa.ok K (.int "MOST_NAMES" 4)),
  fun K => (He.Fa.ok K (.int "MOST_BRACES" 4))]
def ex4 : List (PySem.W.Frag → Bool) := [fun K => (He.Fa.ok K (.int "MOST_STATEMENTS" 30)),
  fun K => (He.Fa.ok K (.int "MOST_COMPARISONS" 3)),
  fun K => (He.Fa.ok K (.int "MOST_LETTERS" 4)),
  fun K => (He.Fa.ok K (.int "MOST_STEPS" 400)),
  fun K => (He.Fa.ok K (.int "MOST_RUN_CELLS" 100)),
  fun K => (He.Fa.ok K (.int "FAR" (10 ^ 30))),
  fun K => (He.Fa.ok K (.str "LETTERS" "abcdefghijklmnopqrstuvwxyz")),
  fun K => decide (PySem.W.nsIn K mainGlobals "gcd" = some (some (.builtin "math.gcd"))),
  fun K => (He.Fa.ok K (.cls "Store")),
  fun K => (He.Fa.ok K (.mkr "Store")),
  fun K => (He.Fa.ok K (.noat "Store" "names")),
  fun K => (He.Fa.ok K (.noat "Store" "cells")),
  fun K => (He.Fa.ok K (.noat "Store" "places")),
  fun K => (He.Fa.ok K (.noat "Store" "arrows")),
  fun K => (He.Fa.ok K (.noat "Store" "letters")),
  fun K => (He.Fa.ok K (.cls "Heap")),
  fun K => (He.Fa.ok K (.mkr "Heap")),
  fun K => (He.Fa.ok K (.noat "Heap" "names")),
  fun K => (He.Fa.ok K (.noat "Heap" "cells")),
  fun K => (He.Fa.ok K (.noat "Heap" "used")),
  fun K => (He.Fa.ok K (.noat "Heap" "made")),
  fun K => (He.Fa.ok K (.cls "Words")),
  fun K => (He.Fa.ok K (.mkr "Words")),
  fun K => (He.Fa.ok K (.noat "Words" "words")),
  fun K => (He.Fa.ok K (.noat "Words" "at"))]
def ex5 : List (PySem.W.Frag → Bool) := [fun K => (He.Fa.ok K (.cls "Run")),
  fun K => (He.Fa.ok K (.mkr "Run")),
  fun K => (He.Fa.ok K (.noat "Run" "word")),
  fun K => (He.Fa.ok K (.noat "Run" "store")),
  fun K => (He.Fa.ok K (.noat "Run" "steps")),
  fun K => (He.Fa.ok K (.noat "Run" "deed")),
  fun K => (He.Fa.ok K (.noat "Run" "reads")),
  fun K => (He.Fa.ok K (.noat "Run" "writes")),
  fun K => (He.Fa.ok K (.noat "Run" "asks")),
  fun K => (He.Fa.ok K (.noat "Run" "sets")),
  fun K => (He.Fa.ok K (.cls "Notes")),
  fun K => (He.Fa.ok K (.mkr "Notes")),
  fun K => (He.Fa.ok K (.noat "Notes" "reads")),
  fun K => (He.Fa.ok K (.noat "Notes" "writes")),
  fun K => (He.Fa.ok K (.noat "Notes" "asks")),
  fun K => (He.Fa.ok K (.noat "Notes" "sets")),
  fun K => (He.Fa.ok K (.cls "Walk")),
  fun K => (He.Fa.ok K (.mkr "Walk")),
  fun K => (He.Fa.ok K (.noat "Walk" "code")),
  fun K => (He.Fa.ok K (.noat "Walk" "heap")),
  fun K => (He.Fa.ok K (.noat "Walk" "at")),
  fun K => (He.Fa.ok K (.noat "Walk" "steps")),
  fun K => (He.Fa.ok K (.noat "Walk" "deed")),
  fun K => (He.Fa.ok K (.noat "Walk" "notes")),
  fun K => (He.Fa.ok K (.meth "Store" "at"))]
def ex6 : List (PySem.W.Frag → Bool) := [fun K => (He.Fa.ok K (.meth "Heap" "place_of")),
  fun K => (He.Fa.ok K (.meth "Heap" "done")),
  fun K => (He.Fa.ok K (.meth "Heap" "is_same")),
  fun K => (He.Fa.ok K (.meth "Heap" "holds")),
  fun K => (He.Fa.ok K (.meth "Heap" "store")),
  fun K => (He.Fa.ok K (.meth "Words" "peek")),
  fun K => (He.Fa.ok K (.meth "Words" "take")),
  fun K => (He.Fa.ok K (.meth "Words" "is_over")),
  fun K => (He.Fa.ok K (.meth "Notes" "note_deed")),
  fun K => (He.Fa.ok K (.meth "Notes" "note_test")),
  fun K => (He.Fa.ok K (.meth "Walk" "lead")),
  fun K => (He.Fa.ok K (.meth "Walk" "is_over")),
  fun K => (He.Fa.ok K (.meth "Walk" "step")),
  fun K => decide (PySem.W.findIn K (.ref (He.ga K "Store")) "__class__" = some (some (.builtin "object.__class__"))),
  fun K => decide (PySem.W.specialIn K (.builtin "object.__class__") "__get__" = some (some (.builtin "getset_descriptor.__get__"))),
  fun K => decide (PySem.W.takesIn K (.builtin "object.__class__") = some true),
  fun K => decide (PySem.W.mroIn K (He.ga K "Store") (.type "object") = some true),
  fun K => decide (PySem.W.kitOne K (.type "NoneType") (.ref (He.ga K "Store")) = some false),
  fun K => decide (PySem.W.kitOne K (.type "bool") (.ref (He.ga K "Store")) = some false),
  fun K => decide (PySem.W.kitOne K (.type "int") (.ref (He.ga K "Store")) = some false),
  fun K => decide (PySem.W.kitOne K (.type "str") (.ref (He.ga K "Store")) = some false),
  fun K => decide (PySem.W.kitOne K (.type "tuple") (.ref (He.ga K "Store")) = some false),
  fun K => decide (PySem.W.kitOne K (.type "list") (.ref (He.ga K "Store")) = some false),
  fun K => decide (PySem.W.kitOne K (.type "dict") (.ref (He.ga K "Store")) = some false),
  fun K => decide (PySem.W.kitOne K (.ref (He.ga K "Store")) (.ref (He.ga K "Store")) = some true)]
def ex7 : List (PySem.W.Frag → Bool) := [fun K => oexB K (He.ga K "InvalidNumber"),
  fun K => decide (PySem.W.findIn K (.ref (He.ga K "InvalidNumber")) "__init__" = some (some (.ref (He.ma K (He.ga K "InvalidNumber") "__init__")))),
  fun K => decide (PySem.W.typeIn K (.ref (He.ma K (He.ga K "InvalidNumber") "__init__")) = some (.type "function")),
  fun K => decide (PySem.W.findIn K (.ref (He.ga K "InvalidNumber")) "given" = some none),
  fun K => xfB K (He.ga K "InvalidNumber"),
  fun K => decide (PySem.W.exmOne K (.ref (He.ga K "InvalidNumber")) (.ref (He.ga K "InvalidNumber")) = some true),
  fun K => decide (PySem.W.exmOne K (.ref (He.ga K "InvalidNumber")) (.ref (He.ga K "NotAStore")) = some false),
  fun K => decide (PySem.W.exmOne K (.ref (He.ga K "InvalidNumber")) (.ref (He.ga K "UnknownName")) = some false),
  fun K => oexB K (He.ga K "NotAStore"),
  fun K => decide (PySem.W.findIn K (.ref (He.ga K "NotAStore")) "__init__" = some (some (.ref (He.ma K (He.ga K "NotAStore") "__init__")))),
  fun K => decide (PySem.W.typeIn K (.ref (He.ma K (He.ga K "NotAStore") "__init__")) = some (.type "function")),
  fun K => decide (PySem.W.findIn K (.ref (He.ga K "NotAStore")) "given" = some none),
  fun K => xfB K (He.ga K "NotAStore"),
  fun K => decide (PySem.W.exmOne K (.ref (He.ga K "NotAStore")) (.ref (He.ga K "InvalidNumber")) = some false),
  fun K => decide (PySem.W.exmOne K (.ref (He.ga K "NotAStore")) (.ref (He.ga K "NotAStore")) = some true),
  fun K => decide (PySem.W.exmOne K (.ref (He.ga K "NotAStore")) (.ref (He.ga K "UnknownName")) = some false),
  fun K => oexB K (He.ga K "UnknownName"),
  fun K => decide (PySem.W.findIn K (.ref (He.ga K "UnknownName")) "__init__" = some (some (.ref (He.ma K (He.ga K "UnknownName") "__init__")))),
  fun K => decide (PySem.W.typeIn K (.ref (He.ma K (He.ga K "UnknownName") "__init__")) = some (.type "function")),
  fun K => decide (PySem.W.findIn K (.ref (He.ga K "UnknownName")) "given" = some none),
  fun K => xfB K (He.ga K "UnknownName"),
  fun K => decide (PySem.W.exmOne K (.ref (He.ga K "UnknownName")) (.ref (He.ga K "InvalidNumber")) = some false),
  fun K => decide (PySem.W.exmOne K (.ref (He.ga K "UnknownName")) (.ref (He.ga K "NotAStore")) = some false),
  fun K => decide (PySem.W.exmOne K (.ref (He.ga K "UnknownName")) (.ref (He.ga K "UnknownName")) = some true),
  fun K => decide (PySem.W.findIn K (.ref (He.ga K "InvalidNumber")) "__class__" = some (some (.builtin "object.__class__")))]
def ex8 : List (PySem.W.Frag → Bool) := [fun K => decide (PySem.W.mroIn K (He.ga K "InvalidNumber") (.type "object") = some true),
  fun K => decide (PySem.W.kitOne K (.ref (He.ga K "InvalidNumber")) (.ref (He.ga K "ArrowError")) = some true),
  fun K => (K.lookup sysModules).isSome]
def ex : List (PySem.W.Frag → Bool) := ex0 ++ ex1 ++ ex2 ++ ex3 ++ ex4 ++ ex5 ++ ex6 ++ ex7 ++ ex8
/-! ### the Hook -/
def obsB (K : PySem.W.Frag) : He.AlD := ((ex.all fun f => f K) && fn.all fun d => d.ok K, fn.map fun d => He.fnW K d.at_)
def valB : He.AlD := (true, fn.map He.DefD.val)
def SaysB (K : PySem.W.Frag) : Prop := obsB K = valB
/-- what is looked at: the module's dict, what its names stand for, functions' code, classes' dicts, methods, methods' code -/
def hdVals (o : Option Obj) : List Addr := match o with
  | some ⟨_, _, .dict es _, _⟩ => es.toList.flatMap fun e => He.refV e.val
  | _ => []
def hdNext (g : Addr → Option Obj) (a : Addr) : List Addr := match g a with
  | some ⟨_, _, .func fd, _⟩ => He.refV fd.code
  | some ⟨_, _, .cls cd, _⟩ => [cd.ns]
  | _ => []
def asB (g : Addr → Option Obj) : List Addr :=
  (hdVals (g mainGlobals)).foldr (fun a r => a :: (hdNext g a ++ r)) [] |> fun l2 =>
  sysModules :: mainGlobals :: (l2 ++ (l2.flatMap fun a => if a = mainGlobals then [] else hdVals (g a)).foldr (fun a r => a :: (hdNext g a ++ r)) [])
def obsBG (g : Addr → Option Obj) : He.AlD := obsB (He.frG g (asB g))
def hk : PySem.W.Hook where
  α := He.AlD
  obs := fun s => obsBG s.heap.get?
  val := fun _ => valB
  says := fun _ h => ∃ K : PySem.W.Frag, K.In h ∧ SaysB K
  of := fun _ _ e => ⟨_, He.frG_in, e⟩
  keeps := fun _ _ _ ⟨K, hK, c⟩ k => ⟨K, PySem.W.Frag.In.keeps hK k, c⟩
theorem obsBG_eq {g : Addr → Option Obj} {s : Shared} (h : ∀ a, g a = s.heap.get? a) : obsBG g = hk.obs s := by
  have e : g = s.heap.get? := funext h
  rw [e] <;> rfl
theorem SaysB.fact {K : PySem.W.Frag} (c : SaysB K) {f : PySem.W.Frag → Bool} (h : f ∈ ex) : f K = true := by
  have c1 := (He.ba (show ((ex.all fun f => f K) && fn.all fun d => d.ok K) = true from congrArg (fun z : He.AlD => z.1) c)).1
  exact List.all_eq_true.mp c1 f h
theorem SaysB.def_ {K : PySem.W.Frag} (c : SaysB K) {d : He.DefD} (h : d ∈ fn) : ∃ fd, FunD K d.name d.qual d.params d.body d.scope (d.dvs K) (d.kws K) (He.fAd K d.at_) fd := by
  have c2 := (He.ba (show ((ex.all fun f => f K) && fn.all fun d => d.ok K) = true from congrArg (fun z : He.AlD => z.1) c)).2
  have e : fn.map (fun d => He.fnW K d.at_) = fn.map He.DefD.val := congrArg (fun z : He.AlD => z.2) c
  have e2 : He.fnW K d.at_ = d.val := by
    obtain ⟨i, hi⟩ := List.getElem?_of_mem h
    have e3 : (fn.map fun d => He.fnW K d.at_)[i]? = (fn.map He.DefD.val)[i]? := by rw [e]
    rw [List.getElem?_map, List.getElem?_map, hi] at e3
    exact Option.some.inj e3
  exact He.DefD.funD e2 (List.all_eq_true.mp c2 d h)
abbrev FnP (K : PySem.W.Frag) (x qual : Str) (st : Stmt) (f : Addr) : Prop := ∃ fd, FunD K x qual (defArgs st) (defBody st) (defScope st) [] [] f fd
/-- what the top has left -/
structure TopE (K : PySem.W.Frag) (mg : Str → Option Value) : Prop where
  g_is_whole : mg "is_whole" = some (.ref (He.ga K "is_whole"))
  g_is_between : mg "is_between" = some (.ref (He.ga K "is_between"))
  g_is_place : mg "is_place" = some (.ref (He.ga K "is_place"))
  g_is_letter : mg "is_letter" = some (.ref (He.ga K "is_letter"))
  g_is_pair : mg "is_pair" = some (.ref (He.ga K "is_pair"))
  g_are_name_pairs : mg "are_name_pairs" = some (.ref (He.ga K "are_name_pairs"))
  g_check_cells : mg "check_cells" = some (.ref (He.ga K "check_cells"))
  g_check_store : mg "check_store" = some (.ref (He.ga K "check_store"))
  g_walked : mg "walked" = some (.ref (He.ga K "walked"))
  g_tail_and_ring : mg "tail_and_ring" = some (.ref (He.ga K "tail_and_ring"))
  g_check_number : mg "check_number" = some (.ref (He.ga K "check_number"))
  g_check_track : mg "check_track" = some (.ref (He.ga K "check_track"))
  g_check_paces : mg "check_paces" = some (.ref (He.ga K "check_paces"))
  g_stop_after : mg "stop_after" = some (.ref (He.ga K "stop_after"))
  g_inverse : mg "inverse" = some (.ref (He.ga K "inverse"))
  g_first_turn : mg "first_turn" = some (.ref (He.ga K "first_turn"))
  g_meet : mg "meet" = some (.ref (He.ga K "meet"))
  g_doubling_steps : mg "doubling_steps" = some (.ref (He.ga K "doubling_steps"))
  g_track_of : mg "track_of" = some (.ref (He.ga K "track_of"))
  g_meeting_place : mg "meeting_place" = some (.ref (He.ga K "meeting_place"))
  g_heap_of : mg "heap_of" = some (.ref (He.ga K "heap_of"))
  g_asked_letters : mg "asked_letters" = some (.ref (He.ga K "asked_letters"))
  g_set_letters : mg "set_letters" = some (.ref (He.ga K "set_letters"))
  g_is_goal : mg "is_goal" = some (.ref (He.ga K "is_goal"))
  g_split_words : mg "split_words" = some (.ref (He.ga K "split_words"))
  g_read_comparison : mg "read_comparison" = some (.ref (He.ga K "read_comparison"))
  g_read_test : mg "read_test" = some (.ref (He.ga K "read_test"))
  g_read_next_or_tie : mg "read_next_or_tie" = some (.ref (He.ga K "read_next_or_tie"))
  g_read_block : mg "read_block" = some (.ref (He.ga K "read_block"))
  g_read_while : mg "read_while" = some (.ref (He.ga K "read_while"))
  g_read_statement : mg "read_statement" = some (.ref (He.ga K "read_statement"))
  g_read_rows : mg "read_rows" = some (.ref (He.ga K "read_rows"))
  g_count_statements : mg "count_statements" = some (.ref (He.ga K "count_statements"))
  g_tree_of : mg "tree_of" = some (.ref (He.ga K "tree_of"))
  g_program_tree : mg "program_tree" = some (.ref (He.ga K "program_tree"))
  g_test_letters : mg "test_letters" = some (.ref (He.ga K "test_letters"))
  g_tree_letters : mg "tree_letters" = some (.ref (He.ga K "tree_letters"))
  g_put_loop : mg "put_loop" = some (.ref (He.ga K "put_loop"))
  g_put_steps : mg "put_steps" = some (.ref (He.ga K "put_steps"))
  g_steps_of : mg "steps_of" = some (.ref (He.ga K "steps_of"))
  g_helpers_of : mg "helpers_of" = some (.ref (He.ga K "helpers_of"))
  g_check_letters : mg "check_letters" = some (.ref (He.ga K "check_letters"))
  g_check_most : mg "check_most" = some (.ref (He.ga K "check_most"))
  g_walk_of : mg "walk_of" = some (.ref (He.ga K "walk_of"))
  g_word_of : mg "word_of" = some (.ref (He.ga K "word_of"))
  g_check_run_cells : mg "check_run_cells" = some (.ref (He.ga K "check_run_cells"))
  g_walked_run : mg "walked_run" = some (.ref (He.ga K "walked_run"))
  g_run : mg "run" = some (.ref (He.ga K "run"))
  g_law_well : mg "_law_well" = some (.ref (He.ga K "_law_well"))
  g_law_take : mg "_law_take" = some (.ref (He.ga K "_law_take"))
  g_law_pick : mg "_law_pick" = some (.ref (He.ga K "_law_pick"))
  g_law_drawn : mg "_law_drawn" = some (.ref (He.ga K "_law_drawn"))
  g_law_store : mg "_law_store" = some (.ref (He.ga K "_law_store"))
  g_law_odd : mg "_law_odd" = some (.ref (He.ga K "_law_odd"))
  g_law_stop : mg "_law_stop" = some (.ref (He.ga K "_law_stop"))
  g_law_first_meeting : mg "_law_first_meeting" = some (.ref (He.ga K "_law_first_meeting"))
  g_law_great_number : mg "_law_great_number" = some (.ref (He.ga K "_law_great_number"))
  g_law_track : mg "_law_track" = some (.ref (He.ga K "_law_track"))
  g_law_doubling : mg "_law_doubling" = some (.ref (He.ga K "_law_doubling"))
  g_law_formula : mg "_law_formula" = some (.ref (He.ga K "_law_formula"))
  g_law_error : mg "_law_error" = some (.ref (He.ga K "_law_error"))
  g_law_are_refused : mg "_law_are_refused" = some (.ref (He.ga K "_law_are_refused"))
  g_law_is_store_right : mg "_law_is_store_right" = some (.ref (He.ga K "_law_is_store_right"))
  g_law_is_program_right : mg "_law_is_program_right" = some (.ref (He.ga K "_law_is_program_right"))
  g_law_right : mg "_law_right" = some (.ref (He.ga K "_law_right"))
  g_law : mg "law" = some (.ref (He.ga K "law"))
  g_Store : mg "Store" = some (.ref (He.ga K "Store"))
  g_Heap : mg "Heap" = some (.ref (He.ga K "Heap"))
  g_Words : mg "Words" = some (.ref (He.ga K "Words"))
  g_Run : mg "Run" = some (.ref (He.ga K "Run"))
  g_Notes : mg "Notes" = some (.ref (He.ga K "Notes"))
  g_Walk : mg "Walk" = some (.ref (He.ga K "Walk"))
  g_InvalidNumber : mg "InvalidNumber" = some (.ref (He.ga K "InvalidNumber"))
  g_NotAStore : mg "NotAStore" = some (.ref (He.ga K "NotAStore"))
  g_UnknownName : mg "UnknownName" = some (.ref (He.ga K "UnknownName"))
  g_ArrowError : mg "ArrowError" = some (.ref (He.ga K "ArrowError"))
  z_len : mg "len" = none
  z_isinstance : mg "isinstance" = none
  z_tuple : mg "tuple" = none
  z_dict : mg "dict" = none
  z_sorted : mg "sorted" = none
  z_int : mg "int" = none
  z_abs : mg "abs" = none
  z_max : mg "max" = none
  z_min : mg "min" = none
  z_all : mg "all" = none
  z_any : mg "any" = none
  z_list : mg "list" = none
  z_repr : mg "repr" = none
  z_divmod : mg "divmod" = none
  z_range : mg "range" = none
  z_enumerate : mg "enumerate" = none
  z_sum : mg "sum" = none
  z_str : mg "str" = none
  z_bool : mg "bool" = none
  i_END : ∃ t, mg "END" = some (.int 0 t)
  i_MOST_PLACE : ∃ t, mg "MOST_PLACE" = some (.int 999 t)
  i_MOST_CELLS : ∃ t, mg "MOST_CELLS" = some (.int 500 t)
  i_MOST_NAMES : ∃ t, mg "MOST_NAMES" = some (.int 4 t)
  i_MOST_BRACES : ∃ t, mg "MOST_BRACES" = some (.int 4 t)
  i_MOST_STATEMENTS : ∃ t, mg "MOST_STATEMENTS" = some (.int 30 t)
  i_MOST_COMPARISONS : ∃ t, mg "MOST_COMPARISONS" = some (.int 3 t)
  i_MOST_LETTERS : ∃ t, mg "MOST_LETTERS" = some (.int 4 t)
  i_MOST_STEPS : ∃ t, mg "MOST_STEPS" = some (.int 400 t)
  i_MOST_RUN_CELLS : ∃ t, mg "MOST_RUN_CELLS" = some (.int 100 t)
  i_FAR : ∃ t, mg "FAR" = some (.int (10 ^ 30) t)
  s_LETTERS : ∃ t, mg "LETTERS" = some (.str "abcdefghijklmnopqrstuvwxyz" t)
  b_gcd : mg "gcd" = some (.builtin "math.gcd")
  c_Store : Cls K (He.ga K "Store")
  k_Store : Mk K (He.ga K "Store") (He.ma K (He.ga K "Store") "__init__")
  n_Store_names : NoAttr K (He.ga K "Store") "names"
  n_Store_cells : NoAttr K (He.ga K "Store") "cells"
  n_Store_places : NoAttr K (He.ga K "Store") "places"
  n_Store_arrows : NoAttr K (He.ga K "Store") "arrows"
  n_Store_letters : NoAttr K (He.ga K "Store") "letters"
  c_Heap : Cls K (He.ga K "Heap")
  k_Heap : Mk K (He.ga K "Heap") (He.ma K (He.ga K "Heap") "__init__")
  n_Heap_names : NoAttr K (He.ga K "Heap") "names"
  n_Heap_cells : NoAttr K (He.ga K "Heap") "cells"
  n_Heap_used : NoAttr K (He.ga K "Heap") "used"
  n_Heap_made : NoAttr K (He.ga K "Heap") "made"
  c_Words : Cls K (He.ga K "Words")
  k_Words : Mk K (He.ga K "Words") (He.ma K (He.ga K "Words") "__init__")
  n_Words_words : NoAttr K (He.ga K "Words") "words"
  n_Words_at : NoAttr K (He.ga K "Words") "at"
  c_Run : Cls K (He.ga K "Run")
  k_Run : Mk K (He.ga K "Run") (He.ma K (He.ga K "Run") "__init__")
  n_Run_word : NoAttr K (He.ga K "Run") "word"
  n_Run_store : NoAttr K (He.ga K "Run") "store"
  n_Run_steps : NoAttr K (He.ga K "Run") "steps"
  n_Run_deed : NoAttr K (He.ga K "Run") "deed"
  n_Run_reads : NoAttr K (He.ga K "Run") "reads"
  n_Run_writes : NoAttr K (He.ga K "Run") "writes"
  n_Run_asks : NoAttr K (He.ga K "Run") "asks"
  n_Run_sets : NoAttr K (He.ga K "Run") "sets"
  c_Notes : Cls K (He.ga K "Notes")
  k_Notes : Mk K (He.ga K "Notes") (He.ma K (He.ga K "Notes") "__init__")
  n_Notes_reads : NoAttr K (He.ga K "Notes") "reads"
  n_Notes_writes : NoAttr K (He.ga K "Notes") "writes"
  n_Notes_asks : NoAttr K (He.ga K "Notes") "asks"
  n_Notes_sets : NoAttr K (He.ga K "Notes") "sets"
  c_Walk : Cls K (He.ga K "Walk")
  k_Walk : Mk K (He.ga K "Walk") (He.ma K (He.ga K "Walk") "__init__")
  n_Walk_code : NoAttr K (He.ga K "Walk") "code"
  n_Walk_heap : NoAttr K (He.ga K "Walk") "heap"
  n_Walk_at : NoAttr K (He.ga K "Walk") "at"
  n_Walk_steps : NoAttr K (He.ga K "Walk") "steps"
  n_Walk_deed : NoAttr K (He.ga K "Walk") "deed"
  n_Walk_notes : NoAttr K (He.ga K "Walk") "notes"
  m_Store_at : Meth K (He.ga K "Store") "at" (He.ma K (He.ga K "Store") "at")
  m_Heap_place_of : Meth K (He.ga K "Heap") "place_of" (He.ma K (He.ga K "Heap") "place_of")
  m_Heap_done : Meth K (He.ga K "Heap") "done" (He.ma K (He.ga K "Heap") "done")
  m_Heap_is_same : Meth K (He.ga K "Heap") "is_same" (He.ma K (He.ga K "Heap") "is_same")
  m_Heap_holds : Meth K (He.ga K "Heap") "holds" (He.ma K (He.ga K "Heap") "holds")
  m_Heap_store : Meth K (He.ga K "Heap") "store" (He.ma K (He.ga K "Heap") "store")
  m_Words_peek : Meth K (He.ga K "Words") "peek" (He.ma K (He.ga K "Words") "peek")
  m_Words_take : Meth K (He.ga K "Words") "take" (He.ma K (He.ga K "Words") "take")
  m_Words_is_over : Meth K (He.ga K "Words") "is_over" (He.ma K (He.ga K "Words") "is_over")
  m_Notes_note_deed : Meth K (He.ga K "Notes") "note_deed" (He.ma K (He.ga K "Notes") "note_deed")
  m_Notes_note_test : Meth K (He.ga K "Notes") "note_test" (He.ma K (He.ga K "Notes") "note_test")
  m_Walk_lead : Meth K (He.ga K "Walk") "lead" (He.ma K (He.ga K "Walk") "lead")
  m_Walk_is_over : Meth K (He.ga K "Walk") "is_over" (He.ma K (He.ga K "Walk") "is_over")
  m_Walk_step : Meth K (He.ga K "Walk") "step" (He.ma K (He.ga K "Walk") "step")
  st_class : PySem.W.findIn K (.ref (He.ga K "Store")) "__class__" = some (some (.builtin "object.__class__"))
  st_get : PySem.W.specialIn K (.builtin "object.__class__") "__get__" = some (some (.builtin "getset_descriptor.__get__"))
  st_takes : PySem.W.takesIn K (.builtin "object.__class__") = some true
  st_mro : PySem.W.mroIn K (He.ga K "Store") (.type "object") = some true
  kit_NoneType : PySem.W.kitOne K (.type "NoneType") (.ref (He.ga K "Store")) = some false
  kit_bool : PySem.W.kitOne K (.type "bool") (.ref (He.ga K "Store")) = some false
  kit_int : PySem.W.kitOne K (.type "int") (.ref (He.ga K "Store")) = some false
  kit_str : PySem.W.kitOne K (.type "str") (.ref (He.ga K "Store")) = some false
  kit_tuple : PySem.W.kitOne K (.type "tuple") (.ref (He.ga K "Store")) = some false
  kit_list : PySem.W.kitOne K (.type "list") (.ref (He.ga K "Store")) = some false
  kit_dict : PySem.W.kitOne K (.type "dict") (.ref (He.ga K "Store")) = some false
  kit_Store : PySem.W.kitOne K (.ref (He.ga K "Store")) (.ref (He.ga K "Store")) = some true
  ox_InvalidNumber : OexC K (He.ga K "InvalidNumber")
  oi_InvalidNumber : PySem.W.findIn K (.ref (He.ga K "InvalidNumber")) "__init__" = some (some (.ref (He.ma K (He.ga K "InvalidNumber") "__init__")))
  ot_InvalidNumber : PySem.W.typeIn K (.ref (He.ma K (He.ga K "InvalidNumber") "__init__")) = some (.type "function")
  on_InvalidNumber : PySem.W.findIn K (.ref (He.ga K "InvalidNumber")) "given" = some none
  xf_InvalidNumber : XfC K (He.ga K "InvalidNumber")
  xm_InvalidNumber_InvalidNumber : PySem.W.exmOne K (.ref (He.ga K "InvalidNumber")) (.ref (He.ga K "InvalidNumber")) = some true
  xm_InvalidNumber_NotAStore : PySem.W.exmOne K (.ref (He.ga K "InvalidNumber")) (.ref (He.ga K "NotAStore")) = some false
  xm_InvalidNumber_UnknownName : PySem.W.exmOne K (.ref (He.ga K "InvalidNumber")) (.ref (He.ga K "UnknownName")) = some false
  ox_NotAStore : OexC K (He.ga K "NotAStore")
  oi_NotAStore : PySem.W.findIn K (.ref (He.ga K "NotAStore")) "__init__" = some (some (.ref (He.ma K (He.ga K "NotAStore") "__init__")))
  ot_NotAStore : PySem.W.typeIn K (.ref (He.ma K (He.ga K "NotAStore") "__init__")) = some (.type "function")
  on_NotAStore : PySem.W.findIn K (.ref (He.ga K "NotAStore")) "given" = some none
  xf_NotAStore : XfC K (He.ga K "NotAStore")
  xm_NotAStore_InvalidNumber : PySem.W.exmOne K (.ref (He.ga K "NotAStore")) (.ref (He.ga K "InvalidNumber")) = some false
  xm_NotAStore_NotAStore : PySem.W.exmOne K (.ref (He.ga K "NotAStore")) (.ref (He.ga K "NotAStore")) = some true
  xm_NotAStore_UnknownName : PySem.W.exmOne K (.ref (He.ga K "NotAStore")) (.ref (He.ga K "UnknownName")) = some false
  ox_UnknownName : OexC K (He.ga K "UnknownName")
  oi_UnknownName : PySem.W.findIn K (.ref (He.ga K "UnknownName")) "__init__" = some (some (.ref (He.ma K (He.ga K "UnknownName") "__init__")))
  ot_UnknownName : PySem.W.typeIn K (.ref (He.ma K (He.ga K "UnknownName") "__init__")) = some (.type "function")
  on_UnknownName : PySem.W.findIn K (.ref (He.ga K "UnknownName")) "given" = some none
  xf_UnknownName : XfC K (He.ga K "UnknownName")
  xm_UnknownName_InvalidNumber : PySem.W.exmOne K (.ref (He.ga K "UnknownName")) (.ref (He.ga K "InvalidNumber")) = some false
  xm_UnknownName_NotAStore : PySem.W.exmOne K (.ref (He.ga K "UnknownName")) (.ref (He.ga K "NotAStore")) = some false
  xm_UnknownName_UnknownName : PySem.W.exmOne K (.ref (He.ga K "UnknownName")) (.ref (He.ga K "UnknownName")) = some true
  in_class : PySem.W.findIn K (.ref (He.ga K "InvalidNumber")) "__class__" = some (some (.builtin "object.__class__"))
  in_mro : PySem.W.mroIn K (He.ga K "InvalidNumber") (.type "object") = some true
  in_kit : PySem.W.kitOne K (.ref (He.ga K "InvalidNumber")) (.ref (He.ga K "ArrowError")) = some true
  k_sys : (K.lookup sysModules).isSome = true
  f_InvalidNumber_init : FnP K "__init__" "InvalidNumber.__init__" s_InvalidNumber_init (He.ma K (He.ga K "InvalidNumber") "__init__")
  f_NotAStore_init : FnP K "__init__" "NotAStore.__init__" s_NotAStore_init (He.ma K (He.ga K "NotAStore") "__init__")
  f_UnknownName_init : FnP K "__init__" "UnknownName.__init__" s_UnknownName_init (He.ma K (He.ga K "UnknownName") "__init__")
  f_is_whole : FnP K "is_whole" "is_whole" s_is_whole (He.ga K "is_whole")
  f_is_between : FnP K "is_between" "is_between" s_is_between (He.ga K "is_between")
  f_is_place : FnP K "is_place" "is_place" s_is_place (He.ga K "is_place")
  f_is_letter : FnP K "is_letter" "is_letter" s_is_letter (He.ga K "is_letter")
  f_is_pair : FnP K "is_pair" "is_pair" s_is_pair (He.ga K "is_pair")
  f_are_name_pairs : FnP K "are_name_pairs" "are_name_pairs" s_are_name_pairs (He.ga K "are_name_pairs")
  f_check_cells : FnP K "check_cells" "check_cells" s_check_cells (He.ga K "check_cells")
  f_Store_init : FnP K "__init__" "Store.__init__" s_Store_init (He.ma K (He.ga K "Store") "__init__")
  f_Store_at : FnP K "at" "Store.at" s_Store_at (He.ma K (He.ga K "Store") "at")
  f_check_store : FnP K "check_store" "check_store" s_check_store (He.ga K "check_store")
  f_walked : FnP K "walked" "walked" s_walked (He.ga K "walked")
  f_tail_and_ring : FnP K "tail_and_ring" "tail_and_ring" s_tail_and_ring (He.ga K "tail_and_ring")
  f_check_number : FnP K "check_number" "check_number" s_check_number (He.ga K "check_number")
  f_check_track : FnP K "check_track" "check_track" s_check_track (He.ga K "check_track")
  f_check_paces : FnP K "check_paces" "check_paces" s_check_paces (He.ga K "check_paces")
  f_stop_after : FnP K "stop_after" "stop_after" s_stop_after (He.ga K "stop_after")
  f_inverse : FnP K "inverse" "inverse" s_inverse (He.ga K "inverse")
  f_first_turn : FnP K "first_turn" "first_turn" s_first_turn (He.ga K "first_turn")
  f_meet : FnP K "meet" "meet" s_meet (He.ga K "meet")
  f_doubling_steps : FnP K "doubling_steps" "doubling_steps" s_doubling_steps (He.ga K "doubling_steps")
  f_track_of : FnP K "track_of" "track_of" s_track_of (He.ga K "track_of")
  f_meeting_place : FnP K "meeting_place" "meeting_place" s_meeting_place (He.ga K "meeting_place")
  f_Heap_init : FnP K "__init__" "Heap.__init__" s_Heap_init (He.ma K (He.ga K "Heap") "__init__")
  f_Heap_place_of : FnP K "place_of" "Heap.place_of" s_Heap_place_of (He.ma K (He.ga K "Heap") "place_of")
  f_Heap_done : FnP K "done" "Heap.done" s_Heap_done (He.ma K (He.ga K "Heap") "done")
  f_Heap_is_same : FnP K "is_same" "Heap.is_same" s_Heap_is_same (He.ma K (He.ga K "Heap") "is_same")
  f_Heap_holds : FnP K "holds" "Heap.holds" s_Heap_holds (He.ma K (He.ga K "Heap") "holds")
  f_Heap_store : FnP K "store" "Heap.store" s_Heap_store (He.ma K (He.ga K "Heap") "store")
  f_heap_of : FnP K "heap_of" "heap_of" s_heap_of (He.ga K "heap_of")
  f_asked_letters : FnP K "asked_letters" "asked_letters" s_asked_letters (He.ga K "asked_letters")
  f_set_letters : FnP K "set_letters" "set_letters" s_set_letters (He.ga K "set_letters")
  f_is_goal : FnP K "is_goal" "is_goal" s_is_goal (He.ga K "is_goal")
  f_Words_init : FnP K "__init__" "Words.__init__" s_Words_init (He.ma K (He.ga K "Words") "__init__")
  f_Words_peek : FnP K "peek" "Words.peek" s_Words_peek (He.ma K (He.ga K "Words") "peek")
  f_Words_take : FnP K "take" "Words.take" s_Words_take (He.ma K (He.ga K "Words") "take")
  f_Words_is_over : FnP K "is_over" "Words.is_over" s_Words_is_over (He.ma K (He.ga K "Words") "is_over")
  f_split_words : FnP K "split_words" "split_words" s_split_words (He.ga K "split_words")
  f_read_comparison : FnP K "read_comparison" "read_comparison" s_read_comparison (He.ga K "read_comparison")
  f_read_test : FnP K "read_test" "read_test" s_read_test (He.ga K "read_test")
  f_read_next_or_tie : FnP K "read_next_or_tie" "read_next_or_tie" s_read_next_or_tie (He.ga K "read_next_or_tie")
  f_read_block : FnP K "read_block" "read_block" s_read_block (He.ga K "read_block")
  f_read_while : FnP K "read_while" "read_while" s_read_while (He.ga K "read_while")
  f_read_statement : FnP K "read_statement" "read_statement" s_read_statement (He.ga K "read_statement")
  f_read_rows : FnP K "read_rows" "read_rows" s_read_rows (He.ga K "read_rows")
  f_count_statements : FnP K "count_statements" "count_statements" s_count_statements (He.ga K "count_statements")
  f_tree_of : FnP K "tree_of" "tree_of" s_tree_of (He.ga K "tree_of")
  f_program_tree : FnP K "program_tree" "program_tree" s_program_tree (He.ga K "program_tree")
  f_test_letters : FnP K "test_letters" "test_letters" s_test_letters (He.ga K "test_letters")
  f_tree_letters : FnP K "tree_letters" "tree_letters" s_tree_letters (He.ga K "tree_letters")
  f_put_loop : FnP K "put_loop" "put_loop" s_put_loop (He.ga K "put_loop")
  f_put_steps : FnP K "put_steps" "put_steps" s_put_steps (He.ga K "put_steps")
  f_steps_of : FnP K "steps_of" "steps_of" s_steps_of (He.ga K "steps_of")
  f_helpers_of : FnP K "helpers_of" "helpers_of" s_helpers_of (He.ga K "helpers_of")
  f_check_letters : FnP K "check_letters" "check_letters" s_check_letters (He.ga K "check_letters")
  f_check_most : FnP K "check_most" "check_most" s_check_most (He.ga K "check_most")
  f_Run_init : FnP K "__init__" "Run.__init__" s_Run_init (He.ma K (He.ga K "Run") "__init__")
  f_Notes_init : FnP K "__init__" "Notes.__init__" s_Notes_init (He.ma K (He.ga K "Notes") "__init__")
  f_Notes_note_deed : FnP K "note_deed" "Notes.note_deed" s_Notes_note_deed (He.ma K (He.ga K "Notes") "note_deed")
  f_Notes_note_test : FnP K "note_test" "Notes.note_test" s_Notes_note_test (He.ma K (He.ga K "Notes") "note_test")
  f_Walk_init : FnP K "__init__" "Walk.__init__" s_Walk_init (He.ma K (He.ga K "Walk") "__init__")
  f_Walk_lead : FnP K "lead" "Walk.lead" s_Walk_lead (He.ma K (He.ga K "Walk") "lead")
  f_Walk_is_over : FnP K "is_over" "Walk.is_over" s_Walk_is_over (He.ma K (He.ga K "Walk") "is_over")
  f_Walk_step : FnP K "step" "Walk.step" s_Walk_step (He.ma K (He.ga K "Walk") "step")
  f_walk_of : FnP K "walk_of" "walk_of" s_walk_of (He.ga K "walk_of")
  f_word_of : FnP K "word_of" "word_of" s_word_of (He.ga K "word_of")
  f_check_run_cells : FnP K "check_run_cells" "check_run_cells" s_check_run_cells (He.ga K "check_run_cells")
  f_walked_run : FnP K "walked_run" "walked_run" s_walked_run (He.ga K "walked_run")
  f_run : FnP K "run" "run" s_run (He.ga K "run")
  f_law_well : FnP K "_law_well" "_law_well" s__law_well (He.ga K "_law_well")
  f_law_take : FnP K "_law_take" "_law_take" s__law_take (He.ga K "_law_take")
  f_law_pick : FnP K "_law_pick" "_law_pick" s__law_pick (He.ga K "_law_pick")
  f_law_drawn : FnP K "_law_drawn" "_law_drawn" s__law_drawn (He.ga K "_law_drawn")
  f_law_store : FnP K "_law_store" "_law_store" s__law_store (He.ga K "_law_store")
  f_law_odd : FnP K "_law_odd" "_law_odd" s__law_odd (He.ga K "_law_odd")
  f_law_stop : FnP K "_law_stop" "_law_stop" s__law_stop (He.ga K "_law_stop")
  f_law_first_meeting : FnP K "_law_first_meeting" "_law_first_meeting" s__law_first_meeting (He.ga K "_law_first_meeting")
  f_law_great_number : FnP K "_law_great_number" "_law_great_number" s__law_great_number (He.ga K "_law_great_number")
  f_law_track : FnP K "_law_track" "_law_track" s__law_track (He.ga K "_law_track")
  f_law_doubling : FnP K "_law_doubling" "_law_doubling" s__law_doubling (He.ga K "_law_doubling")
  f_law_formula : FnP K "_law_formula" "_law_formula" s__law_formula (He.ga K "_law_formula")
  f_law_error : FnP K "_law_error" "_law_error" s__law_error (He.ga K "_law_error")
  f_law_are_refused : FnP K "_law_are_refused" "_law_are_refused" s__law_are_refused (He.ga K "_law_are_refused")
  f_law_is_store_right : FnP K "_law_is_store_right" "_law_is_store_right" s__law_is_store_right (He.ga K "_law_is_store_right")
  f_law_is_program_right : FnP K "_law_is_program_right" "_law_is_program_right" s__law_is_program_right (He.ga K "_law_is_program_right")
  f_law_right : FnP K "_law_right" "_law_right" s__law_right (He.ga K "_law_right")
  f_law : FnP K "law" "law" s_law (He.ga K "law")
theorem mem_app1 {α : Type} {l r : List α} {x : α} (h : x ∈ l) : x ∈ l ++ r := List.mem_append_left r h
theorem mem_app2 {α : Type} {l r : List α} {x : α} (h : x ∈ r) : x ∈ l ++ r := List.mem_append_right l h
theorem in_ex0 : ∀ x ∈ ex0, x ∈ ex := fun x hx => mem_app1 (mem_app1 (mem_app1 (mem_app1 (mem_app1 (mem_app1 (mem_app1 (mem_app1 (hx))))))))
theorem in_ex1 : ∀ x ∈ ex1, x ∈ ex := fun x hx => mem_app1 (mem_app1 (mem_app1 (mem_app1 (mem_app1 (mem_app1 (mem_app1 (mem_app2 hx)))))))
theorem in_ex2 : ∀ x ∈ ex2, x ∈ ex := fun x hx => mem_app1 (mem_app1 (mem_app1 (mem_app1 (mem_app1 (mem_app1 (mem_app2 hx))))))
theorem in_ex3 : ∀ x ∈ ex3, x ∈ ex := fun x hx => mem_app1 (mem_app1 (mem_app1 (mem_app1 (mem_app1 (mem_app2 hx)))))
theorem in_ex4 : ∀ x ∈ ex4, x ∈ ex := fun x hx => mem_app1 (mem_app1 (mem_app1 (mem_app1 (mem_app2 hx))))
theorem in_ex5 : ∀ x ∈ ex5, x ∈ ex := fun x hx => mem_app1 (mem_app1 (mem_app1 (mem_app2 hx)))
theorem in_ex6 : ∀ x ∈ ex6, x ∈ ex := fun x hx => mem_app1 (mem_app1 (mem_app2 hx))
theorem in_ex7 : ∀ x ∈ ex7, x ∈ ex := fun x hx => mem_app1 (mem_app2 hx)
theorem in_ex8 : ∀ x ∈ ex8, x ∈ ex := fun x hx => mem_app2 hx
theorem in_fn0 : ∀ x ∈ fn0, x ∈ fn := fun x hx => mem_app1 (mem_app1 (mem_app1 (hx)))
theorem in_fn1 : ∀ x ∈ fn1, x ∈ fn := fun x hx => mem_app1 (mem_app1 (mem_app2 hx))
theorem in_fn2 : ∀ x ∈ fn2, x ∈ fn := fun x hx => mem_app1 (mem_app2 hx)
theorem in_fn3 : ∀ x ∈ fn3, x ∈ fn := fun x hx => mem_app2 hx
theorem SaysB.at {K : PySem.W.Frag} (c : SaysB K) {l : List (PySem.W.Frag → Bool)} (s : ∀ x ∈ l, x ∈ ex) (i : Nat) {f : PySem.W.Frag → Bool} (h : l[i]? = some f) : f K = true := c.fact (s f (List.mem_of_getElem? h))
theorem SaysB.dt {K : PySem.W.Frag} (c : SaysB K) {l : List He.DefD} (s : ∀ x ∈ l, x ∈ fn) (i : Nat) {d : He.DefD} (h : l[i]? = some d) : ∃ fd, FunD K d.name d.qual d.params d.body d.scope (d.dvs K) (d.kws K) (He.fAd K d.at_) fd := c.def_ (s d (List.mem_of_getElem? h))
theorem mkEnv {K : PySem.W.Frag} {h0 : PySem.Heap} {mg : Str → Option Value} (X : K.In h0) (G : h0.Ns mainGlobals mg) (c : SaysB K) : TopE K mg where
  g_is_whole := have h : (He.Fa.ok K (.glo "is_whole")) = true := c.at in_ex0 0 rfl; He.glo_ok X G h
  g_is_between := have h : (He.Fa.ok K (.glo "is_between")) = true := c.at in_ex0 1 rfl; He.glo_ok X G h
  g_is_place := have h : (He.Fa.ok K (.glo "is_place")) = true := c.at in_ex0 2 rfl; He.glo_ok X G h
  g_is_letter := have h : (He.Fa.ok K (.glo "is_letter")) = true := c.at in_ex0 3 rfl; He.glo_ok X G h
  g_is_pair := have h : (He.Fa.ok K (.glo "is_pair")) = true := c.at in_ex0 4 rfl; He.glo_ok X G h
  g_are_name_pairs := have h : (He.Fa.ok K (.glo "are_name_pairs")) = true := c.at in_ex0 5 rfl; He.glo_ok X G h
  g_check_cells := have h : (He.Fa.ok K (.glo "check_cells")) = true := c.at in_ex0 6 rfl; He.glo_ok X G h
  g_check_store := have h : (He.Fa.ok K (.glo "check_store")) = true := c.at in_ex0 7 rfl; He.glo_ok X G h
  g_walked := have h : (He.Fa.ok K (.glo "walked")) = true := c.at in_ex0 8 rfl; He.glo_ok X G h
  g_tail_and_ring := have h : (He.Fa.ok K (.glo "tail_and_ring")) = true := c.at in_ex0 9 rfl; He.glo_ok X G h
  g_check_number := have h : (He.Fa.ok K (.glo "check_number")) = true := c.at in_ex0 10 rfl; He.glo_ok X G h
  g_check_track := have h : (He.Fa.ok K (.glo "check_track")) = true := c.at in_ex0 11 rfl; He.glo_ok X G h
  g_check_paces := have h : (He.Fa.ok K (.glo "check_paces")) = true := c.at in_ex0 12 rfl; He.glo_ok X G h
  g_stop_after := have h : (He.Fa.ok K (.glo "stop_after")) = true := c.at in_ex0 13 rfl; He.glo_ok X G h
  g_inverse := have h : (He.Fa.ok K (.glo "inverse")) = true := c.at in_ex0 14 rfl; He.glo_ok X G h
  g_first_turn := have h : (He.Fa.ok K (.glo "first_turn")) = true := c.at in_ex0 15 rfl; He.glo_ok X G h
  g_meet := have h : (He.Fa.ok K (.glo "meet")) = true := c.at in_ex0 16 rfl; He.glo_ok X G h
  g_doubling_steps := have h : (He.Fa.ok K (.glo "doubling_steps")) = true := c.at in_ex0 17 rfl; He.glo_ok X G h
  g_track_of := have h : (He.Fa.ok K (.glo "track_of")) = true := c.at in_ex0 18 rfl; He.glo_ok X G h
  g_meeting_place := have h : (He.Fa.ok K (.glo "meeting_place")) = true := c.at in_ex0 19 rfl; He.glo_ok X G h
  g_heap_of := have h : (He.Fa.ok K (.glo "heap_of")) = true := c.at in_ex0 20 rfl; He.glo_ok X G h
  g_asked_letters := have h : (He.Fa.ok K (.glo "asked_letters")) = true := c.at in_ex0 21 rfl; He.glo_ok X G h
  g_set_letters := have h : (He.Fa.ok K (.glo "set_letters")) = true := c.at in_ex0 22 rfl; He.glo_ok X G h
  g_is_goal := have h : (He.Fa.ok K (.glo "is_goal")) = true := c.at in_ex0 23 rfl; He.glo_ok X G h
  g_split_words := have h : (He.Fa.ok K (.glo "split_words")) = true := c.at in_ex0 24 rfl; He.glo_ok X G h
  g_read_comparison := have h : (He.Fa.ok K (.glo "read_comparison")) = true := c.at in_ex1 0 rfl; He.glo_ok X G h
  g_read_test := have h : (He.Fa.ok K (.glo "read_test")) = true := c.at in_ex1 1 rfl; He.glo_ok X G h
  g_read_next_or_tie := have h : (He.Fa.ok K (.glo "read_next_or_tie")) = true := c.at in_ex1 2 rfl; He.glo_ok X G h
  g_read_block := have h : (He.Fa.ok K (.glo "read_block")) = true := c.at in_ex1 3 rfl; He.glo_ok X G h
  g_read_while := have h : (He.Fa.ok K (.glo "read_while")) = true := c.at in_ex1 4 rfl; He.glo_ok X G h
  g_read_statement := have h : (He.Fa.ok K (.glo "read_statement")) = true := c.at in_ex1 5 rfl; He.glo_ok X G h
  g_read_rows := have h : (He.Fa.ok K (.glo "read_rows")) = true := c.at in_ex1 6 rfl; He.glo_ok X G h
  g_count_statements := have h : (He.Fa.ok K (.glo "count_statements")) = true := c.at in_ex1 7 rfl; He.glo_ok X G h
  g_tree_of := have h : (He.Fa.ok K (.glo "tree_of")) = true := c.at in_ex1 8 rfl; He.glo_ok X G h
  g_program_tree := have h : (He.Fa.ok K (.glo "program_tree")) = true := c.at in_ex1 9 rfl; He.glo_ok X G h
  g_test_letters := have h : (He.Fa.ok K (.glo "test_letters")) = true := c.at in_ex1 10 rfl; He.glo_ok X G h
  g_tree_letters := have h : (He.Fa.ok K (.glo "tree_letters")) = true := c.at in_ex1 11 rfl; He.glo_ok X G h
  g_put_loop := have h : (He.Fa.ok K (.glo "put_loop")) = true := c.at in_ex1 12 rfl; He.glo_ok X G h
  g_put_steps := have h : (He.Fa.ok K (.glo "put_steps")) = true := c.at in_ex1 13 rfl; He.glo_ok X G h
  g_steps_of := have h : (He.Fa.ok K (.glo "steps_of")) = true := c.at in_ex1 14 rfl; He.glo_ok X G h
  g_helpers_of := have h : (He.Fa.ok K (.glo "helpers_of")) = true := c.at in_ex1 15 rfl; He.glo_ok X G h
  g_check_letters := have h : (He.Fa.ok K (.glo "check_letters")) = true := c.at in_ex1 16 rfl; He.glo_ok X G h
  g_check_most := have h : (He.Fa.ok K (.glo "check_most")) = true := c.at in_ex1 17 rfl; He.glo_ok X G h
  g_walk_of := have h : (He.Fa.ok K (.glo "walk_of")) = true := c.at in_ex1 18 rfl; He.glo_ok X G h
  g_word_of := have h : (He.Fa.ok K (.glo "word_of")) = true := c.at in_ex1 19 rfl; He.glo_ok X G h
  g_check_run_cells := have h : (He.Fa.ok K (.glo "check_run_cells")) = true := c.at in_ex1 20 rfl; He.glo_ok X G h
  g_walked_run := have h : (He.Fa.ok K (.glo "walked_run")) = true := c.at in_ex1 21 rfl; He.glo_ok X G h
  g_run := have h : (He.Fa.ok K (.glo "run")) = true := c.at in_ex1 22 rfl; He.glo_ok X G h
  g_law_well := have h : (He.Fa.ok K (.glo "_law_well")) = true := c.at in_ex1 23 rfl; He.glo_ok X G h
  g_law_take := have h : (He.Fa.ok K (.glo "_law_take")) = true := c.at in_ex1 24 rfl; He.glo_ok X G h
  g_law_pick := have h : (He.Fa.ok K (.glo "_law_pick")) = true := c.at in_ex2 0 rfl; He.glo_ok X G h
  g_law_drawn := have h : (He.Fa.ok K (.glo "_law_drawn")) = true := c.at in_ex2 1 rfl; He.glo_ok X G h
  g_law_store := have h : (He.Fa.ok K (.glo "_law_store")) = true := c.at in_ex2 2 rfl; He.glo_ok X G h
  g_law_odd := have h : (He.Fa.ok K (.glo "_law_odd")) = true := c.at in_ex2 3 rfl; He.glo_ok X G h
  g_law_stop := have h : (He.Fa.ok K (.glo "_law_stop")) = true := c.at in_ex2 4 rfl; He.glo_ok X G h
  g_law_first_meeting := have h : (He.Fa.ok K (.glo "_law_first_meeting")) = true := c.at in_ex2 5 rfl; He.glo_ok X G h
  g_law_great_number := have h : (He.Fa.ok K (.glo "_law_great_number")) = true := c.at in_ex2 6 rfl; He.glo_ok X G h
  g_law_track := have h : (He.Fa.ok K (.glo "_law_track")) = true := c.at in_ex2 7 rfl; He.glo_ok X G h
  g_law_doubling := have h : (He.Fa.ok K (.glo "_law_doubling")) = true := c.at in_ex2 8 rfl; He.glo_ok X G h
  g_law_formula := have h : (He.Fa.ok K (.glo "_law_formula")) = true := c.at in_ex2 9 rfl; He.glo_ok X G h
  g_law_error := have h : (He.Fa.ok K (.glo "_law_error")) = true := c.at in_ex2 10 rfl; He.glo_ok X G h
  g_law_are_refused := have h : (He.Fa.ok K (.glo "_law_are_refused")) = true := c.at in_ex2 11 rfl; He.glo_ok X G h
  g_law_is_store_right := have h : (He.Fa.ok K (.glo "_law_is_store_right")) = true := c.at in_ex2 12 rfl; He.glo_ok X G h
  g_law_is_program_right := have h : (He.Fa.ok K (.glo "_law_is_program_right")) = true := c.at in_ex2 13 rfl; He.glo_ok X G h
  g_law_right := have h : (He.Fa.ok K (.glo "_law_right")) = true := c.at in_ex2 14 rfl; He.glo_ok X G h
  g_law := have h : (He.Fa.ok K (.glo "law")) = true := c.at in_ex2 15 rfl; He.glo_ok X G h
  g_Store := have h : (He.Fa.ok K (.glo "Store")) = true := c.at in_ex2 16 rfl; He.glo_ok X G h
  g_Heap := have h : (He.Fa.ok K (.glo "Heap")) = true := c.at in_ex2 17 rfl; He.glo_ok X G h
  g_Words := have h : (He.Fa.ok K (.glo "Words")) = true := c.at in_ex2 18 rfl; He.glo_ok X G h
  g_Run := have h : (He.Fa.ok K (.glo "Run")) = true := c.at in_ex2 19 rfl; He.glo_ok X G h
  g_Notes := have h : (He.Fa.ok K (.glo "Notes")) = true := c.at in_ex2 20 rfl; He.glo_ok X G h
  g_Walk := have h : (He.Fa.ok K (.glo "Walk")) = true := c.at in_ex2 21 rfl; He.glo_ok X G h
  g_InvalidNumber := have h : (He.Fa.ok K (.glo "InvalidNumber")) = true := c.at in_ex2 22 rfl; He.glo_ok X G h
  g_NotAStore := have h : (He.Fa.ok K (.glo "NotAStore")) = true := c.at in_ex2 23 rfl; He.glo_ok X G h
  g_UnknownName := have h : (He.Fa.ok K (.glo "UnknownName")) = true := c.at in_ex2 24 rfl; He.glo_ok X G h
  g_ArrowError := have h : (He.Fa.ok K (.glo "ArrowError")) = true := c.at in_ex3 0 rfl; He.glo_ok X G h
  z_len := have h : (He.Fa.ok K (.free "len")) = true := c.at in_ex3 1 rfl; He.free_ok X G h
  z_isinstance := have h : (He.Fa.ok K (.free "isinstance")) = true := c.at in_ex3 2 rfl; He.free_ok X G h
  z_tuple := have h : (He.Fa.ok K (.free "tuple")) = true := c.at in_ex3 3 rfl; He.free_ok X G h
  z_dict := have h : (He.Fa.ok K (.free "dict")) = true := c.at in_ex3 4 rfl; He.free_ok X G h
  z_sorted := have h : (He.Fa.ok K (.free "sorted")) = true := c.at in_ex3 5 rfl; He.free_ok X G h
  z_int := have h : (He.Fa.ok K (.free "int")) = true := c.at in_ex3 6 rfl; He.free_ok X G h
  z_abs := have h : (He.Fa.ok K (.free "abs")) = true := c.at in_ex3 7 rfl; He.free_ok X G h
  z_max := have h : (He.Fa.ok K (.free "max")) = true := c.at in_ex3 8 rfl; He.free_ok X G h
  z_min := have h : (He.Fa.ok K (.free "min")) = true := c.at in_ex3 9 rfl; He.free_ok X G h
  z_all := have h : (He.Fa.ok K (.free "all")) = true := c.at in_ex3 10 rfl; He.free_ok X G h
  z_any := have h : (He.Fa.ok K (.free "any")) = true := c.at in_ex3 11 rfl; He.free_ok X G h
  z_list := have h : (He.Fa.ok K (.free "list")) = true := c.at in_ex3 12 rfl; He.free_ok X G h
  z_repr := have h : (He.Fa.ok K (.free "repr")) = true := c.at in_ex3 13 rfl; He.free_ok X G h
  z_divmod := have h : (He.Fa.ok K (.free "divmod")) = true := c.at in_ex3 14 rfl; He.free_ok X G h
  z_range := have h : (He.Fa.ok K (.free "range")) = true := c.at in_ex3 15 rfl; He.free_ok X G h
  z_enumerate := have h : (He.Fa.ok K (.free "enumerate")) = true := c.at in_ex3 16 rfl; He.free_ok X G h
  z_sum := have h : (He.Fa.ok K (.free "sum")) = true := c.at in_ex3 17 rfl; He.free_ok X G h
  z_str := have h : (He.Fa.ok K (.free "str")) = true := c.at in_ex3 18 rfl; He.free_ok X G h
  z_bool := have h : (He.Fa.ok K (.free "bool")) = true := c.at in_ex3 19 rfl; He.free_ok X G h
  i_END := have h : (He.Fa.ok K (.int "END" 0)) = true := c.at in_ex3 20 rfl; He.int_ok X G h
  i_MOST_PLACE := have h : (He.Fa.ok K (.int "MOST_PLACE" 999)) = true := c.at in_ex3 21 rfl; He.int_ok X G h
  i_MOST_CELLS := have h : (He.Fa.ok K (.int "MOST_CELLS" 500)) = true := c.at in_ex3 22 rfl; He.int_ok X G h
  i_MOST_NAMES := have h : (He.Fa.ok K (.int "MOST_NAMES" 4)) = true := c.at in_ex3 23 rfl; He.int_ok X G h
  i_MOST_BRACES := have h : (He.Fa.ok K (.int "MOST_BRACES" 4)) = true := c.at in_ex3 24 rfl; He.int_ok X G h
  i_MOST_STATEMENTS := have h : (He.Fa.ok K (.int "MOST_STATEMENTS" 30)) = true := c.at in_ex4 0 rfl; He.int_ok X G h
  i_MOST_COMPARISONS := have h : (He.Fa.ok K (.int "MOST_COMPARISONS" 3)) = true := c.at in_ex4 1 rfl; He.int_ok X G h
  i_MOST_LETTERS := have h : (He.Fa.ok K (.int "MOST_LETTERS" 4)) = true := c.at in_ex4 2 rfl; He.int_ok X G h
  i_MOST_STEPS := have h : (He.Fa.ok K (.int "MOST_STEPS" 400)) = true := c.at in_ex4 3 rfl; He.int_ok X G h
  i_MOST_RUN_CELLS := have h : (He.Fa.ok K (.int "MOST_RUN_CELLS" 100)) = true := c.at in_ex4 4 rfl; He.int_ok X G h
  i_FAR := have h : (He.Fa.ok K (.int "FAR" (10 ^ 30))) = true := c.at in_ex4 5 rfl; He.int_ok X G h
  s_LETTERS := have h : (He.Fa.ok K (.str "LETTERS" "abcdefghijklmnopqrstuvwxyz")) = true := c.at in_ex4 6 rfl; He.str_ok X G h
  b_gcd := have h : decide (PySem.W.nsIn K mainGlobals "gcd" = some (some (.builtin "math.gcd"))) = true := c.at in_ex4 7 rfl; PySem.W.mg_of X G (of_decide_eq_true h)
  c_Store := have h : (He.Fa.ok K (.cls "Store")) = true := c.at in_ex4 8 rfl; He.cls_ok h
  k_Store := have h : (He.Fa.ok K (.mkr "Store")) = true := c.at in_ex4 9 rfl; He.mkr_ok h
  n_Store_names := have h : (He.Fa.ok K (.noat "Store" "names")) = true := c.at in_ex4 10 rfl; He.noat_ok h
  n_Store_cells := have h : (He.Fa.ok K (.noat "Store" "cells")) = true := c.at in_ex4 11 rfl; He.noat_ok h
  n_Store_places := have h : (He.Fa.ok K (.noat "Store" "places")) = true := c.at in_ex4 12 rfl; He.noat_ok h
  n_Store_arrows := have h : (He.Fa.ok K (.noat "Store" "arrows")) = true := c.at in_ex4 13 rfl; He.noat_ok h
  n_Store_letters := have h : (He.Fa.ok K (.noat "Store" "letters")) = true := c.at in_ex4 14 rfl; He.noat_ok h
  c_Heap := have h : (He.Fa.ok K (.cls "Heap")) = true := c.at in_ex4 15 rfl; He.cls_ok h
  k_Heap := have h : (He.Fa.ok K (.mkr "Heap")) = true := c.at in_ex4 16 rfl; He.mkr_ok h
  n_Heap_names := have h : (He.Fa.ok K (.noat "Heap" "names")) = true := c.at in_ex4 17 rfl; He.noat_ok h
  n_Heap_cells := have h : (He.Fa.ok K (.noat "Heap" "cells")) = true := c.at in_ex4 18 rfl; He.noat_ok h
  n_Heap_used := have h : (He.Fa.ok K (.noat "Heap" "used")) = true := c.at in_ex4 19 rfl; He.noat_ok h
  n_Heap_made := have h : (He.Fa.ok K (.noat "Heap" "made")) = true := c.at in_ex4 20 rfl; He.noat_ok h
  c_Words := have h : (He.Fa.ok K (.cls "Words")) = true := c.at in_ex4 21 rfl; He.cls_ok h
  k_Words := have h : (He.Fa.ok K (.mkr "Words")) = true := c.at in_ex4 22 rfl; He.mkr_ok h
  n_Words_words := have h : (He.Fa.ok K (.noat "Words" "words")) = true := c.at in_ex4 23 rfl; He.noat_ok h
  n_Words_at := have h : (He.Fa.ok K (.noat "Words" "at")) = true := c.at in_ex4 24 rfl; He.noat_ok h
  c_Run := have h : (He.Fa.ok K (.cls "Run")) = true := c.at in_ex5 0 rfl; He.cls_ok h
  k_Run := have h : (He.Fa.ok K (.mkr "Run")) = true := c.at in_ex5 1 rfl; He.mkr_ok h
  n_Run_word := have h : (He.Fa.ok K (.noat "Run" "word")) = true := c.at in_ex5 2 rfl; He.noat_ok h
  n_Run_store := have h : (He.Fa.ok K (.noat "Run" "store")) = true := c.at in_ex5 3 rfl; He.noat_ok h
  n_Run_steps := have h : (He.Fa.ok K (.noat "Run" "steps")) = true := c.at in_ex5 4 rfl; He.noat_ok h
  n_Run_deed := have h : (He.Fa.ok K (.noat "Run" "deed")) = true := c.at in_ex5 5 rfl; He.noat_ok h
  n_Run_reads := have h : (He.Fa.ok K (.noat "Run" "reads")) = true := c.at in_ex5 6 rfl; He.noat_ok h
  n_Run_writes := have h : (He.Fa.ok K (.noat "Run" "writes")) = true := c.at in_ex5 7 rfl; He.noat_ok h
  n_Run_asks := have h : (He.Fa.ok K (.noat "Run" "asks")) = true := c.at in_ex5 8 rfl; He.noat_ok h
  n_Run_sets := have h : (He.Fa.ok K (.noat "Run" "sets")) = true := c.at in_ex5 9 rfl; He.noat_ok h
  c_Notes := have h : (He.Fa.ok K (.cls "Notes")) = true := c.at in_ex5 10 rfl; He.cls_ok h
  k_Notes := have h : (He.Fa.ok K (.mkr "Notes")) = true := c.at in_ex5 11 rfl; He.mkr_ok h
  n_Notes_reads := have h : (He.Fa.ok K (.noat "Notes" "reads")) = true := c.at in_ex5 12 rfl; He.noat_ok h
  n_Notes_writes := have h : (He.Fa.ok K (.noat "Notes" "writes")) = true := c.at in_ex5 13 rfl; He.noat_ok h
  n_Notes_asks := have h : (He.Fa.ok K (.noat "Notes" "asks")) = true := c.at in_ex5 14 rfl; He.noat_ok h
  n_Notes_sets := have h : (He.Fa.ok K (.noat "Notes" "sets")) = true := c.at in_ex5 15 rfl; He.noat_ok h
  c_Walk := have h : (He.Fa.ok K (.cls "Walk")) = true := c.at in_ex5 16 rfl; He.cls_ok h
  k_Walk := have h : (He.Fa.ok K (.mkr "Walk")) = true := c.at in_ex5 17 rfl; He.mkr_ok h
  n_Walk_code := have h : (He.Fa.ok K (.noat "Walk" "code")) = true := c.at in_ex5 18 rfl; He.noat_ok h
  n_Walk_heap := have h : (He.Fa.ok K (.noat "Walk" "heap")) = true := c.at in_ex5 19 rfl; He.noat_ok h
  n_Walk_at := have h : (He.Fa.ok K (.noat "Walk" "at")) = true := c.at in_ex5 20 rfl; He.noat_ok h
  n_Walk_steps := have h : (He.Fa.ok K (.noat "Walk" "steps")) = true := c.at in_ex5 21 rfl; He.noat_ok h
  n_Walk_deed := have h : (He.Fa.ok K (.noat "Walk" "deed")) = true := c.at in_ex5 22 rfl; He.noat_ok h
  n_Walk_notes := have h : (He.Fa.ok K (.noat "Walk" "notes")) = true := c.at in_ex5 23 rfl; He.noat_ok h
  m_Store_at := have h : (He.Fa.ok K (.meth "Store" "at")) = true := c.at in_ex5 24 rfl; He.meth_ok h
  m_Heap_place_of := have h : (He.Fa.ok K (.meth "Heap" "place_of")) = true := c.at in_ex6 0 rfl; He.meth_ok h
  m_Heap_done := have h : (He.Fa.ok K (.meth "Heap" "done")) = true := c.at in_ex6 1 rfl; He.meth_ok h
  m_Heap_is_same := have h : (He.Fa.ok K (.meth "Heap" "is_same")) = true := c.at in_ex6 2 rfl; He.meth_ok h
  m_Heap_holds := have h : (He.Fa.ok K (.meth "Heap" "holds")) = true := c.at in_ex6 3 rfl; He.meth_ok h
  m_Heap_store := have h : (He.Fa.ok K (.meth "Heap" "store")) = true := c.at in_ex6 4 rfl; He.meth_ok h
  m_Words_peek := have h : (He.Fa.ok K (.meth "Words" "peek")) = true := c.at in_ex6 5 rfl; He.meth_ok h
  m_Words_take := have h : (He.Fa.ok K (.meth "Words" "take")) = true := c.at in_ex6 6 rfl; He.meth_ok h
  m_Words_is_over := have h : (He.Fa.ok K (.meth "Words" "is_over")) = true := c.at in_ex6 7 rfl; He.meth_ok h
  m_Notes_note_deed := have h : (He.Fa.ok K (.meth "Notes" "note_deed")) = true := c.at in_ex6 8 rfl; He.meth_ok h
  m_Notes_note_test := have h : (He.Fa.ok K (.meth "Notes" "note_test")) = true := c.at in_ex6 9 rfl; He.meth_ok h
  m_Walk_lead := have h : (He.Fa.ok K (.meth "Walk" "lead")) = true := c.at in_ex6 10 rfl; He.meth_ok h
  m_Walk_is_over := have h : (He.Fa.ok K (.meth "Walk" "is_over")) = true := c.at in_ex6 11 rfl; He.meth_ok h
  m_Walk_step := have h : (He.Fa.ok K (.meth "Walk" "step")) = true := c.at in_ex6 12 rfl; He.meth_ok h
  st_class := have h : decide (PySem.W.findIn K (.ref (He.ga K "Store")) "__class__" = some (some (.builtin "object.__class__"))) = true := c.at in_ex6 13 rfl; of_decide_eq_true h
  st_get := have h : decide (PySem.W.specialIn K (.builtin "object.__class__") "__get__" = some (some (.builtin "getset_descriptor.__get__"))) = true := c.at in_ex6 14 rfl; of_decide_eq_true h
  st_takes := have h : decide (PySem.W.takesIn K (.builtin "object.__class__") = some true) = true := c.at in_ex6 15 rfl; of_decide_eq_true h
  st_mro := have h : decide (PySem.W.mroIn K (He.ga K "Store") (.type "object") = some true) = true := c.at in_ex6 16 rfl; of_decide_eq_true h
  kit_NoneType := have h : decide (PySem.W.kitOne K (.type "NoneType") (.ref (He.ga K "Store")) = some false) = true := c.at in_ex6 17 rfl; of_decide_eq_true h
  kit_bool := have h : decide (PySem.W.kitOne K (.type "bool") (.ref (He.ga K "Store")) = some false) = true := c.at in_ex6 18 rfl; of_decide_eq_true h
  kit_int := have h : decide (PySem.W.kitOne K (.type "int") (.ref (He.ga K "Store")) = some false) = true := c.at in_ex6 19 rfl; of_decide_eq_true h
  kit_str := have h : decide (PySem.W.kitOne K (.type "str") (.ref (He.ga K "Store")) = some false) = true := c.at in_ex6 20 rfl; of_decide_eq_true h
  kit_tuple := have h : decide (PySem.W.kitOne K (.type "tuple") (.ref (He.ga K "Store")) = some false) = true := c.at in_ex6 21 rfl; of_decide_eq_true h
  kit_list := have h : decide (PySem.W.kitOne K (.type "list") (.ref (He.ga K "Store")) = some false) = true := c.at in_ex6 22 rfl; of_decide_eq_true h
  kit_dict := have h : decide (PySem.W.kitOne K (.type "dict") (.ref (He.ga K "Store")) = some false) = true := c.at in_ex6 23 rfl; of_decide_eq_true h
  kit_Store := have h : decide (PySem.W.kitOne K (.ref (He.ga K "Store")) (.ref (He.ga K "Store")) = some true) = true := c.at in_ex6 24 rfl; of_decide_eq_true h
  ox_InvalidNumber := have h : oexB K (He.ga K "InvalidNumber") = true := c.at in_ex7 0 rfl; oexB_ok h
  oi_InvalidNumber := have h : decide (PySem.W.findIn K (.ref (He.ga K "InvalidNumber")) "__init__" = some (some (.ref (He.ma K (He.ga K "InvalidNumber") "__init__")))) = true := c.at in_ex7 1 rfl; of_decide_eq_true h
  ot_InvalidNumber := have h : decide (PySem.W.typeIn K (.ref (He.ma K (He.ga K "InvalidNumber") "__init__")) = some (.type "function")) = true := c.at in_ex7 2 rfl; of_decide_eq_true h
  on_InvalidNumber := have h : decide (PySem.W.findIn K (.ref (He.ga K "InvalidNumber")) "given" = some none) = true := c.at in_ex7 3 rfl; of_decide_eq_true h
  xf_InvalidNumber := have h : xfB K (He.ga K "InvalidNumber") = true := c.at in_ex7 4 rfl; xfB_ok h
  xm_InvalidNumber_InvalidNumber := have h : decide (PySem.W.exmOne K (.ref (He.ga K "InvalidNumber")) (.ref (He.ga K "InvalidNumber")) = some true) = true := c.at in_ex7 5 rfl; of_decide_eq_true h
  xm_InvalidNumber_NotAStore := have h : decide (PySem.W.exmOne K (.ref (He.ga K "InvalidNumber")) (.ref (He.ga K "NotAStore")) = some false) = true := c.at in_ex7 6 rfl; of_decide_eq_true h
  xm_InvalidNumber_UnknownName := have h : decide (PySem.W.exmOne K (.ref (He.ga K "InvalidNumber")) (.ref (He.ga K "UnknownName")) = some false) = true := c.at in_ex7 7 rfl; of_decide_eq_true h
  ox_NotAStore := have h : oexB K (He.ga K "NotAStore") = true := c.at in_ex7 8 rfl; oexB_ok h
  oi_NotAStore := have h : decide (PySem.W.findIn K (.ref (He.ga K "NotAStore")) "__init__" = some (some (.ref (He.ma K (He.ga K "NotAStore") "__init__")))) = true := c.at in_ex7 9 rfl; of_decide_eq_true h
  ot_NotAStore := have h : decide (PySem.W.typeIn K (.ref (He.ma K (He.ga K "NotAStore") "__init__")) = some (.type "function")) = true := c.at in_ex7 10 rfl; of_decide_eq_true h
  on_NotAStore := have h : decide (PySem.W.findIn K (.ref (He.ga K "NotAStore")) "given" = some none) = true := c.at in_ex7 11 rfl; of_decide_eq_true h
  xf_NotAStore := have h : xfB K (He.ga K "NotAStore") = true := c.at in_ex7 12 rfl; xfB_ok h
  xm_NotAStore_InvalidNumber := have h : decide (PySem.W.exmOne K (.ref (He.ga K "NotAStore")) (.ref (He.ga K "InvalidNumber")) = some false) = true := c.at in_ex7 13 rfl; of_decide_eq_true h
  xm_NotAStore_NotAStore := have h : decide (PySem.W.exmOne K (.ref (He.ga K "NotAStore")) (.ref (He.ga K "NotAStore")) = some true) = true := c.at in_ex7 14 rfl; of_decide_eq_true h
  xm_NotAStore_UnknownName := have h : decide (PySem.W.exmOne K (.ref (He.ga K "NotAStore")) (.ref (He.ga K "UnknownName")) = some false) = true := c.at in_ex7 15 rfl; of_decide_eq_true h
  ox_UnknownName := have h : oexB K (He.ga K "UnknownName") = true := c.at in_ex7 16 rfl; oexB_ok h
  oi_UnknownName := have h : decide (PySem.W.findIn K (.ref (He.ga K "UnknownName")) "__init__" = some (some (.ref (He.ma K (He.ga K "UnknownName") "__init__")))) = true := c.at in_ex7 17 rfl; of_decide_eq_true h
  ot_UnknownName := have h : decide (PySem.W.typeIn K (.ref (He.ma K (He.ga K "UnknownName") "__init__")) = some (.type "function")) = true := c.at in_ex7 18 rfl; of_decide_eq_true h
  on_UnknownName := have h : decide (PySem.W.findIn K (.ref (He.ga K "UnknownName")) "given" = some none) = true := c.at in_ex7 19 rfl; of_decide_eq_true h
  xf_UnknownName := have h : xfB K (He.ga K "UnknownName") = true := c.at in_ex7 20 rfl; xfB_ok h
  xm_UnknownName_InvalidNumber := have h : decide (PySem.W.exmOne K (.ref (He.ga K "UnknownName")) (.ref (He.ga K "InvalidNumber")) = some false) = true := c.at in_ex7 21 rfl; of_decide_eq_true h
  xm_UnknownName_NotAStore := have h : decide (PySem.W.exmOne K (.ref (He.ga K "UnknownName")) (.ref (He.ga K "NotAStore")) = some false) = true := c.at in_ex7 22 rfl; of_decide_eq_true h
  xm_UnknownName_UnknownName := have h : decide (PySem.W.exmOne K (.ref (He.ga K "UnknownName")) (.ref (He.ga K "UnknownName")) = some true) = true := c.at in_ex7 23 rfl; of_decide_eq_true h
  in_class := have h : decide (PySem.W.findIn K (.ref (He.ga K "InvalidNumber")) "__class__" = some (some (.builtin "object.__class__"))) = true := c.at in_ex7 24 rfl; of_decide_eq_true h
  in_mro := have h : decide (PySem.W.mroIn K (He.ga K "InvalidNumber") (.type "object") = some true) = true := c.at in_ex8 0 rfl; of_decide_eq_true h
  in_kit := have h : decide (PySem.W.kitOne K (.ref (He.ga K "InvalidNumber")) (.ref (He.ga K "ArrowError")) = some true) = true := c.at in_ex8 1 rfl; of_decide_eq_true h
  k_sys := have h : (K.lookup sysModules).isSome = true := c.at in_ex8 2 rfl; h
  f_InvalidNumber_init := c.dt in_fn0 0 (d := d_InvalidNumber_init) rfl
  f_NotAStore_init := c.dt in_fn0 1 (d := d_NotAStore_init) rfl
  f_UnknownName_init := c.dt in_fn0 2 (d := d_UnknownName_init) rfl
  f_is_whole := c.dt in_fn0 3 (d := d_is_whole) rfl
  f_is_between := c.dt in_fn0 4 (d := d_is_between) rfl
  f_is_place := c.dt in_fn0 5 (d := d_is_place) rfl
  f_is_letter := c.dt in_fn0 6 (d := d_is_letter) rfl
  f_is_pair := c.dt in_fn0 7 (d := d_is_pair) rfl
  f_are_name_pairs := c.dt in_fn0 8 (d := d_are_name_pairs) rfl
  f_check_cells := c.dt in_fn0 9 (d := d_check_cells) rfl
  f_Store_init := c.dt in_fn0 10 (d := d_Store_init) rfl
  f_Store_at := c.dt in_fn0 11 (d := d_Store_at) rfl
  f_check_store := c.dt in_fn0 12 (d := d_check_store) rfl
  f_walked := c.dt in_fn0 13 (d := d_walked) rfl
  f_tail_and_ring := c.dt in_fn0 14 (d := d_tail_and_ring) rfl
  f_check_number := c.dt in_fn0 15 (d := d_check_number) rfl
  f_check_track := c.dt in_fn0 16 (d := d_check_track) rfl
  f_check_paces := c.dt in_fn0 17 (d := d_check_paces) rfl
  f_stop_after := c.dt in_fn0 18 (d := d_stop_after) rfl
  f_inverse := c.dt in_fn0 19 (d := d_inverse) rfl
  f_first_turn := c.dt in_fn0 20 (d := d_first_turn) rfl
  f_meet := c.dt in_fn0 21 (d := d_meet) rfl
  f_doubling_steps := c.dt in_fn0 22 (d := d_doubling_steps) rfl
  f_track_of := c.dt in_fn0 23 (d := d_track_of) rfl
  f_meeting_place := c.dt in_fn0 24 (d := d_meeting_place) rfl
  f_Heap_init := c.dt in_fn1 0 (d := d_Heap_init) rfl
  f_Heap_place_of := c.dt in_fn1 1 (d := d_Heap_place_of) rfl
  f_Heap_done := c.dt in_fn1 2 (d := d_Heap_done) rfl
  f_Heap_is_same := c.dt in_fn1 3 (d := d_Heap_is_same) rfl
  f_Heap_holds := c.dt in_fn1 4 (d := d_Heap_holds) rfl
  f_Heap_store := c.dt in_fn1 5 (d := d_Heap_store) rfl
  f_heap_of := c.dt in_fn1 6 (d := d_heap_of) rfl
  f_asked_letters := c.dt in_fn1 7 (d := d_asked_letters) rfl
  f_set_letters := c.dt in_fn1 8 (d := d_set_letters) rfl
  f_is_goal := c.dt in_fn1 9 (d := d_is_goal) rfl
  f_Words_init := c.dt in_fn1 10 (d := d_Words_init) rfl
  f_Words_peek := c.dt in_fn1 11 (d := d_Words_peek) rfl
  f_Words_take := c.dt in_fn1 12 (d := d_Words_take) rfl
  f_Words_is_over := c.dt in_fn1 13 (d := d_Words_is_over) rfl
  f_split_words := c.dt in_fn1 14 (d := d_split_words) rfl
  f_read_comparison := c.dt in_fn1 15 (d := d_read_comparison) rfl
  f_read_test := c.dt in_fn1 16 (d := d_read_test) rfl
  f_read_next_or_tie := c.dt in_fn1 17 (d := d_read_next_or_tie) rfl
  f_read_block := c.dt in_fn1 18 (d := d_read_block) rfl
  f_read_while := c.dt in_fn1 19 (d := d_read_while) rfl
  f_read_statement := c.dt in_fn1 20 (d := d_read_statement) rfl
  f_read_rows := c.dt in_fn1 21 (d := d_read_rows) rfl
  f_count_statements := c.dt in_fn1 22 (d := d_count_statements) rfl
  f_tree_of := c.dt in_fn1 23 (d := d_tree_of) rfl
  f_program_tree := c.dt in_fn1 24 (d := d_program_tree) rfl
  f_test_letters := c.dt in_fn2 0 (d := d_test_letters) rfl
  f_tree_letters := c.dt in_fn2 1 (d := d_tree_letters) rfl
  f_put_loop := c.dt in_fn2 2 (d := d_put_loop) rfl
  f_put_steps := c.dt in_fn2 3 (d := d_put_steps) rfl
  f_steps_of := c.dt in_fn2 4 (d := d_steps_of) rfl
  f_helpers_of := c.dt in_fn2 5 (d := d_helpers_of) rfl
  f_check_letters := c.dt in_fn2 6 (d := d_check_letters) rfl
  f_check_most := c.dt in_fn2 7 (d := d_check_most) rfl
  f_Run_init := c.dt in_fn2 8 (d := d_Run_init) rfl
  f_Notes_init := c.dt in_fn2 9 (d := d_Notes_init) rfl
  f_Notes_note_deed := c.dt in_fn2 10 (d := d_Notes_note_deed) rfl
  f_Notes_note_test := c.dt in_fn2 11 (d := d_Notes_note_test) rfl
  f_Walk_init := c.dt in_fn2 12 (d := d_Walk_init) rfl
  f_Walk_lead := c.dt in_fn2 13 (d := d_Walk_lead) rfl
  f_Walk_is_over := c.dt in_fn2 14 (d := d_Walk_is_over) rfl
  f_Walk_step := c.dt in_fn2 15 (d := d_Walk_step) rfl
  f_walk_of := c.dt in_fn2 16 (d := d_walk_of) rfl
  f_word_of := c.dt in_fn2 17 (d := d_word_of) rfl
  f_check_run_cells := c.dt in_fn2 18 (d := d_check_run_cells) rfl
  f_walked_run := c.dt in_fn2 19 (d := d_walked_run) rfl
  f_run := c.dt in_fn2 20 (d := d_run) rfl
  f_law_well := c.dt in_fn2 21 (d := d__law_well) rfl
  f_law_take := c.dt in_fn2 22 (d := d__law_take) rfl
  f_law_pick := c.dt in_fn2 23 (d := d__law_pick) rfl
  f_law_drawn := c.dt in_fn2 24 (d := d__law_drawn) rfl
  f_law_store := c.dt in_fn3 0 (d := d__law_store) rfl
  f_law_odd := c.dt in_fn3 1 (d := d__law_odd) rfl
  f_law_stop := c.dt in_fn3 2 (d := d__law_stop) rfl
  f_law_first_meeting := c.dt in_fn3 3 (d := d__law_first_meeting) rfl
  f_law_great_number := c.dt in_fn3 4 (d := d__law_great_number) rfl
  f_law_track := c.dt in_fn3 5 (d := d__law_track) rfl
  f_law_doubling := c.dt in_fn3 6 (d := d__law_doubling) rfl
  f_law_formula := c.dt in_fn3 7 (d := d__law_formula) rfl
  f_law_error := c.dt in_fn3 8 (d := d__law_error) rfl
  f_law_are_refused := c.dt in_fn3 9 (d := d__law_are_refused) rfl
  f_law_is_store_right := c.dt in_fn3 10 (d := d__law_is_store_right) rfl
  f_law_is_program_right := c.dt in_fn3 11 (d := d__law_is_program_right) rfl
  f_law_right := c.dt in_fn3 12 (d := d__law_right) rfl
  f_law := c.dt in_fn3 13 (d := d_law) rfl
/-! ### the run of the top -/
abbrev R : PySem.W.OpenRow := PySem.W.OpenLaw.row PySem.Challenge.rw_arrowcells_k66_whole_walkers_on_stores
def names0 : List PySem.Str := ["gcd", "_wall", "ArrowError", "InvalidNames", "InvalidPlace", "InvalidNumber", "InvalidProgram", "NotAStore", "UnknownName", "TooMany", "InvalidCells", "LETTERS", "END", "MOST_PLACE", "MOST_CELLS", "MOST_NAMES", "FAR", "is_whole", "is_between", "is_place", "is_letter", "is_pair", "are_name_pairs", "check_cells", "Store", "check_store", "walked", "tail_and_ring", "check_number", "check_track"]
def names1 : List PySem.Str := ["check_paces", "stop_after", "inverse", "first_turn", "meet", "doubling_steps", "track_of", "meeting_place", "Heap", "heap_of", "asked_letters", "set_letters", "MOST_BRACES", "MOST_STATEMENTS", "MOST_COMPARISONS", "is_goal", "Words", "split_words", "read_comparison", "read_test", "read_next_or_tie", "read_block", "read_if", "read_while", "read_statement", "read_rows", "count_statements", "tree_of", "program_tree", "test_letters"]
def names2 : List PySem.Str := ["tree_letters", "MOST_LETTERS", "MOST_STEPS", "put_if", "put_loop", "put_steps", "steps_of", "helpers_of", "check_letters", "check_most", "MOST_RUN_CELLS", "Run", "Notes", "Walk", "walk_of", "word_of", "check_run_cells", "walked_run", "run", "_law_well", "_law_take", "_law_pick", "_law_drawn", "_law_store", "_law_odd", "_law_stop", "_law_first_meeting", "_law_great_number", "_law_track", "_law_doubling"]
def names3 : List PySem.Str := ["_law_formula", "_law_error", "_law_are_refused", "_law_is_store_right", "_law_is_program_right", "_law_right"]
def names : List PySem.Str := names0 ++ names1 ++ names2 ++ names3
def ob (s : PySem.W.SharedT) : He.AlD := obsBG (HandSHeadRun.getT s)
theorem ob_eq (s : PySem.W.SharedT) : ob s = hk.obs s.abs := obsBG_eq (HandSHeadRun.getT_eq s)
end K66
end
section
set_option Elab.async false
set_option linter.all false
set_option maxRecDepth 100000
set_option maxHeartbeats 0
namespace K66
open PySem PySem.Spec PyProof.Rows L2
theorem run (w : World) : HandSHeadRun.RunEqI R (PySem.W.view R.prog [107]) hk ob 14000 names w := by
  unfold HandSHeadRun.RunEqI
  kernel_rfl
end K66
end
section
set_option Elab.async false
set_option linter.all false
set_option maxRecDepth 100000
set_option maxHeartbeats 4000000
/-! Short words over the layer: a def with its binding, calls, heaps by names. -/
namespace K66
open PySem PySem.Spec PyProof.Rows L2
/-! ### a def that keeps its promise, its binding, its place -/
def FnAt (P : Program) (w : World) (K : PySem.W.Frag) (mg : Str → Option Value) (base : Heap) (CX : CXT) (k : Nat) (f : Addr) (ps : List Str) (sp : Sp) : Prop :=
  ∃ fd, FnOk P w K mg base CX k f fd ps sp ∧ Binds K fd ps [] ∧ PySem.W.keepIn K (.ref f) = true ∧ ∀ (s : Shared) (us : List Value), us.length = ps.length → BindsTo s fd ⟨us, []⟩ (ps.zip us)
section
variable {P : Program} {w : World} {K : PySem.W.Frag} {mg : Str → Option Value} {base : Heap} {x qual : Str} {st : Stmt} {f : Addr} {N ps : List Str} {k : Nat} {sp : Sp}
theorem fnAt0 (F : FnP K x qual st f) (S : FnScope N ps (defScope st)) (len : ∀ vs H Q E, sp vs H Q E → vs.length = ps.length)
    (hb : ∀ (kV doc pm : Value) (an : Option Addr) (cdv ct : Value) (us : List Value), us.length = ps.length → bindArgs (PySem.W.fnOf x qual (defArgs st) (defBody st) (defScope st) .none kV doc pm an cdv ct) ⟨us, []⟩ = pure (ps.zip us))
    (hbody : ∀ (cdv : Value) (A : Around) (outer : List Env) (s : Shared) (H : Hp) (vs : List V) (Q : VK) (E : XK), Room k (A.deeper (envOfC qual (defScope st) s.heap.objs.size f cdv)) → sp vs H Q E →
      ∃ t, PSs (cxOf CX0 P w K mg base N qual (defScope st) f cdv A outer s H E).nox (defBody st) t ∧ t { nx := fun _ H' => Q .non H', rt := Q } (start N vs) H) : FnAt P w K mg base CX0 (k + 1) f ps sp := by
  obtain ⟨fd, F⟩ := F
  exact ⟨fd, F.ok S len fun cdv A outer s H vs Q E hr h => let ⟨t, a, b⟩ := hbody cdv A outer s H vs Q E hr h; ⟨t, a.nox, b⟩, F.bindsN hb, F.kp, F.bindsA hb⟩
theorem fnAtX (F : FnP K x qual st f) (S : FnScope N ps (defScope st)) (len : ∀ vs H Q E, sp vs H Q E → vs.length = ps.length)
    (hb : ∀ (kV doc pm : Value) (an : Option Addr) (cdv ct : Value) (us : List Value), us.length = ps.length → bindArgs (PySem.W.fnOf x qual (defArgs st) (defBody st) (defScope st) .none kV doc pm an cdv ct) ⟨us, []⟩ = pure (ps.zip us))
    (hbody : ∀ (cdv : Value) (A : Around) (outer : List Env) (s : Shared) (H : Hp) (vs : List V) (Q : VK) (E : XK), Room k (A.deeper (envOfC qual (defScope st) s.heap.objs.size f cdv)) → sp vs H Q E →
      ∃ t, PSs (cxOf (L2.CX P w) P w K mg base N qual (defScope st) f cdv A outer s H E) (defBody st) t ∧ t { nx := fun _ H' => Q .non H', rt := Q } (start N vs) H) : FnAt P w K mg base (L2.CX P w) (k + 1) f ps sp := by
  obtain ⟨fd, F⟩ := F
  exact ⟨fd, F.ok S len hbody, F.bindsN hb, F.kp, F.bindsA hb⟩
theorem FnAt.mono {CX : CXT} {j : Nat} (F : FnAt P w K mg base CX j f ps sp) (h : j ≤ k) : FnAt P w K mg base CX k f ps sp := let ⟨fd, a, b⟩ := F; ⟨fd, a.mono h, b⟩
theorem FnAt.imp {CX : CXT} {sp' : Sp} (F : FnAt P w K mg base CX k f ps sp) (h : ∀ vs H Q E, sp' vs H Q E → sp vs H Q E) : FnAt P w K mg base CX k f ps sp' := let ⟨fd, a, b⟩ := F; ⟨fd, a.imp h, b⟩
end
/-! ### promises by the number of arguments -/
def sp1 (f : V → Hp → VK → XK → Prop) : Sp := fun vs H Q E => ∃ a, vs = [a] ∧ f a H Q E
def sp2 (f : V → V → Hp → VK → XK → Prop) : Sp := fun vs H Q E => ∃ a b, vs = [a, b] ∧ f a b H Q E
def sp3 (f : V → V → V → Hp → VK → XK → Prop) : Sp := fun vs H Q E => ∃ a b c, vs = [a, b, c] ∧ f a b c H Q E
def sp4 (f : V → V → V → V → Hp → VK → XK → Prop) : Sp := fun vs H Q E => ∃ a b c d, vs = [a, b, c, d] ∧ f a b c d H Q E
def sp5 (f : V → V → V → V → V → Hp → VK → XK → Prop) : Sp := fun vs H Q E => ∃ a b c d e, vs = [a, b, c, d, e] ∧ f a b c d e H Q E
def sp6 (f : V → V → V → V → V → V → Hp → VK → XK → Prop) : Sp := fun vs H Q E => ∃ a b c d e g, vs = [a, b, c, d, e, g] ∧ f a b c d e g H Q E
theorem len1 {f : V → Hp → VK → XK → Prop} : ∀ vs H Q E, sp1 f vs H Q E → vs.length = 1 := fun _ _ _ _ ⟨_, e, _⟩ => by rw [e]; rfl
theorem len2 {f : V → V → Hp → VK → XK → Prop} : ∀ vs H Q E, sp2 f vs H Q E → vs.length = 2 := fun _ _ _ _ ⟨_, _, e, _⟩ => by rw [e]; rfl
theorem len3 {f : V → V → V → Hp → VK → XK → Prop} : ∀ vs H Q E, sp3 f vs H Q E → vs.length = 3 := fun _ _ _ _ ⟨_, _, _, e, _⟩ => by rw [e]; rfl
theorem len4 {f : V → V → V → V → Hp → VK → XK → Prop} : ∀ vs H Q E, sp4 f vs H Q E → vs.length = 4 := fun _ _ _ _ ⟨_, _, _, _, e, _⟩ => by rw [e]; rfl
theorem len5 {f : V → V → V → V → V → Hp → VK → XK → Prop} : ∀ vs H Q E, sp5 f vs H Q E → vs.length = 5 := fun _ _ _ _ ⟨_, _, _, _, _, e, _⟩ => by rw [e]; rfl
theorem len6 {f : V → V → V → V → V → V → Hp → VK → XK → Prop} : ∀ vs H Q E, sp6 f vs H Q E → vs.length = 6 := fun _ _ _ _ ⟨_, _, _, _, _, _, e, _⟩ => by rw [e]; rfl
/-! ### calls -/
section
variable {X : Cx} {CX : CXT} {k : Nat} {f C : Addr} {ps : List Str} {sp : Sp} {E : XK} {x m : Str} {p pos apos : Pos} {e o : Expr} {es : List Expr} {ta : TE} {t : TA}
/-- f(e, ..) -/
theorem pe_f (F : FnAt X.prog X.w X.K X.mg X.base CX k f ps sp) (hr : Room k X.A) (hm : X.mg x = some (.ref f)) (hx : Passes CX X E) (ha : PA X (e :: es) t) (hg : Gl X x := by rfl)
    (hdb : (x == ("__debug__" : Str)) = false := by decide) (he : starEach (e :: es) X.env = (false, eval e X.env) :: starEach es X.env := by rfl) (hpl : (backTo pos (starEach es X.env)).any (·.1) = false := by rfl) :
    PE X (.Call (.Name x p) (e :: es) [] pos) (tCall sp [] E t) :=
  let ⟨_, a, b, c, _⟩ := F
  pe_call a hr hg hm c b .nil hx ha hdb he hpl
/-- o.m(e, ..) -/
theorem pe_mt {pl : Sem Bool} (he : PE X o ta) (c : Cls X.K C) (hm : Meth X.K C m f) (F : FnAt X.prog X.w X.K X.mg X.base CX k f ps sp) (hr : Room k X.A) (hx : Passes CX X E) (ha : PA X (e :: es) t)
    (hst : starEach (e :: es) X.env = (false, eval e X.env) :: starEach es X.env := by rfl) (hpl : (backTo pos (starEach es X.env)).any (·.1) = false := by rfl)
    (ht : eval (.Call (.Attribute o m apos) (e :: es) [] pos) X.env = (do
      let ov ← eval o X.env
      standAt apos.atName
      let (f, first) ← holding [ov] (getMethod ov m pl)
      callWith pos f first (backTo pos (starEach (e :: es) X.env)) (backToKw pos (keywordEach [] X.env))) := by rfl) :
    PE X (.Call (.Attribute o m apos) (e :: es) [] pos) (tMeth C m sp [] E ta t) :=
  let ⟨_, a, b, _, _⟩ := F
  pe_meth he c hm a hr b .nil hx ha hst hpl ht
/-- o.m() -/
theorem pe_mt0 {pl : Sem Bool} (he : PE X o ta) (c : Cls X.K C) (hm : Meth X.K C m f) (F : FnAt X.prog X.w X.K X.mg X.base CX k f ps sp) (hr : Room k X.A) (hx : Passes CX X E)
    (ht : eval (.Call (.Attribute o m apos) [] [] pos) X.env = (do
      let ov ← eval o X.env
      standAt apos.atName
      let (f, first) ← holding [ov] (getMethod ov m pl)
      callWith pos f first (backTo pos (starEach [] X.env)) (backToKw pos (keywordEach [] X.env))) := by rfl) :
    PE X (.Call (.Attribute o m apos) [] [] pos) (tMeth C m sp [] E ta tNil) :=
  let ⟨_, a, b, _, _⟩ := F
  pe_meth0 he c hm a hr b .nil hx ht
/-- C(e, ..) -/
theorem pe_mk (M : Mk X.K C f) (F : FnAt X.prog X.w X.K X.mg X.base CX k f ps sp) (hr : Room (k + 1) X.A) (hm : X.mg x = some (.ref C)) (hx : Passes CX X E) (ha : PA X (e :: es) t) (hg : Gl X x := by rfl)
    (hdb : (x == ("__debug__" : Str)) = false := by decide) (he : starEach (e :: es) X.env = (false, eval e X.env) :: starEach es X.env := by rfl) (hpl : (backTo pos (starEach es X.env)).any (·.1) = false := by rfl) :
    PE X (.Call (.Name x p) (e :: es) [] pos) (tMake C sp [] E t) :=
  let ⟨_, a, b, _, _⟩ := F
  pe_make M a hr hg hm b .nil hx ha hdb he hpl
theorem pe_mk0 (M : Mk X.K C f) (F : FnAt X.prog X.w X.K X.mg X.base CX k f ps sp) (hr : Room (k + 1) X.A) (hm : X.mg x = some (.ref C)) (hx : Passes CX X E) (hg : Gl X x := by rfl)
    (hdb : (x == ("__debug__" : Str)) = false := by decide) : PE X (.Call (.Name x p) [] [] pos) (tMake C sp [] E tNil) :=
  let ⟨_, a, b, _, _⟩ := F
  pe_make0 M a hr hg hm b .nil hx hdb
/-- a module's number, text -/
theorem pe_gi {i : Int} (hm : ∃ t, X.mg x = some (.int i t)) (hg : Gl X x := by rfl) (hd : (x == ("__debug__" : Str)) = false := by decide) : PE X (.Name x pos) (tC (.int i)) :=
  let ⟨_, h⟩ := hm
  pe_glob hg h ⟨_, rfl⟩ hd
theorem pe_gs {i : Str} (hm : ∃ t, X.mg x = some (.str i t)) (hg : Gl X x := by rfl) (hd : (x == ("__debug__" : Str)) = false := by decide) : PE X (.Name x pos) (tC (.str i)) :=
  let ⟨_, h⟩ := hm
  pe_glob hg h ⟨_, rfl⟩ hd
theorem pe_gr {a : Addr} (hm : X.mg x = some (.ref a)) (hg : Gl X x := by rfl) (hd : (x == ("__debug__" : Str)) = false := by decide) : PE X (.Name x pos) (tC (.ref a)) := pe_glob hg hm rfl hd
/-- a built-in type as a value -/
theorem pe_ty {n : String} (hm : X.mg x = none) (hv : bootBuiltins x = some (.type n) := by decide +kernel) (hg : Gl X x := by rfl) (hn : x ≠ "__name__" := by decide) (hd : (x == ("__debug__" : Str)) = false := by decide) : PE X (.Name x pos) (tC (.ty n)) := pe_bltn hg hm hv rfl hn hd
end
/-- code that is never come to -/
theorem pe_never {X : Cx} {e : Expr} : PE X e (fun _ _ _ => False) := ⟨fun _ _ _ _ _ _ h => h.elim⟩
theorem pt_never {X : Cx} {e : Expr} : PT X e (fun _ _ _ => False) := ⟨fun _ _ _ _ _ _ h => h.elim⟩
/-! ### heaps -/
theorem same_of {H H1 : Hp} {p : Addr} {o : HO} (e : upd H p o = H1) (n : H p = none) : Same H H1 := fun b u h => by
  rw [← e, upd_ne (ne_of_none h n)]
  exact h
theorem at_of' {H H1 : Hp} {p : Addr} {o : HO} (e : upd H p o = H1) : H1 p = some o := by
  rw [← e]
  exact upd_same
theorem but_of {H H1 : Hp} {p : Addr} {o : HO} (e : upd H p o = H1) : ∀ b, b ≠ p → H1 b = H b := fun b h => by
  rw [← e]
  exact upd_ne h
theorem same_t {K : PySem.W.Frag} {H H' : Hp} {a : Addr} {xs : List V} (e : Same H H') (h : SqT K H a xs) : SqT K H' a xs := Evl.ex_t e h
/-- all but what stands at a -/
def But (a : Addr) (H H' : Hp) : Prop := ∀ b o, b ≠ a → H b = some o → H' b = some o
theorem But.refl (a : Addr) (H : Hp) : But a H H := fun _ _ _ h => h
theorem But.trans {a : Addr} {H H1 H2 : Hp} (x : But a H H1) (y : But a H1 H2) : But a H H2 := fun b o n h => y b o n (x b o n h)
theorem Same.but {a : Addr} {H H' : Hp} (x : Same H H') : But a H H' := fun b o _ h => x b o h
theorem but_upd {H H1 : Hp} {p : Addr} {o : HO} (e : upd H p o = H1) : But p H H1 := fun b u h q => by
  rw [← e, upd_ne h]
  exact q
/-! ### tests -/
theorem iteD {c A B : Prop} [Decidable c] (h1 : c → A) (h2 : ¬ c → B) : if decide c = true then A else B := by
  by_cases h : c
  · rw [decide_eq_true h, if_pos rfl]
    exact h1 h
  · rw [decide_eq_false h, if_neg Bool.false_ne_true]
    exact h2 h
theorem iteN {c A B : Prop} [Decidable c] (h1 : ¬ c → A) (h2 : c → B) : if (!decide c) = true then A else B := by
  by_cases h : c
  · rw [decide_eq_true h]
    exact iteF (h2 h)
  · rw [decide_eq_false h]
    exact iteT (h1 h)
theorem iteB {b : Bool} {A B : Prop} (h1 : b = true → A) (h2 : b = false → B) : if b = true then A else B := by
  cases b with
  | true => exact iteT (h1 rfl)
  | false => exact iteF (h2 rfl)
theorem iteE {b : Bool} {A B : Prop} (e : b = true) (h : A) : if b = true then A else B := by rw [if_pos e]; exact h
theorem iteO {b : Bool} {A B : Prop} (e : b = false) (h : B) : if b = true then A else B := by rw [e]; exact iteF h
theorem Qb {Q : VK} {b c : Bool} {H : Hp} (e : b = c) (h : Q (.bl c) H) : Q (.bl b) H := e ▸ h
theorem Qi {Q : VK} {b c : Int} {H : Hp} (e : b = c) (h : Q (.int c) H) : Q (.int b) H := e ▸ h
theorem dI (a b : Int) : decide (V.int a = V.int b) = decide (a = b) := decide_eq_decide.mpr ⟨V.int.inj, fun h => by rw [h]⟩
theorem dS (a b : Str) : decide (V.str a = V.str b) = decide (a = b) := decide_eq_decide.mpr ⟨V.str.inj, fun h => by rw [h]⟩
theorem putF_le (f : Str) (v : V) : ∀ fs : List (Str × V), (putF f v fs).length ≤ fs.length + 1
  | [] => Nat.le_refl _
  | (g, x) :: r => by
    unfold putF
    split
    · exact Nat.le_succ _
    · exact Nat.succ_le_succ (putF_le f v r)
theorem putF_lt {f : Str} {v : V} {fs : List (Str × V)} {n : Nat} (h : fs.length < n) : (putF f v fs).length < n + 1 := Nat.lt_of_le_of_lt (putF_le f v fs) (Nat.succ_lt_succ h)
theorem sz1000 {n : Nat} (h : n ≤ 1000) : n ≤ sizeLine := Nat.le_of_lt (small1000 h)
theorem szn {n : Nat} (h : n ≤ 1000) : n < sizeLine := small1000 h
end K66
end
section
set_option Elab.async false
set_option linter.all false
set_option maxRecDepth 100000
set_option maxHeartbeats 4000000
/-! Rules that the layer lacks: raising a class of one's own with one field, made by its own __init__; dict of a tuple of pairs; enumerate of a tuple; repr of data; a call by keywords alone. -/
namespace K66
open PySem PySem.Spec PyProof.Rows L2
/-! ### flat values and their types -/
def fl : V → Bool
  | .non => true
  | .bl _ => true
  | .int _ => true
  | .str x => decide (x.length ≤ 1000)
  | _ => false
def tyF : V → String
  | .non => "NoneType"
  | .bl _ => "bool"
  | .int _ => "int"
  | .str _ => "str"
  | _ => ""
theorem ty_f {K : PySem.W.Frag} {H : Hp} {v : V} (h : fl v = true) : TyX K H v (.type (tyF v)) := by
  cases v with
  | non => exact .base .non
  | bl b => exact .base (.bl b)
  | int i => exact .base (.int i)
  | str x => exact .base (.str x)
  | _ => cases h
theorem isi_t {K : PySem.W.Frag} {H : Hp} {Q : VK} {v : V} {t n : String} {b : Bool} (h : TyX K H v (.type t)) (e : kitB t n = some b) (q : Q (.bl b) H) : rIsi K [v, .ty n] H Q := ⟨v, .ty n, .type t, .type n, b, rfl, .ty n, h, kit_ty e, q⟩
theorem isi_f {K : PySem.W.Frag} {H : Hp} {Q : VK} {v : V} {n : String} {b : Bool} (h : fl v = true) (e : kitB (tyF v) n = some b) (q : Q (.bl b) H) : rIsi K [v, .ty n] H Q := isi_t (ty_f h) e q
/-! ### raise C(e) -/
/-- __init__ of such a class: self.given = given -/
def spEx (K : PySem.W.Frag) (C : Addr) : Sp := sp2 fun self g H Q _ => ∃ a, self = .ref a ∧ OexC K C ∧ PySem.W.findIn K (.ref C) "given" = some none ∧ H a = some (exo a C none) ∧
  ∀ dx, H dx = none → dx ≠ a → Q .non (upd (upd H dx (exd dx [("given", g)])) a (exo a C (some dx)))
/-- what is wished when C(v) is raised -/
def Rs (C : Addr) (v : V) (H : Hp) (E : XK) : Prop := ∀ d H', H d = none → Same H H' → H' d = some (.xd [("given", v)]) → E (.ref C) (some d) H'
theorem exo_ne_exd {a C d : Addr} {dd : Option Addr} {fs : List (Str × V)} : exo a C dd ≠ .xd fs := fun z => by
  have z' : HO.ext _ = HO.xd fs := z
  cases z'
theorem rd_raise {K : PySem.W.Frag} {C : Addr} {v : V} {H1 : Hp} {Q : XK} (T : OexC K C) (hn : PySem.W.findIn K (.ref C) "given" = some none) (h : Rs C v H1 Q) :
    [v].length ≤ 1000 ∧ ∀ a, H1 a = none → spEx K C (.ref a :: ([v] ++ [])) (upd H1 a (exo a C none))
      (fun v H2 => v = .non ∧ ∃ (d : Addr) (fs : List (Str × V)), H2 a = some (exo a C (some d)) ∧ H2 d = some (exd d fs) ∧ H1 d = none ∧ Q (.ref C) (some d) (upd (del H2 a) d (.xd fs))) (fun _ _ _ => False) := by
  refine ⟨by show 1 ≤ 1000; decide, fun a na => ⟨_, _, rfl, a, rfl, T, hn, upd_same, fun dx nd ne => ⟨rfl, dx, [("given", v)], upd_same, ?_, ?_, ?_⟩⟩⟩
  · rw [upd_ne ne, upd_same]
  · rw [upd_ne ne] at nd
    exact nd
  · have nd1 : H1 dx = none := by
      rw [upd_ne ne] at nd
      exact nd
    refine h dx _ nd1 (fun b o e => ?_) upd_same
    have b1 : b ≠ a := ne_of_none e na
    have b2 : b ≠ dx := ne_of_none e nd1
    rw [upd_ne b2, del_ne b1, upd_ne b1, upd_ne b2, upd_ne b1]
    exact e
section
variable {X : Cx} {CX : CXT} {x : Str} {C fI : Addr} {k : Nat} {ps : List Str} {sp : Sp} {e : Expr} {es : List Expr} {ta : TA} {p pos : Pos}
theorem pmk_x (T : OexC X.K C) (iC : PySem.W.findIn X.K (.ref C) "__init__" = some (some (.ref fI))) (tI : PySem.W.typeIn X.K (.ref fI) = some (.type "function"))
    (F1 : FnAt X.prog X.w X.K X.mg X.base CX0 k fI ps sp) (hr : Room (k + 1) X.A) (hm : X.mg x = some (.ref C)) (ha : PA X (e :: es) ta) (hg : Gl X x := by rfl)
    (hdb : (x == ("__debug__" : Str)) = false := by decide) (he : starEach (e :: es) X.env = (false, eval e X.env) :: starEach es X.env := by rfl) (hpl : (backTo pos (starEach es X.env)).any (·.1) = false := by rfl) :
    PMk X (.Call (.Name x p) (e :: es) [] pos) (tMkO C sp [] ta) :=
  let ⟨_, a, b, _, _⟩ := F1
  pmk_oex T iC tI a hr b .nil pass0 hg hm ha hdb he hpl
end
/-! ### tuple(xs), the object told (its dict is none) -/
theorem call_tuple_frz {X : Cx} : CallR X (.type "tuple") (fun xs H Q => ∃ p ys, xs = [.ref p] ∧ SqL X.K H p ys ∧ ∀ l (o : Obj), H l = none → o.dict = none → Q (.ref l) (upd H l (.frz o (.tup ys)))) := by
  intro pins s σ H xs us Q I r h
  obtain ⟨p, ys, rfl, hq, q⟩ := h
  obtain ⟨u, rfl, rx⟩ := vals1 r
  cases rx
  obtain ⟨its, r', pl, hz⟩ := I.list hq
  have hlen := r'.length
  refine call_tuple_list pl.isList (fun h' kp => ?_) (by simp only [List.size_toArray] <;> omega)
  have I1 : Inv X pins σ H { s with heap := h' } := I.kept (t' := s.toks) kp
  have I2 : Inv X pins σ (upd H h'.objs.size (.frz { cls := .type "tuple", data := .seq its.toArray } (.tup ys))) { s with heap := h'.push { cls := .type "tuple", data := .seq its.toArray } } :=
    I1.laid (t' := s.toks) (fun b o e => Heap.get?_push_of_some _ e) (Nat.le_refl _) (show ObjOk X.prog X.w _ _ _ (.frz _ (.tup ys)) from ⟨Heap.get?_push_size _ rfl, hz, its, r', IsTup.new _ _⟩)
  exact ⟨.ref h'.objs.size, _, I2, rfl, q _ _ (I1.hok.fresh (Nat.le_refl _)) rfl⟩
/-! ### dict(t), t a tuple of pairs whose object is told -/
theorem paired_at {κ : Type} {F : Addr → κ → Prop} : ∀ {ps : List Addr} {kvs : List κ}, Paired F ps kvs → ps.length = kvs.length := fun h => Paired.length h
theorem call_dictT {X : Cx} (hcalm : X.calm = true) : CallR X (.type "dict") (fun xs H Q => ∃ (a : Addr) (o : Obj) (ps : List Addr) (kvs : List (Key × V)), xs = [.ref a] ∧ H a = some (.frz o (.tup (ps.map V.ref))) ∧ o.dict = none ∧
    Paired (fun p kv => SqT X.K H p [kV kv.1, kv.2]) ps kvs ∧ ∀ p, H p = none → Q (.ref p) (upd H p (.dK (mergeK [] kvs)))) := by
  intro pins s σ H xs us Q I r q
  obtain ⟨a, o, ps, kvs, ex, ha, hod, hp, q⟩ := q
  subst ex
  obtain ⟨u, eu, rx⟩ := vals1 r
  subst eu
  cases rx
  obtain ⟨hao, hz, its, rv, o', ho', hc, n, hdat⟩ : ObjOk X.prog X.w H s.heap a (.frz o (.tup (ps.map V.ref))) := I.hok a _ ha
  rw [hao] at ho'
  cases ho'
  have ei := refs_at rv
  subst ei
  rw [List.length_map] at hz
  obtain ⟨prs, rel, hl, hpr⟩ := pairs_of I hp
  -- the pairs as values
  have key : ∀ (j : Nat) (q' : Key × Value), prs[j]? = some q' → ∃ b u, ps[j]? = some b ∧ IsTup s.heap b #[u, q'.2] ∧ keyIs q'.1 u = true := hpr
  obtain ⟨kvl, hkl, hkv⟩ : ∃ kvl : List (Value × Value), kvl.length = prs.length ∧ ∀ (j : Nat) (q' : Key × Value), prs[j]? = some q' → ∃ b u, ps[j]? = some b ∧ kvl[j]? = some (u, q'.2) ∧ IsTup s.heap b #[u, q'.2] ∧ keyIs q'.1 u = true := by
    clear q rel ha rv hdat hz hpr hp hao hc
    induction prs generalizing ps with
    | nil => exact ⟨[], rfl, fun j q' e => by simp at e⟩
    | cons x r ih =>
      cases ps with
      | nil => simp at hl
      | cons p ps =>
        obtain ⟨l, e1, e2⟩ := ih ps (by simpa using hl) (fun j q' e => by simpa using key (j + 1) q' (by simpa using e))
        obtain ⟨b, u, a1, a2, a3⟩ := key 0 x rfl
        refine ⟨(u, x.2) :: l, by simp [e1], fun j q' e => ?_⟩
        cases j with
        | zero =>
          cases e
          exact ⟨b, u, a1, rfl, a2, a3⟩
        | succ j =>
          obtain ⟨b', u', c1, c2, c3⟩ := e2 j q' (by simpa using e)
          exact ⟨b', u', by simpa using c1, by simpa using c2, c3⟩
  have hsz : kvl.length ≤ sizeLine := by rw [hkl, hl]; exact hz
  refine PySem.call_dict_pairs (knd := mixKind X.prog X.w) (kvs := prs) (PairArg.tuple a (ps.map Value.ref).toArray (fun j => ps.getD j 0) kvl) (I.ok.hd hcalm) ⟨⟨o, n, hao, hc, hod, hdat⟩, by simp [hkl, hl], fun j k v e => ?_⟩ ?_ hsz fun h' tk hd' k => ?_
  · have hj : j < prs.length := by rw [← hkl]; exact (List.getElem?_eq_some_iff.mp e).1
    obtain ⟨b, u, c1, c2, c3, c4⟩ := hkv j prs[j] (List.getElem?_eq_getElem hj)
    rw [c2] at e
    cases e
    refine ⟨by simp [c1], .inl ?_⟩
    have : ps.getD j 0 = b := by simp [List.getD, c1]
    show s.heap.IsTuple (ps.getD j 0) _
    rw [this]
    exact c3
  · refine ⟨hkl.symm, fun i key v e => ?_⟩
    have e : kvl[i]? = some (key, v) := e
    have hj : i < prs.length := by rw [← hkl]; exact (List.getElem?_eq_some_iff.mp e).1
    obtain ⟨b, u, c1, c2, c3, c4⟩ := hkv i prs[i] (List.getElem?_eq_getElem hj)
    rw [c2] at e
    cases e
    exact ⟨prs[i].1, List.getElem?_eq_getElem hj, c4⟩
  · have hm : (s.heap.objs.size == sysModules) = false := beq_eq_false_iff_ne.mpr (Nat.ne_of_gt I.big)
    have hlen : (mergeK [] kvs).length ≤ sizeLine := by
      refine Nat.le_trans (length_mergeK kvs []) ?_
      rw [List.length_nil, Nat.zero_add, rel.length, hl]
      exact hz
    exact ⟨.ref s.heap.objs.size, upd H s.heap.objs.size (.dK (mergeK [] kvs)), I.laid (t' := tk) (fun b ob e => k b ob (by simp) e) (Nat.le_refl _) (show ObjOk X.prog X.w _ _ _ (.dK (mergeK [] kvs)) from ⟨hlen, hm, merged [] prs, KV.merge rel .nil, hd'⟩), rfl, q _ (I.hok.fresh (Nat.le_refl _))⟩
/-! ### for i, x in enumerate(t), t a tuple -/
theorem meets_enumerate_newT (l : Addr) (items : Array Value) (n : Nat) (dct : Option Addr) (sl : Array (Option Value)) :
    Meets (Builtin.«enumerate.__new__» ⟨[.type "enumerate", .ref l], []⟩) (fun _ R s => s.heap.get? l = some { cls := .type "tuple", dict := dct, data := .seq items n, slots := sl } ∧
      R (.ok (.ret (.ref (s.heap.push { cls := .type "tuple_iterator", data := .fields #[.ref l, .int 0 0] }).objs.size)))
        { s with heap := (s.heap.push { cls := .type "tuple_iterator", data := .fields #[.ref l, .int 0 0] }).push { cls := .type "enumerate", data := .fields #[.none, .bool false, .ref s.heap.objs.size, rawInt 0, .none, .none] } }) :=
  .of_wp fun prog w A R s h => by
    obtain ⟨hp, g, d, tk, os⟩ := s; obtain ⟨hl, h⟩ := h
    have hsub := sub_enumerate
    have hL : Heap.IsTuple (Shared.heap ⟨hp, g, d, tk, os⟩) l items := ⟨_, hl, rfl, n, rfl⟩
    wp_walk using AutoSeq1.wpAny_loadPart' hl
    refine wpAny_stack_any fun st => wpAny_pure ?_
    split
    · rename_i c _ _ _ _ _
      cases (c == Value.type "enumerate")
      · wp_walk using AutoSeq1.wpAny_loadPart' hl, wpAny_pyIter_tuple hL
        exact ⟨_, rfl, h⟩
      · wp_walk using AutoSeq1.wpAny_loadPart' hl, wpAny_pyIter_tuple hL
        exact ⟨_, rfl, h⟩
    · wp_walk using AutoSeq1.wpAny_loadPart' hl, wpAny_pyIter_tuple hL
      exact ⟨_, rfl, h⟩
section
variable {prog : Program} {w : World} {A : Around} {E : Value → Shared → Prop} {s : Shared}
theorem call_enumerate_tuple {l : Addr} {items : Array Value} {Q : Value → Shared → Prop} (hL : s.heap.IsTuple l items)
    (h : ∀ h', IsEnum h' (s.heap.objs.size + 1) s.heap.objs.size 0 .none → h'.IsTupleIter s.heap.objs.size l 0 → h'.objs.size = s.heap.objs.size + 2 →
      (∀ b o, s.heap.get? b = some o → h'.get? b = some o) → Q (.ref (s.heap.objs.size + 1)) { s with heap := h' }) :
    wpAny (model prog w) A (call (.type "enumerate") [.ref l]) Q E s := by
  obtain ⟨⟨c, dct, dt, sl⟩, hl, hc, n, hd⟩ := hL
  replace hc : c = .type "tuple" := hc
  replace hd : dt = .seq items n := hd
  subst hc hd
  refine callType_new F.called_enumerate (by decide) (F.typeCall_enumerate_1 _) (F.newCall_enumerate_1 _) (fun obj => F.args_object_init_2 obj _) F.entry_enumerate_new
    (meets_enumerate_newT l items n dct sl) ⟨hl, ?_⟩
  have hz : (s.heap.push { cls := .type "tuple_iterator", data := .fields #[.ref l, .int 0 0] }).objs.size = s.heap.objs.size + 1 := Heap.size_push ..
  show _ ∧ _
  rw [hz]
  have he : IsEnum ((s.heap.push { cls := .type "tuple_iterator", data := .fields #[.ref l, .int 0 0] }).push
      { cls := .type "enumerate", data := .fields #[.none, .bool false, .ref s.heap.objs.size, rawInt 0, .none, .none] }) (s.heap.objs.size + 1) s.heap.objs.size 0 .none := by
    have := Heap.get?_push_size (s.heap.push { cls := .type "tuple_iterator", data := .fields #[.ref l, .int 0 0] })
      (o := { cls := .type "enumerate", data := .fields #[.none, .bool false, .ref s.heap.objs.size, rawInt 0, .none, .none] }) rfl
    rw [hz] at this; exact this
  refine ⟨⟨_, he, rfl⟩, h _ he ⟨_, Heap.get?_push_of_some _ (Heap.get?_push_size _ rfl), rfl, rfl⟩ (by rw [Heap.size_push, hz]) fun b o x => Heap.get?_push_of_some _ (Heap.get?_push_of_some _ x)⟩
end
def IteT (K : PySem.W.Frag) (a : Addr) : It :=
  ⟨fun i H => ∃ (xs : List V) (x : V), SqT K H a xs ∧ xs[i]? = some x, fun i H v H' => ∃ T x, v = .ref T ∧ H T = none ∧ H' = upd H T (.tup [.int (i : Nat), x]) ∧ ∀ xs, SqT K H a xs → xs[i]? = some x, fun i H => ∃ xs : List V, SqT K H a xs ∧ xs.length = i⟩
theorem turn_enumT {P : Program} {w : World} {K : PySem.W.Frag} {elts : List Expr} {kk : Nat} {tpos : Pos} (a e it : Addr) :
    Turn P w K (.Tuple elts kk tpos) (IteT K a) [e, it] e (fun i h => (∃ old, IsEnum h e it ((i : Nat) : Int) old) ∧ h.IsTupleIter it a i ∧ e ≠ it ∧ a ≠ it ∧ a ≠ e) where
  mem := by simp
  obj := fun i h st b hb => by
    obtain ⟨⟨old, he⟩, ⟨o, ho, hc, hd⟩, _⟩ := st
    have e' : b = e ∨ b = it := by simpa using hb
    rcases e' with z | z
    · rw [z]; exact ⟨_, he, fun v q => nomatch q⟩
    · rw [z]; exact ⟨o, ho, fun v q => by rw [hd] at q; cases q⟩
  keep := fun i h h' st k => let ⟨⟨old, he⟩, hi, hne⟩ := st; ⟨⟨old, k e (by simp) _ he⟩, hi.at fun o q => k it (by simp) o q, hne⟩
  item := by
    intro X hP hw hK hc i pins s σ H E I hf st hg
    subst hP hw hK
    obtain ⟨⟨old, he⟩, hit, hne, hai, hae⟩ := st
    obtain ⟨xs, x, hq, hx⟩ := hg
    obtain ⟨its, rv, p, hz⟩ := I.tuple hq
    obtain ⟨u, hu, ru⟩ := rv.get hx
    have hel : e < s.heap.objs.size := Heap.lt_size he
    have hil : it < s.heap.objs.size := by obtain ⟨_, q, _⟩ := hit; exact Heap.lt_size q
    have hh : (X.A.in1).handled = none := I.ok.hd hc
    have p' : s.heap.IsTuple a its.toArray := p
    have hlt : i < its.toArray.size := by
      have := (List.getElem?_eq_some_iff.mp hu).1
      simpa using this
    refine wpAny_pyNext_enum_itemD (Draws.tuple hh it a hai its.toArray) he ⟨hit, p'⟩ hlt hne (by simp [hne, Ne.symm hae]) fun x' h' tk hx' ho st' hT hsz hk => ?_
    have ex : x' = u := by
      have h1 : its.toArray[i]? = some x' := hx'
      have h2 : its.toArray[i]? = some u := by simpa using hu
      rw [h1] at h2
      exact Option.some.inj h2
    subst ex
    refine ⟨_, rfl, wpAny_letOwnedTupleGo_enum (s := { s with heap := h', toks := tk + 1 }) ho fun h'' he' sb => ?_⟩
    have hT2 : h''.get? s.heap.objs.size = some { cls := .type "tuple", data := .seq #[.int i tk, x'] } := (sb.2 _ (Nat.ne_of_gt hel)).trans hT
    have new : ObjOk X.prog X.w (upd H s.heap.objs.size (.tup [.int (i : Nat), x])) h'' s.heap.objs.size (.tup [.int (i : Nat), x]) :=
      ⟨by show 2 ≤ sizeLine; decide, [.int i tk, x'], .cons ⟨_, rfl⟩ (.cons ru .nil), ⟨_, hT2, rfl, _, rfl⟩⟩
    have I1 : Inv X pins σ (upd H s.heap.objs.size (.tup [.int (i : Nat), x])) { s with heap := h'', toks := tk + 1 } :=
      I.turnedNew (ch := [e, it]) (fun b ob hb q => (sb.2 b (fun z => hb (by simp [z]))).trans (hk b ob (fun z => hb (by simp [z])) (fun z => hb (by simp [z])) q)) hf (Nat.le_refl _) new
    refine ⟨.ref s.heap.objs.size, _, I1, rfl, ⟨_, x, rfl, I.hok.fresh (Nat.le_refl _), rfl, fun ys hy => by rw [I.tuple_inj hy hq]; exact hx⟩, ⟨⟨x', ?_⟩, st'.1.at fun o q => (sb.2 it (Ne.symm hne)).trans q, hne, hai, hae⟩, fun b hb => ?_⟩
    · have e1 : ((i + 1 : Nat) : Int) = (i : Int) + 1 := by omega
      rw [e1]; exact he'
    · have hb' : b < s.heap.objs.size := by
        have e' : b = e ∨ b = it := by simpa using hb
        rcases e' with z | z
        · rw [z]; exact hel
        · rw [z]; exact hil
      rw [upd_ne (Nat.ne_of_lt hb')]
      exact (hf b hb).1
  done := by
    intro X hP hw hK hc i pins s σ H E I hf st hg
    subst hP hw hK
    obtain ⟨⟨old, he⟩, hit, hne, hai, hae⟩ := st
    obtain ⟨xs, hq, hx⟩ := hg
    obtain ⟨its, rv, p, hz⟩ := I.tuple hq
    obtain ⟨f0, f1, f2, f3, f4, f5⟩ := hf it (by simp)
    have hl := rv.length
    have hh : (X.A.in1).handled = none := I.ok.hd hc
    have p' : s.heap.IsTuple a its.toArray := p
    have ei : i = its.toArray.size := by simp; omega
    subst ei
    exact wpAny_pyNext_enum_endD (Draws.tuple hh it a hai its.toArray) he ⟨hit, p'⟩ fun h' eb => ⟨rfl, I.turned (t' := s.toks) (fun b o hb q => eb b o hb q) f0 f1 f3 f4 f5⟩
  self := fun A i s Q E st h => let ⟨⟨_, he⟩, _⟩ := st; wpAny_pyIter_enum he h
def iEnumT (K : PySem.W.Frag) (ta : TA) : TI := fun σ H R => ta σ H fun vs H1 => ∃ a xs, vs = [.ref a] ∧ SqT K H1 a xs ∧ R (IteT K a) H1
theorem pi_enumT {X : Cx} {e : Expr} {ta : TA} {p pos tpos : Pos} {elts : List Expr} {kk : Nat} (hg : Gl X "enumerate") (hm : X.mg "enumerate" = none) (ha : PA X [e] ta) (hs : starEach [e] X.env = [(false, eval e X.env)] := by rfl) :
    PI X (.Tuple elts kk tpos) (.Call (.Name "enumerate" p) [e] [] pos) (iEnumT X.K ta) := by
  refine ⟨fun pins s σ H R I h => ?_⟩
  refine Call_ (ld_blt I hg hm boot_enumerate (PyProof.Rows.callWith_type1 (thn (ha.run pos pins s σ H _ I h) fun us s1 ⟨vs, H1, I1, r1, q1⟩ => ?_) hs rfl))
  obtain ⟨a, xs, ex, hq, q⟩ := q1
  subst ex
  cases r1 with
  | cons r rr =>
    cases rr
    cases r
    obtain ⟨its, rv, p', hz⟩ := I1.tuple hq
    have p2 : s1.heap.IsTuple a its.toArray := p'
    have hal : a < s1.heap.objs.size := by obtain ⟨_, q, _⟩ := p2; exact Heap.lt_size q
    refine call_enumerate_tuple p2 fun h' he hit hsz hk => wpAny_pyIter_enum he ?_
    have I2 : Inv X pins σ H1 { s1 with heap := h' } := I1.kept (t' := s1.toks) hk
    refine ⟨s1.heap.objs.size + 1, [s1.heap.objs.size + 1, s1.heap.objs.size], _, _, H1, rfl, I2, turn_enumT a (s1.heap.objs.size + 1) s1.heap.objs.size, ⟨⟨.none, he⟩, hit, Nat.succ_ne_self _, Nat.ne_of_lt hal, Nat.ne_of_lt (Nat.lt_succ_of_lt hal)⟩, fun b hb => ?_, q⟩
    have e' : b = s1.heap.objs.size + 1 ∨ b = s1.heap.objs.size := by simpa using hb
    have hle : s1.heap.objs.size ≤ b := by
      rcases e' with z | z
      · rw [z]; exact Nat.le_add_right _ _
      · rw [z]; exact Nat.le_refl _
    exact I1.fpOk hle (I1.hok.fresh hle)
theorem for_enumT {K : PySem.W.Frag} {a : Addr} {xs : List V} {g : TG} {tb : TS} {D : Ends} {σ : L2.St} {H : Hp} (Pv : Nat → L2.St → Hp → Prop) (h0 : Pv 0 σ H) (hl : ∀ i σ H, i ≤ xs.length → Pv i σ H → SqT K H a xs)
    (hs : ∀ (i : Nat) x T σ H, xs[i]? = some x → Pv i σ H → H T = none → g (.ref T) σ (upd H T (.tup [.int (i : Nat), x])) fun σ2 H2 => tb { D with nx := Pv (i + 1), ct := Pv (i + 1), bk := D.nx } σ2 H2) (hd : ∀ σ H, Pv xs.length σ H → D.nx σ H) :
    ∃ W : Nat → Nat → L2.St → Hp → Prop, (∃ m, W 0 m σ H) ∧ ∀ i m σ H, W i m σ H →
      ((IteT K a).stop i H ∧ D.nx σ H) ∨ ((IteT K a).go i H ∧ ∃ N : L2.St → Hp → Prop, (∀ σ' H', N σ' H' → ∃ m', m' < m ∧ W (i + 1) m' σ' H') ∧ ∀ x H', (IteT K a).yld i H x H' → g x σ H' fun σ2 H2 => tb { D with nx := N, ct := N, bk := D.nx } σ2 H2) := by
  refine ⟨fun i m σ H => m = xs.length - i ∧ i ≤ xs.length ∧ Pv i σ H, ⟨xs.length, by simp, Nat.zero_le _, h0⟩, ?_⟩
  rintro i m σ H ⟨rfl, hi, p⟩
  have q := hl i σ H hi p
  by_cases hlt : i < xs.length
  · refine .inr ⟨⟨xs, xs[i], q, by simp [hlt]⟩, Pv (i + 1), fun σ' H' p' => ⟨xs.length - (i + 1), by omega, rfl, hlt, p'⟩, fun x H' y => ?_⟩
    obtain ⟨T, z, e1, e2, e3, y⟩ := y
    subst e1 e3
    exact hs i z T σ _ (y xs q) p e2
  · have e : i = xs.length := by omega
    subst e
    exact .inl ⟨⟨xs, q, rfl⟩, hd σ H p⟩
end K66
end
section
set_option Elab.async false
set_option linter.all false
set_option maxRecDepth 100000
set_option maxHeartbeats 4000000
/-! lists in brackets that only lay new objects -/
namespace K66
open PySem PySem.Spec PyProof.Rows L2
theorem same_upd {H H' : Hp} {a : Addr} {o : HO} (s : Same H H') (n : H a = none) : Same H (upd H' a o) := fun b u h => by
  rw [upd_ne (ne_of_none h n)]
  exact s b u h
theorem same_del {H : Hp} {a : Addr} : Same (del H a) H := fun b u h => by
  by_cases e : b = a
  · subst e
    unfold del at h
    rw [if_pos rfl] at h
    cases h
  · rw [del_ne e] at h
    exact h
theorem del_same {H H' : Hp} {a : Addr} (s : Same H H') : Same (del H a) (del H' a) := fun b u h => by
  have e : b ≠ a := fun z => by
    subst z
    unfold del at h
    rw [if_pos rfl] at h
    cases h
  rw [del_ne e] at h ⊢
  exact s b u h
theorem del_upd {H : Hp} {a : Addr} {o : HO} : del (upd H a o) a = del H a := by
  funext b
  by_cases e : b = a
  · subst e
    unfold del
    rw [if_pos rfl, if_pos rfl]
  · rw [del_ne e, del_ne e, upd_ne e]
/-- what holds at turn i: the list at D has i members, each as R says -/
def LcG (H1 : Hp) (D : Addr) (R : Nat → V → Hp → Prop) (i : Nat) (H' : Hp) : Prop := Same H1 H' ∧ ∃ acc, H' D = some (.lst acc) ∧ acc.length = i ∧ ∀ j y, acc[j]? = some y → R j y (del H' D)
theorem lcG0 {H1 : Hp} {D : Addr} {R : Nat → V → Hp → Prop} (n : H1 D = none) : LcG H1 D R 0 (upd H1 D (.lst [])) := ⟨same_upd (Same.refl H1) n, [], upd_same, rfl, fun j y e => by simp at e⟩
theorem lcGS {H1 : Hp} {D : Addr} {R : Nat → V → Hp → Prop} (n : H1 D = none) (m : ∀ i y H H', Same H H' → R i y H → R i y H') {i : Nat} {H' H4 : Hp} {y : V} (p : LcG H1 D R i H') (hi : i < sizeLine) (s : Same H' H4) (r : R i y (del H4 D)) :
    ∃ acc, H4 D = some (.lst acc) ∧ acc.length < sizeLine ∧ LcG H1 D R (i + 1) (upd H4 D (.lst (acc ++ [y]))) := by
  obtain ⟨s1, acc, e, rfl, h⟩ := p
  refine ⟨acc, s _ _ e, hi, same_upd (Same.trans s1 s) n, acc ++ [y], upd_same, by simp, fun j z ej => ?_⟩
  rw [del_upd]
  by_cases hj : j < acc.length
  · rw [List.getElem?_append_left hj] at ej
    exact m _ _ _ _ (del_same s) (h j z ej)
  · have e2 : j = acc.length := by
      have := (List.getElem?_eq_some_iff.mp ej).1
      simp at this
      omega
    subst e2
    rw [List.getElem?_append_right (Nat.le_refl _), Nat.sub_self] at ej
    cases ej
    exact r
theorem LcG.done {H1 : Hp} {D : Addr} {R : Nat → V → Hp → Prop} (m : ∀ i y H H', Same H H' → R i y H → R i y H') {i : Nat} {H' : Hp} (p : LcG H1 D R i H') : Same H1 H' ∧ ∃ acc, H' D = some (.lst acc) ∧ acc.length = i ∧ ∀ j y, acc[j]? = some y → R j y H' :=
  let ⟨a, acc, b, c, d⟩ := p; ⟨a, acc, b, c, fun j y e => m _ _ _ _ same_del (d j y e)⟩
/-- .. the list at D is f i -/
def LcF (H1 : Hp) (D : Addr) (f : Nat → List V) (i : Nat) (H' : Hp) : Prop := Same H1 H' ∧ H' D = some (.lst (f i))
theorem lcF0 {H1 : Hp} {D : Addr} {f : Nat → List V} (n : H1 D = none) (h : f 0 = []) : LcF H1 D f 0 (upd H1 D (.lst [])) := ⟨same_upd (Same.refl H1) n, by rw [h]; exact upd_same⟩
theorem lcFS {H1 : Hp} {D : Addr} {f : Nat → List V} (n : H1 D = none) {i : Nat} {H' H4 : Hp} {y : V} (p : LcF H1 D f i H') (hi : (f i).length < sizeLine) (s : Same H' H4) (r : f (i + 1) = f i ++ [y]) :
    ∃ acc, H4 D = some (.lst acc) ∧ acc.length < sizeLine ∧ LcF H1 D f (i + 1) (upd H4 D (.lst (acc ++ [y]))) :=
  ⟨f i, s _ _ p.2, hi, same_upd (Same.trans p.1 s) n, by rw [r]; exact upd_same⟩
theorem lcFN {H1 : Hp} {D : Addr} {f : Nat → List V} {i : Nat} {H' H4 : Hp} (p : LcF H1 D f i H') (s : Same H' H4) (r : f (i + 1) = f i) : LcF H1 D f (i + 1) H4 := ⟨Same.trans p.1 s, by rw [r]; exact s _ _ p.2⟩
/-! the layer's rules for contexts that the block's own parts name -/
def nH : Hp := fun _ => none
section
variable {X : Cx}
theorem pe_lcX {elt tg iter : Expr} {ifs : List Expr} {scope : Scope} {own : List (Str × Nat)} {pos : Pos} {wi : TI} (s0 : Shared) {g : Shared → Hp → Addr → List (Str × Addr) → List Addr → TG} {tt : Shared → Hp → Addr → List (Str × Addr) → List Addr → TT} {te : Shared → Hp → Addr → List (Str × Addr) → List Addr → TE} (hc : X.calm = true) (hN : X.N.Nodup) (hi : PI X tg iter wi) (ok : BlkOk X.N X.env.scope scope own)
    (hg : ∀ (s : Shared) (H : Hp) (C : Addr) (cl : List (Str × Addr)) (fp : List Addr), PG (X.blk s H scope (compEnvC scope cl C X.env) fp) tg (g s H C cl fp)) (ht : ∀ (s : Shared) (H : Hp) (C : Addr) (cl : List (Str × Addr)) (fp : List Addr), PTs (X.blk s H scope (compEnvC scope cl C X.env) fp) ifs (tt s H C cl fp))
    (he : ∀ (s : Shared) (H : Hp) (C : Addr) (cl : List (Str × Addr)) (fp : List Addr), PE (X.blk s H scope (compEnvC scope cl C X.env) fp) elt (te s H C cl fp)) (hs : ∀ x, foldedSetIterable iter X.env x = pure x)
    (eg : ∀ (s : Shared) (H : Hp) (C : Addr) (cl : List (Str × Addr)) (fp : List Addr), g s H C cl fp = g s0 nH 0 [] []) (et : ∀ (s : Shared) (H : Hp) (C : Addr) (cl : List (Str × Addr)) (fp : List Addr), tt s H C cl fp = tt s0 nH 0 [] []) (ee : ∀ (s : Shared) (H : Hp) (C : Addr) (cl : List (Str × Addr)) (fp : List Addr), te s H C cl fp = te s0 nH 0 [] []) :
    PE X (.ListComp elt [⟨tg, iter, ifs, 0⟩] scope pos) (tLc wi (g s0 nH 0 [] []) (tt s0 nH 0 [] []) (te s0 nH 0 [] []) (own.map (·.2))) := pe_lc hc hN hi ok (fun s H C cl fp => eg s H C cl fp ▸ hg s H C cl fp) (fun s H C cl fp => et s H C cl fp ▸ ht s H C cl fp) (fun s H C cl fp => ee s H C cl fp ▸ he s H C cl fp) hs
theorem ps_setLcX {i : Nat} {y : Str} {py : Pos} {elt tg iter : Expr} {ifs : List Expr} {scope : Scope} {own : List (Str × Nat)} {pos spos : Pos} {wi : TI} (s0 : Shared) {g : Shared → Hp → Addr → List (Str × Addr) → List Addr → TG} {tt : Shared → Hp → Addr → List (Str × Addr) → List Addr → TT} {te : Shared → Hp → Addr → List (Str × Addr) → List Addr → TE} (hc : X.calm = true) (hN : X.N.Nodup) (hy : X.N[i]? = some y) (hyl : X.env.scope.names.lookup y = some .local)
    (hsw : swapsWith (.ListComp elt [⟨tg, iter, ifs, 0⟩] scope pos) (some (.Name y py)) spos.line X.env = pure true) (hi : PI X tg iter wi) (ok : BlkOk X.N X.env.scope scope own)
    (hg : ∀ (s : Shared) (H : Hp) (C : Addr) (cl : List (Str × Addr)) (fp : List Addr), PG (X.blk s H scope (compEnvC scope cl C X.env) fp) tg (g s H C cl fp)) (ht : ∀ (s : Shared) (H : Hp) (C : Addr) (cl : List (Str × Addr)) (fp : List Addr), PTs (X.blk s H scope (compEnvC scope cl C X.env) fp) ifs (tt s H C cl fp))
    (he : ∀ (s : Shared) (H : Hp) (C : Addr) (cl : List (Str × Addr)) (fp : List Addr), PE (X.blk s H scope (compEnvC scope cl C X.env) fp) elt (te s H C cl fp)) (hs : ∀ x, foldedSetIterable iter X.env x = pure x)
    (eg : ∀ (s : Shared) (H : Hp) (C : Addr) (cl : List (Str × Addr)) (fp : List Addr), g s H C cl fp = g s0 nH 0 [] []) (et : ∀ (s : Shared) (H : Hp) (C : Addr) (cl : List (Str × Addr)) (fp : List Addr), tt s H C cl fp = tt s0 nH 0 [] []) (ee : ∀ (s : Shared) (H : Hp) (C : Addr) (cl : List (Str × Addr)) (fp : List Addr), te s H C cl fp = te s0 nH 0 [] []) :
    PS X (.Assign [.Name y py] (.ListComp elt [⟨tg, iter, ifs, 0⟩] scope pos) spos) (tAsg (tLc wi (g s0 nH 0 [] []) (tt s0 nH 0 [] []) (te s0 nH 0 [] []) (own.map (·.2))) (gName i)) := ps_setLc hc hN hy hyl hsw hi ok (fun s H C cl fp => eg s H C cl fp ▸ hg s H C cl fp) (fun s H C cl fp => et s H C cl fp ▸ ht s H C cl fp) (fun s H C cl fp => ee s H C cl fp ▸ he s H C cl fp) hs
end
end K66
end
section
set_option Elab.async false
set_option linter.all false
set_option maxRecDepth 100000
set_option maxHeartbeats 4000000
namespace K66
open PySem PySem.Spec PyProof.Rows L2
theorem flat_ints (ys : List Int) : (ys.map V.int).all flatV = true := by
  rw [List.all_map]
  exact List.all_eq_true.mpr fun _ _ => rfl
/-- t.index(i), a tuple of ints that holds i: the first place -/
theorem mt_tup_indexI {X : Cx} : MtR X "tuple.index" (fun x xs H Q => ∃ p, ∃ ys : List Int, ∃ z : Int, x = .ref p ∧ xs = [.int z] ∧ SqT X.K H p (ys.map V.int) ∧ z ∈ ys ∧ Q (.int (ys.idxOf z : Nat)) H) := by
  intro pins s σ H x xs v us Q I rx rs h
  obtain ⟨p, ys, z, rfl, rfl, hq, hy, q⟩ := h
  cases rx
  obtain ⟨u, rfl, t, rfl⟩ := vals1 rs
  obtain ⟨its, r, pl, hz⟩ := I.tuple hq
  obtain ⟨⟨cls, dd, dt, sl⟩, ho, hc, n, hd⟩ := pl
  simp only at hc hd
  subst hc
  subst hd
  have hl : its.toArray.size = ys.length := by rw [List.size_toArray, ← r.length, List.length_map]
  have hj0 : ys.idxOf z < ys.length := List.idxOf_lt_length_iff.mpr hy
  have hj : ys.idxOf z < its.toArray.size := by rw [hl]; exact hj0
  have at' : ∀ (m : Nat) (hm : m < its.toArray.size), ∃ y t', ys[m]? = some y ∧ its.toArray[m] = Value.int y t' := fun m hm => by
    have hm' : m < ys.length := by rw [← hl]; exact hm
    obtain ⟨w, hw, t', hw'⟩ := r.get (i := m) (x := .int ys[m]) (by simp [hm'])
    refine ⟨ys[m], t', List.getElem?_eq_getElem hm', ?_⟩
    have e := (List.getElem?_eq_some_iff.mp hw).2
    rw [← hw', ← e]
    simp
  refine call_meets PySem.F.slot_tuple_index ⟨_, ho, rfl⟩ PySem.F.entry_tuple_index (PySem.F.args_tuple_index_2 _ _) (TI.tuple_indexAt p its.toArray n dd sl (.int z t) (eqU (.int z)) (ys.idxOf z) hj ?_ ?_)
    ⟨ho, fun w hw => mem_eqAt (x := .int z) ⟨t, rfl⟩ rfl r (flat_ints ys) w (by simpa using hw), ⟨.int (ys.idxOf z : Nat), H, I.tok _, ⟨_, rfl⟩, q⟩⟩
  · obtain ⟨y, t', h1, h2⟩ := at' _ hj
    rw [List.getElem?_eq_getElem hj0, List.getElem_idxOf hj0] at h1
    cases h1
    rw [h2]
    show (z == z) = true
    exact beq_self_eq_true z
  · intro m hm hmj
    obtain ⟨y, t', h1, h2⟩ := at' m hm
    rw [h2]
    show (y == z) = false
    refine beq_eq_false_iff_ne.mpr fun e => ?_
    have hm' : m < ys.length := by omega
    rw [List.getElem?_eq_getElem hm'] at h1
    cases h1
    exact absurd e (by simpa using List.not_of_lt_findIdx (p := (· == z)) (xs := ys) hmj)
/-- t.m(e), t a tuple whose object is told -/
def tBMT (r : V → List V → Hp → VK → Prop) (to : TE) (t : TA) : TE := fun σ H Q => to σ H fun x H1 => (∃ p o ys, x = .ref p ∧ H1 p = some (.frz o (.tup ys)) ∧ o.dict = none) ∧ t σ H1 fun xs H2 => r x xs H2 Q
theorem pe_bmT {X : Cx} {o e : Expr} {es : List Expr} {to : TE} {t : TA} {name : Str} {apos cpos : Pos} {id : String} {r : V → List V → Hp → VK → Prop}
    (pa : PlainAttrs "tuple") (slot : Slot "tuple" name id) (hty : typeOf (.builtin id) = pure (.type "method_descriptor")) (hm : MtR X id r) (ho : PE X o to) (ha : PA X (e :: es) t)
    (hbase : attributeBase o name X.env (eval o X.env) = eval o X.env := by rfl)
    (hfew : ((backTo cpos (starEach (e :: es) X.env)).all (fun x => !x.1) && (backToKw cpos (keywordEach [] X.env)).all (fun x => x.1.isSome)
      && decide ((e :: es).length + ([] : List Keyword).length + (if ([] : List Keyword).isEmpty then 0 else 1) < 30)) = true := by rfl)
    (hline : (apos.endLine == cpos.line) = true := by rfl) (hs : starEach (e :: es) X.env = (false, eval e X.env) :: starEach es X.env := by rfl) (hplain : (backTo cpos (starEach es X.env)).any (·.1) = false := by rfl) :
    PE X (.Call (.Attribute o name apos) (e :: es) [] cpos) (tBMT r to t) := by
  refine ⟨fun pins s σ H Q I h => ?_⟩
  refine wpAny_Call_method_late hbase hfew hline rfl (thn (ho.run pins s σ H _ I h) fun v s1 ⟨x, H1, I1, r1, ty, q1⟩ => ?_)
  obtain ⟨p, ob, ys, ex, hp, hd⟩ := ty
  subst ex
  cases r1
  obtain ⟨g, hok⟩ : ObjOk X.prog X.w H1 s1.heap p (.frz ob (.tup ys)) := I1.hok p _ hp
  obtain ⟨_, its, _, o2, g2, hc, _⟩ := hok
  rw [g] at g2
  cases g2
  refine ⟨"tuple", id, pa, slot, hty, ⟨ob, g, hc⟩, fun a e => (by cases e; exact ⟨ob, g, hd⟩), ?_⟩
  have hA := ha.run cpos pins s1 σ H1 _ I1 q1
  rw [hs] at hA ⊢
  refine Calls.callWith_builtin (by show (false || (backTo cpos (starEach es X.env)).any (·.1)) = false; rw [hplain] <;> rfl) (Calls.evalArgs_plain ?_)
  exact thn hA fun us s2 ⟨vs, H2, I2, r2, q2⟩ => hm pins s2 σ H2 (.ref p) vs _ us Q I2 rfl r2 q2
end K66
end
section
set_option Elab.async false
set_option linter.all false
set_option maxRecDepth 100000
set_option maxHeartbeats 4000000
/-! sorted(d.items()), the keys rising ints -/
namespace K66
open PySem PySem.Spec PyProof.Rows L2 L2.DX
section
variable {prog : Program} {w : World} {A : Around} {E : Value → Shared → Prop} {s : Shared}
theorem list_sort_lt2 {a : Addr} {vs : List Value} {n : Nat} {P : PySem.Fin → Shared → Prop} (ho : s.heap.get? a = some (seqObj "list" vs.toArray n)) (h2 : vs.length < 2)
    (h : P (.done (.ret .none)) { s with heap := sortedHeap s.heap a vs vs.toArray }) : wpAny (model prog w) A (Builtin.«list.sort» ⟨[.ref a], []⟩) P E s := by
  rw [list_sort_plain]
  have ha : a < s.heap.objs.size := Heap.lt_size ho
  have hz : vs.toArray.size ≤ sizeLine := by rw [List.size_toArray, sizeLine_eq]; omega
  refine wpAny_bind (listItems_at ho rfl ?_)
  refine wpAny_bind (listUpdate_at ho rfl ?_ hz (Nat.zero_le _))
  obtain ⟨e1, ho1⟩ : ∃ e1, (s.heap.update a (Obj.mapSeq fun _ => (#[] : Array Value))).get? a = some (seqObj "list" #[] e1) := ⟨_, get?_update_seq ho (fun _ => #[])⟩
  refine wpAny_bind (seqEpoch_at ho1 rfl ?_)
  refine wpAny_bind (wpAny_newTuple ?_ (by show vs.length ≤ _; rw [sizeLine_eq]; omega))
  refine wpAny_bind (wpAny_newList ?_ (Nat.zero_le _))
  refine wpAny_holding ?_
  have ho6 : (((s.heap.update a (Obj.mapSeq fun _ => (#[] : Array Value))).push (seqObj "tuple" vs.toArray 0)).push (seqObj "list" #[] 0)).get? a = some (seqObj "list" #[] e1) :=
    Heap.get?_push_of_some _ (Heap.get?_push_of_some _ ho1)
  show wpAny (model prog w) A _ P E { s with heap := ((s.heap.update a (Obj.mapSeq fun _ => (#[] : Array Value))).push (seqObj "tuple" vs.toArray 0)).push (seqObj "list" #[] 0) }
  dsimp only
  have hn2 : vs.toArray.size < 2 := by rw [List.size_toArray]; omega
  rw [if_pos hn2, if_pos hn2]
  refine wpAny_bind (wpAny_pure ?_)
  rw [StateT.run_pure]
  refine wpAny_bind (wpAny_pure ?_)
  dsimp only
  have hout : (arrOf (SortSt.mk' general' (vs.toArray.zip vs.toArray) #[] 7 none)).map (·.2) = vs.toArray := by
    show (vs.toArray.zip vs.toArray).map (·.2) = vs.toArray
    match vs, h2 with
    | [], _ => simp
    | [x], _ => simp
  rw [hout]
  refine wpAny_bind (seqEpoch_at ho6 rfl ?_)
  refine wpAny_bind (listUpdate_at ho6 rfl ?_ (Nat.zero_le _) (Nat.le_trans hz (Nat.le_succ _)))
  simp only [bne_self_eq_false, Bool.false_eq_true, if_false]
  exact wpAny_pure h
/-- xs.sort() of pairs whose first items are rising ints: nothing changes -/
theorem list_sort_rise {a : Addr} {ps : List (Addr × Int)} {n : Nat} {P : PySem.Fin → Shared → Prop} (ho : s.heap.get? a = some (seqObj "list" (ps.map fun p => Value.ref p.1).toArray n)) (h64 : ps.length < 64)
    (tp : ∀ p ∈ ps, p.1 ≠ a ∧ Tup1 s.heap p.1 p.2) (hr : (ps.map (·.2)).Pairwise (· < ·))
    (h : P (.done (.ret .none)) { s with heap := sortedHeap s.heap a (ps.map fun p => Value.ref p.1) (ps.map fun p => Value.ref p.1).toArray }) : wpAny (model prog w) A (Builtin.«list.sort» ⟨[.ref a], []⟩) P E s := by
  have l2 : (ps.map fun p => Value.ref p.1).length = ps.length := List.length_map ..
  by_cases h2 : (ps.map fun p => Value.ref p.1).length < 2
  · exact list_sort_lt2 ho h2 h
  refine list_sort_asc (κ := tuples' true) ho (by omega) (by rw [l2]; exact h64) (fun h' k => ?_) (fun h' k i h1 h3 C hC => ?_) h
  · obtain ⟨fs, t1, t2, t3⟩ := tups1 (h := h') (ps := ps) fun p hp' => (tp p hp').2.keep fun o e => k p.1 o (tp p hp').1 e
    refine PySem.W.kat_kind (s := { s with heap := h' }) (T := Value.type "int") t1 (by omega) (fun v hv => ?_) rfl ⟨by rw [tup1_kind], rfl⟩
    obtain ⟨m, t, e⟩ := t3 v hv
    subst e
    exact PySem.W.Looks.of_pure rfl
  · have hi : i < ps.length := by rw [l2] at h3; exact h3
    have hj : i - 1 < ps.length := by omega
    have e1 : (ps.map fun p => Value.ref p.1).getD i Value.none = Value.ref ps[i].1 := by simp [hi]
    have e2 : (ps.map fun p => Value.ref p.1).getD (i - 1) Value.none = Value.ref ps[i - 1].1 := by simp [hj]
    have hlt : ps[i - 1].2 < ps[i].2 := by
      have z := List.pairwise_iff_getElem.mp hr (i - 1) i (by simpa using hj) (by simpa using hi) (by omega)
      simpa using z
    have hne : (ps[i].2 == ps[i - 1].2) = false := beq_eq_false_iff_ne.mpr (by omega)
    have hnl : decide (ps[i].2 < ps[i - 1].2) = false := decide_eq_false (by omega)
    have m1 := tp _ (List.getElem_mem hi)
    have m2 := tp _ (List.getElem_mem hj)
    obtain ⟨o, xs, n1, t, r, g1, g2, g3, g4⟩ := m1.2.keep (h' := h') fun o e => k _ o m1.1 e
    obtain ⟨o', xs', n1', t', r', g1', g2', g3', g4'⟩ := m2.2.keep (h' := h') fun o e => k _ o m2.1 e
    unfold PySem.W.kas_ask
    rw [e1, e2]
    refine PySem.W.kat_lt (s := { s with heap := h' }) g1 g3 g1' g3' ?_
    rw [g4, g4']
    show PySem.W.KatLex _ _ _ _ _ _ ((Value.int ps[i].2 t, Value.int ps[i - 1].2 t') :: r.zip r') 0 _
    refine PySem.W.kat_cons (wpAny_eqBool_int ?_)
    rw [hne]
    refine PySem.W.kat_no ?_
    show wpAny _ _ (oneLt' true (Value.int ps[i].2 t) (Value.int ps[i - 1].2 t')) _ _ _
    refine oneLt_int ?_
    rw [hnl]
    exact hC
theorem pairs_get {knd : KeyKind prog w L2.Key} : ∀ {es : List DictEntry} {kvs : List (L2.Key × Value)}, Pairs knd es kvs → ∀ {j : Nat} {e : DictEntry}, es[j]? = some e → ∃ kv, kvs[j]? = some kv ∧ knd.is kv.1 e.key = true ∧ e.val = kv.2
  | _, _, .nil, j, e, h => by cases h
  | _, _, .cons a b t, 0, e, h => by
    cases h
    exact ⟨_, rfl, a, b⟩
  | _, _, .cons a b t, j + 1, e, h => pairs_get t (by simpa using h)
end
/-- d.items() -/
def rItemsK : V → List V → Hp → VK → Prop := fun x xs H Q => ∃ (a : Addr) (kvs : List (L2.Key × V)), x = .ref a ∧ xs = [] ∧ H a = some (.dK kvs) ∧ ∀ p, H p = none → Q (.ref p) (upd H p (itemsO p a))
section
variable {X : Cx}
theorem mt_itemsK : MtR X "dict.items" rItemsK := by
  intro pins s σ H x xs v us Q I rx rxs h
  obtain ⟨a, kvs, rfl, rfl, ha, q⟩ := h
  cases rx
  cases rxs
  obtain ⟨z, hd, vs, rel, o, es, ep, ho, hx, hdat, _⟩ := dk_of I.hok ha
  refine DT.callItems (es := es) (ep := ep) hd ⟨o, ho, hx, hdat⟩ ?_
  have hf : H s.heap.objs.size = none := I.hok.fresh (Nat.le_refl _)
  exact ⟨.ref s.heap.objs.size, upd H s.heap.objs.size (itemsO s.heap.objs.size a), I.laid (t' := s.toks) (fun b u e => Heap.get?_push_of_some _ e) (Nat.le_refl _) (itemsO_ok (Heap.get?_push_size _ rfl)), rfl, q _ hf⟩
/-- sorted(d.items()), the keys rising ints: the pairs in their order -/
def rSortItK : List V → Hp → VK → Prop := fun vs H Q => ∃ (p a : Addr) (cl : List (Int × Int)), vs = [.ref p] ∧ H p = some (itemsO p a) ∧ H a = some (.dK (cl.map fun c => (Sum.inl c.1, V.int c.2))) ∧ cl.length < 64 ∧ cl.Pairwise (fun a b => a.1 < b.1) ∧
  ∀ (H' : Hp) (l : Addr) (ts : List Addr), Same H H' → H l = none → H' l = some (.lst (ts.map V.ref)) → Paired (fun t (c : Int × Int) => H' t = some (.tup [.int c.1, .int c.2])) ts cl → Q (.ref l) H'
theorem paired_mk {α β : Type} {F : α → β → Prop} : ∀ {l : List α} {m : List β}, l.length = m.length → (∀ (j : Nat) (a : α) (b : β), l[j]? = some a → m[j]? = some b → F a b) → Paired F l m
  | [], [], _, _ => .nil
  | a :: l, b :: m, h, f => .cons (f 0 a b rfl rfl) (paired_mk (by simpa using h) fun j x y h1 h2 => f (j + 1) x y (by simpa using h1) (by simpa using h2))
  | [], _ :: _, h, _ => by simp at h
  | _ :: _, [], h, _ => by simp at h
theorem cr_sortedItemsK (hc : X.calm = true) : CallR X (.builtin "sorted") rSortItK := by
  intro pins s σ H xs us Q I r h
  obtain ⟨p, a, cl, rfl, hp, ha, h64, hasc, q⟩ := h
  obtain rfl := Vals.ref1 r
  have view : s.heap.IsItemsView p a := (show ObjOk X.prog X.w H s.heap p (itemsO p a) from I.hok p _ hp).1
  obtain ⟨z, hd, kvs, rel, o, es, ep, ho, hx, hdat, _, hprs, _⟩ := dk_of I.hok ha
  have l1 : cl.length = kvs.length := by
    have e := rel.length
    rw [List.length_map] at e
    exact e
  have l2 : es.size = kvs.length := by
    have e := hprs.length
    rw [Array.length_toList] at e
    exact e
  have hh : X.A.handled = none := I.ok.hd hc
  refine DT.sortedI (es := es) (ep := ep) hh view ⟨o, ho, hx, hdat⟩ (by rw [sizeLine_eq]; omega) fun h' tk as hk hlt hl hG => ?_
  have lak : as.length = cl.length := by omega
  have nd : as.Nodup := List.Pairwise.imp (fun h => Nat.ne_of_lt h) hG.rise
  have pr : ∀ (j : Nat) (b : Addr) (c : Int × Int), as[j]? = some b → cl[j]? = some c → ∃ t u, h'.get? b = some { cls := .type "tuple", data := .seq #[Value.int c.1 t, Value.int c.2 u] } := by
    intro j b c hj hcj
    obtain ⟨en, he, hg⟩ := hG.pairs j b hj
    obtain ⟨kv, hkv, e1, e2⟩ := pairs_get hprs (by rw [Array.getElem?_toList]; exact he)
    obtain ⟨kv', hkv', r1, r2⟩ := LiI.paired_get rel (i := j) (x := (Sum.inl c.1, V.int c.2)) (by rw [List.getElem?_map, hcj]; rfl)
    rw [hkv] at hkv'
    cases hkv'
    have e1' : keyIs kv.1 en.key = true := e1
    have r1' : (Sum.inl c.1 : L2.Key) = kv.1 := r1
    rw [← r1'] at e1'
    obtain ⟨t, et⟩ := (relV_key e1' : RelV (V.int c.1) en.key)
    obtain ⟨u, eu⟩ := (r2 : RelV (V.int c.2) kv.2)
    exact ⟨t, u, by rw [hg, et, e2, eu]⟩
  -- the heap of the sort
  generalize hps : as.zip (cl.map (·.1)) = ps
  have hlp : ps.length = as.length := by rw [← hps, List.length_zip, List.length_map, lak, Nat.min_self]
  have hrefs : (ps.map fun p => Value.ref p.1) = as.map Value.ref := by
    have e : ps.map (·.1) = as := by rw [← hps]; exact List.map_fst_zip (by rw [List.length_map, lak]; exact Nat.le_refl _)
    rw [← e, List.map_map]
    rfl
  have hsnd : ps.map (·.2) = cl.map (·.1) := by rw [← hps]; exact List.map_snd_zip (by rw [List.length_map, lak]; exact Nat.le_refl _)
  rw [← hrefs]
  have hob : (h'.push { cls := .type "list", data := .seq (ps.map fun p => Value.ref p.1).toArray }).get? h'.objs.size = some (seqObj "list" (ps.map fun p => Value.ref p.1).toArray 0) := Heap.get?_push_size _ rfl
  have ne0 : ∀ b o, h'.get? b = some o → b ≠ h'.objs.size := fun b o e => Nat.ne_of_lt (Heap.lt_size e)
  generalize hh2 : h'.push { cls := .type "list", data := .seq (ps.map fun p => Value.ref p.1).toArray } = h2 at hob ⊢
  have ka : ∀ b o, h'.get? b = some o → h2.get? b = some o := fun b o e => by rw [← hh2]; exact Heap.get?_push_of_some _ e
  have at_ : ∀ p ∈ ps, ∃ (j : Nat) (c : Int × Int), as[j]? = some p.1 ∧ cl[j]? = some c ∧ p.2 = c.1 := fun p hp => by
    obtain ⟨j, hj⟩ := List.mem_iff_getElem?.mp hp
    rw [← hps] at hj
    obtain ⟨h1, h2⟩ := List.getElem?_zip_eq_some.mp hj
    rw [List.getElem?_map] at h2
    obtain ⟨c, hc1, hc2⟩ := Option.map_eq_some_iff.mp h2
    exact ⟨j, c, h1, hc1, hc2.symm⟩
  refine wpAny_call_entry PyProof.Rows.slot_list_sort ⟨_, hob, rfl⟩ PyProof.Rows.entry_list_sort
    (list_sort_rise (s := { s with heap := h2, toks := tk }) hob (by omega) (fun p hp => ?_) (by rw [hsnd]; exact (List.pairwise_map).mpr hasc) ⟨.none, rfl, ?_⟩) (PyProof.Rows.args_list_sort _)
  · obtain ⟨j, c, h1, h3, e⟩ := at_ p hp
    obtain ⟨t, u, g⟩ := pr j p.1 c h1 h3
    refine ⟨ne0 _ _ g, ?_⟩
    rw [e]
    exact ⟨_, _, _, t, _, ka _ _ g, rfl, rfl, rfl⟩
  · show EP X pins σ Q (.ref h'.objs.size) { s with heap := sortedHeap h2 h'.objs.size (ps.map fun p => Value.ref p.1) (ps.map fun p => Value.ref p.1).toArray, toks := tk }
    rw [hrefs] at hob ⊢
    have kF : ∀ b o, b ≠ h'.objs.size → h2.get? b = some o → (sortedHeap h2 h'.objs.size (as.map Value.ref) (as.map Value.ref).toArray).get? b = some o := fun b o hb e => (PyProof.Rows.sortedHeap_old hb (Heap.lt_size e)).trans e
    have kS : ∀ b o, s.heap.get? b = some o → (sortedHeap h2 h'.objs.size (as.map Value.ref) (as.map Value.ref).toArray).get? b = some o := fun b o e => kF b o (ne0 _ _ (hk b o e)) (ka b o (hk b o e))
    obtain ⟨eF, heF⟩ := PyProof.Rows.sortedHeap_at (vs := as.map Value.ref) (out := (as.map Value.ref).toArray) hob
    generalize sortedHeap h2 h'.objs.size (as.map Value.ref) (as.map Value.ref).toArray = hF at kF kS heF ⊢
    have I1 : Inv X pins σ H { s with heap := hF, toks := tk } := I.kept (t' := tk) kS
    have hn0 : H h'.objs.size = none := I.hok.fresh (Nat.le_of_lt hlt)
    have hlen : (as.map V.ref).length ≤ sizeLine := by rw [List.length_map, sizeLine_eq]; omega
    have I2 : Inv X pins σ (upd H h'.objs.size (.lst (as.map V.ref))) { s with heap := hF, toks := tk } :=
      I1.take (h' := hF) (t' := tk) (fun b ob _ e => e) (I.fpOk (Nat.le_of_lt hlt) hn0) ⟨hlen, as.map Value.ref, eF, LiI.vals_refs as, heF⟩
    obtain ⟨H2, I3, g, qt⟩ := takeT (P := fun b vs => ∃ (j : Nat) (c : Int × Int), as[j]? = some b ∧ cl[j]? = some c ∧ vs = [.int c.1, .int c.2]) I as _ I2 nd fun b hb => by
      obtain ⟨j, hj⟩ := List.mem_iff_getElem?.mp hb
      have hjl : j < cl.length := by
        have := (List.getElem?_eq_some_iff.mp hj).1
        omega
      obtain ⟨t, u, gb⟩ := pr j b cl[j] hj (List.getElem?_eq_getElem hjl)
      have hle : s.heap.objs.size ≤ b := Nat.le_of_lt (hG.above b hb)
      refine ⟨hle, ?_, _, ⟨j, cl[j], hj, List.getElem?_eq_getElem hjl, rfl⟩, fun H2 => ⟨by show 2 ≤ sizeLine; decide, [Value.int cl[j].1 t, Value.int cl[j].2 u], .cons ⟨t, rfl⟩ (.cons ⟨u, rfl⟩ .nil), ⟨_, kF b _ (ne0 _ _ gb) (ka _ _ gb), rfl, _, rfl⟩⟩⟩
      rw [upd_ne (ne0 _ _ gb)]
      exact I.hok.fresh hle
    refine ⟨.ref h'.objs.size, H2, I3, rfl, q H2 _ as (fun b o e => g b o (by rw [upd_ne (ne_of_none e hn0)]; exact e)) hn0 (g _ _ upd_same) (paired_mk lak fun j b c h1 h3 => ?_)⟩
    obtain ⟨vs, ⟨j', c', e1, e2, e3⟩, e4⟩ := qt b (List.mem_of_getElem? h1)
    have ej : j' = j := by
      obtain ⟨l1, g1⟩ := List.getElem?_eq_some_iff.mp e1
      obtain ⟨l2, g2⟩ := List.getElem?_eq_some_iff.mp h1
      exact (List.getElem_inj nd).mp (g1.trans g2.symm)
    subst ej
    rw [h3] at e2
    cases e2
    rw [e4, e3]
end
end K66
end
section
set_option Elab.async false
set_option linter.all false
set_option maxRecDepth 100000
set_option maxHeartbeats 4000000
/-! calls by keywords alone -/
namespace K66
open PySem PySem.Spec PyProof.Rows L2
/-- a def that may be called by keywords, all of them, in the parameters' order -/
def FnAtK (P : Program) (w : World) (K : PySem.W.Frag) (mg : Str → Option Value) (base : Heap) (CX : CXT) (k : Nat) (f : Addr) (ps : List Str) (sp : Sp) : Prop :=
  ∃ fd, FnOk P w K mg base CX k f fd ps sp ∧ Binds K fd ps [] ∧ PySem.W.keepIn K (.ref f) = true ∧ (∀ (s : Shared) (us : List Value), us.length = ps.length → BindsTo s fd ⟨us, []⟩ (ps.zip us)) ∧
    ∀ (s : Shared) (ws : List Value), ws.length = ps.length → BindsTo s fd ⟨[], ps.zip ws⟩ (ps.zip ws)
section
variable {P : Program} {w : World} {K : PySem.W.Frag} {mg : Str → Option Value} {base : Heap} {x qual : Str} {st : Stmt} {f : Addr} {N ps : List Str} {k : Nat} {sp : Sp}
theorem FnAtK.at {CX : CXT} (F : FnAtK P w K mg base CX k f ps sp) : FnAt P w K mg base CX k f ps sp := let ⟨fd, a, b, c, d, _⟩ := F; ⟨fd, a, b, c, d⟩
theorem fnAtXK (F : FnP K x qual st f) (S : FnScope N ps (defScope st)) (len : ∀ vs H Q E, sp vs H Q E → vs.length = ps.length)
    (hb : ∀ (kV doc pm : Value) (an : Option Addr) (cdv ct : Value) (us : List Value), us.length = ps.length → bindArgs (PySem.W.fnOf x qual (defArgs st) (defBody st) (defScope st) .none kV doc pm an cdv ct) ⟨us, []⟩ = pure (ps.zip us))
    (hbk : ∀ (kV doc pm : Value) (an : Option Addr) (cdv ct : Value) (us : List Value), us.length = ps.length → bindArgs (PySem.W.fnOf x qual (defArgs st) (defBody st) (defScope st) .none kV doc pm an cdv ct) ⟨[], ps.zip us⟩ = pure (ps.zip us))
    (hbody : ∀ (cdv : Value) (A : Around) (outer : List Env) (s : Shared) (H : Hp) (vs : List V) (Q : VK) (E : XK), Room k (A.deeper (envOfC qual (defScope st) s.heap.objs.size f cdv)) → sp vs H Q E →
      ∃ t, PSs (cxOf (L2.CX P w) P w K mg base N qual (defScope st) f cdv A outer s H E) (defBody st) t ∧ t { nx := fun _ H' => Q .non H', rt := Q } (start N vs) H) : FnAtK P w K mg base (L2.CX P w) (k + 1) f ps sp := by
  obtain ⟨fd, F⟩ := F
  refine ⟨fd, F.ok S len hbody, F.bindsN hb, F.kp, F.bindsA hb, fun s ws hl => ?_⟩
  obtain ⟨oc, od, dV, kV, doc, pm, an, cdv, ct, osl, rfl, lk, hcd, hD, hK⟩ := F.ex
  rcases hD with ⟨_, rfl⟩ | ⟨e, _⟩
  · exact .of_eq (hbk kV doc pm an cdv ct ws hl)
  · exact absurd rfl e
end
section
variable {X : Cx} {CX : CXT} {k : Nat} {f : Addr} {ps : List Str} {sp : Sp} {E : XK} {x : Str} {p pos : Pos} {kws : List Keyword} {tk : TA}
theorem pe_fk (F : FnAtK X.prog X.w X.K X.mg X.base CX k f ps sp) (hr : Room k X.A) (hm : X.mg x = some (.ref f)) (hx : Passes CX X E) (hkw : PK X kws tk) (hg : Gl X x := by rfl)
    (hall : (backToKw pos (keywordEach kws X.env)).all (·.1.isSome) = true := by rfl) (hks : (backToKw pos (keywordEach kws X.env)).filterMap (·.1) = ps := by rfl) (hdb : (x == ("__debug__" : Str)) = false := by decide)
    (hpl : ((backTo pos (starEach [] X.env)).any (·.1) || (backToKw pos (keywordEach kws X.env)).any (·.1.isNone)) = false := by rfl) :
    PE X (.Call (.Name x p) [] kws pos) (tCallN 0 ps.length sp (fun _ zs => zs) E tNil tk) := by
  obtain ⟨fd, F1, _, kp, _, bk⟩ := F
  have hb : KBn X.K fd ps 0 ps (fun _ ws => ws) (fun _ zs => zs) := ⟨fun s us ws _ l1 l2 => by
    have e : us = [] := List.length_eq_zero_iff.mp l1
    subst e
    exact bk s ws l2, fun _ r => r⟩
  refine ⟨fun pins s σ H Q I h => ?_⟩
  refine wpAny_Call_Name_kw (ld_glob I hg hm ?_ hdb)
  refine PySem.W.callWith_KW0 (h₀ := X.base) I.ok.mod.kin kp hall ?_ hpl
  refine thn (hkw.run pos pins s σ H _ I h) fun ws s2 ⟨zs, H2, I2, rz, l1, l2, q2⟩ => ⟨I2.kIn, ?_⟩
  rw [hks]
  exact run_fnN (us := []) (vs := []) F1 hr hb hx I2 .nil rz rfl l2 q2
end
end K66
end
section
set_option Elab.async false
set_option linter.all false
set_option maxRecDepth 100000
set_option maxHeartbeats 4000000
/-! try with several clauses 'except X as n'; isinstance of a caught error that has its own dict (after the layer's rules for one such clause, for several without a name, for an error without a dict) -/
namespace PySem.W
open PySem PySem.Spec PySem.Calls PyProof.Rows
section
variable {prog : Program} {w : World} {A : Around} {E : Value → Shared → Prop} {s : Shared} {K : Frag} {x D : Addr} {ox : Obj} {od : Option Obj}
theorem findObj_dataS {C : Addr} {name : Str} {a g : Value} (hc : (clsIn K C).isSome = true) {od : Option Obj} (ha : findIn K (.ref C) name = some (some a)) (hg : specialIn K a "__get__" = some (some g)) (ht : takesIn K a = some true) : findObj K C od name = some (.bind g a) := by
  obtain ⟨cd, hc⟩ := Option.isSome_iff_exists.mp hc
  unfold findObj
  rw [hc, Option.bind_some, ha, Option.bind_some]
  simp [hg, ht]
theorem kin_classS {Q : Option Value → Shared → Prop} (hga : findIn K (.ref D) "__getattribute__" = some (some (.builtin "BaseException.__getattribute__"))) (hgt : findIn K (.ref D) "__getattr__" = some none) (hsub : subIn K (.ref D) (.type "BaseException") = some true)
    (hdct : hasDictIn K D = true) (ha : findIn K (.ref D) "__class__" = some (some (.builtin "object.__class__")))
    (hn : specialIn K (.builtin "object.__class__") "__get__" = some (some (.builtin "getset_descriptor.__get__"))) (htk : takesIn K (.builtin "object.__class__") = some true) (hm : mroIn K D (.type "object") = some true)
    (X : K.In s.heap) (I : InstAt s.heap x ox D od) (h : Q (some (.ref D)) { s with toks := s.toks + 1 }) : wpAny (model prog w) A (getAttr? (.ref x) "__class__") Q E s := by
  have hf : findObj K D od "__class__" = some (.bind (.builtin "getset_descriptor.__get__") (.builtin "object.__class__")) := findObj_dataS (by obtain ⟨cd, hc, _⟩ := any_some hdct; rw [hc]; rfl) ha hn htk
  obtain ⟨hp, g, d, t, os⟩ := s
  have L0 := I.type (M := model prog w)
  have L1 := looks_findIn (M := model prog w) X hga
  have L2 := looks_findIn (M := model prog w) X hgt
  have L3 := looks_find (M := model prog w) X I hf
  have sub : Looks (model prog w) hp (isInstance (.ref x) (.type "BaseException")) true := L0.andThen (looks_subIn X hsub)
  have hx0 : (false && onTheHeap (Value.builtin "BaseException.__getattribute__")) = false := rfl
  have hx2 : (Value.builtin "BaseException.__getattribute__" == Value.builtin "object.__getattribute__") = false := by decide +kernel
  have hx1 : (onTheHeap (Value.ref D) && Value.builtin "BaseException.__getattribute__" == Value.builtin "object.__getattribute__") = false := by rw [hx2]; rfl
  unfold getAttr? getAttrBy? getAttrBy
  refine wpAny_bind (wpAny_mkText (wpAny_bind (wpAny_attempt (wpAny_holding (wpAny_bind (L0.at (wpAny_bind (L1.at ?_))))))))
  show wpAny _ _ (if (onTheHeap (Value.ref D) && Value.builtin "BaseException.__getattribute__" == Value.builtin "object.__getattribute__") = true then _ else _) _ _ _
  rw [hx1, if_neg Bool.false_ne_true]
  unfold getAttrByItsOwn hookBefore
  refine wpAny_bind ?_
  rw [if_pos (show onTheHeap (Value.ref D) = true from rfl)]
  refine L2.at ?_
  refine wpAny_bind (wpAny_attempt (wpAny_holding ?_))
  unfold callGetattribute
  rw [hx0, if_neg Bool.false_ne_true]
  unfold boundAndCalled
  rw [PySem.F.excAttr_ValueError.ga.bind (.ref x)]
  refine wpAny_bind (wpAny_pure ?_)
  show wpAny _ _ (call (.builtin "BaseException.__getattribute__") [.ref x, .str "__class__" t]) _ _ _
  refine wpAny_call (codeAny_call_builtin PySem.F.excAttr_ValueError.ga.plain PySem.F.entry_bexc_ga ?_)
  refine @check_slot (model prog w) _ _ ⟨hp, g, d, t + 1, os⟩ "BaseException.__getattribute__" "BaseException" "__getattribute__" (.ref x) [.str "__class__" t] [] _ (by decide +kernel) (by decide +kernel) sub (PySem.F.args_bexc_ga (.ref x) (.str "__class__" t)) ?_
  unfold Builtin.«object.__getattribute__»
  refine wpAny_bind (wpAny_of_eq (a := ((Value.ref x : Value), [Value.str "__class__" t])) (by first | rfl | (simp only [slotArgs]; rfl)) ?_)
  refine wpAny_bind (wpAny_pure (wpAny_bind (L0.at (wpAny_bind (L3.at ?_)))))
  show wpAny _ _ (holding [Value.builtin "object.__class__"] (call (.builtin "getset_descriptor.__get__") [.builtin "object.__class__", .ref x, .ref D]) >>= ret) _ _ _
  refine wpAny_bind (wpAny_holding (wpAny_call (class_get (s := ⟨hp, g, d, t + 1, os⟩) (ox := ox) (od := od) X I hm ?_)))
  refine wpAny_pure ?_
  show wpAny _ _ (handedOut (.ref D)) _ _ _
  rw [handedOut_of (v := .ref D) rfl]
  first
    | exact wpAny_pure (wpAny_pure h)
    | exact wpAny_pure h
    | exact wpAny_pure (wpAny_bind (wpAny_pure (wpAny_pure h)))
theorem kitx_excS (hga : findIn K (.ref D) "__getattribute__" = some (some (.builtin "BaseException.__getattribute__"))) (hgt : findIn K (.ref D) "__getattr__" = some none) (hsub : subIn K (.ref D) (.type "BaseException") = some true) (hdct : hasDictIn K D = true) (ha : findIn K (.ref D) "__class__" = some (some (.builtin "object.__class__")))
    (hn : specialIn K (.builtin "object.__class__") "__get__" = some (some (.builtin "getset_descriptor.__get__"))) (htk : takesIn K (.builtin "object.__class__") = some true) (hm : mroIn K D (.type "object") = some true) :
    KitX K (.ref x) (.ref D) (fun h => InstAt h x ox D od) where
  ty := fun _ _ _ I => I.type
  it := fun _ _ X _ => by
    obtain ⟨cdD, hcD, _⟩ := any_some hdct
    unfold clsIn at hcD
    split at hcD
    · rename_i c' d' cd' sl' ho
      intro A' Q' E' s' k q
      unfold isType loadHead
      exact wpAny_bind (wpAny_loadPart (k _ _ (X _ _ ho)) (wpAny_pure q))
    · cases hcD
  ne := fun h tp dd its n sl X htp => by
    obtain ⟨cdD, hcD, _⟩ := any_some hdct
    refine Bool.eq_false_iff.mpr fun q => ?_
    have e : D = tp := Value.ref.inj (beq_iff_eq.mp q)
    subst e
    unfold clsIn at hcD
    split at hcD
    · rename_i c' d' cd' sl' ho
      have z := (X _ _ ho).symm.trans htp
      cases z
    · cases hcD
  ca := fun X I k => kin_classS hga hgt hsub hdct ha hn htk hm X I k
end
end PySem.W
namespace K66
open PySem PySem.Spec PyProof.Rows L2
/-- isinstance(e, c), e the exception that the suite holds, d its dict -/
def rIsS (K : PySem.W.Frag) (cls : Value) (D a : Addr) (d : Option Addr) : List V → Hp → VK → Prop := fun xs H Q => ∃ (c : V) (cv : Value) (b : Bool) (dd : Addr) (fs : List (Str × V)), xs = [.ref a, c] ∧ cls = .ref D ∧ d = some dd ∧ H dd = some (.xd fs) ∧ (∀ u, RelV c u → u = cv) ∧ PySem.W.kitOne K (.ref D) cv = some b ∧ Q (.bl b) H
theorem call_isS {X : Cx} {a D : Addr} {cls : Value} {d : Option Addr} {oe : Obj} {pn : List (Addr × Obj)} (C : ExcC X.K D) (hz : Zc cls d oe) (hf : ∃ vs, oe.data = .fields vs) : CallR (X.suite a ((a, oe) :: pn)) (.builtin "isinstance") (rIsS X.K cls D a d) := by
  intro pins s σ H xs us Q I r h
  obtain ⟨c, cv, b, dd, fs, rfl, rfl, rfl, hdd, hcv, e, q⟩ := h
  cases r with
  | cons rx rr =>
    cases rr with
    | cons rt rr =>
      cases rr
      cases rx
      have ec := hcv _ rt
      subst ec
      obtain ⟨hget, _⟩ := I.pin (a, oe) (List.mem_append.mpr (.inl List.mem_cons_self))
      obtain ⟨vs, hv⟩ := hf
      obtain ⟨mA, hns, hr⟩ : ObjOk X.prog X.w H s.heap dd (.xd fs) := I.hok dd _ hdd
      obtain ⟨od, ho, hl⟩ := lookIn_ns hns
      have J : PySem.W.InstAt s.heap a oe D (some od) := ⟨hget, hz.1, by unfold PySem.W.notCls; rw [hv] <;> rfl, by rw [hz.2]; exact ho⟩
      exact PySem.W.kia_one (PySem.W.kitx_excS C.hg C.hk C.hs C.hd C.ha C.hn C.ht C.hm) I.kIn J e (fun z => nomatch z) fun tk => ⟨.bl b, H, I.kept (t' := tk) fun _ _ z => z, rfl, q⟩
/-- what the clauses wish of an exception of the body, one after the other -/
def wManyA (K : PySem.W.Frag) (Wout : WX) (D : Ends) : List (Value × Nat × (Addr → Value → Option Addr → TS)) → WX
  | [] => Wout
  | (c, i, ts) :: r => fun cls d σ H => ∃ b, PySem.W.exmOne K cls c = some b ∧ (b = true → ∀ a, H a = none → ts a cls d { nx := fun σ' H' => D.nx (σ'.set i none) H', rt := D.rt, bk := fun σ' H' => D.bk (σ'.set i none) H', ct := fun σ' H' => D.ct (σ'.set i none) H' } (σ.set i (some (.ref a))) H) ∧ (b = false → wManyA K Wout D r cls d σ H)
inductive HdsA (X : Cx) : List ExceptHandler → List (Value × Nat × (Addr → Value → Option Addr → TS)) → Prop
  | nil : HdsA X [] []
  | cons {x n : Str} {i : Nat} {c : Value} {ts : Addr → Value → Option Addr → TS} {b₀ : Stmt} {suite : List Stmt} {np pos' : Pos} {hds : List ExceptHandler} {l : List (Value × Nat × (Addr → Value → Option Addr → TS))} (hc : Names X x c) (hi : X.N[i]? = some n) (hln : X.env.kindOf n = some .local)
      (hsu : ∀ (a : Addr) (oe : Obj) (cls : Value) (d : Option Addr) (pn : List (Addr × Obj)), Zc cls d oe → (∃ vs, oe.data = .fields vs) → PSs (X.suite a ((a, oe) :: pn)) (b₀ :: suite) (ts a cls d)) (r : HdsA X hds l) :
      HdsA X (.ExceptHandler (some (.Name x np)) (some n) (b₀ :: suite) pos' :: hds) ((c, i, ts) :: l)
section
variable {X : Cx} {body : List Stmt} {h₀ : ExceptHandler} {hds : List ExceptHandler} {l : List (Value × Nat × (Addr → Value → Option Addr → TS))} {pos : Pos} {tb : WX → TS} {Wout : WX}
theorem ps_try_manyA (hs : X.stack = X.env :: X.outer) (hf : X.env.frame = some X.env.locals) (hN : X.N.Nodup) (tk : Takes X Wout)
    (hb : ∀ (W : WX) (pn : List (Addr × Obj)) (xe : Value → Shared → Prop), Takes (X.tr pn xe) W → PassesOwn (model X.prog X.w) X.A X.env xe → PSs (X.tr pn xe) body (tb W))
    (hh : HdsA X (h₀ :: hds) l) : PS X (.Try body (h₀ :: hds) [] [] pos) (fun D σ H => tb (wManyA X.K Wout D l) D σ H) := by
  refine ⟨fun pins s σ H D I h => ?_⟩
  have ok := I.ok
  have hfr : X.A.frames = some (X.env :: X.outer) := by rw [ok.frames, hs]
  refine wpAny_Try_except ?_
  refine wpAny_mono ((hb (wManyA X.K Wout D l) (X.pn ++ pins) (fun e s₁ => wpAny (model X.prog X.w) X.A (noteFrame e X.env) (fun _ s₂ => wpAny (model X.prog X.w) X.A (setFlight e none) (fun _ s₃ =>
    wpAny (model X.prog X.w) X.A (handleBy e X.env (h₀ :: hds)) (SP X pins D) X.xe s₃) X.xe s₂) X.xe s₁) (fun u s' xx => ?_) PassesOwn.looking).run [] s σ H D (I.toTry _) h) (fun f s1 hsp => ?_) (fun e s1 he => he)
  · -- the catch
    obtain ⟨a, B, sI, pins', σ', H', cls, d, rfl, J', nb, up, sky, na, os, ag, w⟩ := xx
    have J : Inv X pins σ' H' sI := J'.ofTry ok
    have sky' : Sky B (X.env :: X.outer) a (Zc cls d) X.env.locals s'.heap := by rw [← hs]; exact sky
    show wpAny (model X.prog X.w) X.A (noteFrame (.ref a) X.env) _ _ _
    refine Sky.land Zc.steady hfr hf sky' fun h3 fl3 up3 => ?_
    have J3 : Inv X pins σ' H' { s' with heap := h3 } := J.landed nb fl3.1 (up.trans up3) os ag
    obtain ⟨oe3, vs3, he3, hz3, hd3⟩ := fl3.there
    have notFr : ∀ {h : Heap} {o : Obj} {vs : Array Value}, h.FunFrames B (X.env :: X.outer) → h.get? a = some o → o.data = .fields vs → a ∉ frs (X.env :: X.outer) := fun {h o vs} ff e dd hm => by
      obtain ⟨_, o', e', hnf⟩ := ff.mem hm
      rw [e] at e'; cases e'
      exact hnf _ dd
    have nfr := notFr fl3.2.2.1 he3 hd3
    have nL : a ≠ X.env.locals := fun z => nfr (List.mem_filterMap.mpr ⟨X.env, List.mem_cons_self, by rw [hf, z]⟩)
    have nF : a ∉ X.fs := fun hm => by
      obtain ⟨e, he, q⟩ := List.mem_filterMap.mp hm
      exact nfr (List.mem_filterMap.mpr ⟨e, List.mem_cons_of_mem _ he, q⟩)
    have S3 := J3.suite he3 hd3 na nL nF
    have go : ∀ {hds' : List ExceptHandler} {l' : List (Value × Nat × (Addr → Value → Option Addr → TS))}, HdsA X hds' l' → wManyA X.K Wout D l' cls d σ' H' →
        wpAny (model X.prog X.w) X.A (handleBy (.ref a) X.env hds') (SP X pins D) X.xe { s' with heap := h3 } := by
      intro hds' l' hk
      induction hk with
      | nil =>
        intro w
        refine wpAny_handleBy_nil ?_
        obtain ⟨k1, k2, k3, oe, vs, T, oT, ts', he, hz, hd, h1, hr⟩ := id fl3
        unfold PySem.passOn
        refine wpAny_bind (wpAny_field he hd h1 ?_)
        rw [if_neg (show ¬ ((Value.ref T == Value.none) = true) from by simp)]
        have fin : wpAny (model X.prog X.w) X.A (setFlight (.ref a) X.env.frame) (fun _ s4 => wpAny (model X.prog X.w) X.A (throw (.ref a) : Sem Flow) (SP X pins D) X.xe s4) X.xe { s' with heap := h3 } := by
          rw [hf]
          refine HandSPX.setFlight_upZ fl3 fun h4 hh4 up4 => wpAny_throw (tk _ _ ?_)
          exact ⟨a, B, sI, pins, σ', H', cls, d, rfl, J, nb, (up.trans up3).trans up4, .inr (.inr (by rw [hs]; exact hh4)), na, os, ag, w⟩
        first
          | exact wpAny_bind (wpAny_pure (wpAny_bind fin))
          | exact wpAny_bind fin
      | @cons x n i c ts b₀ suite np pos' hds2 l2 hc hi hln hsu r ih =>
        intro w
        obtain ⟨b, hb1, hyes, hno⟩ := w
        refine wpAny_handleBy_cons (codeAny_handlers_test ?_) (by intro q; cases q)
        have LT : PySem.W.Looks (model X.prog X.w) h3 (typeOf (.ref a)) cls := fun A Q E s k q => wpAny_typeOf_ref (k _ _ he3) (by rw [hz3.1]; exact q)
        have LM := PySem.W.exm_one (M := model X.prog X.w) (J3.kIn) LT hb1
        have test : ∀ {Q : Value → Shared → Prop} {E : Value → Shared → Prop}, Q c { s' with heap := h3 } → wpAny (model X.prog X.w) (X.A.mark (some (.ref a))) (eval (.Name x np) X.env) Q E { s' with heap := h3 } := fun {Q E} q => by
          obtain ⟨hg, hdbg, hm | ⟨hm, hv, hnn⟩⟩ := hc
          · exact ld_glob (X := X.suite a ((a, oe3) :: (X.pn ++ pins))) S3 hg hm q hdbg
          · exact ld_blt (X := X.suite a ((a, oe3) :: (X.pn ++ pins))) S3 hg hm hv q hnn hdbg
        refine test (LM.here ?_)
        cases b with
        | true =>
          refine codeAny_handlers_suite_as ?_
          refine HandSPX.lands_againZ fl3 fun h4 fl4 up4 => ?_
          have J4 : Inv X pins σ' H' { s' with heap := h4 } := J.landed nb fl4.1 ((up.trans up3).trans up4) os ag
          obtain ⟨oe4, vs4, he4, hz4, hd4⟩ := fl4.there
          have S4 := J4.suite he4 hd4 na nL nF
          refine store_ok (X := X.suite a ((a, oe4) :: (X.pn ++ pins))) (v := .ref a) S4 hN hi (.inl hln : Loc X.env.scope n) rfl (fun s5 S5 => ?_) (.inr hln)
          refine wpAny_mono ((hsu a oe4 cls d (X.pn ++ pins) hz4 ⟨_, hd4⟩).run [] s5 _ H' _ S5 (hyes rfl a na)) (fun f s6 hsp => ?_) (fun _ _ z => False.elim z)
          have end_ : ∀ {σ6 : L2.St} {H6 : Hp} {Q : Shared → Prop}, Inv (X.suite a ((a, oe4) :: (X.pn ++ pins))) [] σ6 H6 s6 → (∀ s7, Inv X pins (σ6.set i none) H6 s7 → Q s7) →
              wpAny (model X.prog X.w) X.A (do bindName X.env n .none; unbindBehindTheSuite X.env n pos') (fun _ s7 => Q s7) X.xe s6 := fun {σ6 H6 Q} S6 hq => gone_ok (S6.unsuite ok) hN hi hln hq
          cases f with
          | next =>
            obtain ⟨σ6, H6, S6, q6⟩ := hsp
            exact end_ S6 fun s7 J7 => ⟨_, _, J7, q6⟩
          | brk =>
            obtain ⟨σ6, H6, S6, q6⟩ := hsp
            exact end_ S6 fun s7 J7 => ⟨_, _, J7, q6⟩
          | cont =>
            obtain ⟨σ6, H6, S6, q6⟩ := hsp
            exact end_ S6 fun s7 J7 => ⟨_, _, J7, q6⟩
          | ret u =>
            obtain ⟨v6, σ6, H6, S6, r6, q6⟩ := hsp
            exact end_ S6 fun s7 J7 => ⟨_, _, _, J7, r6, q6⟩
        | false =>
          show wpAny _ X.A (handleBy (.ref a) X.env hds2) _ _ _
          exact ih (hno rfl)
    exact go hh w
  · cases f with
    | next =>
      obtain ⟨σ', H', J', q⟩ := hsp
      exact wpAny_execs_nil ⟨σ', H', J'.ofTry ok, q⟩
    | brk =>
      obtain ⟨σ', H', J', q⟩ := hsp
      exact ⟨σ', H', J'.ofTry ok, q⟩
    | cont =>
      obtain ⟨σ', H', J', q⟩ := hsp
      exact ⟨σ', H', J'.ofTry ok, q⟩
    | ret u =>
      obtain ⟨v, σ', H', J', r, q⟩ := hsp
      exact ⟨v, σ', H', J'.ofTry ok, r, q⟩
end
end K66
namespace K66
open PySem PySem.Spec PyProof.Rows L2
section
variable {X : Cx} {k : Nat} {f : Addr} {ps : List Str} {sp : Sp} {E : L2.St → XK} {x : Str} {p pos : Pos} {e : Expr} {es : List Expr} {t : TA}
/-- f(e, ..) in a try: what is raised is wished for at the caller's slots -/
theorem pe_fS {CX : CXT} (F : FnAt X.prog X.w X.K X.mg X.base CX k f ps sp) (hr : Room k X.A) (hm : X.mg x = some (.ref f)) (hx : ∀ σ, PassesAt CX X σ (E σ)) (ha : PA X (e :: es) t) (hg : Gl X x := by rfl)
    (hdb : (x == ("__debug__" : Str)) = false := by decide) (he : starEach (e :: es) X.env = (false, eval e X.env) :: starEach es X.env := by rfl) (hpl : (backTo pos (starEach es X.env)).any (·.1) = false := by rfl) :
    PE X (.Call (.Name x p) (e :: es) [] pos) (tCallS sp E t) :=
  let ⟨_, a, b, c, _⟩ := F
  pe_callS a hr hg hm c b hx ha hdb he hpl
end
end K66
namespace K66
open PySem PySem.Spec PyProof.Rows L2
/-- the same, for a body whose reading names the context it is read in -/
theorem ps_try_manyX {X : Cx} {body : List Stmt} {h₀ : ExceptHandler} {hds : List ExceptHandler} {l : List (Value × Nat × (Addr → Value → Option Addr → TS))} {pos : Pos} {tb : WX → List (Addr × Obj) → (Value → Shared → Prop) → TS} {Wout : WX}
    (hs : X.stack = X.env :: X.outer) (hf : X.env.frame = some X.env.locals) (hN : X.N.Nodup) (tk : Takes X Wout)
    (hb : ∀ (W : WX) (pn : List (Addr × Obj)) (xe : Value → Shared → Prop), Takes (X.tr pn xe) W → PassesOwn (model X.prog X.w) X.A X.env xe → PSs (X.tr pn xe) body (tb W pn xe))
    (he : ∀ W pn xe, tb W pn xe = tb W [] (fun _ _ => False)) (hh : HdsA X (h₀ :: hds) l) : PS X (.Try body (h₀ :: hds) [] [] pos) (fun D σ H => tb (wManyA X.K Wout D l) [] (fun _ _ => False) D σ H) :=
  ps_try_manyA (tb := fun W => tb W [] (fun _ _ => False)) hs hf hN tk (fun W pn xe t p => he W pn xe ▸ hb W pn xe t p) hh
end K66
end
section
set_option Elab.async false
set_option linter.all false
set_option maxRecDepth 100000
set_option maxHeartbeats 4000000
/-! defs that ask for repr of data: no guard may stand above them (turned from the layer's rule for a def) -/
namespace K66
open PySem PySem.Spec PyProof.Rows L2
structure FnOkG (P : Program) (w : World) (K : PySem.W.Frag) (mg : Str → Option Value) (base : Heap) (CX : CXT) (k : Nat) (f : Addr) (fd : FuncData) (ps : List Str) (sp : Sp) : Prop where
  len : ∀ vs H Q E, sp vs H Q E → vs.length = ps.length
  run : ∀ (A : Around) (outer : List Env) (s : Shared) (H : Hp) (args : Args) (us : List Value) (vs : List V) (Q : VK) (E : XK), A.guards = some [] → Room k A → Env0 P w K mg base A outer s H → BindsTo s fd args (ps.zip us) → Vals vs us → sp vs H Q E →
    codeAny (model P w) A (.call (.ref f) args) (CR CX outer P w H s Q E) s
theorem fn_ofG {CX : CXT} {P : Program} {w : World} {K : PySem.W.Frag} {mg : Str → Option Value} {base : Heap} {k : Nat} {f : Addr} {name qual : Str} {params : Arguments} {body : List Stmt} {scope : Scope} {dV kV doc pm cdv ct oc : Value} {an od : Option Addr}
    {osl : Array (Option Value)} {N ps : List Str} {sp : Sp} (lk : K.lookup f = some ⟨oc, od, .func (PySem.W.fnOf name qual params body scope dV kV doc pm an cdv ct), osl⟩) (hcd : PySem.W.codeIn K cdv qual = true) (S : FnScope N ps scope)
    (len : ∀ vs H Q E, sp vs H Q E → vs.length = ps.length)
    (hbody : ∀ (A : Around) (outer : List Env) (s : Shared) (H : Hp) (vs : List V) (Q : VK) (E : XK), A.guards = some [] → Room k (A.deeper (envOfC qual scope s.heap.objs.size f cdv)) → sp vs H Q E →
      ∃ t, PSs (cxOf CX P w K mg base N qual scope f cdv A outer s H E) body t ∧ t { nx := fun _ H' => Q .non H', rt := Q } (start N vs) H) :
    FnOkG P w K mg base CX (k + 1) f (PySem.W.fnOf name qual params body scope dV kV doc pm an cdv ct) ps sp := by
  refine ⟨len, fun A outer s H args us vs Q E hgu hr e0 hb r hsp => ?_⟩
  have hl := len _ _ _ _ hsp
  have KX : K.In s.heap := e0.mod.kin.keeps fun b o e => (e0.bs b o e).1
  have lim : s.heap.NoLimit := e0.mod.nolimit.keeps fun b o e => (e0.bs b o e).1
  have hkind : ∀ y ∈ ps.zip us, scope.names.lookup y.1 = some .local ∨ (scope.names.lookup y.1 = some .cell ∧ ((cellsFrom (s.heap.objs.size + 1) scope.names []).lookup y.1).isSome = true) := fun ⟨n, v⟩ hy => by
    rcases S.par n (List.of_mem_zip hy).1 with q | q
    · exact .inl q
    · exact .inr ⟨q, PySem.W.cellsFrom_some _ _ _ (.inl q)⟩
  refine codeAny_call_function hr.depth (KX _ _ lk) rfl S.co S.gen rfl (PySem.W.codeRec_of KX hcd) (hb _ _ _ _ ?_)
  refine wpAny_newFunctionEnv_cells S.kind hkind fun env he s1 x => ?_
  subst he
  refine ⟨lim.keeps x.toInCall.keep, codeAny_func ?_⟩
  obtain ⟨t, ht, hq⟩ := hbody A outer s H vs Q E hgu (hr.deeper _) hsp
  have I : Inv (cxOf CX P w K mg base N qual scope f cdv A outer s H E) [] (start N vs) H s1 := inv_start S hr.hd e0 hl r x
  refine wpAny_mono (ht.run [] s1 (start N vs) H _ I hq) (fun fl s' hs => ?_) fun e s' hs => hs
  have fin : ∀ {σ' : L2.St} {H' : Hp} {v : V} {u : Value}, Inv (cxOf CX P w K mg base N qual scope f cdv A outer s H E) [] σ' H' s' → RelV v u → Q v H' → CE outer P w H s Q u s' :=
    fun {σ' H' v u} J rv q => ⟨v, H', J.os, J.bare, J.base, J.hok, rv, q⟩
  cases fl with
  | ret u =>
    obtain ⟨v, σ', H', J, rv, q⟩ := hs
    exact fin J rv q
  | next =>
    obtain ⟨σ', H', J, q⟩ := hs
    exact fin (v := V.non) (u := Value.none) J rfl q
  | brk =>
    obtain ⟨_, _, _, q⟩ := hs
    exact False.elim q
  | cont =>
    obtain ⟨_, _, _, q⟩ := hs
    exact False.elim q
theorem okG {K : PySem.W.Frag} {x qual : Str} {params : Arguments} {body : List Stmt} {scope : Scope} {dvs : List V} {kws : List (Str × V)} {f : Addr} {fd : FuncData} {P : Program} {w : World} {mg : Str → Option Value} {base : Heap} {CX : CXT} {N ps : List Str} {k : Nat} {sp : Sp}
    (F : FunD K x qual params body scope dvs kws f fd) (S : FnScope N ps scope) (len : ∀ vs H Q E, sp vs H Q E → vs.length = ps.length)
    (hbody : ∀ (cdv : Value) (A : Around) (outer : List Env) (s : Shared) (H : Hp) (vs : List V) (Q : VK) (E : XK), A.guards = some [] → Room k (A.deeper (envOfC qual scope s.heap.objs.size f cdv)) → sp vs H Q E →
      ∃ t, PSs (cxOf CX P w K mg base N qual scope f cdv A outer s H E) body t ∧ t { nx := fun _ H' => Q .non H', rt := Q } (start N vs) H) : FnOkG P w K mg base CX (k + 1) f fd ps sp := by
  obtain ⟨oc, od, dV, kV, doc, pm, an, cdv, ct, osl, rfl, lk, hcd, _, _⟩ := F.ex
  exact fn_ofG lk hcd S len fun A outer s H vs Q E hg hr hsp => hbody cdv A outer s H vs Q E hg hr hsp
def FnAtG (P : Program) (w : World) (K : PySem.W.Frag) (mg : Str → Option Value) (base : Heap) (CX : CXT) (k : Nat) (f : Addr) (ps : List Str) (sp : Sp) : Prop :=
  ∃ fd, FnOkG P w K mg base CX k f fd ps sp ∧ Binds K fd ps [] ∧ PySem.W.keepIn K (.ref f) = true ∧ ∀ (s : Shared) (us : List Value), us.length = ps.length → BindsTo s fd ⟨us, []⟩ (ps.zip us)
theorem fnAtG {P : Program} {w : World} {K : PySem.W.Frag} {mg : Str → Option Value} {base : Heap} {x qual : Str} {st : Stmt} {f : Addr} {N ps : List Str} {k : Nat} {sp : Sp}
    (F : FnP K x qual st f) (S : FnScope N ps (defScope st)) (len : ∀ vs H Q E, sp vs H Q E → vs.length = ps.length)
    (hb : ∀ (kV doc pm : Value) (an : Option Addr) (cdv ct : Value) (us : List Value), us.length = ps.length → bindArgs (PySem.W.fnOf x qual (defArgs st) (defBody st) (defScope st) .none kV doc pm an cdv ct) ⟨us, []⟩ = pure (ps.zip us))
    (hbody : ∀ (cdv : Value) (A : Around) (outer : List Env) (s : Shared) (H : Hp) (vs : List V) (Q : VK) (E : XK), A.guards = some [] → Room k (A.deeper (envOfC qual (defScope st) s.heap.objs.size f cdv)) → sp vs H Q E →
      ∃ t, PSs (cxOf CX0 P w K mg base N qual (defScope st) f cdv A outer s H E).nox (defBody st) t ∧ t { nx := fun _ H' => Q .non H', rt := Q } (start N vs) H) : FnAtG P w K mg base CX0 (k + 1) f ps sp := by
  obtain ⟨fd, F⟩ := F
  exact ⟨fd, okG F S len fun cdv A outer s H vs Q E hg hr h => let ⟨t, a, b⟩ := hbody cdv A outer s H vs Q E hg hr h; ⟨t, a.nox, b⟩, F.bindsN hb, F.kp, F.bindsA hb⟩
section
variable {X : Cx} {CX : CXT} {k : Nat} {f : Addr} {ps : List Str} {sp : Sp} {E : XK} {x : Str} {p pos : Pos} {e : Expr} {es : List Expr} {t : TA}
theorem pe_fG (F : FnAtG X.prog X.w X.K X.mg X.base CX k f ps sp) (hgu : X.A.guards = some []) (hr : Room k X.A) (hm : X.mg x = some (.ref f)) (hx : Passes CX X E) (ha : PA X (e :: es) t) (hg : Gl X x := by rfl)
    (hdb : (x == ("__debug__" : Str)) = false := by decide) (he : starEach (e :: es) X.env = (false, eval e X.env) :: starEach es X.env := by rfl) (hpl : (backTo pos (starEach es X.env)).any (·.1) = false := by rfl) :
    PE X (.Call (.Name x p) (e :: es) [] pos) (tCall sp [] E t) := by
  obtain ⟨fd, F1, hb, hk, _⟩ := F
  refine ⟨fun pins s σ H Q I h => ?_⟩
  refine wpAny_Call_Name_kw (ld_glob I hg hm ?_ hdb)
  refine PySem.W.callWith_K (h₀ := X.base) I.ok.mod.kin hk (thn (ha.run pos pins s σ H _ I h) fun us s1 ⟨vs, H1, I1, r, q⟩ => ⟨I1.kIn, ?_⟩) he hpl
  have q : sp (vs ++ []) H1 Q E := q
  rw [List.append_nil] at q
  have hl : us.length = ps.length := by rw [← r.length]; exact F1.len _ _ _ _ q
  have b := hb s1 us I1.kIn (by rw [List.append_nil]; exact hl)
  rw [List.append_nil] at b
  refine wpAny_call (codeAny_mono (F1.run X.A X.stack s1 H1 ⟨us, []⟩ us vs Q E hgu hr I1.env0 b r q) fun r s' hq => ?_)
  cases r with
  | error e => exact hx pins σ H1 s1 e s' I1 hq
  | ok fl =>
    cases fl with
    | ret u => exact I1.after hq
    | next => exact False.elim hq
    | brk => exact False.elim hq
    | cont => exact False.elim hq
end
end K66
end
section
set_option Elab.async false
set_option linter.all false
set_option maxRecDepth 100000
set_option maxHeartbeats 4000000
/-! repr of data: none, bools, ints, texts, lists, tuples, an empty dict -/
namespace K66
open PySem PySem.Spec PyProof.Rows L2
mutual
inductive Rp (K : PySem.W.Frag) (H : Hp) : V → PyData → Prop
  | non : Rp K H .non .none
  | bl (b : Bool) : Rp K H (.bl b) (.bool b)
  | int (i : Int) : Rp K H (.int i) (.int i)
  | str (x : Str) : Rp K H (.str x) (.str x)
  | lst {a : Addr} {xs : List V} {ds : List PyData} : H a = some (.lst xs) → RpAll K H xs ds → Rp K H (.ref a) (.list ds)
  | tup {a : Addr} {xs : List V} {ds : List PyData} : SqT K H a xs → RpAll K H xs ds → Rp K H (.ref a) (.tuple ds)
  | dic {a : Addr} : H a = some (.dK []) → Rp K H (.ref a) (.dict [])
inductive RpAll (K : PySem.W.Frag) (H : Hp) : List V → List PyData → Prop
  | nil : RpAll K H [] []
  | cons {v : V} {vs : List V} {d : PyData} {ds : List PyData} : Rp K H v d → RpAll K H vs ds → RpAll K H (v :: vs) (d :: ds)
end
section
variable {X : Cx} {pins : List (Addr × Obj)} {σ : L2.St} {H : Hp} {s : Shared}
theorem not_sys (hk : (X.K.lookup sysModules).isSome = true) (I : Inv X pins σ H s) {a : Addr} {o : HO} (h : H a = some o) : a ≠ sysModules := fun e => by
  obtain ⟨ob, ho⟩ := Option.isSome_iff_exists.mp hk
  have h1 := (I.env0.bs sysModules ob (I.env0.mod.kin _ _ ho)).2
  subst e
  rw [h] at h1
  cases h1
mutual
theorem Rp.reads (hk : (X.K.lookup sysModules).isSome = true) (I : Inv X pins σ H s) : ∀ (d : PyData) (v : V) (u : Value), Rp X.K H v d → RelV v u → ∃ as, Reads s.heap u d as ∧ sysModules ∉ as
  | .none, _, _, h, r => by
    cases h
    cases r
    exact ⟨_, Reads.none, by simp⟩
  | .bool b, _, _, h, r => by
    cases h
    cases r
    exact ⟨_, Reads.bool b, by simp⟩
  | .int i, _, _, h, r => by
    cases h
    obtain ⟨t, rfl⟩ := r
    exact ⟨_, Reads.int i t, by simp⟩
  | .str x, _, _, h, r => by
    cases h
    obtain ⟨t, rfl⟩ := r
    exact ⟨_, Reads.str x t, by simp⟩
  | .list ds, _, _, h, r => by
    cases h with
    | lst hs ha =>
      cases r
      obtain ⟨its, rv, ⟨o, n, ho, hc, _, hd⟩, _⟩ := I.list (SqL.of hs)
      obtain ⟨as, hr, hn⟩ := Rp.readsAll hk I ds _ its ha rv
      refine ⟨_, Reads.list ho hc hd hr, ?_⟩
      simp only [List.mem_cons, not_or]
      exact ⟨fun e => not_sys hk I hs e.symm, hn⟩
  | .tuple ds, _, _, h, r => by
    cases h with
    | tup hs ha =>
      cases r
      obtain ⟨its, rv, ⟨o, ho, hc, n, hd⟩, _⟩ := I.tuple hs
      obtain ⟨as, hr, hn⟩ := Rp.readsAll hk I ds _ its ha rv
      exact ⟨_, Reads.tuple ho hc hd hr, hn⟩
  | .dict kvs, _, _, h, r => by
    cases h with
    | dic hs =>
      cases r
      obtain ⟨_, _, vs, rel, o, es, ep, ho, hx, hd, _, hp, _⟩ := dk_of I.hok hs
      cases rel
      have he : es.toList = [] := List.length_eq_zero_iff.mp hp.length
      refine ⟨_, Reads.dict (kvs := []) (as := []) (bs := []) ho hx.1 hd (by rw [he]; exact .nil) (by rw [he]; exact .nil), ?_⟩
      simp only [List.append_nil, List.mem_singleton]
      exact fun e => not_sys hk I hs e.symm
theorem Rp.readsAll (hk : (X.K.lookup sysModules).isSome = true) (I : Inv X pins σ H s) : ∀ (ds : List PyData) (vs : List V) (us : List Value), RpAll X.K H vs ds → Vals vs us → ∃ as, ReadsAll s.heap us ds as ∧ sysModules ∉ as
  | [], _, _, h, r => by
    cases h
    cases r
    exact ⟨_, ReadsAll.nil, by simp⟩
  | d :: ds, _, _, h, r => by
    cases h with
    | cons h1 h2 =>
      cases r with
      | cons r1 r2 =>
        obtain ⟨as, q1, n1⟩ := Rp.reads hk I d _ _ h1 r1
        obtain ⟨bs, q2, n2⟩ := Rp.readsAll hk I ds _ _ h2 r2
        exact ⟨_, ReadsAll.cons q1 q2, by simp [n1, n2]⟩
end
end
/-! ### small data -/
def okI (i : Int) : Bool := (decide (0 ≤ i) && decide (i < 1000)) || decide (i = -1) || decide (i = 10 ^ 30 + 1)
def bd : Nat → PyData → Bool
  | _, .none => true
  | _, .bool _ => true
  | _, .int i => okI i
  | _, .str x => decide ((reprText x).length ≤ 40)
  | _, .dict kvs => kvs.isEmpty
  | 0, .list _ => false
  | 0, .tuple _ => false
  | n + 1, .list ds => decide (ds.length ≤ 10) && ds.all (bd n)
  | n + 1, .tuple ds => decide (ds.length ≤ 10) && ds.all (bd n)
def bL : Nat → Nat
  | 0 => 40
  | n + 1 => 10 * (bL n + 2) + 3
theorem textFrom_le {m : Nat} : ∀ (ts : List Str) (k : Nat) (acc : Str), (∀ t ∈ ts, t.length ≤ m) → (textFrom k acc ts).length ≤ acc.length + ts.length * (m + 2)
  | [], k, acc, _ => by show acc.length ≤ acc.length + 0 * (m + 2); omega
  | t :: r, k, acc, h => by
    have ih := textFrom_le r (k + 1) (acc ++ (if k > 0 then ", " else "" : String) ++ t) fun u hu => h u (List.mem_cons_of_mem _ hu)
    have h1 := h t List.mem_cons_self
    rw [strLen_append, strLen_append] at ih
    have h2 : ((if k > 0 then ", " else "" : String) : Str).length ≤ 2 := by
      split <;> decide
    show (textFrom (k + 1) (acc ++ (if k > 0 then ", " else "" : String) ++ t) r).length ≤ acc.length + (t :: r).length * (m + 2)
    rw [List.length_cons, Nat.succ_mul]
    omega
theorem small_ints : ((List.range 1000).all fun i => decide ((PyData.shown (.int (i : Nat))).length ≤ 40)) = true := by decide +kernel
theorem shown_int {i : Int} (h : okI i = true) : (PyData.shown (.int i)).length ≤ 40 := by
  unfold okI at h
  rw [Bool.or_eq_true, Bool.or_eq_true, Bool.and_eq_true] at h
  rcases h with (⟨h1, h2⟩ | h) | h
  · have h1 := of_decide_eq_true h1
    have h2 := of_decide_eq_true h2
    have := List.all_eq_true.mp small_ints i.toNat (List.mem_range.mpr (by omega))
    have e : ((i.toNat : Nat) : Int) = i := by omega
    rw [e] at this
    exact of_decide_eq_true this
  · rw [of_decide_eq_true h]
    decide +kernel
  · rw [of_decide_eq_true h]
    decide +kernel
theorem shownAll_le {m : Nat} : ∀ ds : List PyData, (∀ d ∈ ds, (PyData.shown d).length ≤ m) → ∀ t ∈ PyData.shownAll ds, t.length ≤ m
  | [], _, t, ht => by cases ht
  | d :: ds, h, t, ht => by
    rcases List.mem_cons.mp ht with e | ht
    · rw [e]; exact h d List.mem_cons_self
    · exact shownAll_le ds (fun x hx => h x (List.mem_cons_of_mem _ hx)) t ht
theorem shownAll_length : ∀ ds : List PyData, (PyData.shownAll ds).length = ds.length
  | [] => rfl
  | _ :: ds => congrArg (· + 1) (shownAll_length ds)
theorem sum_le {m : Nat} : ∀ ts : List Str, (∀ t ∈ ts, t.length ≤ m) → (ts.map (·.length)).sum ≤ ts.length * m
  | [], _ => Nat.zero_le _
  | t :: ts, h => by
    have ih := sum_le ts fun u hu => h u (List.mem_cons_of_mem _ hu)
    have h1 := h t List.mem_cons_self
    rw [List.map_cons, List.sum_cons, List.length_cons, Nat.succ_mul]
    omega
theorem showAll : ∀ ds : List PyData, (∀ d ∈ ds, PyData.showable d = true) → PyData.showableAll ds = true
  | [], _ => rfl
  | d :: ds, h => by
    show (PyData.showable d && PyData.showableAll ds) = true
    rw [h d List.mem_cons_self, showAll ds fun x hx => h x (List.mem_cons_of_mem _ hx)]
    rfl
theorem bL_mono : ∀ n, 40 ≤ bL n
  | 0 => Nat.le_refl _
  | n + 1 => by have := bL_mono n; show 40 ≤ 10 * (bL n + 2) + 3; omega
theorem bd_all {n : Nat} {ds : List PyData} (h : (decide (ds.length ≤ 10) && ds.all (bd n)) = true) : ds.length ≤ 10 ∧ ∀ d ∈ ds, bd n d = true := by
  rw [Bool.and_eq_true] at h
  exact ⟨of_decide_eq_true h.1, List.all_eq_true.mp h.2⟩
theorem bd_len : ∀ (n : Nat) (d : PyData), bd n d = true → (PyData.shown d).length ≤ bL n
  | n, .none, _ => Nat.le_trans (by decide) (bL_mono n)
  | n, .bool b, _ => Nat.le_trans (by cases b <;> decide) (bL_mono n)
  | n, .int i, h => Nat.le_trans (shown_int (by cases n <;> exact h)) (bL_mono n)
  | n, .str x, h => Nat.le_trans (of_decide_eq_true (by cases n <;> exact h)) (bL_mono n)
  | n, .dict kvs, h => by
    have h : kvs.isEmpty = true := by cases n <;> exact h
    rw [List.isEmpty_iff] at h
    subst h
    exact Nat.le_trans (by decide +kernel) (bL_mono n)
  | 0, .list _, h => by cases h
  | 0, .tuple _, h => by cases h
  | n + 1, .list ds, h => by
    obtain ⟨h1, h2⟩ := bd_all (show (decide (ds.length ≤ 10) && ds.all (bd n)) = true from h)
    have h3 := textFrom_le (PyData.shownAll ds) 0 "[" (shownAll_le (m := bL n) ds fun d hd => bd_len n d (h2 d hd))
    rw [shownAll_length] at h3
    show (textFrom 0 "[" (PyData.shownAll ds) ++ "]").length ≤ 10 * (bL n + 2) + 3
    rw [strLen_append]
    have h4 : ds.length * (bL n + 2) ≤ 10 * (bL n + 2) := Nat.mul_le_mul_right _ h1
    have h5 : ("[" : Str).length = 1 := by decide
    have h6 : ("]" : Str).length = 1 := by decide
    omega
  | n + 1, .tuple ds, h => by
    obtain ⟨h1, h2⟩ := bd_all (show (decide (ds.length ≤ 10) && ds.all (bd n)) = true from h)
    have h3 := shownAll_le (m := bL n) ds fun d hd => bd_len n d (h2 d hd)
    have h4 := StrLaws.join_length_le ", " (PyData.shownAll ds)
    have h5 := sum_le (PyData.shownAll ds) h3
    rw [shownAll_length] at h4 h5
    show (("(" : Str) ++ Str.join ", " (PyData.shownAll ds) ++ (if (PyData.shownAll ds).length == 1 then ",)" else ")" : String)).length ≤ 10 * (bL n + 2) + 3
    rw [strLen_append, strLen_append]
    have h6 : ("(" : Str).length = 1 := by decide
    have h7 : ((if (PyData.shownAll ds).length == 1 then ",)" else ")" : String) : Str).length ≤ 2 := by split <;> decide
    have h8 : (", " : Str).length = 2 := by decide
    have h9 : ds.length * (bL n + 2) ≤ 10 * (bL n + 2) := Nat.mul_le_mul_right _ h1
    rw [h8] at h4
    rw [Nat.mul_add] at h9
    omega
theorem small_log : (1000 : Nat).log2 < 1920 := by decide +kernel
theorem bd_show : ∀ (n : Nat) (d : PyData), bd n d = true → PyData.showable d = true
  | n, .none, _ => rfl
  | n, .bool b, _ => rfl
  | n, .int i, h => by
    have h : okI i = true := by cases n <;> exact h
    show decide (i.natAbs.log2 < 1920) = true
    refine decide_eq_true ?_
    have h2 : i.natAbs < 2 ^ 1920 := by
      have big : (10 ^ 30 + 1 : Nat) < 2 ^ 1920 := by decide +kernel
      unfold okI at h
      rw [Bool.or_eq_true, Bool.or_eq_true, Bool.and_eq_true] at h
      rcases h with (⟨h1, h2⟩ | h) | h
      · have h1 := of_decide_eq_true h1
        have h2 := of_decide_eq_true h2
        have : i.natAbs < 1000 := by omega
        exact Nat.lt_trans this (by decide +kernel)
      · rw [of_decide_eq_true h]
        decide +kernel
      · rw [of_decide_eq_true h]
        decide +kernel
    by_cases h0 : i.natAbs = 0
    · rw [h0]
      decide +kernel
    · exact (Nat.log2_lt h0).mpr h2
  | n, .str x, _ => rfl
  | n, .dict kvs, h => by
    have h : kvs.isEmpty = true := by cases n <;> exact h
    rw [List.isEmpty_iff] at h
    subst h
    rfl
  | 0, .list _, h => by cases h
  | 0, .tuple _, h => by cases h
  | n + 1, .list ds, h => by
    obtain ⟨_, h2⟩ := bd_all (show (decide (ds.length ≤ 10) && ds.all (bd n)) = true from h)
    exact showAll ds fun d hd => bd_show n d (h2 d hd)
  | n + 1, .tuple ds, h => by
    obtain ⟨_, h2⟩ := bd_all (show (decide (ds.length ≤ 10) && ds.all (bd n)) = true from h)
    exact showAll ds fun d hd => bd_show n d (h2 d hd)
theorem depthAll_le {m : Nat} : ∀ ds : List PyData, (∀ d ∈ ds, PyData.depth d ≤ m) → PyData.depthAll ds ≤ m
  | [], _ => Nat.zero_le _
  | d :: ds, h => Nat.max_le.mpr ⟨h d List.mem_cons_self, depthAll_le ds fun x hx => h x (List.mem_cons_of_mem _ hx)⟩
theorem bd_depth : ∀ (n : Nat) (d : PyData), bd n d = true → PyData.depth d ≤ n + 1
  | n, .none, _ => Nat.zero_le _
  | n, .bool b, _ => Nat.zero_le _
  | n, .int i, _ => Nat.zero_le _
  | n, .str x, _ => Nat.zero_le _
  | n, .dict kvs, h => by
    have h : kvs.isEmpty = true := by cases n <;> exact h
    rw [List.isEmpty_iff] at h
    subst h
    exact Nat.succ_le_succ (Nat.zero_le _)
  | 0, .list _, h => by cases h
  | 0, .tuple _, h => by cases h
  | n + 1, .list ds, h => by
    obtain ⟨_, h2⟩ := bd_all (show (decide (ds.length ≤ 10) && ds.all (bd n)) = true from h)
    exact Nat.succ_le_succ (depthAll_le ds fun d hd => bd_depth n d (h2 d hd))
  | n + 1, .tuple ds, h => by
    obtain ⟨_, h2⟩ := bd_all (show (decide (ds.length ≤ 10) && ds.all (bd n)) = true from h)
    exact Nat.succ_le_succ (depthAll_le ds fun d hd => bd_depth n d (h2 d hd))
/-- repr(v), v a reference to small data -/
def rRepr (K : PySem.W.Frag) : List V → Hp → VK → Prop := fun xs H Q => ∃ (a : Addr) (d : PyData), xs = [.ref a] ∧ Rp K H (.ref a) d ∧ bd 5 d = true ∧ Q (.str (PyData.shown d)) H
theorem cr_repr {X : Cx} (hg : X.A.guards = some []) (hu : X.A.units + 65 < cLine) (hk : (X.K.lookup sysModules).isSome = true) : CallR X (.builtin "repr") (rRepr X.K) := by
  intro pins s σ H xs us Q I r h
  obtain ⟨a, d, rfl, hd, hb, q⟩ := h
  obtain ⟨u, rfl, ru⟩ := vals1 r
  obtain ⟨as, hr, hn⟩ := Rp.reads hk I d _ u hd ru
  cases ru
  have hsz : (PyData.shown d).length ≤ sizeLine := Nat.le_trans (bd_len 5 d hb) (by rw [sizeLine_eq]; decide)
  exact repr_of_reads' hr (bd_show 5 d hb) (fun _ => hn) hg (by have := bd_depth 5 d hb; omega) (fun _ _ e => e) (fun h' u tk hk' => ⟨.str (PyData.shown d), H, I.kept (t' := tk) hk', ⟨u, rfl⟩, q⟩) hsz
end K66
end
section
set_option Elab.async false
set_option linter.all false
set_option maxRecDepth 100000
set_option maxHeartbeats 4000000
namespace K66
open PySem PySem.Spec PyProof.Rows L2
local macro_rules | `(tactic| walk_at "rd") => `(tactic| repeat (first | refine ⟨_, rfl, ?_⟩ | refine ⟨_, _, rfl, rfl, ?_⟩ | refine ⟨rfl, ?_⟩))
local macro_rules | `(tactic| walk_at "hp") => `(tactic| (first | assumption | solve_by_elim (maxDepth := 12)))
local macro_rules | `(tactic| walk_at "pl") => `(tactic| ((repeat (refine putF_lt ?_)); exact Nat.le_of_ble_eq_true rfl))
/-! ## values -/
def whole : V → Bool
  | .int _ => true
  | _ => false
def spIsWhole : Sp := sp1 fun v H Q _ => fl v = true ∧ Q (.bl (whole v)) H
abbrev N_is_whole : List Str := ["value"]
theorem sc_is_whole : FnScope N_is_whole ["value"] (defScope s_is_whole) := ⟨rfl, rfl, rfl, by decide +kernel, rfl, by decide +kernel, by decide +kernel⟩
theorem ok_is_whole {P : Program} {w : World} {K : PySem.W.Frag} {mg : Str → Option Value} {base : Heap} (T : TopE K mg) : FnAt P w K mg base CX0 1 (He.ga K "is_whole") ["value"] spIsWhole := by
  refine fnAt0 (k := 0) T.f_is_whole sc_is_whole len1 (fun _ _ _ _ _ _ us hl => match us, hl with | [_], _ => rfl) (fun cdv A outer s H vs Q E hr h => ?_)
  have hu := hu_of hr
  obtain ⟨v_value, rfl, h⟩ := h
  refine ⟨_, (pss_one (ps_ret (pe_and (pe_callB call_isi (by rfl) T.z_isinstance (by decide +kernel) (pa_cons (pv 0) (pa_cons (pe_ty (n := "int") T.z_int) pa_nil))) (pe_one (pe_not (pe_callB call_isi (by rfl) T.z_isinstance (by decide +kernel) (pa_cons (pv 0) (pa_cons (pe_ty (n := "bool") T.z_bool) pa_nil)))))))), ?_⟩
  obtain ⟨hf, h⟩ := h
  cases v_value with
  | int i => exact ⟨_, rfl, _, _, _, _, true, rfl, .ty _, .base (.int _), kit_ty (by decide +kernel), _, rfl, iteT ⟨_, rfl, _, _, _, _, false, rfl, .ty _, .base (.int _), kit_ty (by decide +kernel), _, rfl, h⟩⟩
  | non => exact ⟨_, rfl, _, _, _, _, false, rfl, .ty _, .base .non, kit_ty (by decide +kernel), _, rfl, iteF h⟩
  | bl b => exact ⟨_, rfl, _, _, _, _, true, rfl, .ty _, .base (.bl _), kit_ty (by decide +kernel), _, rfl, iteT ⟨_, rfl, _, _, _, _, true, rfl, .ty _, .base (.bl _), kit_ty (by decide +kernel), _, rfl, h⟩⟩
  | str b => exact ⟨_, rfl, _, _, _, _, false, rfl, .ty _, .base (.str _), kit_ty (by decide +kernel), _, rfl, iteF h⟩
  | _ => cases hf
def between : V → Int → Int → Bool
  | .int i, l, h => decide (l ≤ i) && decide (i ≤ h)
  | _, _, _ => false
def spBetween : Sp := sp3 fun v lo hi H Q _ => ∃ l h : Int, lo = .int l ∧ hi = .int h ∧ fl v = true ∧ Q (.bl (between v l h)) H
abbrev N_is_between : List Str := ["value", "low", "high"]
theorem sc_is_between : FnScope N_is_between ["value", "low", "high"] (defScope s_is_between) := ⟨rfl, rfl, rfl, by decide +kernel, rfl, by decide +kernel, by decide +kernel⟩
theorem ok_is_between {P : Program} {w : World} {K : PySem.W.Frag} {mg : Str → Option Value} {base : Heap} (T : TopE K mg) : FnAt P w K mg base CX0 2 (He.ga K "is_between") ["value", "low", "high"] spBetween := by
  refine fnAt0 (k := 1) T.f_is_between sc_is_between len3 (fun _ _ _ _ _ _ us hl => match us, hl with | [_, _, _], _ => rfl) (fun cdv A outer s H vs Q E hr h => ?_)
  have hu := hu_of hr
  obtain ⟨v_value, v_low, v_high, rfl, h⟩ := h
  refine ⟨_, (pss_one (ps_ret (pe_and (pe_f (ok_is_whole T) (hr.mono (by decide)) T.g_is_whole pass0 (pa_cons (pv 0) pa_nil)) (pe_and (pe_cmpR op_le (pv 1) (pv 0) (nomark _)) (pe_one (pe_cmpR op_le (pv 0) (pv 2) (nomark _))))))), ?_⟩
  obtain ⟨l, hh, rfl, rfl, hf, h⟩ := h
  refine ⟨_, rfl, _, rfl, hf, _, rfl, ?_⟩
  cases v_value with
  | int i =>
    refine iteT ⟨_, rfl, _, rfl, _, _, rfl, rfl, _, rfl, iteD (fun a => ⟨_, rfl, _, rfl, _, _, rfl, rfl, ?_⟩) (fun a => ?_)⟩
    · refine Qb ?_ h
      show _ = (decide (l ≤ i) && decide (i ≤ hh))
      simp [a]
    · refine Qb ?_ h
      show _ = (decide (l ≤ i) && decide (i ≤ hh))
      simp [a]
  | non => exact iteF h
  | bl b => exact iteF h
  | str b => exact iteF h
  | _ => cases hf
def spIsPlace : Sp := sp1 fun v H Q _ => fl v = true ∧ Q (.bl (between v 0 999)) H
abbrev N_is_place : List Str := ["value"]
theorem sc_is_place : FnScope N_is_place ["value"] (defScope s_is_place) := ⟨rfl, rfl, rfl, by decide +kernel, rfl, by decide +kernel, by decide +kernel⟩
theorem ok_is_place {P : Program} {w : World} {K : PySem.W.Frag} {mg : Str → Option Value} {base : Heap} (T : TopE K mg) : FnAt P w K mg base CX0 3 (He.ga K "is_place") ["value"] spIsPlace := by
  refine fnAt0 (k := 2) T.f_is_place sc_is_place len1 (fun _ _ _ _ _ _ us hl => match us, hl with | [_], _ => rfl) (fun cdv A outer s H vs Q E hr h => ?_)
  have hu := hu_of hr
  obtain ⟨v_value, rfl, h⟩ := h
  refine ⟨_, (pss_one (ps_ret (pe_f (ok_is_between T) (hr.mono (by decide)) T.g_is_between pass0 (pa_cons (pv 0) (pa_cons pe_int (pa_cons (pe_gi T.i_MOST_PLACE) pa_nil)))))), ?_⟩
  obtain ⟨hf, h⟩ := h
  exact ⟨_, rfl, _, _, _, rfl, _, _, rfl, rfl, hf, h⟩
def inS (x y : Str) : Bool := !(Builtin.Str.occurrences y x 0 y.length 1).isEmpty
def letters : Str := "abcdefghijklmnopqrstuvwxyz"
def letter : V → Bool
  | .str x => decide (x.length = 1) && inS x letters
  | _ => false
def spIsLetter : Sp := sp1 fun v H Q _ => fl v = true ∧ Q (.bl (letter v)) H
abbrev N_is_letter : List Str := ["value"]
theorem sc_is_letter : FnScope N_is_letter ["value"] (defScope s_is_letter) := ⟨rfl, rfl, rfl, by decide +kernel, rfl, by decide +kernel, by decide +kernel⟩
theorem ok_is_letter {P : Program} {w : World} {K : PySem.W.Frag} {mg : Str → Option Value} {base : Heap} (T : TopE K mg) : FnAt P w K mg base CX0 1 (He.ga K "is_letter") ["value"] spIsLetter := by
  refine fnAt0 (k := 0) T.f_is_letter sc_is_letter len1 (fun _ _ _ _ _ _ us hl => match us, hl with | [_], _ => rfl) (fun cdv A outer s H vs Q E hr h => ?_)
  have hu := hu_of hr
  obtain ⟨v_value, rfl, h⟩ := h
  refine ⟨_, (pss_one (ps_ret (pe_and (pe_callB call_isi (by rfl) T.z_isinstance (by decide +kernel) (pa_cons (pv 0) (pa_cons (pe_ty (n := "str") T.z_str) pa_nil))) (pe_and (pe_cmpR op_eq (pe_callB call_len_str (by rfl) T.z_len (by decide +kernel) (pa_cons (pv 0) pa_nil)) pe_int (nomark _)) (pe_one (pe_cmpR op_in_str (pv 0) (pe_gs T.s_LETTERS) rfl)))))), ?_⟩
  obtain ⟨hf, h⟩ := h
  cases v_value with
  | str x =>
    refine ⟨_, rfl, _, _, _, _, true, rfl, .ty _, .base (.str _), kit_ty (by decide +kernel), _, rfl, iteT ⟨_, rfl, x, rfl, sz1000 (of_decide_eq_true hf), rfl, _, rfl, ?_⟩⟩
    have e : decide (V.int ((x.length : Nat) : Int) = V.int 1) = decide (x.length = 1) := by rw [dI]; exact decide_eq_decide.mpr (by omega)
    by_cases c : x.length = 1
    · refine iteE (e.trans (decide_eq_true c)) ⟨_, rfl, _, _, rfl, rfl, Qb ?_ h⟩
      show _ = (decide (x.length = 1) && inS x letters)
      rw [decide_eq_true c]
      rfl
    · refine iteO (e.trans (decide_eq_false c)) (Qb ?_ h)
      show _ = (decide (x.length = 1) && inS x letters)
      rw [decide_eq_false c]
      rfl
  | int i => exact ⟨_, rfl, _, _, _, _, false, rfl, .ty _, .base (.int _), kit_ty (by decide +kernel), _, rfl, iteF h⟩
  | non => exact ⟨_, rfl, _, _, _, _, false, rfl, .ty _, .base .non, kit_ty (by decide +kernel), _, rfl, iteF h⟩
  | bl b => exact ⟨_, rfl, _, _, _, _, false, rfl, .ty _, .base (.bl _), kit_ty (by decide +kernel), _, rfl, iteF h⟩
  | _ => cases hf
def spIsPair : Sp := sp1 fun v H Q _ => ∃ p a b, v = .ref p ∧ H p = some (.tup [a, b]) ∧ Q (.bl true) H
abbrev N_is_pair : List Str := ["value"]
theorem sc_is_pair : FnScope N_is_pair ["value"] (defScope s_is_pair) := ⟨rfl, rfl, rfl, by decide +kernel, rfl, by decide +kernel, by decide +kernel⟩
theorem ok_is_pair {P : Program} {w : World} {K : PySem.W.Frag} {mg : Str → Option Value} {base : Heap} (T : TopE K mg) : FnAt P w K mg base CX0 1 (He.ga K "is_pair") ["value"] spIsPair := by
  refine fnAt0 (k := 0) T.f_is_pair sc_is_pair len1 (fun _ _ _ _ _ _ us hl => match us, hl with | [_], _ => rfl) (fun cdv A outer s H vs Q E hr h => ?_)
  have hu := hu_of hr
  obtain ⟨v_value, rfl, h⟩ := h
  refine ⟨_, (pss_one (ps_ret (pe_and (pe_callB call_isi (by rfl) T.z_isinstance (by decide +kernel) (pa_cons (pv 0) (pa_cons (pe_ty (n := "tuple") T.z_tuple) pa_nil))) (pe_one (pe_cmpR op_eq (pe_callB call_len_seq (by rfl) T.z_len (by decide +kernel) (pa_cons (pv 0) pa_nil)) pe_int (nomark _)))))), ?_⟩
  obtain ⟨p, a, b, rfl, hp, h⟩ := h
  exact ⟨_, rfl, _, _, _, _, true, rfl, .ty _, .base (.tup hp), kit_ty (by decide +kernel), _, rfl, iteT ⟨_, rfl, p, _, rfl, .inr (SqT.of hp), rfl, h⟩⟩

end K66
end
section
set_option Elab.async false
set_option linter.all false
set_option maxRecDepth 100000
set_option maxHeartbeats 4000000
namespace K66
open PySem PySem.Spec PyProof.Rows L2
local macro_rules | `(tactic| walk_at "rd") => `(tactic| repeat (first | refine ⟨_, rfl, ?_⟩ | refine ⟨_, _, rfl, rfl, ?_⟩ | refine ⟨rfl, ?_⟩))
local macro_rules | `(tactic| walk_at "hp") => `(tactic| (first | assumption | solve_by_elim (maxDepth := 12)))
local macro_rules | `(tactic| walk_at "pl") => `(tactic| ((repeat (refine putF_lt ?_)); exact Nat.le_of_ble_eq_true rfl))
/-! ## stores: the data -/
def okP (i : Int) : Prop := 0 ≤ i ∧ i ≤ 999
structure GoodC (cl : List (Int × Int)) : Prop where
  asc : cl.Pairwise fun a b => a.1 < b.1
  ok : ∀ c ∈ cl, 0 < c.1 ∧ c.1 ≤ 999 ∧ okP c.2
  few : cl.length ≤ 100
def NamesT (H : Hp) (tn : Addr) (px py : Int) : Prop := ∃ (o : Obj) (t1 t2 : Addr), H tn = some (.frz o (.tup [.ref t1, .ref t2])) ∧ o.dict = none ∧ H t1 = some (.tup [.str "x", .int px]) ∧ H t2 = some (.tup [.str "y", .int py])
def CellsT (H : Hp) (tc : Addr) (cl : List (Int × Int)) : Prop := ∃ (o : Obj) (ts : List Addr), H tc = some (.frz o (.tup (ts.map V.ref))) ∧ o.dict = none ∧ Paired (fun t (c : Int × Int) => H t = some (.tup [.int c.1, .int c.2])) ts cl
def nmD (px py : Int) : List (Key × V) := [(Sum.inr "x", .int px), (Sum.inr "y", .int py)]
def clD (cl : List (Int × Int)) : List (Key × V) := cl.map fun c => (Sum.inl c.1, .int c.2)
def stF (v0 v1 v2 v3 v4 : V) : List (Str × V) := [("names", v0), ("cells", v1), ("places", v2), ("arrows", v3), ("letters", v4)]
theorem stF_init (v0 v1 v2 v3 v4 : V) : (putF "letters" v4 (putF "arrows" v3 (putF "places" v2 (putF "cells" v1 (putF "names" v0 ([] : List (Str × V))))))) = stF v0 v1 v2 v3 v4 := by kernel_rfl
theorem stF_names (v0 v1 v2 v3 v4 : V) : (stF v0 v1 v2 v3 v4).lookup ("names" : Str) = some v0 := by kernel_rfl
theorem stF_put_names (v0 v1 v2 v3 v4 : V) (u : V) : putF "names" u (stF v0 v1 v2 v3 v4) = stF u v1 v2 v3 v4 := by kernel_rfl
theorem stF_cells (v0 v1 v2 v3 v4 : V) : (stF v0 v1 v2 v3 v4).lookup ("cells" : Str) = some v1 := by kernel_rfl
theorem stF_put_cells (v0 v1 v2 v3 v4 : V) (u : V) : putF "cells" u (stF v0 v1 v2 v3 v4) = stF v0 u v2 v3 v4 := by kernel_rfl
theorem stF_places (v0 v1 v2 v3 v4 : V) : (stF v0 v1 v2 v3 v4).lookup ("places" : Str) = some v2 := by kernel_rfl
theorem stF_put_places (v0 v1 v2 v3 v4 : V) (u : V) : putF "places" u (stF v0 v1 v2 v3 v4) = stF v0 v1 u v3 v4 := by kernel_rfl
theorem stF_arrows (v0 v1 v2 v3 v4 : V) : (stF v0 v1 v2 v3 v4).lookup ("arrows" : Str) = some v3 := by kernel_rfl
theorem stF_put_arrows (v0 v1 v2 v3 v4 : V) (u : V) : putF "arrows" u (stF v0 v1 v2 v3 v4) = stF v0 v1 v2 u v4 := by kernel_rfl
theorem stF_letters (v0 v1 v2 v3 v4 : V) : (stF v0 v1 v2 v3 v4).lookup ("letters" : Str) = some v4 := by kernel_rfl
theorem stF_put_letters (v0 v1 v2 v3 v4 : V) (u : V) : putF "letters" u (stF v0 v1 v2 v3 v4) = stF v0 v1 v2 v3 u := by kernel_rfl
theorem stF_no_at (v0 v1 v2 v3 v4 : V) : (stF v0 v1 v2 v3 v4).lookup ("at" : Str) = none := by kernel_rfl
structure StoreAt (K : PySem.W.Frag) (H : Hp) (p : Addr) (px py : Int) (cl : List (Int × Int)) : Prop where
  ob : ∃ dx tn tc dp da, H p = some (.ins (He.ga K "Store") dx (stF (.ref tn) (.ref tc) (.ref dp) (.ref da) (.str "xy"))) ∧ NamesT H tn px py ∧ CellsT H tc cl ∧ H dp = some (.dK (nmD px py)) ∧ H da = some (.dK (clD cl))
theorem paired_mono {α β : Type} {F G : α → β → Prop} (h : ∀ a b, F a b → G a b) : ∀ {l : List α} {m : List β}, Paired F l m → Paired G l m
  | _, _, .nil => .nil
  | _, _, .cons a t => .cons (h _ _ a) (paired_mono h t)
theorem NamesT.same {H H' : Hp} {tn : Addr} {px py : Int} (s : Same H H') (h : NamesT H tn px py) : NamesT H' tn px py := let ⟨o, t1, t2, a, b, c, d⟩ := h; ⟨o, t1, t2, s _ _ a, b, s _ _ c, s _ _ d⟩
theorem CellsT.same {H H' : Hp} {tc : Addr} {cl : List (Int × Int)} (s : Same H H') (h : CellsT H tc cl) : CellsT H' tc cl := let ⟨o, ts, a, b, c⟩ := h; ⟨o, ts, s _ _ a, b, paired_mono (fun _ _ z => s _ _ z) c⟩
theorem StoreAt.same {K : PySem.W.Frag} {H H' : Hp} {p : Addr} {px py : Int} {cl : List (Int × Int)} (s : Same H H') (h : StoreAt K H p px py cl) : StoreAt K H' p px py cl := by
  obtain ⟨dx, tn, tc, dp, da, a, b, c, d, e⟩ := h.ob
  exact ⟨dx, tn, tc, dp, da, s _ _ a, b.same s, c.same s, s _ _ d, s _ _ e⟩
/-! ### where arrows lead -/
def nxt (cl : List (Int × Int)) (i : Int) : Option Int := (cl.find? fun c => decide (c.1 = i)).map (·.2)
theorem nxt_valV : ∀ (cl : List (Int × Int)) (i : Int), valV (clD cl) (Sum.inl i) = (nxt cl i).map V.int
  | [], i => rfl
  | c :: r, i => by
    have ih := nxt_valV r i
    by_cases h : c.1 = i
    · rw [show clD (c :: r) = (Sum.inl c.1, V.int c.2) :: clD r from rfl, valV_pos (by rw [h])]
      unfold nxt
      rw [List.find?_cons, decide_eq_true h]
      rfl
    · rw [show clD (c :: r) = (Sum.inl c.1, V.int c.2) :: clD r from rfl, valV_neg (fun z => h (Sum.inl.inj z)), ih]
      unfold nxt
      rw [List.find?_cons, decide_eq_false h]
theorem nxt_mem {cl : List (Int × Int)} {i j : Int} (h : nxt cl i = some j) : (i, j) ∈ cl := by
  unfold nxt at h
  obtain ⟨c, hc, e⟩ := Option.map_eq_some_iff.mp h
  have h1 := List.mem_of_find?_eq_some hc
  have h2 := of_decide_eq_true (List.find?_some (p := fun c : Int × Int => decide (c.1 = i)) hc)
  rw [← h2, ← e]
  exact h1

end K66
end
section
set_option Elab.async false
set_option linter.all false
set_option maxRecDepth 100000
set_option maxHeartbeats 4000000
namespace K66
open PySem PySem.Spec PyProof.Rows L2
local macro_rules | `(tactic| walk_at "rd") => `(tactic| repeat (first | refine ⟨_, rfl, ?_⟩ | refine ⟨_, _, rfl, rfl, ?_⟩ | refine ⟨rfl, ?_⟩))
local macro_rules | `(tactic| walk_at "hp") => `(tactic| (first | assumption | solve_by_elim (maxDepth := 12)))
local macro_rules | `(tactic| walk_at "pl") => `(tactic| ((repeat (refine putF_lt ?_)); exact Nat.le_of_ble_eq_true rfl))
/-! ## errors -/
abbrev N_InvalidNumber_init : List Str := ["self", "given"]
theorem sc_InvalidNumber_init : FnScope N_InvalidNumber_init ["self", "given"] (defScope s_InvalidNumber_init) := ⟨rfl, rfl, rfl, by decide +kernel, rfl, by decide +kernel, by decide +kernel⟩
theorem ok_InvalidNumber_init {P : Program} {w : World} {K : PySem.W.Frag} {mg : Str → Option Value} {base : Heap} (T : TopE K mg) : FnAt P w K mg base CX0 1 (He.ma K (He.ga K "InvalidNumber") "__init__") ["self", "given"] (spEx K (He.ga K "InvalidNumber")) := by
  refine fnAt0 (k := 0) T.f_InvalidNumber_init sc_InvalidNumber_init len2 (fun _ _ _ _ _ _ us hl => match us, hl with | [_, _], _ => rfl) (fun cdv A outer s H vs Q E hr h => ?_)
  have hu := hu_of hr
  obtain ⟨v_self, v_given, rfl, h⟩ := h
  refine ⟨_, (pss_one (ps_ost (pv 0) (pv 1) rfl)), ?_⟩
  obtain ⟨a, rfl, ox, hn, ha, k⟩ := h
  exact ⟨_, rfl, _, rfl, a, _, rfl, ox, hn, .inl ⟨ha, fun dx h1 h2 => k dx h1 h2⟩⟩
abbrev N_NotAStore_init : List Str := ["self", "given"]
theorem sc_NotAStore_init : FnScope N_NotAStore_init ["self", "given"] (defScope s_NotAStore_init) := ⟨rfl, rfl, rfl, by decide +kernel, rfl, by decide +kernel, by decide +kernel⟩
theorem ok_NotAStore_init {P : Program} {w : World} {K : PySem.W.Frag} {mg : Str → Option Value} {base : Heap} (T : TopE K mg) : FnAt P w K mg base CX0 1 (He.ma K (He.ga K "NotAStore") "__init__") ["self", "given"] (spEx K (He.ga K "NotAStore")) := by
  refine fnAt0 (k := 0) T.f_NotAStore_init sc_NotAStore_init len2 (fun _ _ _ _ _ _ us hl => match us, hl with | [_, _], _ => rfl) (fun cdv A outer s H vs Q E hr h => ?_)
  have hu := hu_of hr
  obtain ⟨v_self, v_given, rfl, h⟩ := h
  refine ⟨_, (pss_one (ps_ost (pv 0) (pv 1) rfl)), ?_⟩
  obtain ⟨a, rfl, ox, hn, ha, k⟩ := h
  exact ⟨_, rfl, _, rfl, a, _, rfl, ox, hn, .inl ⟨ha, fun dx h1 h2 => k dx h1 h2⟩⟩
abbrev N_UnknownName_init : List Str := ["self", "given"]
theorem sc_UnknownName_init : FnScope N_UnknownName_init ["self", "given"] (defScope s_UnknownName_init) := ⟨rfl, rfl, rfl, by decide +kernel, rfl, by decide +kernel, by decide +kernel⟩
theorem ok_UnknownName_init {P : Program} {w : World} {K : PySem.W.Frag} {mg : Str → Option Value} {base : Heap} (T : TopE K mg) : FnAt P w K mg base CX0 1 (He.ma K (He.ga K "UnknownName") "__init__") ["self", "given"] (spEx K (He.ga K "UnknownName")) := by
  refine fnAt0 (k := 0) T.f_UnknownName_init sc_UnknownName_init len2 (fun _ _ _ _ _ _ us hl => match us, hl with | [_, _], _ => rfl) (fun cdv A outer s H vs Q E hr h => ?_)
  have hu := hu_of hr
  obtain ⟨v_self, v_given, rfl, h⟩ := h
  refine ⟨_, (pss_one (ps_ost (pv 0) (pv 1) rfl)), ?_⟩
  obtain ⟨a, rfl, ox, hn, ha, k⟩ := h
  exact ⟨_, rfl, _, rfl, a, _, rfl, ox, hn, .inl ⟨ha, fun dx h1 h2 => k dx h1 h2⟩⟩
def spCheckNumber (K : PySem.W.Frag) : Sp := sp3 fun v lo hi H Q E => ∃ l h : Int, lo = .int l ∧ hi = .int h ∧ fl v = true ∧ (between v l h = true → Q .non H) ∧ (between v l h = false → Rs (He.ga K "InvalidNumber") v H E)
abbrev N_check_number : List Str := ["value", "low", "high"]
theorem sc_check_number : FnScope N_check_number ["value", "low", "high"] (defScope s_check_number) := ⟨rfl, rfl, rfl, by decide +kernel, rfl, by decide +kernel, by decide +kernel⟩
theorem ok_check_number {P : Program} {w : World} {K : PySem.W.Frag} {mg : Str → Option Value} {base : Heap} (T : TopE K mg) : FnAt P w K mg base (L2.CX P w) 6 (He.ga K "check_number") ["value", "low", "high"] (spCheckNumber K) := by
  refine fnAtX (k := 5) T.f_check_number sc_check_number len3 (fun _ _ _ _ _ _ us hl => match us, hl with | [_, _, _], _ => rfl) (fun cdv A outer s H vs Q E hr h => ?_)
  have hu := hu_of hr
  obtain ⟨v_value, v_low, v_high, rfl, h⟩ := h
  refine ⟨_, (pss_one (ps_if (pt_not (pt_val (pe_f (ok_is_between T) (hr.mono (by decide)) T.g_is_between pass0 (pa_cons (pv 0) (pa_cons (pv 1) (pa_cons (pv 2) pa_nil)))))) (pss_one (ps_raise rfl (takes_of rfl rfl rfl rfl) (pmk_x T.ox_InvalidNumber T.oi_InvalidNumber T.ot_InvalidNumber (ok_InvalidNumber_init T) (hr.mono (by decide)) T.g_InvalidNumber (pa_cons (pv 0) pa_nil)))) pss_nil)), ?_⟩
  obtain ⟨l, hh, rfl, rfl, hf, k1, k2⟩ := h
  refine ⟨_, rfl, _, rfl, _, rfl, _, _, _, rfl, l, hh, rfl, rfl, hf, _, rfl, ?_⟩
  cases e : between v_value l hh with
  | true => exact iteF (k1 e)
  | false => exact iteT ⟨_, rfl, rd_raise T.ox_InvalidNumber T.on_InvalidNumber (k2 e)⟩
/-! ## Store.at -/
def plc (px py : Int) : V → Option Int
  | .str z => if z = "x" then some px else if z = "y" then some py else none
  | _ => none
theorem nmD_val (px py : Int) (z : Str) : valV (nmD px py) (Sum.inr z) = (plc px py (.str z)).map V.int := by
  show valV ([((Sum.inr "x" : Key), V.int px), ((Sum.inr "y" : Key), V.int py)] : List (Key × V)) (Sum.inr z : Key) = (if z = "x" then some px else if z = "y" then some py else none).map V.int
  by_cases h1 : z = "x"
  · rw [if_pos h1, valV_pos (by rw [h1])]
    rfl
  · rw [if_neg h1, valV_neg (fun e => h1 (Sum.inr.inj e).symm)]
    by_cases h2 : z = "y"
    · rw [if_pos h2, valV_pos (by rw [h2])]
      rfl
    · rw [if_neg h2, valV_neg (fun e => h2 (Sum.inr.inj e).symm)]
      rfl
theorem letter_x : letter (.str "x") = true := by decide +kernel
theorem letter_y : letter (.str "y") = true := by decide +kernel
theorem plc_no {px py : Int} {v : V} (h : letter v = false) : plc px py v = none := by
  cases v with
  | str z =>
    show (if z = "x" then some px else if z = "y" then some py else none) = none
    rw [if_neg (fun e => by rw [e, letter_x] at h; cases h), if_neg (fun e => by rw [e, letter_y] at h; cases h)]
  | _ => rfl
def spAt (K : PySem.W.Frag) : Sp := sp2 fun s l H Q E => ∃ p px py cl, s = .ref p ∧ StoreAt K H p px py cl ∧ fl l = true ∧ (∀ i, plc px py l = some i → Q (.int i) H) ∧ (plc px py l = none → Rs (He.ga K "UnknownName") l H E)
abbrev N_Store_at : List Str := ["self", "letter"]
theorem sc_Store_at : FnScope N_Store_at ["self", "letter"] (defScope s_Store_at) := ⟨rfl, rfl, rfl, by decide +kernel, rfl, by decide +kernel, by decide +kernel⟩
theorem ok_Store_at {P : Program} {w : World} {K : PySem.W.Frag} {mg : Str → Option Value} {base : Heap} (T : TopE K mg) : FnAt P w K mg base (L2.CX P w) 4 (He.ma K (He.ga K "Store") "at") ["self", "letter"] (spAt K) := by
  refine fnAtX (k := 3) T.f_Store_at sc_Store_at len2 (fun _ _ _ _ _ _ us hl => match us, hl with | [_, _], _ => rfl) (fun cdv A outer s H vs Q E hr h => ?_)
  have hu := hu_of hr
  obtain ⟨v_self, v_letter, rfl, h⟩ := h
  refine ⟨_, (pss_cons (ps_if (PW.pt (pw_or (pt_not (pt_val (pe_f (ok_is_letter T) (hr.mono (by decide)) T.g_is_letter pass0 (pa_cons (pv 1) pa_nil)))) (pw_or1 (pt_cmp (pc_dnotin hu (pv 1) (pe_fld (pv 0) rfl)))))) (pss_one (ps_raise rfl (takes_of rfl rfl rfl rfl) (pmk_x T.ox_UnknownName T.oi_UnknownName T.ot_UnknownName (ok_UnknownName_init T) (hr.mono (by decide)) T.g_UnknownName (pa_cons (pv 1) pa_nil)))) pss_nil)
    (pss_one (ps_ret (pe_dget hu (pe_fld (pv 0) rfl) (pv 1) (fun _ _ => rfl))))), ?_⟩
  obtain ⟨p, px, py, cl, rfl, st, hf, k1, k2⟩ := h
  obtain ⟨dx, tn, tc, dp, da, ob, _, _, hdp, _⟩ := st.ob
  refine ⟨_, rfl, _, rfl, hf, _, rfl, ?_⟩
  cases e : letter v_letter with
  | false => exact iteT (iteT ⟨_, rfl, rd_raise T.ox_UnknownName T.on_UnknownName (k2 (plc_no e))⟩)
  | true =>
    cases v_letter with
    | str z =>
      refine iteF ⟨_, rfl, _, rfl, _, _, _, _, _, rfl, ob, T.c_Store, T.n_Store_places, stF_places _ _ _ _ _, dp, _, rfl, DGet.k (k := Sum.inr z) hdp, _, rfl, ?_⟩
      rw [nmD_val]
      cases e2 : plc px py (.str z) with
      | none => exact iteT ⟨_, rfl, rd_raise T.ox_UnknownName T.on_UnknownName (k2 e2)⟩
      | some i =>
        refine iteF ⟨_, rfl, _, _, _, _, _, rfl, ob, T.c_Store, T.n_Store_places, stF_places _ _ _ _ _, _, rfl, dp, .int i, rfl, ?_, k1 i e2⟩
        have q := DGet.k (k := Sum.inr z) hdp
        rw [nmD_val, e2] at q
        exact q
    | _ => cases e
/-! ## check_store -/
def spCheckStore (K : PySem.W.Frag) : Sp := sp1 fun v H Q E => (∃ p px py cl, v = .ref p ∧ StoreAt K H p px py cl ∧ Q .non H) ∨ (∃ t, TyX K H v (.type t) ∧ PySem.W.kitOne K (.type t) (.ref (He.ga K "Store")) = some false ∧ Rs (He.ga K "NotAStore") v H E)
abbrev N_check_store : List Str := ["value"]
theorem sc_check_store : FnScope N_check_store ["value"] (defScope s_check_store) := ⟨rfl, rfl, rfl, by decide +kernel, rfl, by decide +kernel, by decide +kernel⟩
theorem ok_check_store {P : Program} {w : World} {K : PySem.W.Frag} {mg : Str → Option Value} {base : Heap} (T : TopE K mg) : FnAt P w K mg base (L2.CX P w) 4 (He.ga K "check_store") ["value"] (spCheckStore K) := by
  refine fnAtX (k := 3) T.f_check_store sc_check_store len1 (fun _ _ _ _ _ _ us hl => match us, hl with | [_], _ => rfl) (fun cdv A outer s H vs Q E hr h => ?_)
  have hu := hu_of hr
  obtain ⟨v_value, rfl, h⟩ := h
  refine ⟨_, (pss_one (ps_if (pt_not (pt_val (pe_callB call_isi (by rfl) T.z_isinstance (by decide +kernel) (pa_cons (pv 0) (pa_cons (pe_gr T.g_Store) pa_nil))))) (pss_one (ps_raise rfl (takes_of rfl rfl rfl rfl) (pmk_x T.ox_NotAStore T.oi_NotAStore T.ot_NotAStore (ok_NotAStore_init T) (hr.mono (by decide)) T.g_NotAStore (pa_cons (pv 0) pa_nil)))) pss_nil)), ?_⟩
  rcases h with ⟨p, px, py, cl, rfl, st, k⟩ | ⟨t, ty, kt, k⟩
  · obtain ⟨dx, tn, tc, dp, da, ob, _⟩ := st.ob
    exact ⟨_, rfl, _, _, _, _, true, rfl, .own _, .base (.ins ob T.c_Store T.st_class T.st_get T.st_takes T.st_mro), T.kit_Store, _, rfl, iteF k⟩
  · exact ⟨_, rfl, _, _, _, _, false, rfl, .own _, ty, kt, _, rfl, iteT ⟨_, rfl, rd_raise T.ox_NotAStore T.on_NotAStore k⟩⟩

end K66
end
section
set_option Elab.async false
set_option linter.all false
set_option maxRecDepth 100000
set_option maxHeartbeats 4000000
namespace K66
open PySem PySem.Spec PyProof.Rows L2
local macro_rules | `(tactic| walk_at "rd") => `(tactic| repeat (first | refine ⟨_, rfl, ?_⟩ | refine ⟨_, _, rfl, rfl, ?_⟩ | refine ⟨rfl, ?_⟩))
local macro_rules | `(tactic| walk_at "hp") => `(tactic| (first | assumption | solve_by_elim (maxDepth := 12)))
local macro_rules | `(tactic| walk_at "pl") => `(tactic| ((repeat (refine putF_lt ?_)); exact Nat.le_of_ble_eq_true rfl))
/-! ## Store.__init__ -/
theorem btw {i : Int} (h : okP i) : between (.int i) 0 999 = true := by
  show (decide (0 ≤ i) && decide (i ≤ 999)) = true
  rw [decide_eq_true h.1, decide_eq_true h.2]
  rfl
def lastN : Nat → Str
  | 0 => ""
  | 1 => "x"
  | _ => "y"
def spNamePairs : Sp := sp1 fun v H Q _ => ∃ tn px py, v = .ref tn ∧ NamesT H tn px py ∧ okP px ∧ okP py ∧ Q (.bl true) H
abbrev N_are_name_pairs : List Str := ["value", "last", "pair"]
theorem sc_are_name_pairs : FnScope N_are_name_pairs ["value"] (defScope s_are_name_pairs) := ⟨rfl, rfl, rfl, by decide +kernel, rfl, by decide +kernel, by decide +kernel⟩
theorem ok_are_name_pairs {P : Program} {w : World} {K : PySem.W.Frag} {mg : Str → Option Value} {base : Heap} (T : TopE K mg) : FnAt P w K mg base CX0 4 (He.ga K "are_name_pairs") ["value"] spNamePairs := by
  refine fnAt0 (k := 3) T.f_are_name_pairs sc_are_name_pairs len1 (fun _ _ _ _ _ _ us hl => match us, hl with | [_], _ => rfl) (fun cdv A outer s H vs Q E hr h => ?_)
  have hu := hu_of hr
  obtain ⟨v_value, rfl, h⟩ := h
  refine ⟨_, (pss_cons (ps_if (PW.pt (pw_or (pt_not (pt_val (pe_callB call_isi (by rfl) T.z_isinstance (by decide +kernel) (pa_cons (pv 0) (pa_cons (pe_ty (n := "tuple") T.z_tuple) pa_nil))))) (pw_or1 (pt_not (pt_chain op_le op_le pe_int (pe_callB call_len_seq (by rfl) T.z_len (by decide +kernel) (pa_cons (pv 0) pa_nil)) (pe_gi T.i_MOST_NAMES)))))) pss_never pss_nil)
    (pss_cons (ps_set (i := 1) sc_are_name_pairs.nd rfl (Or.inl rfl) pe_str)
    (pss_cons (ps_for PassesOwn.never rfl (pi_tup (pv 0)) (pg_name (i := 2) sc_are_name_pairs.nd rfl (Or.inl rfl)) (pss_cons (ps_if (PW.pt (pw_or (pt_not (pt_val (pe_f (ok_is_pair T) (hr.mono (by decide)) T.g_is_pair pass0 (pa_cons (pv 2) pa_nil)))) (pw_or (pt_not (pt_val (pe_f (ok_is_letter T) (hr.mono (by decide)) T.g_is_letter pass0 (pa_cons (pe_ix ix_tup (pv 2) pe_int (fun _ _ => rfl)) pa_nil)))) (pw_or (pt_not (pt_val (pe_f (ok_is_place T) (hr.mono (by decide)) T.g_is_place pass0 (pa_cons (pe_ix ix_tup (pv 2) pe_int (fun _ _ => rfl)) pa_nil)))) (pw_or1 (pt_cmpR op_le_str (pe_ix ix_tup (pv 2) pe_int (fun _ _ => rfl)) (pv 1) (nomark _))))))) pss_never pss_nil)
    (pss_one (ps_set (i := 1) sc_are_name_pairs.nd rfl (Or.inl rfl) (pe_ix ix_tup (pv 2) pe_int (fun _ _ => rfl))))))
    (pss_one (ps_ret pe_bl))))), ?_⟩
  obtain ⟨tn, px, py, rfl, hn, ox, oy, h⟩ := h
  obtain ⟨o, t1, t2, hf, _, h1, h2⟩ := hn
  have sq : SqT K H tn [.ref t1, .ref t2] := .inl (.inr ⟨o, hf⟩)
  refine ⟨_, rfl, _, _, _, _, true, rfl, .ty _, .fTuple hf, kit_ty (by decide +kernel), _, rfl, iteF ⟨_, rfl, tn, _, rfl, .inr sq, _, _, rfl, rfl, _, rfl, iteE rfl ⟨_, _, rfl, rfl, _, rfl, iteF ?_⟩⟩⟩
  refine ⟨_, rfl, tn, rfl, ⟨_, sq⟩, for_tup (xs := [.ref t1, .ref t2]) (fun i σ H' => H' = H ∧ ∃ p, σ = [some (.ref tn), some (.str (lastN i)), p]) ⟨rfl, _, rfl⟩ (fun i σ H' _ q => by rw [q.1]; exact sq) ?_ ?_⟩
  · rintro i x σ H' hx ⟨rfl, p, rfl⟩
    match i, hx with
    | 0, hx =>
      cases hx
      refine ⟨_, rfl, _, rfl, t1, _, _, rfl, h1, _, rfl, iteF ⟨_, rfl, t1, _, 0, _, rfl, rfl, SqT.of h1, rfl, _, rfl, rfl, _, rfl, iteO (congrArg (!·) letter_x) ⟨_, rfl, t1, _, 1, _, rfl, rfl, SqT.of h1, rfl, _, rfl, rfl, _, rfl, iteO (congrArg (!·) (btw ox)) ⟨_, rfl, t1, _, 0, _, rfl, rfl, SqT.of h1, rfl, _, rfl, _, _, rfl, rfl, _, rfl, iteO (by decide +kernel) ?_⟩⟩⟩⟩
      exact ⟨_, rfl, t1, _, 0, _, rfl, rfl, SqT.of h1, rfl, rfl, _, rfl⟩
    | 1, hx =>
      cases hx
      refine ⟨_, rfl, _, rfl, t2, _, _, rfl, h2, _, rfl, iteF ⟨_, rfl, t2, _, 0, _, rfl, rfl, SqT.of h2, rfl, _, rfl, rfl, _, rfl, iteO (congrArg (!·) letter_y) ⟨_, rfl, t2, _, 1, _, rfl, rfl, SqT.of h2, rfl, _, rfl, rfl, _, rfl, iteO (congrArg (!·) (btw oy)) ⟨_, rfl, t2, _, 0, _, rfl, rfl, SqT.of h2, rfl, _, rfl, _, _, rfl, rfl, _, rfl, iteO (by decide +kernel) ?_⟩⟩⟩⟩
      exact ⟨_, rfl, t2, _, 0, _, rfl, rfl, SqT.of h2, rfl, rfl, _, rfl⟩
    | _ + 2, hx => cases hx
  · rintro σ H' ⟨rfl, p, rfl⟩
    exact h
theorem paired_get {α β : Type} {F : α → β → Prop} : ∀ {l : List α} {m : List β}, Paired F l m → ∀ {i : Nat} {a : α}, l[i]? = some a → ∃ b, m[i]? = some b ∧ F a b
  | _, _, .nil, _, _, h => by simp at h
  | _, _, .cons r t, 0, _, h => by
    cases h
    exact ⟨_, rfl, r⟩
  | _, _, .cons r t, i + 1, a, h => paired_get t (i := i) (a := a) (by simpa using h)
def lastC (cl : List (Int × Int)) : Nat → Int
  | 0 => 0
  | j + 1 => (cl.getD j (0, 0)).1
theorem lastC_s {cl : List (Int × Int)} {i : Nat} {c : Int × Int} (h : cl[i]? = some c) : lastC cl (i + 1) = c.1 := by
  show (cl.getD i (0, 0)).1 = c.1
  rw [List.getD_eq_getElem?_getD, h]
  rfl
theorem lastC_lt {cl : List (Int × Int)} (g : GoodC cl) {i : Nat} {c : Int × Int} (h : cl[i]? = some c) : lastC cl i < c.1 := by
  have hm : c ∈ cl := List.mem_of_getElem? h
  cases i with
  | zero => exact (g.ok c hm).1
  | succ j =>
    obtain ⟨hj, e⟩ := List.getElem?_eq_some_iff.mp h
    have hj' : j < cl.length := by omega
    rw [lastC_s (List.getElem?_eq_getElem hj'), ← e]
    exact List.pairwise_iff_getElem.mp g.asc j (j + 1) hj' hj (Nat.lt_succ_self j)
def spCheckCells : Sp := sp1 fun v H Q _ => ∃ tc cl, v = .ref tc ∧ CellsT H tc cl ∧ GoodC cl ∧ ∀ H', Same H H' → Q .non H'
abbrev N_check_cells : List Str := ["value", "last", "index", "pair"]
theorem sc_check_cells : FnScope N_check_cells ["value"] (defScope s_check_cells) := ⟨rfl, rfl, rfl, by decide +kernel, rfl, by decide +kernel, by decide +kernel⟩
theorem ok_check_cells {P : Program} {w : World} {K : PySem.W.Frag} {mg : Str → Option Value} {base : Heap} (T : TopE K mg) : FnAt P w K mg base CX0 4 (He.ga K "check_cells") ["value"] spCheckCells := by
  refine fnAt0 (k := 3) T.f_check_cells sc_check_cells len1 (fun _ _ _ _ _ _ us hl => match us, hl with | [_], _ => rfl) (fun cdv A outer s H vs Q E hr h => ?_)
  have hu := hu_of hr
  obtain ⟨v_value, rfl, h⟩ := h
  refine ⟨_, (pss_cons (ps_if (pt_not (pt_val (pe_callB call_isi (by rfl) T.z_isinstance (by decide +kernel) (pa_cons (pv 0) (pa_cons (pe_ty (n := "tuple") T.z_tuple) pa_nil))))) pss_never pss_nil)
    (pss_cons (ps_set (i := 1) sc_check_cells.nd rfl (Or.inl rfl) (pe_gi T.i_END))
    (pss_one (ps_for PassesOwn.never rfl (pi_enumT (by rfl) T.z_enumerate (pa_cons (pv 0) pa_nil)) (pg_tup (by rfl) (pgs_cons (pg_name (i := 2) sc_check_cells.nd rfl (Or.inl rfl)) (pgs_cons (pg_name (i := 3) sc_check_cells.nd rfl (Or.inl rfl)) pgs_nil))) (pss_cons (ps_if (PW.pt (pw_or (pt_cmpR op_eq (pv 2) (pe_gi T.i_MOST_CELLS) (nomark _)) (pw_or (pt_not (pt_val (pe_f (ok_is_pair T) (hr.mono (by decide)) T.g_is_pair pass0 (pa_cons (pv 3) pa_nil)))) (pw_or (pt_not (pt_val (pe_f (ok_is_place T) (hr.mono (by decide)) T.g_is_place pass0 (pa_cons (pe_ix ix_tup (pv 3) pe_int (fun _ _ => rfl)) pa_nil)))) (pw_or1 (pt_not (pt_val (pe_f (ok_is_place T) (hr.mono (by decide)) T.g_is_place pass0 (pa_cons (pe_ix ix_tup (pv 3) pe_int (fun _ _ => rfl)) pa_nil))))))))) pss_never pss_nil)
    (pss_cons (ps_if (pt_cmpR op_le (pe_ix ix_tup (pv 3) pe_int (fun _ _ => rfl)) (pv 1) (nomark _)) pss_never pss_nil)
    (pss_one (ps_set (i := 1) sc_check_cells.nd rfl (Or.inl rfl) (pe_ix ix_tup (pv 3) pe_int (fun _ _ => rfl)))))))))), ?_⟩
  obtain ⟨tc, cl, rfl, hc, hg, h⟩ := h
  obtain ⟨o, ts, hf, _, hp⟩ := hc
  have sq : SqT K H tc (ts.map V.ref) := .inl (.inr ⟨o, hf⟩)
  refine ⟨_, rfl, _, _, _, _, true, rfl, .ty _, .fTuple hf, kit_ty (by decide +kernel), _, rfl, iteF ?_⟩
  refine ⟨_, rfl, tc, _, rfl, sq, for_enumT (xs := ts.map V.ref) (fun i σ H' => Same H H' ∧ ∃ a b, σ = [some (.ref tc), some (.int (lastC cl i)), a, b]) ⟨Same.refl H, _, _, rfl⟩ (fun i σ H' _ q => same_t q.1 sq) ?_ ?_⟩
  · rintro i x Tp σ H' hx ⟨sm, a, b, rfl⟩ hn
    rw [List.getElem?_map] at hx
    obtain ⟨t, ht, e⟩ := Option.map_eq_some_iff.mp hx
    subst e
    obtain ⟨c, hci, hto⟩ := paired_get hp ht
    obtain ⟨o1, o2, o3⟩ := hg.ok c (List.mem_of_getElem? hci)
    generalize eH : upd H' Tp _ = H1
    have s1 := same_of eH hn
    have hT := at_of' eH
    have h1 := s1 _ _ (sm _ _ hto)
    have hi : i < 100 := Nat.lt_of_lt_of_le (List.getElem?_eq_some_iff.mp hci).1 hg.few
    refine ⟨Tp, _, rfl, SqT.of hT, rfl, _, _, rfl, _, _, rfl, rfl, ?_⟩
    refine ⟨_, rfl, rfl, _, rfl, iteO ((dI _ _).trans (decide_eq_false (by omega))) ⟨_, rfl, _, rfl, t, _, _, rfl, h1, _, rfl, iteF ⟨_, rfl, t, _, 0, _, rfl, rfl, SqT.of h1, rfl, _, rfl, rfl, _, rfl, iteO (congrArg (!·) (btw ⟨Int.le_of_lt o1, o2⟩)) ⟨_, rfl, t, _, 1, _, rfl, rfl, SqT.of h1, rfl, _, rfl, rfl, _, rfl, iteO (congrArg (!·) (btw o3)) ?_⟩⟩⟩⟩
    refine ⟨_, rfl, t, _, 0, _, rfl, rfl, SqT.of h1, rfl, _, rfl, _, _, rfl, rfl, _, rfl, iteO (decide_eq_false (by have := lastC_lt hg hci; omega)) ?_⟩
    exact ⟨_, rfl, t, _, 0, _, rfl, rfl, SqT.of h1, rfl, Same.trans sm s1, _, _, by rw [lastC_s hci]; rfl⟩
  · rintro σ H' ⟨sm, a, b, rfl⟩
    exact h _ sm
theorem valV_none : ∀ {kvs : List (Key × V)} {k : Key}, (∀ p ∈ kvs, p.1 ≠ k) → valV kvs k = none
  | [], _, _ => rfl
  | p :: r, k, h => by
    rw [valV_neg (h p (by simp))]
    exact valV_none fun q hq => h q (by simp [hq])
theorem mergeK_app : ∀ (more kvs : List (Key × V)), ((kvs ++ more).map (·.1)).Nodup → mergeK kvs more = kvs ++ more
  | [], kvs, _ => (List.append_nil kvs).symm
  | p :: r, kvs, h => by
    show mergeK (putK kvs p.1 p.2) r = kvs ++ p :: r
    have h2 : valV kvs p.1 = none := valV_none fun q hq e => by
      rw [List.map_append, List.nodup_append] at h
      exact h.2.2 q.1 (List.mem_map.mpr ⟨q, hq, rfl⟩) p.1 (by simp) e
    rw [putK_new p.2 h2, mergeK_app r (kvs ++ [(p.1, p.2)]) (by simpa using h), List.append_assoc]
    rfl
theorem GoodC.nodup {cl : List (Int × Int)} (g : GoodC cl) : ((clD cl).map (·.1)).Nodup := by
  unfold clD
  rw [List.map_map]
  have h := g.asc
  clear g
  induction cl with
  | nil => exact List.nodup_nil
  | cons c r ih =>
    rw [List.pairwise_cons] at h
    rw [List.map_cons, List.nodup_cons]
    refine ⟨fun z => ?_, ih h.2⟩
    obtain ⟨d, hd, e⟩ := List.mem_map.mp z
    have e' : d.1 = c.1 := Sum.inl.inj e
    have := h.1 d hd
    omega
theorem merge_cl {cl : List (Int × Int)} (g : GoodC cl) : mergeK [] (clD cl) = clD cl := mergeK_app _ _ g.nodup
theorem merge_nm (px py : Int) : mergeK [] (nmD px py) = nmD px py := by
  refine mergeK_app _ _ ?_
  show [(Sum.inr "x" : Key), Sum.inr "y"].Nodup
  decide +kernel
def notIns : HO → Bool
  | .ins _ _ _ => false
  | _ => true
theorem but_ni {p a C dx : Addr} {H H' : Hp} {fs : List (Str × V)} {o : HO} (b : But p H H') (hp : H p = some (.ins C dx fs)) (ha : H a = some o) (hi : notIns o = true) : H' a = some o :=
  b a o (fun e => by subst e; rw [hp] at ha; cases ha; cases hi) ha
theorem NamesT.but {p C dx : Addr} {H H' : Hp} {fs : List (Str × V)} {tn : Addr} {px py : Int} (b : But p H H') (hp : H p = some (.ins C dx fs)) (h : NamesT H tn px py) : NamesT H' tn px py :=
  let ⟨o, t1, t2, x, y, z, w⟩ := h; ⟨o, t1, t2, but_ni b hp x rfl, y, but_ni b hp z rfl, but_ni b hp w rfl⟩
theorem CellsT.but {p C dx : Addr} {H H' : Hp} {fs : List (Str × V)} {tc : Addr} {cl : List (Int × Int)} (b : But p H H') (hp : H p = some (.ins C dx fs)) (h : CellsT H tc cl) : CellsT H' tc cl :=
  let ⟨o, ts, x, y, z⟩ := h; ⟨o, ts, but_ni b hp x rfl, y, paired_mono (fun _ _ q => but_ni b hp q rfl) z⟩
theorem paired_cl {K : PySem.W.Frag} {H : Hp} {ts : List Addr} : ∀ {cl : List (Int × Int)}, Paired (fun t (c : Int × Int) => H t = some (.tup [.int c.1, .int c.2])) ts cl → Paired (fun p (kv : Key × V) => SqT K H p [kV kv.1, kv.2]) ts (clD cl) := by
  intro cl h
  unfold clD
  induction h with
  | nil => exact .nil
  | cons a t ih => exact .cons (SqT.of a) ih
def xyS : Nat → List V
  | 0 => []
  | 1 => [.str "x"]
  | _ => [.str "x", .str "y"]
def spStoreInit (K : PySem.W.Frag) : Sp := sp3 fun self n c H Q _ => ∃ p dx tn tc px py cl, self = .ref p ∧ n = .ref tn ∧ c = .ref tc ∧ H p = some (.ins (He.ga K "Store") dx []) ∧ NamesT H tn px py ∧ okP px ∧ okP py ∧ CellsT H tc cl ∧ GoodC cl ∧
  ∀ H', But p H H' → StoreAt K H' p px py cl → Q .non H'
abbrev N_Store_init : List Str := ["self", "names", "cells", "letter", "place"]
theorem sc_Store_init : FnScope N_Store_init ["self", "names", "cells"] (defScope s_Store_init) := ⟨rfl, rfl, rfl, by decide +kernel, rfl, by decide +kernel, by decide +kernel⟩
theorem ok_Store_init {P : Program} {w : World} {K : PySem.W.Frag} {mg : Str → Option Value} {base : Heap} (T : TopE K mg) : FnAt P w K mg base CX0 6 (He.ma K (He.ga K "Store") "__init__") ["self", "names", "cells"] (spStoreInit K) := by
  refine fnAt0 (k := 5) T.f_Store_init sc_Store_init len3 (fun _ _ _ _ _ _ us hl => match us, hl with | [_, _, _], _ => rfl) (fun cdv A outer s H vs Q E hr h => ?_)
  have hu := hu_of hr
  obtain ⟨v_self, v_names, v_cells, rfl, h⟩ := h
  refine ⟨_, (pss_cons (ps_if (pt_not (pt_val (pe_f (ok_are_name_pairs T) (hr.mono (by decide)) T.g_are_name_pairs pass0 (pa_cons (pv 1) pa_nil)))) pss_never pss_nil)
    (pss_cons (ps_expr (pe_f (ok_check_cells T) (hr.mono (by decide)) T.g_check_cells pass0 (pa_cons (pv 2) pa_nil)))
    (pss_cons (ps_fld (pv 0) (pv 1) rfl)
    (pss_cons (ps_fld (pv 0) (pv 2) rfl)
    (pss_cons (ps_fld (pv 0) (pe_callTy (call_dictT rfl) (by rfl) T.z_dict (by decide +kernel) (pa_cons (pv 1) pa_nil)) rfl)
    (pss_cons (ps_fld (pv 0) (pe_callTy (call_dictT rfl) (by rfl) T.z_dict (by decide +kernel) (pa_cons (pv 2) pa_nil)) rfl)
    (pss_one (ps_fld (pv 0) (pe_join pe_str (by (apply pe_lcX (s0 := s) (own := [("letter", 3), ("place", 4)])); exact rfl; exact sc_Store_init.nd; exact (pi_tup (pv 1)); exact (blkOk_by (N := N_Store_init) (sc := defScope s_Store_init) (by decide +kernel)); (intro _ _ _ _ _; exact (pg_tup (by rfl) (pgs_cons (pg_name (i := 3) sc_Store_init.nd rfl (Or.inl rfl)) (pgs_cons (pg_name (i := 4) sc_Store_init.nd rfl (Or.inl rfl)) pgs_nil)))); (intro _ _ _ _ _; exact pts_nil); (intro _ _ _ _ _; exact (pv 3)); exact (fun _ => rfl); exact (fun _ _ _ _ _ => rfl); exact (fun _ _ _ _ _ => rfl); exact (fun _ _ _ _ _ => rfl))) rfl)))))))), ?_⟩
  obtain ⟨p, dx, tn, tc, px, py, cl, rfl, rfl, rfl, hp, hn, ox, oy, hc, hg, h⟩ := h
  refine ⟨_, rfl, _, rfl, tn, px, py, rfl, hn, ox, oy, _, rfl, iteF ⟨_, rfl, _, rfl, tc, cl, rfl, hc, hg, fun H1 s1 => ?_⟩⟩
  have hp1 := s1 _ _ hp
  refine ⟨_, rfl, _, rfl, _, _, _, _, rfl, hp1, T.c_Store, T.n_Store_names, (by walk_at "pl"), ?_⟩
  generalize e_H2 : upd _ p _ = H2
  have b_H2 := but_upd e_H2
  have h_pH2 := at_of' e_H2
  refine ⟨_, rfl, _, rfl, _, _, _, _, rfl, h_pH2, T.c_Store, T.n_Store_cells, (by walk_at "pl"), ?_⟩
  generalize e_H3 : upd _ p _ = H3
  have b_H3 := but_upd e_H3
  have h_pH3 := at_of' e_H3
  have hn3 := NamesT.but b_H3 h_pH2 (NamesT.but b_H2 hp1 (hn.same s1))
  have hc3 := CellsT.but b_H3 h_pH2 (CellsT.but b_H2 hp1 (hc.same s1))
  obtain ⟨o, t1, t2, hf, hod, h1, h2⟩ := id hn3
  obtain ⟨oc, ts, hfc, hoc, hpc⟩ := id hc3
  refine ⟨_, rfl, tn, o, [t1, t2], nmD px py, rfl, hf, hod, .cons (SqT.of h1) (.cons (SqT.of h2) .nil), ?_⟩
  rw [merge_nm]
  intro dp n_dp
  generalize e_H4 : upd _ dp _ = H4
  have s_H4 := same_of e_H4 n_dp
  have h_dp := at_of' e_H4
  have hp4 := s_H4 _ _ h_pH3
  refine ⟨_, rfl, _, _, _, _, rfl, hp4, T.c_Store, T.n_Store_places, (by walk_at "pl"), ?_⟩
  generalize e_H5 : upd _ p _ = H5
  have b_H5 := but_upd e_H5
  have h_pH5 := at_of' e_H5
  have k5 : ∀ {a : Addr} {u : HO}, H3 a = some u → notIns u = true → H5 a = some u := fun e i => but_ni b_H5 hp4 (s_H4 _ _ e) i
  refine ⟨_, rfl, tc, oc, ts, clD cl, rfl, k5 hfc rfl, hoc, paired_cl (paired_mono (fun _ _ q => k5 q rfl) hpc), ?_⟩
  rw [merge_cl hg]
  intro da n_da
  generalize e_H6 : upd _ da _ = H6
  have s_H6 := same_of e_H6 n_da
  have h_da := at_of' e_H6
  have hp6 := s_H6 _ _ h_pH5
  refine ⟨_, rfl, _, _, _, _, rfl, hp6, T.c_Store, T.n_Store_arrows, (by walk_at "pl"), ?_⟩
  generalize e_H7 : upd _ p _ = H7
  have b_H7 := but_upd e_H7
  have h_pH7 := at_of' e_H7
  have k7 : ∀ {a : Addr} {u : HO}, H3 a = some u → notIns u = true → H7 a = some u := fun e i => but_ni b_H7 hp6 (s_H6 _ _ (k5 e i)) i
  refine ⟨⟨_, rfl⟩, _, rfl, tn, rfl, ⟨_, .inl (.inr ⟨o, k7 hf rfl⟩)⟩, fun D nD => ?_⟩
  refine lc_tup (xs := [.ref t1, .ref t2]) (LcF H7 D xyS) (lcF0 nD rfl) (fun i H' _ q => .inl (.inr ⟨o, q.1 _ _ (k7 hf rfl)⟩)) ?_ ?_
  · intro i x H' hx q
    match i, hx with
    | 0, hx =>
      cases hx
      exact ⟨t1, _, rfl, SqT.of (q.1 _ _ (k7 h1 rfl)), rfl, _, _, rfl, _, _, rfl, rfl, rfl, _, rfl, lcFS nD q (by decide) (Same.refl _) rfl⟩
    | 1, hx =>
      cases hx
      exact ⟨t2, _, rfl, SqT.of (q.1 _ _ (k7 h2 rfl)), rfl, _, _, rfl, _, _, rfl, rfl, rfl, _, rfl, lcFS nD q (by decide) (Same.refl _) rfl⟩
    | _ + 2, hx => cases hx
  · intro H8 q
    have hp8 := q.1 _ _ h_pH7
    refine ⟨_, D, ["x", "y"], rfl, rfl, .inl (.inl (.inl q.2)), by decide +kernel, ?_⟩
    refine ⟨_, rfl, _, _, _, _, rfl, hp8, T.c_Store, T.n_Store_letters, (by walk_at "pl"), ?_⟩
    generalize e_H9 : upd _ p _ = H9
    have b_H9 := but_upd e_H9
    have h_pH9 := at_of' e_H9
    have ej : Txt.join "" ["x", "y"] = ("xy" : Str) := by decide +kernel
    rw [ej] at h_pH9
    have h_pH9 : H9 p = some (.ins (He.ga K "Store") dx (stF (.ref tn) (.ref tc) (.ref dp) (.ref da) (.str "xy"))) := h_pH9.trans (by rw [stF_init])
    have k9 : ∀ {a : Addr} {u : HO}, H7 a = some u → notIns u = true → H9 a = some u := fun e i => but_ni b_H9 hp8 (q.1 _ _ e) i
    have k9' : ∀ {a : Addr} {u : HO}, H3 a = some u → notIns u = true → H9 a = some u := fun e i => k9 (k7 e i) i
    refine h H9 (Same.but s1 |>.trans b_H2 |>.trans b_H3 |>.trans (Same.but s_H4) |>.trans b_H5 |>.trans (Same.but s_H6) |>.trans b_H7 |>.trans (Same.but q.1) |>.trans b_H9) ⟨dx, tn, tc, dp, da, h_pH9, ⟨o, t1, t2, k9' hf rfl, hod, k9' h1 rfl, k9' h2 rfl⟩, ⟨oc, ts, k9' hfc rfl, hoc, paired_mono (fun _ _ q => k9' q rfl) hpc⟩, ?_, k9 (but_ni b_H7 hp6 h_da rfl) rfl⟩
    exact k9 (but_ni b_H7 hp6 (s_H6 _ _ (but_ni b_H5 hp4 h_dp rfl)) rfl) rfl

end K66
end
section
set_option Elab.async false
set_option linter.all false
set_option maxRecDepth 100000
set_option maxHeartbeats 4000000
/-! the way that a store leads on, in plain terms -/
namespace K66
open PySem PySem.Spec PyProof.Rows L2
def wk (cl : List (Int × Int)) : Nat → List Int → Int → List Int × Int
  | 0, acc, i => (acc, i)
  | n + 1, acc, i => match nxt cl i with
    | some j => if i ∈ acc then (acc, i) else wk cl n (acc ++ [i]) j
    | none => (acc, i)
def trk (cl : List (Int × Int)) (z : Int) : List Int × Int := wk cl (cl.length + 1) [] z
theorem wk_stop1 {cl : List (Int × Int)} {n : Nat} {acc : List Int} {i : Int} (h : nxt cl i = none) : wk cl n acc i = (acc, i) := by
  cases n with
  | zero => rfl
  | succ n =>
    unfold wk
    rw [h]
theorem wk_stop2 {cl : List (Int × Int)} {n : Nat} {acc : List Int} {i : Int} (h : i ∈ acc) : wk cl n acc i = (acc, i) := by
  cases n with
  | zero => rfl
  | succ n =>
    unfold wk
    cases nxt cl i with
    | none => rfl
    | some j => exact if_pos h
theorem wk_go {cl : List (Int × Int)} {n : Nat} {acc : List Int} {i j : Int} (h : nxt cl i = some j) (hi : ¬ i ∈ acc) : wk cl (n + 1) acc i = wk cl n (acc ++ [i]) j := by
  rw [wk, h]
  exact if_neg hi
/-- the cells passed: different, each with an arrow -/
def Pass (cl : List (Int × Int)) (acc : List Int) : Prop := acc.Nodup ∧ ∀ x ∈ acc, (nxt cl x).isSome = true
theorem nodup_le : ∀ {l m : List Int}, l.Nodup → (∀ x ∈ l, x ∈ m) → l.length ≤ m.length
  | [], _, _, _ => Nat.zero_le _
  | x :: r, m, h, hm => by
    rw [List.nodup_cons] at h
    have hx := hm x (by simp)
    have := nodup_le (l := r) (m := m.erase x) h.2 fun y hy => (List.mem_erase_of_ne (fun e : y = x => h.1 (by rw [← e]; exact hy))).mpr (hm y (by simp [hy]))
    rw [List.length_erase_of_mem hx] at this
    have := List.length_pos_of_mem hx
    simp only [List.length_cons]
    omega
theorem Pass.le {cl : List (Int × Int)} {acc : List Int} (h : Pass cl acc) : acc.length ≤ cl.length := by
  have := nodup_le (m := cl.map (·.1)) h.1 fun x hx => by
    obtain ⟨j, hj⟩ := Option.isSome_iff_exists.mp (h.2 x hx)
    exact List.mem_map.mpr ⟨_, nxt_mem hj, rfl⟩
  simpa using this
theorem Pass.add {cl : List (Int × Int)} {acc : List Int} {i j : Int} (h : Pass cl acc) (hj : nxt cl i = some j) (hi : ¬ i ∈ acc) : Pass cl (acc ++ [i]) := by
  refine ⟨List.nodup_append.mpr ⟨h.1, by simp, fun a ha b hb e => ?_⟩, fun x hx => ?_⟩
  · rw [List.mem_singleton] at hb
    exact hi (hb ▸ e ▸ ha)
  · rcases List.mem_append.mp hx with z | z
    · exact h.2 x z
    · rw [List.mem_singleton.mp z, hj]
      rfl
/-- what is true of the end of a way -/
theorem wk_end {cl : List (Int × Int)} : ∀ (n : Nat) {acc : List Int} {i : Int}, Pass cl acc → cl.length < acc.length + n → Pass cl (wk cl n acc i).1 ∧ (nxt cl (wk cl n acc i).2 = none ∨ (wk cl n acc i).2 ∈ (wk cl n acc i).1)
  | 0, acc, i, h, hl => absurd h.le (by omega)
  | n + 1, acc, i, h, hl => by
    cases hj : nxt cl i with
    | none =>
      rw [wk_stop1 hj]
      exact ⟨h, .inl hj⟩
    | some j =>
      by_cases hi : i ∈ acc
      · rw [wk_stop2 hi]
        exact ⟨h, .inr hi⟩
      · rw [wk_go hj hi]
        exact wk_end n (h.add hj hi) (by simp; omega)
theorem trk_end (cl : List (Int × Int)) (z : Int) : Pass cl (trk cl z).1 ∧ (nxt cl (trk cl z).2 = none ∨ (trk cl z).2 ∈ (trk cl z).1) := wk_end _ ⟨List.nodup_nil, fun x hx => by cases hx⟩ (by simp)
def seenD (acc : List Int) : List (Key × V) := acc.map fun i => (Sum.inl i, V.bl true)
theorem seenD_val : ∀ (acc : List Int) (i : Int), (valV (seenD acc) (Sum.inl i)) = if i ∈ acc then some (V.bl true) else none
  | [], i => rfl
  | a :: r, i => by
    have ih := seenD_val r i
    show valV ((Sum.inl a, V.bl true) :: seenD r) (Sum.inl i) = _
    by_cases h : a = i
    · rw [valV_pos (by rw [h]), if_pos (by simp [h])]
    · rw [valV_neg (fun z => h (Sum.inl.inj z)), ih]
      simp [show ¬ i = a from fun e => h e.symm]
theorem seenD_put {acc : List Int} {i : Int} (h : ¬ i ∈ acc) : putK (seenD acc) (Sum.inl i) (V.bl true) = seenD (acc ++ [i]) := by
  rw [putK_new _ (by rw [seenD_val, if_neg h])]
  unfold seenD
  rw [List.map_append]
  rfl
end K66
end
section
set_option Elab.async false
set_option linter.all false
set_option maxRecDepth 100000
set_option maxHeartbeats 4000000
namespace K66
open PySem PySem.Spec PyProof.Rows L2
local macro_rules | `(tactic| walk_at "rd") => `(tactic| repeat (first | refine ⟨_, rfl, ?_⟩ | refine ⟨_, _, rfl, rfl, ?_⟩ | refine ⟨rfl, ?_⟩))
local macro_rules | `(tactic| walk_at "hp") => `(tactic| (first | assumption | solve_by_elim (maxDepth := 12)))
local macro_rules | `(tactic| walk_at "pl") => `(tactic| ((repeat (refine putF_lt ?_)); exact Nat.le_of_ble_eq_true rfl))
/-! ## the way: walked, tail_and_ring -/
def FrzT (H : Hp) (t : Addr) (ys : List V) : Prop := ∃ o : Obj, H t = some (.frz o (.tup ys)) ∧ o.dict = none
theorem FrzT.sq {K : PySem.W.Frag} {H : Hp} {t : Addr} {ys : List V} (h : FrzT H t ys) : SqT K H t ys := let ⟨o, e, _⟩ := h; .inl (.inr ⟨o, e⟩)
theorem FrzT.same {H H' : Hp} {t : Addr} {ys : List V} (s : Same H H') (h : FrzT H t ys) : FrzT H' t ys := let ⟨o, e, d⟩ := h; ⟨o, s _ _ e, d⟩
def spWalked (K : PySem.W.Frag) : Sp := sp2 fun s i H Q _ => ∃ p px py cl z, s = .ref p ∧ i = .int z ∧ StoreAt K H p px py cl ∧ cl.length ≤ 100 ∧
  ∀ H' q t, Same H H' → H' q = some (.tup [.ref t, .int (trk cl z).2]) → FrzT H' t ((trk cl z).1.map V.int) → Q (.ref q) H'
def WInv (H : Hp) (p C D : Addr) (cl : List (Int × Int)) (z : Int) (m : Nat) (σ : L2.St) (H' : Hp) : Prop :=
  ∃ acc i, σ = [some (.ref p), some (.int i), some (.ref C), some (.ref D)] ∧ Same H H' ∧ H' C = some (.lst (acc.map V.int)) ∧ H' D = some (.dK (seenD acc)) ∧ Pass cl acc ∧ m + acc.length = cl.length + 1 ∧ wk cl m acc i = trk cl z
abbrev N_walked : List Str := ["store", "place", "cells", "seen"]
theorem sc_walked : FnScope N_walked ["store", "place"] (defScope s_walked) := ⟨rfl, rfl, rfl, by decide +kernel, rfl, by decide +kernel, by decide +kernel⟩
theorem ok_walked {P : Program} {w : World} {K : PySem.W.Frag} {mg : Str → Option Value} {base : Heap} (T : TopE K mg) : FnAt P w K mg base CX0 2 (He.ga K "walked") ["store", "place"] (spWalked K) := by
  refine fnAt0 (k := 1) T.f_walked sc_walked len2 (fun _ _ _ _ _ _ us hl => match us, hl with | [_, _], _ => rfl) (fun cdv A outer s H vs Q E hr h => ?_)
  have hu := hu_of hr
  obtain ⟨v_store, v_place, rfl, h⟩ := h
  refine ⟨_, (pss_cons (ps_par (i := 2) (j := 3) rfl sc_walked.nd rfl rfl (by decide) rfl rfl (pa_cons (pe_lst pa_nil) (pa_cons pe_dnewK pa_nil)) (by rfl))
    (pss_cons (ps_while PassesOwn.never (PW.pt (pw_and (pt_cmp (pc_din hu (pv 1) (pe_fld (pv 0) rfl))) (pw_and1 (pt_cmp (pc_dnotin hu (pv 1) (pv 3)))))) (pss_cons (ps_dput hu (pv 3) (pv 1) pe_bl rfl)
    (pss_cons (ps_expr (pe_bm PySem.F.plainAttrs_list PySem.F.slot_list_append PySem.F.type_list_append mt_append (pv 2) (pa_cons (pv 1) pa_nil)))
    (pss_one (ps_set (i := 1) sc_walked.nd rfl (Or.inl rfl) (pe_dget hu (pe_fld (pv 0) rfl) (pv 1) (fun _ _ => rfl)))))))
    (pss_one (ps_ret (pe_tup (pa_cons (pe_callTy call_tuple_frz (by rfl) T.z_tuple (by decide +kernel) (pa_cons (pv 2) pa_nil)) (pa_cons (pv 1) pa_nil))))))), ?_⟩
  obtain ⟨p, px, py, cl, z, rfl, rfl, st, few, h⟩ := h
  refine ⟨by decide, fun C nC => ?_⟩
  generalize e1 : upd H C _ = H1
  have s1 := same_of e1 nC
  have hC1 := at_of' e1
  intro D nD
  generalize e2 : upd H1 D _ = H2
  have s2 := same_of e2 nD
  have hD2 := at_of' e2
  have hC2 := s2 _ _ hC1
  have nD0 : H D = none := by
    cases e : H D with
    | none => rfl
    | some o => rw [s1 _ _ e] at nD; cases nD
  have CD : C ≠ D := fun e => by rw [← e, hC1] at nD; cases nD
  refine ⟨_, _, rfl, ?_⟩
  refine ⟨WInv H p C D cl z, ⟨_, [], z, rfl, Same.trans s1 s2, hC2, hD2, ⟨List.nodup_nil, fun x hx => by cases hx⟩, rfl, rfl⟩, ?_⟩
  rintro m σ H' ⟨acc, i, rfl, sm, hC, hD, ps, hm, hw⟩
  have st' := st.same sm
  obtain ⟨dx, tn, tc, dp, da, ob, _, _, _, hda⟩ := st'.ob
  have fin : wk cl m acc i = (acc, i) → ∀ q t H3, Same H' H3 → H3 q = some (.tup [.ref t, .int i]) → FrzT H3 t (acc.map V.int) → Q (.ref q) H3 := fun e q t H3 s3 a b => by
    have e2 : trk cl z = (acc, i) := hw.symm.trans e
    refine h H3 q t (Same.trans sm s3) ?_ ?_
    · rw [e2]; exact a
    · rw [e2]; exact b
  refine ⟨_, rfl, _, rfl, _, _, _, _, _, rfl, ob, T.c_Store, T.n_Store_arrows, stF_arrows _ _ _ _ _, da, _, rfl, DGet.k (k := Sum.inl i) hda, _, rfl, ?_⟩
  rw [nxt_valV]
  cases hj : nxt cl i with
  | none =>
    refine iteF ⟨_, rfl, C, _, rfl, SqL.of hC, fun t o nt od => ?_⟩
    generalize e3 : upd H' t _ = H3
    refine ⟨_, rfl, sz1000 (Nat.le_of_ble_eq_true rfl), fun q nq => ?_⟩
    generalize e4 : upd H3 q _ = H4
    exact fin (wk_stop1 hj) q t H4 (Same.trans (same_of e3 nt) (same_of e4 nq)) (at_of' e4) ⟨o, same_of e4 nq _ _ (at_of' e3), od⟩
  | some j =>
    refine iteT ⟨_, rfl, _, rfl, D, _, rfl, DGet.k (k := Sum.inl i) hD, _, rfl, ?_⟩
    rw [seenD_val]
    by_cases hi : i ∈ acc
    · rw [if_pos hi]
      refine ⟨_, rfl, C, _, rfl, SqL.of hC, fun t o nt od => ?_⟩
      generalize e3 : upd H' t _ = H3
      refine ⟨_, rfl, sz1000 (Nat.le_of_ble_eq_true rfl), fun q nq => ?_⟩
      generalize e4 : upd H3 q _ = H4
      exact fin (wk_stop2 hi) q t H4 (Same.trans (same_of e3 nt) (same_of e4 nq)) (at_of' e4) ⟨o, same_of e4 nq _ _ (at_of' e3), od⟩
    · rw [if_neg hi]
      have pa := ps.add hj hi
      have hl := pa.le
      rw [List.length_append, List.length_singleton] at hl
      obtain ⟨m, rfl⟩ : ∃ m', m = m' + 1 := ⟨m - 1, by omega⟩
      refine ⟨WInv H p C D cl z m, fun σ' H' w => ⟨m, Nat.lt_succ_self m, w⟩, ?_⟩
      refine ⟨_, rfl, _, rfl, D, _, rfl, DPut.k (k := Sum.inl i) hD (by unfold seenD; rw [List.length_map]; exact szn (by omega)), ?_⟩
      rw [seenD_put hi]
      generalize e3 : upd H' D _ = H3
      have b3 := but_upd e3
      have hC3 := b3 C _ CD hC
      refine ⟨_, rfl, .inl ⟨rfl, _, SqL.of hC3⟩, _, rfl, C, _, _, rfl, rfl, hC3, by rw [List.length_map]; exact szn (by omega), ?_⟩
      generalize e4 : upd H3 C _ = H4
      have b4 := but_upd e4
      have sm4 : Same H H4 := fun b u hb => b4 b u (ne_of_none hb nC) (b3 b u (ne_of_none hb nD0) (sm b u hb))
      obtain ⟨dx, tn, tc, dp, da, ob, _, _, _, hda⟩ := (st.same sm4).ob
      refine ⟨_, rfl, _, _, _, _, _, rfl, ob, T.c_Store, T.n_Store_arrows, stF_arrows _ _ _ _ _, _, rfl, da, .int j, rfl, ?_, ?_⟩
      · have q := DGet.k (k := Sum.inl i) hda
        rw [nxt_valV, hj] at q
        exact q
      · refine ⟨acc ++ [i], j, rfl, sm4, ?_, b4 D _ (Ne.symm CD) (at_of' e3), pa, by simp; omega, ?_⟩
        · rw [List.map_append]
          exact at_of' e4
        · rw [← hw, wk_go hj hi]
/-- tail and ring, or none -/
def tarO (cl : List (Int × Int)) (z : Int) : Option (Nat × Nat) := match nxt cl (trk cl z).2 with
  | none => none
  | some _ => some ((trk cl z).1.idxOf (trk cl z).2, (trk cl z).1.length - (trk cl z).1.idxOf (trk cl z).2)
def TarV (H : Hp) (v : V) : Option (Nat × Nat) → Prop
  | none => v = .non
  | some (t, r) => ∃ q, v = .ref q ∧ H q = some (.tup [.int (t : Nat), .int (r : Nat)])
/-- v is no store: its type is known -/
def NoStore (K : PySem.W.Frag) (H : Hp) (v : V) : Prop := ∃ t, TyX K H v (.type t) ∧ PySem.W.kitOne K (.type t) (.ref (He.ga K "Store")) = some false
/-- what is asked of a def that takes a store and a letter -/
def AskS (K : PySem.W.Frag) (s l : V) (H : Hp) (E : XK) (ok : Addr → Int → Int → List (Int × Int) → Int → Prop) : Prop :=
  (NoStore K H s ∧ Rs (He.ga K "NotAStore") s H E) ∨ (∃ p px py cl, s = .ref p ∧ StoreAt K H p px py cl ∧ GoodC cl ∧ fl l = true ∧ (∀ i, plc px py l = some i → ok p px py cl i) ∧ (plc px py l = none → Rs (He.ga K "UnknownName") l H E))
def spTar (K : PySem.W.Frag) : Sp := sp2 fun s l H Q E => AskS K s l H E fun _ _ _ cl i => ∀ v H', Same H H' → TarV H' v (tarO cl i) → Q v H'
abbrev N_tail_and_ring : List Str := ["store", "letter", "cells", "last"]
theorem sc_tail_and_ring : FnScope N_tail_and_ring ["store", "letter"] (defScope s_tail_and_ring) := ⟨rfl, rfl, rfl, by decide +kernel, rfl, by decide +kernel, by decide +kernel⟩
theorem ok_tail_and_ring {P : Program} {w : World} {K : PySem.W.Frag} {mg : Str → Option Value} {base : Heap} (T : TopE K mg) : FnAt P w K mg base (L2.CX P w) 6 (He.ga K "tail_and_ring") ["store", "letter"] (spTar K) := by
  refine fnAtX (k := 5) T.f_tail_and_ring sc_tail_and_ring len2 (fun _ _ _ _ _ _ us hl => match us, hl with | [_, _], _ => rfl) (fun cdv A outer s H vs Q E hr h => ?_)
  have hu := hu_of hr
  obtain ⟨v_store, v_letter, rfl, h⟩ := h
  refine ⟨_, (pss_cons (ps_expr (pe_f (ok_check_store T) (hr.mono (by decide)) T.g_check_store (passes_call (takes_of rfl rfl rfl rfl) (fun _ _ _ _ z => z)) (pa_cons (pv 0) pa_nil)))
    (pss_cons (ps_asg (pe_f (ok_walked T) (hr.mono (by decide)) T.g_walked pass0 (pa_cons (pv 0) (pa_cons (pe_mt (pv 0) T.c_Store T.m_Store_at (ok_Store_at T) (hr.mono (by decide)) (passes_call (takes_of rfl rfl rfl rfl) (fun _ _ _ _ z => z)) (pa_cons (pv 1) pa_nil)) pa_nil))) (pg_tup (by rfl) (pgs_cons (pg_name (i := 2) sc_tail_and_ring.nd rfl (Or.inl rfl)) (pgs_cons (pg_name (i := 3) sc_tail_and_ring.nd rfl (Or.inl rfl)) pgs_nil))))
    (pss_cons (ps_if (pt_cmp (pc_dnotin hu (pv 3) (pe_fld (pv 0) rfl))) (pss_one (ps_ret pe_non)) pss_nil)
    (pss_one (ps_ret (pe_tup (pa_cons (pe_bmT PySem.F.plainAttrs_tuple PySem.F.slot_tuple_index PySem.F.type_tuple_index mt_tup_indexI (pv 2) (pa_cons (pv 3) pa_nil)) (pa_cons (pe_op op_sub (pe_callB call_len_seq (by rfl) T.z_len (by decide +kernel) (pa_cons (pv 2) pa_nil)) (pe_bmT PySem.F.plainAttrs_tuple PySem.F.slot_tuple_index PySem.F.type_tuple_index mt_tup_indexI (pv 2) (pa_cons (pv 3) pa_nil))) pa_nil)))))))), ?_⟩
  refine ⟨_, rfl, _, rfl, ?_⟩
  rcases h with ⟨⟨t, ty, kt⟩, k⟩ | ⟨p, px, py, cl, rfl, st, hg, hf, k1, k2⟩
  · exact .inr ⟨t, ty, kt, k⟩
  · refine .inl ⟨p, px, py, cl, rfl, st, ?_⟩
    obtain ⟨dx, tn, tc, dp, da, ob, _, _, hdp, hda⟩ := st.ob
    refine ⟨_, rfl, _, rfl, p, dx, _, rfl, ob, stF_no_at _ _ _ _ _, _, rfl, _, _, rfl, p, px, py, cl, rfl, st, hf, fun i hi => ?_, k2⟩
    have k := k1 i hi
    refine ⟨_, _, rfl, p, px, py, cl, i, rfl, rfl, st, hg.few, fun H1 q t s1 hq ht => ?_⟩
    refine ⟨q, _, rfl, SqT.of hq, rfl, _, _, rfl, _, _, rfl, rfl, ?_⟩
    have ob1 := s1 _ _ ob
    refine ⟨_, rfl, _, rfl, _, _, _, _, _, rfl, ob1, T.c_Store, T.n_Store_arrows, stF_arrows _ _ _ _ _, da, _, rfl, DGet.k (k := Sum.inl (trk cl i).2) (s1 _ _ hda), _, rfl, ?_⟩
    rw [nxt_valV]
    cases hj : nxt cl (trk cl i).2 with
    | none => 
      refine iteT (k _ _ s1 ?_)
      unfold tarO
      rw [hj]
      exact rfl
    | some j =>
      have hm : (trk cl i).2 ∈ (trk cl i).1 := by
        rcases (trk_end cl i).2 with z | z
        · rw [hj] at z; cases z
        · exact z
      have hle := (trk_end cl i).1.le
      have hlt := List.idxOf_lt_length_iff.mpr hm
      obtain ⟨o, hto, hod⟩ := id ht
      refine iteF ⟨_, rfl, ⟨t, o, _, rfl, hto, hod⟩, _, rfl, t, _, _, rfl, rfl, ht.sq, hm, _, rfl, t, _, rfl, .inr ht.sq, _, rfl, ⟨t, o, _, rfl, hto, hod⟩, _, rfl, t, _, _, rfl, rfl, ht.sq, hm, ?_⟩
      refine ⟨_, _, rfl, rfl, sz1000 (Nat.le_of_ble_eq_true rfl), fun q2 n2 => ?_⟩
      generalize e2 : upd H1 q2 _ = H2
      refine k _ _ (Same.trans s1 (same_of e2 n2)) ?_
      unfold tarO
      rw [hj]
      refine ⟨q2, rfl, ?_⟩
      have e5 : (((trk cl i).1.length : Nat) : Int) - (((trk cl i).1.idxOf (trk cl i).2 : Nat) : Int) = (((trk cl i).1.length - (trk cl i).1.idxOf (trk cl i).2 : Nat) : Int) := by omega
      rw [at_of' e2, List.length_map, ← e5]

end K66
end
section
set_option Elab.async false
set_option linter.all false
set_option maxRecDepth 100000
set_option maxHeartbeats 4000000
/-! the walkers in plain terms -/
namespace K66
open PySem PySem.Spec PyProof.Rows L2
def far : Int := 10 ^ 30
theorem same_none {H H1 : Hp} {d : Addr} (s : Same H H1) (n : H1 d = none) : H d = none := by
  cases e : H d with
  | none => rfl
  | some o => rw [s _ _ e] at n; cases n
theorem Rs.mono {C : Addr} {v : V} {H H1 : Hp} {E : XK} (s : Same H H1) (h : Rs C v H E) : Rs C v H1 E := fun d H' n s' e => h d H' (same_none s n) (Same.trans s s') e
def stp (t r n : Int) : Int := if n < t then n else t + (n - t) % r
def okM (i : Int) : Bool := decide (-(2 ^ 64) < i) && decide (i < 2 ^ 64)
theorem okM_c {i j : Int} (h : okM i = true) : CMul i j := by
  unfold okM at h
  rw [Bool.and_eq_true] at h
  exact .inl ⟨of_decide_eq_true h.1, of_decide_eq_true h.2⟩
def okD (j : Int) : Bool := decide (0 < j) && decide (j < 1073741824)
theorem okD_c {i j : Int} (h : okD j = true) : CDiv i j := by
  unfold okD at h
  rw [Bool.and_eq_true] at h
  exact ⟨of_decide_eq_true h.1, of_decide_eq_true h.2⟩
def ivl : Nat → Int → Int → Int → Int → Option Int
  | 0, _, _, _, _ => none
  | n + 1, l, r, a, b => if 1 < r then (if okD r && okM (l / r) then ivl n r (l - l / r * r) b (a - l / r * b) else none) else some b
def invF (n m : Int) : Option Int := (ivl 20 m (n % m) 0 1).map (· % m)
def ftm (t r s g l : Int) : Option (Option Int) :=
  if l = 0 ∧ g = 0 then some (some 1)
  else if okD (Int.gcd g r : Nat) then
    (if (s = 0 ∧ 0 < t) ∨ ¬ l % (Int.gcd g r : Nat) = 0 then some none
    else if (s = 0 ∨ okD s = true) ∧ 0 < r / (Int.gcd g r : Nat) ∧ okM (r - l / (Int.gcd g r : Nat)) = true then
      match invF (g / (Int.gcd g r : Nat)) (r / (Int.gcd g r : Nat)) with
      | none => none
      | some iv => some (some ((if s = 0 then 1 else (if (t + s - 1) / s > 1 then (t + s - 1) / s else 1)) +
          ((r - l / (Int.gcd g r : Nat)) * iv % (r / (Int.gcd g r : Nat)) - (if s = 0 then 1 else (if (t + s - 1) / s > 1 then (t + s - 1) / s else 1))) % (r / (Int.gcd g r : Nat))))
    else none)
  else none
/-- the own walk of the law -/
def fmm (t r c q g : Int) : Option Int := ((List.range (t + 2 * r + 2).toNat).map fun k => (1 : Int) + (k : Nat)).find? fun n => decide (stp t r (c * n) = stp t r (g + q * n))
def optV : Option Int → V
  | none => .non
  | some i => .int i
def tryFt (t r s g l : Nat) : Bool := match ftm t r s g l with
  | none => false
  | some none => decide (fmm t r s (s + g) l = none)
  | some (some n) => decide (fmm t r s (s + g) l = some n) && decide (0 < n) && decide (n < 1000)
theorem all_ft : ((List.range 8).all fun t => (List.range 8).all fun r => (decide (r = 0) || decide (7 < t + r)) || (List.range 4).all fun s => (List.range 4).all fun g => (List.range 7).all fun l => tryFt t r s g l) = true := by decide +kernel
theorem ft_ok {t r s g l : Nat} (h1 : t + r ≤ 7) (h2 : 0 < r) (h3 : s < 4) (h4 : g < 4) (h5 : l < 7) :
    ∃ o, ftm t r s g l = some o ∧ fmm t r s (s + g) l = o ∧ ∀ n, o = some n → 0 < n ∧ n < 1000 := by
  have h := List.all_eq_true.mp all_ft t (List.mem_range.mpr (by omega))
  have h := List.all_eq_true.mp h r (List.mem_range.mpr (by omega))
  rw [decide_eq_false (by omega), decide_eq_false (by omega)] at h
  have h := List.all_eq_true.mp h s (List.mem_range.mpr h3)
  have h := List.all_eq_true.mp h g (List.mem_range.mpr h4)
  have h : tryFt t r s g l = true := List.all_eq_true.mp h l (List.mem_range.mpr h5)
  unfold tryFt at h
  cases e : ftm t r s g l with
  | none => rw [e] at h; cases h
  | some o =>
    rw [e] at h
    cases o with
    | none => exact ⟨none, rfl, of_decide_eq_true h, fun n z => by cases z⟩
    | some n =>
      have h : (decide (fmm t r s (s + g) l = some n) && decide (0 < n) && decide (n < 1000)) = true := h
      rw [Bool.and_eq_true, Bool.and_eq_true] at h
      refine ⟨some n, rfl, of_decide_eq_true h.1.1, fun m z => ?_⟩
      cases z
      exact ⟨of_decide_eq_true h.1.2, of_decide_eq_true h.2⟩
def dl : Nat → Int → Int → Int → Int
  | 0, p, _, _ => p
  | n + 1, p, t, r => if p - 1 < t ∨ p < r then dl n (2 * p) t r else p
end K66
end
section
set_option Elab.async false
set_option linter.all false
set_option maxRecDepth 100000
set_option maxHeartbeats 4000000
namespace K66
open PySem PySem.Spec PyProof.Rows L2
local macro_rules | `(tactic| walk_at "rd") => `(tactic| repeat (first | refine ⟨_, rfl, ?_⟩ | refine ⟨_, _, rfl, rfl, ?_⟩ | refine ⟨rfl, ?_⟩))
local macro_rules | `(tactic| walk_at "hp") => `(tactic| (first | assumption | solve_by_elim (maxDepth := 12)))
local macro_rules | `(tactic| walk_at "pl") => `(tactic| ((repeat (refine putF_lt ?_)); exact Nat.le_of_ble_eq_true rfl))
/-! ## the walkers -/
def spCheckTrack (K : PySem.W.Frag) : Sp := sp2 fun t r H Q E => fl t = true ∧ fl r = true ∧ (between t 0 far = false → Rs (He.ga K "InvalidNumber") t H E) ∧ (between t 0 far = true → between r 1 far = false → Rs (He.ga K "InvalidNumber") r H E) ∧ (between t 0 far = true → between r 1 far = true → Q .non H)
abbrev N_check_track : List Str := ["tail", "ring"]
theorem sc_check_track : FnScope N_check_track ["tail", "ring"] (defScope s_check_track) := ⟨rfl, rfl, rfl, by decide +kernel, rfl, by decide +kernel, by decide +kernel⟩
theorem ok_check_track {P : Program} {w : World} {K : PySem.W.Frag} {mg : Str → Option Value} {base : Heap} (T : TopE K mg) : FnAt P w K mg base (L2.CX P w) 7 (He.ga K "check_track") ["tail", "ring"] (spCheckTrack K) := by
  refine fnAtX (k := 6) T.f_check_track sc_check_track len2 (fun _ _ _ _ _ _ us hl => match us, hl with | [_, _], _ => rfl) (fun cdv A outer s H vs Q E hr h => ?_)
  have hu := hu_of hr
  obtain ⟨v_tail, v_ring, rfl, h⟩ := h
  refine ⟨_, (pss_cons (ps_expr (pe_f (ok_check_number T) (hr.mono (by decide)) T.g_check_number (passes_call (takes_of rfl rfl rfl rfl) (fun _ _ _ _ z => z)) (pa_cons (pv 0) (pa_cons pe_int (pa_cons (pe_gi T.i_FAR) pa_nil)))))
    (pss_one (ps_expr (pe_f (ok_check_number T) (hr.mono (by decide)) T.g_check_number (passes_call (takes_of rfl rfl rfl rfl) (fun _ _ _ _ z => z)) (pa_cons (pv 1) (pa_cons pe_int (pa_cons (pe_gi T.i_FAR) pa_nil))))))), ?_⟩
  obtain ⟨ft, fr, k1, k2, k3⟩ := h
  refine ⟨_, rfl, _, _, _, rfl, 0, far, rfl, rfl, ft, fun h1 => ?_, k1⟩
  exact ⟨_, rfl, _, _, _, rfl, 1, far, rfl, rfl, fr, fun h2 => k3 h1 h2, k2 h1⟩
/-- the paces asked for: what is wished of each refusal, and of the good ones -/
def AskP (K : PySem.W.Frag) (s f l : V) (H : Hp) (E : XK) (ok : Int → Int → Int → Prop) : Prop :=
  fl s = true ∧ fl f = true ∧ fl l = true ∧ ((between s 0 far = false ∧ Rs (He.ga K "InvalidNumber") s H E) ∨ ∃ si, s = .int si ∧ between s 0 far = true ∧
    ((between f si far = false ∧ Rs (He.ga K "InvalidNumber") f H E) ∨ ∃ fi, f = .int fi ∧ between f si far = true ∧
      ((between l 0 far = false ∧ Rs (He.ga K "InvalidNumber") l H E) ∨ ∃ li, l = .int li ∧ between l 0 far = true ∧ ok si fi li)))
def spCheckPaces (K : PySem.W.Frag) : Sp := sp4 fun s f l m H Q E => m = .int far ∧ AskP K s f l H E fun _ _ _ => Q .non H
abbrev N_check_paces : List Str := ["slow", "fast", "lead", "most"]
theorem sc_check_paces : FnScope N_check_paces ["slow", "fast", "lead", "most"] (defScope s_check_paces) := ⟨rfl, rfl, rfl, by decide +kernel, rfl, by decide +kernel, by decide +kernel⟩
theorem ok_check_paces {P : Program} {w : World} {K : PySem.W.Frag} {mg : Str → Option Value} {base : Heap} (T : TopE K mg) : FnAt P w K mg base (L2.CX P w) 7 (He.ga K "check_paces") ["slow", "fast", "lead", "most"] (spCheckPaces K) := by
  refine fnAtX (k := 6) T.f_check_paces sc_check_paces len4 (fun _ _ _ _ _ _ us hl => match us, hl with | [_, _, _, _], _ => rfl) (fun cdv A outer s H vs Q E hr h => ?_)
  have hu := hu_of hr
  obtain ⟨v_slow, v_fast, v_lead, v_most, rfl, h⟩ := h
  refine ⟨_, (pss_cons (ps_expr (pe_f (ok_check_number T) (hr.mono (by decide)) T.g_check_number (passes_call (takes_of rfl rfl rfl rfl) (fun _ _ _ _ z => z)) (pa_cons (pv 0) (pa_cons pe_int (pa_cons (pv 3) pa_nil)))))
    (pss_cons (ps_expr (pe_f (ok_check_number T) (hr.mono (by decide)) T.g_check_number (passes_call (takes_of rfl rfl rfl rfl) (fun _ _ _ _ z => z)) (pa_cons (pv 1) (pa_cons (pv 0) (pa_cons (pv 3) pa_nil)))))
    (pss_one (ps_expr (pe_f (ok_check_number T) (hr.mono (by decide)) T.g_check_number (passes_call (takes_of rfl rfl rfl rfl) (fun _ _ _ _ z => z)) (pa_cons (pv 2) (pa_cons pe_int (pa_cons (pv 3) pa_nil)))))))), ?_⟩
  obtain ⟨rfl, fs, ff, fl', h⟩ := h
  rcases h with ⟨b, k⟩ | ⟨si, rfl, b1, h⟩
  · exact ⟨_, rfl, _, rfl, _, _, _, rfl, 0, far, rfl, rfl, fs, fun h1 => (by rw [b] at h1; cases h1), fun _ => k⟩
  refine ⟨_, rfl, _, rfl, _, _, _, rfl, 0, far, rfl, rfl, fs, fun _ => ?_, fun h1 => (by rw [b1] at h1; cases h1)⟩
  rcases h with ⟨b, k⟩ | ⟨fi, rfl, b2, h⟩
  · exact ⟨_, rfl, _, rfl, _, rfl, _, _, _, rfl, si, far, rfl, rfl, ff, fun h1 => (by rw [b] at h1; cases h1), fun _ => k⟩
  refine ⟨_, rfl, _, rfl, _, rfl, _, _, _, rfl, si, far, rfl, rfl, ff, fun _ => ?_, fun h1 => (by rw [b2] at h1; cases h1)⟩
  rcases h with ⟨b, k⟩ | ⟨li, rfl, b3, h⟩
  · exact ⟨_, rfl, _, rfl, _, _, _, rfl, 0, far, rfl, rfl, fl', fun h1 => (by rw [b] at h1; cases h1), fun _ => k⟩
  exact ⟨_, rfl, _, rfl, _, _, _, rfl, 0, far, rfl, rfl, fl', fun _ => h, fun h1 => (by rw [b3] at h1; cases h1)⟩
def spStop : Sp := sp3 fun t r n H Q _ => ∃ a b c : Int, t = .int a ∧ r = .int b ∧ n = .int c ∧ 0 < b ∧ Q (.int (stp a b c)) H
abbrev N_stop_after : List Str := ["tail", "ring", "steps"]
theorem sc_stop_after : FnScope N_stop_after ["tail", "ring", "steps"] (defScope s_stop_after) := ⟨rfl, rfl, rfl, by decide +kernel, rfl, by decide +kernel, by decide +kernel⟩
theorem ok_stop_after {P : Program} {w : World} {K : PySem.W.Frag} {mg : Str → Option Value} {base : Heap} (T : TopE K mg) : FnAt P w K mg base CX0 1 (He.ga K "stop_after") ["tail", "ring", "steps"] spStop := by
  refine fnAt0 (k := 0) T.f_stop_after sc_stop_after len3 (fun _ _ _ _ _ _ us hl => match us, hl with | [_, _, _], _ => rfl) (fun cdv A outer s H vs Q E hr h => ?_)
  have hu := hu_of hr
  obtain ⟨v_tail, v_ring, v_steps, rfl, h⟩ := h
  refine ⟨_, (pss_one (ps_ret (pe_ifExp (pt_cmpR op_lt (pv 2) (pv 0) (nomark _)) (pv 2) (pe_op op_add (pv 0) (pe_op op_mod (pe_op op_sub (pv 2) (pv 0)) (pv 1)))))), ?_⟩
  obtain ⟨a, b, c, rfl, rfl, rfl, hb, h⟩ := h
  refine ⟨_, rfl, _, rfl, _, _, rfl, rfl, _, rfl, iteD (fun l => ⟨_, rfl, ?_⟩) (fun l => ⟨_, rfl, _, rfl, _, rfl, _, _, rfl, rfl, _, rfl, _, _, rfl, rfl, hb, _, _, rfl, rfl, ?_⟩)⟩
  · have e : stp a b c = c := if_pos l
    rw [e] at h
    exact h
  · have e : stp a b c = a + (c - a) % b := if_neg l
    rw [e] at h
    exact h
def spInverse : Sp := sp2 fun n m H Q _ => ∃ a b c : Int, n = .int a ∧ m = .int b ∧ 0 < b ∧ invF a b = some c ∧ ∀ H', Same H H' → Q (.int c) H'
abbrev N_inverse : List Str := ["number", "modulus", "left", "right", "last", "found", "times"]
theorem sc_inverse : FnScope N_inverse ["number", "modulus"] (defScope s_inverse) := ⟨rfl, rfl, rfl, by decide +kernel, rfl, by decide +kernel, by decide +kernel⟩
theorem ok_inverse {P : Program} {w : World} {K : PySem.W.Frag} {mg : Str → Option Value} {base : Heap} (T : TopE K mg) : FnAt P w K mg base CX0 1 (He.ga K "inverse") ["number", "modulus"] spInverse := by
  refine fnAt0 (k := 0) T.f_inverse sc_inverse len2 (fun _ _ _ _ _ _ us hl => match us, hl with | [_, _], _ => rfl) (fun cdv A outer s H vs Q E hr h => ?_)
  have hu := hu_of hr
  obtain ⟨v_number, v_modulus, rfl, h⟩ := h
  refine ⟨_, (pss_cons (ps_asg (pe_tup (pa_cons (pv 1) (pa_cons (pe_op op_mod (pv 0) (pv 1)) (pa_cons pe_int (pa_cons pe_int pa_nil))))) (pg_tup (by rfl) (pgs_cons (pg_name (i := 2) sc_inverse.nd rfl (Or.inl rfl)) (pgs_cons (pg_name (i := 3) sc_inverse.nd rfl (Or.inl rfl)) (pgs_cons (pg_name (i := 4) sc_inverse.nd rfl (Or.inl rfl)) (pgs_cons (pg_name (i := 5) sc_inverse.nd rfl (Or.inl rfl)) pgs_nil))))))
    (pss_cons (ps_while PassesOwn.never (pt_cmpR op_gt (pv 3) pe_int (nomark _)) (pss_cons (ps_set (i := 6) sc_inverse.nd rfl (Or.inl rfl) (pe_op op_fdiv (pv 2) (pv 3)))
    (pss_cons (ps_par (i := 2) (j := 3) rfl sc_inverse.nd rfl rfl (by decide) rfl rfl (pa_cons (pv 3) (pa_cons (pe_op op_sub (pv 2) (pe_op op_mul (pv 6) (pv 3))) pa_nil)) (by rfl))
    (pss_one (ps_par (i := 4) (j := 5) rfl sc_inverse.nd rfl rfl (by decide) rfl rfl (pa_cons (pv 5) (pa_cons (pe_op op_sub (pv 4) (pe_op op_mul (pv 6) (pv 5))) pa_nil)) (by rfl))))))
    (pss_one (ps_ret (pe_op op_mod (pv 5) (pv 1)))))), ?_⟩
  obtain ⟨a, b, c, rfl, rfl, hb, hi, h⟩ := h
  unfold invF at hi
  obtain ⟨f, hf, rfl⟩ := Option.map_eq_some_iff.mp hi
  refine ⟨_, rfl, _, rfl, _, rfl, _, _, rfl, rfl, hb, sz1000 (Nat.le_of_ble_eq_true rfl), fun q nq => ?_⟩
  generalize e_H1 : upd H q _ = H1
  have h_q := at_of' e_H1
  have s1 := same_of e_H1 nq
  refine ⟨q, _, rfl, SqT.of h_q, rfl, _, _, rfl, _, _, rfl, _, _, rfl, _, _, rfl, rfl, ?_⟩
  refine ⟨fun m σ H' => H' = H1 ∧ ∃ l r x y t, σ = [some (.int a), some (.int b), some (.int l), some (.int r), some (.int x), some (.int y), t] ∧ ivl m l r x y = some f, ⟨20, rfl, _, _, _, _, _, rfl, hf⟩, ?_⟩
  rintro m σ H' ⟨rfl, l, r, x, y, t, rfl, hm⟩
  cases m with
  | zero => cases hm
  | succ m =>
    unfold ivl at hm
    refine ⟨_, rfl, _, _, rfl, rfl, _, rfl, iteD (fun c => ?_) (fun c => ?_)⟩
    · rw [if_pos c] at hm
      by_cases g : (okD r && okM (l / r)) = true
      · rw [if_pos g] at hm
        have g2 := g
        rw [Bool.and_eq_true] at g2
        refine ⟨fun σ H2 => H2 = H' ∧ ∃ l r x y t, σ = [some (.int a), some (.int b), some (.int l), some (.int r), some (.int x), some (.int y), t] ∧ ivl m l r x y = some f, fun σ' H' p => ⟨m, Nat.lt_succ_self m, p⟩, ?_⟩
        refine ⟨_, rfl, _, rfl, _, _, rfl, rfl, okD_c g2.1, ?_⟩
        refine ⟨_, rfl, _, rfl, _, rfl, _, rfl, _, _, rfl, rfl, okM_c g2.2, _, _, rfl, rfl, _, _, rfl, ?_⟩
        refine ⟨_, rfl, _, rfl, _, rfl, _, rfl, _, _, rfl, rfl, okM_c g2.2, _, _, rfl, rfl, _, _, rfl, ?_⟩
        exact ⟨rfl, _, _, _, _, _, rfl, hm⟩
      · rw [if_neg g] at hm
        cases hm
    · rw [if_neg c] at hm
      cases hm
      exact ⟨_, rfl, _, rfl, _, _, rfl, rfl, hb, h _ s1⟩
def spFirst : Sp := sp5 fun t r s g l H Q _ => ∃ (a b c d e : Int) (o : Option Int), t = .int a ∧ r = .int b ∧ s = .int c ∧ g = .int d ∧ l = .int e ∧ 0 < b ∧ ftm a b c d e = some o ∧ ∀ H', Same H H' → Q (optV o) H'
abbrev N_first_turn : List Str := ["tail", "ring", "slow", "gain", "lead", "part", "least", "period", "rest"]
theorem sc_first_turn : FnScope N_first_turn ["tail", "ring", "slow", "gain", "lead"] (defScope s_first_turn) := ⟨rfl, rfl, rfl, by decide +kernel, rfl, by decide +kernel, by decide +kernel⟩
theorem ok_first_turn {P : Program} {w : World} {K : PySem.W.Frag} {mg : Str → Option Value} {base : Heap} (T : TopE K mg) : FnAt P w K mg base CX0 2 (He.ga K "first_turn") ["tail", "ring", "slow", "gain", "lead"] spFirst := by
  refine fnAt0 (k := 1) T.f_first_turn sc_first_turn len5 (fun _ _ _ _ _ _ us hl => match us, hl with | [_, _, _, _, _], _ => rfl) (fun cdv A outer s H vs Q E hr h => ?_)
  have hu := hu_of hr
  obtain ⟨v_tail, v_ring, v_slow, v_gain, v_lead, rfl, h⟩ := h
  refine ⟨_, (pss_cons (ps_if (PW.pt (pw_and (pt_cmpR op_eq (pv 4) pe_int (nomark _)) (pw_and1 (pt_cmpR op_eq (pv 3) pe_int (nomark _))))) (pss_one (ps_ret pe_int)) pss_nil)
    (pss_cons (ps_set (i := 5) sc_first_turn.nd rfl (Or.inl rfl) (pe_callBfun cr_gcd (by rfl) T.b_gcd (pa_cons (pv 3) (pa_cons (pv 1) pa_nil))))
    (pss_cons (ps_if (PW.pt (pw_or (PW.pt (pw_and (pt_cmpR op_eq (pv 2) pe_int (nomark _)) (pw_and1 (pt_cmpR op_gt (pv 0) pe_int (nomark _))))) (pw_or1 (pt_cmpR op_ne (pe_op op_mod (pv 4) (pv 5)) pe_int (nomark _))))) (pss_one (ps_ret pe_non)) pss_nil)
    (pss_cons (ps_set (i := 6) sc_first_turn.nd rfl (Or.inl rfl) (pe_ifExp (pt_cmpR op_eq (pv 2) pe_int (nomark _)) pe_int (pe_callB (call_max2 rfl) (by rfl) T.z_max (by decide +kernel) (pa_cons pe_int (pa_cons (pe_op op_fdiv (pe_op op_sub (pe_op op_add (pv 0) (pv 2)) pe_int) (pv 2)) pa_nil)))))
    (pss_cons (ps_set (i := 7) sc_first_turn.nd rfl (Or.inl rfl) (pe_op op_fdiv (pv 1) (pv 5)))
    (pss_cons (ps_set (i := 8) sc_first_turn.nd rfl (Or.inl rfl) (pe_op op_mod (pe_op op_mul (pe_op op_sub (pv 1) (pe_op op_fdiv (pv 4) (pv 5))) (pe_f (ok_inverse T) (hr.mono (by decide)) T.g_inverse pass0 (pa_cons (pe_op op_fdiv (pv 3) (pv 5)) (pa_cons (pv 7) pa_nil)))) (pv 7)))
    (pss_one (ps_ret (pe_op op_add (pv 6) (pe_op op_mod (pe_op op_sub (pv 8) (pv 6)) (pv 7))))))))))), ?_⟩
  obtain ⟨a, b, c, d, e, o, rfl, rfl, rfl, rfl, rfl, hb, hf, h⟩ := h
  unfold ftm at hf
  refine ⟨_, rfl, rfl, _, rfl, ?_⟩
  rw [dI]
  by_cases z : e = 0 ∧ d = 0
  · rw [if_pos z] at hf
    cases hf
    refine iteE (decide_eq_true z.1) ⟨_, rfl, rfl, _, rfl, iteE ((dI _ _).trans (decide_eq_true z.2)) (h _ (Same.refl H))⟩
  rw [if_neg z] at hf
  generalize eg : ((Int.gcd d b : Nat) : Int) = g at hf
  have eg' : ((Nat.gcd d.natAbs b.natAbs : Nat) : Int) = g := eg
  refine iteB (fun ha => ⟨_, rfl, rfl, _, rfl, iteO ((dI _ _).trans (decide_eq_false fun hd => z ⟨of_decide_eq_true ha, hd⟩)) ?_⟩) (fun ha => iteF ?_)
  all_goals
    refine ⟨_, rfl, _, rfl, _, _, rfl, ?_⟩
    rw [eg']
    by_cases gd : okD g = true
    · rw [if_pos gd] at hf
      have g0 : 0 < g := (okD_c (i := 0) gd).1
      by_cases z2 : (c = 0 ∧ 0 < a) ∨ ¬ e % g = 0
      · rw [if_pos z2] at hf
        cases hf
        refine ⟨_, rfl, rfl, _, rfl, ?_⟩
        rw [dI]
        rcases z2 with ⟨z3, z4⟩ | z3
        · exact iteE (decide_eq_true z3) ⟨_, rfl, _, _, rfl, rfl, _, rfl, iteE (decide_eq_true z4) (h _ (Same.refl H))⟩
        · refine iteB (fun h1 => ⟨_, rfl, _, _, rfl, rfl, _, rfl, iteB (fun h2 => h _ (Same.refl H)) (fun h2 => ?_)⟩) (fun h1 => ?_)
          all_goals
            refine ⟨_, rfl, _, rfl, _, _, rfl, rfl, g0, rfl, _, rfl, iteE ?_ (h _ (Same.refl H))⟩
            rw [dI, decide_eq_false z3]
            rfl
      · rw [if_neg z2] at hf
        by_cases z5 : (c = 0 ∨ okD c = true) ∧ 0 < b / g ∧ okM (b - e / g) = true
        · rw [if_pos z5] at hf
          obtain ⟨z6, z7, z8⟩ := z5
          cases hi : invF (d / g) (b / g) with
          | none => rw [hi] at hf; cases hf
          | some iv =>
            rw [hi] at hf
            have hf := Option.some.inj hf
            subst hf
            have z3 : e % g = 0 := Decidable.not_not.mp fun q => z2 (.inr q)
            have dv : ∀ {i : Int}, CDiv i g := okD_c gd
            refine ⟨_, rfl, rfl, _, rfl, ?_⟩
            rw [dI]
            refine iteB (fun h1 => ⟨_, rfl, _, _, rfl, rfl, _, rfl, iteO (decide_eq_false fun q => z2 (.inl ⟨of_decide_eq_true h1, q⟩)) ?_⟩) (fun h1 => ?_)
            all_goals
              refine ⟨_, rfl, _, rfl, _, _, rfl, rfl, g0, rfl, _, rfl, iteO ?_ ?_⟩
              · rw [dI, decide_eq_true z3]
                rfl
              refine ⟨_, rfl, rfl, _, rfl, ?_⟩
              rw [dI]
              by_cases c0 : c = 0
              · refine iteE (decide_eq_true c0) ?_
                rw [if_pos c0] at h
                refine ⟨_, rfl, _, rfl, _, _, rfl, rfl, dv, ?_⟩
                refine ⟨_, rfl, _, rfl, _, rfl, _, _, rfl, rfl, dv, _, _, rfl, rfl, _, rfl, _, rfl, _, _, rfl, rfl, dv, _, rfl, _, _, rfl, _, _, iv, rfl, rfl, z7, hi, fun H1 s1 => ?_⟩
                refine ⟨_, _, rfl, rfl, okM_c z8, _, rfl, _, _, rfl, rfl, z7, ?_⟩
                exact ⟨_, rfl, _, rfl, _, rfl, _, _, rfl, rfl, _, rfl, _, _, rfl, rfl, z7, _, _, rfl, rfl, h _ s1⟩
              · refine iteO (decide_eq_false c0) ?_
                rw [if_neg c0] at h
                have oc : okD c = true := z6.resolve_left c0
                refine ⟨_, rfl, _, rfl, _, _, rfl, rfl, _, _, rfl, rfl, _, rfl, _, _, rfl, rfl, okD_c oc, _, _, rfl, ?_⟩
                refine ⟨_, rfl, _, rfl, _, _, rfl, rfl, dv, ?_⟩
                refine ⟨_, rfl, _, rfl, _, rfl, _, _, rfl, rfl, dv, _, _, rfl, rfl, _, rfl, _, rfl, _, _, rfl, rfl, dv, _, rfl, _, _, rfl, _, _, iv, rfl, rfl, z7, hi, fun H1 s1 => ?_⟩
                refine ⟨_, _, rfl, rfl, okM_c z8, _, rfl, _, _, rfl, rfl, z7, ?_⟩
                exact ⟨_, rfl, _, rfl, _, rfl, _, _, rfl, rfl, _, rfl, _, _, rfl, rfl, z7, _, _, rfl, rfl, h _ s1⟩
        · rw [if_neg z5] at hf
          cases hf
    · rw [if_neg gd] at hf
      cases hf

end K66
end
section
set_option Elab.async false
set_option linter.all false
set_option maxRecDepth 100000
set_option maxHeartbeats 4000000
namespace K66
open PySem PySem.Spec PyProof.Rows L2
local macro_rules | `(tactic| walk_at "rd") => `(tactic| repeat (first | refine ⟨_, rfl, ?_⟩ | refine ⟨_, _, rfl, rfl, ?_⟩ | refine ⟨rfl, ?_⟩))
local macro_rules | `(tactic| walk_at "hp") => `(tactic| (first | assumption | solve_by_elim (maxDepth := 12)))
local macro_rules | `(tactic| walk_at "pl") => `(tactic| ((repeat (refine putF_lt ?_)); exact Nat.le_of_ble_eq_true rfl))
/-! ## meet, doubling_steps, track_of, meeting_place -/
theorem btwI {i l h : Int} (a : l ≤ i) (b : i ≤ h) : between (.int i) l h = true := by
  show (decide (l ≤ i) && decide (i ≤ h)) = true
  rw [decide_eq_true a, decide_eq_true b]
  rfl
theorem btw_le {i l h : Int} (a : between (.int i) l h = true) : l ≤ i ∧ i ≤ h := by
  have a : (decide (l ≤ i) && decide (i ≤ h)) = true := a
  rw [Bool.and_eq_true] at a
  exact ⟨of_decide_eq_true a.1, of_decide_eq_true a.2⟩
def spMeet : Sp := sp5 fun t r s f l H Q _ => ∃ (a b c d e : Int) (o : Option Int), t = .int a ∧ r = .int b ∧ s = .int c ∧ f = .int d ∧ l = .int e ∧ (0 ≤ a ∧ a ≤ far ∧ 1 ≤ b ∧ b ≤ far ∧ 0 ≤ c ∧ c ≤ far ∧ c ≤ d ∧ d ≤ far ∧ 0 ≤ e ∧ e ≤ far) ∧
  ftm a b c (d - c) e = some o ∧ ∀ H', Same H H' → Q (optV o) H'
abbrev N_meet : List Str := ["tail", "ring", "slow", "fast", "lead"]
theorem sc_meet : FnScope N_meet ["tail", "ring", "slow", "fast", "lead"] (defScope s_meet) := ⟨rfl, rfl, rfl, by decide +kernel, rfl, by decide +kernel, by decide +kernel⟩
theorem ok_meet {P : Program} {w : World} {K : PySem.W.Frag} {mg : Str → Option Value} {base : Heap} (T : TopE K mg) : FnAt P w K mg base (L2.CX P w) 8 (He.ga K "meet") ["tail", "ring", "slow", "fast", "lead"] spMeet := by
  refine fnAtX (k := 7) T.f_meet sc_meet len5 (fun _ _ _ _ _ _ us hl => match us, hl with | [_, _, _, _, _], _ => rfl) (fun cdv A outer s H vs Q E hr h => ?_)
  have hu := hu_of hr
  obtain ⟨v_tail, v_ring, v_slow, v_fast, v_lead, rfl, h⟩ := h
  refine ⟨_, (pss_cons (ps_expr (pe_f (ok_check_track T) (hr.mono (by decide)) T.g_check_track (passes_call (takes_of rfl rfl rfl rfl) (fun _ _ _ _ z => z)) (pa_cons (pv 0) (pa_cons (pv 1) pa_nil))))
    (pss_cons (ps_expr (pe_f (ok_check_paces T) (hr.mono (by decide)) T.g_check_paces (passes_call (takes_of rfl rfl rfl rfl) (fun _ _ _ _ z => z)) (pa_cons (pv 2) (pa_cons (pv 3) (pa_cons (pv 4) (pa_cons (pe_gi T.i_FAR) pa_nil))))))
    (pss_one (ps_ret (pe_f (ok_first_turn T) (hr.mono (by decide)) T.g_first_turn pass0 (pa_cons (pv 0) (pa_cons (pv 1) (pa_cons (pv 2) (pa_cons (pe_op op_sub (pv 3) (pv 2)) (pa_cons (pv 4) pa_nil)))))))))), ?_⟩
  obtain ⟨a, b, c, d, e, o, rfl, rfl, rfl, rfl, rfl, ⟨h1, h2, h3, h4, h5, h6, h7, h8, h9, h0⟩, hf, h⟩ := h
  refine ⟨_, rfl, _, rfl, _, _, rfl, rfl, rfl, fun z => (by rw [btwI h1 h2] at z; cases z), fun _ z => (by rw [btwI h3 h4] at z; cases z), fun _ _ => ?_⟩
  refine ⟨_, rfl, _, rfl, _, rfl, _, _, _, _, rfl, rfl, rfl, rfl, rfl, .inr ⟨c, rfl, btwI h5 h6, .inr ⟨d, rfl, btwI h7 h8, .inr ⟨e, rfl, btwI h9 h0, ?_⟩⟩⟩⟩
  exact ⟨_, rfl, _, rfl, _, rfl, _, rfl, _, rfl, _, _, rfl, rfl, _, rfl, _, _, _, _, _, rfl, a, b, c, d - c, e, o, rfl, rfl, rfl, rfl, rfl, by omega, hf, h⟩
def spDoubling (K : PySem.W.Frag) : Sp := sp2 fun t r H Q E => fl t = true ∧ fl r = true ∧ (between t 0 far = false → Rs (He.ga K "InvalidNumber") t H E) ∧ (between t 0 far = true → between r 1 far = false → Rs (He.ga K "InvalidNumber") r H E) ∧
  ∀ a b, t = .int a → r = .int b → between t 0 far = true → between r 1 far = true → Q (.int (dl 110 1 a b - 1 + b)) H
theorem pow_big {k : Nat} (h : 100 ≤ k) : far + 1 < ((2 ^ k : Nat) : Int) := by
  have h1 : 2 ^ 100 ≤ 2 ^ k := Nat.pow_le_pow_right (by decide) h
  have h2 : far + 1 < ((2 ^ 100 : Nat) : Int) := by decide +kernel
  omega
theorem whole_of {v : V} {l h : Int} (a : between v l h = true) : ∃ i, v = .int i := by
  cases v with
  | int i => exact ⟨i, rfl⟩
  | _ => cases a
abbrev N_doubling_steps : List Str := ["tail", "ring", "limit"]
theorem sc_doubling_steps : FnScope N_doubling_steps ["tail", "ring"] (defScope s_doubling_steps) := ⟨rfl, rfl, rfl, by decide +kernel, rfl, by decide +kernel, by decide +kernel⟩
theorem okK_doubling_steps {P : Program} {w : World} {K : PySem.W.Frag} {mg : Str → Option Value} {base : Heap} (T : TopE K mg) : FnAtK P w K mg base (L2.CX P w) 8 (He.ga K "doubling_steps") ["tail", "ring"] (spDoubling K) := by
  refine fnAtXK (k := 7) T.f_doubling_steps sc_doubling_steps len2 (fun _ _ _ _ _ _ us hl => match us, hl with | [_, _], _ => rfl) (fun _ _ _ _ _ _ us hl => match us, hl with | [_, _], _ => rfl) (fun cdv A outer s H vs Q E hr h => ?_)
  have hu := hu_of hr
  obtain ⟨v_tail, v_ring, rfl, h⟩ := h
  refine ⟨_, (pss_cons (ps_expr (pe_f (ok_check_track T) (hr.mono (by decide)) T.g_check_track (passes_call (takes_of rfl rfl rfl rfl) (fun _ _ _ _ z => z)) (pa_cons (pv 0) (pa_cons (pv 1) pa_nil))))
    (pss_cons (ps_set (i := 2) sc_doubling_steps.nd rfl (Or.inl rfl) pe_int)
    (PSs.nox (pss_cons (ps_while PassesOwn.never (PW.pt (pw_or (pt_cmpR op_lt (pe_op op_sub (pv 2) pe_int) (pv 0) (nomark _)) (pw_or1 (pt_cmpR op_lt (pv 2) (pv 1) (nomark _))))) (pss_one (ps_set (i := 2) sc_doubling_steps.nd rfl (Or.inl rfl) (pe_op op_mul (pv 2) pe_int))))
    (pss_one (ps_ret (pe_op op_add (pe_op op_sub (pv 2) pe_int) (pv 1)))))))), ?_⟩
  obtain ⟨f1, f2, k1, k2, k3⟩ := h
  refine ⟨_, rfl, _, rfl, _, _, rfl, f1, f2, k1, k2, fun b1 b2 => ?_⟩
  obtain ⟨a, rfl⟩ := whole_of b1
  obtain ⟨b, rfl⟩ := whole_of b2
  have k := k3 a b rfl rfl b1 b2
  have la := btw_le b1
  have lb := btw_le b2
  clear k1 k2 k3
  refine ⟨fun m σ H' => H' = H ∧ ∃ k, m + k = 110 ∧ σ = [some (.int a), some (.int b), some (.int ((2 ^ k : Nat) : Int))] ∧ dl m ((2 ^ k : Nat) : Int) a b = dl 110 1 a b, ⟨110, rfl, 0, rfl, rfl, rfl⟩, ?_⟩
  rintro m σ H' ⟨eH, k', hm, rfl, hd⟩
  have go : ((2 ^ k' : Nat) : Int) - 1 < a ∨ ((2 ^ k' : Nat) : Int) < b → ∃ m', m = m' + 1 ∧ dl m' ((2 ^ (k' + 1) : Nat) : Int) a b = dl 110 1 a b ∧ m' + (k' + 1) = 110 := fun z => by
    have : k' < 100 := Nat.lt_of_not_le fun q => by
      have := pow_big q
      omega
    refine ⟨m - 1, by omega, ?_, by omega⟩
    obtain ⟨m', rfl⟩ : ∃ m', m = m' + 1 := ⟨m - 1, by omega⟩
    rw [← hd, dl, if_pos z]
    have e : ((2 ^ (k' + 1) : Nat) : Int) = 2 * ((2 ^ k' : Nat) : Int) := by
      rw [Nat.pow_succ]
      omega
    rw [e]
    rfl
  have stop : ¬ (((2 ^ k' : Nat) : Int) - 1 < a ∨ ((2 ^ k' : Nat) : Int) < b) → dl 110 1 a b = ((2 ^ k' : Nat) : Int) := fun z => by
    rw [← hd]
    cases m with
    | zero => rfl
    | succ m => rw [dl, if_neg z]
  have body : (((2 ^ k' : Nat) : Int) - 1 < a ∨ ((2 ^ k' : Nat) : Int) < b) → ∃ N : L2.St → Hp → Prop, (∀ σ' H', N σ' H' → ∃ m', m' < m ∧ H' = H ∧ ∃ k, m' + k = 110 ∧ σ' = [some (.int a), some (.int b), some (.int ((2 ^ k : Nat) : Int))] ∧ dl m' ((2 ^ k : Nat) : Int) a b = dl 110 1 a b) ∧
      N [some (.int a), some (.int b), some (.int (((2 ^ k' : Nat) : Int) * 2))] H' := fun z => by
    obtain ⟨m', rfl, h1, h2⟩ := go z
    refine ⟨fun σ' H' => H' = H ∧ ∃ k, m' + k = 110 ∧ σ' = [some (.int a), some (.int b), some (.int ((2 ^ k : Nat) : Int))] ∧ dl m' ((2 ^ k : Nat) : Int) a b = dl 110 1 a b, fun σ' H' p => ⟨m', Nat.lt_succ_self m', p⟩, eH, k' + 1, h2, ?_, h1⟩
    rw [Nat.pow_succ, Int.natCast_mul]
    rfl
  have two : ∀ i : Int, CMul i 2 := fun i => .inr ⟨by decide, by decide⟩
  refine ⟨_, rfl, _, _, rfl, rfl, _, rfl, _, _, rfl, rfl, _, rfl, iteD (fun c => ?_) (fun c => ⟨_, rfl, _, rfl, _, _, rfl, rfl, _, rfl, iteD (fun c2 => ?_) (fun c2 => ?_)⟩)⟩
  · obtain ⟨N, h1, h2⟩ := body (.inl c)
    exact ⟨N, h1, _, rfl, _, _, rfl, rfl, two _, h2⟩
  · obtain ⟨N, h1, h2⟩ := body (.inr c2)
    exact ⟨N, h1, _, rfl, _, _, rfl, rfl, two _, h2⟩
  · have e := stop (fun z => z.elim c c2)
    rw [e, ← eH] at k
    exact ⟨_, rfl, _, _, rfl, rfl, _, rfl, _, _, rfl, rfl, k⟩
abbrev N_track_of : List Str := ["store", "letter"]
theorem sc_track_of : FnScope N_track_of ["store", "letter"] (defScope s_track_of) := ⟨rfl, rfl, rfl, by decide +kernel, rfl, by decide +kernel, by decide +kernel⟩
theorem okK_track_of {P : Program} {w : World} {K : PySem.W.Frag} {mg : Str → Option Value} {base : Heap} (T : TopE K mg) : FnAtK P w K mg base (L2.CX P w) 7 (He.ga K "track_of") ["store", "letter"] (spTar K) := by
  refine fnAtXK (k := 6) T.f_track_of sc_track_of len2 (fun _ _ _ _ _ _ us hl => match us, hl with | [_, _], _ => rfl) (fun _ _ _ _ _ _ us hl => match us, hl with | [_, _], _ => rfl) (fun cdv A outer s H vs Q E hr h => ?_)
  have hu := hu_of hr
  obtain ⟨v_store, v_letter, rfl, h⟩ := h
  refine ⟨_, (pss_one (ps_ret (pe_f (ok_tail_and_ring T) (hr.mono (by decide)) T.g_tail_and_ring (passes_call (takes_of rfl rfl rfl rfl) (fun _ _ _ _ z => z)) (pa_cons (pv 0) (pa_cons (pv 1) pa_nil))))), ?_⟩
  exact ⟨_, rfl, _, rfl, _, _, rfl, h⟩
theorem AskP.mono {K : PySem.W.Frag} {s f l : V} {H H1 : Hp} {E : XK} {ok ok' : Int → Int → Int → Prop} (sm : Same H H1) (h : AskP K s f l H E ok) (hk : ∀ a b c, s = .int a → f = .int b → l = .int c → ok a b c → ok' a b c) : AskP K s f l H1 E ok' := by
  obtain ⟨a, b, c, h⟩ := h
  refine ⟨a, b, c, ?_⟩
  rcases h with ⟨x, k⟩ | ⟨si, e1, x, h⟩
  · exact .inl ⟨x, k.mono sm⟩
  refine .inr ⟨si, e1, x, ?_⟩
  rcases h with ⟨x, k⟩ | ⟨fi, e2, x, h⟩
  · exact .inl ⟨x, k.mono sm⟩
  refine .inr ⟨fi, e2, x, ?_⟩
  rcases h with ⟨x, k⟩ | ⟨li, e3, x, h⟩
  · exact .inl ⟨x, k.mono sm⟩
  exact .inr ⟨li, e3, x, hk _ _ _ e1 e2 e3 h⟩
def mpR (cl : List (Int × Int)) (i : Int) (t r a : Nat) : Option Int → V
  | none => .non
  | some n => .int ((trk cl i).1.getD (stp t r (a * n)).toNat 0)
def mpV (cl : List (Int × Int)) (i : Int) (a g e : Nat) : V := match tarO cl i with
  | none => .non
  | some tr => mpR cl i tr.1 tr.2 a (fmm tr.1 tr.2 a (a + g) e)
theorem mpV_none {cl : List (Int × Int)} {i : Int} {a g e : Nat} (h : tarO cl i = none) : mpV cl i a g e = .non := by
  unfold mpV
  rw [h]
theorem mpV_some {cl : List (Int × Int)} {i : Int} {a g e t r : Nat} (h : tarO cl i = some (t, r)) : mpV cl i a g e = mpR cl i t r a (fmm t r a (a + g) e) := by
  unfold mpV
  rw [h]
theorem tarO_le {cl : List (Int × Int)} {i : Int} {t r : Nat} (h : tarO cl i = some (t, r)) : t + r = (trk cl i).1.length ∧ 0 < r ∧ (trk cl i).1.length ≤ cl.length := by
  unfold tarO at h
  cases e : nxt cl (trk cl i).2 with
  | none => rw [e] at h; cases h
  | some j =>
    rw [e] at h
    cases h
    obtain ⟨p, q⟩ := trk_end cl i
    rw [e] at q
    have hm := q.resolve_left (fun z => by cases z)
    have := List.idxOf_lt_length_iff.mpr hm
    have := p.le
    omega
theorem stp_lt {t r n : Int} (h0 : 0 ≤ t) (hr : 0 < r) (hn : 0 ≤ n) : 0 ≤ stp t r n ∧ stp t r n < t + r := by
  unfold stp
  by_cases h : n < t
  · rw [if_pos h]; omega
  · rw [if_neg h]
    have := Int.emod_nonneg (n - t) (Int.ne_of_gt hr)
    have := Int.emod_lt_of_pos (n - t) hr
    omega
def spMP (K : PySem.W.Frag) : Sp := sp5 fun s l sl fa le H Q E => AskS K s l H E fun _ _ _ cl i => cl.length ≤ 7 ∧ AskP K sl fa le H E fun si fi li => ∃ a g e : Nat, si = (a : Int) ∧ fi = (a : Int) + (g : Int) ∧ li = (e : Int) ∧ a < 4 ∧ g < 4 ∧ e < 7 ∧ ∀ H', Same H H' → Q (mpV cl i a g e) H'
abbrev N_meeting_place : List Str := ["store", "letter", "slow", "fast", "lead", "track", "turn"]
theorem sc_meeting_place : FnScope N_meeting_place ["store", "letter", "slow", "fast", "lead"] (defScope s_meeting_place) := ⟨rfl, rfl, rfl, by decide +kernel, rfl, by decide +kernel, by decide +kernel⟩
theorem okK_meeting_place {P : Program} {w : World} {K : PySem.W.Frag} {mg : Str → Option Value} {base : Heap} (T : TopE K mg) : FnAtK P w K mg base (L2.CX P w) 8 (He.ga K "meeting_place") ["store", "letter", "slow", "fast", "lead"] (spMP K) := by
  refine fnAtXK (k := 7) T.f_meeting_place sc_meeting_place len5 (fun _ _ _ _ _ _ us hl => match us, hl with | [_, _, _, _, _], _ => rfl) (fun _ _ _ _ _ _ us hl => match us, hl with | [_, _, _, _, _], _ => rfl) (fun cdv A outer s H vs Q E hr h => ?_)
  have hu := hu_of hr
  obtain ⟨v_store, v_letter, v_slow, v_fast, v_lead, rfl, h⟩ := h
  refine ⟨_, (pss_cons (ps_set (i := 5) sc_meeting_place.nd rfl (Or.inl rfl) (pe_f (ok_tail_and_ring T) (hr.mono (by decide)) T.g_tail_and_ring (passes_call (takes_of rfl rfl rfl rfl) (fun _ _ _ _ z => z)) (pa_cons (pv 0) (pa_cons (pv 1) pa_nil))))
    (pss_cons (ps_expr (pe_f (ok_check_paces T) (hr.mono (by decide)) T.g_check_paces (passes_call (takes_of rfl rfl rfl rfl) (fun _ _ _ _ z => z)) (pa_cons (pv 2) (pa_cons (pv 3) (pa_cons (pv 4) (pa_cons (pe_gi T.i_FAR) pa_nil))))))
    (pss_cons (ps_set (i := 6) sc_meeting_place.nd rfl (Or.inl rfl) (pe_ifExp (pt_cmpR op_isN (pv 5) pe_non (nomark _)) pe_non (pe_f (ok_first_turn T) (hr.mono (by decide)) T.g_first_turn pass0 (pa_cons (pe_ix ix_tup (pv 5) pe_int (fun _ _ => rfl)) (pa_cons (pe_ix ix_tup (pv 5) pe_int (fun _ _ => rfl)) (pa_cons (pv 2) (pa_cons (pe_op op_sub (pv 3) (pv 2)) (pa_cons (pv 4) pa_nil))))))))
    (pss_cons (ps_if (pt_cmpR op_isN (pv 6) pe_non (nomark _)) (pss_one (ps_ret pe_non)) pss_nil)
    (pss_one (ps_ret (pe_ix ix_tup (pe_ix ix_tup (pe_f (ok_walked T) (hr.mono (by decide)) T.g_walked pass0 (pa_cons (pv 0) (pa_cons (pe_mt (pv 0) T.c_Store T.m_Store_at (ok_Store_at T) (hr.mono (by decide)) (passes_call (takes_of rfl rfl rfl rfl) (fun _ _ _ _ z => z)) (pa_cons (pv 1) pa_nil)) pa_nil))) pe_int (fun _ _ => rfl)) (pe_f (ok_stop_after T) (hr.mono (by decide)) T.g_stop_after pass0 (pa_cons (pe_ix ix_tup (pv 5) pe_int (fun _ _ => rfl)) (pa_cons (pe_ix ix_tup (pv 5) pe_int (fun _ _ => rfl)) (pa_cons (pe_op op_mul (pv 2) (pv 6)) pa_nil)))) (fun _ _ => rfl)))))))), ?_⟩
  refine ⟨_, rfl, _, rfl, _, _, rfl, ?_⟩
  rcases h with k | ⟨p, px, py, cl, rfl, st, hg, hf, k1, k2⟩
  · exact .inl k
  refine .inr ⟨p, px, py, cl, rfl, st, hg, hf, fun i hi => ?_, k2⟩
  obtain ⟨few, k⟩ := k1 i hi
  intro tv H1 s1 htv
  refine ⟨_, rfl, _, rfl, _, rfl, _, _, _, _, rfl, rfl, k.mono s1 fun si fi li es ef el => ?_⟩
  rintro ⟨a, g, e, rfl, rfl, rfl, ha, hgn, he, h⟩
  subst es ef el
  refine ⟨_, rfl, rfl, _, rfl, ?_⟩
  cases ht : tarO cl i with
  | none =>
    rw [ht] at htv
    rw [mpV_none ht] at h
    cases htv
    exact iteT ⟨_, rfl, rfl, _, rfl, iteT (h _ s1)⟩
  | some tr =>
    obtain ⟨t, r⟩ := tr
    rw [ht] at htv
    rw [mpV_some ht] at h
    obtain ⟨q, rfl, hq⟩ := htv
    obtain ⟨e1, e2, e3⟩ := tarO_le ht
    obtain ⟨o, hft, hfm, hpos⟩ := ft_ok (t := t) (r := r) (by omega) e2 ha hgn he
    rw [hfm] at h
    refine iteF ⟨_, rfl, q, _, 0, _, rfl, rfl, SqT.of hq, rfl, _, rfl, q, _, 1, _, rfl, rfl, SqT.of hq, rfl, _, rfl, _, rfl, _, rfl, _, _, rfl, rfl, _, rfl, _, _, _, _, _, rfl, _, _, _, _, _, o, rfl, rfl, rfl, rfl, rfl, by omega, ?_, fun H2 s2 => ?_⟩
    · have e5 : (a : Int) + (g : Int) - (a : Int) = (g : Int) := by omega
      rw [e5]
      exact hft
    have s12 := Same.trans s1 s2
    have hq2 := s2 _ _ hq
    refine ⟨_, rfl, rfl, _, rfl, ?_⟩
    cases o with
    | none => exact iteT (h _ s12)
    | some n =>
      obtain ⟨n1, n2⟩ := hpos n rfl
      have st2 := st.same s12
      obtain ⟨dx, tn, tc, dp, da, ob, _⟩ := st2.ob
      refine iteF ⟨_, rfl, _, rfl, p, dx, _, rfl, ob, stF_no_at _ _ _ _ _, _, rfl, _, _, rfl, p, px, py, cl, rfl, st2, hf, fun i' hi' => ?_, fun z => by rw [hi] at z; cases z⟩
      rw [hi] at hi'
      cases hi'
      refine ⟨_, _, rfl, p, px, py, cl, i, rfl, rfl, st2, by omega, fun H3 q3 t3 s3 hq3 ht3 => ?_⟩
      have hq4 := s3 _ _ hq2
      have hn : 0 ≤ (a : Int) * n := Int.mul_nonneg (by omega) (by omega)
      have hs := stp_lt (t := (t : Int)) (r := (r : Int)) (by omega) (by omega) hn
      refine ⟨q3, _, 0, _, rfl, rfl, SqT.of hq3, rfl, ?_⟩
      refine ⟨_, rfl, q, _, 0, _, rfl, rfl, SqT.of hq4, rfl, _, rfl, q, _, 1, _, rfl, rfl, SqT.of hq4, rfl, _, rfl, _, rfl, _, _, rfl, rfl, .inl ⟨by omega, by omega⟩, _, _, _, rfl, _, _, _, rfl, rfl, rfl, by omega, ?_⟩
      obtain ⟨j, hj⟩ : ∃ j : Nat, stp (t : Int) (r : Int) ((a : Int) * n) = (j : Int) := ⟨(stp t r (a * n)).toNat, by omega⟩
      have h : Q (.int ((trk cl i).1.getD (stp t r (a * n)).toNat 0)) H3 := h H3 (Same.trans s12 s3)
      rw [hj] at h ⊢
      have hjl : j < (trk cl i).1.length := by omega
      refine ⟨t3, _, (j : Int), _, rfl, rfl, ht3.sq, ?_, h⟩
      refine atI_nat ?_
      rw [List.getElem?_map, List.getElem?_eq_getElem hjl]
      show some (V.int _) = some (V.int _)
      rw [Int.toNat_natCast, List.getD_eq_getElem?_getD, List.getElem?_eq_getElem hjl]
      rfl
theorem ok_doubling_steps {P : Program} {w : World} {K : PySem.W.Frag} {mg : Str → Option Value} {base : Heap} (T : TopE K mg) : FnAt P w K mg base (L2.CX P w) 8 (He.ga K "doubling_steps") ["tail", "ring"] (spDoubling K) := (okK_doubling_steps T).at
theorem ok_track_of {P : Program} {w : World} {K : PySem.W.Frag} {mg : Str → Option Value} {base : Heap} (T : TopE K mg) : FnAt P w K mg base (L2.CX P w) 7 (He.ga K "track_of") ["store", "letter"] (spTar K) := (okK_track_of T).at
theorem ok_meeting_place {P : Program} {w : World} {K : PySem.W.Frag} {mg : Str → Option Value} {base : Heap} (T : TopE K mg) : FnAt P w K mg base (L2.CX P w) 8 (He.ga K "meeting_place") ["store", "letter", "slow", "fast", "lead"] (spMP K) := (okK_meeting_place T).at

end K66
end
section
set_option Elab.async false
set_option linter.all false
set_option maxRecDepth 100000
set_option maxHeartbeats 4000000
namespace K66
open PySem PySem.Spec PyProof.Rows L2
local macro_rules | `(tactic| walk_at "rd") => `(tactic| repeat (first | refine ⟨_, rfl, ?_⟩ | refine ⟨_, _, rfl, rfl, ?_⟩ | refine ⟨rfl, ?_⟩))
local macro_rules | `(tactic| walk_at "hp") => `(tactic| (first | assumption | solve_by_elim (maxDepth := 12)))
local macro_rules | `(tactic| walk_at "pl") => `(tactic| ((repeat (refine putF_lt ?_)); exact Nat.le_of_ble_eq_true rfl))
/-! ## reading the text: words -/
theorem hu65 {k : Nat} {A : Around} (hr : Room k A) : A.units + 65 < cLine := by have := hr.un; omega
def srcT : Str := "x = next x; y = next y; y = next y; while x != y { x = next x; y = next y; y = next y }"
def rawW : List Str := List.map Str.ofString ["x", "=", "next", "x;", "y", "=", "next", "y;", "y", "=", "next", "y;", "while", "x", "!=", "y", "{", "x", "=", "next", "x;", "y", "=", "next", "y;", "y", "=", "next", "y", "}"]
def WS : List Str := List.map Str.ofString ["x", "=", "next", "x", ";", "y", "=", "next", "y", ";", "y", "=", "next", "y", ";", "while", "x", "!=", "y", "{", "x", "=", "next", "x", ";", "y", "=", "next", "y", ";", "y", "=", "next", "y", "}"]
def wdF (v0 v1 : V) : List (Str × V) := [("words", v0), ("at", v1)]
theorem wdF_init (v0 v1 : V) : (putF "at" v1 (putF "words" v0 ([] : List (Str × V)))) = wdF v0 v1 := by kernel_rfl
theorem wdF_words (v0 v1 : V) : (wdF v0 v1).lookup ("words" : Str) = some v0 := by kernel_rfl
theorem wdF_put_words (v0 v1 : V) (u : V) : putF "words" u (wdF v0 v1) = wdF u v1 := by kernel_rfl
theorem wdF_at (v0 v1 : V) : (wdF v0 v1).lookup ("at" : Str) = some v1 := by kernel_rfl
theorem wdF_put_at (v0 v1 : V) (u : V) : putF "at" u (wdF v0 v1) = wdF v0 u := by kernel_rfl
theorem wdF_no_peek (v0 v1 : V) : (wdF v0 v1).lookup ("peek" : Str) = none := by kernel_rfl
theorem wdF_no_take (v0 v1 : V) : (wdF v0 v1).lookup ("take" : Str) = none := by kernel_rfl
theorem wdF_no_is_over (v0 v1 : V) : (wdF v0 v1).lookup ("is_over" : Str) = none := by kernel_rfl
/-- the reader stands at word k -/
def WordsAt (K : PySem.W.Frag) (H : Hp) (p : Addr) (k : Nat) : Prop := ∃ dx L, H p = some (.ins (He.ga K "Words") dx (wdF (.ref L) (.int (k : Nat)))) ∧ H L = some (.lst (WS.map V.str))
def wordAt (k : Nat) : Str := WS.getD k ""
theorem WordsAt.same {K : PySem.W.Frag} {H H' : Hp} {p : Addr} {k : Nat} (s : Same H H') (h : WordsAt K H p k) : WordsAt K H' p k := let ⟨dx, L, a, b⟩ := h; ⟨dx, L, s _ _ a, s _ _ b⟩
def spWordsInit (K : PySem.W.Frag) : Sp := sp2 fun self l H Q _ => ∃ p dx L, self = .ref p ∧ l = .ref L ∧ H p = some (.ins (He.ga K "Words") dx []) ∧ H L = some (.lst (WS.map V.str)) ∧ ∀ H', But p H H' → WordsAt K H' p 0 → Q .non H'
abbrev N_Words_init : List Str := ["self", "words"]
theorem sc_Words_init : FnScope N_Words_init ["self", "words"] (defScope s_Words_init) := ⟨rfl, rfl, rfl, by decide +kernel, rfl, by decide +kernel, by decide +kernel⟩
theorem ok_Words_init {P : Program} {w : World} {K : PySem.W.Frag} {mg : Str → Option Value} {base : Heap} (T : TopE K mg) : FnAt P w K mg base CX0 1 (He.ma K (He.ga K "Words") "__init__") ["self", "words"] (spWordsInit K) := by
  refine fnAt0 (k := 0) T.f_Words_init sc_Words_init len2 (fun _ _ _ _ _ _ us hl => match us, hl with | [_, _], _ => rfl) (fun cdv A outer s H vs Q E hr h => ?_)
  have hu := hu_of hr
  obtain ⟨v_self, v_words, rfl, h⟩ := h
  refine ⟨_, (pss_cons (ps_fld (pv 0) (pv 1) rfl)
    (pss_one (ps_fld (pv 0) pe_int rfl))), ?_⟩
  obtain ⟨p, dx, L, rfl, rfl, hp, hL, h⟩ := h
  refine ⟨_, rfl, _, rfl, _, _, _, _, rfl, hp, T.c_Words, T.n_Words_words, (by walk_at "pl"), ?_⟩
  generalize e_H1 : upd _ p _ = H1
  have b_H1 := but_upd e_H1
  have h_pH1 := at_of' e_H1
  refine ⟨_, rfl, _, _, _, _, rfl, h_pH1, T.c_Words, T.n_Words_at, (by walk_at "pl"), ?_⟩
  generalize e_H2 : upd _ p _ = H2
  have b_H2 := but_upd e_H2
  have h_pH2 := at_of' e_H2
  have h_pH2 : H2 p = some (.ins (He.ga K "Words") dx (wdF (.ref L) (.int 0))) := h_pH2.trans (by rw [wdF_init])
  exact h H2 (But.trans b_H1 b_H2) ⟨dx, L, h_pH2, but_ni b_H2 h_pH1 (but_ni b_H1 hp hL rfl) rfl⟩
def spPeek (K : PySem.W.Frag) : Sp := sp1 fun self H Q _ => ∃ p k, self = .ref p ∧ WordsAt K H p k ∧ Q (.str (wordAt k)) H
abbrev N_Words_peek : List Str := ["self"]
theorem sc_Words_peek : FnScope N_Words_peek ["self"] (defScope s_Words_peek) := ⟨rfl, rfl, rfl, by decide +kernel, rfl, by decide +kernel, by decide +kernel⟩
theorem ok_Words_peek {P : Program} {w : World} {K : PySem.W.Frag} {mg : Str → Option Value} {base : Heap} (T : TopE K mg) : FnAt P w K mg base CX0 1 (He.ma K (He.ga K "Words") "peek") ["self"] (spPeek K) := by
  refine fnAt0 (k := 0) T.f_Words_peek sc_Words_peek len1 (fun _ _ _ _ _ _ us hl => match us, hl with | [_], _ => rfl) (fun cdv A outer s H vs Q E hr h => ?_)
  have hu := hu_of hr
  obtain ⟨v_self, rfl, h⟩ := h
  refine ⟨_, (pss_one (ps_ret (pe_ifExp (pt_cmpR op_lt (pe_fld (pv 0) rfl) (pe_callB call_len_seq (by rfl) T.z_len (by decide +kernel) (pa_cons (pe_fld (pv 0) rfl) pa_nil)) (nomark _)) (pe_ix ix_list (pe_fld (pv 0) rfl) (pe_fld (pv 0) rfl) (fun _ _ => rfl)) pe_str))), ?_⟩
  obtain ⟨p, k, rfl, ⟨dx, L, hp, hL⟩, h⟩ := h
  refine ⟨_, rfl, _, _, _, _, _, rfl, hp, T.c_Words, T.n_Words_at, wdF_at _ _, _, rfl, _, _, _, _, _, rfl, hp, T.c_Words, T.n_Words_words, wdF_words _ _, L, _, rfl, .inl (SqL.of hL), _, _, rfl, rfl, _, rfl, ?_⟩
  rw [List.length_map]
  by_cases hk : k < WS.length
  · have e : wordAt k = WS[k] := by
      unfold wordAt
      rw [List.getD_eq_getElem?_getD, List.getElem?_eq_getElem hk]
      rfl
    have at1 : atI (WS.map V.str) ((k : Nat) : Int) = some (.str WS[k]) := atI_nat (by rw [List.getElem?_map, List.getElem?_eq_getElem hk]; rfl)
    rw [e] at h
    exact iteE (decide_eq_true (by omega)) ⟨_, rfl, _, _, _, _, _, rfl, hp, T.c_Words, T.n_Words_words, wdF_words _ _, _, rfl, _, _, _, _, _, rfl, hp, T.c_Words, T.n_Words_at, wdF_at _ _, L, _, ((k : Nat) : Int), _, rfl, rfl, SqL.of hL, at1, h⟩
  · refine iteO (decide_eq_false (by omega)) ?_
    have e : wordAt k = "" := by
      unfold wordAt
      rw [List.getD_eq_getElem?_getD, List.getElem?_eq_none (by omega)]
      rfl
    rw [e] at h
    exact h
def spTake (K : PySem.W.Frag) : Sp := sp1 fun self H Q _ => ∃ p k, self = .ref p ∧ WordsAt K H p k ∧ ∀ H', But p H H' → WordsAt K H' p (k + 1) → Q (.str (wordAt k)) H'
abbrev N_Words_take : List Str := ["self", "word"]
theorem sc_Words_take : FnScope N_Words_take ["self"] (defScope s_Words_take) := ⟨rfl, rfl, rfl, by decide +kernel, rfl, by decide +kernel, by decide +kernel⟩
theorem ok_Words_take {P : Program} {w : World} {K : PySem.W.Frag} {mg : Str → Option Value} {base : Heap} (T : TopE K mg) : FnAt P w K mg base CX0 2 (He.ma K (He.ga K "Words") "take") ["self"] (spTake K) := by
  refine fnAt0 (k := 1) T.f_Words_take sc_Words_take len1 (fun _ _ _ _ _ _ us hl => match us, hl with | [_], _ => rfl) (fun cdv A outer s H vs Q E hr h => ?_)
  have hu := hu_of hr
  obtain ⟨v_self, rfl, h⟩ := h
  refine ⟨_, (pss_cons (ps_set (i := 1) sc_Words_take.nd rfl (Or.inl rfl) (pe_mt0 (pv 0) T.c_Words T.m_Words_peek (ok_Words_peek T) (hr.mono (by decide)) pass0))
    (pss_cons (ps_fld (pv 0) (pe_op op_add (pe_fld (pv 0) rfl) pe_int) rfl)
    (pss_one (ps_ret (pv 1))))), ?_⟩
  obtain ⟨p, k, rfl, wa, h⟩ := h
  obtain ⟨dx, L, hp, hL⟩ := id wa
  refine ⟨_, rfl, p, dx, _, rfl, hp, wdF_no_peek _ _, _, rfl, p, k, rfl, wa, ?_⟩
  refine ⟨_, rfl, _, _, _, _, _, rfl, hp, T.c_Words, T.n_Words_at, wdF_at _ _, _, _, rfl, rfl, _, rfl, _, _, _, _, rfl, hp, T.c_Words, T.n_Words_at, (by walk_at "pl"), ?_⟩
  rw [wdF_put_at]
  generalize e_H1 : upd _ p _ = H1
  have b_H1 := but_upd e_H1
  have h_pH1 := at_of' e_H1
  exact ⟨_, rfl, h H1 b_H1 ⟨dx, L, h_pH1, but_ni b_H1 hp hL rfl⟩⟩
def spIsOver (K : PySem.W.Frag) : Sp := sp1 fun self H Q _ => ∃ p, self = .ref p ∧ WordsAt K H p 35 ∧ Q (.bl true) H
abbrev N_Words_is_over : List Str := ["self"]
theorem sc_Words_is_over : FnScope N_Words_is_over ["self"] (defScope s_Words_is_over) := ⟨rfl, rfl, rfl, by decide +kernel, rfl, by decide +kernel, by decide +kernel⟩
theorem ok_Words_is_over {P : Program} {w : World} {K : PySem.W.Frag} {mg : Str → Option Value} {base : Heap} (T : TopE K mg) : FnAt P w K mg base CX0 1 (He.ma K (He.ga K "Words") "is_over") ["self"] (spIsOver K) := by
  refine fnAt0 (k := 0) T.f_Words_is_over sc_Words_is_over len1 (fun _ _ _ _ _ _ us hl => match us, hl with | [_], _ => rfl) (fun cdv A outer s H vs Q E hr h => ?_)
  have hu := hu_of hr
  obtain ⟨v_self, rfl, h⟩ := h
  refine ⟨_, (pss_one (ps_ret (pe_cmpR op_ge (pe_fld (pv 0) rfl) (pe_callB call_len_seq (by rfl) T.z_len (by decide +kernel) (pa_cons (pe_fld (pv 0) rfl) pa_nil)) (nomark _)))), ?_⟩
  obtain ⟨p, rfl, ⟨dx, L, hp, hL⟩, h⟩ := h
  exact ⟨_, rfl, _, _, _, _, _, rfl, hp, T.c_Words, T.n_Words_at, wdF_at _ _, _, rfl, _, _, _, _, _, rfl, hp, T.c_Words, T.n_Words_words, wdF_words _ _, L, _, rfl, .inl (SqL.of hL), _, _, rfl, rfl, h⟩
/-! ## split_words -/
def pw (w : Str) : List Str := if Txt.endswith w ";" then [cutS w none (some (-1)), ";"] else [w]
theorem raw_split : Txt.split srcT " " = rawW := by decide +kernel
theorem raw_WS : rawW.flatMap pw = WS := by decide +kernel
theorem raw_ok : (rawW.all fun w => decide (w ≠ "") && decide (w ≠ ";") && decide (w.length ≤ 1000)) = true := by decide +kernel
def spSplit : Sp := sp1 fun t H Q _ => t = .str srcT ∧ ∀ H' L, Same H H' → H' L = some (.lst (WS.map V.str)) → Q (.ref L) H'
abbrev N_split_words : List Str := ["text", "found", "word"]
theorem sc_split_words : FnScope N_split_words ["text"] (defScope s_split_words) := ⟨rfl, rfl, rfl, by decide +kernel, rfl, by decide +kernel, by decide +kernel⟩
theorem ok_split_words {P : Program} {w : World} {K : PySem.W.Frag} {mg : Str → Option Value} {base : Heap} (T : TopE K mg) : FnAt P w K mg base CX0 1 (He.ga K "split_words") ["text"] spSplit := by
  refine fnAt0 (k := 0) T.f_split_words sc_split_words len1 (fun _ _ _ _ _ _ us hl => match us, hl with | [_], _ => rfl) (fun cdv A outer s H vs Q E hr h => ?_)
  have hu := hu_of hr
  obtain ⟨v_text, rfl, h⟩ := h
  refine ⟨_, (pss_cons (ps_set (i := 1) sc_split_words.nd rfl (Or.inl rfl) (pe_lst pa_nil))
    (pss_cons (ps_for PassesOwn.never rfl (pi_list (pe_split (pv 0) pe_str)) (pg_name (i := 2) sc_split_words.nd rfl (Or.inl rfl)) (pss_cons (ps_if (PW.pt (pw_or (pt_cmpR op_eq (pv 2) pe_str (nomark _)) (pw_or1 (pt_cmpR op_eq (pv 2) pe_str (nomark _))))) pss_never pss_nil)
    (pss_one (ps_if (pt_val (pe_m1 PySem.F.slot_str_endswith PySem.F.type_str_endswith mt_endswith (pv 2) pe_str)) (pss_one (ps_expr (pe_bm PySem.F.plainAttrs_list PySem.F.slot_list_extend PySem.F.type_list_extend mt_extend (pv 1) (pa_cons (pe_lst (pa_cons (pe_slice sl_str (pv 2) po_none (po_some (pe_un un_neg pe_int))) (pa_cons pe_str pa_nil))) pa_nil)))) (pss_one (ps_expr (pe_bm PySem.F.plainAttrs_list PySem.F.slot_list_append PySem.F.type_list_append mt_append (pv 1) (pa_cons (pv 2) pa_nil))))))))
    (pss_one (ps_ret (pv 1))))), ?_⟩
  obtain ⟨rfl, h⟩ := h
  refine ⟨sz1000 (by decide), fun L nL => ?_⟩
  generalize e1 : upd H L _ = H1
  have s1 := same_of e1 nL
  have hL1 := at_of' e1
  refine ⟨_, rfl, ⟨_, rfl⟩, _, _, rfl, rfl, by decide, by decide +kernel, fun S nS => ?_⟩
  rw [raw_split]
  generalize e2 : upd H1 S _ = H2
  have s2 := same_of e2 nS
  have hS2 := at_of' e2
  have SL : S ≠ L := fun e => by rw [e, hL1] at nS; cases nS
  refine ⟨S, rfl, ⟨_, SqL.of hS2⟩, for_list (xs := rawW.map V.str) (fun i σ H' => (∃ v, σ = [some (.str srcT), some (.ref L), v]) ∧ Same H H' ∧ H' S = some (.lst (rawW.map V.str)) ∧ H' L = some (.lst (((rawW.take i).flatMap pw).map V.str)))
    ⟨⟨_, rfl⟩, Same.trans s1 s2, hS2, s2 _ _ hL1⟩ (fun i σ H' _ q => SqL.of q.2.2.1) ?_ ?_⟩
  · rintro i x σ H' hx ⟨⟨v, rfl⟩, sm, hS, hL⟩
    rw [List.getElem?_map] at hx
    obtain ⟨w', hw, e⟩ := Option.map_eq_some_iff.mp hx
    subst e
    have ok := List.all_eq_true.mp raw_ok w' (List.mem_of_getElem? hw)
    rw [Bool.and_eq_true, Bool.and_eq_true] at ok
    have nxt1 : (rawW.take (i + 1)).flatMap pw = (rawW.take i).flatMap pw ++ pw w' := by
      rw [List.take_succ, hw, List.flatMap_append]
      simp
    have fewW : ((rawW.take i).flatMap pw).length ≤ 900 := by
      have h1 : ∀ (l : List Str), (l.flatMap pw).length ≤ 2 * l.length := fun l => by
        induction l with
        | nil => exact Nat.zero_le _
        | cons a r ih =>
          rw [List.flatMap_cons, List.length_append, List.length_cons]
          have : (pw a).length ≤ 2 := by
            unfold pw
            split
            · exact Nat.le_refl 2
            · exact Nat.le_succ 1
          omega
      have h2 := h1 (rawW.take i)
      have h3 : (rawW.take i).length ≤ rawW.length := by rw [List.length_take]; exact Nat.min_le_right _ _
      have h4 : rawW.length = 30 := by decide +kernel
      omega
    refine ⟨_, rfl, rfl, _, rfl, iteO ?_ ⟨_, rfl, rfl, _, rfl, iteO ?_ ?_⟩⟩
    · rw [dS, decide_eq_false (of_decide_eq_true ok.1.1)]
    · rw [dS, decide_eq_false (of_decide_eq_true ok.1.2)]
    refine ⟨_, rfl, ⟨_, rfl⟩, _, _, rfl, rfl, _, rfl, ?_⟩
    cases he : Txt.endswith w' ";" with
    | true =>
      have ep : pw w' = [cutS w' none (some (-1)), ";"] := by unfold pw; rw [if_pos he]
      rw [ep] at nxt1
      refine iteT ⟨_, rfl, .inl ⟨rfl, _, SqL.of hL⟩, _, rfl, _, rfl, _, rfl, _, rfl, sz1000 (of_decide_eq_true ok.2), sz1000 (Nat.le_of_ble_eq_true rfl), fun M nM => ?_⟩
      generalize e3 : upd H' M _ = H3
      have s3 := same_of e3 nM
      have hM3 := at_of' e3
      have hL3 := s3 _ _ hL
      refine ⟨L, M, _, _, rfl, rfl, hL3, hM3, by rw [List.length_map]; exact sz1000 (by show _ + 2 ≤ 1000; omega), ?_⟩
      have SL' : S ≠ L := SL
      generalize e4 : upd H3 L _ = H4
      have b4 := but_upd e4
      refine ⟨⟨_, rfl⟩, fun b u hb => b4 b u (ne_of_none hb nL) (s3 _ _ (sm b u hb)), b4 S _ SL (s3 _ _ hS), ?_⟩
      rw [at_of' e4, nxt1, List.map_append]
      rfl
    | false =>
      have ep : pw w' = [w'] := by unfold pw; rw [if_neg (by rw [he]; exact Bool.false_ne_true)]
      rw [ep] at nxt1
      refine iteF ⟨_, rfl, .inl ⟨rfl, _, SqL.of hL⟩, _, rfl, L, _, _, rfl, rfl, hL, by rw [List.length_map]; exact szn (by omega), ?_⟩
      generalize e4 : upd H' L _ = H4
      have b4 := but_upd e4
      refine ⟨⟨_, rfl⟩, fun b u hb => b4 b u (ne_of_none hb nL) (sm b u hb), b4 S _ SL hS, ?_⟩
      rw [at_of' e4, nxt1, List.map_append]
      rfl
  · rintro σ H' ⟨⟨v, rfl⟩, sm, hS, hL⟩
    refine ⟨_, rfl, h _ _ sm ?_⟩
    have e : (rawW.map V.str).length = rawW.length := List.length_map _
    rw [e, List.take_length, raw_WS] at hL
    exact hL

end K66
end
section
set_option Elab.async false
set_option linter.all false
set_option maxRecDepth 100000
set_option maxHeartbeats 4000000
namespace K66
open PySem PySem.Spec PyProof.Rows L2
local macro_rules | `(tactic| walk_at "rd") => `(tactic| repeat (first | refine ⟨_, rfl, ?_⟩ | refine ⟨_, _, rfl, rfl, ?_⟩ | refine ⟨rfl, ?_⟩))
local macro_rules | `(tactic| walk_at "hp") => `(tactic| (first | assumption | solve_by_elim (maxDepth := 12)))
local macro_rules | `(tactic| walk_at "pl") => `(tactic| ((repeat (refine putF_lt ?_)); exact Nat.le_of_ble_eq_true rfl))
/-! ## reading the text: the tree -/
def isT : HO → Bool
  | .tup _ => true
  | .frz _ _ => true
  | _ => false
/-- tuples are kept -/
def Kp (H H' : Hp) : Prop := ∀ a o, H a = some o → isT o = true → H' a = some o
theorem Kp.refl (H : Hp) : Kp H H := fun _ _ h _ => h
theorem Kp.trans {H H1 H2 : Hp} (x : Kp H H1) (y : Kp H1 H2) : Kp H H2 := fun a o h i => y a o (x a o h i) i
theorem Same.kp {H H' : Hp} (s : Same H H') : Kp H H' := fun a o h _ => s a o h
theorem But.kp {p : Addr} {H H' : Hp} {o : HO} (b : But p H H') (hp : H p = some o) (hi : isT o = false) : Kp H H' := fun a u h i => b a u (fun e => by subst e; rw [hp] at h; cases h; rw [hi] at i; cases i) h
theorem But.new {p L : Addr} {H0 H1 H2 : Hp} (x : But p H0 H1) (y : But L H1 H2) (n : H0 L = none) : But p H0 H2 := fun a o e h => y a o (ne_of_none h n) (x a o e h)
theorem But.sm {p : Addr} {H0 H1 H2 : Hp} (x : But p H0 H1) (y : Same H1 H2) : But p H0 H2 := fun a o e h => y a o (x a o e h)
def CmpT (H : Hp) (c : Addr) : Prop := H c = some (.tup [.str "!=", .str "x", .str "y"])
def TestT (H : Hp) (t : Addr) : Prop := ∃ (cs c : Addr) (o : Obj), H t = some (.tup [.str "and", .ref cs]) ∧ H cs = some (.frz o (.tup [.ref c])) ∧ CmpT H c
def NextT (H : Hp) (a : Str) (q : Addr) : Prop := H q = some (.tup [.str "next", .str a, .str a])
def BodyT (H : Hp) (b : Addr) : Prop := ∃ (o : Obj) (q1 q2 q3 : Addr), H b = some (.frz o (.tup [.ref q1, .ref q2, .ref q3])) ∧ NextT H "x" q1 ∧ NextT H "y" q2 ∧ NextT H "y" q3
def LoopT (H : Hp) (l : Addr) : Prop := ∃ t b, H l = some (.tup [.str "while", .ref t, .ref b]) ∧ TestT H t ∧ BodyT H b
def TreeT (H : Hp) (r : Addr) : Prop := ∃ (o : Obj) (q1 q2 q3 l : Addr), H r = some (.frz o (.tup [.ref q1, .ref q2, .ref q3, .ref l])) ∧ NextT H "x" q1 ∧ NextT H "y" q2 ∧ NextT H "y" q3 ∧ LoopT H l
section
variable {H H' : Hp} {a : Addr} {z : Str}
theorem CmpT.kp (k : Kp H H') (h : CmpT H a) : CmpT H' a := k _ _ h rfl
theorem TestT.kp (k : Kp H H') (h : TestT H a) : TestT H' a := let ⟨cs, c, o, x, y, w⟩ := h; ⟨cs, c, o, k _ _ x rfl, k _ _ y rfl, w.kp k⟩
theorem NextT.kp (k : Kp H H') (h : NextT H z a) : NextT H' z a := k _ _ h rfl
theorem BodyT.kp (k : Kp H H') (h : BodyT H a) : BodyT H' a := let ⟨o, q1, q2, q3, x, y, w, v⟩ := h; ⟨o, q1, q2, q3, k _ _ x rfl, y.kp k, w.kp k, v.kp k⟩
theorem LoopT.kp (k : Kp H H') (h : LoopT H a) : LoopT H' a := let ⟨t, b, x, y, w⟩ := h; ⟨t, b, k _ _ x rfl, y.kp k, w.kp k⟩
theorem TreeT.kp (k : Kp H H') (h : TreeT H a) : TreeT H' a := let ⟨o, q1, q2, q3, l, x, y, w, v, u⟩ := h; ⟨o, q1, q2, q3, l, k _ _ x rfl, y.kp k, w.kp k, v.kp k, u.kp k⟩
end
theorem WordsAt.kpo {K : PySem.W.Frag} {H : Hp} {p : Addr} {k : Nat} (h : WordsAt K H p k) : ∃ o, H p = some o ∧ isT o = false := let ⟨dx, L, a, _⟩ := h; ⟨_, a, rfl⟩
def spGoal : Sp := sp1 fun v H Q _ => ∃ z : Str, v = .str z ∧ fl v = true ∧ letter v = true ∧ Q (.bl true) H
abbrev N_is_goal : List Str := ["value"]
theorem sc_is_goal : FnScope N_is_goal ["value"] (defScope s_is_goal) := ⟨rfl, rfl, rfl, by decide +kernel, rfl, by decide +kernel, by decide +kernel⟩
theorem ok_is_goal {P : Program} {w : World} {K : PySem.W.Frag} {mg : Str → Option Value} {base : Heap} (T : TopE K mg) : FnAt P w K mg base CX0 2 (He.ga K "is_goal") ["value"] spGoal := by
  refine fnAt0 (k := 1) T.f_is_goal sc_is_goal len1 (fun _ _ _ _ _ _ us hl => match us, hl with | [_], _ => rfl) (fun cdv A outer s H vs Q E hr h => ?_)
  have hu := hu_of hr
  obtain ⟨v_value, rfl, h⟩ := h
  refine ⟨_, (pss_one (ps_ret (pe_or (pe_f (ok_is_letter T) (hr.mono (by decide)) T.g_is_letter pass0 (pa_cons (pv 0) pa_nil)) (pe_one pe_never)))), ?_⟩
  obtain ⟨z, rfl, hf, hl, h⟩ := h
  refine ⟨_, rfl, _, rfl, hf, _, rfl, ?_⟩
  rw [hl]
  exact h
def spCmp (K : PySem.W.Frag) : Sp := sp1 fun ws H Q _ => ∃ p, ws = .ref p ∧ WordsAt K H p 16 ∧ ∀ H' c, But p H H' → WordsAt K H' p 19 → CmpT H' c → Q (.ref c) H'
abbrev N_read_comparison : List Str := ["words", "one", "sign", "other"]
theorem sc_read_comparison : FnScope N_read_comparison ["words"] (defScope s_read_comparison) := ⟨rfl, rfl, rfl, by decide +kernel, rfl, by decide +kernel, by decide +kernel⟩
theorem ok_read_comparison {P : Program} {w : World} {K : PySem.W.Frag} {mg : Str → Option Value} {base : Heap} (T : TopE K mg) : FnAt P w K mg base CX0 4 (He.ga K "read_comparison") ["words"] (spCmp K) := by
  refine fnAt0 (k := 3) T.f_read_comparison sc_read_comparison len1 (fun _ _ _ _ _ _ us hl => match us, hl with | [_], _ => rfl) (fun cdv A outer s H vs Q E hr h => ?_)
  have hu := hu_of hr
  obtain ⟨v_words, rfl, h⟩ := h
  refine ⟨_, (pss_cons (ps_par3 (i := 1) (j := 2) (l := 3) rfl sc_read_comparison.nd rfl rfl rfl (by decide) (by decide) (by decide) rfl rfl rfl (pa_cons (pe_mt0 (pv 0) T.c_Words T.m_Words_take (ok_Words_take T) (hr.mono (by decide)) pass0) (pa_cons (pe_mt0 (pv 0) T.c_Words T.m_Words_take (ok_Words_take T) (hr.mono (by decide)) pass0) (pa_cons (pe_mt0 (pv 0) T.c_Words T.m_Words_take (ok_Words_take T) (hr.mono (by decide)) pass0) pa_nil))) (by rfl))
    (pss_cons (ps_if (PW.pt (pw_and (pt_val (pe_f (ok_is_letter T) (hr.mono (by decide)) T.g_is_letter pass0 (pa_cons (pv 1) pa_nil))) (pw_and (pt_cmpR op_in_seq (pv 2) (pe_tup (pa_cons pe_str (pa_cons pe_str pa_nil))) rfl) (pw_and1 (pt_val (pe_f (ok_is_goal T) (hr.mono (by decide)) T.g_is_goal pass0 (pa_cons (pv 3) pa_nil))))))) (pss_one (ps_ret (pe_tup (pa_cons (pv 2) (pa_cons (pv 1) (pa_cons (pv 3) pa_nil)))))) pss_nil)
    pss_never)), ?_⟩
  obtain ⟨p, rfl, wa, h⟩ := h
  obtain ⟨dx, L, hp, _⟩ := id wa
  refine ⟨_, rfl, p, dx, _, rfl, hp, wdF_no_take _ _, _, rfl, p, 16, rfl, wa, fun H1 b1 wa1 => ?_⟩
  obtain ⟨dx1, L1, hp1, _⟩ := id wa1
  refine ⟨_, rfl, p, dx1, _, rfl, hp1, wdF_no_take _ _, _, rfl, p, 17, rfl, wa1, fun H2 b2 wa2 => ?_⟩
  obtain ⟨dx2, L2, hp2, _⟩ := id wa2
  refine ⟨_, rfl, p, dx2, _, rfl, hp2, wdF_no_take _ _, _, rfl, p, 18, rfl, wa2, fun H3 b3 wa3 => ?_⟩
  refine ⟨_, _, _, rfl, ?_⟩
  refine ⟨_, rfl, _, rfl, rfl, _, rfl, iteE (by decide +kernel) ⟨_, rfl, sz1000 (Nat.le_of_ble_eq_true rfl), fun t nt => ?_⟩⟩
  generalize e4 : upd H3 t _ = H4
  have s4 := same_of e4 nt
  refine ⟨t, _, rfl, .inr (SqT.of (at_of' e4)), rfl, rfl, _, rfl, iteE (by decide +kernel) ⟨_, rfl, _, rfl, _, rfl, rfl, by decide +kernel, _, rfl, ?_⟩⟩
  refine iteT ⟨_, rfl, _, rfl, _, rfl, sz1000 (Nat.le_of_ble_eq_true rfl), fun c nc => ?_⟩
  generalize e5 : upd H4 c _ = H5
  have s5 := same_of e5 nc
  exact h H5 c ((But.trans b1 b2).trans b3 |>.sm s4 |>.sm s5) ((wa3.same s4).same s5) (at_of' e5)
theorem dp_cmp {K : PySem.W.Frag} {H : Hp} {c : Addr} (h : CmpT H c) : Dp K H (.ref c) (.tuple [.str "!=", .str "x", .str "y"]) := .tup (SqT.of h) (.cons (.str _) (.cons (.str _) (.cons (.str _) .nil)))
def spTest (K : PySem.W.Frag) : Sp := sp1 fun ws H Q _ => ∃ p, ws = .ref p ∧ WordsAt K H p 16 ∧ ∀ H' t, But p H H' → WordsAt K H' p 19 → TestT H' t → Q (.ref t) H'
abbrev N_read_test : List Str := ["words", "first", "joint", "found", "word"]
theorem sc_read_test : FnScope N_read_test ["words"] (defScope s_read_test) := ⟨rfl, rfl, rfl, by decide +kernel, rfl, by decide +kernel, by decide +kernel⟩
theorem ok_read_test {P : Program} {w : World} {K : PySem.W.Frag} {mg : Str → Option Value} {base : Heap} (T : TopE K mg) : FnAt P w K mg base CX0 5 (He.ga K "read_test") ["words"] (spTest K) := by
  refine fnAt0 (k := 4) T.f_read_test sc_read_test len1 (fun _ _ _ _ _ _ us hl => match us, hl with | [_], _ => rfl) (fun cdv A outer s H vs Q E hr h => ?_)
  have hu := hu_of hr
  obtain ⟨v_words, rfl, h⟩ := h
  refine ⟨_, (pss_cons (ps_par (i := 1) (j := 2) rfl sc_read_test.nd rfl rfl (by decide) rfl rfl (pa_cons (pe_f (ok_read_comparison T) (hr.mono (by decide)) T.g_read_comparison pass0 (pa_cons (pv 0) pa_nil)) (pa_cons pe_str pa_nil)) (by rfl))
    (pss_cons (ps_set (i := 3) sc_read_test.nd rfl (Or.inl rfl) (pe_lst (pa_cons (pv 1) pa_nil)))
    (pss_cons (ps_while PassesOwn.never (pt_cmpR op_in_seq (pe_mt0 (pv 0) T.c_Words T.m_Words_peek (ok_Words_peek T) (hr.mono (by decide)) pass0) (pe_tup (pa_cons pe_str (pa_cons pe_str pa_nil))) rfl) pss_never)
    (pss_cons (ps_if (PW.pt (pw_or (pt_cmpR (op_inD (hu65 hr)) pe_non (pv 3) rfl) (pw_or1 (pt_cmpR op_gt (pe_callB call_len_seq (by rfl) T.z_len (by decide +kernel) (pa_cons (pv 3) pa_nil)) (pe_gi T.i_MOST_COMPARISONS) (nomark _))))) pss_never pss_nil)
    (pss_one (ps_ret (pe_tup (pa_cons (pe_ifExp (pt_cmpR op_ne (pv 2) pe_str (nomark _)) (pv 2) pe_str) (pa_cons (pe_callTy call_tuple_frz (by rfl) T.z_tuple (by decide +kernel) (pa_cons (pv 3) pa_nil)) pa_nil))))))))), ?_⟩
  obtain ⟨p, rfl, wa, h⟩ := h
  refine ⟨_, rfl, _, rfl, p, rfl, wa, fun H1 c b1 wa1 hc1 => ?_⟩
  refine ⟨_, _, rfl, _, rfl, sz1000 (Nat.le_of_ble_eq_true rfl), fun F nF => ?_⟩
  generalize e2 : upd H1 F _ = H2
  have s2 := same_of e2 nF
  have hF2 := at_of' e2
  have wa2 := wa1.same s2
  obtain ⟨dx2, L2', hp2, _⟩ := id wa2
  refine ⟨fun m σ H' => σ = [some (.ref p), some (.ref c), some (.str ""), some (.ref F), none] ∧ H' = H2, ⟨0, rfl, rfl⟩, ?_⟩
  rintro m σ H' ⟨rfl, rfl⟩
  refine ⟨_, rfl, p, dx2, _, rfl, hp2, wdF_no_peek _ _, _, rfl, p, 19, rfl, wa2, sz1000 (Nat.le_of_ble_eq_true rfl), fun t nt => ?_⟩
  generalize e3 : upd H' t _ = H3
  have s3 := same_of e3 nt
  refine ⟨t, _, rfl, .inr (SqT.of (at_of' e3)), rfl, rfl, _, rfl, iteO (by decide +kernel) ?_⟩
  have hF3 := s3 _ _ hF2
  have hc3 := s3 _ _ (s2 _ _ hc1)
  refine ⟨_, rfl, .none, [.tuple [.str "!=", .str "x", .str "y"]], .non, .lst (SqL.of hF3) (.cons (dp_cmp hc3) .nil), rfl, by decide +kernel, _, rfl, iteO (by decide +kernel) ?_⟩
  refine ⟨_, rfl, F, _, rfl, .inl (SqL.of hF3), _, _, rfl, rfl, _, rfl, iteF ?_⟩
  refine ⟨_, rfl, rfl, _, rfl, iteO (by decide +kernel) ⟨_, rfl, F, _, rfl, SqL.of hF3, fun cs o ncs od => ?_⟩⟩
  generalize e4 : upd H3 cs _ = H4
  have s4 := same_of e4 ncs
  refine ⟨sz1000 (Nat.le_of_ble_eq_true rfl), fun tt ntt => ?_⟩
  generalize e5 : upd H4 tt _ = H5
  have s5 := same_of e5 ntt
  exact h H5 tt (b1.sm s2 |>.sm s3 |>.sm s4 |>.sm s5) (((wa2.same s3).same s4).same s5) ⟨cs, c, o, at_of' e5, s5 _ _ (at_of' e4), s5 _ _ (s4 _ _ hc3)⟩
def isNx (k : Nat) (a : Str) : Bool := decide (wordAt k = a) && decide (wordAt (k + 1) = "=") && decide (wordAt (k + 2) = "next") && decide (wordAt (k + 3) = a) && (decide (a = "x") || decide (a = "y"))
theorem isNx_of {k : Nat} {a : Str} (h : isNx k a = true) : wordAt k = a ∧ wordAt (k + 1) = "=" ∧ wordAt (k + 2) = "next" ∧ wordAt (k + 3) = a ∧ (a = "x" ∨ a = "y") := by
  unfold isNx at h
  rw [Bool.and_eq_true, Bool.and_eq_true, Bool.and_eq_true, Bool.and_eq_true, Bool.or_eq_true] at h
  obtain ⟨⟨⟨⟨h1, h2⟩, h3⟩, h4⟩, h5⟩ := h
  exact ⟨of_decide_eq_true h1, of_decide_eq_true h2, of_decide_eq_true h3, of_decide_eq_true h4, h5.elim (fun z => .inl (of_decide_eq_true z)) fun z => .inr (of_decide_eq_true z)⟩
theorem xy_ok {a : Str} (h : a = "x" ∨ a = "y") : letter (.str a) = true ∧ a ≠ "next" ∧ fl (.str a) = true ∧ a ≠ "none" ∧ inV (.str a) [.str "if", .str "while", .str "drop"] = false := by
  rcases h with rfl | rfl
  · exact ⟨letter_x, by decide, rfl, by decide, by decide +kernel⟩
  · exact ⟨letter_y, by decide, rfl, by decide, by decide +kernel⟩
def spNx (K : PySem.W.Frag) (p : Addr) (H : Hp) (Q : VK) : Prop := ∃ k a, WordsAt K H p k ∧ isNx k a = true ∧ ∀ H' q, But p H H' → WordsAt K H' p (k + 4) → NextT H' a q → Q (.ref q) H'
def spNextTie (K : PySem.W.Frag) : Sp := sp1 fun ws H Q _ => ∃ p, ws = .ref p ∧ spNx K p H Q
abbrev N_read_next_or_tie : List Str := ["words", "one", "sign", "other"]
theorem sc_read_next_or_tie : FnScope N_read_next_or_tie ["words"] (defScope s_read_next_or_tie) := ⟨rfl, rfl, rfl, by decide +kernel, rfl, by decide +kernel, by decide +kernel⟩
theorem ok_read_next_or_tie {P : Program} {w : World} {K : PySem.W.Frag} {mg : Str → Option Value} {base : Heap} (T : TopE K mg) : FnAt P w K mg base CX0 4 (He.ga K "read_next_or_tie") ["words"] (spNextTie K) := by
  refine fnAt0 (k := 3) T.f_read_next_or_tie sc_read_next_or_tie len1 (fun _ _ _ _ _ _ us hl => match us, hl with | [_], _ => rfl) (fun cdv A outer s H vs Q E hr h => ?_)
  have hu := hu_of hr
  obtain ⟨v_words, rfl, h⟩ := h
  refine ⟨_, (pss_cons (ps_if (pt_cmpR op_eq (pe_mt0 (pv 0) T.c_Words T.m_Words_peek (ok_Words_peek T) (hr.mono (by decide)) pass0) pe_str (nomark _)) pss_never pss_nil)
    (pss_cons (ps_par3 (i := 1) (j := 2) (l := 3) rfl sc_read_next_or_tie.nd rfl rfl rfl (by decide) (by decide) (by decide) rfl rfl rfl (pa_cons (pe_mt0 (pv 0) T.c_Words T.m_Words_take (ok_Words_take T) (hr.mono (by decide)) pass0) (pa_cons (pe_mt0 (pv 0) T.c_Words T.m_Words_take (ok_Words_take T) (hr.mono (by decide)) pass0) (pa_cons (pe_mt0 (pv 0) T.c_Words T.m_Words_take (ok_Words_take T) (hr.mono (by decide)) pass0) pa_nil))) (by rfl))
    (pss_cons (ps_if (PW.pt (pw_or (pt_not (pt_val (pe_f (ok_is_letter T) (hr.mono (by decide)) T.g_is_letter pass0 (pa_cons (pv 1) pa_nil)))) (pw_or1 (pt_cmpR op_ne (pv 2) pe_str (nomark _))))) pss_never pss_nil)
    (pss_cons (ps_if (pt_cmpR op_eq (pv 3) pe_str (nomark _)) pss_never pss_nil)
    (pss_cons (ps_if (pt_cmpR op_ne (pv 3) pe_str (nomark _)) pss_never pss_nil)
    (pss_cons (ps_set (i := 3) sc_read_next_or_tie.nd rfl (Or.inl rfl) (pe_mt0 (pv 0) T.c_Words T.m_Words_take (ok_Words_take T) (hr.mono (by decide)) pass0))
    (pss_one (ps_ret (pe_ifExp (pt_val (pe_f (ok_is_letter T) (hr.mono (by decide)) T.g_is_letter pass0 (pa_cons (pv 3) pa_nil))) (pe_tup (pa_cons pe_str (pa_cons (pv 1) (pa_cons (pv 3) pa_nil)))) pe_non))))))))), ?_⟩
  obtain ⟨p, rfl, k, a, wa, hx, h⟩ := h
  obtain ⟨w0, w1, w2, w3, ha⟩ := isNx_of hx
  obtain ⟨la, na, fa, _, _⟩ := xy_ok ha
  obtain ⟨dx, L, hp, _⟩ := id wa
  refine ⟨_, rfl, p, dx, _, rfl, hp, wdF_no_peek _ _, _, rfl, p, k, rfl, wa, rfl, _, rfl, iteO ?_ ?_⟩
  · rw [dS, w0, decide_eq_false na]
  refine ⟨_, rfl, p, dx, _, rfl, hp, wdF_no_take _ _, _, rfl, p, _, rfl, wa, fun H1 b1 wa1 => ?_⟩
  obtain ⟨dx1, L1, hp1, _⟩ := id wa1
  refine ⟨_, rfl, p, dx1, _, rfl, hp1, wdF_no_take _ _, _, rfl, p, _, rfl, wa1, fun H2 b2 wa2 => ?_⟩
  obtain ⟨dx2, L2, hp2, _⟩ := id wa2
  refine ⟨_, rfl, p, dx2, _, rfl, hp2, wdF_no_take _ _, _, rfl, p, _, rfl, wa2, fun H3 b3 wa3 => ?_⟩
  rw [w0, w1, w2]
  refine ⟨_, _, _, rfl, ?_⟩
  refine ⟨_, rfl, _, rfl, fa, _, rfl, iteO (by rw [la]; rfl) ⟨_, rfl, rfl, _, rfl, iteO (by decide +kernel) ?_⟩⟩
  refine ⟨_, rfl, rfl, _, rfl, iteO (by decide +kernel) ⟨_, rfl, rfl, _, rfl, iteO (by decide +kernel) ?_⟩⟩
  obtain ⟨dx3, L3, hp3, _⟩ := id wa3
  refine ⟨_, rfl, p, dx3, _, rfl, hp3, wdF_no_take _ _, _, rfl, p, _, rfl, wa3, fun H4 b4 wa4 => ?_⟩
  rw [w3]
  refine ⟨_, rfl, _, rfl, fa, _, rfl, iteE la ⟨_, rfl, _, rfl, sz1000 (Nat.le_of_ble_eq_true rfl), fun q nq => ?_⟩⟩
  generalize e5 : upd H4 q _ = H5
  have s5 := same_of e5 nq
  exact h H5 q ((But.trans b1 b2).trans b3 |>.trans b4 |>.sm s5) (wa4.same s5) (at_of' e5)
def spStmt1 (K : PySem.W.Frag) : Sp := sp2 fun ws d H Q _ => ∃ p, ws = .ref p ∧ spNx K p H Q
abbrev N_read_statement : List Str := ["words", "depth", "word", "one"]
theorem sc_read_statement : FnScope N_read_statement ["words", "depth"] (defScope s_read_statement) := ⟨rfl, rfl, rfl, by decide +kernel, rfl, by decide +kernel, by decide +kernel⟩
theorem ok_read_statement1 {P : Program} {w : World} {K : PySem.W.Frag} {mg : Str → Option Value} {base : Heap} (T : TopE K mg) : FnAt P w K mg base CX0 5 (He.ga K "read_statement") ["words", "depth"] (spStmt1 K) := by
  refine fnAt0 (k := 4) T.f_read_statement sc_read_statement len2 (fun _ _ _ _ _ _ us hl => match us, hl with | [_, _], _ => rfl) (fun cdv A outer s H vs Q E hr h => ?_)
  have hu := hu_of hr
  obtain ⟨v_words, v_depth, rfl, h⟩ := h
  refine ⟨_, (pss_cons (ps_set (i := 2) sc_read_statement.nd rfl (Or.inl rfl) (pe_mt0 (pv 0) T.c_Words T.m_Words_peek (ok_Words_peek T) (hr.mono (by decide)) pass0))
    (pss_cons (ps_if (pt_cmpR op_notIn_seq (pv 2) (pe_tup (pa_cons pe_str (pa_cons pe_str (pa_cons pe_str pa_nil)))) rfl) (pss_one (ps_ret (pe_f (ok_read_next_or_tie T) (hr.mono (by decide)) T.g_read_next_or_tie pass0 (pa_cons (pv 0) pa_nil)))) pss_nil)
    pss_never)), ?_⟩
  obtain ⟨p, rfl, k, a, wa, hx, h⟩ := h
  obtain ⟨w0, w1, w2, w3, ha⟩ := isNx_of hx
  obtain ⟨la, na, fa, _, ni⟩ := xy_ok ha
  obtain ⟨dx, L, hp, _⟩ := id wa
  refine ⟨_, rfl, p, dx, _, rfl, hp, wdF_no_peek _ _, _, rfl, p, k, rfl, wa, ?_⟩
  rw [w0]
  refine ⟨_, rfl, sz1000 (Nat.le_of_ble_eq_true rfl), fun t nt => ?_⟩
  generalize e1 : upd H t _ = H1
  have s1 := same_of e1 nt
  refine ⟨t, _, rfl, .inr (SqT.of (at_of' e1)), rfl, rfl, _, rfl, iteE (by rw [if_pos rfl, ni]; rfl) ?_⟩
  exact ⟨_, rfl, _, rfl, p, rfl, k, a, wa.same s1, hx, fun H' q b w n => h H' q (But.trans (Same.but s1) b) w n⟩

end K66
end
section
set_option Elab.async false
set_option linter.all false
set_option maxRecDepth 100000
set_option maxHeartbeats 4000000
namespace K66
open PySem PySem.Spec PyProof.Rows L2
local macro_rules | `(tactic| walk_at "rd") => `(tactic| repeat (first | refine ⟨_, rfl, ?_⟩ | refine ⟨_, _, rfl, rfl, ?_⟩ | refine ⟨rfl, ?_⟩))
local macro_rules | `(tactic| walk_at "hp") => `(tactic| (first | assumption | solve_by_elim (maxDepth := 12)))
local macro_rules | `(tactic| walk_at "pl") => `(tactic| ((repeat (refine putF_lt ?_)); exact Nat.le_of_ble_eq_true rfl))
/-! ## rows, block, while -/
def spRows1 (K : PySem.W.Frag) : Sp := sp2 fun ws d H Q _ => ∃ p, ws = .ref p ∧ WordsAt K H p 20 ∧ ∀ H' b, But p H H' → WordsAt K H' p 34 → BodyT H' b → Q (.ref b) H'
def Row1 (K : PySem.W.Frag) (p F : Addr) (H' : Hp) : Nat → Prop
  | 2 => ∃ q1, H' F = some (.lst [.ref q1]) ∧ NextT H' "x" q1 ∧ WordsAt K H' p 24
  | 1 => ∃ q1 q2, H' F = some (.lst [.ref q1, .ref q2]) ∧ NextT H' "x" q1 ∧ NextT H' "y" q2 ∧ WordsAt K H' p 29
  | 0 => ∃ q1 q2 q3, H' F = some (.lst [.ref q1, .ref q2, .ref q3]) ∧ NextT H' "x" q1 ∧ NextT H' "y" q2 ∧ NextT H' "y" q3 ∧ WordsAt K H' p 34
  | _ => False
theorem WordsAt.butl {K : PySem.W.Frag} {H H' : Hp} {p F : Addr} {k : Nat} {xs : List V} (b : But F H H') (hF : H F = some (.lst xs)) (hne : ∀ L, H L = some (.lst (WS.map V.str)) → L ≠ F) (h : WordsAt K H p k) : WordsAt K H' p k :=
  let ⟨dx, L, x, y⟩ := h; ⟨dx, L, b _ _ (fun e => by subst e; rw [hF] at x; cases x) x, b _ _ (hne L y) y⟩
theorem ref_ne_ws {F : Addr} {H : Hp} {xs : List V} {q : Addr} (hF : H F = some (.lst (.ref q :: xs))) : ∀ L, H L = some (.lst (WS.map V.str)) → L ≠ F := fun L h e => by
  subst e
  rw [hF] at h
  cases h
abbrev N_read_rows : List Str := ["words", "depth", "found"]
theorem sc_read_rows : FnScope N_read_rows ["words", "depth"] (defScope s_read_rows) := ⟨rfl, rfl, rfl, by decide +kernel, rfl, by decide +kernel, by decide +kernel⟩
theorem ok_read_rows1 {P : Program} {w : World} {K : PySem.W.Frag} {mg : Str → Option Value} {base : Heap} (T : TopE K mg) : FnAt P w K mg base CX0 6 (He.ga K "read_rows") ["words", "depth"] (spRows1 K) := by
  refine fnAt0 (k := 5) T.f_read_rows sc_read_rows len2 (fun _ _ _ _ _ _ us hl => match us, hl with | [_, _], _ => rfl) (fun cdv A outer s H vs Q E hr h => ?_)
  have hu := hu_of hr
  obtain ⟨v_words, v_depth, rfl, h⟩ := h
  refine ⟨_, (pss_cons (ps_if (pt_cmpR op_eq (pe_mt0 (pv 0) T.c_Words T.m_Words_peek (ok_Words_peek T) (hr.mono (by decide)) pass0) pe_str (nomark _)) pss_never pss_nil)
    (pss_cons (ps_set (i := 2) sc_read_rows.nd rfl (Or.inl rfl) (pe_lst (pa_cons (pe_f (ok_read_statement1 T) (hr.mono (by decide)) T.g_read_statement pass0 (pa_cons (pv 0) (pa_cons (pv 1) pa_nil))) pa_nil)))
    (pss_cons (ps_while PassesOwn.never (PW.pt (pw_and (pt_cmpR op_notN (pe_ix ix_list (pv 2) (pe_un un_neg pe_int) (fun _ _ => rfl)) pe_non (nomark _)) (pw_and1 (pt_cmpR op_eq (pe_mt0 (pv 0) T.c_Words T.m_Words_peek (ok_Words_peek T) (hr.mono (by decide)) pass0) pe_str (nomark _))))) (pss_cons (ps_expr (pe_mt0 (pv 0) T.c_Words T.m_Words_take (ok_Words_take T) (hr.mono (by decide)) pass0))
    (pss_one (ps_expr (pe_bm PySem.F.plainAttrs_list PySem.F.slot_list_append PySem.F.type_list_append mt_append (pv 2) (pa_cons (pe_f (ok_read_statement1 T) (hr.mono (by decide)) T.g_read_statement pass0 (pa_cons (pv 0) (pa_cons (pv 1) pa_nil))) pa_nil))))))
    (pss_one (ps_ret (pe_ifExp (pt_cmpR op_isN (pe_ix ix_list (pv 2) (pe_un un_neg pe_int) (fun _ _ => rfl)) pe_non (nomark _)) pe_non (pe_callTy call_tuple_frz (by rfl) T.z_tuple (by decide +kernel) (pa_cons (pv 2) pa_nil)))))))), ?_⟩
  obtain ⟨p, rfl, wa, h⟩ := h
  obtain ⟨dx, L, hp, _⟩ := id wa
  refine ⟨_, rfl, p, dx, _, rfl, hp, wdF_no_peek _ _, _, rfl, p, _, rfl, wa, rfl, _, rfl, iteO (by decide +kernel) ?_⟩
  refine ⟨_, rfl, _, rfl, _, _, rfl, p, rfl, 20, "x", wa, by decide +kernel, fun H1 q1 b1 wa1 n1 => ⟨sz1000 (Nat.le_of_ble_eq_true rfl), fun F nF => ?_⟩⟩
  generalize e2 : upd H1 F _ = H2
  have s2 := same_of e2 nF
  have nF0 : H F = none := by
    cases e : H F with
    | none => rfl
    | some o =>
      by_cases ep : F = p
      · subst ep
        obtain ⟨o, ho, _⟩ := wa1.kpo
        rw [ho] at nF
        cases nF
      · rw [b1 _ _ ep e] at nF
        cases nF
  have hpF : p ≠ F := ne_of_none hp nF0
  refine ⟨fun m σ H' => σ = [some (.ref p), some v_depth, some (.ref F)] ∧ But p H H' ∧ Row1 K p F H' m, ⟨2, rfl, b1.sm s2, q1, at_of' e2, n1.kp (Same.kp s2), wa1.same s2⟩, ?_⟩
  rintro m σ H' ⟨rfl, bt, hr'⟩
  match m, hr' with
  | 2, ⟨q1, hF, n1, wa⟩ =>
    obtain ⟨dx, L, hp, _⟩ := id wa
    refine ⟨_, rfl, _, rfl, F, _, -1, _, rfl, rfl, SqL.of hF, rfl, rfl, _, rfl, iteT ⟨_, rfl, p, dx, _, rfl, hp, wdF_no_peek _ _, _, rfl, p, _, rfl, wa, rfl, _, rfl, iteE (by decide +kernel) ?_⟩⟩
    refine ⟨fun σ H' => σ = [some (.ref p), some v_depth, some (.ref F)] ∧ But p H H' ∧ Row1 K p F H' 1, fun σ' H' w => ⟨1, by decide, w⟩, ?_⟩
    refine ⟨_, rfl, p, dx, _, rfl, hp, wdF_no_take _ _, _, rfl, p, _, rfl, wa, fun H3 b3 wa3 => ?_⟩
    have hF3 := b3 F _ (Ne.symm hpF) hF
    obtain ⟨o, ho, hi⟩ := wa.kpo
    have n13 := n1.kp (b3.kp ho hi)
    refine ⟨_, rfl, .inl ⟨rfl, _, SqL.of hF3⟩, _, rfl, _, rfl, _, _, rfl, p, rfl, 25, "y", wa3, by decide +kernel, fun H4 q2 b4 wa4 n2 => ?_⟩
    have hF4 := b4 F _ (Ne.symm hpF) hF3
    obtain ⟨o, ho, hi⟩ := wa3.kpo
    have n14 := n13.kp (b4.kp ho hi)
    refine ⟨F, _, _, rfl, rfl, hF4, szn (Nat.le_of_ble_eq_true rfl), ?_⟩
    generalize e5 : upd H4 F _ = H5
    have b5 := but_upd e5
    have k5 := b5.kp hF4 rfl
    exact ⟨rfl, (But.trans (But.trans bt b3) b4).new b5 nF0, q1, q2, at_of' e5, n14.kp k5, n2.kp k5, wa4.butl b5 hF4 (ref_ne_ws hF4)⟩
  | 1, ⟨q1, q2, hF, n1, n2, wa⟩ =>
    obtain ⟨dx, L, hp, _⟩ := id wa
    refine ⟨_, rfl, _, rfl, F, _, -1, _, rfl, rfl, SqL.of hF, rfl, rfl, _, rfl, iteT ⟨_, rfl, p, dx, _, rfl, hp, wdF_no_peek _ _, _, rfl, p, _, rfl, wa, rfl, _, rfl, iteE (by decide +kernel) ?_⟩⟩
    refine ⟨fun σ H' => σ = [some (.ref p), some v_depth, some (.ref F)] ∧ But p H H' ∧ Row1 K p F H' 0, fun σ' H' w => ⟨0, by decide, w⟩, ?_⟩
    refine ⟨_, rfl, p, dx, _, rfl, hp, wdF_no_take _ _, _, rfl, p, _, rfl, wa, fun H3 b3 wa3 => ?_⟩
    have hF3 := b3 F _ (Ne.symm hpF) hF
    obtain ⟨o, ho, hi⟩ := wa.kpo
    have k3 := b3.kp ho hi
    refine ⟨_, rfl, .inl ⟨rfl, _, SqL.of hF3⟩, _, rfl, _, rfl, _, _, rfl, p, rfl, 30, "y", wa3, by decide +kernel, fun H4 q3 b4 wa4 n3 => ?_⟩
    have hF4 := b4 F _ (Ne.symm hpF) hF3
    obtain ⟨o, ho, hi⟩ := wa3.kpo
    have k4 := k3.trans (b4.kp ho hi)
    refine ⟨F, _, _, rfl, rfl, hF4, szn (Nat.le_of_ble_eq_true rfl), ?_⟩
    generalize e5 : upd H4 F _ = H5
    have b5 := but_upd e5
    have k5 := b5.kp hF4 rfl
    exact ⟨rfl, (But.trans (But.trans bt b3) b4).new b5 nF0, q1, q2, q3, at_of' e5, n1.kp (k4.trans k5), n2.kp (k4.trans k5), n3.kp k5, wa4.butl b5 hF4 (ref_ne_ws hF4)⟩
  | 0, ⟨q1, q2, q3, hF, n1, n2, n3, wa⟩ =>
    obtain ⟨dx, L, hp, _⟩ := id wa
    refine ⟨_, rfl, _, rfl, F, _, -1, _, rfl, rfl, SqL.of hF, rfl, rfl, _, rfl, iteT ⟨_, rfl, p, dx, _, rfl, hp, wdF_no_peek _ _, _, rfl, p, _, rfl, wa, rfl, _, rfl, iteO (by decide +kernel) ?_⟩⟩
    refine ⟨_, rfl, _, rfl, F, _, -1, _, rfl, rfl, SqL.of hF, rfl, rfl, _, rfl, iteF ⟨_, rfl, F, _, rfl, SqL.of hF, fun t o nt od => ?_⟩⟩
    generalize e3 : upd H' t _ = H3
    have s3 := same_of e3 nt
    exact h H3 t (bt.sm s3) (wa.same s3) ⟨o, q1, q2, q3, at_of' e3, n1.kp (Same.kp s3), n2.kp (Same.kp s3), n3.kp (Same.kp s3)⟩
def spBlock (K : PySem.W.Frag) : Sp := sp2 fun ws d H Q _ => ∃ p, ws = .ref p ∧ d = .int 0 ∧ WordsAt K H p 19 ∧ ∀ H' b, But p H H' → WordsAt K H' p 35 → BodyT H' b → Q (.ref b) H'
abbrev N_read_block : List Str := ["words", "depth", "found"]
theorem sc_read_block : FnScope N_read_block ["words", "depth"] (defScope s_read_block) := ⟨rfl, rfl, rfl, by decide +kernel, rfl, by decide +kernel, by decide +kernel⟩
theorem ok_read_block {P : Program} {w : World} {K : PySem.W.Frag} {mg : Str → Option Value} {base : Heap} (T : TopE K mg) : FnAt P w K mg base CX0 7 (He.ga K "read_block") ["words", "depth"] (spBlock K) := by
  refine fnAt0 (k := 6) T.f_read_block sc_read_block len2 (fun _ _ _ _ _ _ us hl => match us, hl with | [_, _], _ => rfl) (fun cdv A outer s H vs Q E hr h => ?_)
  have hu := hu_of hr
  obtain ⟨v_words, v_depth, rfl, h⟩ := h
  refine ⟨_, (pss_cons (ps_if (PW.pt (pw_or (pt_cmpR op_ne (pe_mt0 (pv 0) T.c_Words T.m_Words_take (ok_Words_take T) (hr.mono (by decide)) pass0) pe_str (nomark _)) (pw_or1 (pt_cmpR op_ge (pv 1) (pe_gi T.i_MOST_BRACES) (nomark _))))) pss_never pss_nil)
    (pss_cons (ps_set (i := 2) sc_read_block.nd rfl (Or.inl rfl) (pe_f (ok_read_rows1 T) (hr.mono (by decide)) T.g_read_rows pass0 (pa_cons (pv 0) (pa_cons (pe_op op_add (pv 1) pe_int) pa_nil))))
    (pss_one (ps_ret (pe_ifExp (pt_cmpR op_eq (pe_mt0 (pv 0) T.c_Words T.m_Words_take (ok_Words_take T) (hr.mono (by decide)) pass0) pe_str (nomark _)) (pv 2) pe_non))))), ?_⟩
  obtain ⟨p, rfl, rfl, wa, h⟩ := h
  obtain ⟨dx, L, hp, _⟩ := id wa
  refine ⟨_, rfl, p, dx, _, rfl, hp, wdF_no_take _ _, _, rfl, p, _, rfl, wa, fun H1 b1 wa1 => ?_⟩
  refine ⟨rfl, _, rfl, iteO (by decide +kernel) ⟨_, rfl, _, _, rfl, rfl, _, rfl, iteF ?_⟩⟩
  refine ⟨_, rfl, _, rfl, _, _, rfl, rfl, _, _, rfl, p, rfl, wa1, fun H2 b b2 wa2 hb => ?_⟩
  obtain ⟨dx2, L2', hp2, _⟩ := id wa2
  refine ⟨_, rfl, p, dx2, _, rfl, hp2, wdF_no_take _ _, _, rfl, p, _, rfl, wa2, fun H3 b3 wa3 => ?_⟩
  refine ⟨rfl, _, rfl, iteE (by decide +kernel) ⟨_, rfl, ?_⟩⟩
  exact h H3 b ((But.trans b1 b2).trans b3) wa3 (hb.kp (b3.kp hp2 rfl))
def spWhile (K : PySem.W.Frag) : Sp := sp2 fun ws d H Q _ => ∃ p, ws = .ref p ∧ d = .int 0 ∧ WordsAt K H p 16 ∧ ∀ H' b, But p H H' → WordsAt K H' p 35 → LoopT H' b → Q (.ref b) H'
abbrev N_read_while : List Str := ["words", "depth", "test", "body"]
theorem sc_read_while : FnScope N_read_while ["words", "depth"] (defScope s_read_while) := ⟨rfl, rfl, rfl, by decide +kernel, rfl, by decide +kernel, by decide +kernel⟩
theorem ok_read_while {P : Program} {w : World} {K : PySem.W.Frag} {mg : Str → Option Value} {base : Heap} (T : TopE K mg) : FnAt P w K mg base CX0 8 (He.ga K "read_while") ["words", "depth"] (spWhile K) := by
  refine fnAt0 (k := 7) T.f_read_while sc_read_while len2 (fun _ _ _ _ _ _ us hl => match us, hl with | [_, _], _ => rfl) (fun cdv A outer s H vs Q E hr h => ?_)
  have hu := hu_of hr
  obtain ⟨v_words, v_depth, rfl, h⟩ := h
  refine ⟨_, (pss_cons (ps_set (i := 2) sc_read_while.nd rfl (Or.inl rfl) (pe_f (ok_read_test T) (hr.mono (by decide)) T.g_read_test pass0 (pa_cons (pv 0) pa_nil)))
    (pss_cons (ps_set (i := 3) sc_read_while.nd rfl (Or.inl rfl) (pe_ifExp (pt_cmpR op_isN (pv 2) pe_non (nomark _)) pe_non (pe_f (ok_read_block T) (hr.mono (by decide)) T.g_read_block pass0 (pa_cons (pv 0) (pa_cons (pv 1) pa_nil)))))
    (pss_one (ps_ret (pe_ifExp (pt_cmpR op_isN (pv 3) pe_non (nomark _)) pe_non (pe_tup (pa_cons pe_str (pa_cons (pv 2) (pa_cons (pv 3) pa_nil))))))))), ?_⟩
  obtain ⟨p, rfl, rfl, wa, h⟩ := h
  refine ⟨_, rfl, _, rfl, p, rfl, wa, fun H1 t b1 wa1 ht => ?_⟩
  refine ⟨_, rfl, rfl, _, rfl, iteF ⟨_, rfl, _, rfl, _, _, rfl, p, rfl, rfl, wa1, fun H2 b b2 wa2 hb => ?_⟩⟩
  obtain ⟨o, ho, hi⟩ := wa1.kpo
  refine ⟨_, rfl, rfl, _, rfl, iteF ⟨_, rfl, _, rfl, sz1000 (Nat.le_of_ble_eq_true rfl), fun l nl => ?_⟩⟩
  generalize e3 : upd H2 l _ = H3
  have s3 := same_of e3 nl
  exact h H3 l ((But.trans b1 b2).sm s3) (wa2.same s3) ⟨t, b, at_of' e3, (ht.kp (b2.kp ho hi)).kp (Same.kp s3), hb.kp (Same.kp s3)⟩
def spStmt0 (K : PySem.W.Frag) : Sp := sp2 fun ws d H Q _ => ∃ p, ws = .ref p ∧ (spNx K p H Q ∨ (d = .int 0 ∧ WordsAt K H p 15 ∧ ∀ H' q, But p H H' → WordsAt K H' p 35 → LoopT H' q → Q (.ref q) H'))
theorem ok_read_statement0 {P : Program} {w : World} {K : PySem.W.Frag} {mg : Str → Option Value} {base : Heap} (T : TopE K mg) : FnAt P w K mg base CX0 9 (He.ga K "read_statement") ["words", "depth"] (spStmt0 K) := by
  refine fnAt0 (k := 8) T.f_read_statement sc_read_statement len2 (fun _ _ _ _ _ _ us hl => match us, hl with | [_, _], _ => rfl) (fun cdv A outer s H vs Q E hr h => ?_)
  have hu := hu_of hr
  obtain ⟨v_words, v_depth, rfl, h⟩ := h
  refine ⟨_, (pss_cons (ps_set (i := 2) sc_read_statement.nd rfl (Or.inl rfl) (pe_mt0 (pv 0) T.c_Words T.m_Words_peek (ok_Words_peek T) (hr.mono (by decide)) pass0))
    (pss_cons (ps_if (pt_cmpR op_notIn_seq (pv 2) (pe_tup (pa_cons pe_str (pa_cons pe_str (pa_cons pe_str pa_nil)))) rfl) (pss_one (ps_ret (pe_f (ok_read_next_or_tie T) (hr.mono (by decide)) T.g_read_next_or_tie pass0 (pa_cons (pv 0) pa_nil)))) pss_nil)
    (pss_cons (ps_expr (pe_mt0 (pv 0) T.c_Words T.m_Words_take (ok_Words_take T) (hr.mono (by decide)) pass0))
    (pss_cons (ps_if (pt_cmpR op_eq (pv 2) pe_str (nomark _)) pss_never pss_nil)
    (pss_cons (ps_if (pt_cmpR op_eq (pv 2) pe_str (nomark _)) (pss_one (ps_ret (pe_f (ok_read_while T) (hr.mono (by decide)) T.g_read_while pass0 (pa_cons (pv 0) (pa_cons (pv 1) pa_nil))))) pss_nil)
    pss_never))))), ?_⟩
  obtain ⟨p, rfl, h⟩ := h
  rcases h with ⟨k, a, wa, hx, h⟩ | ⟨rfl, wa, h⟩
  · obtain ⟨w0, w1, w2, w3, ha⟩ := isNx_of hx
    obtain ⟨la, na, fa, _, ni⟩ := xy_ok ha
    obtain ⟨dx, L, hp, _⟩ := id wa
    refine ⟨_, rfl, p, dx, _, rfl, hp, wdF_no_peek _ _, _, rfl, p, k, rfl, wa, ?_⟩
    rw [w0]
    refine ⟨_, rfl, sz1000 (Nat.le_of_ble_eq_true rfl), fun t nt => ?_⟩
    generalize e1 : upd H t _ = H1
    have s1 := same_of e1 nt
    refine ⟨t, _, rfl, .inr (SqT.of (at_of' e1)), rfl, rfl, _, rfl, iteE (by rw [if_pos rfl, ni]; rfl) ?_⟩
    exact ⟨_, rfl, _, rfl, p, rfl, k, a, wa.same s1, hx, fun H' q b w n => h H' q (But.trans (Same.but s1) b) w n⟩
  · obtain ⟨dx, L, hp, _⟩ := id wa
    refine ⟨_, rfl, p, dx, _, rfl, hp, wdF_no_peek _ _, _, rfl, p, _, rfl, wa, ?_⟩
    refine ⟨_, rfl, sz1000 (Nat.le_of_ble_eq_true rfl), fun t nt => ?_⟩
    generalize e1 : upd H t _ = H1
    have s1 := same_of e1 nt
    have wa1 := wa.same s1
    refine ⟨t, _, rfl, .inr (SqT.of (at_of' e1)), rfl, rfl, _, rfl, iteO (by decide +kernel) ?_⟩
    obtain ⟨dx1, L1, hp1, _⟩ := id wa1
    refine ⟨_, rfl, p, dx1, _, rfl, hp1, wdF_no_take _ _, _, rfl, p, _, rfl, wa1, fun H2 b2 wa2 => ?_⟩
    refine ⟨_, rfl, rfl, _, rfl, iteO (by decide +kernel) ⟨_, rfl, rfl, _, rfl, iteE (by decide +kernel) ?_⟩⟩
    exact ⟨_, rfl, _, rfl, _, _, rfl, p, rfl, rfl, wa2, fun H' q b w n => h H' q (But.trans (But.trans (Same.but s1) b2) b) w n⟩
def spRows0 (K : PySem.W.Frag) : Sp := sp2 fun ws d H Q _ => ∃ p, ws = .ref p ∧ d = .int 0 ∧ WordsAt K H p 0 ∧ ∀ H' b, But p H H' → WordsAt K H' p 35 → TreeT H' b → Q (.ref b) H'
def Row0 (K : PySem.W.Frag) (p F : Addr) (H' : Hp) : Nat → Prop
  | 3 => ∃ q1, H' F = some (.lst [.ref q1]) ∧ NextT H' "x" q1 ∧ WordsAt K H' p 4
  | 2 => ∃ q1 q2, H' F = some (.lst [.ref q1, .ref q2]) ∧ NextT H' "x" q1 ∧ NextT H' "y" q2 ∧ WordsAt K H' p 9
  | 1 => ∃ q1 q2 q3, H' F = some (.lst [.ref q1, .ref q2, .ref q3]) ∧ NextT H' "x" q1 ∧ NextT H' "y" q2 ∧ NextT H' "y" q3 ∧ WordsAt K H' p 14
  | 0 => ∃ q1 q2 q3 l, H' F = some (.lst [.ref q1, .ref q2, .ref q3, .ref l]) ∧ NextT H' "x" q1 ∧ NextT H' "y" q2 ∧ NextT H' "y" q3 ∧ LoopT H' l ∧ WordsAt K H' p 35
  | _ => False
theorem ok_read_rows0 {P : Program} {w : World} {K : PySem.W.Frag} {mg : Str → Option Value} {base : Heap} (T : TopE K mg) : FnAt P w K mg base CX0 10 (He.ga K "read_rows") ["words", "depth"] (spRows0 K) := by
  refine fnAt0 (k := 9) T.f_read_rows sc_read_rows len2 (fun _ _ _ _ _ _ us hl => match us, hl with | [_, _], _ => rfl) (fun cdv A outer s H vs Q E hr h => ?_)
  have hu := hu_of hr
  obtain ⟨v_words, v_depth, rfl, h⟩ := h
  refine ⟨_, (pss_cons (ps_if (pt_cmpR op_eq (pe_mt0 (pv 0) T.c_Words T.m_Words_peek (ok_Words_peek T) (hr.mono (by decide)) pass0) pe_str (nomark _)) pss_never pss_nil)
    (pss_cons (ps_set (i := 2) sc_read_rows.nd rfl (Or.inl rfl) (pe_lst (pa_cons (pe_f (ok_read_statement0 T) (hr.mono (by decide)) T.g_read_statement pass0 (pa_cons (pv 0) (pa_cons (pv 1) pa_nil))) pa_nil)))
    (pss_cons (ps_while PassesOwn.never (PW.pt (pw_and (pt_cmpR op_notN (pe_ix ix_list (pv 2) (pe_un un_neg pe_int) (fun _ _ => rfl)) pe_non (nomark _)) (pw_and1 (pt_cmpR op_eq (pe_mt0 (pv 0) T.c_Words T.m_Words_peek (ok_Words_peek T) (hr.mono (by decide)) pass0) pe_str (nomark _))))) (pss_cons (ps_expr (pe_mt0 (pv 0) T.c_Words T.m_Words_take (ok_Words_take T) (hr.mono (by decide)) pass0))
    (pss_one (ps_expr (pe_bm PySem.F.plainAttrs_list PySem.F.slot_list_append PySem.F.type_list_append mt_append (pv 2) (pa_cons (pe_f (ok_read_statement0 T) (hr.mono (by decide)) T.g_read_statement pass0 (pa_cons (pv 0) (pa_cons (pv 1) pa_nil))) pa_nil))))))
    (pss_one (ps_ret (pe_ifExp (pt_cmpR op_isN (pe_ix ix_list (pv 2) (pe_un un_neg pe_int) (fun _ _ => rfl)) pe_non (nomark _)) pe_non (pe_callTy call_tuple_frz (by rfl) T.z_tuple (by decide +kernel) (pa_cons (pv 2) pa_nil)))))))), ?_⟩
  obtain ⟨p, rfl, rfl, wa, h⟩ := h
  obtain ⟨dx, L, hp, _⟩ := id wa
  refine ⟨_, rfl, p, dx, _, rfl, hp, wdF_no_peek _ _, _, rfl, p, _, rfl, wa, rfl, _, rfl, iteO (by decide +kernel) ?_⟩
  refine ⟨_, rfl, _, rfl, _, _, rfl, p, rfl, .inl ⟨0, "x", wa, by decide +kernel, fun H1 q1 b1 wa1 n1 => ⟨sz1000 (Nat.le_of_ble_eq_true rfl), fun F nF => ?_⟩⟩⟩
  generalize e2 : upd H1 F _ = H2
  have s2 := same_of e2 nF
  have nF0 : H F = none := by
    cases e : H F with
    | none => rfl
    | some o =>
      by_cases ep : F = p
      · subst ep
        obtain ⟨o, ho, _⟩ := wa1.kpo
        rw [ho] at nF
        cases nF
      · rw [b1 _ _ ep e] at nF
        cases nF
  have hpF : p ≠ F := ne_of_none hp nF0
  refine ⟨fun m σ H' => σ = [some (.ref p), some (.int 0), some (.ref F)] ∧ But p H H' ∧ Row0 K p F H' m, ⟨3, rfl, b1.sm s2, q1, at_of' e2, n1.kp (Same.kp s2), wa1.same s2⟩, ?_⟩
  rintro m σ H' ⟨rfl, bt, hr'⟩
  match m, hr' with
  | 3, ⟨q1, hF, n1, wa⟩ =>
    obtain ⟨dx, L, hp, _⟩ := id wa
    refine ⟨_, rfl, _, rfl, F, _, -1, _, rfl, rfl, SqL.of hF, rfl, rfl, _, rfl, iteT ⟨_, rfl, p, dx, _, rfl, hp, wdF_no_peek _ _, _, rfl, p, _, rfl, wa, rfl, _, rfl, iteE (by decide +kernel) ?_⟩⟩
    refine ⟨fun σ H' => σ = [some (.ref p), some (.int 0), some (.ref F)] ∧ But p H H' ∧ Row0 K p F H' 2, fun σ' H' w => ⟨2, by decide, w⟩, ?_⟩
    refine ⟨_, rfl, p, dx, _, rfl, hp, wdF_no_take _ _, _, rfl, p, _, rfl, wa, fun H3 b3 wa3 => ?_⟩
    have hF3 := b3 F _ (Ne.symm hpF) hF
    obtain ⟨o, ho, hi⟩ := wa.kpo
    have k3 := b3.kp ho hi
    refine ⟨_, rfl, .inl ⟨rfl, _, SqL.of hF3⟩, _, rfl, _, rfl, _, _, rfl, p, rfl, .inl ⟨5, "y", wa3, by decide +kernel, fun H4 q2 b4 wa4 n2 => ?_⟩⟩
    have hF4 := b4 F _ (Ne.symm hpF) hF3
    obtain ⟨o, ho, hi⟩ := wa3.kpo
    have k4 := k3.trans (b4.kp ho hi)
    refine ⟨F, _, _, rfl, rfl, hF4, szn (Nat.le_of_ble_eq_true rfl), ?_⟩
    generalize e5 : upd H4 F _ = H5
    have b5 := but_upd e5
    have k5 := b5.kp hF4 rfl
    exact ⟨rfl, (But.trans (But.trans bt b3) b4).new b5 nF0, q1, q2, at_of' e5, n1.kp (k4.trans k5), n2.kp k5, wa4.butl b5 hF4 (ref_ne_ws hF4)⟩
  | 2, ⟨q1, q2, hF, n1, n2, wa⟩ =>
    obtain ⟨dx, L, hp, _⟩ := id wa
    refine ⟨_, rfl, _, rfl, F, _, -1, _, rfl, rfl, SqL.of hF, rfl, rfl, _, rfl, iteT ⟨_, rfl, p, dx, _, rfl, hp, wdF_no_peek _ _, _, rfl, p, _, rfl, wa, rfl, _, rfl, iteE (by decide +kernel) ?_⟩⟩
    refine ⟨fun σ H' => σ = [some (.ref p), some (.int 0), some (.ref F)] ∧ But p H H' ∧ Row0 K p F H' 1, fun σ' H' w => ⟨1, by decide, w⟩, ?_⟩
    refine ⟨_, rfl, p, dx, _, rfl, hp, wdF_no_take _ _, _, rfl, p, _, rfl, wa, fun H3 b3 wa3 => ?_⟩
    have hF3 := b3 F _ (Ne.symm hpF) hF
    obtain ⟨o, ho, hi⟩ := wa.kpo
    have k3 := b3.kp ho hi
    refine ⟨_, rfl, .inl ⟨rfl, _, SqL.of hF3⟩, _, rfl, _, rfl, _, _, rfl, p, rfl, .inl ⟨10, "y", wa3, by decide +kernel, fun H4 q3 b4 wa4 n3 => ?_⟩⟩
    have hF4 := b4 F _ (Ne.symm hpF) hF3
    obtain ⟨o, ho, hi⟩ := wa3.kpo
    have k4 := k3.trans (b4.kp ho hi)
    refine ⟨F, _, _, rfl, rfl, hF4, szn (Nat.le_of_ble_eq_true rfl), ?_⟩
    generalize e5 : upd H4 F _ = H5
    have b5 := but_upd e5
    have k5 := b5.kp hF4 rfl
    exact ⟨rfl, (But.trans (But.trans bt b3) b4).new b5 nF0, q1, q2, q3, at_of' e5, n1.kp (k4.trans k5), n2.kp (k4.trans k5), n3.kp k5, wa4.butl b5 hF4 (ref_ne_ws hF4)⟩
  | 1, ⟨q1, q2, q3, hF, n1, n2, n3, wa⟩ =>
    obtain ⟨dx, L, hp, _⟩ := id wa
    refine ⟨_, rfl, _, rfl, F, _, -1, _, rfl, rfl, SqL.of hF, rfl, rfl, _, rfl, iteT ⟨_, rfl, p, dx, _, rfl, hp, wdF_no_peek _ _, _, rfl, p, _, rfl, wa, rfl, _, rfl, iteE (by decide +kernel) ?_⟩⟩
    refine ⟨fun σ H' => σ = [some (.ref p), some (.int 0), some (.ref F)] ∧ But p H H' ∧ Row0 K p F H' 0, fun σ' H' w => ⟨0, by decide, w⟩, ?_⟩
    refine ⟨_, rfl, p, dx, _, rfl, hp, wdF_no_take _ _, _, rfl, p, _, rfl, wa, fun H3 b3 wa3 => ?_⟩
    have hF3 := b3 F _ (Ne.symm hpF) hF
    obtain ⟨o, ho, hi⟩ := wa.kpo
    have k3 := b3.kp ho hi
    refine ⟨_, rfl, .inl ⟨rfl, _, SqL.of hF3⟩, _, rfl, _, rfl, _, _, rfl, p, rfl, .inr ⟨rfl, wa3, fun H4 l b4 wa4 nl => ?_⟩⟩
    have hF4 := b4 F _ (Ne.symm hpF) hF3
    obtain ⟨o, ho, hi⟩ := wa3.kpo
    have k4 := k3.trans (b4.kp ho hi)
    refine ⟨F, _, _, rfl, rfl, hF4, szn (Nat.le_of_ble_eq_true rfl), ?_⟩
    generalize e5 : upd H4 F _ = H5
    have b5 := but_upd e5
    have k5 := b5.kp hF4 rfl
    exact ⟨rfl, (But.trans (But.trans bt b3) b4).new b5 nF0, q1, q2, q3, l, at_of' e5, n1.kp (k4.trans k5), n2.kp (k4.trans k5), n3.kp (k4.trans k5), nl.kp k5, wa4.butl b5 hF4 (ref_ne_ws hF4)⟩
  | 0, ⟨q1, q2, q3, l, hF, n1, n2, n3, nl, wa⟩ =>
    obtain ⟨dx, L, hp, _⟩ := id wa
    refine ⟨_, rfl, _, rfl, F, _, -1, _, rfl, rfl, SqL.of hF, rfl, rfl, _, rfl, iteT ⟨_, rfl, p, dx, _, rfl, hp, wdF_no_peek _ _, _, rfl, p, _, rfl, wa, rfl, _, rfl, iteO (by decide +kernel) ?_⟩⟩
    refine ⟨_, rfl, _, rfl, F, _, -1, _, rfl, rfl, SqL.of hF, rfl, rfl, _, rfl, iteF ⟨_, rfl, F, _, rfl, SqL.of hF, fun t o nt od => ?_⟩⟩
    generalize e3 : upd H' t _ = H3
    have s3 := same_of e3 nt
    exact h H3 t (bt.sm s3) (wa.same s3) ⟨o, q1, q2, q3, l, at_of' e3, n1.kp (Same.kp s3), n2.kp (Same.kp s3), n3.kp (Same.kp s3), nl.kp (Same.kp s3)⟩

end K66
end
section
set_option Elab.async false
set_option linter.all false
set_option maxRecDepth 100000
set_option maxHeartbeats 4000000
namespace K66
open PySem PySem.Spec PyProof.Rows L2
local macro_rules | `(tactic| walk_at "rd") => `(tactic| repeat (first | refine ⟨_, rfl, ?_⟩ | refine ⟨_, _, rfl, rfl, ?_⟩ | refine ⟨rfl, ?_⟩))
local macro_rules | `(tactic| walk_at "hp") => `(tactic| (first | assumption | solve_by_elim (maxDepth := 12)))
local macro_rules | `(tactic| walk_at "pl") => `(tactic| ((repeat (refine putF_lt ?_)); exact Nat.le_of_ble_eq_true rfl))
/-! ## what is told of the tree -/
def spCount1 : Sp := sp1 fun v H Q _ => ∃ b, v = .ref b ∧ BodyT H b ∧ ∀ H', Same H H' → Q (.int 3) H'
abbrev N_count_statements : List Str := ["tree", "found", "row", "part"]
theorem sc_count_statements : FnScope N_count_statements ["tree"] (defScope s_count_statements) := ⟨rfl, rfl, rfl, by decide +kernel, rfl, by decide +kernel, by decide +kernel⟩
theorem ok_count_statements1 {P : Program} {w : World} {K : PySem.W.Frag} {mg : Str → Option Value} {base : Heap} (T : TopE K mg) : FnAt P w K mg base CX0 1 (He.ga K "count_statements") ["tree"] spCount1 := by
  refine fnAt0 (k := 0) T.f_count_statements sc_count_statements len1 (fun _ _ _ _ _ _ us hl => match us, hl with | [_], _ => rfl) (fun cdv A outer s H vs Q E hr h => ?_)
  have hu := hu_of hr
  obtain ⟨v_tree, rfl, h⟩ := h
  refine ⟨_, (pss_cons (ps_set (i := 1) sc_count_statements.nd rfl (Or.inl rfl) pe_int)
    (pss_cons (ps_for PassesOwn.never rfl (pi_tup (pv 0)) (pg_name (i := 2) sc_count_statements.nd rfl (Or.inl rfl)) (pss_cons (ps_set (i := 1) sc_count_statements.nd rfl (Or.inl rfl) (pe_op op_add (pv 1) pe_int))
    (pss_one (ps_if (pt_cmpR op_in_seq (pe_ix ix_tup (pv 2) pe_int (fun _ _ => rfl)) (pe_tup (pa_cons pe_str (pa_cons pe_str pa_nil))) rfl) pss_never pss_nil))))
    (pss_one (ps_ret (pv 1))))), ?_⟩
  obtain ⟨b, rfl, ⟨o, q1, q2, q3, hb, n1, n2, n3⟩, h⟩ := h
  have sq : ∀ H', Same H H' → SqT K H' b [.ref q1, .ref q2, .ref q3] := fun H' s => .inl (.inr ⟨o, s _ _ hb⟩)
  refine ⟨_, rfl, b, rfl, ⟨_, sq H (Same.refl H)⟩, for_tup (xs := [.ref q1, .ref q2, .ref q3]) (fun i σ H' => Same H H' ∧ ∃ x y, σ = [some (.ref b), some (.int (i : Nat)), x, y]) ⟨Same.refl H, _, _, rfl⟩ (fun i σ H' _ q => sq H' q.1) ?_ ?_⟩
  · rintro i x σ H' hx ⟨sm, y, z, rfl⟩
    have hq : ∃ (q : Addr) (a : Str), x = .ref q ∧ H q = some (.tup [.str "next", .str a, .str a]) := by
      match i, hx with
      | 0, hx => cases hx; exact ⟨q1, "x", rfl, n1⟩
      | 1, hx => cases hx; exact ⟨q2, "y", rfl, n2⟩
      | 2, hx => cases hx; exact ⟨q3, "y", rfl, n3⟩
      | _ + 3, hx => cases hx
    obtain ⟨q, a, rfl, hq⟩ := hq
    have hq' := sm _ _ hq
    refine ⟨_, rfl, _, _, rfl, rfl, ?_⟩
    refine ⟨_, rfl, q, _, 0, _, rfl, rfl, SqT.of hq', rfl, sz1000 (Nat.le_of_ble_eq_true rfl), fun t nt => ?_⟩
    generalize e1 : upd H' t _ = H1
    have s1 := same_of e1 nt
    refine ⟨t, _, rfl, .inr (SqT.of (at_of' e1)), rfl, rfl, _, rfl, iteO (by decide +kernel) ⟨Same.trans sm s1, some (.ref q), z, ?_⟩⟩
    have e : (i : Int) + 1 = ((i + 1 : Nat) : Int) := by omega
    rw [← e]
    rfl
  · rintro σ H' ⟨sm, y, z, rfl⟩
    exact ⟨_, rfl, h H' sm⟩
theorem sx2 : ¬ (HT.sIx 3 0 (some 2) = 0 ∧ HT.sIx 3 3 none = 3) := by decide
theorem sx1 : ¬ (HT.sIx 3 0 (some 1) = 0 ∧ HT.sIx 3 3 none = 3) := by decide
def spCount0 : Sp := sp1 fun v H Q _ => ∃ b, v = .ref b ∧ TreeT H b ∧ ∀ H', Same H H' → Q (.int 7) H'
def cnt : Nat → Int
  | 4 => 7
  | i => i
def one3 : Nat → List V
  | 0 => []
  | _ => [.int 3]
theorem ok_count_statements0 {P : Program} {w : World} {K : PySem.W.Frag} {mg : Str → Option Value} {base : Heap} (T : TopE K mg) : FnAt P w K mg base CX0 2 (He.ga K "count_statements") ["tree"] spCount0 := by
  refine fnAt0 (k := 1) T.f_count_statements sc_count_statements len1 (fun _ _ _ _ _ _ us hl => match us, hl with | [_], _ => rfl) (fun cdv A outer s H vs Q E hr h => ?_)
  have hu := hu_of hr
  obtain ⟨v_tree, rfl, h⟩ := h
  refine ⟨_, (pss_cons (ps_set (i := 1) sc_count_statements.nd rfl (Or.inl rfl) pe_int)
    (pss_cons (ps_for PassesOwn.never rfl (pi_tup (pv 0)) (pg_name (i := 2) sc_count_statements.nd rfl (Or.inl rfl)) (pss_cons (ps_set (i := 1) sc_count_statements.nd rfl (Or.inl rfl) (pe_op op_add (pv 1) pe_int))
    (pss_one (ps_if (pt_cmpR op_in_seq (pe_ix ix_tup (pv 2) pe_int (fun _ _ => rfl)) (pe_tup (pa_cons pe_str (pa_cons pe_str pa_nil))) rfl) (pss_one (ps_set (i := 1) sc_count_statements.nd rfl (Or.inl rfl) (pe_op op_add (pv 1) (pe_callB (cr_sum rfl) (by rfl) T.z_sum (by decide +kernel) (pa_cons (by (apply pe_lcX (s0 := s) (own := [("part", 3)])); exact rfl; exact sc_count_statements.nd; exact (pi_tup (pe_slice sl_tup (pv 2) (po_some pe_int) po_none)); exact (blkOk_by (N := N_count_statements) (sc := defScope s_count_statements) (by decide +kernel)); (intro _ _ _ _ _; exact (pg_name (i := 3) sc_count_statements.nd rfl (Or.inl rfl))); (intro _ _ _ _ _; exact pts_nil); (intro _ _ _ _ _; exact (pe_f (ok_count_statements1 T) (hr.mono (by decide)) T.g_count_statements pass0 (pa_cons (pv 3) pa_nil))); exact (fun _ => rfl); exact (fun _ _ _ _ _ => rfl); exact (fun _ _ _ _ _ => rfl); exact (fun _ _ _ _ _ => rfl)) pa_nil))))) pss_nil))))
    (pss_one (ps_ret (pv 1))))), ?_⟩
  obtain ⟨b, rfl, ⟨o, q1, q2, q3, l, hb, n1, n2, n3, tl, bl, hl, htl, hbl⟩, h⟩ := h
  have sq : ∀ H', Same H H' → SqT K H' b [.ref q1, .ref q2, .ref q3, .ref l] := fun H' s => .inl (.inr ⟨o, s _ _ hb⟩)
  refine ⟨_, rfl, b, rfl, ⟨_, sq H (Same.refl H)⟩, for_tup (xs := [.ref q1, .ref q2, .ref q3, .ref l]) (fun i σ H' => Same H H' ∧ ∃ x y, σ = [some (.ref b), some (.int (cnt i)), x, y]) ⟨Same.refl H, _, _, rfl⟩ (fun i σ H' _ q => sq H' q.1) ?_ ?_⟩
  · rintro i x σ H' hx ⟨sm, y, z, rfl⟩
    have hc : (∃ (q : Addr) (a : Str), x = .ref q ∧ H q = some (.tup [.str "next", .str a, .str a]) ∧ cnt i + 1 = cnt (i + 1)) ∨ (i = 3 ∧ x = .ref l) := by
      match i, hx with
      | 0, hx => cases hx; exact .inl ⟨q1, "x", rfl, n1, rfl⟩
      | 1, hx => cases hx; exact .inl ⟨q2, "y", rfl, n2, rfl⟩
      | 2, hx => cases hx; exact .inl ⟨q3, "y", rfl, n3, rfl⟩
      | 3, hx => cases hx; exact .inr ⟨rfl, rfl⟩
      | _ + 4, hx => cases hx
    clear hx
    rcases hc with ⟨q, a, rfl, hq, ec⟩ | ⟨rfl, rfl⟩
    · have hq' := sm _ _ hq
      refine ⟨_, rfl, _, _, rfl, rfl, ?_⟩
      refine ⟨_, rfl, q, _, 0, _, rfl, rfl, SqT.of hq', rfl, sz1000 (Nat.le_of_ble_eq_true rfl), fun t nt => ?_⟩
      generalize e1 : upd H' t _ = H1
      have s1 := same_of e1 nt
      refine ⟨t, _, rfl, .inr (SqT.of (at_of' e1)), rfl, rfl, _, rfl, iteO (by decide +kernel) ⟨Same.trans sm s1, some (.ref q), z, ?_⟩⟩
      rw [← ec]
      rfl
    · skip
      have hl' := sm _ _ hl
      refine ⟨_, rfl, _, _, rfl, rfl, ?_⟩
      refine ⟨_, rfl, l, _, 0, _, rfl, rfl, SqT.of hl', rfl, sz1000 (Nat.le_of_ble_eq_true rfl), fun t nt => ?_⟩
      generalize e1 : upd H' t _ = H1
      have s1 := same_of e1 nt
      refine ⟨t, _, rfl, .inr (SqT.of (at_of' e1)), rfl, rfl, _, rfl, iteE (by decide +kernel) ?_⟩
      refine ⟨_, rfl, _, rfl, _, rfl, l, _, rfl, SqT.of (s1 _ _ hl'), sx2, fun S nS => ?_⟩
      generalize e2 : upd H1 S _ = H2
      have s2 := same_of e2 nS
      have hS2 : H2 S = some (.tup [.ref bl]) := at_of' e2
      refine ⟨S, rfl, ⟨_, SqT.of hS2⟩, fun D nD => ?_⟩
      refine lc_tup (xs := [.ref bl]) (LcF H2 D one3) (lcF0 nD rfl) (fun i H' _ q => SqT.of (q.1 _ _ hS2)) ?_ ?_
      · intro i x H3 hx q
        match i, hx with
        | 0, hx =>
          cases hx
          refine ⟨rfl, _, rfl, _, rfl, bl, rfl, hbl.kp (Same.kp (Same.trans (Same.trans (Same.trans sm s1) s2) q.1)), fun H4 s4 => lcFS nD q (by decide) s4 rfl⟩
        | _ + 1, hx => cases hx
      · intro H3 q
        refine ⟨D, [3], rfl, SqL.of q.2, _, _, rfl, rfl, Same.trans (Same.trans (Same.trans sm s1) s2) q.1, _, _, rfl⟩
  · rintro σ H' ⟨sm, y, z, rfl⟩
    exact ⟨_, rfl, h H' sm⟩
theorem same_but {p : Addr} {H H1 H2 : Hp} (s : Same H H1) (b : But p H1 H2) (n : H p = none) : Same H H2 := fun a o h => b a o (ne_of_none h n) (s a o h)
theorem same_make {H H1 : Hp} {x dx : Addr} {u v : HO} (e : upd (upd H dx u) x v = H1) (nx : H x = none) (nd : H dx = none) : Same H H1 := fun a o h => by
  rw [← e, upd_ne (ne_of_none h nx), upd_ne (ne_of_none h nd)]
  exact h
theorem at_make {H H1 : Hp} {x dx : Addr} {u v : HO} (e : upd (upd H dx u) x v = H1) : H1 x = some v := by
  rw [← e]
  exact upd_same
def spTreeOf : Sp := sp1 fun v H Q _ => v = .str srcT ∧ ∀ H' r, Same H H' → TreeT H' r → Q (.ref r) H'
abbrev N_tree_of : List Str := ["value", "words", "row", "found"]
theorem sc_tree_of : FnScope N_tree_of ["value"] (defScope s_tree_of) := ⟨rfl, rfl, rfl, by decide +kernel, rfl, by decide +kernel, by decide +kernel⟩
theorem ok_tree_of {P : Program} {w : World} {K : PySem.W.Frag} {mg : Str → Option Value} {base : Heap} (T : TopE K mg) : FnAt P w K mg base CX0 12 (He.ga K "tree_of") ["value"] spTreeOf := by
  refine fnAt0 (k := 11) T.f_tree_of sc_tree_of len1 (fun _ _ _ _ _ _ us hl => match us, hl with | [_], _ => rfl) (fun cdv A outer s H vs Q E hr h => ?_)
  have hu := hu_of hr
  obtain ⟨v_value, rfl, h⟩ := h
  refine ⟨_, (pss_cons (ps_set (i := 1) sc_tree_of.nd rfl (Or.inl rfl) (pe_ifExp (pt_val (pe_callB call_isi (by rfl) T.z_isinstance (by decide +kernel) (pa_cons (pv 0) (pa_cons (pe_ty (n := "str") T.z_str) pa_nil)))) (pe_f (ok_split_words T) (hr.mono (by decide)) T.g_split_words pass0 (pa_cons (pv 0) pa_nil)) pe_non))
    (pss_cons (ps_if (pt_cmpR op_isN (pv 1) pe_non (nomark _)) pss_never pss_nil)
    (pss_cons (ps_set (i := 2) sc_tree_of.nd rfl (Or.inl rfl) (pe_mk T.k_Words (ok_Words_init T) (hr.mono (by decide)) T.g_Words pass0 (pa_cons (pv 1) pa_nil)))
    (pss_cons (ps_set (i := 3) sc_tree_of.nd rfl (Or.inl rfl) (pe_f (ok_read_rows0 T) (hr.mono (by decide)) T.g_read_rows pass0 (pa_cons (pv 2) (pa_cons pe_int pa_nil))))
    (pss_cons (ps_if (PW.pt (pw_or (pt_cmpR op_isN (pv 3) pe_non (nomark _)) (pw_or (pt_not (pt_val (pe_mt0 (pv 2) T.c_Words T.m_Words_is_over (ok_Words_is_over T) (hr.mono (by decide)) pass0))) (pw_or1 (pt_cmpR op_gt (pe_f (ok_count_statements0 T) (hr.mono (by decide)) T.g_count_statements pass0 (pa_cons (pv 3) pa_nil)) (pe_gi T.i_MOST_STATEMENTS) (nomark _)))))) pss_never pss_nil)
    (pss_one (ps_ret (pv 3)))))))), ?_⟩
  obtain ⟨rfl, h⟩ := h
  refine ⟨_, rfl, _, _, _, _, true, rfl, .ty _, .base (.str _), kit_ty (by decide +kernel), _, rfl, iteT ⟨_, rfl, _, rfl, rfl, fun H1 L s1 hL => ?_⟩⟩
  refine ⟨_, rfl, rfl, _, rfl, iteF ⟨_, rfl, fun x dx nx nd _ => ?_⟩⟩
  generalize e2 : upd (upd H1 dx _) x _ = H2
  have s2 := same_make e2 nx nd
  refine ⟨_, _, rfl, x, dx, L, rfl, rfl, at_make e2, s2 _ _ hL, fun H3 b3 wa3 => ⟨rfl, ?_⟩⟩
  have s3 := same_but s2 b3 nx
  refine ⟨_, rfl, _, _, rfl, x, rfl, rfl, wa3, fun H4 r b4 wa4 ht => ?_⟩
  have s4 := same_but s3 b4 nx
  obtain ⟨dx4, L4, hp4, _⟩ := id wa4
  refine ⟨_, rfl, rfl, _, rfl, iteF ⟨_, rfl, x, dx4, _, rfl, hp4, wdF_no_is_over _ _, _, rfl, x, rfl, wa4, _, rfl, iteF ?_⟩⟩
  refine ⟨_, rfl, _, rfl, r, rfl, ht, fun H5 s5 => ⟨_, _, rfl, rfl, _, rfl, iteF ⟨_, rfl, h H5 r (Same.trans (Same.trans s1 s4) s5) (ht.kp (Same.kp s5))⟩⟩⟩
abbrev N_program_tree : List Str := ["program", "tree"]
theorem sc_program_tree : FnScope N_program_tree ["program"] (defScope s_program_tree) := ⟨rfl, rfl, rfl, by decide +kernel, rfl, by decide +kernel, by decide +kernel⟩
theorem ok_program_tree {P : Program} {w : World} {K : PySem.W.Frag} {mg : Str → Option Value} {base : Heap} (T : TopE K mg) : FnAt P w K mg base CX0 13 (He.ga K "program_tree") ["program"] spTreeOf := by
  refine fnAt0 (k := 12) T.f_program_tree sc_program_tree len1 (fun _ _ _ _ _ _ us hl => match us, hl with | [_], _ => rfl) (fun cdv A outer s H vs Q E hr h => ?_)
  have hu := hu_of hr
  obtain ⟨v_program, rfl, h⟩ := h
  refine ⟨_, (pss_cons (ps_set (i := 1) sc_program_tree.nd rfl (Or.inl rfl) (pe_f (ok_tree_of T) (hr.mono (by decide)) T.g_tree_of pass0 (pa_cons (pv 0) pa_nil)))
    (pss_cons (ps_if (pt_cmpR op_isN (pv 1) pe_non (nomark _)) pss_never pss_nil)
    (pss_one (ps_ret (pv 1))))), ?_⟩
  obtain ⟨rfl, h⟩ := h
  refine ⟨_, rfl, _, rfl, rfl, fun H1 r s1 ht => ?_⟩
  exact ⟨_, rfl, rfl, _, rfl, iteF ⟨_, rfl, h H1 r s1 ht⟩⟩

end K66
end
section
set_option Elab.async false
set_option linter.all false
set_option maxRecDepth 100000
set_option maxHeartbeats 4000000
namespace K66
open PySem PySem.Spec PyProof.Rows L2
local macro_rules | `(tactic| walk_at "rd") => `(tactic| repeat (first | refine ⟨_, rfl, ?_⟩ | refine ⟨_, _, rfl, rfl, ?_⟩ | refine ⟨rfl, ?_⟩))
local macro_rules | `(tactic| walk_at "hp") => `(tactic| (first | assumption | solve_by_elim (maxDepth := 12)))
local macro_rules | `(tactic| walk_at "pl") => `(tactic| ((repeat (refine putF_lt ?_)); exact Nat.le_of_ble_eq_true rfl))
/-! ## the letters of the tree -/
def xyT : List (Key × V) := [(Sum.inr "x", .bl true), (Sum.inr "y", .bl true)]
theorem xy_sorted {ys : List Str} (p : ys.Perm [("x" : Str), "y"]) (h : sortedS ys = true) : ys = ([("x" : Str), "y"] : List Str) := by
  have hl := p.length_eq
  have hn : ys.Nodup := p.nodup_iff.mpr (by decide)
  match ys, hl with
  | [a, b], _ =>
    have ha : a = "x" ∨ a = "y" := by simpa using p.mem_iff.mp (show a ∈ [a, b] by simp)
    have hb : b = "x" ∨ b = "y" := by simpa using p.mem_iff.mp (show b ∈ [a, b] by simp)
    have hab : a ≠ b := by simpa using hn
    rcases ha with rfl | rfl <;> rcases hb with rfl | rfl
    · exact absurd rfl hab
    · rfl
    · exact absurd h (by decide +kernel)
    · exact absurd rfl hab
def spTestLetters : Sp := sp1 fun v H Q _ => ∃ t, v = .ref t ∧ TestT H t ∧ ∀ H' l, Same H H' → H' l = some (.lst [.str "x", .str "y"]) → Q (.ref l) H'
abbrev N_test_letters : List Str := ["tree", "found", "sign", "one", "other"]
theorem sc_test_letters : FnScope N_test_letters ["tree"] (defScope s_test_letters) := ⟨rfl, rfl, rfl, by decide +kernel, rfl, by decide +kernel, by decide +kernel⟩
theorem ok_test_letters {P : Program} {w : World} {K : PySem.W.Frag} {mg : Str → Option Value} {base : Heap} (T : TopE K mg) : FnAt P w K mg base CX0 1 (He.ga K "test_letters") ["tree"] spTestLetters := by
  refine fnAt0 (k := 0) T.f_test_letters sc_test_letters len1 (fun _ _ _ _ _ _ us hl => match us, hl with | [_], _ => rfl) (fun cdv A outer s H vs Q E hr h => ?_)
  have hu := hu_of hr
  obtain ⟨v_tree, rfl, h⟩ := h
  refine ⟨_, (pss_cons (ps_set (i := 1) sc_test_letters.nd rfl (Or.inl rfl) pe_dnewK)
    (pss_cons (ps_for PassesOwn.never rfl (pi_tup (pe_ix ix_tup (pv 0) pe_int (fun _ _ => rfl))) (pg_tup (by rfl) (pgs_cons (pg_name (i := 2) sc_test_letters.nd rfl (Or.inl rfl)) (pgs_cons (pg_name (i := 3) sc_test_letters.nd rfl (Or.inl rfl)) (pgs_cons (pg_name (i := 4) sc_test_letters.nd rfl (Or.inl rfl)) pgs_nil)))) (pss_cons (ps_dput hu (pv 1) (pv 3) pe_bl rfl)
    (pss_one (ps_if (pt_cmpR op_ne (pv 4) pe_str (nomark _)) (pss_one (ps_dput hu (pv 1) (pv 4) pe_bl rfl)) pss_nil))))
    (pss_one (ps_ret (pe_callB (call_sortedD rfl) (by rfl) T.z_sorted (by decide +kernel) (pa_cons (pv 1) pa_nil)))))), ?_⟩
  obtain ⟨t, rfl, ⟨cs, c, o, ht, hcs, hc⟩, h⟩ := h
  intro D nD
  generalize e1 : upd H D _ = H1
  have s1 := same_of e1 nD
  have hD1 := at_of' e1
  have sq : ∀ H', Same H H' → SqT K H' cs [.ref c] := fun H' s => .inl (.inr ⟨o, s _ _ hcs⟩)
  refine ⟨_, rfl, t, _, 1, _, rfl, rfl, SqT.of (s1 _ _ ht), rfl, cs, rfl, ⟨_, sq H1 s1⟩, for_tup (xs := [.ref c]) (fun i σ H' => Same H H' ∧ (i = 0 ∧ σ = [some (.ref t), some (.ref D), none, none, none] ∧ H' D = some (.dK []) ∨ i = 1 ∧ (∃ a b d, σ = [some (.ref t), some (.ref D), a, b, d]) ∧ H' D = some (.dK xyT))) ⟨s1, .inl ⟨rfl, rfl, hD1⟩⟩ (fun i σ H' _ q => sq H' q.1) ?_ ?_⟩
  · rintro i x σ H' hx ⟨sm, hh⟩
    match i, hx with
    | 0, hx =>
      cases hx
      rcases hh with ⟨_, rfl, hD⟩ | ⟨z, _⟩
      · refine ⟨c, _, rfl, SqT.of (sm _ _ hc), rfl, _, _, rfl, _, _, rfl, _, _, rfl, rfl, ?_⟩
        refine ⟨_, rfl, _, rfl, D, _, rfl, DPut.k (k := Sum.inr "x") hD (szn (Nat.le_of_ble_eq_true rfl)), ?_⟩
        generalize e2 : upd H' D _ = H2
        have b2 := but_upd e2
        refine ⟨_, rfl, rfl, _, rfl, iteE (by decide +kernel) ⟨_, rfl, _, rfl, D, _, rfl, DPut.k (k := Sum.inr "y") (at_of' e2) (szn (Nat.le_of_ble_eq_true rfl)), ?_⟩⟩
        generalize e3 : upd H2 D _ = H3
        have b3 := but_upd e3
        exact ⟨same_but sm (But.trans b2 b3) nD, .inr ⟨rfl, ⟨_, _, _, rfl⟩, at_of' e3⟩⟩
      · cases z
    | _ + 1, hx => cases hx
  · rintro σ H' ⟨sm, ⟨z, _⟩ | ⟨_, ⟨a, b, d, rfl⟩, hD⟩⟩
    · cases z
    · refine ⟨_, rfl, D, _, ["x", "y"], rfl, .inl hD, rfl, by decide, fun ys p hp hs np => ?_⟩
      rw [xy_sorted hp hs]
      generalize e4 : upd H' p _ = H4
      exact h H4 p (Same.trans sm (same_of e4 np)) (at_of' e4)
def putS (d : List (Key × V)) (ks : List Str) : List (Key × V) := ks.foldl (fun d k => putK d (Sum.inr k) (.bl true)) d
theorem putK_le (c : List (Key × V)) (k : Key) (x : V) : (putK c k x).length ≤ c.length + 1 := by
  unfold putK
  split
  · rw [List.length_map]; exact Nat.le_succ _
  · rw [List.length_append]; exact Nat.le_refl _
theorem putS_le : ∀ (ks : List Str) (d : List (Key × V)), (putS d ks).length ≤ d.length + ks.length
  | [], d => Nat.le_refl _
  | k :: r, d => by
    have h1 := putS_le r (putK d (Sum.inr k) (.bl true))
    have h2 := putK_le d (Sum.inr k) (.bl true)
    show (putS (putK d (Sum.inr k) (.bl true)) r).length ≤ _
    simp only [List.length_cons]
    omega
theorem putS_snoc (d : List (Key × V)) (ks : List Str) (k : Str) : putS d (ks ++ [k]) = putK (putS d ks) (Sum.inr k) (.bl true) := by
  unfold putS
  rw [List.foldl_append]
  rfl
def fdD : Nat → List (Key × V)
  | 0 => []
  | 1 => [(Sum.inr "x", .bl true)]
  | _ => xyT
def wordL (a : Str) : Nat → List V
  | 0 => []
  | 1 => [.str a]
  | _ => [.str a, .str a]
def spTreeLetters1 : Sp := sp1 fun v H Q _ => ∃ t, v = .ref t ∧ BodyT H t ∧ ∀ H' l, Same H H' → H' l = some (.lst [.str "x", .str "y"]) → Q (.ref l) H'
abbrev N_tree_letters : List Str := ["tree", "found", "part", "mine", "inner", "letter", "word"]
theorem sc_tree_letters : FnScope N_tree_letters ["tree"] (defScope s_tree_letters) := ⟨rfl, rfl, rfl, by decide +kernel, rfl, by decide +kernel, by decide +kernel⟩
theorem ok_tree_letters1 {P : Program} {w : World} {K : PySem.W.Frag} {mg : Str → Option Value} {base : Heap} (T : TopE K mg) : FnAt P w K mg base CX0 1 (He.ga K "tree_letters") ["tree"] spTreeLetters1 := by
  refine fnAt0 (k := 0) T.f_tree_letters sc_tree_letters len1 (fun _ _ _ _ _ _ us hl => match us, hl with | [_], _ => rfl) (fun cdv A outer s H vs Q E hr h => ?_)
  have hu := hu_of hr
  obtain ⟨v_tree, rfl, h⟩ := h
  refine ⟨_, (pss_cons (ps_set (i := 1) sc_tree_letters.nd rfl (Or.inl rfl) pe_dnewK)
    (pss_cons (ps_for PassesOwn.never rfl (pi_tup (pv 0)) (pg_name (i := 2) sc_tree_letters.nd rfl (Or.inl rfl)) (pss_cons (ps_if (pt_cmpR op_notIn_seq (pe_ix ix_tup (pv 2) pe_int (fun _ _ => rfl)) (pe_tup (pa_cons pe_str (pa_cons pe_str pa_nil))) rfl) (pss_one (by (apply ps_setLcX (s0 := s) (i := 3) (own := [("word", 6)])); exact rfl; exact sc_tree_letters.nd; exact rfl; exact rfl; exact (sw_true rfl rfl rfl (by decide +kernel)); exact (pi_tup (pe_slice sl_tup (pv 2) (po_some pe_int) po_none)); exact (blkOk_by (N := N_tree_letters) (sc := defScope s_tree_letters) (by decide +kernel)); (intro _ _ _ _ _; exact (pg_name (i := 6) sc_tree_letters.nd rfl (Or.inl rfl))); (intro _ _ _ _ _; exact (pts_one (pt_cmpR op_ne (pv 6) pe_str (nomark _)))); (intro _ _ _ _ _; exact (pv 6)); exact (fun _ => rfl); exact (fun _ _ _ _ _ => rfl); exact (fun _ _ _ _ _ => rfl); exact (fun _ _ _ _ _ => rfl))) pss_never)
    (pss_one (ps_for PassesOwn.never rfl (pi_list (pv 3)) (pg_name (i := 5) sc_tree_letters.nd rfl (Or.inl rfl)) (pss_one (ps_dput hu (pv 1) (pv 5) pe_bl rfl))))))
    (pss_one (ps_ret (pe_callB (call_sortedD rfl) (by rfl) T.z_sorted (by decide +kernel) (pa_cons (pv 1) pa_nil)))))), ?_⟩
  obtain ⟨t, rfl, ⟨o, q1, q2, q3, ht, n1, n2, n3⟩, h⟩ := h
  intro D nD
  generalize e1 : upd H D _ = H1
  have s1 := same_of e1 nD
  have hD1 := at_of' e1
  have sq : ∀ H', Same H H' → SqT K H' t [.ref q1, .ref q2, .ref q3] := fun H' s => .inl (.inr ⟨o, s _ _ ht⟩)
  refine ⟨_, rfl, t, rfl, ⟨_, sq H1 s1⟩, for_tup (xs := [.ref q1, .ref q2, .ref q3]) (fun i σ H' => Same H H' ∧ (∃ a b c d e, σ = [some (.ref t), some (.ref D), a, b, c, d, e]) ∧ H' D = some (.dK (fdD i))) ⟨s1, ⟨_, _, _, _, _, rfl⟩, hD1⟩ (fun i σ H' _ q => sq H' q.1) ?_ ?_⟩
  · rintro i x σ H' hx ⟨sm, ⟨a1, a2, a3, a4, a5, rfl⟩, hD⟩
    have hq : ∃ (q : Addr) (a : Str), x = .ref q ∧ H q = some (.tup [.str "next", .str a, .str a]) ∧ (V.str a ≠ V.str "END") ∧ putS (fdD i) [a, a] = fdD (i + 1) ∧ (fdD i).length ≤ 2 := by
      match i, hx with
      | 0, hx => cases hx; exact ⟨q1, "x", rfl, n1, by decide +kernel, rfl, by decide⟩
      | 1, hx => cases hx; exact ⟨q2, "y", rfl, n2, by decide +kernel, rfl, by decide⟩
      | 2, hx => cases hx; exact ⟨q3, "y", rfl, n3, by decide +kernel, rfl, by decide⟩
      | _ + 3, hx => cases hx
    obtain ⟨q, a, rfl, hq, ne, hput, few⟩ := hq
    clear hx
    have hq' := sm _ _ hq
    refine ⟨_, rfl, q, _, 0, _, rfl, rfl, SqT.of hq', rfl, sz1000 (Nat.le_of_ble_eq_true rfl), fun tt ntt => ?_⟩
    generalize e2 : upd H' tt _ = H2
    have s2 := same_of e2 ntt
    refine ⟨tt, _, rfl, .inr (SqT.of (at_of' e2)), rfl, rfl, _, rfl, iteE (by decide +kernel) ?_⟩
    have hq2 := s2 _ _ hq'
    refine ⟨_, rfl, _, rfl, q, _, rfl, SqT.of hq2, sx1, fun S nS => ?_⟩
    generalize e3 : upd H2 S _ = H3
    have s3 := same_of e3 nS
    have hS3 : H3 S = some (.tup [.str a, .str a]) := at_of' e3
    refine ⟨S, rfl, ⟨_, SqT.of hS3⟩, fun M nM => ?_⟩
    refine lc_tup (xs := [.str a, .str a]) (LcF H3 M (wordL a)) (lcF0 nM rfl) (fun i H' _ q => SqT.of (q.1 _ _ hS3)) ?_ ?_
    · intro j x H4 hx q4
      have ex : x = .str a := by
        match j, hx with
        | 0, hx => cases hx; rfl
        | 1, hx => cases hx; rfl
        | _ + 2, hx => cases hx
      have hj : j < 2 := (List.getElem?_eq_some_iff.mp hx).1
      subst ex
      refine ⟨rfl, _, rfl, rfl, _, rfl, iteE ?_ ⟨_, rfl, ?_⟩⟩
      · rw [decide_eq_false ne]
        rfl
      · match j, hj with
        | 0, _ => exact lcFS nM q4 (szn (Nat.le_of_ble_eq_true rfl)) (Same.refl _) rfl
        | 1, _ => exact lcFS nM q4 (szn (Nat.le_of_ble_eq_true rfl)) (Same.refl _) rfl
    · intro H4 q4
      have s4 := Same.trans (Same.trans (Same.trans sm s2) s3) q4.1
      have s4' := Same.trans (Same.trans s2 s3) q4.1
      have hM : H4 M = some (.lst [.str a, .str a]) := q4.2
      have MD : M ≠ D := fun e => by
        subst e
        rw [s3 _ _ (s2 _ _ hD)] at nM
        cases nM
      refine ⟨_, rfl, M, rfl, ⟨_, SqL.of hM⟩, for_list (xs := [.str a, .str a]) (fun j σ H' => Same H H' ∧ (∃ a b c d e, σ = [some (.ref t), some (.ref D), a, b, c, d, e]) ∧ H' M = some (.lst [.str a, .str a]) ∧ H' D = some (.dK (putS (fdD i) ([a, a].take j)))) ⟨s4, ⟨_, _, _, _, _, rfl⟩, hM, s4' _ _ hD⟩ (fun j σ H' _ q => SqL.of q.2.2.1) ?_ ?_⟩
      · rintro j x σ H5 hx ⟨s5, ⟨a1, a2, a3, a4, a5, rfl⟩, hM5, hD5⟩
        have ex : x = .str a := by
          match j, hx with
          | 0, hx => cases hx; rfl
          | 1, hx => cases hx; rfl
          | _ + 2, hx => cases hx
        have hj : j < 2 := (List.getElem?_eq_some_iff.mp hx).1
        subst ex
        have hl := putS_le ([a, a].take j) (fdD i)
        have hl2 : ([a, a].take j).length ≤ 2 := by rw [List.length_take]; exact Nat.min_le_right _ _
        refine ⟨_, rfl, _, rfl, D, _, rfl, DPut.k (k := Sum.inr a) hD5 (szn (by omega)), ?_⟩
        generalize e6 : upd H5 D _ = H6
        have b6 := but_upd e6
        refine ⟨same_but s5 b6 nD, ⟨_, _, _, _, _, rfl⟩, b6 M _ MD hM5, ?_⟩
        rw [at_of' e6, ← putS_snoc]
        match j, hj with
        | 0, _ => rfl
        | 1, _ => rfl
      · rintro σ H5 ⟨s5, q5, hM5, hD5⟩
        refine ⟨s5, q5, ?_⟩
        rw [hD5, ← hput]
        rfl
  · rintro σ H' ⟨sm, ⟨a, b, c, d, e, rfl⟩, hD⟩
    refine ⟨_, rfl, D, _, ["x", "y"], rfl, .inl hD, rfl, by decide, fun ys p hp hs np => ?_⟩
    rw [xy_sorted hp hs]
    generalize e4 : upd H' p _ = H4
    exact h H4 p (Same.trans sm (same_of e4 np)) (at_of' e4)
def spTreeLetters0 : Sp := sp1 fun v H Q _ => ∃ t, v = .ref t ∧ TreeT H t ∧ ∀ H' l, Same H H' → H' l = some (.lst [.str "x", .str "y"]) → Q (.ref l) H'
theorem ok_tree_letters0 {P : Program} {w : World} {K : PySem.W.Frag} {mg : Str → Option Value} {base : Heap} (T : TopE K mg) : FnAt P w K mg base CX0 2 (He.ga K "tree_letters") ["tree"] spTreeLetters0 := by
  refine fnAt0 (k := 1) T.f_tree_letters sc_tree_letters len1 (fun _ _ _ _ _ _ us hl => match us, hl with | [_], _ => rfl) (fun cdv A outer s H vs Q E hr h => ?_)
  have hu := hu_of hr
  obtain ⟨v_tree, rfl, h⟩ := h
  refine ⟨_, (pss_cons (ps_set (i := 1) sc_tree_letters.nd rfl (Or.inl rfl) pe_dnewK)
    (pss_cons (ps_for PassesOwn.never rfl (pi_tup (pv 0)) (pg_name (i := 2) sc_tree_letters.nd rfl (Or.inl rfl)) (pss_cons (ps_if (pt_cmpR op_notIn_seq (pe_ix ix_tup (pv 2) pe_int (fun _ _ => rfl)) (pe_tup (pa_cons pe_str (pa_cons pe_str pa_nil))) rfl) (pss_one (by (apply ps_setLcX (s0 := s) (i := 3) (own := [("word", 6)])); exact rfl; exact sc_tree_letters.nd; exact rfl; exact rfl; exact (sw_true rfl rfl rfl (by decide +kernel)); exact (pi_tup (pe_slice sl_tup (pv 2) (po_some pe_int) po_none)); exact (blkOk_by (N := N_tree_letters) (sc := defScope s_tree_letters) (by decide +kernel)); (intro _ _ _ _ _; exact (pg_name (i := 6) sc_tree_letters.nd rfl (Or.inl rfl))); (intro _ _ _ _ _; exact (pts_one (pt_cmpR op_ne (pv 6) pe_str (nomark _)))); (intro _ _ _ _ _; exact (pv 6)); exact (fun _ => rfl); exact (fun _ _ _ _ _ => rfl); exact (fun _ _ _ _ _ => rfl); exact (fun _ _ _ _ _ => rfl))) (pss_cons (ps_set (i := 3) sc_tree_letters.nd rfl (Or.inl rfl) (pe_f (ok_test_letters T) (hr.mono (by decide)) T.g_test_letters pass0 (pa_cons (pe_ix ix_tup (pv 2) pe_int (fun _ _ => rfl)) pa_nil)))
    (pss_one (ps_for PassesOwn.never rfl (pi_tup (pe_slice sl_tup (pv 2) (po_some pe_int) po_none)) (pg_name (i := 4) sc_tree_letters.nd rfl (Or.inl rfl)) (pss_one (ps_set (i := 3) sc_tree_letters.nd rfl (Or.inl rfl) (pe_op op_cat (pv 3) (pe_f (ok_tree_letters1 T) (hr.mono (by decide)) T.g_tree_letters pass0 (pa_cons (pv 4) pa_nil)))))))))
    (pss_one (ps_for PassesOwn.never rfl (pi_list (pv 3)) (pg_name (i := 5) sc_tree_letters.nd rfl (Or.inl rfl)) (pss_one (ps_dput hu (pv 1) (pv 5) pe_bl rfl))))))
    (pss_one (ps_ret (pe_callB (call_sortedD rfl) (by rfl) T.z_sorted (by decide +kernel) (pa_cons (pv 1) pa_nil)))))), ?_⟩
  obtain ⟨t, rfl, ⟨o, q1, q2, q3, lp, ht, n1, n2, n3, tl, bl, hl, htl, hbl⟩, h⟩ := h
  intro D nD
  generalize e1 : upd H D _ = H1
  have s1 := same_of e1 nD
  have hD1 := at_of' e1
  have sq : ∀ H', Same H H' → SqT K H' t [.ref q1, .ref q2, .ref q3, .ref lp] := fun H' s => .inl (.inr ⟨o, s _ _ ht⟩)
  refine ⟨_, rfl, t, rfl, ⟨_, sq H1 s1⟩, for_tup (xs := [.ref q1, .ref q2, .ref q3, .ref lp]) (fun i σ H' => Same H H' ∧ (∃ a b c d e, σ = [some (.ref t), some (.ref D), a, b, c, d, e]) ∧ H' D = some (.dK (fdD i))) ⟨s1, ⟨_, _, _, _, _, rfl⟩, hD1⟩ (fun i σ H' _ q => sq H' q.1) ?_ ?_⟩
  · rintro i x σ H' hx ⟨sm, ⟨a1, a2, a3, a4, a5, rfl⟩, hD⟩
    have hc : (∃ (q : Addr) (a : Str), x = .ref q ∧ H q = some (.tup [.str "next", .str a, .str a]) ∧ (V.str a ≠ V.str "END") ∧ putS (fdD i) [a, a] = fdD (i + 1) ∧ (fdD i).length ≤ 2) ∨ (i = 3 ∧ x = .ref lp) := by
      match i, hx with
      | 0, hx => cases hx; exact .inl ⟨q1, "x", rfl, n1, by decide +kernel, rfl, by decide⟩
      | 1, hx => cases hx; exact .inl ⟨q2, "y", rfl, n2, by decide +kernel, rfl, by decide⟩
      | 2, hx => cases hx; exact .inl ⟨q3, "y", rfl, n3, by decide +kernel, rfl, by decide⟩
      | 3, hx => cases hx; exact .inr ⟨rfl, rfl⟩
      | _ + 4, hx => cases hx
    clear hx
    rcases hc with ⟨q, a, rfl, hq, ne, hput, few⟩ | ⟨rfl, rfl⟩
    · have hq' := sm _ _ hq
      refine ⟨_, rfl, q, _, 0, _, rfl, rfl, SqT.of hq', rfl, sz1000 (Nat.le_of_ble_eq_true rfl), fun tt ntt => ?_⟩
      generalize e2 : upd H' tt _ = H2
      have s2 := same_of e2 ntt
      refine ⟨tt, _, rfl, .inr (SqT.of (at_of' e2)), rfl, rfl, _, rfl, iteE (by decide +kernel) ?_⟩
      have hq2 := s2 _ _ hq'
      refine ⟨_, rfl, _, rfl, q, _, rfl, SqT.of hq2, sx1, fun S nS => ?_⟩
      generalize e3 : upd H2 S _ = H3
      have s3 := same_of e3 nS
      have hS3 : H3 S = some (.tup [.str a, .str a]) := at_of' e3
      refine ⟨S, rfl, ⟨_, SqT.of hS3⟩, fun M nM => ?_⟩
      refine lc_tup (xs := [.str a, .str a]) (LcF H3 M (wordL a)) (lcF0 nM rfl) (fun i H' _ q => SqT.of (q.1 _ _ hS3)) ?_ ?_
      · intro j x H4 hx q4
        have ex : x = .str a := by
          match j, hx with
          | 0, hx => cases hx; rfl
          | 1, hx => cases hx; rfl
          | _ + 2, hx => cases hx
        have hj : j < 2 := (List.getElem?_eq_some_iff.mp hx).1
        subst ex
        refine ⟨rfl, _, rfl, rfl, _, rfl, iteE ?_ ⟨_, rfl, ?_⟩⟩
        · rw [decide_eq_false ne]
          rfl
        · match j, hj with
          | 0, _ => exact lcFS nM q4 (szn (Nat.le_of_ble_eq_true rfl)) (Same.refl _) rfl
          | 1, _ => exact lcFS nM q4 (szn (Nat.le_of_ble_eq_true rfl)) (Same.refl _) rfl
      · intro H4 q4
        have s4 := Same.trans (Same.trans (Same.trans sm s2) s3) q4.1
        have s4' := Same.trans (Same.trans s2 s3) q4.1
        have hM : H4 M = some (.lst [.str a, .str a]) := q4.2
        have MD : M ≠ D := fun e => by
          subst e
          rw [s3 _ _ (s2 _ _ hD)] at nM
          cases nM
        refine ⟨_, rfl, M, rfl, ⟨_, SqL.of hM⟩, for_list (xs := [.str a, .str a]) (fun j σ H' => Same H H' ∧ (∃ a b c d e, σ = [some (.ref t), some (.ref D), a, b, c, d, e]) ∧ H' M = some (.lst [.str a, .str a]) ∧ H' D = some (.dK (putS (fdD i) ([a, a].take j)))) ⟨s4, ⟨_, _, _, _, _, rfl⟩, hM, s4' _ _ hD⟩ (fun j σ H' _ q => SqL.of q.2.2.1) ?_ ?_⟩
        · rintro j x σ H5 hx ⟨s5, ⟨a1, a2, a3, a4, a5, rfl⟩, hM5, hD5⟩
          have ex : x = .str a := by
            match j, hx with
            | 0, hx => cases hx; rfl
            | 1, hx => cases hx; rfl
            | _ + 2, hx => cases hx
          have hj : j < 2 := (List.getElem?_eq_some_iff.mp hx).1
          subst ex
          have hl := putS_le ([a, a].take j) (fdD i)
          have hl2 : ([a, a].take j).length ≤ 2 := by rw [List.length_take]; exact Nat.min_le_right _ _
          refine ⟨_, rfl, _, rfl, D, _, rfl, DPut.k (k := Sum.inr a) hD5 (szn (by omega)), ?_⟩
          generalize e6 : upd H5 D _ = H6
          have b6 := but_upd e6
          refine ⟨same_but s5 b6 nD, ⟨_, _, _, _, _, rfl⟩, b6 M _ MD hM5, ?_⟩
          rw [at_of' e6, ← putS_snoc]
          match j, hj with
          | 0, _ => rfl
          | 1, _ => rfl
        · rintro σ H5 ⟨s5, q5, hM5, hD5⟩
          refine ⟨s5, q5, ?_⟩
          rw [hD5, ← hput]
          rfl
    · have hl' := sm _ _ hl
      refine ⟨_, rfl, lp, _, 0, _, rfl, rfl, SqT.of hl', rfl, sz1000 (Nat.le_of_ble_eq_true rfl), fun tt ntt => ?_⟩
      generalize e2 : upd H' tt _ = H2
      have s2 := same_of e2 ntt
      refine ⟨tt, _, rfl, .inr (SqT.of (at_of' e2)), rfl, rfl, _, rfl, iteO (by decide +kernel) ?_⟩
      have hl2 := s2 _ _ hl'
      have sm2 := Same.trans sm s2
      refine ⟨_, rfl, lp, _, 1, _, rfl, rfl, SqT.of hl2, rfl, _, rfl, tl, rfl, htl.kp (Same.kp sm2), fun H3 M0 s3 hM0 => ?_⟩
      have sm3 := Same.trans sm2 s3
      have hl3 := s3 _ _ hl2
      refine ⟨_, rfl, _, rfl, lp, _, rfl, SqT.of hl3, sx2, fun S nS => ?_⟩
      generalize e4 : upd H3 S _ = H4
      have s4 := same_of e4 nS
      have hS4 : H4 S = some (.tup [.ref bl]) := at_of' e4
      have sm4 := Same.trans sm3 s4
      refine ⟨S, rfl, ⟨_, SqT.of hS4⟩, for_tup (xs := [.ref bl]) (fun j σ H5 => Same H4 H5 ∧ (j = 0 ∧ (∃ a b c d e, σ = [some (.ref t), some (.ref D), a, b, c, d, e] ∧ b = some (.ref M0)) ∨ j = 1 ∧ (∃ a c d e M, σ = [some (.ref t), some (.ref D), a, some (.ref M), c, d, e] ∧ H3 M = none ∧ H5 M = some (.lst [.str "x", .str "y", .str "x", .str "y"])))) ⟨Same.refl _, .inl ⟨rfl, _, _, _, _, _, rfl, rfl⟩⟩ (fun i σ H' _ q => SqT.of (q.1 _ _ hS4)) ?_ ?_⟩
      · rintro j x σ H5 hx ⟨s5, hh⟩
        match j, hx with
        | 0, hx =>
          cases hx
          rcases hh with ⟨_, a, b, c, d, e, rfl, rfl⟩ | ⟨z, _⟩
          · refine ⟨_, rfl, _, rfl, _, rfl, bl, rfl, hbl.kp (Same.kp (Same.trans sm4 s5)), fun H6 M1 s6 hM1 => ?_⟩
            refine ⟨M0, M1, _, _, rfl, rfl, s6 _ _ (s5 _ _ (s4 _ _ hM0)), hM1, sz1000 (Nat.le_of_ble_eq_true rfl), fun M nM => ?_⟩
            generalize e7 : upd H6 M _ = H7
            have s7 := same_of e7 nM
            have n3 : H3 M = none := same_none (Same.trans (Same.trans s4 s5) s6) nM
            exact ⟨Same.trans (Same.trans s5 s6) s7, .inr ⟨rfl, _, _, _, _, M, rfl, n3, at_of' e7⟩⟩
          · cases z
        | _ + 1, hx => cases hx
      · rintro σ H5 ⟨s5, ⟨z, _⟩ | ⟨_, a, c, d, e, M, rfl, nM3, hM⟩⟩
        · cases z
        have sm5 := Same.trans sm4 s5
        have hD5 := s5 _ _ (s4 _ _ (s3 _ _ (s2 _ _ hD)))
        have MD : M ≠ D := fun e => by
          subst e
          rw [s3 _ _ (s2 _ _ hD)] at nM3
          cases nM3
        refine ⟨_, rfl, M, rfl, ⟨_, SqL.of hM⟩, for_list (xs := (["x", "y", "x", "y"] : List String).map fun z => V.str (Str.ofString z)) (fun j σ H' => Same H H' ∧ (∃ a b c d e, σ = [some (.ref t), some (.ref D), a, b, c, d, e]) ∧ H' M = some (.lst [.str "x", .str "y", .str "x", .str "y"]) ∧ H' D = some (.dK xyT)) ⟨sm5, ⟨_, _, _, _, _, rfl⟩, hM, hD5⟩ (fun j σ H' _ q => SqL.of q.2.2.1) ?_ ?_⟩
        · rintro j x σ H6 hx ⟨s6, ⟨a1, a2, a3, a4, a5, rfl⟩, hM6, hD6⟩
          have ex : ∃ z : Str, x = .str z ∧ putK xyT (Sum.inr z) (.bl true) = xyT := by
            match j, hx with
            | 0, hx => cases hx; exact ⟨"x", rfl, rfl⟩
            | 1, hx => cases hx; exact ⟨"y", rfl, rfl⟩
            | 2, hx => cases hx; exact ⟨"x", rfl, rfl⟩
            | 3, hx => cases hx; exact ⟨"y", rfl, rfl⟩
            | _ + 4, hx => cases hx
          obtain ⟨z, rfl, ez⟩ := ex
          refine ⟨_, rfl, _, rfl, D, _, rfl, DPut.k (k := Sum.inr z) hD6 (szn (Nat.le_of_ble_eq_true rfl)), ?_⟩
          rw [ez]
          generalize e7 : upd H6 D _ = H7
          have b7 := but_upd e7
          exact ⟨same_but s6 b7 nD, ⟨_, _, _, _, _, rfl⟩, b7 M _ MD hM6, at_of' e7⟩
        · rintro σ H6 ⟨s6, q6, hM6, hD6⟩
          exact ⟨s6, q6, hD6⟩
  · rintro σ H' ⟨sm, ⟨a, b, c, d, e, rfl⟩, hD⟩
    refine ⟨_, rfl, D, _, ["x", "y"], rfl, .inl hD, rfl, by decide, fun ys p hp hs np => ?_⟩
    rw [xy_sorted hp hs]
    generalize e4 : upd H' p _ = H4
    exact h H4 p (Same.trans sm (same_of e4 np)) (at_of' e4)
def spHelpers : Sp := sp2 fun l v H Q _ => ∃ t, l = .str "xy" ∧ v = .ref t ∧ TreeT H t ∧ ∀ H' m, Same H H' → H' m = some (.lst []) → Q (.ref m) H'
abbrev N_helpers_of : List Str := ["letters", "tree", "letter"]
theorem sc_helpers_of : FnScope N_helpers_of ["letters", "tree"] (defScope s_helpers_of) := ⟨rfl, rfl, rfl, by decide +kernel, rfl, by decide +kernel, by decide +kernel⟩
theorem ok_helpers_of {P : Program} {w : World} {K : PySem.W.Frag} {mg : Str → Option Value} {base : Heap} (T : TopE K mg) : FnAt P w K mg base CX0 3 (He.ga K "helpers_of") ["letters", "tree"] spHelpers := by
  refine fnAt0 (k := 2) T.f_helpers_of sc_helpers_of len2 (fun _ _ _ _ _ _ us hl => match us, hl with | [_, _], _ => rfl) (fun cdv A outer s H vs Q E hr h => ?_)
  have hu := hu_of hr
  obtain ⟨v_letters, v_tree, rfl, h⟩ := h
  refine ⟨_, (pss_one (ps_ret (by (apply pe_lcX (s0 := s) (own := [("letter", 2)])); exact rfl; exact sc_helpers_of.nd; exact (pi_list (pe_f (ok_tree_letters0 T) (hr.mono (by decide)) T.g_tree_letters pass0 (pa_cons (pv 1) pa_nil))); exact (blkOk_by (N := N_helpers_of) (sc := defScope s_helpers_of) (by decide +kernel)); (intro _ _ _ _ _; exact (pg_name (i := 2) sc_helpers_of.nd rfl (Or.inl rfl))); (intro _ _ _ _ _; exact (pts_one (pt_cmpR op_notin_str (pv 2) (pv 0) rfl))); (intro _ _ _ _ _; exact (pv 2)); exact (fun _ => rfl); exact (fun _ _ _ _ _ => rfl); exact (fun _ _ _ _ _ => rfl); exact (fun _ _ _ _ _ => rfl)))), ?_⟩
  obtain ⟨t, rfl, rfl, ht, h⟩ := h
  refine ⟨_, rfl, _, rfl, t, rfl, ht, fun H1 L s1 hL => ⟨L, rfl, ⟨_, SqL.of hL⟩, fun D nD => ?_⟩⟩
  refine lc_list (xs := [.str "x", .str "y"]) (LcF H1 D fun _ => []) (lcF0 nD rfl) (fun i H' _ q => SqL.of (q.1 _ _ hL)) ?_ ?_
  · intro j x H2 hx q
    have ex : ∃ z : Str, x = .str z ∧ (!(!(Builtin.Str.occurrences ("xy" : Str) z 0 ("xy" : Str).length 1).isEmpty)) = false := by
      match j, hx with
      | 0, hx => cases hx; exact ⟨"x", rfl, by decide +kernel⟩
      | 1, hx => cases hx; exact ⟨"y", rfl, by decide +kernel⟩
      | _ + 2, hx => cases hx
    obtain ⟨z, rfl, ez⟩ := ex
    exact ⟨rfl, _, rfl, _, rfl, _, _, rfl, rfl, _, rfl, iteO ez (lcFN q (Same.refl _) rfl)⟩
  · intro H2 q
    exact h H2 D (Same.trans s1 q.1) q.2
def spCheckLetters : Sp := sp2 fun l v H Q _ => ∃ t, l = .str "xy" ∧ v = .ref t ∧ TreeT H t ∧ ∀ H', Same H H' → Q .non H'
abbrev N_check_letters : List Str := ["letters", "tree", "many"]
theorem sc_check_letters : FnScope N_check_letters ["letters", "tree"] (defScope s_check_letters) := ⟨rfl, rfl, rfl, by decide +kernel, rfl, by decide +kernel, by decide +kernel⟩
theorem ok_check_letters {P : Program} {w : World} {K : PySem.W.Frag} {mg : Str → Option Value} {base : Heap} (T : TopE K mg) : FnAt P w K mg base CX0 4 (He.ga K "check_letters") ["letters", "tree"] spCheckLetters := by
  refine fnAt0 (k := 3) T.f_check_letters sc_check_letters len2 (fun _ _ _ _ _ _ us hl => match us, hl with | [_, _], _ => rfl) (fun cdv A outer s H vs Q E hr h => ?_)
  have hu := hu_of hr
  obtain ⟨v_letters, v_tree, rfl, h⟩ := h
  refine ⟨_, (pss_cons (ps_set (i := 2) sc_check_letters.nd rfl (Or.inl rfl) (pe_op op_add (pe_callB call_len_str (by rfl) T.z_len (by decide +kernel) (pa_cons (pv 0) pa_nil)) (pe_callB call_len_seq (by rfl) T.z_len (by decide +kernel) (pa_cons (pe_f (ok_helpers_of T) (hr.mono (by decide)) T.g_helpers_of pass0 (pa_cons (pv 0) (pa_cons (pv 1) pa_nil))) pa_nil))))
    (pss_one (ps_if (pt_cmpR op_gt (pv 2) (pe_gi T.i_MOST_LETTERS) (nomark _)) pss_never pss_nil))), ?_⟩
  obtain ⟨t, rfl, rfl, ht, h⟩ := h
  refine ⟨_, rfl, _, rfl, sz1000 (Nat.le_of_ble_eq_true rfl), _, rfl, _, rfl, _, _, rfl, t, rfl, rfl, ht, fun H1 m s1 hm => ?_⟩
  exact ⟨m, _, rfl, .inl (SqL.of hm), _, _, rfl, rfl, _, rfl, _, _, rfl, rfl, _, rfl, iteF (h _ s1)⟩
def spCheckMost : Sp := sp1 fun m H Q _ => m = .int 400 ∧ Q .non H
abbrev N_check_most : List Str := ["most"]
theorem sc_check_most : FnScope N_check_most ["most"] (defScope s_check_most) := ⟨rfl, rfl, rfl, by decide +kernel, rfl, by decide +kernel, by decide +kernel⟩
theorem ok_check_most {P : Program} {w : World} {K : PySem.W.Frag} {mg : Str → Option Value} {base : Heap} (T : TopE K mg) : FnAt P w K mg base CX0 1 (He.ga K "check_most") ["most"] spCheckMost := by
  refine fnAt0 (k := 0) T.f_check_most sc_check_most len1 (fun _ _ _ _ _ _ us hl => match us, hl with | [_], _ => rfl) (fun cdv A outer s H vs Q E hr h => ?_)
  have hu := hu_of hr
  obtain ⟨v_most, rfl, h⟩ := h
  refine ⟨_, (pss_one (ps_if (PW.pt (pw_or (pt_not (pt_val (pe_callB call_isi (by rfl) T.z_isinstance (by decide +kernel) (pa_cons (pv 0) (pa_cons (pe_ty (n := "int") T.z_int) pa_nil))))) (pw_or (pt_val (pe_callB call_isi (by rfl) T.z_isinstance (by decide +kernel) (pa_cons (pv 0) (pa_cons (pe_ty (n := "bool") T.z_bool) pa_nil)))) (pw_or (pt_cmpR op_lt (pv 0) pe_int (nomark _)) (pw_or1 (pt_cmpR op_gt (pv 0) (pe_gi T.i_MOST_STEPS) (nomark _))))))) pss_never pss_nil)), ?_⟩
  obtain ⟨rfl, h⟩ := h
  exact ⟨_, rfl, _, _, _, _, true, rfl, .ty _, .base (.int _), kit_ty (by decide +kernel), _, rfl, iteF ⟨_, rfl, _, _, _, _, false, rfl, .ty _, .base (.int _), kit_ty (by decide +kernel), _, rfl, iteF ⟨_, rfl, _, _, rfl, rfl, _, rfl, iteF ⟨_, rfl, _, _, rfl, rfl, _, rfl, iteF h⟩⟩⟩⟩
def spCheckRun (K : PySem.W.Frag) : Sp := sp1 fun s H Q _ => ∃ p px py cl, s = .ref p ∧ StoreAt K H p px py cl ∧ GoodC cl ∧ Q .non H
abbrev N_check_run_cells : List Str := ["store"]
theorem sc_check_run_cells : FnScope N_check_run_cells ["store"] (defScope s_check_run_cells) := ⟨rfl, rfl, rfl, by decide +kernel, rfl, by decide +kernel, by decide +kernel⟩
theorem ok_check_run_cells {P : Program} {w : World} {K : PySem.W.Frag} {mg : Str → Option Value} {base : Heap} (T : TopE K mg) : FnAt P w K mg base CX0 1 (He.ga K "check_run_cells") ["store"] (spCheckRun K) := by
  refine fnAt0 (k := 0) T.f_check_run_cells sc_check_run_cells len1 (fun _ _ _ _ _ _ us hl => match us, hl with | [_], _ => rfl) (fun cdv A outer s H vs Q E hr h => ?_)
  have hu := hu_of hr
  obtain ⟨v_store, rfl, h⟩ := h
  refine ⟨_, (pss_one (ps_if (pt_cmpR op_gt (pe_callB call_len_seq (by rfl) T.z_len (by decide +kernel) (pa_cons (pe_fld (pv 0) rfl) pa_nil)) (pe_gi T.i_MOST_RUN_CELLS) (nomark _)) pss_never pss_nil)), ?_⟩
  obtain ⟨p, px, py, cl, rfl, st, hg, h⟩ := h
  obtain ⟨dx, tn, tc, dp, da, ob, _, ⟨o, ts, hc, _, hp⟩, _⟩ := st.ob
  have few := hg.few
  have hl := hp.length
  exact ⟨_, rfl, _, _, _, _, _, rfl, ob, T.c_Store, T.n_Store_cells, stF_cells _ _ _ _ _, tc, _, rfl, .inr (.inl (.inr ⟨o, hc⟩)), _, _, rfl, rfl, _, rfl, iteO (by rw [List.length_map]; exact decide_eq_false (by omega)) h⟩

end K66
end
section
set_option Elab.async false
set_option linter.all false
set_option maxRecDepth 100000
set_option maxHeartbeats 4000000
namespace K66
open PySem PySem.Spec PyProof.Rows L2
local macro_rules | `(tactic| walk_at "rd") => `(tactic| repeat (first | refine ⟨_, rfl, ?_⟩ | refine ⟨_, _, rfl, rfl, ?_⟩ | refine ⟨rfl, ?_⟩))
local macro_rules | `(tactic| walk_at "hp") => `(tactic| (first | assumption | solve_by_elim (maxDepth := 12)))
local macro_rules | `(tactic| walk_at "pl") => `(tactic| ((repeat (refine putF_lt ?_)); exact Nat.le_of_ble_eq_true rfl))
/-! ## the steps of the tree -/
def But2 (C N : Addr) (H H' : Hp) : Prop := ∀ a o, a ≠ C → a ≠ N → H a = some o → H' a = some o
theorem But2.trans {C N : Addr} {H H1 H2 : Hp} (x : But2 C N H H1) (y : But2 C N H1 H2) : But2 C N H H2 := fun a o h1 h2 h => y a o h1 h2 (x a o h1 h2 h)
theorem Same.but2 {C N : Addr} {H H' : Hp} (s : Same H H') : But2 C N H H' := fun a o _ _ h => s a o h
theorem But.l2 {C N : Addr} {H H' : Hp} (b : But C H H') : But2 C N H H' := fun a o h _ e => b a o h e
theorem But.r2 {C N : Addr} {H H' : Hp} (b : But N H H') : But2 C N H H' := fun a o _ h e => b a o h e
theorem But2.kp {C N : Addr} {H H' : Hp} {cs ns : List V} (b : But2 C N H H') (hC : H C = some (.lst cs)) (hN : H N = some (.lst ns)) : Kp H H' := fun a o h i =>
  b a o (fun e => by subst e; rw [hC] at h; cases h; cases i) (fun e => by subst e; rw [hN] at h; cases h; cases i) h
def DeedT (H : Hp) (a : Str) (i : Int) (d : Addr) : Prop := ∃ q, H d = some (.tup [.str "deed", .ref q, .int i]) ∧ NextT H a q
theorem DeedT.kp {H H' : Hp} {a : Str} {i : Int} {d : Addr} (k : Kp H H') (h : DeedT H a i d) : DeedT H' a i d := let ⟨q, x, y⟩ := h; ⟨q, k _ _ x rfl, y.kp k⟩
def nm : Nat → Str
  | 0 => "x"
  | _ => "y"
def spPut1 : Sp := sp3 fun v c n H Q _ => ∃ b C N cs k m, v = .ref b ∧ c = .ref C ∧ n = .ref N ∧ BodyT H b ∧ H C = some (.lst cs) ∧ H N = some (.lst [.int k, .int m]) ∧ C ≠ N ∧ cs.length ≤ 10 ∧
  ∀ H' d1 d2 d3, But2 C N H H' → H' C = some (.lst (cs ++ [.ref d1, .ref d2, .ref d3])) → H' N = some (.lst [.int (k + 3), .int m]) → DeedT H' "x" k d1 → DeedT H' "y" (k + 1) d2 → DeedT H' "y" (k + 2) d3 → Q .non H'
abbrev N_put_steps : List Str := ["tree", "code", "counts", "row"]
theorem sc_put_steps : FnScope N_put_steps ["tree", "code", "counts"] (defScope s_put_steps) := ⟨rfl, rfl, rfl, by decide +kernel, rfl, by decide +kernel, by decide +kernel⟩
theorem ok_put_steps1 {P : Program} {w : World} {K : PySem.W.Frag} {mg : Str → Option Value} {base : Heap} (T : TopE K mg) : FnAt P w K mg base CX0 1 (He.ga K "put_steps") ["tree", "code", "counts"] spPut1 := by
  refine fnAt0 (k := 0) T.f_put_steps sc_put_steps len3 (fun _ _ _ _ _ _ us hl => match us, hl with | [_, _, _], _ => rfl) (fun cdv A outer s H vs Q E hr h => ?_)
  have hu := hu_of hr
  obtain ⟨v_tree, v_code, v_counts, rfl, h⟩ := h
  refine ⟨_, (pss_one (ps_for PassesOwn.never rfl (pi_tup (pv 0)) (pg_name (i := 3) sc_put_steps.nd rfl (Or.inl rfl)) (pss_one (ps_if (pt_cmpR op_eq (pe_ix ix_tup (pv 3) pe_int (fun _ _ => rfl)) pe_str (nomark _)) pss_never (pss_one (ps_if (pt_cmpR op_eq (pe_ix ix_tup (pv 3) pe_int (fun _ _ => rfl)) pe_str (nomark _)) pss_never (pss_cons (ps_expr (pe_bm PySem.F.plainAttrs_list PySem.F.slot_list_append PySem.F.type_list_append mt_append (pv 1) (pa_cons (pe_tup (pa_cons pe_str (pa_cons (pv 3) (pa_cons (pe_ix ix_list (pv 2) pe_int (fun _ _ => rfl)) pa_nil)))) pa_nil)))
    (pss_one (ps_asg (pe_op op_add (pe_ix ix_list (pv 2) pe_int (fun _ _ => rfl)) pe_int) (pg_sub (pv 2) pe_int set_list)))))))))), ?_⟩
  obtain ⟨b, C, N, cs, k, m, rfl, rfl, rfl, ⟨o, q1, q2, q3, hb, n1, n2, n3⟩, hC, hN, CN, few, h⟩ := h
  have nl : ∀ {H' : Hp}, But2 C N H H' → SqT K H' b [.ref q1, .ref q2, .ref q3] := fun b2 => .inl (.inr ⟨o, b2.kp hC hN _ _ hb rfl⟩)
  refine ⟨_, rfl, b, rfl, ⟨_, nl (Same.but2 (Same.refl H))⟩, for_tup (xs := [.ref q1, .ref q2, .ref q3]) (fun i σ H' => But2 C N H H' ∧ (∃ x, σ = [some (.ref b), some (.ref C), some (.ref N), x]) ∧ H' N = some (.lst [.int (k + (i : Nat)), .int m]) ∧ ∃ ds : List Addr, H' C = some (.lst (cs ++ ds.map V.ref)) ∧ ds.length = i ∧ ∀ (j : Nat) (d : Addr), ds[j]? = some d → DeedT H' (nm j) (k + (j : Nat)) d)
    ⟨Same.but2 (Same.refl H), ⟨_, rfl⟩, by rw [hN]; simp, [], by rw [hC]; simp, rfl, fun j d e => by simp at e⟩ (fun i σ H' _ q => nl q.1) ?_ ?_⟩
  · rintro i x σ H' hx ⟨b2, ⟨y, rfl⟩, hN', ds, hC', hl, hds⟩
    have hq : ∃ (q : Addr), x = .ref q ∧ NextT H (nm i) q := by
      match i, hx with
      | 0, hx => cases hx; exact ⟨q1, rfl, n1⟩
      | 1, hx => cases hx; exact ⟨q2, rfl, n2⟩
      | 2, hx => cases hx; exact ⟨q3, rfl, n3⟩
      | _ + 3, hx => cases hx
    have hi : i < 3 := (List.getElem?_eq_some_iff.mp hx).1
    obtain ⟨q, rfl, nq⟩ := hq
    clear hx
    have nq' := nq.kp (b2.kp hC hN)
    have hq : H' q = some (.tup [.str "next", .str (nm i), .str (nm i)]) := nq'
    refine ⟨_, rfl, q, _, 0, _, rfl, rfl, SqT.of hq, rfl, rfl, _, rfl, iteO (by decide +kernel) ⟨_, rfl, q, _, 0, _, rfl, rfl, SqT.of hq, rfl, rfl, _, rfl, iteO (by decide +kernel) ?_⟩⟩
    refine ⟨_, rfl, .inl ⟨rfl, _, SqL.of hC'⟩, _, rfl, _, rfl, N, _, 0, _, rfl, rfl, SqL.of hN', rfl, sz1000 (Nat.le_of_ble_eq_true rfl), fun d nd => ?_⟩
    generalize e1 : upd H' d _ = H1
    have s1 := same_of e1 nd
    have hd1 : H1 d = some (.tup [.str "deed", .ref q, .int (k + (i : Nat))]) := at_of' e1
    refine ⟨C, _, _, rfl, rfl, s1 _ _ hC', by rw [List.length_append, List.length_map]; exact szn (by omega), ?_⟩
    generalize e2 : upd H1 C _ = H2
    have b22 := but_upd e2
    have hN2 := b22 N _ (Ne.symm CN) (s1 _ _ hN')
    refine ⟨_, rfl, N, _, 0, _, rfl, rfl, SqL.of hN2, rfl, _, _, rfl, rfl, _, rfl, N, _, 0, 0, rfl, rfl, hN2, rfl, ?_⟩
    generalize e3 : upd H2 N _ = H3
    have b3 := but_upd e3
    have hC2 := at_of' e2
    have t3 : But2 C N H' H3 := ((Same.but2 s1).trans b22.l2).trans b3.r2
    have k3 : Kp H' H3 := t3.kp hC' hN'
    have k13 : Kp H1 H3 := (b22.kp (s1 _ _ hC') rfl).trans (b3.kp hN2 rfl)
    refine ⟨b2.trans t3, ⟨_, rfl⟩, ?_, ds ++ [d], ?_, by rw [List.length_append, hl]; rfl, fun j e hj => ?_⟩
    · have e5 : k + (i : Int) + 1 = k + ((i + 1 : Nat) : Int) := by omega
      rw [← e5]
      exact at_of' e3
    · rw [List.map_append, ← List.append_assoc]
      exact b3 C _ CN hC2
    · by_cases hjl : j < ds.length
      · rw [List.getElem?_append_left hjl] at hj
        exact (hds j e hj).kp k3
      · have e4 : j = ds.length := by
          have := (List.getElem?_eq_some_iff.mp hj).1
          simp at this
          omega
        subst e4
        rw [List.getElem?_append_right (Nat.le_refl _), Nat.sub_self] at hj
        cases hj
        rw [hl]
        exact ⟨q, k13 _ _ hd1 rfl, nq'.kp k3⟩
  · rintro σ H' ⟨b2, _, hN', ds, hC', hl, hds⟩
    match ds, hl with
    | [d1, d2, d3], _ =>
      refine h H' d1 d2 d3 b2 hC' hN' ?_ (hds 1 d2 rfl) (hds 2 d3 rfl)
      have e := hds 0 d1 rfl
      rw [show k + ((0 : Nat) : Int) = k by omega] at e
      exact e
def GoT (H : Hp) (g : Addr) : Prop := H g = some (.tup [.str "go", .int 3])
def LoopS (H : Hp) (l : Addr) : Prop := ∃ t, H l = some (.tup [.str "loop", .ref t, .int 8, .int 0]) ∧ TestT H t
def spPutLoop : Sp := sp3 fun v c n H Q _ => ∃ l C N x0 x1 x2, v = .ref l ∧ c = .ref C ∧ n = .ref N ∧ LoopT H l ∧ H C = some (.lst [x0, x1, x2]) ∧ H N = some (.lst [.int 3, .int 0]) ∧ C ≠ N ∧
  ∀ H' lp d1 d2 d3 g, But2 C N H H' → H' C = some (.lst [x0, x1, x2, .ref lp, .ref d1, .ref d2, .ref d3, .ref g]) → LoopS H' lp → DeedT H' "x" 3 d1 → DeedT H' "y" 4 d2 → DeedT H' "y" 5 d3 → GoT H' g → Q .non H'
abbrev N_put_loop : List Str := ["row", "code", "counts", "at", "number"]
theorem sc_put_loop : FnScope N_put_loop ["row", "code", "counts"] (defScope s_put_loop) := ⟨rfl, rfl, rfl, by decide +kernel, rfl, by decide +kernel, by decide +kernel⟩
theorem ok_put_loop {P : Program} {w : World} {K : PySem.W.Frag} {mg : Str → Option Value} {base : Heap} (T : TopE K mg) : FnAt P w K mg base CX0 2 (He.ga K "put_loop") ["row", "code", "counts"] spPutLoop := by
  refine fnAt0 (k := 1) T.f_put_loop sc_put_loop len3 (fun _ _ _ _ _ _ us hl => match us, hl with | [_, _, _], _ => rfl) (fun cdv A outer s H vs Q E hr h => ?_)
  have hu := hu_of hr
  obtain ⟨v_row, v_code, v_counts, rfl, h⟩ := h
  refine ⟨_, (pss_cons (ps_par (i := 3) (j := 4) rfl sc_put_loop.nd rfl rfl (by decide) rfl rfl (pa_cons (pe_callB call_len_seq (by rfl) T.z_len (by decide +kernel) (pa_cons (pv 1) pa_nil)) (pa_cons (pe_ix ix_list (pv 2) pe_int (fun _ _ => rfl)) pa_nil)) (by rfl))
    (pss_cons (ps_asg (pe_op op_add (pv 4) pe_int) (pg_sub (pv 2) pe_int set_list))
    (pss_cons (ps_expr (pe_bm PySem.F.plainAttrs_list PySem.F.slot_list_append PySem.F.type_list_append mt_append (pv 1) (pa_cons pe_non pa_nil)))
    (pss_cons (ps_expr (pe_f (ok_put_steps1 T) (hr.mono (by decide)) T.g_put_steps pass0 (pa_cons (pe_ix ix_tup (pv 0) pe_int (fun _ _ => rfl)) (pa_cons (pv 1) (pa_cons (pv 2) pa_nil)))))
    (pss_cons (ps_expr (pe_bm PySem.F.plainAttrs_list PySem.F.slot_list_append PySem.F.type_list_append mt_append (pv 1) (pa_cons (pe_tup (pa_cons pe_str (pa_cons (pv 3) pa_nil))) pa_nil)))
    (pss_one (ps_asg (pe_tup (pa_cons pe_str (pa_cons (pe_ix ix_tup (pv 0) pe_int (fun _ _ => rfl)) (pa_cons (pe_callB call_len_seq (by rfl) T.z_len (by decide +kernel) (pa_cons (pv 1) pa_nil)) (pa_cons (pv 4) pa_nil))))) (pg_sub (pv 1) (pv 3) set_list)))))))), ?_⟩
  obtain ⟨l, C, N, x0, x1, x2, rfl, rfl, rfl, ⟨t, b, hl, ht, hb⟩, hC, hN, CN, h⟩ := h
  refine ⟨_, rfl, C, _, rfl, .inl (SqL.of hC), _, rfl, N, _, 1, _, rfl, rfl, SqL.of hN, rfl, _, _, rfl, ?_⟩
  refine ⟨_, rfl, _, _, rfl, rfl, _, rfl, N, _, 1, 1, rfl, rfl, hN, rfl, ?_⟩
  generalize e1 : upd H N _ = H1
  have b1 := but_upd e1
  have hC1 := b1 C _ CN hC
  have hN1 : H1 N = some (.lst [.int 3, .int (0 + 1)]) := at_of' e1
  have k1 := b1.kp hN rfl
  refine ⟨_, rfl, .inl ⟨rfl, _, SqL.of hC1⟩, C, _, _, rfl, rfl, hC1, szn (Nat.le_of_ble_eq_true rfl), ?_⟩
  generalize e2 : upd H1 C _ = H2
  have b2 := but_upd e2
  have hC2 : H2 C = some (.lst [x0, x1, x2, .non]) := at_of' e2
  have hN2 := b2 N _ (Ne.symm CN) hN1
  have k2 := k1.trans (b2.kp hC1 rfl)
  have hl2 := k2 _ _ hl rfl
  refine ⟨_, rfl, l, _, 2, _, rfl, rfl, SqT.of hl2, rfl, _, rfl, _, rfl, _, _, _, rfl, b, C, N, _, _, _, rfl, rfl, rfl, hb.kp k2, hC2, hN2, CN, Nat.le_of_ble_eq_true rfl, fun H3 d1 d2 d3 b3 hC3 hN3 t1 t2 t3 => ?_⟩
  have k3 := b3.kp hC2 hN2
  refine ⟨_, rfl, .inl ⟨rfl, _, SqL.of hC3⟩, _, rfl, sz1000 (Nat.le_of_ble_eq_true rfl), fun g ng => ?_⟩
  generalize e4 : upd H3 g _ = H4
  have s4 := same_of e4 ng
  have hg4 := at_of' e4
  refine ⟨C, _, _, rfl, rfl, s4 _ _ hC3, szn (Nat.le_of_ble_eq_true rfl), ?_⟩
  generalize e5 : upd H4 C _ = H5
  have b5 := but_upd e5
  have hC5 : H5 C = some (.lst [x0, x1, x2, .non, .ref d1, .ref d2, .ref d3, .ref g]) := at_of' e5
  have k5 : Kp H4 H5 := b5.kp (s4 _ _ hC3) rfl
  have k35 := Kp.trans (Same.kp s4) k5
  have hl5 := k35 _ _ (k3 _ _ hl2 rfl) rfl
  refine ⟨_, rfl, l, _, 1, _, rfl, rfl, SqT.of hl5, rfl, _, rfl, C, _, rfl, .inl (SqL.of hC5), _, rfl, sz1000 (Nat.le_of_ble_eq_true rfl), fun lp nlp => ?_⟩
  generalize e6 : upd H5 lp _ = H6
  have s6 := same_of e6 nlp
  have hlp6 := at_of' e6
  refine ⟨_, rfl, _, rfl, C, _, 3, 3, rfl, rfl, s6 _ _ hC5, rfl, ?_⟩
  generalize e7 : upd H6 C _ = H7
  have b7 := but_upd e7
  have k7 : Kp H6 H7 := b7.kp (s6 _ _ hC5) rfl
  have k57 := Kp.trans (Same.kp s6) k7
  have k37 := k35.trans k57
  refine h H7 lp d1 d2 d3 g ?_ (at_of' e7) ⟨t, k7 _ _ hlp6 rfl, ((ht.kp k2).kp k3).kp k37⟩ (t1.kp k37) (t2.kp k37) (t3.kp k37) (k57 _ _ (k5 _ _ hg4 rfl) rfl)
  exact b1.r2.trans (b2.l2.trans (b3.trans ((Same.but2 s4).trans (b5.l2.trans ((Same.but2 s6).trans b7.l2)))))
def CodeT (H : Hp) (C : Addr) : Prop := ∃ d0 d1 d2 lp d3 d4 d5 g, H C = some (.lst [.ref d0, .ref d1, .ref d2, .ref lp, .ref d3, .ref d4, .ref d5, .ref g]) ∧ DeedT H "x" 0 d0 ∧ DeedT H "y" 1 d1 ∧ DeedT H "y" 2 d2 ∧ LoopS H lp ∧ DeedT H "x" 3 d3 ∧ DeedT H "y" 4 d4 ∧ DeedT H "y" 5 d5 ∧ GoT H g
theorem LoopS.kp {H H' : Hp} {l : Addr} (k : Kp H H') (h : LoopS H l) : LoopS H' l := let ⟨t, x, y⟩ := h; ⟨t, k _ _ x rfl, y.kp k⟩
theorem CodeT.kp {H H' : Hp} {C : Addr} {xs : List V} (k : Kp H H') (hk : ∀ ys, H C = some (.lst ys) → H' C = some (.lst ys)) (h : CodeT H C) : CodeT H' C :=
  let ⟨d0, d1, d2, lp, d3, d4, d5, g, e, a0, a1, a2, al, a3, a4, a5, ag⟩ := h; ⟨d0, d1, d2, lp, d3, d4, d5, g, hk _ e, a0.kp k, a1.kp k, a2.kp k, al.kp k, a3.kp k, a4.kp k, a5.kp k, k _ _ ag rfl⟩
def spPut0 : Sp := sp3 fun v c n H Q _ => ∃ b C N, v = .ref b ∧ c = .ref C ∧ n = .ref N ∧ TreeT H b ∧ H C = some (.lst []) ∧ H N = some (.lst [.int 0, .int 0]) ∧ C ≠ N ∧ ∀ H', But2 C N H H' → CodeT H' C → Q .non H'
theorem ok_put_steps0 {P : Program} {w : World} {K : PySem.W.Frag} {mg : Str → Option Value} {base : Heap} (T : TopE K mg) : FnAt P w K mg base CX0 3 (He.ga K "put_steps") ["tree", "code", "counts"] spPut0 := by
  refine fnAt0 (k := 2) T.f_put_steps sc_put_steps len3 (fun _ _ _ _ _ _ us hl => match us, hl with | [_, _, _], _ => rfl) (fun cdv A outer s H vs Q E hr h => ?_)
  have hu := hu_of hr
  obtain ⟨v_tree, v_code, v_counts, rfl, h⟩ := h
  refine ⟨_, (pss_one (ps_for PassesOwn.never rfl (pi_tup (pv 0)) (pg_name (i := 3) sc_put_steps.nd rfl (Or.inl rfl)) (pss_one (ps_if (pt_cmpR op_eq (pe_ix ix_tup (pv 3) pe_int (fun _ _ => rfl)) pe_str (nomark _)) pss_never (pss_one (ps_if (pt_cmpR op_eq (pe_ix ix_tup (pv 3) pe_int (fun _ _ => rfl)) pe_str (nomark _)) (pss_one (ps_expr (pe_f (ok_put_loop T) (hr.mono (by decide)) T.g_put_loop pass0 (pa_cons (pv 3) (pa_cons (pv 1) (pa_cons (pv 2) pa_nil)))))) (pss_cons (ps_expr (pe_bm PySem.F.plainAttrs_list PySem.F.slot_list_append PySem.F.type_list_append mt_append (pv 1) (pa_cons (pe_tup (pa_cons pe_str (pa_cons (pv 3) (pa_cons (pe_ix ix_list (pv 2) pe_int (fun _ _ => rfl)) pa_nil)))) pa_nil)))
    (pss_one (ps_asg (pe_op op_add (pe_ix ix_list (pv 2) pe_int (fun _ _ => rfl)) pe_int) (pg_sub (pv 2) pe_int set_list)))))))))), ?_⟩
  obtain ⟨b, C, N, rfl, rfl, rfl, ⟨o, q1, q2, q3, l, hb, n1, n2, n3, hl⟩, hC, hN, CN, h⟩ := h
  have nl : ∀ {H' : Hp}, But2 C N H H' → SqT K H' b [.ref q1, .ref q2, .ref q3, .ref l] := fun b2 => .inl (.inr ⟨o, b2.kp hC hN _ _ hb rfl⟩)
  refine ⟨_, rfl, b, rfl, ⟨_, nl (Same.but2 (Same.refl H))⟩, for_tup (xs := [.ref q1, .ref q2, .ref q3, .ref l]) (fun i σ H' => But2 C N H H' ∧ (∃ x, σ = [some (.ref b), some (.ref C), some (.ref N), x]) ∧
      ((i ≤ 3 ∧ H' N = some (.lst [.int ((i : Nat) : Int), .int 0]) ∧ ∃ ds : List Addr, H' C = some (.lst (ds.map V.ref)) ∧ ds.length = i ∧ ∀ (j : Nat) (d : Addr), ds[j]? = some d → DeedT H' (nm j) ((j : Nat) : Int) d) ∨ (i = 4 ∧ CodeT H' C)))
    ⟨Same.but2 (Same.refl H), ⟨_, rfl⟩, .inl ⟨Nat.zero_le _, hN, [], hC, rfl, fun j d e => by simp at e⟩⟩ (fun i σ H' _ q => nl q.1) ?_ ?_⟩
  · rintro i x σ H' hx ⟨b2, ⟨y, rfl⟩, hh⟩
    have hq : (∃ (q : Addr), x = .ref q ∧ NextT H (nm i) q ∧ i < 3) ∨ (i = 3 ∧ x = .ref l) := by
      match i, hx with
      | 0, hx => cases hx; exact .inl ⟨q1, rfl, n1, by decide⟩
      | 1, hx => cases hx; exact .inl ⟨q2, rfl, n2, by decide⟩
      | 2, hx => cases hx; exact .inl ⟨q3, rfl, n3, by decide⟩
      | 3, hx => cases hx; exact .inr ⟨rfl, rfl⟩
      | _ + 4, hx => cases hx
    have hi : i < 4 := (List.getElem?_eq_some_iff.mp hx).1
    clear hx
    obtain ⟨hi3, hN', ds, hC', hll, hds⟩ := hh.resolve_right fun z => absurd z.1 (by omega)
    rcases hq with ⟨q, rfl, nq, hi4⟩ | ⟨rfl, rfl⟩
    · have nq' := nq.kp (b2.kp hC hN)
      have hq : H' q = some (.tup [.str "next", .str (nm i), .str (nm i)]) := nq'
      refine ⟨_, rfl, q, _, 0, _, rfl, rfl, SqT.of hq, rfl, rfl, _, rfl, iteO (by decide +kernel) ⟨_, rfl, q, _, 0, _, rfl, rfl, SqT.of hq, rfl, rfl, _, rfl, iteO (by decide +kernel) ?_⟩⟩
      refine ⟨_, rfl, .inl ⟨rfl, _, SqL.of hC'⟩, _, rfl, _, rfl, N, _, 0, _, rfl, rfl, SqL.of hN', rfl, sz1000 (Nat.le_of_ble_eq_true rfl), fun d nd => ?_⟩
      generalize e1 : upd H' d _ = H1
      have s1 := same_of e1 nd
      have hd1 : H1 d = some (.tup [.str "deed", .ref q, .int ((i : Nat) : Int)]) := at_of' e1
      refine ⟨C, _, _, rfl, rfl, s1 _ _ hC', by rw [List.length_map]; exact szn (by omega), ?_⟩
      generalize e2 : upd H1 C _ = H2
      have b22 := but_upd e2
      have hN2 := b22 N _ (Ne.symm CN) (s1 _ _ hN')
      refine ⟨_, rfl, N, _, 0, _, rfl, rfl, SqL.of hN2, rfl, _, _, rfl, rfl, _, rfl, N, _, 0, 0, rfl, rfl, hN2, rfl, ?_⟩
      generalize e3 : upd H2 N _ = H3
      have b3 := but_upd e3
      have hC2 := at_of' e2
      have t3 : But2 C N H' H3 := ((Same.but2 s1).trans b22.l2).trans b3.r2
      have k3 : Kp H' H3 := t3.kp hC' hN'
      have k13 : Kp H1 H3 := (b22.kp (s1 _ _ hC') rfl).trans (b3.kp hN2 rfl)
      refine ⟨b2.trans t3, ⟨_, rfl⟩, .inl ⟨hi4, ?_, ds ++ [d], ?_, by rw [List.length_append, hll]; rfl, fun j e hj => ?_⟩⟩
      · have e5 : ((i : Nat) : Int) + 1 = ((i + 1 : Nat) : Int) := by omega
        rw [← e5]
        exact at_of' e3
      · rw [List.map_append]
        exact b3 C _ CN hC2
      · by_cases hjl : j < ds.length
        · rw [List.getElem?_append_left hjl] at hj
          exact (hds j e hj).kp k3
        · have e4 : j = ds.length := by
            have := (List.getElem?_eq_some_iff.mp hj).1
            simp at this
            omega
          subst e4
          rw [List.getElem?_append_right (Nat.le_refl _), Nat.sub_self] at hj
          cases hj
          rw [hll]
          exact ⟨q, k13 _ _ hd1 rfl, nq'.kp k3⟩
    · match ds, hll with
      | [d0, d1, d2], _ =>
        have hl' := hl.kp (b2.kp hC hN)
        obtain ⟨t, bb, hlt, _, _⟩ := id hl'
        refine ⟨_, rfl, l, _, 0, _, rfl, rfl, SqT.of hlt, rfl, rfl, _, rfl, iteO (by decide +kernel) ⟨_, rfl, l, _, 0, _, rfl, rfl, SqT.of hlt, rfl, rfl, _, rfl, iteE (by decide +kernel) ?_⟩⟩
        refine ⟨_, rfl, _, rfl, _, rfl, _, _, _, rfl, l, C, N, _, _, _, rfl, rfl, rfl, hl', hC', hN', CN, fun H3 lp e1 e2 e3 g b3 hC3 tl t1 t2 t3 tg => ?_⟩
        have k3 := b3.kp hC' hN'
        exact ⟨b2.trans b3, ⟨_, rfl⟩, .inr ⟨rfl, d0, d1, d2, lp, e1, e2, e3, g, hC3, (hds 0 d0 rfl).kp k3, (hds 1 d1 rfl).kp k3, (hds 2 d2 rfl).kp k3, tl, t1, t2, t3, tg⟩⟩
  · rintro σ H' ⟨b2, _, ⟨z, _⟩ | ⟨_, hc⟩⟩
    · exact absurd z (show ¬ (4 ≤ 3) by decide)
    · exact h H' b2 hc
def spSteps : Sp := sp1 fun v H Q _ => ∃ b, v = .ref b ∧ TreeT H b ∧ ∀ H' C, Same H H' → H C = none → CodeT H' C → Q (.ref C) H'
abbrev N_steps_of : List Str := ["tree", "code"]
theorem sc_steps_of : FnScope N_steps_of ["tree"] (defScope s_steps_of) := ⟨rfl, rfl, rfl, by decide +kernel, rfl, by decide +kernel, by decide +kernel⟩
theorem ok_steps_of {P : Program} {w : World} {K : PySem.W.Frag} {mg : Str → Option Value} {base : Heap} (T : TopE K mg) : FnAt P w K mg base CX0 4 (He.ga K "steps_of") ["tree"] spSteps := by
  refine fnAt0 (k := 3) T.f_steps_of sc_steps_of len1 (fun _ _ _ _ _ _ us hl => match us, hl with | [_], _ => rfl) (fun cdv A outer s H vs Q E hr h => ?_)
  have hu := hu_of hr
  obtain ⟨v_tree, rfl, h⟩ := h
  refine ⟨_, (pss_cons (ps_set (i := 1) sc_steps_of.nd rfl (Or.inl rfl) (pe_lst pa_nil))
    (pss_cons (ps_expr (pe_f (ok_put_steps0 T) (hr.mono (by decide)) T.g_put_steps pass0 (pa_cons (pv 0) (pa_cons (pv 1) (pa_cons (pe_lst (pa_cons pe_int (pa_cons pe_int pa_nil))) pa_nil)))))
    (pss_one (ps_ret (pv 1))))), ?_⟩
  obtain ⟨b, rfl, hb, h⟩ := h
  refine ⟨sz1000 (Nat.le_of_ble_eq_true rfl), fun C nC => ?_⟩
  generalize e1 : upd H C _ = H1
  have s1 := same_of e1 nC
  have hC1 := at_of' e1
  refine ⟨_, rfl, _, rfl, sz1000 (Nat.le_of_ble_eq_true rfl), fun N nN => ?_⟩
  generalize e2 : upd H1 N _ = H2
  have s2 := same_of e2 nN
  have nN0 := same_none s1 nN
  have CN : C ≠ N := fun e => by subst e; rw [hC1] at nN; cases nN
  refine ⟨_, _, _, rfl, b, C, N, rfl, rfl, rfl, hb.kp (Same.kp (Same.trans s1 s2)), s2 _ _ hC1, at_of' e2, CN, fun H3 b3 hc => ?_⟩
  exact ⟨_, rfl, h H3 C (fun a o ha => b3 a o (ne_of_none ha nC) (ne_of_none ha nN0) (s2 _ _ (s1 _ _ ha))) nC hc⟩

end K66
end
section
set_option Elab.async false
set_option linter.all false
set_option maxRecDepth 100000
set_option maxHeartbeats 4000000
namespace K66
open PySem PySem.Spec PyProof.Rows L2
local macro_rules | `(tactic| walk_at "rd") => `(tactic| repeat (first | refine ⟨_, rfl, ?_⟩ | refine ⟨_, _, rfl, rfl, ?_⟩ | refine ⟨rfl, ?_⟩))
local macro_rules | `(tactic| walk_at "hp") => `(tactic| (first | assumption | solve_by_elim (maxDepth := 12)))
local macro_rules | `(tactic| walk_at "pl") => `(tactic| ((repeat (refine putF_lt ?_)); exact Nat.le_of_ble_eq_true rfl))
/-! ## the heap of a run -/
def hpF (v0 v1 v2 v3 : V) : List (Str × V) := [("names", v0), ("cells", v1), ("used", v2), ("made", v3)]
theorem hpF_init (v0 v1 v2 v3 : V) : (putF "made" v3 (putF "used" v2 (putF "cells" v1 (putF "names" v0 ([] : List (Str × V)))))) = hpF v0 v1 v2 v3 := by kernel_rfl
theorem hpF_names (v0 v1 v2 v3 : V) : (hpF v0 v1 v2 v3).lookup ("names" : Str) = some v0 := by kernel_rfl
theorem hpF_put_names (v0 v1 v2 v3 : V) (u : V) : putF "names" u (hpF v0 v1 v2 v3) = hpF u v1 v2 v3 := by kernel_rfl
theorem hpF_cells (v0 v1 v2 v3 : V) : (hpF v0 v1 v2 v3).lookup ("cells" : Str) = some v1 := by kernel_rfl
theorem hpF_put_cells (v0 v1 v2 v3 : V) (u : V) : putF "cells" u (hpF v0 v1 v2 v3) = hpF v0 u v2 v3 := by kernel_rfl
theorem hpF_used (v0 v1 v2 v3 : V) : (hpF v0 v1 v2 v3).lookup ("used" : Str) = some v2 := by kernel_rfl
theorem hpF_put_used (v0 v1 v2 v3 : V) (u : V) : putF "used" u (hpF v0 v1 v2 v3) = hpF v0 v1 u v3 := by kernel_rfl
theorem hpF_made (v0 v1 v2 v3 : V) : (hpF v0 v1 v2 v3).lookup ("made" : Str) = some v3 := by kernel_rfl
theorem hpF_put_made (v0 v1 v2 v3 : V) (u : V) : putF "made" u (hpF v0 v1 v2 v3) = hpF v0 v1 v2 u := by kernel_rfl
theorem hpF_no_place_of (v0 v1 v2 v3 : V) : (hpF v0 v1 v2 v3).lookup ("place_of" : Str) = none := by kernel_rfl
theorem hpF_no_is_same (v0 v1 v2 v3 : V) : (hpF v0 v1 v2 v3).lookup ("is_same" : Str) = none := by kernel_rfl
theorem hpF_no_holds (v0 v1 v2 v3 : V) : (hpF v0 v1 v2 v3).lookup ("holds" : Str) = none := by kernel_rfl
theorem hpF_no_done (v0 v1 v2 v3 : V) : (hpF v0 v1 v2 v3).lookup ("done" : Str) = none := by kernel_rfl
theorem hpF_no_store (v0 v1 v2 v3 : V) : (hpF v0 v1 v2 v3).lookup ("store" : Str) = none := by kernel_rfl
def HeapAt (K : PySem.W.Frag) (H : Hp) (h N C : Addr) (x y : Int) (cl : List (Int × Int)) : Prop := ∃ dh u m, H h = some (.ins (He.ga K "Heap") dh (hpF (.ref N) (.ref C) u m)) ∧ H N = some (.dK (nmD x y)) ∧ H C = some (.dK (clD cl))
theorem HeapAt.same {K : PySem.W.Frag} {H H' : Hp} {h N C : Addr} {x y : Int} {cl : List (Int × Int)} (s : Same H H') (z : HeapAt K H h N C x y cl) : HeapAt K H' h N C x y cl := let ⟨a, b, c, d, e, f⟩ := z; ⟨a, b, c, s _ _ d, s _ _ e, s _ _ f⟩
def spHeapInit (K : PySem.W.Frag) : Sp := sp3 fun self n c H Q _ => ∃ p dx tn tc px py cl, self = .ref p ∧ n = .ref tn ∧ c = .ref tc ∧ H p = some (.ins (He.ga K "Heap") dx []) ∧ NamesT H tn px py ∧ CellsT H tc cl ∧ GoodC cl ∧
  ∀ H' N C, But p H H' → HeapAt K H' p N C px py cl → H N = none → H C = none → N ≠ C → Q .non H'
abbrev N_Heap_init : List Str := ["self", "names", "cells"]
theorem sc_Heap_init : FnScope N_Heap_init ["self", "names", "cells"] (defScope s_Heap_init) := ⟨rfl, rfl, rfl, by decide +kernel, rfl, by decide +kernel, by decide +kernel⟩
theorem ok_Heap_init {P : Program} {w : World} {K : PySem.W.Frag} {mg : Str → Option Value} {base : Heap} (T : TopE K mg) : FnAt P w K mg base CX0 1 (He.ma K (He.ga K "Heap") "__init__") ["self", "names", "cells"] (spHeapInit K) := by
  refine fnAt0 (k := 0) T.f_Heap_init sc_Heap_init len3 (fun _ _ _ _ _ _ us hl => match us, hl with | [_, _, _], _ => rfl) (fun cdv A outer s H vs Q E hr h => ?_)
  have hu := hu_of hr
  obtain ⟨v_self, v_names, v_cells, rfl, h⟩ := h
  refine ⟨_, (pss_cons (ps_fld (pv 0) (pe_callTy (call_dictT rfl) (by rfl) T.z_dict (by decide +kernel) (pa_cons (pv 1) pa_nil)) rfl)
    (pss_cons (ps_fld (pv 0) (pe_callTy (call_dictT rfl) (by rfl) T.z_dict (by decide +kernel) (pa_cons (pv 2) pa_nil)) rfl)
    (pss_cons (ps_fld (pv 0) (pe_callTy (call_dictT rfl) (by rfl) T.z_dict (by decide +kernel) (pa_cons (pv 2) pa_nil)) rfl)
    (pss_one (ps_fld (pv 0) pe_dnewK rfl))))), ?_⟩
  obtain ⟨p, dx, tn, tc, px, py, cl, rfl, rfl, rfl, hp, hn, hc, hg, h⟩ := h
  obtain ⟨o, t1, t2, hf, hod, h1, h2⟩ := id hn
  refine ⟨_, rfl, tn, o, [t1, t2], nmD px py, rfl, hf, hod, .cons (SqT.of h1) (.cons (SqT.of h2) .nil), ?_⟩
  rw [merge_nm]
  intro N n_N
  generalize e_H1 : upd _ N _ = H1
  have s_H1 := same_of e_H1 n_N
  have h_N := at_of' e_H1
  have hp1 := s_H1 _ _ hp
  refine ⟨_, rfl, _, _, _, _, rfl, hp1, T.c_Heap, T.n_Heap_names, (by walk_at "pl"), ?_⟩
  generalize e_H2 : upd _ p _ = H2
  have b_H2 := but_upd e_H2
  have h_pH2 := at_of' e_H2
  have hc2 := CellsT.but b_H2 hp1 (hc.same s_H1)
  obtain ⟨oc, ts, hfc, hoc, hpc⟩ := id hc2
  refine ⟨_, rfl, tc, oc, ts, clD cl, rfl, hfc, hoc, paired_cl hpc, ?_⟩
  rw [merge_cl hg]
  intro C n_C
  generalize e_H3 : upd _ C _ = H3
  have s_H3 := same_of e_H3 n_C
  have h_C := at_of' e_H3
  have hp3 := s_H3 _ _ h_pH2
  refine ⟨_, rfl, _, _, _, _, rfl, hp3, T.c_Heap, T.n_Heap_cells, (by walk_at "pl"), ?_⟩
  generalize e_H4 : upd _ p _ = H4
  have b_H4 := but_upd e_H4
  have h_pH4 := at_of' e_H4
  have hc4 := CellsT.but b_H4 hp3 (hc2.same s_H3)
  obtain ⟨oc, ts, hfc, hoc, hpc⟩ := id hc4
  refine ⟨_, rfl, tc, oc, ts, clD cl, rfl, hfc, hoc, paired_cl hpc, ?_⟩
  rw [merge_cl hg]
  intro U n_U
  generalize e_H5 : upd _ U _ = H5
  have s_H5 := same_of e_H5 n_U
  have h_U := at_of' e_H5
  have hp5 := s_H5 _ _ h_pH4
  refine ⟨_, rfl, _, _, _, _, rfl, hp5, T.c_Heap, T.n_Heap_used, (by walk_at "pl"), ?_⟩
  generalize e_H6 : upd _ p _ = H6
  have b_H6 := but_upd e_H6
  have h_pH6 := at_of' e_H6
  intro M n_M
  generalize e_H7 : upd _ M _ = H7
  have s_H7 := same_of e_H7 n_M
  have h_M := at_of' e_H7
  have hp7 := s_H7 _ _ h_pH6
  refine ⟨_, rfl, _, _, _, _, rfl, hp7, T.c_Heap, T.n_Heap_made, (by walk_at "pl"), ?_⟩
  generalize e_H8 : upd _ p _ = H8
  have b_H8 := but_upd e_H8
  have h_pH8 := at_of' e_H8
  have h_pH8 : H8 p = some (.ins (He.ga K "Heap") dx (hpF (.ref N) (.ref C) (.ref U) (.ref M))) := h_pH8.trans (by rw [hpF_init])
  have hN2 := but_ni b_H2 hp1 h_N rfl
  have hN4 := but_ni b_H4 hp3 (s_H3 _ _ hN2) rfl
  have hN8 := but_ni b_H8 hp7 (s_H7 _ _ (but_ni b_H6 hp5 (s_H5 _ _ hN4) rfl)) rfl
  have hC4 := but_ni b_H4 hp3 h_C rfl
  have hC8 := but_ni b_H8 hp7 (s_H7 _ _ (but_ni b_H6 hp5 (s_H5 _ _ hC4) rfl)) rfl
  have bb : But p H H2 := But.trans (Same.but s_H1) b_H2
  have nC : H C = none := by
    cases e : H C with
    | none => rfl
    | some u =>
      by_cases ep : C = p
      · subst ep
        rw [h_pH2] at n_C
        cases n_C
      · rw [bb _ _ ep e] at n_C
        cases n_C
  refine h H8 N C (bb |>.trans (Same.but s_H3) |>.trans b_H4 |>.trans (Same.but s_H5) |>.trans b_H6 |>.trans (Same.but s_H7) |>.trans b_H8) ⟨dx, _, _, h_pH8, hN8, hC8⟩ n_N nC (fun e => ?_)
  subst e
  rw [hN2] at n_C
  cases n_C
theorem cur_get (x y : Int) {a : Str} (ha : a = "x" ∨ a = "y") : valV (nmD x y) (Sum.inr a) = some (.int (if a = "x" then x else y)) := by
  rcases ha with rfl | rfl <;> rfl
theorem cur_put (x y j : Int) {a : Str} (ha : a = "x" ∨ a = "y") : putK (nmD x y) (Sum.inr a) (.int j) = nmD (if a = "x" then j else x) (if a = "x" then y else j) := by
  rcases ha with rfl | rfl <;> rfl
def spPlaceOf (K : PySem.W.Frag) : Sp := sp2 fun self v H Q _ => ∃ h N C x y cl a, self = .ref h ∧ v = .str a ∧ HeapAt K H h N C x y cl ∧ (a = "x" ∨ a = "y") ∧ Q (.int (if a = "x" then x else y)) H
abbrev N_Heap_place_of : List Str := ["self", "word"]
theorem sc_Heap_place_of : FnScope N_Heap_place_of ["self", "word"] (defScope s_Heap_place_of) := ⟨rfl, rfl, rfl, by decide +kernel, rfl, by decide +kernel, by decide +kernel⟩
theorem ok_Heap_place_of {P : Program} {w : World} {K : PySem.W.Frag} {mg : Str → Option Value} {base : Heap} (T : TopE K mg) : FnAt P w K mg base CX0 1 (He.ma K (He.ga K "Heap") "place_of") ["self", "word"] (spPlaceOf K) := by
  refine fnAt0 (k := 0) T.f_Heap_place_of sc_Heap_place_of len2 (fun _ _ _ _ _ _ us hl => match us, hl with | [_, _], _ => rfl) (fun cdv A outer s H vs Q E hr h => ?_)
  have hu := hu_of hr
  obtain ⟨v_self, v_word, rfl, h⟩ := h
  refine ⟨_, (pss_one (ps_ret (pe_ifExp (pt_cmpR op_eq (pv 1) pe_str (nomark _)) (pe_gi T.i_END) (pe_dget hu (pe_fld (pv 0) rfl) (pv 1) (fun _ _ => rfl))))), ?_⟩
  obtain ⟨p, N, C, x, y, cl, a, rfl, rfl, ⟨dh, u, m, hp, hN, hC⟩, ha, h⟩ := h
  have ne : decide (V.str a = V.str "END") = false := by rcases ha with rfl | rfl <;> decide +kernel
  refine ⟨_, rfl, rfl, _, rfl, iteO ne ⟨_, rfl, _, _, _, _, _, rfl, hp, T.c_Heap, T.n_Heap_names, hpF_names _ _ _ _, _, rfl, N, _, rfl, ?_, h⟩⟩
  rw [← cur_get x y ha]
  exact DGet.k (k := Sum.inr a) hN
def spIsSame (K : PySem.W.Frag) : Sp := sp3 fun self a b H Q _ => ∃ h N C x y cl, self = .ref h ∧ a = .str "x" ∧ b = .str "y" ∧ HeapAt K H h N C x y cl ∧ Q (.bl (decide (x = y))) H
abbrev N_Heap_is_same : List Str := ["self", "one", "other"]
theorem sc_Heap_is_same : FnScope N_Heap_is_same ["self", "one", "other"] (defScope s_Heap_is_same) := ⟨rfl, rfl, rfl, by decide +kernel, rfl, by decide +kernel, by decide +kernel⟩
theorem ok_Heap_is_same {P : Program} {w : World} {K : PySem.W.Frag} {mg : Str → Option Value} {base : Heap} (T : TopE K mg) : FnAt P w K mg base CX0 2 (He.ma K (He.ga K "Heap") "is_same") ["self", "one", "other"] (spIsSame K) := by
  refine fnAt0 (k := 1) T.f_Heap_is_same sc_Heap_is_same len3 (fun _ _ _ _ _ _ us hl => match us, hl with | [_, _, _], _ => rfl) (fun cdv A outer s H vs Q E hr h => ?_)
  have hu := hu_of hr
  obtain ⟨v_self, v_one, v_other, rfl, h⟩ := h
  refine ⟨_, (pss_one (ps_ret (pe_cmpR op_eq (pe_dget hu (pe_fld (pv 0) rfl) (pv 1) (fun _ _ => rfl)) (pe_mt (pv 0) T.c_Heap T.m_Heap_place_of (ok_Heap_place_of T) (hr.mono (by decide)) pass0 (pa_cons (pv 2) pa_nil)) (nomark _)))), ?_⟩
  obtain ⟨p, N, C, x, y, cl, rfl, rfl, rfl, ha, h⟩ := h
  obtain ⟨dh, u, m, hp, hN, hC⟩ := id ha
  refine ⟨_, rfl, _, _, _, _, _, rfl, hp, T.c_Heap, T.n_Heap_names, hpF_names _ _ _ _, _, rfl, N, .int x, rfl, DGet.k (k := Sum.inr "x") hN, ?_⟩
  refine ⟨_, rfl, p, dh, _, rfl, hp, hpF_no_place_of _ _ _ _, _, rfl, _, _, rfl, p, N, C, x, y, cl, "y", rfl, rfl, ha, .inr rfl, rfl, ?_⟩
  show Q (.bl (decide (V.int x = V.int y))) H
  rw [dI]
  exact h
def spHolds (K : PySem.W.Frag) : Sp := sp2 fun self v H Q _ => ∃ h N C x y cl t, self = .ref h ∧ v = .ref t ∧ HeapAt K H h N C x y cl ∧ TestT H t ∧ ∀ H', Same H H' → Q (.bl (!decide (x = y))) H'
abbrev N_Heap_holds : List Str := ["self", "test", "found", "sign", "one", "other"]
theorem sc_Heap_holds : FnScope N_Heap_holds ["self", "test"] (defScope s_Heap_holds) := ⟨rfl, rfl, rfl, by decide +kernel, rfl, by decide +kernel, by decide +kernel⟩
theorem ok_Heap_holds {P : Program} {w : World} {K : PySem.W.Frag} {mg : Str → Option Value} {base : Heap} (T : TopE K mg) : FnAt P w K mg base CX0 3 (He.ma K (He.ga K "Heap") "holds") ["self", "test"] (spHolds K) := by
  refine fnAt0 (k := 2) T.f_Heap_holds sc_Heap_holds len2 (fun _ _ _ _ _ _ us hl => match us, hl with | [_, _], _ => rfl) (fun cdv A outer s H vs Q E hr h => ?_)
  have hu := hu_of hr
  obtain ⟨v_self, v_test, rfl, h⟩ := h
  refine ⟨_, (pss_cons (by (apply ps_setLcX (s0 := s) (i := 2) (own := [("sign", 3), ("one", 4), ("other", 5)])); exact rfl; exact sc_Heap_holds.nd; exact rfl; exact rfl; exact (sw_true rfl rfl rfl (by decide +kernel)); exact (pi_tup (pe_ix ix_tup (pv 1) pe_int (fun _ _ => rfl))); exact (blkOk_by (N := N_Heap_holds) (sc := defScope s_Heap_holds) (by decide +kernel)); (intro _ _ _ _ _; exact (pg_tup (by rfl) (pgs_cons (pg_name (i := 3) sc_Heap_holds.nd rfl (Or.inl rfl)) (pgs_cons (pg_name (i := 4) sc_Heap_holds.nd rfl (Or.inl rfl)) (pgs_cons (pg_name (i := 5) sc_Heap_holds.nd rfl (Or.inl rfl)) pgs_nil))))); (intro _ _ _ _ _; exact pts_nil); (intro _ _ _ _ _; exact (pe_cmpR op_eq (pe_mt (pv 0) T.c_Heap T.m_Heap_is_same (ok_Heap_is_same T) (hr.mono (by decide)) pass0 (pa_cons (pv 4) (pa_cons (pv 5) pa_nil))) (pe_cmpR op_eq (pv 3) pe_str (nomark _)) (nomark _))); exact (fun _ => rfl); exact (fun _ _ _ _ _ => rfl); exact (fun _ _ _ _ _ => rfl); exact (fun _ _ _ _ _ => rfl))
    (pss_one (ps_ret (pe_ifExp (pt_cmpR op_eq (pe_ix ix_tup (pv 1) pe_int (fun _ _ => rfl)) pe_str (nomark _)) (pe_callB (cr_all rfl) (by rfl) T.z_all (by decide +kernel) (pa_cons (pv 2) pa_nil)) pe_never)))), ?_⟩
  obtain ⟨p, N, C, x, y, cl, t, rfl, rfl, ha, ⟨cs, c, o, ht, hcs, hc⟩, h⟩ := h
  refine ⟨_, rfl, t, _, 1, _, rfl, rfl, SqT.of ht, rfl, cs, rfl, ⟨_, .inl (.inr ⟨o, hcs⟩)⟩, fun D nD => ?_⟩
  refine lc_tup (xs := [.ref c]) (LcF H D fun i => if i = 0 then [] else [.bl (!decide (x = y))]) (lcF0 nD rfl) (fun i H' _ q => .inl (.inr ⟨o, q.1 _ _ hcs⟩)) ?_ ?_
  · intro i v H' hx q
    match i, hx with
    | 0, hx =>
      cases hx
      have ha' := ha.same q.1
      obtain ⟨dh, u, m, hp, hN, hC⟩ := id ha'
      refine ⟨c, _, rfl, SqT.of (q.1 _ _ hc), rfl, _, _, rfl, _, _, rfl, _, _, rfl, rfl, rfl, _, rfl, p, dh, _, rfl, hp, hpF_no_is_same _ _ _ _, _, rfl, _, rfl, _, _, _, rfl, p, N, C, x, y, cl, rfl, rfl, rfl, ha', _, rfl, rfl, rfl, ?_⟩
      have e : decide (V.bl (decide (x = y)) = V.bl (decide (V.str "!=" = V.str "="))) = !decide (x = y) := by
        rw [show decide (V.str "!=" = V.str "=") = false by decide +kernel]
        cases decide (x = y) <;> rfl
      rw [e]
      exact lcFS nD q (szn (Nat.le_of_ble_eq_true rfl)) (Same.refl _) rfl
    | _ + 1, hx => cases hx
  · intro H' q
    have hD : H' D = some (.lst [.bl (!decide (x = y))]) := q.2
    refine ⟨_, rfl, t, _, 0, _, rfl, rfl, SqT.of (q.1 _ _ ht), rfl, rfl, _, rfl, iteE (by decide +kernel) ⟨_, rfl, D, [!decide (x = y)], rfl, SqL.of hD, ?_⟩⟩
    have e : ([!decide (x = y)].all id) = !decide (x = y) := by simp
    rw [e]
    exact h H' q.1
def spDone (K : PySem.W.Frag) : Sp := sp2 fun self v H Q _ => ∃ h N C x y cl q a, self = .ref h ∧ v = .ref q ∧ HeapAt K H h N C x y cl ∧ NextT H a q ∧ (a = "x" ∨ a = "y") ∧ N ≠ C ∧ cl.length ≤ 100 ∧
  (∀ j, nxt cl (if a = "x" then x else y) = some j → ∀ H', But N H H' → HeapAt K H' h N C (if a = "x" then j else x) (if a = "x" then y else j) cl → Q (.int (if a = "x" then x else y)) H') ∧
  (nxt cl (if a = "x" then x else y) = none → Q .non H)
abbrev N_Heap_done : List Str := ["self", "deed", "kind", "letter", "place"]
theorem sc_Heap_done : FnScope N_Heap_done ["self", "deed"] (defScope s_Heap_done) := ⟨rfl, rfl, rfl, by decide +kernel, rfl, by decide +kernel, by decide +kernel⟩
theorem ok_Heap_done {P : Program} {w : World} {K : PySem.W.Frag} {mg : Str → Option Value} {base : Heap} (T : TopE K mg) : FnAt P w K mg base CX0 1 (He.ma K (He.ga K "Heap") "done") ["self", "deed"] (spDone K) := by
  refine fnAt0 (k := 0) T.f_Heap_done sc_Heap_done len2 (fun _ _ _ _ _ _ us hl => match us, hl with | [_, _], _ => rfl) (fun cdv A outer s H vs Q E hr h => ?_)
  have hu := hu_of hr
  obtain ⟨v_self, v_deed, rfl, h⟩ := h
  refine ⟨_, (pss_cons (ps_par (i := 2) (j := 3) rfl sc_Heap_done.nd rfl rfl (by decide) rfl rfl (pa_cons (pe_ix ix_tup (pv 1) pe_int (fun _ _ => rfl)) (pa_cons (pe_ix ix_tup (pv 1) pe_int (fun _ _ => rfl)) pa_nil)) (by rfl))
    (pss_cons (ps_if (pt_cmpR op_eq (pv 2) pe_str (nomark _)) pss_never pss_nil)
    (pss_cons (ps_if (pt_cmpR op_eq (pv 2) pe_str (nomark _)) pss_never pss_nil)
    (pss_cons (ps_set (i := 4) sc_Heap_done.nd rfl (Or.inl rfl) (pe_dget hu (pe_fld (pv 0) rfl) (pe_ifExp (pt_cmpR op_eq (pv 2) pe_str (nomark _)) (pe_ix ix_tup (pv 1) pe_int (fun _ _ => rfl)) pe_never) (fun _ _ => rfl)))
    (pss_cons (ps_if (pt_cmp (pc_dnotin hu (pv 4) (pe_fld (pv 0) rfl))) (pss_one (ps_ret pe_non)) pss_nil)
    (pss_cons (ps_if (pt_cmpR op_eq (pv 2) pe_str (nomark _)) (pss_one (ps_dput hu (pe_fld (pv 0) rfl) (pv 3) (pe_dget hu (pe_fld (pv 0) rfl) (pv 4) (fun _ _ => rfl)) rfl)) pss_never)
    (pss_one (ps_ret (pv 4))))))))), ?_⟩
  obtain ⟨p, N, C, x, y, cl, q, a, rfl, rfl, ⟨dh, u, m, hp, hN, hC⟩, hq, ha, NC, few, h1, h2⟩ := h
  have hq : H q = some (.tup [.str "next", .str a, .str a]) := hq
  refine ⟨_, rfl, q, _, 0, _, rfl, rfl, SqT.of hq, rfl, _, rfl, q, _, 1, _, rfl, rfl, SqT.of hq, rfl, _, _, rfl, ?_⟩
  refine ⟨_, rfl, rfl, _, rfl, iteO (by decide +kernel) ⟨_, rfl, rfl, _, rfl, iteO (by decide +kernel) ?_⟩⟩
  refine ⟨_, rfl, _, _, _, _, _, rfl, hp, T.c_Heap, T.n_Heap_names, hpF_names _ _ _ _, _, rfl, rfl, _, rfl, iteE (by decide +kernel) ⟨_, rfl, q, _, 2, _, rfl, rfl, SqT.of hq, rfl, N, .int (if a = "x" then x else y), rfl, ?_, ?_⟩⟩
  · rw [← cur_get x y ha]
    exact DGet.k (k := Sum.inr a) hN
  refine ⟨_, rfl, _, rfl, _, _, _, _, _, rfl, hp, T.c_Heap, T.n_Heap_cells, hpF_cells _ _ _ _, C, _, rfl, DGet.k (k := Sum.inl (if a = "x" then x else y)) hC, _, rfl, ?_⟩
  rw [nxt_valV]
  cases hj : nxt cl (if a = "x" then x else y) with
  | none => exact iteT (h2 hj)
  | some j =>
    refine iteF ⟨_, rfl, rfl, _, rfl, iteE (by decide +kernel) ⟨_, rfl, _, _, _, _, _, rfl, hp, T.c_Heap, T.n_Heap_cells, hpF_cells _ _ _ _, _, rfl, C, .int j, rfl, ?_, ?_⟩⟩
    · have e := DGet.k (k := Sum.inl (if a = "x" then x else y)) hC
      rw [nxt_valV, hj] at e
      exact e
    refine ⟨_, rfl, _, _, _, _, _, rfl, hp, T.c_Heap, T.n_Heap_names, hpF_names _ _ _ _, _, rfl, N, _, rfl, DPut.k (k := Sum.inr a) hN (szn (Nat.le_of_ble_eq_true rfl)), ?_⟩
    rw [cur_put x y j ha]
    generalize e1 : upd H N _ = H1
    have b1 := but_upd e1
    have pN : p ≠ N := fun e => by subst e; rw [hp] at hN; cases hN
    exact ⟨_, rfl, h1 j hj H1 b1 ⟨dh, u, m, b1 p _ pN hp, at_of' e1, b1 C _ (Ne.symm NC) hC⟩⟩
def spHeapOf (K : PySem.W.Frag) : Sp := sp2 fun s l H Q _ => ∃ p px py cl L, s = .ref p ∧ l = .ref L ∧ StoreAt K H p px py cl ∧ GoodC cl ∧ H L = some (.lst []) ∧ ∀ H' h N C, Same H H' → HeapAt K H' h N C px py cl → H h = none → H N = none → H C = none → N ≠ C → Q (.ref h) H'
abbrev N_heap_of : List Str := ["store", "helpers", "found", "letter"]
theorem sc_heap_of : FnScope N_heap_of ["store", "helpers"] (defScope s_heap_of) := ⟨rfl, rfl, rfl, by decide +kernel, rfl, by decide +kernel, by decide +kernel⟩
theorem ok_heap_of {P : Program} {w : World} {K : PySem.W.Frag} {mg : Str → Option Value} {base : Heap} (T : TopE K mg) : FnAt P w K mg base CX0 3 (He.ga K "heap_of") ["store", "helpers"] (spHeapOf K) := by
  refine fnAt0 (k := 2) T.f_heap_of sc_heap_of len2 (fun _ _ _ _ _ _ us hl => match us, hl with | [_, _], _ => rfl) (fun cdv A outer s H vs Q E hr h => ?_)
  have hu := hu_of hr
  obtain ⟨v_store, v_helpers, rfl, h⟩ := h
  refine ⟨_, (pss_cons (ps_set (i := 2) sc_heap_of.nd rfl (Or.inl rfl) (pe_mk T.k_Heap (ok_Heap_init T) (hr.mono (by decide)) T.g_Heap pass0 (pa_cons (pe_fld (pv 0) rfl) (pa_cons (pe_fld (pv 0) rfl) pa_nil))))
    (pss_cons (ps_for PassesOwn.never rfl (pi_list (pv 1)) (pg_name (i := 3) sc_heap_of.nd rfl (Or.inl rfl)) (pss_one ps_never))
    (pss_one (ps_ret (pv 2))))), ?_⟩
  obtain ⟨p, px, py, cl, L, rfl, rfl, st, hg, hL, h⟩ := h
  obtain ⟨dx, tn, tc, dp, da, ob, hn, hc, _⟩ := st.ob
  refine ⟨_, rfl, _, _, _, _, _, rfl, ob, T.c_Store, T.n_Store_names, stF_names _ _ _ _ _, _, rfl, _, _, _, _, _, rfl, ob, T.c_Store, T.n_Store_cells, stF_cells _ _ _ _ _, fun x dx nx nd _ => ?_⟩
  generalize e2 : upd (upd H dx _) x _ = H2
  have s2 := same_make e2 nx nd
  refine ⟨_, _, _, rfl, x, dx, tn, tc, px, py, cl, rfl, rfl, rfl, at_make e2, hn.same s2, hc.same s2, hg, fun H3 N C b3 hh nN nC NC => ⟨rfl, ?_⟩⟩
  have s3 := same_but s2 b3 nx
  refine ⟨_, rfl, L, rfl, ⟨_, SqL.of (s3 _ _ hL)⟩, for_list (xs := []) (fun i σ H' => σ = [some (.ref p), some (.ref L), some (.ref x), none] ∧ H' = H3) ⟨rfl, rfl⟩ (fun i σ H' _ q => by rw [q.2]; exact SqL.of (s3 _ _ hL)) (fun i v σ H' hx => by simp at hx) ?_⟩
  rintro σ H' ⟨rfl, rfl⟩
  exact ⟨_, rfl, h H' x N C s3 hh nx (same_none s2 nN) (same_none s2 nC) NC⟩
def askL (a : Str) : Nat → List V
  | 0 => []
  | _ => [.str a]
def spAsked : Sp := sp1 fun v H Q _ => ∃ q a, v = .ref q ∧ NextT H a q ∧ (a = "x" ∨ a = "y") ∧ ∀ H' l, Same H H' → H l = none → H' l = some (.lst [.str a]) → Q (.ref l) H'
abbrev N_asked_letters : List Str := ["deed", "words", "word"]
theorem sc_asked_letters : FnScope N_asked_letters ["deed"] (defScope s_asked_letters) := ⟨rfl, rfl, rfl, by decide +kernel, rfl, by decide +kernel, by decide +kernel⟩
theorem ok_asked_letters {P : Program} {w : World} {K : PySem.W.Frag} {mg : Str → Option Value} {base : Heap} (T : TopE K mg) : FnAt P w K mg base CX0 1 (He.ga K "asked_letters") ["deed"] spAsked := by
  refine fnAt0 (k := 0) T.f_asked_letters sc_asked_letters len1 (fun _ _ _ _ _ _ us hl => match us, hl with | [_], _ => rfl) (fun cdv A outer s H vs Q E hr h => ?_)
  have hu := hu_of hr
  obtain ⟨v_deed, rfl, h⟩ := h
  refine ⟨_, (pss_cons (ps_if (pt_cmpR op_eq (pe_ix ix_tup (pv 0) pe_int (fun _ _ => rfl)) pe_str (nomark _)) pss_never pss_nil)
    (pss_cons (ps_set (i := 1) sc_asked_letters.nd rfl (Or.inl rfl) (pe_ifExp (pt_cmpR op_in_seq (pe_ix ix_tup (pv 0) pe_int (fun _ _ => rfl)) (pe_tup (pa_cons pe_str (pa_cons pe_str pa_nil))) rfl) (pe_slice sl_tup (pv 0) (po_some pe_int) po_none) (pe_slice sl_tup (pv 0) (po_some pe_int) po_none)))
    (pss_one (ps_ret (by (apply pe_lcX (s0 := s) (own := [("word", 2)])); exact rfl; exact sc_asked_letters.nd; exact (pi_tup (pv 1)); exact (blkOk_by (N := N_asked_letters) (sc := defScope s_asked_letters) (by decide +kernel)); (intro _ _ _ _ _; exact (pg_name (i := 2) sc_asked_letters.nd rfl (Or.inl rfl))); (intro _ _ _ _ _; exact (pts_one (pt_cmpR op_ne (pv 2) pe_str (nomark _)))); (intro _ _ _ _ _; exact (pv 2)); exact (fun _ => rfl); exact (fun _ _ _ _ _ => rfl); exact (fun _ _ _ _ _ => rfl); exact (fun _ _ _ _ _ => rfl)))))), ?_⟩
  obtain ⟨q, a, rfl, hq, ha, h⟩ := h
  have hq : H q = some (.tup [.str "next", .str a, .str a]) := hq
  refine ⟨_, rfl, q, _, 0, _, rfl, rfl, SqT.of hq, rfl, rfl, _, rfl, iteO (by decide +kernel) ⟨_, rfl, q, _, 0, _, rfl, rfl, SqT.of hq, rfl, sz1000 (Nat.le_of_ble_eq_true rfl), fun t nt => ?_⟩⟩
  generalize e1 : upd H t _ = H1
  have s1 := same_of e1 nt
  refine ⟨t, _, rfl, .inr (SqT.of (at_of' e1)), rfl, rfl, _, rfl, iteO (by decide +kernel) ⟨_, rfl, _, rfl, q, _, rfl, SqT.of (s1 _ _ hq), sx2, fun S nS => ?_⟩⟩
  generalize e2 : upd H1 S _ = H2
  have s2 := same_of e2 nS
  have hS : H2 S = some (.tup [.str a]) := at_of' e2
  refine ⟨_, rfl, S, rfl, ⟨_, SqT.of hS⟩, fun D nD => ?_⟩
  refine lc_tup (xs := [.str a]) (LcF H2 D (askL a)) (lcF0 nD rfl) (fun i H' _ q => SqT.of (q.1 _ _ hS)) ?_ ?_
  · intro i v H' hx q
    match i, hx with
    | 0, hx =>
      cases hx
      have ne : decide (V.str a = V.str "END") = false := by rcases ha with rfl | rfl <;> decide +kernel
      exact ⟨rfl, _, rfl, rfl, _, rfl, iteE (by rw [ne]; rfl) ⟨_, rfl, lcFS nD q (szn (Nat.le_of_ble_eq_true rfl)) (Same.refl _) rfl⟩⟩
    | _ + 1, hx => cases hx
  · intro H' q
    exact h H' D (Same.trans (Same.trans s1 s2) q.1) (same_none (Same.trans s1 s2) nD) q.2
abbrev N_set_letters : List Str := ["deed"]
theorem sc_set_letters : FnScope N_set_letters ["deed"] (defScope s_set_letters) := ⟨rfl, rfl, rfl, by decide +kernel, rfl, by decide +kernel, by decide +kernel⟩
theorem ok_set_letters {P : Program} {w : World} {K : PySem.W.Frag} {mg : Str → Option Value} {base : Heap} (T : TopE K mg) : FnAt P w K mg base CX0 1 (He.ga K "set_letters") ["deed"] spAsked := by
  refine fnAt0 (k := 0) T.f_set_letters sc_set_letters len1 (fun _ _ _ _ _ _ us hl => match us, hl with | [_], _ => rfl) (fun cdv A outer s H vs Q E hr h => ?_)
  have hu := hu_of hr
  obtain ⟨v_deed, rfl, h⟩ := h
  refine ⟨_, (pss_one (ps_ret (pe_ifExp (pt_cmpR op_in_seq (pe_ix ix_tup (pv 0) pe_int (fun _ _ => rfl)) (pe_tup (pa_cons pe_str (pa_cons pe_str (pa_cons pe_str pa_nil)))) rfl) (pe_lst (pa_cons (pe_ix ix_tup (pv 0) pe_int (fun _ _ => rfl)) pa_nil)) (pe_lst pa_nil)))), ?_⟩
  obtain ⟨q, a, rfl, hq, ha, h⟩ := h
  have hq : H q = some (.tup [.str "next", .str a, .str a]) := hq
  refine ⟨_, rfl, q, _, 0, _, rfl, rfl, SqT.of hq, rfl, sz1000 (Nat.le_of_ble_eq_true rfl), fun t nt => ?_⟩
  generalize e1 : upd H t _ = H1
  have s1 := same_of e1 nt
  refine ⟨t, _, rfl, .inr (SqT.of (at_of' e1)), rfl, rfl, _, rfl, iteE (by decide +kernel) ⟨_, rfl, q, _, 1, _, rfl, rfl, SqT.of (s1 _ _ hq), rfl, sz1000 (Nat.le_of_ble_eq_true rfl), fun l nl => ?_⟩⟩
  generalize e2 : upd H1 l _ = H2
  exact h H2 l (Same.trans s1 (same_of e2 nl)) (same_none s1 nl) (at_of' e2)

end K66
end
section
set_option Elab.async false
set_option linter.all false
set_option maxRecDepth 100000
set_option maxHeartbeats 4000000
namespace K66
open PySem PySem.Spec PyProof.Rows L2
local macro_rules | `(tactic| walk_at "rd") => `(tactic| repeat (first | refine ⟨_, rfl, ?_⟩ | refine ⟨_, _, rfl, rfl, ?_⟩ | refine ⟨rfl, ?_⟩))
local macro_rules | `(tactic| walk_at "hp") => `(tactic| (first | assumption | solve_by_elim (maxDepth := 12)))
local macro_rules | `(tactic| walk_at "pl") => `(tactic| ((repeat (refine putF_lt ?_)); exact Nat.le_of_ble_eq_true rfl))
/-! ## the notes of a run -/
def ntF (v0 v1 v2 v3 : V) : List (Str × V) := [("reads", v0), ("writes", v1), ("asks", v2), ("sets", v3)]
theorem ntF_init (v0 v1 v2 v3 : V) : (putF "sets" v3 (putF "asks" v2 (putF "writes" v1 (putF "reads" v0 ([] : List (Str × V)))))) = ntF v0 v1 v2 v3 := by kernel_rfl
theorem ntF_reads (v0 v1 v2 v3 : V) : (ntF v0 v1 v2 v3).lookup ("reads" : Str) = some v0 := by kernel_rfl
theorem ntF_put_reads (v0 v1 v2 v3 : V) (u : V) : putF "reads" u (ntF v0 v1 v2 v3) = ntF u v1 v2 v3 := by kernel_rfl
theorem ntF_writes (v0 v1 v2 v3 : V) : (ntF v0 v1 v2 v3).lookup ("writes" : Str) = some v1 := by kernel_rfl
theorem ntF_put_writes (v0 v1 v2 v3 : V) (u : V) : putF "writes" u (ntF v0 v1 v2 v3) = ntF v0 u v2 v3 := by kernel_rfl
theorem ntF_asks (v0 v1 v2 v3 : V) : (ntF v0 v1 v2 v3).lookup ("asks" : Str) = some v2 := by kernel_rfl
theorem ntF_put_asks (v0 v1 v2 v3 : V) (u : V) : putF "asks" u (ntF v0 v1 v2 v3) = ntF v0 v1 u v3 := by kernel_rfl
theorem ntF_sets (v0 v1 v2 v3 : V) : (ntF v0 v1 v2 v3).lookup ("sets" : Str) = some v3 := by kernel_rfl
theorem ntF_put_sets (v0 v1 v2 v3 : V) (u : V) : putF "sets" u (ntF v0 v1 v2 v3) = ntF v0 v1 v2 u := by kernel_rfl
theorem ntF_no_note_deed (v0 v1 v2 v3 : V) : (ntF v0 v1 v2 v3).lookup ("note_deed" : Str) = none := by kernel_rfl
theorem ntF_no_note_test (v0 v1 v2 v3 : V) : (ntF v0 v1 v2 v3).lookup ("note_test" : Str) = none := by kernel_rfl
def wkF (v0 v1 v2 v3 v4 v5 : V) : List (Str × V) := [("code", v0), ("heap", v1), ("at", v2), ("steps", v3), ("deed", v4), ("notes", v5)]
theorem wkF_init (v0 v1 v2 v3 v4 v5 : V) : (putF "notes" v5 (putF "deed" v4 (putF "steps" v3 (putF "at" v2 (putF "heap" v1 (putF "code" v0 ([] : List (Str × V)))))))) = wkF v0 v1 v2 v3 v4 v5 := by kernel_rfl
theorem wkF_code (v0 v1 v2 v3 v4 v5 : V) : (wkF v0 v1 v2 v3 v4 v5).lookup ("code" : Str) = some v0 := by kernel_rfl
theorem wkF_put_code (v0 v1 v2 v3 v4 v5 : V) (u : V) : putF "code" u (wkF v0 v1 v2 v3 v4 v5) = wkF u v1 v2 v3 v4 v5 := by kernel_rfl
theorem wkF_heap (v0 v1 v2 v3 v4 v5 : V) : (wkF v0 v1 v2 v3 v4 v5).lookup ("heap" : Str) = some v1 := by kernel_rfl
theorem wkF_put_heap (v0 v1 v2 v3 v4 v5 : V) (u : V) : putF "heap" u (wkF v0 v1 v2 v3 v4 v5) = wkF v0 u v2 v3 v4 v5 := by kernel_rfl
theorem wkF_at (v0 v1 v2 v3 v4 v5 : V) : (wkF v0 v1 v2 v3 v4 v5).lookup ("at" : Str) = some v2 := by kernel_rfl
theorem wkF_put_at (v0 v1 v2 v3 v4 v5 : V) (u : V) : putF "at" u (wkF v0 v1 v2 v3 v4 v5) = wkF v0 v1 u v3 v4 v5 := by kernel_rfl
theorem wkF_steps (v0 v1 v2 v3 v4 v5 : V) : (wkF v0 v1 v2 v3 v4 v5).lookup ("steps" : Str) = some v3 := by kernel_rfl
theorem wkF_put_steps (v0 v1 v2 v3 v4 v5 : V) (u : V) : putF "steps" u (wkF v0 v1 v2 v3 v4 v5) = wkF v0 v1 v2 u v4 v5 := by kernel_rfl
theorem wkF_deed (v0 v1 v2 v3 v4 v5 : V) : (wkF v0 v1 v2 v3 v4 v5).lookup ("deed" : Str) = some v4 := by kernel_rfl
theorem wkF_put_deed (v0 v1 v2 v3 v4 v5 : V) (u : V) : putF "deed" u (wkF v0 v1 v2 v3 v4 v5) = wkF v0 v1 v2 v3 u v5 := by kernel_rfl
theorem wkF_notes (v0 v1 v2 v3 v4 v5 : V) : (wkF v0 v1 v2 v3 v4 v5).lookup ("notes" : Str) = some v5 := by kernel_rfl
theorem wkF_put_notes (v0 v1 v2 v3 v4 v5 : V) (u : V) : putF "notes" u (wkF v0 v1 v2 v3 v4 v5) = wkF v0 v1 v2 v3 v4 u := by kernel_rfl
theorem wkF_no_lead (v0 v1 v2 v3 v4 v5 : V) : (wkF v0 v1 v2 v3 v4 v5).lookup ("lead" : Str) = none := by kernel_rfl
theorem wkF_no_step (v0 v1 v2 v3 v4 v5 : V) : (wkF v0 v1 v2 v3 v4 v5).lookup ("step" : Str) = none := by kernel_rfl
theorem wkF_no_is_over (v0 v1 v2 v3 v4 v5 : V) : (wkF v0 v1 v2 v3 v4 v5).lookup ("is_over" : Str) = none := by kernel_rfl
def ButL (ms : List Addr) (H H' : Hp) : Prop := ∀ a o, a ∉ ms → H a = some o → H' a = some o
theorem ButL.trans {ms : List Addr} {H H1 H2 : Hp} (x : ButL ms H H1) (y : ButL ms H1 H2) : ButL ms H H2 := fun a o n h => y a o n (x a o n h)
theorem Same.butL {ms : List Addr} {H H' : Hp} (s : Same H H') : ButL ms H H' := fun a o _ h => s a o h
theorem But.butL {p : Addr} {ms : List Addr} {H H' : Hp} (b : But p H H') (hp : p ∈ ms) : ButL ms H H' := fun a o n h => b a o (fun e => n (e ▸ hp)) h
theorem ButL.mono {ms ns : List Addr} {H H' : Hp} (b : ButL ms H H') (h : ∀ a ∈ ms, a ∈ ns) : ButL ns H H' := fun a o n e => b a o (fun z => n (h a z)) e
def kx : Key × V := (Sum.inr "x", V.bl true)
def ky : Key × V := (Sum.inr "y", V.bl true)
def XYD (d : List (Key × V)) : Prop := d = [] ∨ d = [kx] ∨ d = [ky] ∨ d = [kx, ky] ∨ d = [ky, kx]
theorem XYD.put {d : List (Key × V)} {a : Str} (h : XYD d) (ha : a = "x" ∨ a = "y") : XYD (putK d (Sum.inr a) (.bl true)) := by
  rcases h with rfl | rfl | rfl | rfl | rfl <;> rcases ha with rfl | rfl <;> first | exact Or.inl rfl | exact Or.inr (Or.inl rfl) | exact Or.inr (Or.inr (Or.inl rfl)) | exact Or.inr (Or.inr (Or.inr (Or.inl rfl))) | exact Or.inr (Or.inr (Or.inr (Or.inr rfl)))
theorem XYD.le {d : List (Key × V)} (h : XYD d) : d.length ≤ 2 := by
  rcases h with rfl | rfl | rfl | rfl | rfl <;> decide
theorem seenD_put2 {acc : List Int} {i : Int} (h : i ∈ acc) : putK (seenD acc) (Sum.inl i) (V.bl true) = seenD acc := by
  unfold putK
  rw [valV_any, seenD_val, if_pos h]
  show (seenD acc).map _ = _
  unfold seenD
  rw [List.map_map]
  refine List.map_congr_left fun x hx => ?_
  show (if (Sum.inl x : Key) = Sum.inl i then ((Sum.inl x : Key), V.bl true) else (Sum.inl x, V.bl true)) = _
  split <;> rfl
theorem pass_put {cl : List (Int × Int)} {ks : List Int} {i j : Int} (h : Pass cl ks) (hj : nxt cl i = some j) : ∃ ks', putK (seenD ks) (Sum.inl i) (V.bl true) = seenD ks' ∧ Pass cl ks' := by
  by_cases hi : i ∈ ks
  · exact ⟨ks, seenD_put2 hi, h⟩
  · exact ⟨_, seenD_put hi, h.add hj hi⟩
def NotesAt (K : PySem.W.Frag) (H : Hp) (n R Wr A S : Addr) (cl : List (Int × Int)) : Prop :=
  (∃ dn, H n = some (.ins (He.ga K "Notes") dn (ntF (.ref R) (.ref Wr) (.ref A) (.ref S)))) ∧ (∃ ks, H R = some (.dK (seenD ks)) ∧ Pass cl ks) ∧ H Wr = some (.dK []) ∧ (∃ d, H A = some (.dK d) ∧ XYD d) ∧ (∃ d, H S = some (.dK d) ∧ XYD d)
theorem NotesAt.same {K : PySem.W.Frag} {H H' : Hp} {n R Wr A S : Addr} {cl : List (Int × Int)} (s : Same H H') (h : NotesAt K H n R Wr A S cl) : NotesAt K H' n R Wr A S cl :=
  let ⟨⟨dn, a⟩, ⟨ks, b, c⟩, d, ⟨e, f, g⟩, ⟨i, j, k⟩⟩ := h; ⟨⟨dn, s _ _ a⟩, ⟨ks, s _ _ b, c⟩, s _ _ d, ⟨e, s _ _ f, g⟩, ⟨i, s _ _ j, k⟩⟩
def spNotesInit (K : PySem.W.Frag) : Sp := sp1 fun self H Q _ => ∃ p dx, self = .ref p ∧ H p = some (.ins (He.ga K "Notes") dx []) ∧
  ∀ H' R Wr A S, But p H H' → (∀ cl, NotesAt K H' p R Wr A S cl) → H R = none → H Wr = none → H A = none → H S = none → [R, Wr, A, S].Nodup → Q .non H'
theorem none_but {p a : Addr} {H H' : Hp} {o : HO} (b : But p H H') (n : H' a = none) (hp : H' p = some o) : H a = none := by
  cases e : H a with
  | none => rfl
  | some u =>
    by_cases ep : a = p
    · subst ep
      rw [hp] at n
      cases n
    · rw [b _ _ ep e] at n
      cases n
abbrev N_Notes_init : List Str := ["self"]
theorem sc_Notes_init : FnScope N_Notes_init ["self"] (defScope s_Notes_init) := ⟨rfl, rfl, rfl, by decide +kernel, rfl, by decide +kernel, by decide +kernel⟩
theorem ok_Notes_init {P : Program} {w : World} {K : PySem.W.Frag} {mg : Str → Option Value} {base : Heap} (T : TopE K mg) : FnAt P w K mg base CX0 1 (He.ma K (He.ga K "Notes") "__init__") ["self"] (spNotesInit K) := by
  refine fnAt0 (k := 0) T.f_Notes_init sc_Notes_init len1 (fun _ _ _ _ _ _ us hl => match us, hl with | [_], _ => rfl) (fun cdv A outer s H vs Q E hr h => ?_)
  have hu := hu_of hr
  obtain ⟨v_self, rfl, h⟩ := h
  refine ⟨_, (pss_cons (ps_fld (pv 0) pe_dnewK rfl)
    (pss_cons (ps_fld (pv 0) pe_dnewK rfl)
    (pss_cons (ps_fld (pv 0) pe_dnewK rfl)
    (pss_one (ps_fld (pv 0) pe_dnewK rfl))))), ?_⟩
  obtain ⟨p, dx, rfl, hp, h⟩ := h
  intro R n_R
  generalize e_H1 : upd _ R _ = H1
  have s_H1 := same_of e_H1 n_R
  have h_R := at_of' e_H1
  have hp1 := s_H1 _ _ hp
  refine ⟨_, rfl, _, _, _, _, rfl, hp1, T.c_Notes, T.n_Notes_reads, (by walk_at "pl"), ?_⟩
  generalize e_H2 : upd _ p _ = H2
  have b_H2 := but_upd e_H2
  have h_pH2 := at_of' e_H2
  intro B n_B
  generalize e_H3 : upd _ B _ = H3
  have s_H3 := same_of e_H3 n_B
  have h_B := at_of' e_H3
  have hp3 := s_H3 _ _ h_pH2
  refine ⟨_, rfl, _, _, _, _, rfl, hp3, T.c_Notes, T.n_Notes_writes, (by walk_at "pl"), ?_⟩
  generalize e_H4 : upd _ p _ = H4
  have b_H4 := but_upd e_H4
  have h_pH4 := at_of' e_H4
  intro A n_A
  generalize e_H5 : upd _ A _ = H5
  have s_H5 := same_of e_H5 n_A
  have h_A := at_of' e_H5
  have hp5 := s_H5 _ _ h_pH4
  refine ⟨_, rfl, _, _, _, _, rfl, hp5, T.c_Notes, T.n_Notes_asks, (by walk_at "pl"), ?_⟩
  generalize e_H6 : upd _ p _ = H6
  have b_H6 := but_upd e_H6
  have h_pH6 := at_of' e_H6
  intro S n_S
  generalize e_H7 : upd _ S _ = H7
  have s_H7 := same_of e_H7 n_S
  have h_S := at_of' e_H7
  have hp7 := s_H7 _ _ h_pH6
  refine ⟨_, rfl, _, _, _, _, rfl, hp7, T.c_Notes, T.n_Notes_sets, (by walk_at "pl"), ?_⟩
  generalize e_H8 : upd _ p _ = H8
  have b_H8 := but_upd e_H8
  have h_pH8 := at_of' e_H8
  have h_pH8 : H8 p = some (.ins (He.ga K "Notes") dx (ntF (.ref R) (.ref B) (.ref A) (.ref S))) := h_pH8.trans (by rw [ntF_init])
  have R2 := but_ni b_H2 hp1 h_R rfl
  have R4 := but_ni b_H4 hp3 (s_H3 _ _ R2) rfl
  have R6 := but_ni b_H6 hp5 (s_H5 _ _ R4) rfl
  have R8 := but_ni b_H8 hp7 (s_H7 _ _ R6) rfl
  have B4 := but_ni b_H4 hp3 h_B rfl
  have B6 := but_ni b_H6 hp5 (s_H5 _ _ B4) rfl
  have B8 := but_ni b_H8 hp7 (s_H7 _ _ B6) rfl
  have A6 := but_ni b_H6 hp5 h_A rfl
  have A8 := but_ni b_H8 hp7 (s_H7 _ _ A6) rfl
  have S8 := but_ni b_H8 hp7 h_S rfl
  have b2 : But p H H2 := But.trans (Same.but s_H1) b_H2
  have b4 : But p H H4 := But.trans (b2.sm s_H3) b_H4
  have b6 : But p H H6 := But.trans (b4.sm s_H5) b_H6
  have b8 : But p H H8 := But.trans (b6.sm s_H7) b_H8
  have d1 : R ≠ B := fun e => by subst e; rw [R2] at n_B; cases n_B
  have d2 : R ≠ A := fun e => by subst e; rw [R4] at n_A; cases n_A
  have d3 : R ≠ S := fun e => by subst e; rw [R6] at n_S; cases n_S
  have d4 : B ≠ A := fun e => by subst e; rw [B4] at n_A; cases n_A
  have d5 : B ≠ S := fun e => by subst e; rw [B6] at n_S; cases n_S
  have d6 : A ≠ S := fun e => by subst e; rw [A6] at n_S; cases n_S
  refine h H8 R B A S b8 (fun cl => ⟨⟨dx, h_pH8⟩, ⟨[], R8, List.nodup_nil, fun x hx => by cases hx⟩, B8, ⟨[], A8, Or.inl rfl⟩, ⟨[], S8, Or.inl rfl⟩⟩) n_R (none_but b2 n_B h_pH2) (none_but b4 n_A h_pH4) (none_but b6 n_S h_pH6) ?_
  simp [d1, d2, d3, d4, d5, d6]
theorem nd4 {R Wr A S : Addr} (h : [R, Wr, A, S].Nodup) : R ≠ Wr ∧ R ≠ A ∧ R ≠ S ∧ Wr ≠ A ∧ Wr ≠ S ∧ A ≠ S := by
  simp at h
  exact ⟨h.1.1, h.1.2.1, h.1.2.2, h.2.1.1, h.2.1.2, h.2.2⟩
theorem ins_ne_dict {H : Hp} {n a C dx : Addr} {fs : List (Str × V)} {d : List (Key × V)} (h1 : H n = some (.ins C dx fs)) (h2 : H a = some (.dK d)) : n ≠ a := fun e => by
  subst e
  rw [h1] at h2
  cases h2
theorem lst_ne_dict {H : Hp} {n a : Addr} {xs : List V} {d : List (Key × V)} (h1 : H n = some (.lst xs)) (h2 : H a = some (.dK d)) : n ≠ a := fun e => by
  subst e
  rw [h1] at h2
  cases h2
/-- one letter more among those asked -/
theorem NotesAt.putA {K : PySem.W.Frag} {H H' : Hp} {n R Wr A S : Addr} {cl : List (Int × Int)} {d : List (Key × V)} {a : Str} (h : NotesAt K H n R Wr A S cl) (nd : [R, Wr, A, S].Nodup) (hA : H A = some (.dK d)) (ha : a = "x" ∨ a = "y")
    (e : upd H A (.dK (putK d (Sum.inr a) (.bl true))) = H') : NotesAt K H' n R Wr A S cl := by
  obtain ⟨⟨dn, h1⟩, ⟨ks, h2, h3⟩, h4, ⟨d', h5, h6⟩, ⟨d2, h7, h8⟩⟩ := h
  obtain ⟨n1, n2, n3, n4, n5, n6⟩ := nd4 nd
  rw [hA] at h5
  cases h5
  have b := but_upd e
  exact ⟨⟨dn, b _ _ (ins_ne_dict h1 hA) h1⟩, ⟨ks, b _ _ n2 h2, h3⟩, b _ _ n4 h4, ⟨_, at_of' e, h6.put ha⟩, ⟨d2, b _ _ (Ne.symm n6) h7, h8⟩⟩
theorem NotesAt.putS {K : PySem.W.Frag} {H H' : Hp} {n R Wr A S : Addr} {cl : List (Int × Int)} {d : List (Key × V)} {a : Str} (h : NotesAt K H n R Wr A S cl) (nd : [R, Wr, A, S].Nodup) (hA : H S = some (.dK d)) (ha : a = "x" ∨ a = "y")
    (e : upd H S (.dK (putK d (Sum.inr a) (.bl true))) = H') : NotesAt K H' n R Wr A S cl := by
  obtain ⟨⟨dn, h1⟩, ⟨ks, h2, h3⟩, h4, ⟨d', h5, h6⟩, ⟨d2, h7, h8⟩⟩ := h
  obtain ⟨n1, n2, n3, n4, n5, n6⟩ := nd4 nd
  rw [hA] at h7
  cases h7
  have b := but_upd e
  exact ⟨⟨dn, b _ _ (ins_ne_dict h1 hA) h1⟩, ⟨ks, b _ _ n3 h2, h3⟩, b _ _ n5 h4, ⟨d', b _ _ n6 h5, h6⟩, ⟨_, at_of' e, h8.put ha⟩⟩
theorem NotesAt.putR {K : PySem.W.Frag} {H H' : Hp} {n R Wr A S : Addr} {cl : List (Int × Int)} {ks : List Int} {i j : Int} (h : NotesAt K H n R Wr A S cl) (nd : [R, Wr, A, S].Nodup) (hR : H R = some (.dK (seenD ks))) (hp : Pass cl ks) (hj : nxt cl i = some j)
    (e : upd H R (.dK (putK (seenD ks) (Sum.inl i) (.bl true))) = H') : NotesAt K H' n R Wr A S cl := by
  obtain ⟨⟨dn, h1⟩, _, h4, ⟨d', h5, h6⟩, ⟨d2, h7, h8⟩⟩ := h
  obtain ⟨n1, n2, n3, n4, n5, n6⟩ := nd4 nd
  obtain ⟨ks', e1, e2⟩ := pass_put hp hj
  rw [e1] at e
  have b := but_upd e
  exact ⟨⟨dn, b _ _ (ins_ne_dict h1 hR) h1⟩, ⟨ks', at_of' e, e2⟩, b _ _ (Ne.symm n1) h4, ⟨d', b _ _ (Ne.symm n2) h5, h6⟩, ⟨d2, b _ _ (Ne.symm n3) h7, h8⟩⟩
def spNoteDeed (K : PySem.W.Frag) : Sp := sp3 fun self v i H Q _ => ∃ n R Wr A S cl q a z j, self = .ref n ∧ v = .ref q ∧ i = .int z ∧ NotesAt K H n R Wr A S cl ∧ cl.length ≤ 100 ∧ [R, Wr, A, S].Nodup ∧ NextT H a q ∧ (a = "x" ∨ a = "y") ∧ nxt cl z = some j ∧
  ∀ H', ButL [R, A, S] H H' → NotesAt K H' n R Wr A S cl → Q .non H'
abbrev N_Notes_note_deed : List Str := ["self", "deed", "place", "letter"]
theorem sc_Notes_note_deed : FnScope N_Notes_note_deed ["self", "deed", "place"] (defScope s_Notes_note_deed) := ⟨rfl, rfl, rfl, by decide +kernel, rfl, by decide +kernel, by decide +kernel⟩
theorem ok_Notes_note_deed {P : Program} {w : World} {K : PySem.W.Frag} {mg : Str → Option Value} {base : Heap} (T : TopE K mg) : FnAt P w K mg base CX0 2 (He.ma K (He.ga K "Notes") "note_deed") ["self", "deed", "place"] (spNoteDeed K) := by
  refine fnAt0 (k := 1) T.f_Notes_note_deed sc_Notes_note_deed len3 (fun _ _ _ _ _ _ us hl => match us, hl with | [_, _, _], _ => rfl) (fun cdv A outer s H vs Q E hr h => ?_)
  have hu := hu_of hr
  obtain ⟨v_self, v_deed, v_place, rfl, h⟩ := h
  refine ⟨_, (pss_cons (ps_if (pt_cmpR op_eq (pe_ix ix_tup (pv 1) pe_int (fun _ _ => rfl)) pe_str (nomark _)) (pss_one (ps_dput hu (pe_fld (pv 0) rfl) (pv 2) pe_bl rfl)) pss_never)
    (pss_cons (ps_for PassesOwn.never rfl (pi_list (pe_f (ok_asked_letters T) (hr.mono (by decide)) T.g_asked_letters pass0 (pa_cons (pv 1) pa_nil))) (pg_name (i := 3) sc_Notes_note_deed.nd rfl (Or.inl rfl)) (pss_one (ps_dput hu (pe_fld (pv 0) rfl) (pv 3) pe_bl rfl)))
    (pss_one (ps_for PassesOwn.never rfl (pi_list (pe_f (ok_set_letters T) (hr.mono (by decide)) T.g_set_letters pass0 (pa_cons (pv 1) pa_nil))) (pg_name (i := 3) sc_Notes_note_deed.nd rfl (Or.inl rfl)) (pss_one (ps_dput hu (pe_fld (pv 0) rfl) (pv 3) pe_bl rfl)))))), ?_⟩
  obtain ⟨n, R, Wr, A, S, cl, q, a, z, j, rfl, rfl, rfl, na, few, nd, hq, ha, hj, h⟩ := h
  have hq' : H q = some (.tup [.str "next", .str a, .str a]) := hq
  obtain ⟨⟨dn, hn⟩, ⟨ks, hR, hp⟩, _⟩ := id na
  have hks := hp.le
  refine ⟨_, rfl, q, _, 0, _, rfl, rfl, SqT.of hq', rfl, rfl, _, rfl, iteE (by decide +kernel) ⟨_, rfl, _, _, _, _, _, rfl, hn, T.c_Notes, T.n_Notes_reads, ntF_reads _ _ _ _, _, rfl, R, _, rfl, DPut.k (k := Sum.inl z) hR (by unfold seenD; rw [List.length_map]; exact szn (by omega)), ?_⟩⟩
  generalize e1 : upd H R _ = H1
  have b1 := but_upd e1
  have na1 := na.putR nd hR hp hj e1
  have hq1 : NextT H1 a q := hq.kp (b1.kp hR rfl)
  refine ⟨_, rfl, _, rfl, q, a, rfl, hq1, ha, fun H2 l s2 nl hl => ⟨l, rfl, ⟨_, SqL.of hl⟩, ?_⟩⟩
  refine for_list (xs := [.str a]) (fun i σ H' => (∃ u, σ = [some (.ref n), some (.ref q), some (.int z), u]) ∧ ButL [R, A, S] H H' ∧ H' l = some (.lst [.str a]) ∧ NotesAt K H' n R Wr A S cl ∧ NextT H' a q) ⟨⟨_, rfl⟩, (b1.butL (by simp)).trans (Same.butL s2), hl, na1.same s2, hq1.kp (Same.kp s2)⟩ (fun i σ H' _ q => SqL.of q.2.2.1) ?_ ?_
  · rintro i x σ H' hx ⟨⟨u, rfl⟩, b, hl, nt, hqn⟩
    have ex : x = .str a := by
      match i, hx with
      | 0, hx => cases hx; rfl
      | _ + 1, hx => cases hx
    subst ex
    obtain ⟨⟨dn, hn⟩, _, _, ⟨d, hA, hd⟩, _⟩ := id nt
    have hdl := hd.le
    refine ⟨_, rfl, _, _, _, _, _, rfl, hn, T.c_Notes, T.n_Notes_asks, ntF_asks _ _ _ _, _, rfl, A, _, rfl, DPut.k (k := Sum.inr a) hA (szn (by omega)), ?_⟩
    generalize e3 : upd H' A _ = H3
    have b3 := but_upd e3
    exact ⟨⟨_, rfl⟩, b.trans (b3.butL (by simp)), b3 _ _ (lst_ne_dict hl hA) hl, nt.putA nd hA ha e3, hqn.kp (b3.kp hA rfl)⟩
  · rintro σ H' ⟨⟨u, rfl⟩, b, _, nt, hqn⟩
    refine ⟨_, rfl, _, rfl, q, a, rfl, hqn, ha, fun H4 l s4 nl hl => ⟨l, rfl, ⟨_, SqL.of hl⟩, ?_⟩⟩
    refine for_list (xs := [.str a]) (fun i σ H' => (∃ u, σ = [some (.ref n), some (.ref q), some (.int z), u]) ∧ ButL [R, A, S] H H' ∧ H' l = some (.lst [.str a]) ∧ NotesAt K H' n R Wr A S cl) ⟨⟨_, rfl⟩, b.trans (Same.butL s4), hl, nt.same s4⟩ (fun i σ H' _ q => SqL.of q.2.2.1) ?_ ?_
    · rintro i x σ H' hx ⟨⟨u, rfl⟩, b, hl, nt⟩
      have ex : x = .str a := by
        match i, hx with
        | 0, hx => cases hx; rfl
        | _ + 1, hx => cases hx
      subst ex
      obtain ⟨⟨dn, hn⟩, _, _, _, ⟨d, hS, hd⟩⟩ := id nt
      have hdl := hd.le
      refine ⟨_, rfl, _, _, _, _, _, rfl, hn, T.c_Notes, T.n_Notes_sets, ntF_sets _ _ _ _, _, rfl, S, _, rfl, DPut.k (k := Sum.inr a) hS (szn (by omega)), ?_⟩
      generalize e3 : upd H' S _ = H3
      have b3 := but_upd e3
      exact ⟨⟨_, rfl⟩, b.trans (b3.butL (by simp)), b3 _ _ (lst_ne_dict hl hS) hl, nt.putS nd hS ha e3⟩
    · rintro σ H' ⟨_, b, _, nt⟩
      exact h H' b nt
def spNoteTest (K : PySem.W.Frag) : Sp := sp2 fun self v H Q _ => ∃ n R Wr A S cl t, self = .ref n ∧ v = .ref t ∧ NotesAt K H n R Wr A S cl ∧ [R, Wr, A, S].Nodup ∧ TestT H t ∧ ∀ H', ButL [R, A, S] H H' → NotesAt K H' n R Wr A S cl → Q .non H'
abbrev N_Notes_note_test : List Str := ["self", "test", "letter"]
theorem sc_Notes_note_test : FnScope N_Notes_note_test ["self", "test"] (defScope s_Notes_note_test) := ⟨rfl, rfl, rfl, by decide +kernel, rfl, by decide +kernel, by decide +kernel⟩
theorem ok_Notes_note_test {P : Program} {w : World} {K : PySem.W.Frag} {mg : Str → Option Value} {base : Heap} (T : TopE K mg) : FnAt P w K mg base CX0 2 (He.ma K (He.ga K "Notes") "note_test") ["self", "test"] (spNoteTest K) := by
  refine fnAt0 (k := 1) T.f_Notes_note_test sc_Notes_note_test len2 (fun _ _ _ _ _ _ us hl => match us, hl with | [_, _], _ => rfl) (fun cdv A outer s H vs Q E hr h => ?_)
  have hu := hu_of hr
  obtain ⟨v_self, v_test, rfl, h⟩ := h
  refine ⟨_, (pss_one (ps_for PassesOwn.never rfl (pi_list (pe_f (ok_test_letters T) (hr.mono (by decide)) T.g_test_letters pass0 (pa_cons (pv 1) pa_nil))) (pg_name (i := 2) sc_Notes_note_test.nd rfl (Or.inl rfl)) (pss_one (ps_dput hu (pe_fld (pv 0) rfl) (pv 2) pe_bl rfl)))), ?_⟩
  obtain ⟨n, R, Wr, A, S, cl, t, rfl, rfl, na, nd, ht, h⟩ := h
  refine ⟨_, rfl, _, rfl, t, rfl, ht, fun H2 l s2 hl => ⟨l, rfl, ⟨_, SqL.of hl⟩, ?_⟩⟩
  refine for_list (xs := [.str "x", .str "y"]) (fun i σ H' => (∃ u, σ = [some (.ref n), some (.ref t), u]) ∧ ButL [R, A, S] H H' ∧ H' l = some (.lst [.str "x", .str "y"]) ∧ NotesAt K H' n R Wr A S cl) ⟨⟨_, rfl⟩, Same.butL s2, hl, na.same s2⟩ (fun i σ H' _ q => SqL.of q.2.2.1) ?_ ?_
  · rintro i x σ H' hx ⟨⟨u, rfl⟩, b, hl, nt⟩
    have ex : ∃ a : Str, x = .str a ∧ (a = "x" ∨ a = "y") := by
      match i, hx with
      | 0, hx => cases hx; exact ⟨_, rfl, .inl rfl⟩
      | 1, hx => cases hx; exact ⟨_, rfl, .inr rfl⟩
      | _ + 2, hx => cases hx
    obtain ⟨a, rfl, ha⟩ := ex
    obtain ⟨⟨dn, hn⟩, _, _, ⟨d, hA, hd⟩, _⟩ := id nt
    have hdl := hd.le
    refine ⟨_, rfl, _, _, _, _, _, rfl, hn, T.c_Notes, T.n_Notes_asks, ntF_asks _ _ _ _, _, rfl, A, _, rfl, DPut.k (k := Sum.inr a) hA (szn (by omega)), ?_⟩
    generalize e3 : upd H' A _ = H3
    have b3 := but_upd e3
    exact ⟨⟨_, rfl⟩, b.trans (b3.butL (by simp)), b3 _ _ (lst_ne_dict hl hA) hl, nt.putA nd hA ha e3⟩
  · rintro σ H' ⟨_, b, _, nt⟩
    exact h H' b nt

end K66
end
section
set_option Elab.async false
set_option linter.all false
set_option maxRecDepth 100000
set_option maxHeartbeats 4000000
namespace K66
open PySem PySem.Spec PyProof.Rows L2
local macro_rules | `(tactic| walk_at "rd") => `(tactic| repeat (first | refine ⟨_, rfl, ?_⟩ | refine ⟨_, _, rfl, rfl, ?_⟩ | refine ⟨rfl, ?_⟩))
local macro_rules | `(tactic| walk_at "hp") => `(tactic| (first | assumption | solve_by_elim (maxDepth := 12)))
local macro_rules | `(tactic| walk_at "pl") => `(tactic| ((repeat (refine putF_lt ?_)); exact Nat.le_of_ble_eq_true rfl))
/-! ## the walk along the steps -/
def nmC (k : Nat) : Str := if k = 0 ∨ k = 4 then "x" else "y"
def noC (k : Nat) : Int := if k < 3 then k else k - 1
theorem nmC_xy (k : Nat) : nmC k = "x" ∨ nmC k = "y" := by
  unfold nmC
  split
  · exact .inl rfl
  · exact .inr rfl
theorem CodeT.row {H : Hp} {C : Addr} {k : Nat} (h : CodeT H C) (hk : k < 8) : ∃ (rows : List V) (d : Addr), H C = some (.lst rows) ∧ rows.length = 8 ∧ atI rows (k : Int) = some (.ref d) ∧
    ((k ≠ 3 ∧ k ≠ 7 ∧ DeedT H (nmC k) (noC k) d) ∨ (k = 3 ∧ LoopS H d) ∨ (k = 7 ∧ GoT H d)) := by
  obtain ⟨d0, d1, d2, lp, d3, d4, d5, g, e, a0, a1, a2, al, a3, a4, a5, ag⟩ := h
  match k, hk with
  | 0, _ => exact ⟨_, d0, e, rfl, rfl, .inl ⟨by decide, by decide, a0⟩⟩
  | 1, _ => exact ⟨_, d1, e, rfl, rfl, .inl ⟨by decide, by decide, a1⟩⟩
  | 2, _ => exact ⟨_, d2, e, rfl, rfl, .inl ⟨by decide, by decide, a2⟩⟩
  | 3, _ => exact ⟨_, lp, e, rfl, rfl, .inr (.inl ⟨rfl, al⟩)⟩
  | 4, _ => exact ⟨_, d3, e, rfl, rfl, .inl ⟨by decide, by decide, a3⟩⟩
  | 5, _ => exact ⟨_, d4, e, rfl, rfl, .inl ⟨by decide, by decide, a4⟩⟩
  | 6, _ => exact ⟨_, d5, e, rfl, rfl, .inl ⟨by decide, by decide, a5⟩⟩
  | 7, _ => exact ⟨_, g, e, rfl, rfl, .inr (.inr ⟨rfl, ag⟩)⟩
theorem CodeT.len {H : Hp} {C : Addr} (h : CodeT H C) : ∃ rows : List V, H C = some (.lst rows) ∧ rows.length = 8 := let ⟨_, _, _, _, _, _, _, _, e, _⟩ := h; ⟨_, e, rfl⟩
def ld (k : Nat) : Nat := if k = 7 then 3 else k
def WkAt (K : PySem.W.Frag) (H : Hp) (p cd h n : Addr) (k st : Int) (dd : V) : Prop := ∃ dp, H p = some (.ins (He.ga K "Walk") dp (wkF (.ref cd) (.ref h) (.int k) (.int st) dd (.ref n)))
theorem CodeT.but {K : PySem.W.Frag} {H H' : Hp} {p cd h n C : Addr} {k st : Int} {dd : V} (b : But p H H') (w : WkAt K H p cd h n k st dd) (c : CodeT H C) : CodeT H' C :=
  let ⟨_, e⟩ := w
  CodeT.kp (xs := []) (b.kp e rfl) (fun ys z => b _ _ (fun q => by subst q; rw [e] at z; cases z) z) c
def spLead (K : PySem.W.Frag) : Sp := sp1 fun self H Q _ => ∃ p cd h n st dd, ∃ k : Nat, self = .ref p ∧ WkAt K H p cd h n k st dd ∧ CodeT H cd ∧ k ≤ 8 ∧ ∀ H', But p H H' → WkAt K H' p cd h n (ld k : Nat) st dd → Q .non H'
abbrev N_Walk_lead : List Str := ["self"]
theorem sc_Walk_lead : FnScope N_Walk_lead ["self"] (defScope s_Walk_lead) := ⟨rfl, rfl, rfl, by decide +kernel, rfl, by decide +kernel, by decide +kernel⟩
theorem ok_Walk_lead {P : Program} {w : World} {K : PySem.W.Frag} {mg : Str → Option Value} {base : Heap} (T : TopE K mg) : FnAt P w K mg base CX0 1 (He.ma K (He.ga K "Walk") "lead") ["self"] (spLead K) := by
  refine fnAt0 (k := 0) T.f_Walk_lead sc_Walk_lead len1 (fun _ _ _ _ _ _ us hl => match us, hl with | [_], _ => rfl) (fun cdv A outer s H vs Q E hr h => ?_)
  have hu := hu_of hr
  obtain ⟨v_self, rfl, h⟩ := h
  refine ⟨_, (pss_one (ps_while PassesOwn.never (PW.pt (pw_and (pt_cmpR op_lt (pe_fld (pv 0) rfl) (pe_callB call_len_seq (by rfl) T.z_len (by decide +kernel) (pa_cons (pe_fld (pv 0) rfl) pa_nil)) (nomark _)) (pw_and1 (pt_cmpR op_eq (pe_ix ix_tup (pe_ix ix_list (pe_fld (pv 0) rfl) (pe_fld (pv 0) rfl) (fun _ _ => rfl)) pe_int (fun _ _ => rfl)) pe_str (nomark _))))) (pss_one (ps_fld (pv 0) (pe_ix ix_tup (pe_ix ix_list (pe_fld (pv 0) rfl) (pe_fld (pv 0) rfl) (fun _ _ => rfl)) pe_int (fun _ _ => rfl)) rfl)))), ?_⟩
  obtain ⟨p, cd, hh, n, st, dd, k, rfl, wk, hc, hk, h⟩ := h
  refine ⟨fun m σ H' => σ = [some (.ref p)] ∧ But p H H' ∧ CodeT H' cd ∧ ∃ k' : Nat, WkAt K H' p cd hh n k' st dd ∧ ((m = 1 ∧ k' = k) ∨ (m = 0 ∧ k' = 3 ∧ k = 7)), ⟨1, rfl, But.refl p H, hc, k, wk, .inl ⟨rfl, rfl⟩⟩, ?_⟩
  rintro m σ H' ⟨rfl, b, hc', k', wk', hm⟩
  obtain ⟨dp, hp⟩ := id wk'
  by_cases hk8 : k' < 8
  · obtain ⟨rows, d, hcd, hl, hat, hrow⟩ := hc'.row hk8
    refine ⟨_, rfl, _, _, _, _, _, rfl, hp, T.c_Walk, T.n_Walk_at, wkF_at _ _ _ _ _ _, _, rfl, _, _, _, _, _, rfl, hp, T.c_Walk, T.n_Walk_code, wkF_code _ _ _ _ _ _, cd, _, rfl, .inl (SqL.of hcd), _, _, rfl, rfl, _, rfl, iteE (decide_eq_true (by omega)) ?_⟩
    refine ⟨_, rfl, _, _, _, _, _, rfl, hp, T.c_Walk, T.n_Walk_code, wkF_code _ _ _ _ _ _, _, rfl, _, _, _, _, _, rfl, hp, T.c_Walk, T.n_Walk_at, wkF_at _ _ _ _ _ _, cd, _, (k' : Int), _, rfl, rfl, SqL.of hcd, hat, ?_⟩
    rcases hrow with ⟨h3, h7, q, hd, _⟩ | ⟨h3, t, hd, _⟩ | ⟨h7, hd⟩
    · refine ⟨d, _, 0, _, rfl, rfl, SqT.of hd, rfl, rfl, _, rfl, iteO (by decide +kernel) (h H' b ?_)⟩
      have e : ld k = k' := by
        rcases hm with ⟨_, e⟩ | ⟨_, e, _⟩
        · subst e
          exact if_neg h7
        · exact absurd e h3
      rw [e]
      exact wk'
    · refine ⟨d, _, 0, _, rfl, rfl, SqT.of hd, rfl, rfl, _, rfl, iteO (by decide +kernel) (h H' b ?_)⟩
      have e : ld k = k' := by
        rcases hm with ⟨_, e⟩ | ⟨_, e, e2⟩
        · subst e h3
          rfl
        · subst e e2
          rfl
      rw [e]
      exact wk'
    · have hd : H' d = some (.tup [.str "go", .int 3]) := hd
      rcases hm with ⟨em, e⟩ | ⟨_, e, e2⟩
      · refine ⟨d, _, 0, _, rfl, rfl, SqT.of hd, rfl, rfl, _, rfl, iteE (by decide +kernel) ?_⟩
        subst em e h7
        refine ⟨fun σ H2 => σ = [some (.ref p)] ∧ But p H H2 ∧ CodeT H2 cd ∧ ∃ k' : Nat, WkAt K H2 p cd hh n k' st dd ∧ k' = 3, fun σ' H2 w => ⟨0, by decide, w.1, w.2.1, w.2.2.1, let ⟨x, y, z⟩ := w.2.2.2; ⟨x, y, .inr ⟨rfl, z, rfl⟩⟩⟩, ?_⟩
        refine ⟨_, rfl, _, _, _, _, _, rfl, hp, T.c_Walk, T.n_Walk_code, wkF_code _ _ _ _ _ _, _, rfl, _, _, _, _, _, rfl, hp, T.c_Walk, T.n_Walk_at, wkF_at _ _ _ _ _ _, cd, _, 7, _, rfl, rfl, SqL.of hcd, hat, d, _, 1, _, rfl, rfl, SqT.of hd, rfl, ?_⟩
        refine ⟨_, rfl, _, _, _, _, rfl, hp, T.c_Walk, T.n_Walk_at, (by walk_at "pl"), ?_⟩
        rw [wkF_put_at]
        generalize e_H1 : upd _ p _ = H1
        have b_H1 := but_upd e_H1
        have h_pH1 := at_of' e_H1
        exact ⟨rfl, But.trans b b_H1, CodeT.but b_H1 wk' hc', 3, ⟨dp, h_pH1⟩, rfl⟩
      · omega
  · refine ⟨_, rfl, _, _, _, _, _, rfl, hp, T.c_Walk, T.n_Walk_at, wkF_at _ _ _ _ _ _, ?_⟩
    obtain ⟨rows, hcd, hl⟩ := hc'.len
    refine ⟨_, rfl, _, _, _, _, _, rfl, hp, T.c_Walk, T.n_Walk_code, wkF_code _ _ _ _ _ _, cd, _, rfl, .inl (SqL.of hcd), _, _, rfl, rfl, _, rfl, iteO (decide_eq_false (by omega)) (h H' b ?_)⟩
    have e : ld k = k' := by
      rcases hm with ⟨_, e⟩ | ⟨_, e, _⟩
      · subst e
        exact if_neg (by omega)
      · omega
    rw [e]
    exact wk'
def spWkOver (K : PySem.W.Frag) : Sp := sp1 fun self H Q _ => ∃ p cd h n st dd, ∃ k : Nat, self = .ref p ∧ WkAt K H p cd h n k st dd ∧ CodeT H cd ∧ Q (.bl (decide (8 ≤ k) || !decide (dd = .non))) H
abbrev N_Walk_is_over : List Str := ["self"]
theorem sc_Walk_is_over : FnScope N_Walk_is_over ["self"] (defScope s_Walk_is_over) := ⟨rfl, rfl, rfl, by decide +kernel, rfl, by decide +kernel, by decide +kernel⟩
theorem ok_Walk_is_over {P : Program} {w : World} {K : PySem.W.Frag} {mg : Str → Option Value} {base : Heap} (T : TopE K mg) : FnAt P w K mg base CX0 1 (He.ma K (He.ga K "Walk") "is_over") ["self"] (spWkOver K) := by
  refine fnAt0 (k := 0) T.f_Walk_is_over sc_Walk_is_over len1 (fun _ _ _ _ _ _ us hl => match us, hl with | [_], _ => rfl) (fun cdv A outer s H vs Q E hr h => ?_)
  have hu := hu_of hr
  obtain ⟨v_self, rfl, h⟩ := h
  refine ⟨_, (pss_one (ps_ret (pe_or (pe_cmpR op_ge (pe_fld (pv 0) rfl) (pe_callB call_len_seq (by rfl) T.z_len (by decide +kernel) (pa_cons (pe_fld (pv 0) rfl) pa_nil)) (nomark _)) (pe_one (pe_cmpR op_notN (pe_fld (pv 0) rfl) pe_non (nomark _)))))), ?_⟩
  obtain ⟨p, cd, hh, n, st, dd, k, rfl, ⟨dp, hp⟩, hc, h⟩ := h
  obtain ⟨rows, hcd, hl⟩ := hc.len
  refine ⟨_, rfl, _, _, _, _, _, rfl, hp, T.c_Walk, T.n_Walk_at, wkF_at _ _ _ _ _ _, _, rfl, _, _, _, _, _, rfl, hp, T.c_Walk, T.n_Walk_code, wkF_code _ _ _ _ _ _, cd, _, rfl, .inl (SqL.of hcd), _, _, rfl, rfl, _, rfl, ?_⟩
  by_cases h8 : 8 ≤ k
  · rw [decide_eq_true h8] at h
    exact iteE (decide_eq_true (by omega)) h
  · rw [decide_eq_false h8] at h
    exact iteO (decide_eq_false (by omega)) ⟨_, rfl, _, _, _, _, _, rfl, hp, T.c_Walk, T.n_Walk_deed, wkF_deed _ _ _ _ _ _, rfl, h⟩
def spWordOf (K : PySem.W.Frag) : Sp := sp1 fun self H Q _ => ∃ p cd h n st dd, ∃ k : Nat, self = .ref p ∧ WkAt K H p cd h n k st dd ∧ CodeT H cd ∧ Q (.str (if dd ≠ .non then "fault" else if 8 ≤ k then "done" else "long")) H
abbrev N_word_of : List Str := ["walk"]
theorem sc_word_of : FnScope N_word_of ["walk"] (defScope s_word_of) := ⟨rfl, rfl, rfl, by decide +kernel, rfl, by decide +kernel, by decide +kernel⟩
theorem ok_word_of {P : Program} {w : World} {K : PySem.W.Frag} {mg : Str → Option Value} {base : Heap} (T : TopE K mg) : FnAt P w K mg base CX0 2 (He.ga K "word_of") ["walk"] (spWordOf K) := by
  refine fnAt0 (k := 1) T.f_word_of sc_word_of len1 (fun _ _ _ _ _ _ us hl => match us, hl with | [_], _ => rfl) (fun cdv A outer s H vs Q E hr h => ?_)
  have hu := hu_of hr
  obtain ⟨v_walk, rfl, h⟩ := h
  refine ⟨_, (pss_cons (ps_if (pt_cmpR op_notN (pe_fld (pv 0) rfl) pe_non (nomark _)) (pss_one (ps_ret pe_str)) pss_nil)
    (pss_one (ps_ret (pe_ifExp (pt_val (pe_mt0 (pv 0) T.c_Walk T.m_Walk_is_over (ok_Walk_is_over T) (hr.mono (by decide)) pass0)) pe_str pe_str)))), ?_⟩
  obtain ⟨p, cd, hh, n, st, dd, k, rfl, wk, hc, h⟩ := h
  obtain ⟨dp, hp⟩ := id wk
  refine ⟨_, rfl, _, _, _, _, _, rfl, hp, T.c_Walk, T.n_Walk_deed, wkF_deed _ _ _ _ _ _, rfl, _, rfl, ?_⟩
  by_cases hd : dd = .non
  · subst hd
    refine iteF ⟨_, rfl, p, dp, _, rfl, hp, wkF_no_is_over _ _ _ _ _ _, _, rfl, p, cd, hh, n, st, .non, k, rfl, wk, hc, _, rfl, ?_⟩
    rw [if_neg (fun z => z rfl)] at h
    by_cases h8 : 8 ≤ k
    · rw [if_pos h8] at h
      exact iteE (by rw [decide_eq_true h8]; rfl) h
    · rw [if_neg h8] at h
      exact iteO (by rw [decide_eq_false h8]; rfl) h
  · rw [if_pos hd] at h
    exact iteE (by rw [decide_eq_false hd]; rfl) h

end K66
end
section
set_option Elab.async false
set_option linter.all false
set_option maxRecDepth 100000
set_option maxHeartbeats 4000000
namespace K66
open PySem PySem.Spec PyProof.Rows L2
local macro_rules | `(tactic| walk_at "rd") => `(tactic| repeat (first | refine ⟨_, rfl, ?_⟩ | refine ⟨_, _, rfl, rfl, ?_⟩ | refine ⟨rfl, ?_⟩))
local macro_rules | `(tactic| walk_at "hp") => `(tactic| (first | assumption | solve_by_elim (maxDepth := 12)))
local macro_rules | `(tactic| walk_at "pl") => `(tactic| ((repeat (refine putF_lt ?_)); exact Nat.le_of_ble_eq_true rfl))
/-! ## a step -/
section
variable {K : PySem.W.Frag} {H H' : Hp} {ms : List Addr} {p cd h n N C R Wr A S : Addr} {x y : Int} {cl : List (Int × Int)} {k st : Int} {dd : V}
theorem But.toL {a : Addr} (b : But a H H') : ButL [a] H H' := b.butL (by simp)
theorem HeapAt.butL (b : ButL ms H H') (h1 : h ∉ ms) (h2 : N ∉ ms) (h3 : C ∉ ms) (z : HeapAt K H h N C x y cl) : HeapAt K H' h N C x y cl := let ⟨a, u, m, d, e, f⟩ := z; ⟨a, u, m, b _ _ h1 d, b _ _ h2 e, b _ _ h3 f⟩
theorem NotesAt.butL (b : ButL ms H H') (h1 : n ∉ ms) (h2 : R ∉ ms) (h3 : Wr ∉ ms) (h4 : A ∉ ms) (h5 : S ∉ ms) (z : NotesAt K H n R Wr A S cl) : NotesAt K H' n R Wr A S cl :=
  let ⟨⟨dn, a⟩, ⟨ks, q, c⟩, d, ⟨e, f, g⟩, ⟨i, j, k⟩⟩ := z; ⟨⟨dn, b _ _ h1 a⟩, ⟨ks, b _ _ h2 q, c⟩, b _ _ h3 d, ⟨e, b _ _ h4 f, g⟩, ⟨i, b _ _ h5 j, k⟩⟩
theorem WkAt.butL (b : ButL ms H H') (h1 : p ∉ ms) (z : WkAt K H p cd h n k st dd) : WkAt K H' p cd h n k st dd := let ⟨dp, a⟩ := z; ⟨dp, b _ _ h1 a⟩
theorem ButL.kp (b : ButL ms H H') (hm : ∀ a ∈ ms, ∃ o, H a = some o ∧ isT o = false) : Kp H H' := fun a o e i => b a o (fun z => by
  obtain ⟨o', e', i'⟩ := hm a z
  rw [e] at e'
  cases e'
  rw [i] at i'
  cases i') e
theorem CodeT.butL (b : ButL ms H H') (hm : ∀ a ∈ ms, ∃ o, H a = some o ∧ isT o = false) (h1 : cd ∉ ms) (z : CodeT H cd) : CodeT H' cd := CodeT.kp (xs := []) (b.kp hm) (fun ys e => b _ _ h1 e) z
end
/-- where nothing meets -/
structure Apart (p h n N C R Wr A S : Addr) : Prop where
  nd : [R, Wr, A, S].Nodup
  hN : N ∉ [C, R, Wr, A, S]
  hC : C ∉ [R, Wr, A, S]
  hh : h ≠ p
  hn : n ≠ p
structure Full (K : PySem.W.Frag) (H : Hp) (p cd h n N C R Wr A S : Addr) (k : Nat) (st : Int) (dd : V) (x y : Int) (cl : List (Int × Int)) : Prop where
  wk : WkAt K H p cd h n k st dd
  hp : HeapAt K H h N C x y cl
  nt : NotesAt K H n R Wr A S cl
  cd : CodeT H cd
section
variable {K : PySem.W.Frag} {H H' : Hp} {p cd h n N C R Wr A S : Addr} {x y : Int} {cl : List (Int × Int)} {k : Nat} {st : Int} {dd : V}
theorem Full.same (s : Same H H') (f : Full K H p cd h n N C R Wr A S k st dd x y cl) : Full K H' p cd h n N C R Wr A S k st dd x y cl :=
  ⟨f.wk.butL (Same.butL (ms := []) s) (by simp), f.hp.same s, f.nt.same s, f.cd.butL (Same.butL (ms := []) s) (fun a h => by cases h) (by simp)⟩
theorem Full.dicts (f : Full K H p cd h n N C R Wr A S k st dd x y cl) : (∃ d, H N = some (.dK d)) ∧ (∃ d, H C = some (.dK d)) ∧ (∃ d, H R = some (.dK d)) ∧ (∃ d, H Wr = some (.dK d)) ∧ (∃ d, H A = some (.dK d)) ∧ (∃ d, H S = some (.dK d)) :=
  let ⟨_, _, _, _, e, g⟩ := f.hp; let ⟨_, ⟨_, q, _⟩, d, ⟨_, r, _⟩, ⟨_, j, _⟩⟩ := f.nt; ⟨⟨_, e⟩, ⟨_, g⟩, ⟨_, q⟩, ⟨_, d⟩, ⟨_, r⟩, ⟨_, j⟩⟩
/-- the notes have changed -/
theorem Full.noted (f : Full K H p cd h n N C R Wr A S k st dd x y cl) (ap : Apart p h n N C R Wr A S) (b : ButL [R, A, S] H H') (nt : NotesAt K H' n R Wr A S cl) : Full K H' p cd h n N C R Wr A S k st dd x y cl := by
  obtain ⟨⟨_, eN⟩, ⟨_, eC⟩, ⟨_, eR⟩, _, ⟨_, eA⟩, ⟨_, eS⟩⟩ := f.dicts
  obtain ⟨_, hp⟩ := id f.wk
  obtain ⟨_, _, _, hh, _⟩ := id f.hp
  obtain ⟨rows, hc, _⟩ := f.cd.len
  have i1 : ∀ {a C dx : Addr} {fs : List (Str × V)}, H a = some (.ins C dx fs) → a ∉ [R, A, S] := fun e => by simp [ins_ne_dict e eR, ins_ne_dict e eA, ins_ne_dict e eS]
  have i2 : ∀ {a : Addr} {xs : List V}, H a = some (.lst xs) → a ∉ [R, A, S] := fun e => by simp [lst_ne_dict e eR, lst_ne_dict e eA, lst_ne_dict e eS]
  have hN := ap.hN
  have hC := ap.hC
  simp at hN hC
  refine ⟨f.wk.butL b (i1 hp), f.hp.butL b (i1 hh) (by simp [hN]) (by simp [hC]), nt, f.cd.butL b (fun a ha => ?_) (i2 hc)⟩
  simp at ha
  rcases ha with rfl | rfl | rfl
  · exact ⟨_, eR, rfl⟩
  · exact ⟨_, eA, rfl⟩
  · exact ⟨_, eS, rfl⟩
/-- the names have changed -/
theorem Full.named {x' y' : Int} (f : Full K H p cd h n N C R Wr A S k st dd x y cl) (ap : Apart p h n N C R Wr A S) (b : But N H H') (hp' : HeapAt K H' h N C x' y' cl) : Full K H' p cd h n N C R Wr A S k st dd x' y' cl := by
  obtain ⟨⟨_, eN⟩, ⟨_, eC⟩, ⟨_, eR⟩, _, ⟨_, eA⟩, ⟨_, eS⟩⟩ := f.dicts
  obtain ⟨_, hp⟩ := id f.wk
  obtain ⟨⟨_, hn⟩, _⟩ := id f.nt
  obtain ⟨rows, hc, _⟩ := f.cd.len
  have hN := ap.hN
  simp at hN
  refine ⟨f.wk.butL b.toL (by simp [ins_ne_dict hp eN]), hp', f.nt.butL b.toL (by simp [ins_ne_dict hn eN]) ?_ ?_ ?_ ?_, f.cd.butL b.toL (fun a ha => ?_) (by simp [lst_ne_dict hc eN])⟩
  · simpa using Ne.symm hN.2.1
  · simpa using Ne.symm hN.2.2.1
  · simpa using Ne.symm hN.2.2.2.1
  · simpa using Ne.symm hN.2.2.2.2
  · simp at ha
    subst ha
    exact ⟨_, eN, rfl⟩
/-- the walk itself has changed -/
theorem Full.moved {k' : Nat} {st' : Int} {dd' : V} (f : Full K H p cd h n N C R Wr A S k st dd x y cl) (ap : Apart p h n N C R Wr A S) (b : But p H H') (wk : WkAt K H' p cd h n k' st' dd') : Full K H' p cd h n N C R Wr A S k' st' dd' x y cl := by
  obtain ⟨⟨_, eN⟩, ⟨_, eC⟩, ⟨_, eR⟩, ⟨_, eW⟩, ⟨_, eA⟩, ⟨_, eS⟩⟩ := f.dicts
  obtain ⟨_, hp⟩ := id f.wk
  have i1 : ∀ {a : Addr} {d : List (Key × V)}, H a = some (.dK d) → a ∉ [p] := fun e => by simpa using Ne.symm (ins_ne_dict hp e)
  exact ⟨wk, f.hp.butL b.toL (by simpa using ap.hh) (i1 eN) (i1 eC), f.nt.butL b.toL (by simpa using ap.hn) (i1 eR) (i1 eW) (i1 eA) (i1 eS), CodeT.but b f.wk f.cd⟩
end
theorem Full.kpN {K : PySem.W.Frag} {H H' : Hp} {p cd h n N C R Wr A S : Addr} {x y : Int} {cl : List (Int × Int)} {k : Nat} {st : Int} {dd : V} (f : Full K H p cd h n N C R Wr A S k st dd x y cl) (b : ButL [R, A, S] H H') : Kp H H' := b.kp fun a ha => by
  obtain ⟨_, _, ⟨_, eR⟩, _, ⟨_, eA⟩, ⟨_, eS⟩⟩ := f.dicts
  simp at ha
  rcases ha with rfl | rfl | rfl
  · exact ⟨_, eR, rfl⟩
  · exact ⟨_, eA, rfl⟩
  · exact ⟨_, eS, rfl⟩
def spStep (K : PySem.W.Frag) : Sp := sp1 fun self H Q _ => ∃ p cd h n N C R Wr A S, ∃ k : Nat, ∃ st x y cl, self = .ref p ∧ Full K H p cd h n N C R Wr A S k st .non x y cl ∧ Apart p h n N C R Wr A S ∧ k < 7 ∧ cl.length ≤ 100 ∧
  ((k = 3 ∧ ∀ H', ButL [p, N, R, A, S] H H' → Full K H' p cd h n N C R Wr A S (if x = y then 8 else 4) (st + 1) .non x y cl → Q .non H') ∨
   (k ≠ 3 ∧ (∀ j, nxt cl (if nmC k = "x" then x else y) = some j → ∀ H', ButL [p, N, R, A, S] H H' → Full K H' p cd h n N C R Wr A S (ld (k + 1)) (st + 1) .non (if nmC k = "x" then j else x) (if nmC k = "x" then y else j) cl → Q .non H') ∧
     (nxt cl (if nmC k = "x" then x else y) = none → ∀ H', ButL [p, N, R, A, S] H H' → Full K H' p cd h n N C R Wr A S k st (.int (noC k)) x y cl → Q .non H')))
abbrev N_Walk_step : List Str := ["self", "row", "place"]
theorem sc_Walk_step : FnScope N_Walk_step ["self"] (defScope s_Walk_step) := ⟨rfl, rfl, rfl, by decide +kernel, rfl, by decide +kernel, by decide +kernel⟩
theorem ok_Walk_step {P : Program} {w : World} {K : PySem.W.Frag} {mg : Str → Option Value} {base : Heap} (T : TopE K mg) : FnAt P w K mg base CX0 4 (He.ma K (He.ga K "Walk") "step") ["self"] (spStep K) := by
  refine fnAt0 (k := 3) T.f_Walk_step sc_Walk_step len1 (fun _ _ _ _ _ _ us hl => match us, hl with | [_], _ => rfl) (fun cdv A outer s H vs Q E hr h => ?_)
  have hu := hu_of hr
  obtain ⟨v_self, rfl, h⟩ := h
  refine ⟨_, (pss_cons (ps_set (i := 1) sc_Walk_step.nd rfl (Or.inl rfl) (pe_ix ix_list (pe_fld (pv 0) rfl) (pe_fld (pv 0) rfl) (fun _ _ => rfl)))
    (pss_cons (ps_if (pt_cmpR op_ne (pe_ix ix_tup (pv 1) pe_int (fun _ _ => rfl)) pe_str (nomark _)) (pss_cons (ps_expr (pe_mt (pe_fld (pv 0) rfl) T.c_Notes T.m_Notes_note_test (ok_Notes_note_test T) (hr.mono (by decide)) pass0 (pa_cons (pe_ix ix_tup (pv 1) pe_int (fun _ _ => rfl)) pa_nil)))
    (pss_one (ps_fld (pv 0) (pe_ifExp (pt_val (pe_mt (pe_fld (pv 0) rfl) T.c_Heap T.m_Heap_holds (ok_Heap_holds T) (hr.mono (by decide)) pass0 (pa_cons (pe_ix ix_tup (pv 1) pe_int (fun _ _ => rfl)) pa_nil))) (pe_op op_add (pe_fld (pv 0) rfl) pe_int) (pe_ix ix_tup (pv 1) pe_int (fun _ _ => rfl))) rfl))) (pss_cons (ps_set (i := 2) sc_Walk_step.nd rfl (Or.inl rfl) (pe_mt (pe_fld (pv 0) rfl) T.c_Heap T.m_Heap_done (ok_Heap_done T) (hr.mono (by decide)) pass0 (pa_cons (pe_ix ix_tup (pv 1) pe_int (fun _ _ => rfl)) pa_nil)))
    (pss_cons (ps_if (pt_cmpR op_isN (pv 2) pe_non (nomark _)) (pss_cons (ps_fld (pv 0) (pe_ix ix_tup (pv 1) pe_int (fun _ _ => rfl)) rfl)
    (pss_one ps_retN)) pss_nil)
    (pss_cons (ps_expr (pe_mt (pe_fld (pv 0) rfl) T.c_Notes T.m_Notes_note_deed (ok_Notes_note_deed T) (hr.mono (by decide)) pass0 (pa_cons (pe_ix ix_tup (pv 1) pe_int (fun _ _ => rfl)) (pa_cons (pv 2) pa_nil))))
    (pss_one (ps_fld (pv 0) (pe_op op_add (pe_fld (pv 0) rfl) pe_int) rfl))))))
    (pss_cons (ps_fld (pv 0) (pe_op op_add (pe_fld (pv 0) rfl) pe_int) rfl)
    (pss_one (ps_expr (pe_mt0 (pv 0) T.c_Walk T.m_Walk_lead (ok_Walk_lead T) (hr.mono (by decide)) pass0)))))), ?_⟩
  obtain ⟨p, cd, hh, n, N, C, R, Wr, A, S, k, st, x, y, cl, rfl, f, ap, hk, few, h⟩ := h
  obtain ⟨dp, hp⟩ := id f.wk
  obtain ⟨rows, d, hcd, hl, hat, hrow⟩ := f.cd.row (show k < 8 by omega)
  refine ⟨_, rfl, _, _, _, _, _, rfl, hp, T.c_Walk, T.n_Walk_code, wkF_code _ _ _ _ _ _, _, rfl, _, _, _, _, _, rfl, hp, T.c_Walk, T.n_Walk_at, wkF_at _ _ _ _ _ _, cd, _, (k : Int), _, rfl, rfl, SqL.of hcd, hat, ?_⟩
  rcases h with ⟨rfl, h⟩ | ⟨k3, h1, h2⟩
  · rcases hrow with ⟨z, _⟩ | ⟨_, t, hd, ht⟩ | ⟨z, _⟩
    · exact absurd rfl z
    · obtain ⟨⟨dn, hn⟩, _⟩ := id f.nt
      refine ⟨_, rfl, d, _, 0, _, rfl, rfl, SqT.of hd, rfl, rfl, _, rfl, iteE (by decide +kernel) ?_⟩
      refine ⟨_, rfl, _, _, _, _, _, rfl, hp, T.c_Walk, T.n_Walk_notes, wkF_notes _ _ _ _ _ _, n, dn, _, rfl, hn, ntF_no_note_test _ _ _ _, _, rfl, d, _, 1, _, rfl, rfl, SqT.of hd, rfl, _, _, rfl, n, R, Wr, A, S, cl, t, rfl, rfl, f.nt, ap.nd, ht, fun H1 b1 nt1 => ?_⟩
      have f1 := f.noted ap b1 nt1
      obtain ⟨dp1, hp1⟩ := id f1.wk
      obtain ⟨dh1, u1, m1, hh1, _⟩ := id f1.hp
      have kp1 := f.kpN b1
      have hd1 := kp1 _ _ hd rfl
      have ht1 := ht.kp kp1
      have m1' : ButL [p, N, R, A, S] H H1 := b1.mono (by simp)
      refine ⟨_, rfl, _, _, _, _, _, rfl, hp1, T.c_Walk, T.n_Walk_heap, wkF_heap _ _ _ _ _ _, hh, dh1, _, rfl, hh1, hpF_no_holds _ _ _ _, _, rfl, d, _, 1, _, rfl, rfl, SqT.of hd1, rfl, _, _, rfl, hh, N, C, x, y, cl, t, rfl, rfl, f1.hp, ht1, fun H2 s2 => ?_⟩
      have f2 := f1.same s2
      obtain ⟨dp2, hp2⟩ := id f2.wk
      have hd2 := s2 _ _ hd1
      refine ⟨_, rfl, ?_⟩
      by_cases exy : x = y
      · rw [if_pos exy] at h
        refine iteO (by rw [decide_eq_true exy]; rfl) ⟨_, rfl, d, _, 2, _, rfl, rfl, SqT.of hd2, rfl, _, rfl, _, _, _, _, rfl, hp2, T.c_Walk, T.n_Walk_at, (by walk_at "pl"), ?_⟩
        rw [wkF_put_at]
        generalize e_H3 : upd _ p _ = H3
        have b_H3 := but_upd e_H3
        have h_pH3 := at_of' e_H3
        refine ⟨_, rfl, _, _, _, _, _, rfl, h_pH3, T.c_Walk, T.n_Walk_steps, wkF_steps _ _ _ _ _ _, _, _, rfl, rfl, _, rfl, _, _, _, _, rfl, h_pH3, T.c_Walk, T.n_Walk_steps, (by walk_at "pl"), ?_⟩
        rw [wkF_put_steps]
        generalize e_H4 : upd _ p _ = H4
        have b_H4 := but_upd e_H4
        have h_pH4 := at_of' e_H4
        have f4 : Full K H4 p cd hh n N C R Wr A S 8 (st + 1) .non x y cl := (f2.moved ap b_H3 ⟨_, h_pH3⟩ : Full K H3 p cd hh n N C R Wr A S 8 st .non x y cl).moved ap b_H4 ⟨_, h_pH4⟩
        refine ⟨_, rfl, p, dp2, _, rfl, h_pH4, wkF_no_lead _ _ _ _ _ _, _, rfl, p, cd, hh, n, _, .non, 8, rfl, f4.wk, f4.cd, Nat.le_refl 8, fun H5 b5 wk5 => ?_⟩
        exact h H5 (((m1'.trans (Same.butL s2)).trans ((But.trans b_H3 b_H4).butL (by simp))).trans (b5.butL (by simp))) (f4.moved ap b5 wk5)
      · rw [if_neg exy] at h
        refine iteE (by rw [decide_eq_false exy]; rfl) ⟨_, rfl, _, _, _, _, _, rfl, hp2, T.c_Walk, T.n_Walk_at, wkF_at _ _ _ _ _ _, _, _, rfl, rfl, _, rfl, _, _, _, _, rfl, hp2, T.c_Walk, T.n_Walk_at, (by walk_at "pl"), ?_⟩
        rw [wkF_put_at]
        generalize e_H3 : upd _ p _ = H3
        have b_H3 := but_upd e_H3
        have h_pH3 := at_of' e_H3
        refine ⟨_, rfl, _, _, _, _, _, rfl, h_pH3, T.c_Walk, T.n_Walk_steps, wkF_steps _ _ _ _ _ _, _, _, rfl, rfl, _, rfl, _, _, _, _, rfl, h_pH3, T.c_Walk, T.n_Walk_steps, (by walk_at "pl"), ?_⟩
        rw [wkF_put_steps]
        generalize e_H4 : upd _ p _ = H4
        have b_H4 := but_upd e_H4
        have h_pH4 := at_of' e_H4
        have f4 : Full K H4 p cd hh n N C R Wr A S 4 (st + 1) .non x y cl := (f2.moved ap b_H3 ⟨_, h_pH3⟩ : Full K H3 p cd hh n N C R Wr A S 4 st .non x y cl).moved ap b_H4 ⟨_, h_pH4⟩
        refine ⟨_, rfl, p, dp2, _, rfl, h_pH4, wkF_no_lead _ _ _ _ _ _, _, rfl, p, cd, hh, n, _, .non, 4, rfl, f4.wk, f4.cd, by decide, fun H5 b5 wk5 => ?_⟩
        exact h H5 (((m1'.trans (Same.butL s2)).trans ((But.trans b_H3 b_H4).butL (by simp))).trans (b5.butL (by simp))) (f4.moved ap b5 wk5)
    · cases z
  · rcases hrow with ⟨_, k7, q, hd, hq⟩ | ⟨z, _⟩ | ⟨z, _⟩
    · obtain ⟨dh, u, m, hh', _⟩ := id f.hp
      have hNC : N ≠ C := by
        have := ap.hN
        simp at this
        exact this.1
      refine ⟨_, rfl, d, _, 0, _, rfl, rfl, SqT.of hd, rfl, rfl, _, rfl, iteO (by decide +kernel) ?_⟩
      refine ⟨_, rfl, _, _, _, _, _, rfl, hp, T.c_Walk, T.n_Walk_heap, wkF_heap _ _ _ _ _ _, hh, dh, _, rfl, hh', hpF_no_done _ _ _ _, _, rfl, d, _, 1, _, rfl, rfl, SqT.of hd, rfl, _, _, rfl, hh, N, C, x, y, cl, q, nmC k, rfl, rfl, f.hp, hq, nmC_xy k, hNC, few, fun j hj H1 b1 hp1 => ?_, fun hj => ?_⟩
      · have f1 := f.named ap b1 hp1
        have kp1 : Kp H H1 := b1.kp f.dicts.1.choose_spec rfl
        have hd1 := kp1 _ _ hd rfl
        obtain ⟨dp1, hpp1⟩ := id f1.wk
        obtain ⟨⟨dn, hn⟩, _⟩ := id f1.nt
        refine ⟨_, rfl, rfl, _, rfl, iteF ?_⟩
        refine ⟨_, rfl, _, _, _, _, _, rfl, hpp1, T.c_Walk, T.n_Walk_notes, wkF_notes _ _ _ _ _ _, n, dn, _, rfl, hn, ntF_no_note_deed _ _ _ _, _, rfl, d, _, 1, _, rfl, rfl, SqT.of hd1, rfl, _, rfl, _, _, _, rfl, n, R, Wr, A, S, cl, q, nmC k, _, j, rfl, rfl, rfl, f1.nt, few, ap.nd, hq.kp kp1, nmC_xy k, hj, fun H2 b2 nt2 => ?_⟩
        have f2 := f1.noted ap b2 nt2
        obtain ⟨dp2, hp2⟩ := id f2.wk
        refine ⟨_, rfl, _, _, _, _, _, rfl, hp2, T.c_Walk, T.n_Walk_at, wkF_at _ _ _ _ _ _, _, _, rfl, rfl, _, rfl, _, _, _, _, rfl, hp2, T.c_Walk, T.n_Walk_at, (by walk_at "pl"), ?_⟩
        rw [wkF_put_at]
        generalize e_H3 : upd _ p _ = H3
        have b_H3 := but_upd e_H3
        have h_pH3 := at_of' e_H3
        refine ⟨_, rfl, _, _, _, _, _, rfl, h_pH3, T.c_Walk, T.n_Walk_steps, wkF_steps _ _ _ _ _ _, _, _, rfl, rfl, _, rfl, _, _, _, _, rfl, h_pH3, T.c_Walk, T.n_Walk_steps, (by walk_at "pl"), ?_⟩
        rw [wkF_put_steps]
        generalize e_H4 : upd _ p _ = H4
        have b_H4 := but_upd e_H4
        have h_pH4 := at_of' e_H4
        have ek : ((k : Nat) : Int) + 1 = ((k + 1 : Nat) : Int) := by omega
        have f4 := (f2.moved ap b_H3 (k' := k + 1) (st' := st) (dd' := .non) ⟨_, by rw [← ek]; exact h_pH3⟩).moved ap b_H4 (k' := k + 1) (st' := st + 1) (dd' := .non) ⟨_, by rw [← ek]; exact h_pH4⟩
        refine ⟨_, rfl, p, dp2, _, rfl, h_pH4, wkF_no_lead _ _ _ _ _ _, _, rfl, p, cd, hh, n, _, .non, k + 1, rfl, f4.wk, f4.cd, by omega, fun H5 b5 wk5 => ?_⟩
        exact h1 j hj H5 ((((b1.butL (by simp)).trans (b2.mono (by simp))).trans ((But.trans b_H3 b_H4).butL (by simp))).trans (b5.butL (by simp))) (f4.moved ap b5 wk5)
      · refine ⟨_, rfl, rfl, _, rfl, iteT ⟨_, rfl, d, _, 2, _, rfl, rfl, SqT.of hd, rfl, _, rfl, _, _, _, _, rfl, hp, T.c_Walk, T.n_Walk_deed, (by walk_at "pl"), ?_⟩⟩
        rw [wkF_put_deed]
        generalize e_H1 : upd _ p _ = H1
        have b_H1 := but_upd e_H1
        have h_pH1 := at_of' e_H1
        exact h2 hj H1 (b_H1.butL (by simp)) (f.moved ap b_H1 ⟨_, h_pH1⟩)
    · exact absurd z k3
    · omega
def spWalkInit (K : PySem.W.Frag) : Sp := sp3 fun self c e H Q _ => ∃ p dx cd h N C x y cl, self = .ref p ∧ c = .ref cd ∧ e = .ref h ∧ H p = some (.ins (He.ga K "Walk") dx []) ∧ HeapAt K H h N C x y cl ∧ CodeT H cd ∧ N ≠ C ∧
  ∀ H' n R Wr A S, But p H H' → Full K H' p cd h n N C R Wr A S 0 0 .non x y cl → Apart p h n N C R Wr A S → H R = none → H A = none → H S = none → Q .non H'
abbrev N_Walk_init : List Str := ["self", "code", "heap"]
theorem sc_Walk_init : FnScope N_Walk_init ["self", "code", "heap"] (defScope s_Walk_init) := ⟨rfl, rfl, rfl, by decide +kernel, rfl, by decide +kernel, by decide +kernel⟩
theorem ok_Walk_init {P : Program} {w : World} {K : PySem.W.Frag} {mg : Str → Option Value} {base : Heap} (T : TopE K mg) : FnAt P w K mg base CX0 3 (He.ma K (He.ga K "Walk") "__init__") ["self", "code", "heap"] (spWalkInit K) := by
  refine fnAt0 (k := 2) T.f_Walk_init sc_Walk_init len3 (fun _ _ _ _ _ _ us hl => match us, hl with | [_, _, _], _ => rfl) (fun cdv A outer s H vs Q E hr h => ?_)
  have hu := hu_of hr
  obtain ⟨v_self, v_code, v_heap, rfl, h⟩ := h
  refine ⟨_, (pss_cons (ps_fld (pv 0) (pv 1) rfl)
    (pss_cons (ps_fld (pv 0) (pv 2) rfl)
    (pss_cons (ps_fld (pv 0) pe_int rfl)
    (pss_cons (ps_fld (pv 0) pe_int rfl)
    (pss_cons (ps_fld (pv 0) pe_non rfl)
    (pss_cons (ps_fld (pv 0) (pe_mk0 T.k_Notes (ok_Notes_init T) (hr.mono (by decide)) T.g_Notes pass0) rfl)
    (pss_one (ps_expr (pe_mt0 (pv 0) T.c_Walk T.m_Walk_lead (ok_Walk_lead T) (hr.mono (by decide)) pass0))))))))), ?_⟩
  obtain ⟨p, dx, cd, hh, N, C, x, y, cl, rfl, rfl, rfl, hp, ha, hc, NC, h⟩ := h
  obtain ⟨rows, hcd, _⟩ := hc.len
  obtain ⟨dh, u, m, e1, e2, e3⟩ := id ha
  have hhp : hh ≠ p := fun e => by
    subst e
    rw [hp] at e1
    have z : (0 : Nat) = 4 := congrArg (fun o : Option HO => match o with | some (HO.ins _ _ fs) => fs.length | _ => 0) e1
    omega
  refine ⟨_, rfl, _, rfl, _, _, _, _, rfl, hp, T.c_Walk, T.n_Walk_code, (by walk_at "pl"), ?_⟩
  generalize e_H1 : upd _ p _ = H1
  have b_H1 := but_upd e_H1
  have h_pH1 := at_of' e_H1
  refine ⟨_, rfl, _, rfl, _, _, _, _, rfl, h_pH1, T.c_Walk, T.n_Walk_heap, (by walk_at "pl"), ?_⟩
  generalize e_H2 : upd _ p _ = H2
  have b_H2 := but_upd e_H2
  have h_pH2 := at_of' e_H2
  refine ⟨_, rfl, _, _, _, _, rfl, h_pH2, T.c_Walk, T.n_Walk_at, (by walk_at "pl"), ?_⟩
  generalize e_H3 : upd _ p _ = H3
  have b_H3 := but_upd e_H3
  have h_pH3 := at_of' e_H3
  refine ⟨_, rfl, _, _, _, _, rfl, h_pH3, T.c_Walk, T.n_Walk_steps, (by walk_at "pl"), ?_⟩
  generalize e_H4 : upd _ p _ = H4
  have b_H4 := but_upd e_H4
  have h_pH4 := at_of' e_H4
  refine ⟨_, rfl, _, _, _, _, rfl, h_pH4, T.c_Walk, T.n_Walk_deed, (by walk_at "pl"), ?_⟩
  generalize e_H5 : upd _ p _ = H5
  have b_H5 := but_upd e_H5
  have h_pH5 := at_of' e_H5
  intro n dn nn nd _
  generalize e6 : upd (upd H5 dn _) n _ = H6
  have s6 := same_make e6 nn nd
  refine ⟨_, rfl, n, dn, rfl, at_make e6, fun H7 R Wr A S b7 nt7 nR nW nA nS ndd => ⟨rfl, ?_⟩⟩
  have s7 := same_but s6 b7 nn
  have b5 : But p H H5 := But.trans (But.trans (But.trans (But.trans b_H1 b_H2) b_H3) b_H4) b_H5
  have hp7 := s7 _ _ h_pH5
  refine ⟨_, rfl, _, _, _, _, rfl, hp7, T.c_Walk, T.n_Walk_notes, (by walk_at "pl"), ?_⟩
  generalize e_H8 : upd _ p _ = H8
  have b_H8 := but_upd e_H8
  have h_pH8 := at_of' e_H8
  have h_pH8 : H8 p = some (.ins (He.ga K "Walk") dx (wkF (.ref cd) (.ref hh) (.int 0) (.int 0) .non (.ref n))) := h_pH8.trans (by rw [wkF_init])
  have npn : n ≠ p := fun e => by subst e; rw [h_pH5] at nn; cases nn
  have tr5 : ∀ {a : Addr} {o : HO}, a ≠ p → H a = some o → H5 a = some o := fun ne e => b5 _ _ ne e
  have tr7 : ∀ {a : Addr} {o : HO}, a ≠ p → H a = some o → H7 a = some o := fun ne e => s7 _ _ (tr5 ne e)
  have nep : ∀ {a : Addr} {d : List (Key × V)}, H a = some (.dK d) → a ≠ p := fun e => Ne.symm (ins_ne_dict hp e)
  have frH : ∀ {a : Addr}, H5 a = none → H a = none := fun q => none_but b5 q h_pH5
  have fr6 : ∀ {a : Addr}, H6 a = none → H a = none := fun q => frH (same_none s6 q)
  have hcp : cd ≠ p := fun e => by subst e; rw [hp] at hcd; cases hcd
  have ne_of : ∀ {a c : Addr} {o : HO}, H a = some o → H c = none → a ≠ c := fun e n' q => by subst q; rw [e] at n'; cases n'
  have ap : Apart p hh n N C R Wr A S := by
    refine ⟨ndd, ?_, ?_, hhp, npn⟩
    · simp [NC, ne_of e2 (fr6 nR), ne_of e2 (fr6 nW), ne_of e2 (fr6 nA), ne_of e2 (fr6 nS)]
    · simp [ne_of e3 (fr6 nR), ne_of e3 (fr6 nW), ne_of e3 (fr6 nA), ne_of e3 (fr6 nS)]
  have f7 : HeapAt K H7 hh N C x y cl := ⟨dh, u, m, tr7 hhp e1, tr7 (nep e2) e2, tr7 (nep e3) e3⟩
  have k5 : Kp H H5 := b5.kp hp rfl
  have hc5 : CodeT H5 cd := CodeT.kp (xs := []) k5 (fun ys e => tr5 hcp e) hc
  have hc7 : CodeT H7 cd := CodeT.kp (xs := []) (Same.kp s7) (fun ys e => s7 _ _ e) hc5
  have nt7 := nt7 cl
  obtain ⟨⟨dn', h1⟩, ⟨ks, h2, h3⟩, h4, ⟨d1, h5, h6⟩, ⟨d2, h7', h8⟩⟩ := id nt7
  have i8 : ∀ {a : Addr} {d : List (Key × V)}, H7 a = some (.dK d) → a ∉ [p] := fun e => by simpa using Ne.symm (ins_ne_dict hp7 e)
  have f8 : Full K H8 p cd hh n N C R Wr A S 0 0 .non x y cl := ⟨⟨_, h_pH8⟩, f7.butL b_H8.toL (by simpa using hhp) (i8 f7.choose_spec.choose_spec.choose_spec.2.1) (i8 f7.choose_spec.choose_spec.choose_spec.2.2), nt7.butL b_H8.toL (by simpa using npn) (i8 h2) (i8 h4) (i8 h5) (i8 h7'),
    CodeT.kp (xs := []) (b_H8.kp hp7 rfl) (fun ys e => b_H8 _ _ hcp e) hc7⟩
  refine ⟨_, rfl, p, dx, _, rfl, h_pH8, wkF_no_lead _ _ _ _ _ _, _, rfl, p, cd, hh, n, _, .non, 0, rfl, f8.wk, f8.cd, by decide, fun H9 b9 wk9 => ?_⟩
  exact h H9 n R Wr A S (But.trans (But.trans (b5.sm s7) b_H8) b9) (f8.moved ap b9 wk9) ap (fr6 nR) (fr6 nA) (fr6 nS)
def spWalkOf (K : PySem.W.Frag) : Sp := sp2 fun t s H Q _ => ∃ r ps px py cl, t = .ref r ∧ s = .ref ps ∧ TreeT H r ∧ StoreAt K H ps px py cl ∧ GoodC cl ∧
  ∀ H' p cd h n N C R Wr A S, Same H H' → H p = none → H N = none → H R = none → H A = none → H S = none → Full K H' p cd h n N C R Wr A S 0 0 .non px py cl → Apart p h n N C R Wr A S → Q (.ref p) H'
abbrev N_walk_of : List Str := ["tree", "store"]
theorem sc_walk_of : FnScope N_walk_of ["tree", "store"] (defScope s_walk_of) := ⟨rfl, rfl, rfl, by decide +kernel, rfl, by decide +kernel, by decide +kernel⟩
theorem ok_walk_of {P : Program} {w : World} {K : PySem.W.Frag} {mg : Str → Option Value} {base : Heap} (T : TopE K mg) : FnAt P w K mg base CX0 5 (He.ga K "walk_of") ["tree", "store"] (spWalkOf K) := by
  refine fnAt0 (k := 4) T.f_walk_of sc_walk_of len2 (fun _ _ _ _ _ _ us hl => match us, hl with | [_, _], _ => rfl) (fun cdv A outer s H vs Q E hr h => ?_)
  have hu := hu_of hr
  obtain ⟨v_tree, v_store, rfl, h⟩ := h
  refine ⟨_, (pss_one (ps_ret (pe_mk T.k_Walk (ok_Walk_init T) (hr.mono (by decide)) T.g_Walk pass0 (pa_cons (pe_f (ok_steps_of T) (hr.mono (by decide)) T.g_steps_of pass0 (pa_cons (pv 0) pa_nil)) (pa_cons (pe_f (ok_heap_of T) (hr.mono (by decide)) T.g_heap_of pass0 (pa_cons (pv 1) (pa_cons (pe_f (ok_helpers_of T) (hr.mono (by decide)) T.g_helpers_of pass0 (pa_cons (pe_fld (pv 1) rfl) (pa_cons (pv 0) pa_nil))) pa_nil))) pa_nil))))), ?_⟩
  obtain ⟨r, ps, px, py, cl, rfl, rfl, ht, st, hg, h⟩ := h
  refine ⟨_, rfl, _, rfl, r, rfl, ht, fun H1 cd s1 ncd hc1 => ?_⟩
  have st1 := st.same s1
  obtain ⟨dx, tn, tc, dp, da, ob, _⟩ := st1.ob
  refine ⟨_, rfl, _, rfl, _, _, _, _, _, rfl, ob, T.c_Store, T.n_Store_letters, stF_letters _ _ _ _ _, _, rfl, _, _, rfl, r, rfl, rfl, ht.kp (Same.kp s1), fun H2 m s2 hm => ?_⟩
  have st2 := st1.same s2
  refine ⟨_, _, rfl, ps, px, py, cl, m, rfl, rfl, st2, hg, hm, fun H3 hh N C s3 ha n1 nN nC NC => ?_⟩
  have s13 := Same.trans s2 s3
  have hc3 : CodeT H3 cd := CodeT.kp (xs := []) (Same.kp s13) (fun ys e => s13 _ _ e) hc1
  intro p dp np nd _
  generalize e4 : upd (upd H3 dp _) p _ = H4
  have s4 := same_make e4 np nd
  have hc4 : CodeT H4 cd := CodeT.kp (xs := []) (Same.kp s4) (fun ys e => s4 _ _ e) hc3
  refine ⟨_, _, _, rfl, p, dp, cd, hh, N, C, px, py, cl, rfl, rfl, rfl, at_make e4, ha.same s4, hc4, NC, fun H5 n R Wr A S b5 f5 ap nR nA nS => ⟨rfl, ?_⟩⟩
  have s03 := Same.trans s1 s13
  have s04 := Same.trans s03 s4
  refine h H5 p cd hh n N C R Wr A S (Same.trans s03 (same_but s4 b5 np)) (same_none s03 np) (same_none s1 (same_none s2 nN)) (same_none s04 nR) (same_none s04 nA) (same_none s04 nS) f5 ap

end K66
end
section
set_option Elab.async false
set_option linter.all false
set_option maxRecDepth 100000
set_option maxHeartbeats 4000000
namespace K66
open PySem PySem.Spec PyProof.Rows L2
local macro_rules | `(tactic| walk_at "rd") => `(tactic| repeat (first | refine ⟨_, rfl, ?_⟩ | refine ⟨_, _, rfl, rfl, ?_⟩ | refine ⟨rfl, ?_⟩))
local macro_rules | `(tactic| walk_at "hp") => `(tactic| (first | assumption | solve_by_elim (maxDepth := 12)))
local macro_rules | `(tactic| walk_at "pl") => `(tactic| ((repeat (refine putF_lt ?_)); exact Nat.le_of_ble_eq_true rfl))
/-! ## the store of a run -/
theorem xyAt {i c : Nat} (h : ("xy" : Str).cps[i]? = some c) : (i = 0 ∧ (⟨#[c]⟩ : Str) = "x") ∨ (i = 1 ∧ (⟨#[c]⟩ : Str) = "y") := by
  match i, h with
  | 0, h =>
    have e : ("xy" : Str).cps[0]? = some 120 := by decide +kernel
    rw [e] at h
    cases h
    exact .inl ⟨rfl, by decide +kernel⟩
  | 1, h =>
    have e : ("xy" : Str).cps[1]? = some 121 := by decide +kernel
    rw [e] at h
    cases h
    exact .inr ⟨rfl, by decide +kernel⟩
  | n + 2, h =>
    have e : ("xy" : Str).cps.size = 2 := by decide +kernel
    have := (Array.getElem?_eq_some_iff.mp h).1
    omega
theorem xyN : ("xy" : Str).cps.size = 2 := by decide +kernel
def RN (x y : Int) (i : Nat) (v : V) (H : Hp) : Prop := ∃ t, v = .ref t ∧ H t = some (.tup [.str (nm i), .int (if i = 0 then x else y)])
theorem RN.mono {x y : Int} : ∀ i v (H H' : Hp), Same H H' → RN x y i v H → RN x y i v H' := fun i v H H' s ⟨t, a, b⟩ => ⟨t, a, s _ _ b⟩
def spHeapStore (K : PySem.W.Frag) : Sp := sp2 fun self l H Q _ => ∃ h N C x y cl, self = .ref h ∧ l = .str "xy" ∧ HeapAt K H h N C x y cl ∧ GoodC cl ∧ cl.length < 64 ∧ okP x ∧ okP y ∧ ∀ H' p, Same H H' → StoreAt K H' p x y cl → Q (.ref p) H'
abbrev N_Heap_store : List Str := ["self", "letters", "letter"]
theorem sc_Heap_store : FnScope N_Heap_store ["self", "letters"] (defScope s_Heap_store) := ⟨rfl, rfl, rfl, by decide +kernel, rfl, by decide +kernel, by decide +kernel⟩
theorem ok_Heap_store {P : Program} {w : World} {K : PySem.W.Frag} {mg : Str → Option Value} {base : Heap} (T : TopE K mg) : FnAt P w K mg base CX0 8 (He.ma K (He.ga K "Heap") "store") ["self", "letters"] (spHeapStore K) := by
  refine fnAt0 (k := 7) T.f_Heap_store sc_Heap_store len2 (fun _ _ _ _ _ _ us hl => match us, hl with | [_, _], _ => rfl) (fun cdv A outer s H vs Q E hr h => ?_)
  have hu := hu_of hr
  obtain ⟨v_self, v_letters, rfl, h⟩ := h
  refine ⟨_, (pss_one (ps_ret (pe_mk T.k_Store (ok_Store_init T) (hr.mono (by decide)) T.g_Store pass0 (pa_cons (pe_callTy call_tuple_frz (by rfl) T.z_tuple (by decide +kernel) (pa_cons (by (apply pe_lcX (s0 := s) (own := [("letter", 2)])); exact rfl; exact sc_Heap_store.nd; exact (pi_str (pv 1)); exact (blkOk_by (N := N_Heap_store) (sc := defScope s_Heap_store) (by decide +kernel)); (intro _ _ _ _ _; exact (pg_name (i := 2) sc_Heap_store.nd rfl (Or.inl rfl))); (intro _ _ _ _ _; exact pts_nil); (intro _ _ _ _ _; exact (pe_tup (pa_cons (pv 2) (pa_cons (pe_dget hu (pe_fld (pv 0) rfl) (pv 2) (fun _ _ => rfl)) pa_nil)))); exact (fun _ => rfl); exact (fun _ _ _ _ _ => rfl); exact (fun _ _ _ _ _ => rfl); exact (fun _ _ _ _ _ => rfl)) pa_nil)) (pa_cons (pe_callTy call_tuple_frz (by rfl) T.z_tuple (by decide +kernel) (pa_cons (pe_callB (cr_sortedItemsK rfl) (by rfl) T.z_sorted (by decide +kernel) (pa_cons (pe_bm0 PySem.F.plainAttrs_dict PySem.F.slot_dict_items PySem.F.type_dict_items mt_itemsK (pe_fld (pv 0) rfl)) pa_nil)) pa_nil)) pa_nil))))), ?_⟩
  obtain ⟨hh, N, C, x, y, cl, rfl, rfl, ha, hg, few, ox, oy, h⟩ := h
  obtain ⟨dh, u, m, hp, hN, hC⟩ := id ha
  refine ⟨_, rfl, _, rfl, fun D nD => ?_⟩
  refine lc_it walk_str (LcG H D (RN x y)) (lcG0 nD) (fun _ _ _ _ => trivial) ?_ ?_
  · rintro i v H1 H2 hi q ⟨rfl, c, hc, rfl⟩
    have hx : (∃ a : Str, (⟨#[c]⟩ : Str) = a ∧ a = nm i ∧ (a = "x" ∨ a = "y") ∧ (a = "x" ↔ i = 0)) := by
      rcases xyAt hc with ⟨rfl, e⟩ | ⟨rfl, e⟩
      · exact ⟨_, e, rfl, .inl rfl, by decide⟩
      · exact ⟨_, e, rfl, .inr rfl, by decide⟩
    obtain ⟨a, ea, en, hxy, hi0⟩ := hx
    have ei : (if a = "x" then x else y) = if i = 0 then x else y := by
      by_cases h0 : i = 0
      · rw [if_pos (hi0.mpr h0), if_pos h0]
      · rw [if_neg (fun z => h0 (hi0.mp z)), if_neg h0]
    rw [xyN] at hi
    have hp2 := q.1 _ _ hp
    refine ⟨rfl, _, rfl, _, rfl, _, _, _, _, _, rfl, hp2, T.c_Heap, T.n_Heap_names, hpF_names _ _ _ _, _, rfl, N, .int (if i = 0 then x else y), rfl, ?_, ?_⟩
    · rw [ea, ← ei, ← cur_get x y hxy]
      exact DGet.k (k := Sum.inr a) (q.1 _ _ hN)
    · refine ⟨sz1000 (Nat.le_of_ble_eq_true rfl), fun t nt => ?_⟩
      generalize e3 : upd H2 t _ = H3
      have tD : t ≠ D := fun e => by
        obtain ⟨_, acc, hD, _⟩ := q
        subst e
        rw [hD] at nt
        cases nt
      refine lcGS nD RN.mono q (szn (by omega)) (same_of e3 nt) ⟨t, rfl, ?_⟩
      rw [del_ne tD, at_of' e3, ea, en]
  · intro H1 q
    obtain ⟨s1, acc, hD, hl, hR⟩ := q.done RN.mono
    rw [xyN] at hl
    match acc, hl with
    | [v0, v1], _ =>
      obtain ⟨t0, rfl, h0⟩ := hR 0 v0 rfl
      obtain ⟨t1, rfl, h1⟩ := hR 1 v1 rfl
      refine ⟨D, _, rfl, SqL.of hD, fun tn o ntn od => ?_⟩
      generalize e2 : upd H1 tn _ = H2
      have s2 := same_of e2 ntn
      have s02 := Same.trans s1 s2
      have hn2 : NamesT H2 tn x y := ⟨o, t0, t1, at_of' e2, od, s2 _ _ h0, s2 _ _ h1⟩
      have hp2 := s02 _ _ hp
      have hC2 := s02 _ _ hC
      refine ⟨_, rfl, _, _, _, _, _, rfl, hp2, T.c_Heap, T.n_Heap_cells, hpF_cells _ _ _ _, .inr (.inr (.inl ⟨rfl, .inl ⟨_, hC2⟩⟩)), C, _, rfl, rfl, hC2, fun pv npv => ?_⟩
      generalize e3 : upd H2 pv _ = H3
      have s3 := same_of e3 npv
      refine ⟨pv, C, cl, rfl, at_of' e3, s3 _ _ hC2, few, hg.asc, fun H4 l ts s4 nl hl hts => ?_⟩
      refine ⟨l, _, rfl, SqL.of hl, fun tc oc ntc ocd => ?_⟩
      generalize e5 : upd H4 tc _ = H5
      have s5 := same_of e5 ntc
      have s25 := Same.trans (Same.trans s3 s4) s5
      intro p dx np nd _
      generalize e6 : upd (upd H5 dx _) p _ = H6
      have s6 := same_make e6 np nd
      have hct : CellsT H5 tc cl := ⟨oc, ts, at_of' e5, ocd, paired_mono (fun _ _ z => s5 _ _ z) hts⟩
      refine ⟨_, _, _, rfl, p, dx, tn, tc, x, y, cl, rfl, rfl, rfl, at_make e6, (hn2.same s25).same s6, ox, oy, hct.same s6, hg, fun H7 b7 st => ⟨rfl, ?_⟩⟩
      exact h H7 p (Same.trans (Same.trans s02 s25) (same_but s6 b7 np)) st

end K66
end
section
set_option Elab.async false
set_option linter.all false
set_option maxRecDepth 100000
set_option maxHeartbeats 4000000
namespace K66
open PySem PySem.Spec PyProof.Rows L2
local macro_rules | `(tactic| walk_at "rd") => `(tactic| repeat (first | refine ⟨_, rfl, ?_⟩ | refine ⟨_, _, rfl, rfl, ?_⟩ | refine ⟨rfl, ?_⟩))
local macro_rules | `(tactic| walk_at "hp") => `(tactic| (first | assumption | solve_by_elim (maxDepth := 12)))
local macro_rules | `(tactic| walk_at "pl") => `(tactic| ((repeat (refine putF_lt ?_)); exact Nat.le_of_ble_eq_true rfl))
/-! ## the run -/
def ruF (v0 v1 v2 v3 v4 v5 v6 v7 : V) : List (Str × V) := [("word", v0), ("store", v1), ("steps", v2), ("deed", v3), ("reads", v4), ("writes", v5), ("asks", v6), ("sets", v7)]
theorem ruF_init (v0 v1 v2 v3 v4 v5 v6 v7 : V) : (putF "sets" v7 (putF "asks" v6 (putF "writes" v5 (putF "reads" v4 (putF "deed" v3 (putF "steps" v2 (putF "store" v1 (putF "word" v0 ([] : List (Str × V)))))))))) = ruF v0 v1 v2 v3 v4 v5 v6 v7 := by kernel_rfl
theorem ruF_word (v0 v1 v2 v3 v4 v5 v6 v7 : V) : (ruF v0 v1 v2 v3 v4 v5 v6 v7).lookup ("word" : Str) = some v0 := by kernel_rfl
theorem ruF_put_word (v0 v1 v2 v3 v4 v5 v6 v7 : V) (u : V) : putF "word" u (ruF v0 v1 v2 v3 v4 v5 v6 v7) = ruF u v1 v2 v3 v4 v5 v6 v7 := by kernel_rfl
theorem ruF_store (v0 v1 v2 v3 v4 v5 v6 v7 : V) : (ruF v0 v1 v2 v3 v4 v5 v6 v7).lookup ("store" : Str) = some v1 := by kernel_rfl
theorem ruF_put_store (v0 v1 v2 v3 v4 v5 v6 v7 : V) (u : V) : putF "store" u (ruF v0 v1 v2 v3 v4 v5 v6 v7) = ruF v0 u v2 v3 v4 v5 v6 v7 := by kernel_rfl
theorem ruF_steps (v0 v1 v2 v3 v4 v5 v6 v7 : V) : (ruF v0 v1 v2 v3 v4 v5 v6 v7).lookup ("steps" : Str) = some v2 := by kernel_rfl
theorem ruF_put_steps (v0 v1 v2 v3 v4 v5 v6 v7 : V) (u : V) : putF "steps" u (ruF v0 v1 v2 v3 v4 v5 v6 v7) = ruF v0 v1 u v3 v4 v5 v6 v7 := by kernel_rfl
theorem ruF_deed (v0 v1 v2 v3 v4 v5 v6 v7 : V) : (ruF v0 v1 v2 v3 v4 v5 v6 v7).lookup ("deed" : Str) = some v3 := by kernel_rfl
theorem ruF_put_deed (v0 v1 v2 v3 v4 v5 v6 v7 : V) (u : V) : putF "deed" u (ruF v0 v1 v2 v3 v4 v5 v6 v7) = ruF v0 v1 v2 u v4 v5 v6 v7 := by kernel_rfl
theorem ruF_reads (v0 v1 v2 v3 v4 v5 v6 v7 : V) : (ruF v0 v1 v2 v3 v4 v5 v6 v7).lookup ("reads" : Str) = some v4 := by kernel_rfl
theorem ruF_put_reads (v0 v1 v2 v3 v4 v5 v6 v7 : V) (u : V) : putF "reads" u (ruF v0 v1 v2 v3 v4 v5 v6 v7) = ruF v0 v1 v2 v3 u v5 v6 v7 := by kernel_rfl
theorem ruF_writes (v0 v1 v2 v3 v4 v5 v6 v7 : V) : (ruF v0 v1 v2 v3 v4 v5 v6 v7).lookup ("writes" : Str) = some v5 := by kernel_rfl
theorem ruF_put_writes (v0 v1 v2 v3 v4 v5 v6 v7 : V) (u : V) : putF "writes" u (ruF v0 v1 v2 v3 v4 v5 v6 v7) = ruF v0 v1 v2 v3 v4 u v6 v7 := by kernel_rfl
theorem ruF_asks (v0 v1 v2 v3 v4 v5 v6 v7 : V) : (ruF v0 v1 v2 v3 v4 v5 v6 v7).lookup ("asks" : Str) = some v6 := by kernel_rfl
theorem ruF_put_asks (v0 v1 v2 v3 v4 v5 v6 v7 : V) (u : V) : putF "asks" u (ruF v0 v1 v2 v3 v4 v5 v6 v7) = ruF v0 v1 v2 v3 v4 v5 u v7 := by kernel_rfl
theorem ruF_sets (v0 v1 v2 v3 v4 v5 v6 v7 : V) : (ruF v0 v1 v2 v3 v4 v5 v6 v7).lookup ("sets" : Str) = some v7 := by kernel_rfl
theorem ruF_put_sets (v0 v1 v2 v3 v4 v5 v6 v7 : V) (u : V) : putF "sets" u (ruF v0 v1 v2 v3 v4 v5 v6 v7) = ruF v0 v1 v2 v3 v4 v5 v6 u := by kernel_rfl
theorem ruF_no_x (v0 v1 v2 v3 v4 v5 v6 v7 : V) : (ruF v0 v1 v2 v3 v4 v5 v6 v7).lookup ("x" : Str) = none := by kernel_rfl
def RunAt (K : PySem.W.Frag) (H : Hp) (p : Addr) (wd : Str) (s : Addr) (st : Int) : Prop := ∃ dx dd a b c d, H p = some (.ins (He.ga K "Run") dx (ruF (.str wd) (.ref s) (.int st) dd a b c d))
def pickD (d : List (Key × V)) (i : Nat) : List Str := ((([("x" : Str), "y"] : List Str).take i).filter fun a => (valV d (Sum.inr a)).isSome)
theorem pickD_s (d : List (Key × V)) {i : Nat} (h : i < 2) : (pickD d (i + 1)).map V.str = (pickD d i).map V.str ++ (if (valV d (Sum.inr (nm i))).isSome = true then [V.str (nm i)] else []) := by
  match i, h with
  | 0, _ =>
    show (List.filter (fun a => (valV d (Sum.inr a)).isSome) [("x" : Str)]).map V.str = [] ++ (if (valV d (Sum.inr ("x" : Str))).isSome = true then [V.str "x"] else [])
    cases e : (valV d (Sum.inr ("x" : Str))).isSome <;> simp [e]
  | 1, _ =>
    show (List.filter (fun a => (valV d (Sum.inr a)).isSome) [("x" : Str), "y"]).map V.str = (List.filter (fun a => (valV d (Sum.inr a)).isSome) [("x" : Str)]).map V.str ++ (if (valV d (Sum.inr ("y" : Str))).isSome = true then [V.str "y"] else [])
    cases e : (valV d (Sum.inr ("x" : Str))).isSome <;> cases e2 : (valV d (Sum.inr ("y" : Str))).isSome <;> simp [e, e2]
theorem pickD_le (d : List (Key × V)) : ((pickD d 2).map (·.length)).sum + (pickD d 2).length * ("" : Str).length ≤ 16777216 := by
  show ((List.filter (fun a => (valV d (Sum.inr a)).isSome) [("x" : Str), "y"]).map (·.length)).sum + _ * 0 ≤ 16777216
  cases e : (valV d (Sum.inr ("x" : Str))).isSome <;> cases e2 : (valV d (Sum.inr ("y" : Str))).isSome <;> simp [e, e2] <;> decide +kernel
theorem seenD_keys (ks : List Int) : (seenD ks).map (·.1) = ks.map Sum.inl := by
  unfold seenD
  rw [List.map_map]
  rfl
theorem xyC {i c : Nat} (hc : ("xy" : Str).cps[i]? = some c) : (⟨#[c]⟩ : Str) = nm i ∧ i < 2 := by
  rcases xyAt hc with ⟨rfl, e⟩ | ⟨rfl, e⟩
  · exact ⟨e, by decide⟩
  · exact ⟨e, by decide⟩
def spRunInit (K : PySem.W.Frag) : Sp := sp6 fun self wd s st dd n H Q _ => ∃ p dx w ps px py cl i pn R Wr A S, self = .ref p ∧ wd = .str w ∧ s = .ref ps ∧ st = .int i ∧ n = .ref pn ∧ H p = some (.ins (He.ga K "Run") dx []) ∧ StoreAt K H ps px py cl ∧ NotesAt K H pn R Wr A S cl ∧ cl.length < 64 ∧
  ∀ H', But p H H' → RunAt K H' p w ps i → Q .non H'
abbrev N_Run_init : List Str := ["self", "word", "store", "steps", "deed", "notes", "letter"]
theorem sc_Run_init : FnScope N_Run_init ["self", "word", "store", "steps", "deed", "notes"] (defScope s_Run_init) := ⟨rfl, rfl, rfl, by decide +kernel, rfl, by decide +kernel, by decide +kernel⟩
theorem ok_Run_init {P : Program} {w : World} {K : PySem.W.Frag} {mg : Str → Option Value} {base : Heap} (T : TopE K mg) : FnAt P w K mg base CX0 1 (He.ma K (He.ga K "Run") "__init__") ["self", "word", "store", "steps", "deed", "notes"] (spRunInit K) := by
  refine fnAt0 (k := 0) T.f_Run_init sc_Run_init len6 (fun _ _ _ _ _ _ us hl => match us, hl with | [_, _, _, _, _, _], _ => rfl) (fun cdv A outer s H vs Q E hr h => ?_)
  have hu := hu_of hr
  obtain ⟨v_self, v_word, v_store, v_steps, v_deed, v_notes, rfl, h⟩ := h
  refine ⟨_, (pss_cons (ps_fld (pv 0) (pv 1) rfl)
    (pss_cons (ps_fld (pv 0) (pv 2) rfl)
    (pss_cons (ps_fld (pv 0) (pv 3) rfl)
    (pss_cons (ps_fld (pv 0) (pv 4) rfl)
    (pss_cons (ps_fld (pv 0) (pe_callTy call_tuple_frz (by rfl) T.z_tuple (by decide +kernel) (pa_cons (pe_callB (call_sortedDI rfl) (by rfl) T.z_sorted (by decide +kernel) (pa_cons (pe_fld (pv 5) rfl) pa_nil)) pa_nil)) rfl)
    (pss_cons (ps_fld (pv 0) (pe_callTy call_tuple_frz (by rfl) T.z_tuple (by decide +kernel) (pa_cons (pe_callB (call_sortedDI rfl) (by rfl) T.z_sorted (by decide +kernel) (pa_cons (pe_fld (pv 5) rfl) pa_nil)) pa_nil)) rfl)
    (pss_cons (ps_fld (pv 0) (pe_join pe_str (by (apply pe_lcX (s0 := s) (own := [("letter", 6)])); exact rfl; exact sc_Run_init.nd; exact (pi_str (pe_fld (pv 2) rfl)); exact (blkOk_by (N := N_Run_init) (sc := defScope s_Run_init) (by decide +kernel)); (intro _ _ _ _ _; exact (pg_name (i := 6) sc_Run_init.nd rfl (Or.inl rfl))); (intro _ _ _ _ _; exact (pts_one (pt_cmp (pc_din hu (pv 6) (pe_fld (pv 5) rfl))))); (intro _ _ _ _ _; exact (pv 6)); exact (fun _ => rfl); exact (fun _ _ _ _ _ => rfl); exact (fun _ _ _ _ _ => rfl); exact (fun _ _ _ _ _ => rfl))) rfl)
    (pss_one (ps_fld (pv 0) (pe_join pe_str (by (apply pe_lcX (s0 := s) (own := [("letter", 6)])); exact rfl; exact sc_Run_init.nd; exact (pi_str (pe_fld (pv 2) rfl)); exact (blkOk_by (N := N_Run_init) (sc := defScope s_Run_init) (by decide +kernel)); (intro _ _ _ _ _; exact (pg_name (i := 6) sc_Run_init.nd rfl (Or.inl rfl))); (intro _ _ _ _ _; exact (pts_one (pt_cmp (pc_din hu (pv 6) (pe_fld (pv 5) rfl))))); (intro _ _ _ _ _; exact (pv 6)); exact (fun _ => rfl); exact (fun _ _ _ _ _ => rfl); exact (fun _ _ _ _ _ => rfl); exact (fun _ _ _ _ _ => rfl))) rfl))))))))), ?_⟩
  obtain ⟨p, dx, wd, ps, px, py, cl, i, pn, R, Wr, A, S, rfl, rfl, rfl, rfl, rfl, hp, st, nt, few, h⟩ := h
  obtain ⟨dxs, tn, tc, dp, da, ob, _⟩ := st.ob
  obtain ⟨⟨dn, hn⟩, ⟨ks, hR, hpass⟩, hW, ⟨dA, hA, hdA⟩, ⟨dS, hS, hdS⟩⟩ := nt
  have ne0 : ∀ {a C dx : Addr} {fs : List (Str × V)} {f : Str × V}, H a = some (.ins C dx (f :: fs)) → a ≠ p := fun e q => by
    subst q
    rw [hp] at e
    have z : (0 : Nat) = _ + 1 := congrArg (fun o : Option HO => match o with | some (HO.ins _ _ fs) => fs.length | _ => 0) e
    omega
  have psp : ps ≠ p := ne0 ob
  have pnp : pn ≠ p := ne0 hn
  have dne : ∀ {a : Addr} {d : List (Key × V)}, H a = some (.dK d) → a ≠ p := fun e => Ne.symm (ins_ne_dict hp e)
  refine ⟨_, rfl, _, rfl, _, _, _, _, rfl, hp, T.c_Run, T.n_Run_word, (by walk_at "pl"), ?_⟩
  generalize e_H1 : upd _ p _ = H1
  have b_H1 := but_upd e_H1
  have h_pH1 := at_of' e_H1
  refine ⟨_, rfl, _, rfl, _, _, _, _, rfl, h_pH1, T.c_Run, T.n_Run_store, (by walk_at "pl"), ?_⟩
  generalize e_H2 : upd _ p _ = H2
  have b_H2 := but_upd e_H2
  have h_pH2 := at_of' e_H2
  refine ⟨_, rfl, _, rfl, _, _, _, _, rfl, h_pH2, T.c_Run, T.n_Run_steps, (by walk_at "pl"), ?_⟩
  generalize e_H3 : upd _ p _ = H3
  have b_H3 := but_upd e_H3
  have h_pH3 := at_of' e_H3
  refine ⟨_, rfl, _, rfl, _, _, _, _, rfl, h_pH3, T.c_Run, T.n_Run_deed, (by walk_at "pl"), ?_⟩
  generalize e_H4 : upd _ p _ = H4
  have b_H4 := but_upd e_H4
  have h_pH4 := at_of' e_H4
  have b4 : But p H H4 := But.trans (But.trans (But.trans b_H1 b_H2) b_H3) b_H4
  have hn4 := b4 _ _ pnp hn
  have hks := hpass.le
  refine ⟨_, rfl, _, _, _, _, _, rfl, hn4, T.c_Notes, T.n_Notes_reads, ntF_reads _ _ _ _, R, _, ks, rfl, .inl (b4 _ _ (dne hR) hR), seenD_keys ks, by omega, fun ys l _ _ nl => ?_⟩
  generalize e5 : upd H4 l _ = H5
  have s5 := same_of e5 nl
  refine ⟨l, _, rfl, SqL.of (at_of' e5), fun t o ntt _ => ?_⟩
  generalize e6 : upd H5 t _ = H6
  have s6 := Same.trans s5 (same_of e6 ntt)
  have hp6 := s6 _ _ h_pH4
  refine ⟨_, rfl, _, _, _, _, rfl, hp6, T.c_Run, T.n_Run_reads, (by walk_at "pl"), ?_⟩
  generalize e_H7 : upd _ p _ = H7
  have b_H7 := but_upd e_H7
  have h_pH7 := at_of' e_H7
  have b7 : But p H H7 := (b4.sm s6).trans b_H7
  have hn7 := b7 _ _ pnp hn
  refine ⟨_, rfl, _, _, _, _, _, rfl, hn7, T.c_Notes, T.n_Notes_writes, ntF_writes _ _ _ _, Wr, _, [], rfl, .inl (b7 _ _ (dne hW) hW), rfl, by decide, fun ys l _ _ nl => ?_⟩
  generalize e8 : upd H7 l _ = H8
  have s8 := same_of e8 nl
  refine ⟨l, _, rfl, SqL.of (at_of' e8), fun t o ntt _ => ?_⟩
  generalize e9 : upd H8 t _ = H9
  have s9 := Same.trans s8 (same_of e9 ntt)
  have hp9 := s9 _ _ h_pH7
  refine ⟨_, rfl, _, _, _, _, rfl, hp9, T.c_Run, T.n_Run_writes, (by walk_at "pl"), ?_⟩
  generalize e_H10 : upd _ p _ = H10
  have b_H10 := but_upd e_H10
  have h_pH10 := at_of' e_H10
  have b10 : But p H H10 := (b7.sm s9).trans b_H10
  have ob10 := b10 _ _ psp ob
  refine ⟨⟨_, rfl⟩, _, rfl, _, _, _, _, _, rfl, ob10, T.c_Store, T.n_Store_letters, stF_letters _ _ _ _ _, _, rfl, fun D nD => ?_⟩
  refine lc_it walk_str (LcF H10 D fun i => (pickD dA i).map V.str) (lcF0 nD rfl) (fun _ _ _ _ => trivial) ?_ ?_
  · rintro i v H11 H12 hi q ⟨rfl, c, hc, rfl⟩
    obtain ⟨ea, hi2⟩ := xyC hc
    rw [ea]
    have st' := pickD_s dA hi2
    have hl : ((pickD dA i).map V.str).length ≤ 1000 := by
      rw [List.length_map]
      refine Nat.le_trans (List.length_filter_le _ _) ?_
      rw [List.length_take]
      exact Nat.le_trans (Nat.min_le_right _ _) (by decide)
    have hA12 := q.1 _ _ (b10 _ _ (dne hA) hA)
    have hn12 := q.1 _ _ (b10 _ _ pnp hn)
    refine ⟨rfl, _, rfl, _, rfl, _, _, _, _, _, rfl, hn12, T.c_Notes, T.n_Notes_asks, ntF_asks _ _ _ _, A, _, rfl, DGet.k (k := Sum.inr (nm i)) hA12, _, rfl, iteB (fun z => ?_) (fun z => ?_)⟩
    · rw [if_pos z] at st'
      exact ⟨_, rfl, lcFS nD q (szn hl) (Same.refl _) st'⟩
    · rw [z] at st'
      exact lcFN q (Same.refl _) (st'.trans (List.append_nil _))
  intro H11 q11
  rw [xyN] at q11
  refine ⟨_, D, pickD dA 2, rfl, rfl, .inl (SqL.of q11.2), pickD_le dA, ?_⟩
  have hp11 := q11.1 _ _ h_pH10
  refine ⟨_, rfl, _, _, _, _, rfl, hp11, T.c_Run, T.n_Run_asks, (by walk_at "pl"), ?_⟩
  generalize e_H12 : upd _ p _ = H12
  have b_H12 := but_upd e_H12
  have h_pH12 := at_of' e_H12
  have b12 : But p H H12 := (b10.sm q11.1).trans b_H12
  have ob12 := b12 _ _ psp ob
  refine ⟨⟨_, rfl⟩, _, rfl, _, _, _, _, _, rfl, ob12, T.c_Store, T.n_Store_letters, stF_letters _ _ _ _ _, _, rfl, fun D nD => ?_⟩
  refine lc_it walk_str (LcF H12 D fun i => (pickD dS i).map V.str) (lcF0 nD rfl) (fun _ _ _ _ => trivial) ?_ ?_
  · rintro i v H11 H12 hi q ⟨rfl, c, hc, rfl⟩
    obtain ⟨ea, hi2⟩ := xyC hc
    rw [ea]
    have st' := pickD_s dS hi2
    have hl : ((pickD dS i).map V.str).length ≤ 1000 := by
      rw [List.length_map]
      refine Nat.le_trans (List.length_filter_le _ _) ?_
      rw [List.length_take]
      exact Nat.le_trans (Nat.min_le_right _ _) (by decide)
    have hS12 := q.1 _ _ (b12 _ _ (dne hS) hS)
    have hn12 := q.1 _ _ (b12 _ _ pnp hn)
    refine ⟨rfl, _, rfl, _, rfl, _, _, _, _, _, rfl, hn12, T.c_Notes, T.n_Notes_sets, ntF_sets _ _ _ _, S, _, rfl, DGet.k (k := Sum.inr (nm i)) hS12, _, rfl, iteB (fun z => ?_) (fun z => ?_)⟩
    · rw [if_pos z] at st'
      exact ⟨_, rfl, lcFS nD q (szn hl) (Same.refl _) st'⟩
    · rw [z] at st'
      exact lcFN q (Same.refl _) (st'.trans (List.append_nil _))
  intro H13 q13
  rw [xyN] at q13
  refine ⟨_, D, pickD dS 2, rfl, rfl, .inl (SqL.of q13.2), pickD_le dS, ?_⟩
  have hp13 := q13.1 _ _ h_pH12
  refine ⟨_, rfl, _, _, _, _, rfl, hp13, T.c_Run, T.n_Run_sets, (by walk_at "pl"), ?_⟩
  generalize e_H14 : upd _ p _ = H14
  have b_H14 := but_upd e_H14
  have h_pH14 := at_of' e_H14
  exact h H14 ((b12.sm q13.1).trans b_H14) ⟨dx, _, _, _, _, _, h_pH14.trans (by rw [ruF_init])⟩
def wordIs (k : Nat) (dd : V) : Str := if dd ≠ .non then "fault" else if 8 ≤ k then "done" else "long"
def spWalkedRun (K : PySem.W.Frag) : Sp := sp2 fun wk l H Q _ => ∃ p cd h n N C R Wr A S, ∃ k : Nat, ∃ st dd x y cl, wk = .ref p ∧ l = .str "xy" ∧ Full K H p cd h n N C R Wr A S k st dd x y cl ∧ GoodC cl ∧ cl.length < 64 ∧ okP x ∧ okP y ∧
  ∀ H' q s, Same H H' → RunAt K H' q (wordIs k dd) s st → StoreAt K H' s x y cl → Q (.ref q) H'
abbrev N_walked_run : List Str := ["walk", "letters"]
theorem sc_walked_run : FnScope N_walked_run ["walk", "letters"] (defScope s_walked_run) := ⟨rfl, rfl, rfl, by decide +kernel, rfl, by decide +kernel, by decide +kernel⟩
theorem ok_walked_run {P : Program} {w : World} {K : PySem.W.Frag} {mg : Str → Option Value} {base : Heap} (T : TopE K mg) : FnAt P w K mg base CX0 9 (He.ga K "walked_run") ["walk", "letters"] (spWalkedRun K) := by
  refine fnAt0 (k := 8) T.f_walked_run sc_walked_run len2 (fun _ _ _ _ _ _ us hl => match us, hl with | [_, _], _ => rfl) (fun cdv A outer s H vs Q E hr h => ?_)
  have hu := hu_of hr
  obtain ⟨v_walk, v_letters, rfl, h⟩ := h
  refine ⟨_, (pss_one (ps_ret (pe_mk T.k_Run (ok_Run_init T) (hr.mono (by decide)) T.g_Run pass0 (pa_cons (pe_f (ok_word_of T) (hr.mono (by decide)) T.g_word_of pass0 (pa_cons (pv 0) pa_nil)) (pa_cons (pe_mt (pe_fld (pv 0) rfl) T.c_Heap T.m_Heap_store (ok_Heap_store T) (hr.mono (by decide)) pass0 (pa_cons (pv 1) pa_nil)) (pa_cons (pe_fld (pv 0) rfl) (pa_cons (pe_fld (pv 0) rfl) (pa_cons (pe_fld (pv 0) rfl) pa_nil)))))))), ?_⟩
  obtain ⟨p, cd, hh, n, N, C, R, Wr, A, S, k, st, dd, x, y, cl, rfl, rfl, f, hg, few, ox, oy, h⟩ := h
  obtain ⟨dp, hp⟩ := id f.wk
  obtain ⟨dh, u, m, hhp, _⟩ := id f.hp
  refine ⟨_, rfl, _, rfl, p, cd, hh, n, st, dd, k, rfl, f.wk, f.cd, ?_⟩
  refine ⟨_, rfl, _, _, _, _, _, rfl, hp, T.c_Walk, T.n_Walk_heap, wkF_heap _ _ _ _ _ _, hh, dh, _, rfl, hhp, hpF_no_store _ _ _ _, _, rfl, _, _, rfl, hh, N, C, x, y, cl, rfl, rfl, f.hp, hg, few, ox, oy, fun H1 s s1 hs => ?_⟩
  have hp1 := s1 _ _ hp
  have nt1 := f.nt.same s1
  refine ⟨_, rfl, _, _, _, _, _, rfl, hp1, T.c_Walk, T.n_Walk_steps, wkF_steps _ _ _ _ _ _, _, rfl, _, _, _, _, _, rfl, hp1, T.c_Walk, T.n_Walk_deed, wkF_deed _ _ _ _ _ _, _, rfl, _, _, _, _, _, rfl, hp1, T.c_Walk, T.n_Walk_notes, wkF_notes _ _ _ _ _ _, ?_⟩
  intro q dq nq nd _
  generalize e2 : upd (upd H1 dq _) q _ = H2
  have s2 := same_make e2 nq nd
  refine ⟨_, _, _, _, _, _, rfl, q, dq, _, s, x, y, cl, st, n, R, Wr, A, S, rfl, rfl, rfl, rfl, rfl, at_make e2, hs.same s2, nt1.same s2, few, fun H3 b3 hr => ⟨rfl, ?_⟩⟩
  have s3 := same_but s2 b3 nq
  exact h H3 q s (Same.trans s1 s3) hr (hs.same s3)
/-! ### where the walk is -/
def psq (cl : List (Int × Int)) (px : Int) : Nat → Option Int
  | 0 => some px
  | k + 1 => (psq cl px k).bind (nxt cl)
theorem psq_s {cl : List (Int × Int)} {px i : Int} {k : Nat} (h : psq cl px k = some i) : psq cl px (k + 1) = nxt cl i := by
  show (psq cl px k).bind (nxt cl) = _
  rw [h]
  rfl
theorem psq_ok {cl : List (Int × Int)} {px : Int} (g : GoodC cl) (ho : okP px) : ∀ (k : Nat) {i : Int}, psq cl px k = some i → okP i
  | 0, i, h => by
    cases h
    exact ho
  | k + 1, i, h => by
    cases e : psq cl px k with
    | none =>
      have h : (psq cl px k).bind (nxt cl) = some i := h
      rw [e] at h
      cases h
    | some j =>
      rw [psq_s e] at h
      exact (g.ok _ (nxt_mem h)).2.2
theorem psq_le {cl : List (Int × Int)} {px : Int} : ∀ {a b : Nat} , a ≤ b → (psq cl px b).isSome = true → (psq cl px a).isSome = true := by
  intro a b h
  induction h with
  | refl => exact fun z => z
  | @step m h ih =>
    intro z
    refine ih ?_
    cases e : psq cl px m with
    | none =>
      have z : ((psq cl px m).bind (nxt cl)).isSome = true := z
      rw [e] at z
      cases z
    | some j => rfl
def kk (m j : Nat) : Nat := if j = 3 then 3 else if m = 0 then j else 4 + j
def Apart2 (cl : List (Int × Int)) (px : Int) (m : Nat) : Prop := ∀ n, 1 ≤ n → n ≤ m → psq cl px n ≠ psq cl px (2 * n)
inductive RI (cl : List (Int × Int)) (px : Int) : Nat → Nat → Int → V → Int → Int → Prop
  | go {m j : Nat} {x y : Int} (hj : j < 4) (hx : psq cl px (if j = 0 then m else m + 1) = some x) (hy : psq cl px (2 * m + (j - 1)) = some y) (ha : Apart2 cl px m) : RI cl px (401 - (4 * m + j)) (kk m j) ((4 * m + j : Nat) : Int) .non x y
  | done {n : Nat} {x : Int} (hn : 1 ≤ n) (hx : psq cl px n = some x) (hy : psq cl px (2 * n) = some x) (ha : Apart2 cl px (n - 1)) : RI cl px 0 8 ((4 * n : Nat) : Int) .non x x
  | fault {k q : Nat} {st i x y : Int} {a b : Nat} (hq : psq cl px q = none) (hx : psq cl px a = some x) (hy : psq cl px b = some y) : RI cl px 0 k st (.int i) x y
theorem kk_lt (m j : Nat) (hj : j < 4) : kk m j < 7 := by
  unfold kk
  split
  · decide
  · split <;> omega
theorem kk_ld (m j : Nat) (hj : j < 3) : ld (kk m j + 1) = kk m (j + 1) := by
  unfold ld kk
  rw [if_neg (show ¬ j = 3 by omega)]
  by_cases h0 : m = 0
  · rw [if_pos h0, if_neg (show ¬ j + 1 = 7 by omega)]
    split
    · omega
    · rfl
  · rw [if_neg h0]
    by_cases h2 : j = 2
    · subst h2
      rfl
    · rw [if_neg (show ¬ 4 + j + 1 = 7 by omega), if_neg (show ¬ j + 1 = 3 by omega), if_neg h0]
      omega
theorem kk_nm (m j : Nat) (hj : j < 3) : (nmC (kk m j) = "x" ↔ j = 0) ∧ kk m j ≠ 3 := by
  unfold nmC kk
  rw [if_neg (show ¬ j = 3 by omega)]
  by_cases h0 : m = 0
  · rw [if_pos h0]
    by_cases hj0 : j = 0
    · subst hj0
      exact ⟨by decide, by decide⟩
    · rw [if_neg (show ¬ (j = 0 ∨ j = 4) by omega)]
      exact ⟨by simp [hj0]; decide, by omega⟩
  · rw [if_neg h0]
    by_cases hj0 : j = 0
    · subst hj0
      exact ⟨by decide, by decide⟩
    · rw [if_neg (show ¬ (4 + j = 0 ∨ 4 + j = 4) by omega)]
      exact ⟨by simp [hj0]; decide, by omega⟩
theorem RI.ok {cl : List (Int × Int)} {px : Int} {mu k : Nat} {st : Int} {dd : V} {x y : Int} (g : GoodC cl) (o : okP px) (r : RI cl px mu k st dd x y) : okP x ∧ okP y := by
  cases r with
  | go hj hx hy ha => exact ⟨psq_ok g o _ hx, psq_ok g o _ hy⟩
  | done hn hx hy ha => exact ⟨psq_ok g o _ hx, psq_ok g o _ hx⟩
  | fault hq hx hy => exact ⟨psq_ok g o _ hx, psq_ok g o _ hy⟩
def Bnd (cl : List (Int × Int)) (px : Int) : Prop := ∀ m, (psq cl px (2 * m)).isSome = true → Apart2 cl px m → m < 99
theorem RI.go_lt {cl : List (Int × Int)} {px : Int} {m j : Nat} {y : Int} (b : Bnd cl px) (hy : psq cl px (2 * m + (j - 1)) = some y) (ha : Apart2 cl px m) : m < 99 :=
  b m (psq_le (Nat.le_add_right _ _) (by rw [hy]; rfl)) ha
def spRun (K : PySem.W.Frag) : Sp := sp3 fun g s m H Q _ => ∃ ps px cl, g = .str srcT ∧ s = .ref ps ∧ m = .int 400 ∧ StoreAt K H ps px px cl ∧ GoodC cl ∧ cl.length < 64 ∧ okP px ∧ Bnd cl px ∧
  ∀ H' p, Same H H' → ((∃ n z s, 1 ≤ n ∧ psq cl px n = some z ∧ psq cl px (2 * n) = some z ∧ Apart2 cl px (n - 1) ∧ RunAt K H' p "done" s ((4 * n : Nat) : Int) ∧ StoreAt K H' s z z cl) ∨ (∃ q s i, psq cl px q = none ∧ RunAt K H' p "fault" s i)) → Q (.ref p) H'
abbrev N_run : List Str := ["program", "store", "most", "tree", "walk"]
theorem sc_run : FnScope N_run ["program", "store", "most"] (defScope s_run) := ⟨rfl, rfl, rfl, by decide +kernel, rfl, by decide +kernel, by decide +kernel⟩
theorem ok_run {P : Program} {w : World} {K : PySem.W.Frag} {mg : Str → Option Value} {base : Heap} (T : TopE K mg) : FnAt P w K mg base CX0 14 (He.ga K "run") ["program", "store", "most"] (spRun K) := by
  refine fnAt0 (k := 13) T.f_run sc_run len3 (fun _ _ _ _ _ _ us hl => match us, hl with | [_, _, _], _ => rfl) (fun cdv A outer s H vs Q E hr h => ?_)
  have hu := hu_of hr
  obtain ⟨v_program, v_store, v_most, rfl, h⟩ := h
  refine ⟨_, (pss_cons (ps_set (i := 3) sc_run.nd rfl (Or.inl rfl) (pe_f (ok_program_tree T) (hr.mono (by decide)) T.g_program_tree pass0 (pa_cons (pv 0) pa_nil)))
    (pss_cons (ps_expr (pe_f (ok_check_store T) (hr.mono (by decide)) T.g_check_store passL (pa_cons (pv 1) pa_nil)))
    (pss_cons (ps_expr (pe_f (ok_check_most T) (hr.mono (by decide)) T.g_check_most pass0 (pa_cons (pv 2) pa_nil)))
    (pss_cons (ps_expr (pe_f (ok_check_letters T) (hr.mono (by decide)) T.g_check_letters pass0 (pa_cons (pe_fld (pv 1) rfl) (pa_cons (pv 3) pa_nil))))
    (pss_cons (ps_expr (pe_f (ok_check_run_cells T) (hr.mono (by decide)) T.g_check_run_cells pass0 (pa_cons (pv 1) pa_nil)))
    (pss_cons (ps_set (i := 4) sc_run.nd rfl (Or.inl rfl) (pe_f (ok_walk_of T) (hr.mono (by decide)) T.g_walk_of pass0 (pa_cons (pv 3) (pa_cons (pv 1) pa_nil))))
    (pss_cons (ps_while PassesOwn.never (PW.pt (pw_and (pt_cmpR op_lt (pe_fld (pv 4) rfl) (pv 2) (nomark _)) (pw_and1 (pt_not (pt_val (pe_mt0 (pv 4) T.c_Walk T.m_Walk_is_over (ok_Walk_is_over T) (hr.mono (by decide)) pass0)))))) (pss_one (ps_expr (pe_mt0 (pv 4) T.c_Walk T.m_Walk_step (ok_Walk_step T) (hr.mono (by decide)) pass0))))
    (pss_one (ps_ret (pe_f (ok_walked_run T) (hr.mono (by decide)) T.g_walked_run pass0 (pa_cons (pv 4) (pa_cons (pe_fld (pv 1) rfl) pa_nil)))))))))))), ?_⟩
  obtain ⟨ps, px, cl, rfl, rfl, rfl, st, hg, few, ox, bnd, h⟩ := h
  refine ⟨_, rfl, _, rfl, rfl, fun H1 r s1 ht => ?_⟩
  have st1 := st.same s1
  obtain ⟨dx, tn, tc, dp, da, ob, _⟩ := st1.ob
  refine ⟨_, rfl, _, rfl, .inl ⟨ps, px, px, cl, rfl, st1, ?_⟩⟩
  refine ⟨_, rfl, _, rfl, rfl, ?_⟩
  refine ⟨_, rfl, _, _, _, _, _, rfl, ob, T.c_Store, T.n_Store_letters, stF_letters _ _ _ _ _, _, rfl, _, _, rfl, r, rfl, rfl, ht, fun H2 s2 => ?_⟩
  have st2 := st1.same s2
  refine ⟨_, rfl, _, rfl, ps, px, px, cl, rfl, st2, hg, ?_⟩
  refine ⟨_, rfl, _, rfl, _, _, rfl, r, ps, px, px, cl, rfl, rfl, ht.kp (Same.kp s2), st2, hg, fun H3 p cd hh n N C R Wr A S s3 np nN nR nA nS f3 ap => ?_⟩
  have s03 := Same.trans (Same.trans s1 s2) s3
  have frS : ∀ {H' : Hp}, ButL [p, N, R, A, S] H3 H' → Same H H' := fun b a o e => b a o (fun z => by
    have z2 := same_none (Same.trans s1 s2) (show H2 a = none by
      simp at z
      rcases z with rfl | rfl | rfl | rfl | rfl <;> assumption)
    rw [e] at z2
    cases z2) (s03 _ _ e)
  refine ⟨fun mu σ H' => ∃ k st dd x y, RI cl px mu k st dd x y ∧ Full K H' p cd hh n N C R Wr A S k st dd x y cl ∧ ButL [p, N, R, A, S] H3 H' ∧ σ = [some (.str srcT), some (.ref ps), some (.int 400), some (.ref r), some (.ref p)], ?_, ?_⟩
  · refine ⟨401, 0, 0, .non, px, px, ?_, f3, Same.butL (Same.refl H3), rfl⟩
    exact RI.go (m := 0) (j := 0) (by decide) rfl rfl (fun n h1 h2 => by omega)
  rintro mu σ H' ⟨k, st', dd, x, y, ri, f, b, rfl⟩
  obtain ⟨dp', hp'⟩ := id f.wk
  have hok := ri.ok hg ox
  have fin : ∀ H4 q s, Same H' H4 → RunAt K H4 q (wordIs k dd) s st' → StoreAt K H4 s x y cl → (dd ≠ .non ∨ 8 ≤ k) → Q (.ref q) H4 := fun H4 q s s4 hr hs hd => by
    refine h H4 q (Same.trans (frS b) s4) ?_
    cases ri with
    | @go m j x y hj hx hy ha =>
      rcases hd with hd | hd
      · exact absurd rfl hd
      · have := kk_lt m j hj
        omega
    | done hn hx hy ha => exact .inl ⟨_, x, s, hn, hx, hy, ha, hr, hs⟩
    | fault hq hx hy => exact .inr ⟨_, s, st', hq, hr⟩
  have obH := (frS b) _ _ (show H ps = some _ from (st.ob.choose_spec.choose_spec.choose_spec.choose_spec.choose_spec.1))
  by_cases over : dd ≠ .non ∨ 8 ≤ k
  · have eover : (decide (8 ≤ k) || !decide (dd = .non)) = true := by
      rcases over with z | z
      · rw [decide_eq_false z, Bool.or_comm]
        rfl
      · rw [decide_eq_true z]
        rfl
    refine ⟨_, rfl, _, _, _, _, _, rfl, hp', T.c_Walk, T.n_Walk_steps, wkF_steps _ _ _ _ _ _, _, rfl, _, _, rfl, rfl, _, rfl, iteD (fun c => ?_) (fun c => ?_)⟩
    · refine ⟨_, rfl, p, dp', _, rfl, hp', wkF_no_is_over _ _ _ _ _ _, _, rfl, p, cd, hh, n, st', dd, k, rfl, f.wk, f.cd, _, rfl, iteO (by rw [eover]; rfl) ?_⟩
      exact ⟨_, rfl, _, rfl, _, _, _, _, _, rfl, obH, T.c_Store, T.n_Store_letters, stF_letters _ _ _ _ _, _, _, rfl, p, cd, hh, n, N, C, R, Wr, A, S, k, st', dd, x, y, cl, rfl, rfl, f, hg, few, hok.1, hok.2, fun H4 q s s4 hr hs => fin H4 q s s4 hr hs over⟩
    · exact ⟨_, rfl, _, rfl, _, _, _, _, _, rfl, obH, T.c_Store, T.n_Store_letters, stF_letters _ _ _ _ _, _, _, rfl, p, cd, hh, n, N, C, R, Wr, A, S, k, st', dd, x, y, cl, rfl, rfl, f, hg, few, hok.1, hok.2, fun H4 q s s4 hr hs => fin H4 q s s4 hr hs over⟩
  · cases ri with
    | @go m j x y hj hx hy ha =>
      have hm := RI.go_lt bnd hy ha
      refine ⟨_, rfl, _, _, _, _, _, rfl, hp', T.c_Walk, T.n_Walk_steps, wkF_steps _ _ _ _ _ _, _, rfl, _, _, rfl, rfl, _, rfl, iteE (decide_eq_true (by omega)) ?_⟩
      refine ⟨_, rfl, p, dp', _, rfl, hp', wkF_no_is_over _ _ _ _ _ _, _, rfl, p, cd, hh, n, _, .non, kk m j, rfl, f.wk, f.cd, _, rfl, iteE ?_ ?_⟩
      · rw [decide_eq_false (show ¬ 8 ≤ kk m j from fun z => over (.inr z))]
        rfl
      refine ⟨fun σ' H2 => ∃ mu', mu' < 401 - (4 * m + j) ∧ ∃ k st dd x y, RI cl px mu' k st dd x y ∧ Full K H2 p cd hh n N C R Wr A S k st dd x y cl ∧ ButL [p, N, R, A, S] H3 H2 ∧ σ' = [some (.str srcT), some (.ref ps), some (.int 400), some (.ref r), some (.ref p)], fun σ' H2 z => z, ?_⟩
      refine ⟨_, rfl, p, dp', _, rfl, hp', wkF_no_step _ _ _ _ _ _, _, rfl, p, cd, hh, n, N, C, R, Wr, A, S, kk m j, _, x, y, cl, rfl, f, ap, kk_lt m j hj, by omega, ?_⟩
      by_cases j3 : j = 3
      · subst j3
        have hy : psq cl px (2 * (m + 1)) = some y := hy
        refine .inl ⟨rfl, fun H4 b4 f4 => ?_⟩
        by_cases exy : x = y
        · subst exy
          rw [if_pos rfl] at f4
          refine ⟨0, by omega, 8, _, .non, x, x, RI.done (n := m + 1) (by omega) hx hy ha, ?_, b.trans b4, rfl⟩
          have e : ((4 * (m + 1) : Nat) : Int) = ((4 * m + 3 : Nat) : Int) + 1 := by omega
          rw [e]
          exact f4
        · rw [if_neg exy] at f4
          have ha' : Apart2 cl px (m + 1) := fun q h1 h2 => by
            by_cases e : q = m + 1
            · subst e
              have hx : psq cl px (m + 1) = some x := hx
              rw [hx, hy]
              intro z
              exact exy (Option.some.inj z)
            · exact ha q h1 (by omega)
          refine ⟨401 - (4 * (m + 1) + 0), by omega, kk (m + 1) 0, _, .non, x, y, RI.go (m := m + 1) (j := 0) (by decide) hx hy ha', ?_, b.trans b4, rfl⟩
          have e : ((4 * (m + 1) + 0 : Nat) : Int) = ((4 * m + 3 : Nat) : Int) + 1 := by omega
          rw [e]
          exact f4
      · have hj3 : j < 3 := by omega
        obtain ⟨hnm, hk3⟩ := kk_nm m j hj3
        refine .inr ⟨hk3, fun i hi H4 b4 f4 => ?_, fun hi H4 b4 f4 => ?_⟩
        · rw [kk_ld m j hj3] at f4
          have e : ((4 * m + (j + 1) : Nat) : Int) = ((4 * m + j : Nat) : Int) + 1 := by omega
          refine ⟨401 - (4 * m + (j + 1)), by omega, kk m (j + 1), ((4 * m + (j + 1) : Nat) : Int), .non, _, _, RI.go (m := m) (j := j + 1) (by omega) ?_ ?_ ha, by rw [e]; exact f4, b.trans b4, rfl⟩
          · rw [if_neg (show ¬ j + 1 = 0 by omega)]
            by_cases j0 : j = 0
            · subst j0
              rw [if_pos (hnm.mpr rfl)] at hi ⊢
              have hx : psq cl px m = some x := hx
              rw [psq_s hx]
              exact hi
            · rw [if_neg j0] at hx
              rw [if_neg (fun z => j0 (hnm.mp z))]
              exact hx
          · by_cases j0 : j = 0
            · subst j0
              rw [if_pos (hnm.mpr rfl)]
              exact hy
            · rw [if_neg (fun z => j0 (hnm.mp z))] at hi ⊢
              have e2 : 2 * m + (j + 1 - 1) = 2 * m + (j - 1) + 1 := by omega
              rw [e2, psq_s hy]
              exact hi
        · by_cases j0 : j = 0
          · subst j0
            rw [if_pos (hnm.mpr rfl)] at hi
            have hx : psq cl px m = some x := hx
            exact ⟨0, by omega, _, _, _, x, y, RI.fault (q := m + 1) (by rw [psq_s hx]; exact hi) hx hy, f4, b.trans b4, rfl⟩
          · rw [if_neg (fun z => j0 (hnm.mp z))] at hi
            exact ⟨0, by omega, _, _, _, x, y, RI.fault (q := 2 * m + (j - 1) + 1) (by rw [psq_s hy]; exact hi) hx hy, f4, b.trans b4, rfl⟩
    | done hn hx hy ha => exact absurd (.inr (Nat.le_refl 8)) over
    | fault hq hx hy => exact absurd (.inl (fun z => by cases z)) over

end K66
end
section
set_option Elab.async false
set_option linter.all false
set_option maxRecDepth 100000
set_option maxHeartbeats 4000000
namespace K66
open PySem PySem.Spec PyProof.Rows L2
local macro_rules | `(tactic| walk_at "rd") => `(tactic| repeat (first | refine ⟨_, rfl, ?_⟩ | refine ⟨_, _, rfl, rfl, ?_⟩ | refine ⟨rfl, ?_⟩))
local macro_rules | `(tactic| walk_at "hp") => `(tactic| (first | assumption | solve_by_elim (maxDepth := 12)))
local macro_rules | `(tactic| walk_at "pl") => `(tactic| ((repeat (refine putF_lt ?_)); exact Nat.le_of_ble_eq_true rfl))
/-! ## the law's wells -/
def WellAt (H : Hp) (p : Addr) : Prop := ∃ a b c : Int, H p = some (.lst [.int a, .int b, .int c])
theorem WellAt.same {H H' : Hp} {p : Addr} (s : Same H H') (h : WellAt H p) : WellAt H' p := let ⟨a, b, c, e⟩ := h; ⟨a, b, c, s _ _ e⟩
theorem cutV_mem {xs : List V} {lo hi : Option Int} {x : V} (h : x ∈ cutV xs lo hi) : x ∈ xs := List.mem_of_mem_drop (List.mem_of_mem_take h)
theorem ints_of {ns : List Int} {x : V} (h : x ∈ ns.map V.int) : ∃ i, x = .int i := let ⟨i, _, e⟩ := List.mem_map.mp h; ⟨i, e.symm⟩
theorem cm2 {i j : Int} (h : okM j = true) : CMul i j := by
  unfold okM at h
  rw [Bool.and_eq_true] at h
  exact .inr ⟨of_decide_eq_true h.1, of_decide_eq_true h.2⟩
def spWell (K : PySem.W.Frag) : Sp := sp2 fun s t H Q _ => ∃ (l : Addr) (ns : List Int) (k : Nat), s = .ref l ∧ t = .int (k : Nat) ∧ SqL K H l (ns.map V.int) ∧ ∀ H' p, Same H H' → H p = none → WellAt H' p → Q (.ref p) H'
abbrev N__law_well : List Str := ["_law_script", "_law_turn", "_law_own", "_law_stirred", "_law_cell"]
theorem sc__law_well : FnScope N__law_well ["_law_script", "_law_turn"] (defScope s__law_well) := ⟨rfl, rfl, rfl, by decide +kernel, rfl, by decide +kernel, by decide +kernel⟩
theorem ok_law_well {P : Program} {w : World} {K : PySem.W.Frag} {mg : Str → Option Value} {base : Heap} (T : TopE K mg) : FnAt P w K mg base CX0 1 (He.ga K "_law_well") ["_law_script", "_law_turn"] (spWell K) := by
  refine fnAt0 (k := 0) T.f_law_well sc__law_well len2 (fun _ _ _ _ _ _ us hl => match us, hl with | [_, _], _ => rfl) (fun cdv A outer s H vs Q E hr h => ?_)
  have hu := hu_of hr
  obtain ⟨v_law_script, v_law_turn, rfl, h⟩ := h
  refine ⟨_, (pss_cons (ps_set (i := 2) sc__law_well.nd rfl (Or.inl rfl) (pe_ifExp (pt_cmpR op_lt (pv 1) (pe_callB call_len_seq (by rfl) T.z_len (by decide +kernel) (pa_cons (pv 0) pa_nil)) (nomark _)) (pe_callTy call_int1 (by rfl) T.z_int (by decide +kernel) (pa_cons (pe_ix ix_list (pv 0) (pv 1) (fun _ _ => rfl)) pa_nil)) (pe_op op_add (pe_op op_mul pe_int (pv 1)) pe_int)))
    (pss_cons (ps_set (i := 3) sc__law_well.nd rfl (Or.inl rfl) (pe_op op_add pe_int (pe_op op_mul pe_int (pv 1))))
    (pss_cons (ps_for PassesOwn.never rfl (pi_list (pe_slice sl_list (pv 0) po_none (po_some pe_int))) (pg_name (i := 4) sc__law_well.nd rfl (Or.inl rfl)) (pss_one (ps_set (i := 3) sc__law_well.nd rfl (Or.inl rfl) (pe_op op_mod (pe_callTy call_int1 (by rfl) T.z_int (by decide +kernel) (pa_cons (pe_op op_add (pe_op op_add (pe_op op_mul (pv 3) pe_int) (pe_op op_mod (pe_callTy call_int1 (by rfl) T.z_int (by decide +kernel) (pa_cons (pv 4) pa_nil)) pe_int)) pe_int) pa_nil)) pe_int))))
    (pss_cons (ps_set (i := 3) sc__law_well.nd rfl (Or.inl rfl) (pe_op op_mod (pe_callTy call_int1 (by rfl) T.z_int (by decide +kernel) (pa_cons (pe_op op_add (pe_op op_mul (pv 3) pe_int) (pe_op op_mul (pe_op op_mod (pe_callTy call_int1 (by rfl) T.z_int (by decide +kernel) (pa_cons (pv 2) pa_nil)) pe_int) pe_int)) pa_nil)) pe_int))
    (pss_one (ps_ret (pe_lst (pa_cons (pe_ifExp (PW.pt (pw_or (pt_cmpR op_lt (pv 2) pe_int (nomark _)) (pw_or1 (pt_cmpR op_ge (pv 2) (pe_op op_pow pe_int pe_int) (nomark _))))) (pe_callB call_abs (by rfl) T.z_abs (by decide +kernel) (pa_cons (pv 2) pa_nil)) pe_int) (pa_cons (pv 3) (pa_cons pe_int pa_nil)))))))))), ?_⟩
  obtain ⟨l, ns, k, rfl, rfl, hl, h⟩ := h
  refine ⟨_, rfl, _, rfl, l, _, rfl, .inl hl, _, _, rfl, rfl, _, rfl, iteD (fun c => ?_) (fun c => ⟨_, rfl, _, _, rfl, rfl, .inl ⟨by decide, by decide⟩, _, _, rfl, rfl, ?_⟩)⟩
  · rw [List.length_map] at c
    have hk : k < ns.length := by omega
    refine ⟨_, rfl, _, rfl, l, _, (k : Int), .int ns[k], rfl, rfl, hl, atI_nat (by rw [List.getElem?_map, List.getElem?_eq_getElem hk]; rfl), .inl ⟨_, rfl, ?_⟩⟩
    refine ⟨_, rfl, _, _, rfl, rfl, .inl ⟨by decide, by decide⟩, _, _, rfl, rfl, ?_⟩
    refine ⟨_, rfl, _, rfl, l, _, rfl, hl, fun S nS => ?_⟩
    generalize e1 : upd H S _ = H1
    have s1 := same_of e1 nS
    have hS1 := at_of' e1
    refine ⟨S, rfl, ⟨_, SqL.of hS1⟩, for_list (xs := cutV (ns.map V.int) none (some 9)) (fun i σ H' => H' = H1 ∧ ∃ own st c, σ = [some (.ref l), some (.int (k : Nat)), some (.int own), some (.int st), c]) ⟨rfl, _, _, _, rfl⟩ (fun i σ H' _ q => by rw [q.1]; exact SqL.of hS1) ?_ ?_⟩
    · rintro i x σ H' hx ⟨rfl, own, st, c, rfl⟩
      obtain ⟨j, rfl⟩ := ints_of (cutV_mem (List.mem_of_getElem? hx))
      refine ⟨_, rfl, _, _, rfl, rfl, cm2 (by decide +kernel), _, rfl, .inl ⟨_, rfl, _, _, rfl, rfl, (by show (0 : Int) < _; decide), _, _, rfl, rfl, _, _, rfl, rfl, .inl ⟨_, rfl, _, _, rfl, rfl, (by show (0 : Int) < _; decide), rfl, _, _, _, rfl⟩⟩⟩
    · rintro σ H' ⟨rfl, own, st, c, rfl⟩
      refine ⟨_, rfl, _, _, rfl, rfl, cm2 (by decide +kernel), _, rfl, .inl ⟨_, rfl, _, _, rfl, rfl, (by show (0 : Int) < _; decide), _, _, rfl, rfl, cm2 (by decide +kernel), _, _, rfl, rfl, .inl ⟨_, rfl, _, _, rfl, rfl, (by show (0 : Int) < _; decide), ?_⟩⟩⟩
      have fin : ∀ (v : Int) p, H' p = none → ∀ z1 z2 : Int, Q (.ref p) (upd H' p (.lst [.int v, .int z1, .int z2])) := fun v p np z1 z2 => by
        generalize e2 : upd H' p _ = H2
        exact h H2 p (Same.trans s1 (same_of e2 np)) (same_none s1 np) ⟨_, _, _, at_of' e2⟩
      refine ⟨_, rfl, _, _, rfl, rfl, _, rfl, iteD (fun c => ⟨_, rfl, _, rfl, _, rfl, sz1000 (Nat.le_of_ble_eq_true rfl), fun p np => fin _ p np _ _⟩) (fun c => ⟨_, rfl, _, _, rfl, rfl, ⟨by decide, by decide, by decide⟩, _, _, rfl, rfl, _, rfl, iteD (fun c => ⟨_, rfl, _, rfl, _, rfl, sz1000 (Nat.le_of_ble_eq_true rfl), fun p np => fin _ p np _ _⟩) (fun c => ⟨_, rfl, sz1000 (Nat.le_of_ble_eq_true rfl), fun p np => fin _ p np _ _⟩)⟩)⟩
  · skip
    refine ⟨_, rfl, _, _, rfl, rfl, .inl ⟨by decide, by decide⟩, _, _, rfl, rfl, ?_⟩
    refine ⟨_, rfl, _, rfl, l, _, rfl, hl, fun S nS => ?_⟩
    generalize e1 : upd H S _ = H1
    have s1 := same_of e1 nS
    have hS1 := at_of' e1
    refine ⟨S, rfl, ⟨_, SqL.of hS1⟩, for_list (xs := cutV (ns.map V.int) none (some 9)) (fun i σ H' => H' = H1 ∧ ∃ own st c, σ = [some (.ref l), some (.int (k : Nat)), some (.int own), some (.int st), c]) ⟨rfl, _, _, _, rfl⟩ (fun i σ H' _ q => by rw [q.1]; exact SqL.of hS1) ?_ ?_⟩
    · rintro i x σ H' hx ⟨rfl, own, st, c, rfl⟩
      obtain ⟨j, rfl⟩ := ints_of (cutV_mem (List.mem_of_getElem? hx))
      refine ⟨_, rfl, _, _, rfl, rfl, cm2 (by decide +kernel), _, rfl, .inl ⟨_, rfl, _, _, rfl, rfl, (by show (0 : Int) < _; decide), _, _, rfl, rfl, _, _, rfl, rfl, .inl ⟨_, rfl, _, _, rfl, rfl, (by show (0 : Int) < _; decide), rfl, _, _, _, rfl⟩⟩⟩
    · rintro σ H' ⟨rfl, own, st, c, rfl⟩
      refine ⟨_, rfl, _, _, rfl, rfl, cm2 (by decide +kernel), _, rfl, .inl ⟨_, rfl, _, _, rfl, rfl, (by show (0 : Int) < _; decide), _, _, rfl, rfl, cm2 (by decide +kernel), _, _, rfl, rfl, .inl ⟨_, rfl, _, _, rfl, rfl, (by show (0 : Int) < _; decide), ?_⟩⟩⟩
      have fin : ∀ (v : Int) p, H' p = none → ∀ z1 z2 : Int, Q (.ref p) (upd H' p (.lst [.int v, .int z1, .int z2])) := fun v p np z1 z2 => by
        generalize e2 : upd H' p _ = H2
        exact h H2 p (Same.trans s1 (same_of e2 np)) (same_none s1 np) ⟨_, _, _, at_of' e2⟩
      refine ⟨_, rfl, _, _, rfl, rfl, _, rfl, iteD (fun c => ⟨_, rfl, _, rfl, _, rfl, sz1000 (Nat.le_of_ble_eq_true rfl), fun p np => fin _ p np _ _⟩) (fun c => ⟨_, rfl, _, _, rfl, rfl, ⟨by decide, by decide, by decide⟩, _, _, rfl, rfl, _, rfl, iteD (fun c => ⟨_, rfl, _, rfl, _, rfl, sz1000 (Nat.le_of_ble_eq_true rfl), fun p np => fin _ p np _ _⟩) (fun c => ⟨_, rfl, sz1000 (Nat.le_of_ble_eq_true rfl), fun p np => fin _ p np _ _⟩)⟩)⟩
def spTake3 : Sp := sp2 fun w l H Q _ => ∃ (p : Addr) (L : Int), w = .ref p ∧ l = .int L ∧ 0 < L ∧ L < 1073741824 ∧ WellAt H p ∧ ∀ H' k, But p H H' → WellAt H' p → 0 ≤ k → k < L → Q (.int k) H'
abbrev N__law_take : List Str := ["_law_well_here", "_law_limit", "_law_figure", "_law_seed"]
theorem sc__law_take : FnScope N__law_take ["_law_well_here", "_law_limit"] (defScope s__law_take) := ⟨rfl, rfl, rfl, by decide +kernel, rfl, by decide +kernel, by decide +kernel⟩
theorem ok_law_take {P : Program} {w : World} {K : PySem.W.Frag} {mg : Str → Option Value} {base : Heap} (T : TopE K mg) : FnAt P w K mg base CX0 1 (He.ga K "_law_take") ["_law_well_here", "_law_limit"] spTake3 := by
  refine fnAt0 (k := 0) T.f_law_take sc__law_take len2 (fun _ _ _ _ _ _ us hl => match us, hl with | [_, _], _ => rfl) (fun cdv A outer s H vs Q E hr h => ?_)
  have hu := hu_of hr
  obtain ⟨v_law_well_here, v_law_limit, rfl, h⟩ := h
  refine ⟨_, (pss_cons (ps_if (pt_cmpR op_gt (pe_ix ix_list (pv 0) pe_int (fun _ _ => rfl)) pe_int (nomark _)) (pss_cons (ps_asg (pe_callB call_divmod (by rfl) T.z_divmod (by decide +kernel) (pa_cons (pe_ix ix_list (pv 0) pe_int (fun _ _ => rfl)) (pa_cons (pv 1) pa_nil))) (pg_tup (by rfl) (pgs_cons (pg_sub (pv 0) pe_int set_list) (pgs_cons (pg_name (i := 2) sc__law_take.nd rfl (Or.inl rfl)) pgs_nil))))
    (pss_one (ps_ret (pv 2)))) pss_nil)
    (pss_cons (ps_asg (pe_op op_add (pe_ix ix_list (pv 0) pe_int (fun _ _ => rfl)) pe_int) (pg_sub (pv 0) pe_int set_list))
    (pss_cons (ps_set (i := 3) sc__law_take.nd rfl (Or.inl rfl) (pe_op op_mod (pe_callTy call_int1 (by rfl) T.z_int (by decide +kernel) (pa_cons (pe_op op_add (pe_op op_mul (pe_ix ix_list (pv 0) pe_int (fun _ _ => rfl)) pe_int) (pe_op op_mul (pe_ix ix_list (pv 0) pe_int (fun _ _ => rfl)) pe_int)) pa_nil)) pe_int))
    (pss_cons (ps_asg (pe_op op_mod (pe_callTy call_int1 (by rfl) T.z_int (by decide +kernel) (pa_cons (pe_op op_add (pe_op op_mul (pv 3) (pe_op op_add (pe_op op_mod (pe_callTy call_int1 (by rfl) T.z_int (by decide +kernel) (pa_cons (pe_op op_fdiv (pv 3) pe_int) pa_nil)) pe_int) pe_int)) pe_int) pa_nil)) pe_int) (pg_sub (pv 0) pe_int set_list))
    (pss_one (ps_ret (pe_op op_mod (pe_callTy call_int1 (by rfl) T.z_int (by decide +kernel) (pa_cons (pe_op op_fdiv (pe_ix ix_list (pv 0) pe_int (fun _ _ => rfl)) pe_int) pa_nil)) (pv 1)))))))), ?_⟩
  obtain ⟨p, L, rfl, rfl, L0, L1, ⟨a, b, c, hp⟩, h⟩ := h
  refine ⟨_, rfl, p, _, 0, _, rfl, rfl, SqL.of hp, rfl, _, _, rfl, rfl, _, rfl, iteD (fun g => ?_) (fun g => ?_)⟩
  · refine ⟨_, rfl, p, _, 0, _, rfl, rfl, SqL.of hp, rfl, _, rfl, _, _, rfl, ⟨L0, L1⟩, fun t nt => ?_⟩
    generalize e1 : upd H t _ = H1
    have s1 := same_of e1 nt
    refine ⟨t, _, rfl, SqT.of (at_of' e1), rfl, _, _, rfl, _, rfl, p, _, 0, 0, rfl, rfl, s1 _ _ hp, rfl, ?_⟩
    generalize e2 : upd H1 p _ = H2
    have b2 := but_upd e2
    exact ⟨_, _, rfl, rfl, _, rfl, h H2 _ (But.trans (Same.but s1) b2) ⟨_, _, _, at_of' e2⟩ (Int.emod_nonneg _ (Int.ne_of_gt L0)) (Int.emod_lt_of_pos _ L0)⟩
  · refine ⟨_, rfl, p, _, 2, _, rfl, rfl, SqL.of hp, rfl, _, _, rfl, rfl, _, rfl, p, _, 2, 2, rfl, rfl, hp, rfl, ?_⟩
    generalize e1 : upd H p _ = H1
    have b1 := but_upd e1
    have hp1 : H1 p = some (.lst [.int a, .int b, .int (c + 1)]) := at_of' e1
    refine ⟨_, rfl, p, _, 1, _, rfl, rfl, SqL.of hp1, rfl, _, _, rfl, rfl, cm2 (by decide +kernel), _, rfl, p, _, 2, _, rfl, rfl, SqL.of hp1, rfl, _, _, rfl, rfl, cm2 (by decide +kernel), _, _, rfl, rfl, .inl ⟨_, rfl, _, _, rfl, rfl, (by show (0 : Int) < _; decide), ?_⟩⟩
    generalize hs : (b * 48271 + (c + 1) * 30103) % 2147483629 = sd
    have hs0 : 0 ≤ sd := by rw [← hs]; exact Int.emod_nonneg _ (by decide)
    have hs1 : sd < 2147483629 := by rw [← hs]; exact Int.emod_lt_of_pos _ (by decide)
    refine ⟨_, rfl, _, rfl, _, _, rfl, rfl, ⟨by decide, by decide⟩, .inl ⟨_, rfl, _, _, rfl, rfl, (by show (0 : Int) < _; decide), _, _, rfl, rfl, _, _, rfl, rfl, .inl ⟨by omega, by omega⟩, _, _, rfl, rfl, .inl ⟨_, rfl, _, _, rfl, rfl, (by show (0 : Int) < _; decide), ?_⟩⟩⟩
    refine ⟨_, rfl, p, _, 1, 1, rfl, rfl, hp1, rfl, ?_⟩
    generalize e2 : upd H1 p _ = H2
    have b2 := but_upd e2
    have hp2 := at_of' e2
    refine ⟨_, rfl, p, _, 1, _, rfl, rfl, SqL.of hp2, rfl, _, _, rfl, rfl, ⟨by decide, by decide⟩, .inl ⟨_, rfl, _, rfl, _, _, rfl, rfl, L0, ?_⟩⟩
    exact h H2 _ (But.trans b1 b2) ⟨_, _, _, hp2⟩ (Int.emod_nonneg _ (Int.ne_of_gt L0)) (Int.emod_lt_of_pos _ L0)
def spPick (K : PySem.W.Frag) : Sp := sp2 fun w s H Q _ => ∃ (p a : Addr) (xs : List V), w = .ref p ∧ s = .ref a ∧ (∀ H', But p H H' → SqL K H' a xs ∨ SqT K H' a xs) ∧ 0 < xs.length ∧ xs.length ≤ 1000 ∧ WellAt H p ∧ ∀ H' v, But p H H' → WellAt H' p → v ∈ xs → Q v H'
abbrev N__law_pick : List Str := ["_law_well_here", "_law_some"]
theorem sc__law_pick : FnScope N__law_pick ["_law_well_here", "_law_some"] (defScope s__law_pick) := ⟨rfl, rfl, rfl, by decide +kernel, rfl, by decide +kernel, by decide +kernel⟩
theorem ok_law_pick {P : Program} {w : World} {K : PySem.W.Frag} {mg : Str → Option Value} {base : Heap} (T : TopE K mg) : FnAt P w K mg base CX0 2 (He.ga K "_law_pick") ["_law_well_here", "_law_some"] (spPick K) := by
  refine fnAt0 (k := 1) T.f_law_pick sc__law_pick len2 (fun _ _ _ _ _ _ us hl => match us, hl with | [_, _], _ => rfl) (fun cdv A outer s H vs Q E hr h => ?_)
  have hu := hu_of hr
  obtain ⟨v_law_well_here, v_law_some, rfl, h⟩ := h
  refine ⟨_, (pss_one (ps_ret (pe_ix ix_seq (pv 1) (pe_f (ok_law_take T) (hr.mono (by decide)) T.g_law_take pass0 (pa_cons (pv 0) (pa_cons (pe_callB call_len_seq (by rfl) T.z_len (by decide +kernel) (pa_cons (pv 1) pa_nil)) pa_nil))) (fun _ _ => rfl)))), ?_⟩
  obtain ⟨p, a, xs, rfl, rfl, hs, l0, l1, hw, h⟩ := h
  refine ⟨_, rfl, _, rfl, _, rfl, a, xs, rfl, hs H (But.refl p H), _, _, rfl, p, _, rfl, rfl, by omega, by omega, hw, fun H1 k b1 w1 k0 k1 => ?_⟩
  obtain ⟨j, rfl⟩ : ∃ j : Nat, k = (j : Int) := ⟨k.toNat, by omega⟩
  have hj : j < xs.length := by omega
  have hat : atI xs ((j : Nat) : Int) = some xs[j] := atI_nat (List.getElem?_eq_getElem hj)
  rcases hs H1 b1 with z | z
  · exact .inl ⟨a, xs, _, _, rfl, rfl, z, hat, h H1 _ b1 w1 (List.getElem_mem hj)⟩
  · exact .inr (.inl ⟨a, xs, _, _, rfl, rfl, z, hat, h H1 _ b1 w1 (List.getElem_mem hj)⟩)
def spLawStop : Sp := spStop
abbrev N__law_stop : List Str := ["_law_tail_here", "_law_round_here", "_law_paces"]
theorem sc__law_stop : FnScope N__law_stop ["_law_tail_here", "_law_round_here", "_law_paces"] (defScope s__law_stop) := ⟨rfl, rfl, rfl, by decide +kernel, rfl, by decide +kernel, by decide +kernel⟩
theorem ok_law_stop {P : Program} {w : World} {K : PySem.W.Frag} {mg : Str → Option Value} {base : Heap} (T : TopE K mg) : FnAt P w K mg base CX0 1 (He.ga K "_law_stop") ["_law_tail_here", "_law_round_here", "_law_paces"] spStop := by
  refine fnAt0 (k := 0) T.f_law_stop sc__law_stop len3 (fun _ _ _ _ _ _ us hl => match us, hl with | [_, _, _], _ => rfl) (fun cdv A outer s H vs Q E hr h => ?_)
  have hu := hu_of hr
  obtain ⟨v_law_tail_here, v_law_round_here, v_law_paces, rfl, h⟩ := h
  refine ⟨_, (pss_one (ps_ret (pe_ifExp (pt_cmpR op_lt (pv 2) (pv 0) (nomark _)) (pv 2) (pe_op op_add (pv 0) (pe_op op_mod (pe_callTy call_int1 (by rfl) T.z_int (by decide +kernel) (pa_cons (pe_op op_sub (pv 2) (pv 0)) pa_nil)) (pv 1)))))), ?_⟩
  obtain ⟨a, b, c, rfl, rfl, rfl, hb, h⟩ := h
  refine ⟨_, rfl, _, rfl, _, _, rfl, rfl, _, rfl, iteD (fun l => ⟨_, rfl, ?_⟩) (fun l => ⟨_, rfl, _, rfl, _, rfl, _, _, rfl, rfl, .inl ⟨_, rfl, _, rfl, _, _, rfl, rfl, hb, _, _, rfl, rfl, ?_⟩⟩)⟩
  · have e : stp a b c = c := if_pos l
    rw [e] at h
    exact h
  · have e : stp a b c = a + (c - a) % b := if_neg l
    rw [e] at h
    exact h
def fmL (t r c q g : Int) (n : Nat) : List Int := (List.range n).map fun k => (1 : Int) + (k : Nat)
theorem find_take {α : Type} (p : α → Bool) : ∀ (l : List α) {i : Nat} {x : α}, l[i]? = some x → p x = true → (∀ j y, j < i → l[j]? = some y → p y = false) → l.find? p = some x
  | [], i, x, h, _, _ => by simp at h
  | a :: r, 0, x, h, hp, _ => by
    cases h
    rw [List.find?_cons, hp]
  | a :: r, i + 1, x, h, hp, hn => by
    rw [List.find?_cons, hn 0 a (Nat.succ_pos i) rfl]
    exact find_take p r (by simpa using h) hp fun j y hj hy => hn (j + 1) y (Nat.succ_lt_succ hj) (by simpa using hy)
def spFM : Sp := sp5 fun t r c q g H Q _ => ∃ a b x y z : Int, t = .int a ∧ r = .int b ∧ c = .int x ∧ q = .int y ∧ g = .int z ∧ 0 ≤ a ∧ a ≤ 1000 ∧ 0 < b ∧ b ≤ 1000 ∧ okM x = true ∧ okM y = true ∧ Q (optV (fmm a b x y z)) H
abbrev N__law_first_meeting : List Str := ["_law_tail_here", "_law_round_here", "_law_calm", "_law_quick", "_law_gap", "_law_turn"]
theorem sc__law_first_meeting : FnScope N__law_first_meeting ["_law_tail_here", "_law_round_here", "_law_calm", "_law_quick", "_law_gap"] (defScope s__law_first_meeting) := ⟨rfl, rfl, rfl, by decide +kernel, rfl, by decide +kernel, by decide +kernel⟩
theorem ok_law_first_meeting {P : Program} {w : World} {K : PySem.W.Frag} {mg : Str → Option Value} {base : Heap} (T : TopE K mg) : FnAt P w K mg base CX0 2 (He.ga K "_law_first_meeting") ["_law_tail_here", "_law_round_here", "_law_calm", "_law_quick", "_law_gap"] spFM := by
  refine fnAt0 (k := 1) T.f_law_first_meeting sc__law_first_meeting len5 (fun _ _ _ _ _ _ us hl => match us, hl with | [_, _, _, _, _], _ => rfl) (fun cdv A outer s H vs Q E hr h => ?_)
  have hu := hu_of hr
  obtain ⟨v_law_tail_here, v_law_round_here, v_law_calm, v_law_quick, v_law_gap, rfl, h⟩ := h
  refine ⟨_, (pss_cons (ps_for PassesOwn.never rfl (pi_range2 (by rfl) T.z_range (pa_cons pe_int (pa_cons (pe_op op_add (pe_op op_add (pv 0) (pe_op op_mul pe_int (pv 1))) pe_int) pa_nil))) (pg_name (i := 5) sc__law_first_meeting.nd rfl (Or.inl rfl)) (pss_one (ps_if (pt_cmpR op_eq (pe_f (ok_law_stop T) (hr.mono (by decide)) T.g_law_stop pass0 (pa_cons (pv 0) (pa_cons (pv 1) (pa_cons (pe_op op_mul (pv 2) (pv 5)) pa_nil)))) (pe_f (ok_law_stop T) (hr.mono (by decide)) T.g_law_stop pass0 (pa_cons (pv 0) (pa_cons (pv 1) (pa_cons (pe_op op_add (pv 4) (pe_op op_mul (pv 3) (pv 5))) pa_nil)))) (nomark _)) (pss_one (ps_ret (pv 5))) pss_nil)))
    (pss_one (ps_ret pe_non))), ?_⟩
  obtain ⟨a, b, x, y, z, rfl, rfl, rfl, rfl, rfl, a0, a1, b0, b1, ox, oy, h⟩ := h
  refine ⟨_, rfl, _, rfl, _, _, rfl, rfl, .inl ⟨by decide, by decide⟩, _, _, rfl, rfl, _, _, rfl, rfl, 1, _, rfl, ⟨by decide, by decide, by omega, by omega⟩, ?_⟩
  have en : (a + 2 * b + 3 - 1).toNat = (a + 2 * b + 2).toNat := by omega
  have key : ∀ i : Nat, i < (a + 2 * b + 2).toNat → (((List.range (a + 2 * b + 2).toNat).map fun k => (1 : Int) + (k : Nat)) : List Int)[i]? = some (1 + (i : Int)) := fun i hi => by
    rw [List.getElem?_map, List.getElem?_range hi]
    rfl
  refine for_range (lo := 1) (fun i σ H' => H' = H ∧ (∃ c, σ = [some (.int a), some (.int b), some (.int x), some (.int y), some (.int z), c]) ∧ ∀ j : Nat, j < i → stp a b (x * (1 + j)) ≠ stp a b (z + y * (1 + j))) ⟨rfl, ⟨_, rfl⟩, fun j hj => absurd hj (Nat.not_lt_zero j)⟩ ?_ ?_
  · rintro i σ H' hi ⟨rfl, ⟨c, rfl⟩, hn⟩
    have hi : i < (a + 2 * b + 2).toNat := by
      rw [← en]
      exact hi
    refine ⟨_, rfl, _, rfl, _, rfl, _, rfl, _, _, rfl, rfl, okM_c ox, _, _, _, rfl, a, b, _, rfl, rfl, rfl, b0, ?_⟩
    refine ⟨_, rfl, _, rfl, _, rfl, _, rfl, _, rfl, _, _, rfl, rfl, okM_c oy, _, _, rfl, rfl, _, _, _, rfl, a, b, _, rfl, rfl, rfl, b0, ?_⟩
    refine ⟨rfl, _, rfl, ?_⟩
    rw [dI]
    refine iteD (fun e => ⟨_, rfl, ?_⟩) (fun e => ⟨rfl, ⟨_, rfl⟩, fun j hj => ?_⟩)
    · have e2 : fmm a b x y z = some (1 + (i : Int)) := find_take _ _ (key i hi) (decide_eq_true e) fun j w hj hw => by
        rw [key j (by omega)] at hw
        cases hw
        exact decide_eq_false (hn j hj)
      rw [e2] at h
      exact h
    · by_cases ej : j = i
      · subst ej
        exact e
      · exact hn j (by omega)
  · rintro σ H' ⟨rfl, ⟨c, rfl⟩, hn⟩
    have e2 : fmm a b x y z = none := List.find?_eq_none.mpr fun w hw => by
      obtain ⟨j, hj, e⟩ := List.mem_map.mp hw
      rw [← e, decide_eq_false (hn j (by rw [en]; exact List.mem_range.mp hj))]
      exact Bool.false_ne_true
    rw [e2] at h
    exact h

end K66
end
section
set_option Elab.async false
set_option linter.all false
set_option maxRecDepth 100000
set_option maxHeartbeats 4000000
namespace K66
open PySem PySem.Spec PyProof.Rows L2
local macro_rules | `(tactic| walk_at "rd") => `(tactic| repeat (first | refine ⟨_, rfl, ?_⟩ | refine ⟨_, _, rfl, rfl, ?_⟩ | refine ⟨rfl, ?_⟩))
local macro_rules | `(tactic| walk_at "hp") => `(tactic| (first | assumption | solve_by_elim (maxDepth := 12)))
local macro_rules | `(tactic| walk_at "pl") => `(tactic| ((repeat (refine putF_lt ?_)); exact Nat.le_of_ble_eq_true rfl))
def spGreat : Sp := sp1 fun w H Q _ => ∃ p, w = .ref p ∧ WellAt H p ∧ ∀ H' k, But p H H' → WellAt H' p → 0 ≤ k → k ≤ far → Q (.int k) H'
theorem cpow (e : Int) (h0 : 0 ≤ e) (h1 : e ≤ 1000000) : CPow 10 e := ⟨h0, h1, by decide⟩
abbrev N__law_great_number : List Str := ["_law_well_here", "_law_branch", "_law_found"]
theorem sc__law_great_number : FnScope N__law_great_number ["_law_well_here"] (defScope s__law_great_number) := ⟨rfl, rfl, rfl, by decide +kernel, rfl, by decide +kernel, by decide +kernel⟩
theorem ok_law_great_number {P : Program} {w : World} {K : PySem.W.Frag} {mg : Str → Option Value} {base : Heap} (T : TopE K mg) : FnAt P w K mg base CX0 2 (He.ga K "_law_great_number") ["_law_well_here"] spGreat := by
  refine fnAt0 (k := 1) T.f_law_great_number sc__law_great_number len1 (fun _ _ _ _ _ _ us hl => match us, hl with | [_], _ => rfl) (fun cdv A outer s H vs Q E hr h => ?_)
  have hu := hu_of hr
  obtain ⟨v_law_well_here, rfl, h⟩ := h
  refine ⟨_, (pss_cons (ps_set (i := 1) sc__law_great_number.nd rfl (Or.inl rfl) (pe_f (ok_law_take T) (hr.mono (by decide)) T.g_law_take pass0 (pa_cons (pv 0) (pa_cons pe_int pa_nil))))
    (pss_cons (ps_if (pt_cmpR op_lt (pv 1) pe_int (nomark _)) (pss_one (ps_ret (pe_f (ok_law_take T) (hr.mono (by decide)) T.g_law_take pass0 (pa_cons (pv 0) (pa_cons pe_int pa_nil))))) pss_nil)
    (pss_cons (ps_if (pt_cmpR op_eq (pv 1) pe_int (nomark _)) (pss_one (ps_ret (pe_op op_sub (pe_op op_pow pe_int pe_int) (pe_f (ok_law_take T) (hr.mono (by decide)) T.g_law_take pass0 (pa_cons (pv 0) (pa_cons pe_int pa_nil)))))) pss_nil)
    (pss_cons (ps_set (i := 2) sc__law_great_number.nd rfl (Or.inl rfl) (pe_op op_add (pe_op op_add (pe_op op_mul (pe_f (ok_law_take T) (hr.mono (by decide)) T.g_law_take pass0 (pa_cons (pv 0) (pa_cons (pe_op op_pow pe_int pe_int) pa_nil))) (pe_op op_pow pe_int pe_int)) (pe_op op_mul (pe_f (ok_law_take T) (hr.mono (by decide)) T.g_law_take pass0 (pa_cons (pv 0) (pa_cons (pe_op op_pow pe_int pe_int) pa_nil))) (pe_op op_pow pe_int pe_int))) (pe_f (ok_law_take T) (hr.mono (by decide)) T.g_law_take pass0 (pa_cons (pv 0) (pa_cons (pe_op op_pow pe_int pe_int) pa_nil)))))
    (pss_one (ps_ret (pe_ifExp (pt_cmpR op_lt (pv 1) pe_int (nomark _)) (pv 2) (pe_op op_mod (pe_callTy call_int1 (by rfl) T.z_int (by decide +kernel) (pa_cons (pv 2) pa_nil)) (pe_op op_pow pe_int pe_int))))))))), ?_⟩
  obtain ⟨p, rfl, hw, h⟩ := h
  have hfar : far = 1000000000000000000000000000000 := by decide +kernel
  refine ⟨_, rfl, _, _, rfl, p, _, rfl, rfl, by decide, by decide, hw, fun H1 k b1 w1 k0 k1 => ?_⟩
  refine ⟨_, rfl, _, _, rfl, rfl, _, rfl, iteD (fun c => ?_) (fun c => ?_)⟩
  · exact ⟨_, rfl, _, _, rfl, p, _, rfl, rfl, by decide, by decide, w1, fun H2 j b2 w2 j0 j1 => h H2 j (But.trans b1 b2) w2 j0 (by omega)⟩
  refine ⟨_, rfl, rfl, _, rfl, ?_⟩
  rw [dI]
  refine iteD (fun c2 => ?_) (fun c2 => ?_)
  · refine ⟨_, _, rfl, rfl, cpow _ (by decide) (by decide), _, rfl, _, _, rfl, p, _, rfl, rfl, by decide, by decide, w1, fun H2 j b2 w2 j0 j1 => ?_⟩
    have e : (10 : Int) ^ (30 : Int).toNat = 1000000000000000000000000000000 := by decide +kernel
    refine ⟨_, _, rfl, rfl, h H2 _ (But.trans b1 b2) w2 ?_ ?_⟩
    · rw [e]; omega
    · rw [e]; omega
  have e6 : (10 : Int) ^ (6 : Int).toNat = 1000000 := by decide +kernel
  have e24 : (10 : Int) ^ (24 : Int).toNat = 1000000000000000000000000 := by decide +kernel
  have e12 : (10 : Int) ^ (12 : Int).toNat = 1000000000000 := by decide +kernel
  have e9 : (10 : Int) ^ (9 : Int).toNat = 1000000000 := by decide +kernel
  refine ⟨_, rfl, _, _, rfl, rfl, cpow _ (by decide) (by decide), _, _, rfl, p, _, rfl, rfl, by decide +kernel, by decide +kernel, w1, fun H2 x b2 w2 x0 x1 => ?_⟩
  refine ⟨_, _, rfl, rfl, cpow _ (by decide) (by decide), _, _, rfl, rfl, .inl ⟨by omega, by omega⟩, ?_⟩
  refine ⟨_, rfl, _, _, rfl, rfl, cpow _ (by decide) (by decide), _, _, rfl, p, _, rfl, rfl, by decide +kernel, by decide +kernel, w2, fun H3 y b3 w3 y0 y1 => ?_⟩
  refine ⟨_, _, rfl, rfl, cpow _ (by decide) (by decide), _, _, rfl, rfl, .inl ⟨by omega, by omega⟩, _, _, rfl, rfl, ?_⟩
  refine ⟨_, rfl, _, _, rfl, rfl, cpow _ (by decide) (by decide), _, _, rfl, p, _, rfl, rfl, by decide +kernel, by decide +kernel, w3, fun H4 z b4 w4 z0 z1 => ?_⟩
  have bb := But.trans (But.trans (But.trans b1 b2) b3) b4
  refine ⟨_, _, rfl, rfl, _, rfl, _, _, rfl, rfl, _, rfl, iteD (fun c3 => ⟨_, rfl, h H4 _ bb w4 ?_ ?_⟩) (fun c3 => ⟨_, rfl, .inl ⟨_, rfl, _, _, rfl, rfl, cpow _ (by decide) (by decide), _, _, rfl, rfl, ?_, h H4 _ bb w4 ?_ ?_⟩⟩)⟩
  · rw [e24, e12]; rw [e6] at x1 y1 z1; omega
  · rw [e24, e12]; rw [e6] at x1 y1 z1; omega
  · show (0 : Int) < 10 ^ (9 : Int).toNat
    rw [e9]; decide
  · rw [e9]; omega
  · rw [e9]; omega
def lawD (t r : Int) : Nat → Int → Int → Int → Int → Int → Int
  | 0, _, _, _, _, _ => 0
  | n + 1, k, sp, fl, li, si => if stp t r (sp + 1) = fl then k else if si + 1 = li then lawD t r n (k + 1) (stp t r (sp + 1)) (stp t r (sp + 1)) (2 * li) 0 else lawD t r n (k + 1) (stp t r (sp + 1)) fl li (si + 1)
def tryD (t r : Nat) : Bool := decide (lawD t r 399 1 0 0 1 0 = dl 110 1 t r - 1 + r)
theorem all_D : ((List.range 20).all fun t => (List.range 20).all fun r => decide (r = 0) || tryD t r) = true := by decide +kernel
theorem lawD_ok {t r : Nat} (h1 : t < 20) (h2 : 0 < r) (h3 : r < 20) : lawD t r 399 1 0 0 1 0 = dl 110 1 t r - 1 + r := by
  have h := List.all_eq_true.mp all_D t (List.mem_range.mpr h1)
  have h := List.all_eq_true.mp h r (List.mem_range.mpr h3)
  rw [decide_eq_false (by omega)] at h
  exact of_decide_eq_true h
def spLawD : Sp := sp2 fun t r H Q _ => ∃ a b : Int, t = .int a ∧ r = .int b ∧ 0 < b ∧ ∀ H', Same H H' → Q (.int (lawD a b 399 1 0 0 1 0)) H'
abbrev N__law_doubling : List Str := ["_law_tail_here", "_law_round_here", "_law_spot", "_law_flag", "_law_limit", "_law_since", "_law_paces"]
theorem sc__law_doubling : FnScope N__law_doubling ["_law_tail_here", "_law_round_here"] (defScope s__law_doubling) := ⟨rfl, rfl, rfl, by decide +kernel, rfl, by decide +kernel, by decide +kernel⟩
theorem ok_law_doubling {P : Program} {w : World} {K : PySem.W.Frag} {mg : Str → Option Value} {base : Heap} (T : TopE K mg) : FnAt P w K mg base CX0 2 (He.ga K "_law_doubling") ["_law_tail_here", "_law_round_here"] spLawD := by
  refine fnAt0 (k := 1) T.f_law_doubling sc__law_doubling len2 (fun _ _ _ _ _ _ us hl => match us, hl with | [_, _], _ => rfl) (fun cdv A outer s H vs Q E hr h => ?_)
  have hu := hu_of hr
  obtain ⟨v_law_tail_here, v_law_round_here, rfl, h⟩ := h
  refine ⟨_, (pss_cons (ps_asg (pe_tup (pa_cons pe_int (pa_cons pe_int (pa_cons pe_int (pa_cons pe_int pa_nil))))) (pg_tup (by rfl) (pgs_cons (pg_name (i := 2) sc__law_doubling.nd rfl (Or.inl rfl)) (pgs_cons (pg_name (i := 3) sc__law_doubling.nd rfl (Or.inl rfl)) (pgs_cons (pg_name (i := 4) sc__law_doubling.nd rfl (Or.inl rfl)) (pgs_cons (pg_name (i := 5) sc__law_doubling.nd rfl (Or.inl rfl)) pgs_nil))))))
    (pss_cons (ps_for PassesOwn.never rfl (pi_range2 (by rfl) T.z_range (pa_cons pe_int (pa_cons pe_int pa_nil))) (pg_name (i := 6) sc__law_doubling.nd rfl (Or.inl rfl)) (pss_cons (ps_par (i := 2) (j := 5) rfl sc__law_doubling.nd rfl rfl (by decide) rfl rfl (pa_cons (pe_f (ok_law_stop T) (hr.mono (by decide)) T.g_law_stop pass0 (pa_cons (pv 0) (pa_cons (pv 1) (pa_cons (pe_op op_add (pv 2) pe_int) pa_nil)))) (pa_cons (pe_op op_add (pv 5) pe_int) pa_nil)) (by rfl))
    (pss_cons (ps_if (pt_cmpR op_eq (pv 2) (pv 3) (nomark _)) (pss_one (ps_ret (pv 6))) pss_nil)
    (pss_one (ps_if (pt_cmpR op_eq (pv 5) (pv 4) (nomark _)) (pss_one (ps_par3 (i := 3) (j := 4) (l := 5) rfl sc__law_doubling.nd rfl rfl rfl (by decide) (by decide) (by decide) rfl rfl rfl (pa_cons (pv 2) (pa_cons (pe_op op_mul pe_int (pv 4)) (pa_cons pe_int pa_nil))) (by rfl))) pss_nil)))))
    (pss_one (ps_ret pe_int)))), ?_⟩
  obtain ⟨a, b, rfl, rfl, hb, h⟩ := h
  refine ⟨sz1000 (Nat.le_of_ble_eq_true rfl), fun q nq => ?_⟩
  generalize e_H1 : upd H q _ = H1
  have h_q := at_of' e_H1
  have s1 := same_of e_H1 nq
  refine ⟨q, _, rfl, SqT.of h_q, rfl, _, _, rfl, _, _, rfl, _, _, rfl, _, _, rfl, rfl, ?_⟩
  refine ⟨1, 400, rfl, ⟨by decide, by decide, by decide, by decide⟩, ?_⟩
  refine for_range (lo := 1) (n := 399) (fun i σ H' => H' = H1 ∧ i ≤ 399 ∧ ∃ sp fl li si c, σ = [some (.int a), some (.int b), some (.int sp), some (.int fl), some (.int li), some (.int si), c] ∧ lawD a b (399 - i) (1 + (i : Int)) sp fl li si = lawD a b 399 1 0 0 1 0) ⟨rfl, Nat.zero_le _, _, _, _, _, _, rfl, rfl⟩ ?_ ?_
  · rintro i σ H' hi ⟨rfl, hi2, sp, fl, li, si, c, rfl, hd⟩
    have en : 399 - i = (399 - (i + 1)) + 1 := by omega
    rw [en, lawD] at hd
    refine ⟨_, rfl, _, rfl, _, rfl, _, _, rfl, rfl, _, _, _, rfl, a, b, _, rfl, rfl, rfl, hb, _, rfl, _, _, rfl, rfl, _, _, rfl, ?_⟩
    refine ⟨_, rfl, _, rfl, rfl, _, rfl, ?_⟩
    rw [dI]
    refine iteD (fun e => ?_) (fun e => ?_)
    · rw [if_pos e] at hd
      refine ⟨_, rfl, ?_⟩
      have h := h _ s1
      rw [← hd] at h
      exact h
    rw [if_neg e] at hd
    refine ⟨_, rfl, _, rfl, rfl, _, rfl, ?_⟩
    rw [dI]
    have ei : (1 : Int) + ((i + 1 : Nat) : Int) = 1 + (i : Int) + 1 := by omega
    refine iteD (fun e2 => ?_) (fun e2 => ?_)
    · rw [if_pos e2] at hd
      refine ⟨_, rfl, _, rfl, _, _, rfl, rfl, .inl ⟨by decide, by decide⟩, _, _, _, rfl, rfl, by omega, _, _, _, _, _, rfl, ?_⟩
      rw [ei]
      exact hd
    · rw [if_neg e2] at hd
      refine ⟨rfl, by omega, _, _, _, _, _, rfl, ?_⟩
      rw [ei]
      exact hd
  · rintro σ H' ⟨rfl, _, sp, fl, li, si, c, rfl, hd⟩
    have h := h _ s1
    rw [← hd] at h
    exact h
def spFormula : Sp := sp2 fun t r H Q _ => ∃ a b : Int, t = .int a ∧ r = .int b ∧ a ≤ far ∧ b ≤ far ∧ Q (.int (dl 110 1 a b - 1 + b)) H
abbrev N__law_formula : List Str := ["_law_tail_here", "_law_round_here", "_law_power"]
theorem sc__law_formula : FnScope N__law_formula ["_law_tail_here", "_law_round_here"] (defScope s__law_formula) := ⟨rfl, rfl, rfl, by decide +kernel, rfl, by decide +kernel, by decide +kernel⟩
theorem ok_law_formula {P : Program} {w : World} {K : PySem.W.Frag} {mg : Str → Option Value} {base : Heap} (T : TopE K mg) : FnAt P w K mg base CX0 1 (He.ga K "_law_formula") ["_law_tail_here", "_law_round_here"] spFormula := by
  refine fnAt0 (k := 0) T.f_law_formula sc__law_formula len2 (fun _ _ _ _ _ _ us hl => match us, hl with | [_, _], _ => rfl) (fun cdv A outer s H vs Q E hr h => ?_)
  have hu := hu_of hr
  obtain ⟨v_law_tail_here, v_law_round_here, rfl, h⟩ := h
  refine ⟨_, (pss_cons (ps_set (i := 2) sc__law_formula.nd rfl (Or.inl rfl) pe_int)
    (pss_cons (ps_while PassesOwn.never (PW.pt (pw_or (pt_cmpR op_lt (pe_op op_sub (pv 2) pe_int) (pv 0) (nomark _)) (pw_or1 (pt_cmpR op_lt (pv 2) (pv 1) (nomark _))))) (pss_one (ps_set (i := 2) sc__law_formula.nd rfl (Or.inl rfl) (pe_op op_mul pe_int (pv 2)))))
    (pss_one (ps_ret (pe_op op_add (pe_op op_sub (pv 2) pe_int) (pv 1)))))), ?_⟩
  obtain ⟨a, b, rfl, rfl, la, lb, k⟩ := h
  refine ⟨fun m σ H' => H' = H ∧ ∃ k, m + k = 110 ∧ σ = [some (.int a), some (.int b), some (.int ((2 ^ k : Nat) : Int))] ∧ dl m ((2 ^ k : Nat) : Int) a b = dl 110 1 a b, ⟨110, rfl, 0, rfl, rfl, rfl⟩, ?_⟩
  rintro m σ H' ⟨eH, k', hm, rfl, hd⟩
  have go : ((2 ^ k' : Nat) : Int) - 1 < a ∨ ((2 ^ k' : Nat) : Int) < b → ∃ m', m = m' + 1 ∧ dl m' ((2 ^ (k' + 1) : Nat) : Int) a b = dl 110 1 a b ∧ m' + (k' + 1) = 110 := fun z => by
    have : k' < 100 := Nat.lt_of_not_le fun q => by
      have := pow_big q
      omega
    refine ⟨m - 1, by omega, ?_, by omega⟩
    obtain ⟨m', rfl⟩ : ∃ m', m = m' + 1 := ⟨m - 1, by omega⟩
    rw [← hd, dl, if_pos z]
    have e : ((2 ^ (k' + 1) : Nat) : Int) = 2 * ((2 ^ k' : Nat) : Int) := by
      rw [Nat.pow_succ]
      omega
    rw [e]
    rfl
  have stop : ¬ (((2 ^ k' : Nat) : Int) - 1 < a ∨ ((2 ^ k' : Nat) : Int) < b) → dl 110 1 a b = ((2 ^ k' : Nat) : Int) := fun z => by
    rw [← hd]
    cases m with
    | zero => rfl
    | succ m => rw [dl, if_neg z]
  have body : (((2 ^ k' : Nat) : Int) - 1 < a ∨ ((2 ^ k' : Nat) : Int) < b) → ∃ N : L2.St → Hp → Prop, (∀ σ' H', N σ' H' → ∃ m', m' < m ∧ H' = H ∧ ∃ k, m' + k = 110 ∧ σ' = [some (.int a), some (.int b), some (.int ((2 ^ k : Nat) : Int))] ∧ dl m' ((2 ^ k : Nat) : Int) a b = dl 110 1 a b) ∧
      N [some (.int a), some (.int b), some (.int (2 * ((2 ^ k' : Nat) : Int)))] H' := fun z => by
    obtain ⟨m', rfl, h1, h2⟩ := go z
    refine ⟨fun σ' H' => H' = H ∧ ∃ k, m' + k = 110 ∧ σ' = [some (.int a), some (.int b), some (.int ((2 ^ k : Nat) : Int))] ∧ dl m' ((2 ^ k : Nat) : Int) a b = dl 110 1 a b, fun σ' H' p => ⟨m', Nat.lt_succ_self m', p⟩, eH, k' + 1, h2, ?_, h1⟩
    have e : ((2 ^ (k' + 1) : Nat) : Int) = 2 * ((2 ^ k' : Nat) : Int) := by
      rw [Nat.pow_succ]
      omega
    rw [e]
  have two : ∀ i : Int, CMul 2 i := fun i => .inl ⟨by decide, by decide⟩
  refine ⟨_, rfl, _, _, rfl, rfl, _, rfl, _, _, rfl, rfl, _, rfl, iteD (fun c => ?_) (fun c => ⟨_, rfl, _, rfl, _, _, rfl, rfl, _, rfl, iteD (fun c2 => ?_) (fun c2 => ?_)⟩)⟩
  · obtain ⟨N, h1, h2⟩ := body (.inl c)
    exact ⟨N, h1, _, rfl, _, _, rfl, rfl, two _, h2⟩
  · obtain ⟨N, h1, h2⟩ := body (.inr c2)
    exact ⟨N, h1, _, rfl, _, _, rfl, rfl, two _, h2⟩
  · have e := stop (fun z => z.elim c c2)
    rw [e, ← eH] at k
    exact ⟨_, rfl, _, _, rfl, rfl, _, rfl, _, _, rfl, rfl, k⟩
/-- the place of the end on its way, or -1 -/
def tlI (cl : List (Int × Int)) (z : Int) : Int := if (trk cl z).2 ∈ (trk cl z).1 then (((trk cl z).1.idxOf (trk cl z).2 : Nat) : Int) else -1
theorem inV_ints (i : Int) : ∀ acc : List Int, inV (.int i) (acc.map V.int) = decide (i ∈ acc)
  | [] => rfl
  | a :: r => by
    have ih := inV_ints i r
    unfold inV at ih ⊢
    rw [List.map_cons, List.any_cons, ih]
    have e : eqV (V.int a) (V.int i) = decide (i = a) := by
      show (a == i) = decide (i = a)
      by_cases h : i = a
      · subst h; simp
      · rw [decide_eq_false h]; exact beq_eq_false_iff_ne.mpr (fun z => h z.symm)
    rw [e]
    by_cases h : i = a
    · subst h; simp
    · simp [h]
def MineAt (H : Hp) (m hd ld : Addr) (x y : Int) (ul : List (Int × Int)) : Prop := H m = some (.lst [.ref hd, .ref ld]) ∧ H hd = some (.dK (nmD x y)) ∧ H ld = some (.dK (clD ul))
theorem MineAt.same {H H' : Hp} {m hd ld : Addr} {x y : Int} {ul : List (Int × Int)} (s : Same H H') (h : MineAt H m hd ld x y ul) : MineAt H' m hd ld x y ul := ⟨s _ _ h.1, s _ _ h.2.1, s _ _ h.2.2⟩
theorem idxOf_get {l : List Int} {x : Int} (h : x ∈ l) : l[l.idxOf x]? = some x := by
  have hl := List.idxOf_lt_length_iff.mpr h
  rw [List.getElem?_eq_getElem hl, List.getElem_idxOf hl]
theorem idxOf_no {l : List Int} {x : Int} : ∀ (m : Nat), m < l.idxOf x → ∀ y, l[m]? = some y → (y == x) = false := fun m hm y hy => by
  obtain ⟨hl, rfl⟩ := List.getElem?_eq_some_iff.mp hy
  simpa using List.not_of_lt_findIdx (p := (· == x)) (xs := l) hm
def spTrack : Sp := sp2 fun mn sg H Q _ => ∃ m hd ld x y ul, mn = .ref m ∧ sg = .str "x" ∧ MineAt H m hd ld x y ul ∧ ul.length ≤ 100 ∧ ∀ H' q r, Same H H' → H r = none → H' q = some (.lst [.ref r, .int (tlI ul x)]) → H' r = some (.lst ((trk ul x).1.map V.int)) → Q (.ref q) H'
def TInv (H : Hp) (m R : Addr) (cl : List (Int × Int)) (z : Int) (mu : Nat) (σ : L2.St) (H' : Hp) : Prop :=
  ∃ acc i, σ = [some (.ref m), some (.str "x"), some (.int i), some (.ref R)] ∧ Same H H' ∧ H' R = some (.lst (acc.map V.int)) ∧ Pass cl acc ∧ mu + acc.length = cl.length + 1 ∧ wk cl mu acc i = trk cl z
abbrev N__law_track : List Str := ["_law_mine", "_law_sign", "_law_spot", "_law_row"]
theorem sc__law_track : FnScope N__law_track ["_law_mine", "_law_sign"] (defScope s__law_track) := ⟨rfl, rfl, rfl, by decide +kernel, rfl, by decide +kernel, by decide +kernel⟩
theorem ok_law_track {P : Program} {w : World} {K : PySem.W.Frag} {mg : Str → Option Value} {base : Heap} (T : TopE K mg) : FnAt P w K mg base CX0 1 (He.ga K "_law_track") ["_law_mine", "_law_sign"] spTrack := by
  refine fnAt0 (k := 0) T.f_law_track sc__law_track len2 (fun _ _ _ _ _ _ us hl => match us, hl with | [_, _], _ => rfl) (fun cdv A outer s H vs Q E hr h => ?_)
  have hu := hu_of hr
  obtain ⟨v_law_mine, v_law_sign, rfl, h⟩ := h
  refine ⟨_, (pss_cons (ps_par (i := 2) (j := 3) rfl sc__law_track.nd rfl rfl (by decide) rfl rfl (pa_cons (pe_dget hu (pe_ix ix_list (pv 0) pe_int (fun _ _ => rfl)) (pv 1) (fun _ _ => rfl)) (pa_cons (pe_lst pa_nil) pa_nil)) (by rfl))
    (pss_cons (ps_while PassesOwn.never (PW.pt (pw_and (pt_cmp (pc_din hu (pv 2) (pe_ix ix_list (pv 0) pe_int (fun _ _ => rfl)))) (pw_and1 (pt_cmpR op_notIn_seq (pv 2) (pv 3) rfl)))) (pss_cons (ps_expr (pe_bm PySem.F.plainAttrs_list PySem.F.slot_list_append PySem.F.type_list_append mt_append (pv 3) (pa_cons (pv 2) pa_nil)))
    (pss_one (ps_set (i := 2) sc__law_track.nd rfl (Or.inl rfl) (pe_dget hu (pe_ix ix_list (pv 0) pe_int (fun _ _ => rfl)) (pv 2) (fun _ _ => rfl))))))
    (pss_one (ps_ret (pe_lst (pa_cons (pv 3) (pa_cons (pe_ifExp (pt_cmpR op_in_seq (pv 2) (pv 3) rfl) (pe_bm PySem.F.plainAttrs_list PySem.F.slot_list_index PySem.F.type_list_index mt_index (pv 3) (pa_cons (pv 2) pa_nil)) (pe_un un_neg pe_int)) pa_nil))))))), ?_⟩
  obtain ⟨m, hd, ld, x, y, ul, rfl, rfl, hm, few, h⟩ := h
  refine ⟨_, rfl, m, _, 0, _, rfl, rfl, SqL.of hm.1, rfl, _, rfl, hd, .int x, rfl, DGet.k (k := Sum.inr "x") hm.2.1, sz1000 (Nat.le_of_ble_eq_true rfl), fun R nR => ?_⟩
  generalize e1 : upd H R _ = H1
  have s1 := same_of e1 nR
  have hR1 : H1 R = some (.lst []) := at_of' e1
  refine ⟨_, _, rfl, ?_⟩
  refine ⟨TInv H m R ul x, ⟨_, [], x, rfl, s1, hR1, ⟨List.nodup_nil, fun x hx => by cases hx⟩, rfl, rfl⟩, ?_⟩
  rintro mu σ H' ⟨acc, i, rfl, sm, hR, ps, hmu, hw⟩
  have hm' := hm.same sm
  have hal := ps.le
  have fin : ∀ q H3, wk ul mu acc i = (acc, i) → H' q = none → upd H' q (.lst [.ref R, .int (if i ∈ acc then ((acc.idxOf i : Nat) : Int) else -1)]) = H3 → Q (.ref q) H3 := fun q H3 e nq e3 => by
    have e2 : trk ul x = (acc, i) := hw.symm.trans e
    have s3 := same_of e3 nq
    refine h H3 q R (Same.trans sm s3) nR ?_ ?_
    · rw [at_of' e3]
      unfold tlI
      rw [e2]
    · rw [e2]
      exact s3 _ _ hR
  refine ⟨_, rfl, _, rfl, m, _, 1, _, rfl, rfl, SqL.of hm'.1, rfl, ld, _, rfl, DGet.k (k := Sum.inl i) hm'.2.2, _, rfl, ?_⟩
  rw [nxt_valV]
  cases hj : nxt ul i with
  | none =>
    refine iteF ⟨_, rfl, _, rfl, _, rfl, R, _, rfl, .inl (SqL.of hR), rfl, flat_ints acc, _, rfl, ?_⟩
    rw [inV_ints]
    have fin1 := fun q H3 => fin q H3 (wk_stop1 hj)
    by_cases hi : i ∈ acc
    · rw [if_pos hi] at fin1
      refine iteE (decide_eq_true hi) ⟨_, rfl, .inl ⟨rfl, _, SqL.of hR⟩, _, rfl, R, _, _, acc.idxOf i, .int i, rfl, rfl, SqL.of hR, rfl, flat_ints acc, ?_, by show (i == i) = true; exact beq_self_eq_true i, fun mm z' hmm hz => ?_, sz1000 (Nat.le_of_ble_eq_true rfl), fun q nq => fin1 q _ nq rfl⟩
      · rw [List.getElem?_map, idxOf_get hi]; rfl
      · rw [List.getElem?_map] at hz
        obtain ⟨u, hu, rfl⟩ := Option.map_eq_some_iff.mp hz
        exact idxOf_no mm hmm u hu
    · rw [if_neg hi] at fin1
      exact iteO (decide_eq_false hi) ⟨_, rfl, sz1000 (Nat.le_of_ble_eq_true rfl), fun q nq => fin1 q _ nq rfl⟩
  | some j =>
    refine iteT ⟨_, rfl, _, rfl, R, _, rfl, .inl (SqL.of hR), rfl, flat_ints acc, _, rfl, ?_⟩
    rw [inV_ints]
    by_cases hi : i ∈ acc
    · have fin1 := fun q H3 => fin q H3 (wk_stop2 hi)
      rw [if_pos hi] at fin1
      refine iteO (by rw [if_pos rfl, decide_eq_true hi]; rfl) ⟨_, rfl, _, rfl, _, rfl, R, _, rfl, .inl (SqL.of hR), rfl, flat_ints acc, _, rfl, ?_⟩
      rw [inV_ints]
      refine iteE (decide_eq_true hi) ⟨_, rfl, .inl ⟨rfl, _, SqL.of hR⟩, _, rfl, R, _, _, acc.idxOf i, .int i, rfl, rfl, SqL.of hR, rfl, flat_ints acc, ?_, by show (i == i) = true; exact beq_self_eq_true i, fun mm z' hmm hz => ?_, sz1000 (Nat.le_of_ble_eq_true rfl), fun q nq => fin1 q _ nq rfl⟩
      · rw [List.getElem?_map, idxOf_get hi]; rfl
      · rw [List.getElem?_map] at hz
        obtain ⟨u, hu, rfl⟩ := Option.map_eq_some_iff.mp hz
        exact idxOf_no mm hmm u hu
    · have pa := ps.add hj hi
      have hl := pa.le
      rw [List.length_append, List.length_singleton] at hl
      obtain ⟨mu, rfl⟩ : ∃ m', mu = m' + 1 := ⟨mu - 1, by omega⟩
      refine iteE (by rw [if_pos rfl, decide_eq_false hi]; rfl) ⟨TInv H m R ul x mu, fun σ' H' w => ⟨mu, Nat.lt_succ_self mu, w⟩, ?_⟩
      refine ⟨_, rfl, .inl ⟨rfl, _, SqL.of hR⟩, _, rfl, R, _, _, rfl, rfl, hR, by rw [List.length_map]; exact szn (by omega), ?_⟩
      generalize e3 : upd H' R _ = H3
      have b3 := but_upd e3
      have sm3 := same_but sm b3 nR
      have hm3 := hm.same sm3
      refine ⟨_, rfl, m, _, 1, _, rfl, rfl, SqL.of hm3.1, rfl, _, rfl, ld, .int j, rfl, ?_, acc ++ [i], j, rfl, sm3, ?_, pa, by simp; omega, ?_⟩
      · have q := DGet.k (k := Sum.inl i) hm3.2.2
        rw [nxt_valV, hj] at q
        exact q
      · rw [List.map_append]
        exact at_of' e3
      · rw [← hw, wk_go hj hi]

end K66
end
section
set_option Elab.async false
set_option linter.all false
set_option maxRecDepth 100000
set_option maxHeartbeats 4000000
namespace K66
open PySem PySem.Spec PyProof.Rows L2
local macro_rules | `(tactic| walk_at "rd") => `(tactic| repeat (first | refine ⟨_, rfl, ?_⟩ | refine ⟨_, _, rfl, rfl, ?_⟩ | refine ⟨rfl, ?_⟩))
local macro_rules | `(tactic| walk_at "hp") => `(tactic| (first | assumption | solve_by_elim (maxDepth := 12)))
local macro_rules | `(tactic| walk_at "pl") => `(tactic| ((repeat (refine putF_lt ?_)); exact Nat.le_of_ble_eq_true rfl))
/-! ## what the law draws -/
def pl (f : Int) (k : Nat) : Int := if f < 4 then (0 : Int) + (k : Int) + 1 else 11 * ((0 : Int) + (k : Int)) + 7 * f + 400
def PL (f : Int) (n : Nat) : List Int := (List.range n).map (pl f)
theorem PL_ok {f : Int} {n : Nat} (h0 : 0 ≤ f) (h1 : f < 6) (hn : n ≤ 9) : ∀ x ∈ PL f n, 0 < x ∧ x ≤ 999 := fun x hx => by
  obtain ⟨k, hk, rfl⟩ := List.mem_map.mp hx
  rw [List.mem_range] at hk
  unfold pl
  split <;> omega
theorem PL_nodup {f : Int} {n : Nat} : (PL f n).Nodup := by
  unfold PL
  rw [List.Nodup, List.pairwise_map]
  refine List.Pairwise.imp ?_ (List.nodup_range (n := n))
  intro a b hab
  unfold pl
  split <;> omega
theorem erase_map {α β : Type} (f : α → β) : ∀ (l : List α) (j : Nat), (l.map f).eraseIdx j = (l.eraseIdx j).map f
  | [], _ => rfl
  | _ :: _, 0 => rfl
  | a :: l, j + 1 => by
    show f a :: (l.map f).eraseIdx j = f a :: (l.eraseIdx j).map f
    rw [erase_map f l j]
theorem erase_perm {α : Type} : ∀ (l : List α) (j : Nat) (h : j < l.length), (l[j] :: l.eraseIdx j).Perm l
  | a :: l, 0, _ => List.Perm.refl _
  | a :: l, j + 1, h => by
    have h' : j < l.length := by simpa using h
    show (l[j] :: a :: l.eraseIdx j).Perm (a :: l)
    exact (List.Perm.swap _ _ _).trans ((erase_perm l j h').cons a)
structure GoodU (ul : List (Int × Int)) : Prop where
  nd : (ul.map (·.1)).Nodup
  ok : ∀ c ∈ ul, 0 < c.1 ∧ c.1 ≤ 999 ∧ okP c.2
  few : ul.length ≤ 7
theorem ixN_nat {n j : Nat} (h : j < n) : ixN n ((j : Nat) : Int) = some j := by
  unfold ixN
  rw [if_pos (by omega), if_pos (by omega)]
  rfl
def spDrawn : Sp := sp3 fun w sg l H Q _ => ∃ p, w = .ref p ∧ sg = .str "xy" ∧ l = .int 7 ∧ WellAt H p ∧
  ∀ H' m hd ld kx ky ul, But p H H' → WellAt H' p → MineAt H' m hd ld kx ky ul → H m = none → GoodU ul → okP kx → okP ky → Q (.ref m) H'
abbrev N__law_drawn : List Str := ["_law_well_here", "_law_signs", "_law_limit", "_law_often", "_law_far", "_law_k", "_law_pool", "_law_spots", "_law_homes", "_law_links", "_law_turn", "_law_near", "_law_sign"]
theorem sc__law_drawn : FnScope N__law_drawn ["_law_well_here", "_law_signs", "_law_limit"] (defScope s__law_drawn) := ⟨rfl, rfl, rfl, by decide +kernel, rfl, by decide +kernel, by decide +kernel⟩
theorem ok_law_drawn {P : Program} {w : World} {K : PySem.W.Frag} {mg : Str → Option Value} {base : Heap} (T : TopE K mg) : FnAt P w K mg base CX0 3 (He.ga K "_law_drawn") ["_law_well_here", "_law_signs", "_law_limit"] spDrawn := by
  refine fnAt0 (k := 2) T.f_law_drawn sc__law_drawn len3 (fun _ _ _ _ _ _ us hl => match us, hl with | [_, _, _], _ => rfl) (fun cdv A outer s H vs Q E hr h => ?_)
  have hu := hu_of hr
  obtain ⟨v_law_well_here, v_law_signs, v_law_limit, rfl, h⟩ := h
  refine ⟨_, (pss_cons (ps_asg (pe_tup (pa_cons (pe_f (ok_law_take T) (hr.mono (by decide)) T.g_law_take pass0 (pa_cons (pv 0) (pa_cons (pe_op op_add (pv 2) pe_int) pa_nil))) (pa_cons (pe_f (ok_law_take T) (hr.mono (by decide)) T.g_law_take pass0 (pa_cons (pv 0) (pa_cons pe_int pa_nil))) pa_nil))) (pg_tup (by rfl) (pgs_cons (pg_name (i := 3) sc__law_drawn.nd rfl (Or.inl rfl)) (pgs_cons (pg_name (i := 4) sc__law_drawn.nd rfl (Or.inr rfl)) pgs_nil))))
    (pss_cons (by (apply ps_setLcX (s0 := s) (i := 6) (own := [("_law_k", 5)])); exact rfl; exact sc__law_drawn.nd; exact rfl; exact rfl; exact (sw_true rfl rfl rfl (by decide +kernel)); exact (pi_range1 (by rfl) T.z_range (pa_cons (pe_op op_add (pv 3) pe_int) pa_nil)); exact (blkOk_by (N := N__law_drawn) (sc := defScope s__law_drawn) (by decide +kernel)); (intro _ _ _ _ _; exact (pg_name (i := 5) sc__law_drawn.nd rfl (Or.inl rfl))); (intro _ _ _ _ _; exact pts_nil); (intro _ _ _ _ _; exact (pe_ifExp (pt_cmpR op_lt (pv 4) pe_int (nomark _)) (pe_op op_add (pv 5) pe_int) (pe_op op_add (pe_op op_add (pe_op op_mul pe_int (pv 5)) (pe_op op_mul pe_int (pv 4))) pe_int))); exact (fun _ => rfl); exact (fun _ _ _ _ _ => rfl); exact (fun _ _ _ _ _ => rfl); exact (fun _ _ _ _ _ => rfl))
    (pss_cons (ps_par3 (i := 7) (j := 8) (l := 9) rfl sc__law_drawn.nd rfl rfl rfl (by decide) (by decide) (by decide) rfl rfl rfl (pa_cons (pe_lst pa_nil) (pa_cons pe_dnewK (pa_cons pe_dnewK pa_nil))) (by rfl))
    (pss_cons (ps_for PassesOwn.never rfl (pi_range1 (by rfl) T.z_range (pa_cons (pv 3) pa_nil)) (pg_name (i := 10) sc__law_drawn.nd rfl (Or.inl rfl)) (pss_one (ps_expr (pe_bm PySem.F.plainAttrs_list PySem.F.slot_list_append PySem.F.type_list_append mt_append (pv 7) (pa_cons (pe_bm PySem.F.plainAttrs_list PySem.F.slot_list_pop PySem.F.type_list_pop mt_popAt (pv 6) (pa_cons (pe_f (ok_law_take T) (hr.mono (by decide)) T.g_law_take pass0 (pa_cons (pv 0) (pa_cons (pe_callB call_len_seq (by rfl) T.z_len (by decide +kernel) (pa_cons (pv 6) pa_nil)) pa_nil))) pa_nil)) pa_nil)))))
    (pss_cons (ps_for PassesOwn.never rfl (pi_range1 (by rfl) T.z_range (pa_cons (pv 3) pa_nil)) (pg_name (i := 5) sc__law_drawn.nd rfl (Or.inl rfl)) (pss_cons (ps_set (i := 11) sc__law_drawn.nd rfl (Or.inl rfl) (pe_ifExp (pt_cmpR op_lt (pe_op op_add (pv 5) pe_int) (pv 3) (nomark _)) (pe_ix ix_list (pv 7) (pe_op op_add (pv 5) pe_int) (fun _ _ => rfl)) pe_int))
    (pss_one (ps_dput hu (pv 9) (pe_ix ix_list (pv 7) (pv 5) (fun _ _ => rfl)) (pe_ifExp (pt_cmpR op_gt (pe_f (ok_law_take T) (hr.mono (by decide)) T.g_law_take pass0 (pa_cons (pv 0) (pa_cons pe_int pa_nil))) pe_int (nomark _)) (pv 11) (pe_f (ok_law_pick T) (hr.mono (by decide)) T.g_law_pick pass0 (pa_cons (pv 0) (pa_cons (pe_op op_cat (pv 7) (pe_lst (pa_cons pe_int (pa_cons pe_int (pa_cons (pe_ix ix_list (pv 6) pe_int (fun _ _ => rfl)) (pa_cons (pe_ix ix_list (pv 6) pe_int (fun _ _ => rfl)) pa_nil)))))) pa_nil)))) rfl))))
    (pss_cons (ps_for PassesOwn.never rfl (pi_str (pv 1)) (pg_name (i := 12) sc__law_drawn.nd rfl (Or.inl rfl)) (pss_one (ps_dput hu (pv 8) (pv 12) (pe_f (ok_law_pick T) (hr.mono (by decide)) T.g_law_pick pass0 (pa_cons (pv 0) (pa_cons (pe_op op_cat (pe_op op_cat (pv 7) (pv 7)) (pe_lst (pa_cons pe_int (pa_cons (pe_ix ix_list (pv 6) pe_int (fun _ _ => rfl)) (pa_cons (pe_ix ix_list (pv 6) pe_int (fun _ _ => rfl)) pa_nil))))) pa_nil))) rfl)))
    (pss_one (ps_ret (pe_lst (pa_cons (pv 8) (pa_cons (pv 9) pa_nil))))))))))), ?_⟩
  obtain ⟨p, rfl, rfl, rfl, hw, h⟩ := h
  obtain ⟨wa, wb, wc, hwp⟩ := id hw
  refine ⟨_, rfl, _, rfl, _, _, rfl, rfl, _, _, rfl, p, _, rfl, rfl, by decide, by decide, hw, fun H1 nI b1 w1 n0 n1 => ?_⟩
  obtain ⟨n, rfl⟩ : ∃ n : Nat, nI = (n : Int) := ⟨nI.toNat, by omega⟩
  have hn : n < 8 := by omega
  refine ⟨_, rfl, _, _, rfl, p, _, rfl, rfl, by decide, by decide, w1, fun H2 f b2 w2 f0 f1 => ⟨sz1000 (Nat.le_of_ble_eq_true rfl), fun t nt => ?_⟩⟩
  generalize e3 : upd H2 t _ = H3
  have s3 := same_of e3 nt
  have bt3 : But p H H3 := (But.trans b1 b2).sm s3
  refine ⟨t, _, rfl, SqT.of (at_of' e3), rfl, _, _, rfl, _, _, rfl, rfl, ?_⟩
  have w3 := w2.same s3
  -- the pool
  refine ⟨_, rfl, _, _, rfl, rfl, _, rfl, ⟨by omega, by omega, ?_⟩⟩
  have en : (((n : Nat) : Int) + 2).toNat = n + 2 := by omega
  rw [en]
  intro P nP
  refine lc_range (lo := 0) (n := n + 2) (LcF H3 P fun i => (PL f i).map V.int) (lcF0 nP rfl) ?_ ?_
  · intro i H4 hi q
    have step : (PL f (i + 1)).map V.int = (PL f i).map V.int ++ [V.int (pl f i)] := by
      unfold PL
      rw [List.range_succ, List.map_append, List.map_append]
      rfl
    have hl : ((PL f i).map V.int).length < sizeLine := by
      unfold PL
      rw [List.length_map, List.length_map, List.length_range]
      exact szn (by omega)
    refine ⟨rfl, _, rfl, _, _, rfl, rfl, _, rfl, iteD (fun c => ⟨_, rfl, _, _, rfl, rfl, ?_⟩) (fun c => ⟨_, rfl, _, _, rfl, rfl, .inl ⟨by decide, by decide⟩, _, rfl, _, _, rfl, rfl, .inl ⟨by decide, by decide⟩, _, _, rfl, rfl, _, _, rfl, rfl, ?_⟩)⟩
    · have e : pl f i = (0 : Int) + (i : Int) + 1 := if_pos c
      rw [e] at step
      exact lcFS nP q hl (Same.refl _) step
    · have e : pl f i = 11 * ((0 : Int) + (i : Int)) + 7 * f + 400 := if_neg c
      rw [e] at step
      exact lcFS nP q hl (Same.refl _) step
  intro H4 q4
  have hP4 : H4 P = some (.lst ((PL f (n + 2)).map V.int)) := q4.2
  have bt4 : But p H H4 := bt3.sm q4.1
  have w4 := w3.same q4.1
  have hp4 : ∃ o, H4 p = some o := let ⟨_, _, _, e⟩ := w4; ⟨_, e⟩
  have fresh : ∀ {a : Addr} {H' : Hp}, But p H H' → WellAt H' p → H' a = none → H a = none := fun b w na => by
    obtain ⟨_, _, _, e⟩ := w
    exact none_but b na e
  have nP0 : H P = none := fresh bt3 w3 nP
  refine ⟨sz1000 (Nat.le_of_ble_eq_true rfl), fun S nS => ?_⟩
  generalize e5 : upd H4 S _ = H5
  have s5 := same_of e5 nS
  intro M nM
  generalize e6 : upd H5 M _ = H6
  have s6 := same_of e6 nM
  intro K' nK
  generalize e7 : upd H6 K' _ = H7
  have s7 := same_of e7 nK
  have s45 := s5
  have s47 := Same.trans (Same.trans s5 s6) s7
  have bt7 : But p H H7 := bt4.sm s47
  have w7 := w4.same s47
  have nS0 : H S = none := fresh bt4 w4 nS
  have nM0 : H M = none := fresh (bt4.sm s5) (w4.same s5) nM
  have nK0 : H K' = none := fresh (bt4.sm (Same.trans s5 s6)) (w4.same (Same.trans s5 s6)) nK
  have hS7 : H7 S = some (.lst []) := s7 _ _ (s6 _ _ (at_of' e5))
  have hM7 : H7 M = some (.dK []) := s7 _ _ (at_of' e6)
  have hK7 : H7 K' = some (.dK []) := at_of' e7
  have hP7 := s47 _ _ hP4
  have PS : P ≠ S := fun e => by subst e; rw [hP4] at nS; cases nS
  have MK : M ≠ K' := fun e => by subst e; rw [at_of' e6] at nK; cases nK
  have pf : ∀ {a : Addr}, H a = none → a ≠ p := fun z e => by subst e; rw [hwp] at z; cases z
  have Pp := pf nP0
  have Sp := pf nS0
  have Mp := pf nM0
  have Kp' := pf nK0
  refine ⟨_, _, _, rfl, ?_⟩
  -- the spots
  refine ⟨_, rfl, _, rfl, ⟨by omega, by omega, ?_⟩⟩
  have en2 : (((n : Nat) : Int)).toNat = n := by omega
  rw [en2]
  refine for_range (lo := 0) (n := n) (fun i σ H' => (∃ k c d g, σ = [some (.ref p), some (.str "xy"), some (.int 7), some (.int (n : Nat)), some (.int f), k, some (.ref P), some (.ref S), some (.ref M), some (.ref K'), c, d, g]) ∧ But p H H' ∧ WellAt H' p ∧
      H' M = some (.dK []) ∧ H' K' = some (.dK []) ∧ ∃ po sp : List Int, H' P = some (.lst (po.map V.int)) ∧ H' S = some (.lst (sp.map V.int)) ∧ sp.length = i ∧ (sp ++ po).Perm (PL f (n + 2)))
    ⟨⟨_, _, _, _, rfl⟩, bt7, w7, hM7, hK7, _, [], hP7, hS7, rfl, List.Perm.refl _⟩ ?_ ?_
  · rintro i σ H' hi ⟨⟨k, c, d, g, rfl⟩, bt, hw, hM, hK, po, sp, hP, hS, hl, hperm⟩
    have htl : sp.length + po.length = n + 2 := by
      have e := hperm.length_eq
      unfold PL at e
      rw [List.length_append, List.length_map, List.length_range] at e
      exact e
    refine ⟨_, rfl, .inl ⟨rfl, _, SqL.of hS⟩, _, rfl, .inl ⟨rfl, _, SqL.of hP⟩, _, rfl, _, rfl, P, _, rfl, .inl (SqL.of hP), _, _, rfl, p, _, rfl, rfl, by rw [List.length_map]; omega, by rw [List.length_map]; omega, hw, fun H8 kI b8 w8 k0 k1 => ?_⟩
    rw [List.length_map] at k1
    obtain ⟨j, rfl⟩ : ∃ j : Nat, kI = (j : Int) := ⟨kI.toNat, by omega⟩
    have hj : j < po.length := by omega
    have hP8 := b8 P _ Pp hP
    have hS8 := b8 S _ Sp hS
    refine ⟨P, _, _, j, .int po[j], rfl, rfl, hP8, by omega, by omega, (ixN_seq (ixN_nat (by rw [List.length_map]; exact hj))).1, by rw [List.getElem?_map, List.getElem?_eq_getElem hj]; rfl, ?_⟩
    generalize e9 : upd H8 P _ = H9
    have b9 := but_upd e9
    have hS9 := b9 S _ (Ne.symm PS) hS8
    refine ⟨S, _, _, rfl, rfl, hS9, by rw [List.length_map]; exact szn (by omega), ?_⟩
    generalize e10 : upd H9 S _ = H10
    have b10 := but_upd e10
    have bt10 : But p H H10 := ((But.trans bt b8).new b9 nP0).new b10 nS0
    have keep : ∀ {a : Addr} {u : HO}, a ≠ p → a ≠ P → a ≠ S → H' a = some u → H10 a = some u := fun x y z e => b10 _ _ z (b9 _ _ y (b8 _ _ x e))
    have lP : ∀ {a : Addr} {u : List (Key × V)}, H' a = some (.dK u) → a ≠ P ∧ a ≠ S := fun e => ⟨Ne.symm (lst_ne_dict hP e), Ne.symm (lst_ne_dict hS e)⟩
    refine ⟨⟨_, _, _, _, rfl⟩, bt10, ?_, keep Mp (lP hM).1 (lP hM).2 hM, keep Kp' (lP hK).1 (lP hK).2 hK, po.eraseIdx j, sp ++ [po[j]], ?_, ?_, by rw [List.length_append, hl]; rfl, ?_⟩
    · obtain ⟨x, y, z, e⟩ := w8
      exact ⟨x, y, z, b10 _ _ (Ne.symm Sp) (b9 _ _ (Ne.symm Pp) e)⟩
    · rw [b10 _ _ PS (at_of' e9), erase_map]
    · rw [at_of' e10, List.map_append]
      rfl
    · rw [List.append_assoc]
      exact (List.Perm.append_left sp (erase_perm po j hj)).trans hperm
  rintro σ H' ⟨⟨k, c, d, g, rfl⟩, bt, hw, hM, hK, po, sp, hP, hS, hl, hperm⟩
  have hpl : po.length = 2 := by
    have e := hperm.length_eq
    unfold PL at e
    rw [List.length_append, List.length_map, List.length_range] at e
    omega
  have hnd : (sp ++ po).Nodup := hperm.nodup_iff.mpr PL_nodup
  have hok : ∀ x ∈ sp ++ po, 0 < x ∧ x ≤ 999 := fun x hx => PL_ok f0 f1 (by omega) x (hperm.mem_iff.mp hx)
  obtain ⟨a0, a1, rfl⟩ : ∃ a0 a1, po = [a0, a1] := by
    match po, hpl with
    | [a0, a1], _ => exact ⟨a0, a1, rfl⟩
  have spok : ∀ x ∈ sp, okP x := fun x hx => let ⟨a, b⟩ := hok x (List.mem_append_left _ hx); ⟨Int.le_of_lt a, b⟩
  have aok0 : okP a0 := let ⟨a, b⟩ := hok a0 (by simp); ⟨Int.le_of_lt a, b⟩
  have aok1 : okP a1 := let ⟨a, b⟩ := hok a1 (by simp); ⟨Int.le_of_lt a, b⟩
  have zok : okP 0 := ⟨by decide, by decide⟩
  have spn : sp.Nodup := (List.nodup_append.mp hnd).1
  clear hperm hnd hpl
  -- the links
  refine ⟨_, rfl, _, rfl, ⟨by omega, by omega, ?_⟩⟩
  rw [en2]
  refine for_range (lo := 0) (n := n) (fun i σ H' => (∃ k c d g, σ = [some (.ref p), some (.str "xy"), some (.int 7), some (.int (n : Nat)), some (.int f), k, some (.ref P), some (.ref S), some (.ref M), some (.ref K'), c, d, g]) ∧ But p H H' ∧ WellAt H' p ∧
      H' M = some (.dK []) ∧ H' P = some (.lst [.int a0, .int a1]) ∧ H' S = some (.lst (sp.map V.int)) ∧ ∃ ul : List (Int × Int), H' K' = some (.dK (clD ul)) ∧ ul.map (·.1) = sp.take i ∧ ∀ c ∈ ul, okP c.2)
    ⟨⟨_, _, _, _, rfl⟩, bt, hw, hM, hP, hS, [], hK, rfl, fun c hc => by cases hc⟩ ?_ ?_
  · clear bt hw hM hK hP hS
    rintro i σ H' hi ⟨⟨k, c, d, g, rfl⟩, bt, hw, hM, hP, hS, ul, hK, hul, huo⟩
    have hsi : i < sp.length := by omega
    have fin : ∀ (v : Int) (H9 H10 : Hp), okP v → But p H' H9 → WellAt H9 p → upd H9 K' (.dK (putK (clD ul) (Sum.inl sp[i]) (.int v))) = H10 → But p H H10 ∧ WellAt H10 p ∧ H10 M = some (.dK []) ∧ H10 P = some (.lst [.int a0, .int a1]) ∧ H10 S = some (.lst (sp.map V.int)) ∧
        ∃ ul : List (Int × Int), H10 K' = some (.dK (clD ul)) ∧ ul.map (·.1) = sp.take (i + 1) ∧ ∀ c ∈ ul, okP c.2 := fun v H9 H10 ov b9 w9 e10 => by
      have hK9 := b9 _ _ Kp' hK
      have b10 := but_upd e10
      have enew : putK (clD ul) (Sum.inl sp[i]) (.int v) = clD (ul ++ [(sp[i], v)]) := by
        rw [putK_new]
        · unfold clD
          rw [List.map_append]
          rfl
        · refine valV_none fun q hq z => ?_
          obtain ⟨c, hc, rfl⟩ := List.mem_map.mp hq
          have z : c.1 = sp[i] := Sum.inl.inj z
          have hm : c.1 ∈ sp.take i := by rw [← hul]; exact List.mem_map.mpr ⟨c, hc, rfl⟩
          rw [z] at hm
          obtain ⟨j, hj, ej⟩ := List.mem_take_iff_getElem.mp hm
          have := (List.getElem_inj spn).mp ej
          omega
      have at10 := at_of' e10
      rw [enew] at at10
      have w10 : WellAt H10 p := by
        obtain ⟨x, y, z, e⟩ := w9
        exact ⟨x, y, z, b10 _ _ (Ne.symm Kp') e⟩
      refine ⟨(But.trans bt b9).new b10 nK0, w10, b10 _ _ MK (b9 _ _ Mp hM), b10 _ _ (lst_ne_dict hP hK) (b9 _ _ Pp hP), b10 _ _ (lst_ne_dict hS hK) (b9 _ _ Sp hS), _, at10, ?_, fun c hc => ?_⟩
      · rw [List.map_append, hul, List.take_succ, List.getElem?_eq_getElem hsi]
        rfl
      · rcases List.mem_append.mp hc with z | z
        · exact huo c z
        · rw [List.mem_singleton.mp z]
          exact ov
    have ull : ul.length ≤ 8 := by
      have e := congrArg List.length hul
      rw [List.length_map, List.length_take] at e
      omega
    have ati : atI (sp.map V.int) ((0 : Int) + (i : Nat)) = some (.int sp[i]) := by
      rw [Int.zero_add]
      exact atI_nat (by rw [List.getElem?_map, List.getElem?_eq_getElem hsi]; rfl)
    have clen : (clD ul).length < sizeLine := by
      unfold clD
      rw [List.length_map]
      exact szn (by omega)
    refine ⟨_, rfl, _, _, rfl, rfl, _, rfl, _, _, rfl, rfl, _, rfl, iteD (fun c => ?_) (fun c => ?_)⟩
    · have hs2 : i + 1 < sp.length := by omega
      have ok1 : okP sp[i + 1] := spok _ (List.getElem_mem hs2)
      have ati2 : atI (sp.map V.int) ((0 : Int) + (i : Nat) + 1) = some (.int sp[i + 1]) := by
        rw [show (0 : Int) + (i : Nat) + 1 = ((i + 1 : Nat) : Int) by omega]
        exact atI_nat (by rw [List.getElem?_map, List.getElem?_eq_getElem hs2]; rfl)
      refine ⟨_, rfl, _, rfl, _, _, rfl, rfl, S, _, _, _, rfl, rfl, SqL.of hS, ati2, ?_⟩
      refine ⟨_, rfl, _, _, rfl, p, _, rfl, rfl, by decide, by decide, hw, fun H8 kI b8 w8 k0 k1 => ⟨_, _, rfl, rfl, _, rfl, iteD (fun c2 => ?_) (fun c2 => ?_)⟩⟩
      · refine ⟨_, rfl, _, rfl, _, rfl, _, rfl, S, _, _, _, rfl, rfl, SqL.of (b8 _ _ Sp hS), ati, K', _, rfl, DPut.k (k := Sum.inl sp[i]) (b8 _ _ Kp' hK) clen, ?_⟩
        exact ⟨⟨_, _, _, _, rfl⟩, fin _ H8 _ ok1 b8 w8 rfl⟩
      · have hP8 := b8 _ _ Pp hP
        have hS8 := b8 _ _ Sp hS
        refine ⟨_, rfl, _, rfl, _, rfl, P, _, 0, _, rfl, rfl, SqL.of hP8, rfl, _, rfl, P, _, 1, _, rfl, rfl, SqL.of hP8, rfl, sz1000 (Nat.le_of_ble_eq_true rfl), fun L nL => ?_⟩
        generalize e9 : upd H8 L _ = H9
        have s9 := same_of e9 nL
        have hL9 : H9 L = some (.lst ([0, 0, a0, a1].map V.int)) := at_of' e9
        refine ⟨S, L, _, _, rfl, rfl, s9 _ _ hS8, hL9, by rw [List.length_map, List.length_map]; exact sz1000 (by show _ + 4 ≤ 1000; omega), fun C nC => ?_⟩
        generalize e10 : upd H9 C _ = H10
        have s10 := same_of e10 nC
        have hC10 := at_of' e10
        have w10 := (w8.same s9).same s10
        have s810 := Same.trans s9 s10
        have Cp : C ≠ p := fun e => by
          obtain ⟨_, _, _, e'⟩ := w8.same s9
          subst e
          rw [e'] at nC
          cases nC
        refine ⟨_, _, rfl, p, C, _, rfl, rfl, fun H' b => .inl (SqL.of (b _ _ Cp hC10)), by simp, by simp; omega, w10, fun H11 v b11 w11 hv => ?_⟩
        rw [← List.map_append] at hv
        obtain ⟨z, hz, rfl⟩ := List.mem_map.mp hv
        have oz : okP z := by
          rcases List.mem_append.mp hz with y | y
          · exact spok z y
          · simp at y
            rcases y with rfl | rfl | rfl <;> assumption
        have b811 : But p H' H11 := (b8.sm s810).trans b11
        refine ⟨_, rfl, _, rfl, _, rfl, S, _, _, _, rfl, rfl, SqL.of (b811 _ _ Sp hS), ati, K', _, rfl, DPut.k (k := Sum.inl sp[i]) (b811 _ _ Kp' hK) clen, ?_⟩
        exact ⟨⟨_, _, _, _, rfl⟩, fin _ H11 _ oz b811 w11 rfl⟩
    · have ok1 := zok
      refine ⟨_, rfl, _, _, rfl, p, _, rfl, rfl, by decide, by decide, hw, fun H8 kI b8 w8 k0 k1 => ⟨_, _, rfl, rfl, _, rfl, iteD (fun c2 => ?_) (fun c2 => ?_)⟩⟩
      · refine ⟨_, rfl, _, rfl, _, rfl, _, rfl, S, _, _, _, rfl, rfl, SqL.of (b8 _ _ Sp hS), ati, K', _, rfl, DPut.k (k := Sum.inl sp[i]) (b8 _ _ Kp' hK) clen, ?_⟩
        exact ⟨⟨_, _, _, _, rfl⟩, fin _ H8 _ ok1 b8 w8 rfl⟩
      · have hP8 := b8 _ _ Pp hP
        have hS8 := b8 _ _ Sp hS
        refine ⟨_, rfl, _, rfl, _, rfl, P, _, 0, _, rfl, rfl, SqL.of hP8, rfl, _, rfl, P, _, 1, _, rfl, rfl, SqL.of hP8, rfl, sz1000 (Nat.le_of_ble_eq_true rfl), fun L nL => ?_⟩
        generalize e9 : upd H8 L _ = H9
        have s9 := same_of e9 nL
        have hL9 : H9 L = some (.lst ([0, 0, a0, a1].map V.int)) := at_of' e9
        refine ⟨S, L, _, _, rfl, rfl, s9 _ _ hS8, hL9, by rw [List.length_map, List.length_map]; exact sz1000 (by show _ + 4 ≤ 1000; omega), fun C nC => ?_⟩
        generalize e10 : upd H9 C _ = H10
        have s10 := same_of e10 nC
        have hC10 := at_of' e10
        have w10 := (w8.same s9).same s10
        have s810 := Same.trans s9 s10
        have Cp : C ≠ p := fun e => by
          obtain ⟨_, _, _, e'⟩ := w8.same s9
          subst e
          rw [e'] at nC
          cases nC
        refine ⟨_, _, rfl, p, C, _, rfl, rfl, fun H' b => .inl (SqL.of (b _ _ Cp hC10)), by simp, by simp; omega, w10, fun H11 v b11 w11 hv => ?_⟩
        rw [← List.map_append] at hv
        obtain ⟨z, hz, rfl⟩ := List.mem_map.mp hv
        have oz : okP z := by
          rcases List.mem_append.mp hz with y | y
          · exact spok z y
          · simp at y
            rcases y with rfl | rfl | rfl <;> assumption
        have b811 : But p H' H11 := (b8.sm s810).trans b11
        refine ⟨_, rfl, _, rfl, _, rfl, S, _, _, _, rfl, rfl, SqL.of (b811 _ _ Sp hS), ati, K', _, rfl, DPut.k (k := Sum.inl sp[i]) (b811 _ _ Kp' hK) clen, ?_⟩
        exact ⟨⟨_, _, _, _, rfl⟩, fin _ H11 _ oz b811 w11 rfl⟩
  rintro σ H' ⟨⟨k, c, d, g, rfl⟩, bt, hw, hM, hP, hS, ul, hK, hul, huo⟩
  have gu : GoodU ul := by
    rw [List.take_of_length_le (by omega)] at hul
    refine ⟨by rw [hul]; exact spn, fun c hc => ?_, ?_⟩
    · have hm : c.1 ∈ sp := by rw [← hul]; exact List.mem_map.mpr ⟨c, hc, rfl⟩
      obtain ⟨y1, y2⟩ := hok c.1 (List.mem_append_left _ hm)
      exact ⟨y1, y2, huo c hc⟩
    · have e := congrArg List.length hul
      rw [List.length_map] at e
      omega
  -- the homes
  refine ⟨_, rfl, _, rfl, ?_⟩
  have two : ("xy" : Str).cps.size = 2 := xyN
  refine for_it walk_str (fun i σ H' => (∃ k c d g, σ = [some (.ref p), some (.str "xy"), some (.int 7), some (.int (n : Nat)), some (.int f), k, some (.ref P), some (.ref S), some (.ref M), some (.ref K'), c, d, g]) ∧ But p H H' ∧ WellAt H' p ∧
      H' P = some (.lst [.int a0, .int a1]) ∧ H' S = some (.lst (sp.map V.int)) ∧ H' K' = some (.dK (clD ul)) ∧ ∃ kx ky, okP kx ∧ okP ky ∧ H' M = some (.dK ((nmD kx ky).take i)))
    ⟨⟨_, _, _, _, rfl⟩, bt, hw, hP, hS, hK, 0, 0, zok, zok, hM⟩ (fun _ _ _ _ _ => trivial) ?_ ?_
  · clear bt hw hM hK hP hS
    rintro i v σ H' H2 hi ⟨⟨k, c, d, g, rfl⟩, bt, hw, hP, hS, hK, kx, ky, ox, oy, hM⟩ ⟨rfl, cc, hc, rfl⟩
    obtain ⟨ea, hi2⟩ := xyC hc
    rw [ea]
    refine ⟨_, rfl, _, rfl, _, rfl, S, S, _, _, rfl, rfl, hS, hS, by rw [List.length_map]; exact sz1000 (by omega), fun L nL => ?_⟩
    generalize e8 : upd H2 L _ = H8
    have s8 := same_of e8 nL
    have hL8 := at_of' e8
    have hP8 := s8 _ _ hP
    refine ⟨_, rfl, P, _, 0, _, rfl, rfl, SqL.of hP8, rfl, _, rfl, P, _, 1, _, rfl, rfl, SqL.of hP8, rfl, sz1000 (Nat.le_of_ble_eq_true rfl), fun L2 nL2 => ?_⟩
    generalize e9 : upd H8 L2 _ = H9
    have s9 := same_of e9 nL2
    have hL9 : H9 L2 = some (.lst ([0, a0, a1].map V.int)) := at_of' e9
    refine ⟨L, L2, _, _, rfl, rfl, s9 _ _ hL8, hL9, by rw [List.length_append, List.length_map, List.length_map]; exact sz1000 (by show _ + 3 ≤ 1000; omega), fun C nC => ?_⟩
    generalize e10 : upd H9 C _ = H10
    have s10 := same_of e10 nC
    have hC10 := at_of' e10
    have s210 := Same.trans (Same.trans s8 s9) s10
    have w10 := hw.same s210
    have Cp : C ≠ p := fun e => by
      obtain ⟨_, _, _, e'⟩ := hw.same (Same.trans s8 s9)
      subst e
      rw [e'] at nC
      cases nC
    refine ⟨_, _, rfl, p, C, _, rfl, rfl, fun H' b => .inl (SqL.of (b _ _ Cp hC10)), by simp; omega, by simp; omega, w10, fun H11 v b11 w11 hv => ?_⟩
    rw [← List.map_append, ← List.map_append] at hv
    obtain ⟨z, hz, rfl⟩ := List.mem_map.mp hv
    have oz : okP z := by
      rcases List.mem_append.mp hz with y | y
      · rcases List.mem_append.mp y with y | y
        · exact spok z y
        · exact spok z y
      · simp at y
        rcases y with rfl | rfl | rfl <;> assumption
    have b211 : But p H2 H11 := (Same.but s210).trans b11
    have hM11 := b211 _ _ Mp hM
    refine ⟨_, rfl, _, rfl, M, _, rfl, DPut.k (k := Sum.inr (nm i)) hM11 (szn (by rw [List.length_take]; exact Nat.le_trans (Nat.min_le_right _ _) (by show 2 ≤ 1000; decide))), ?_⟩
    generalize e12 : upd H11 M _ = H12
    have b12 := but_upd e12
    have w12 : WellAt H12 p := by
      obtain ⟨x, y, z, e⟩ := w11
      exact ⟨x, y, z, b12 _ _ (Ne.symm Mp) e⟩
    have rest : But p H H12 ∧ WellAt H12 p ∧ H12 P = some (.lst [.int a0, .int a1]) ∧ H12 S = some (.lst (sp.map V.int)) ∧ H12 K' = some (.dK (clD ul)) :=
      ⟨(But.trans bt b211).new b12 nM0, w12, b12 _ _ (lst_ne_dict hP hM) (b211 _ _ Pp hP), b12 _ _ (lst_ne_dict hS hM) (b211 _ _ Sp hS), b12 _ _ (Ne.symm MK) (b211 _ _ Kp' hK)⟩
    have at12 := at_of' e12
    refine ⟨⟨_, _, _, _, rfl⟩, rest.1, rest.2.1, rest.2.2.1, rest.2.2.2.1, rest.2.2.2.2, ?_⟩
    match i, hi2 with
    | 0, _ => exact ⟨z, 0, oz, zok, at12⟩
    | 1, _ => exact ⟨kx, z, ox, oz, at12⟩
  · rintro σ H' ⟨⟨k, c, d, g, rfl⟩, bt, hw, hP, hS, hK, kx, ky, ox, oy, hM⟩
    refine ⟨_, rfl, _, rfl, sz1000 (Nat.le_of_ble_eq_true rfl), fun m nm' => ?_⟩
    generalize e1 : upd H' m _ = H1'
    have s1 := same_of e1 nm'
    exact h H1' m M K' kx ky ul (bt.sm s1) (hw.same s1) ⟨at_of' e1, s1 _ _ hM, s1 _ _ hK⟩ (fresh bt hw nm') gu ox oy

end K66
end
section
set_option Elab.async false
set_option linter.all false
set_option maxRecDepth 100000
set_option maxHeartbeats 4000000
namespace K66
open PySem PySem.Spec PyProof.Rows L2
local macro_rules | `(tactic| walk_at "rd") => `(tactic| repeat (first | refine ⟨_, rfl, ?_⟩ | refine ⟨_, _, rfl, rfl, ?_⟩ | refine ⟨rfl, ?_⟩))
local macro_rules | `(tactic| walk_at "hp") => `(tactic| (first | assumption | solve_by_elim (maxDepth := 12)))
local macro_rules | `(tactic| walk_at "pl") => `(tactic| ((repeat (refine putF_lt ?_)); exact Nat.le_of_ble_eq_true rfl))
/-! ## the store that is drawn -/
def clOf (ul : List (Int × Int)) (ys : List Int) : List (Int × Int) := ys.map fun k => (k, (nxt ul k).getD 0)
theorem nxt_some {ul : List (Int × Int)} {k : Int} (h : k ∈ ul.map (·.1)) : ∃ j, nxt ul k = some j := by
  obtain ⟨c, hc, rfl⟩ := List.mem_map.mp h
  unfold nxt
  cases e : ul.find? fun d => decide (d.1 = c.1) with
  | none => exact absurd (decide_eq_true rfl) (List.find?_eq_none.mp e c hc)
  | some d => exact ⟨d.2, rfl⟩
theorem nxt_none {ul : List (Int × Int)} {k : Int} (h : ¬ k ∈ ul.map (·.1)) : nxt ul k = none := by
  unfold nxt
  rw [List.find?_eq_none.mpr]
  · rfl
  · intro c hc z
    exact h (List.mem_map.mpr ⟨c, hc, of_decide_eq_true z⟩)
theorem nxt_clOf (ul : List (Int × Int)) (i : Int) : ∀ ys : List Int, (∀ y ∈ ys, y ∈ ul.map (·.1)) → nxt (clOf ul ys) i = if i ∈ ys then nxt ul i else none
  | [], _ => rfl
  | y :: r, h => by
    have ih := nxt_clOf ul i r fun z hz => h z (List.mem_cons_of_mem _ hz)
    by_cases e : y = i
    · subst e
      obtain ⟨j, hj⟩ := nxt_some (h y List.mem_cons_self)
      rw [if_pos List.mem_cons_self]
      show ((((y, (nxt ul y).getD 0) :: clOf ul r).find? fun c => decide (c.1 = y)).map (·.2)) = nxt ul y
      rw [List.find?_cons, decide_eq_true rfl, hj]
      rfl
    · have e2 : nxt (clOf ul (y :: r)) i = nxt (clOf ul r) i := by
        show ((((y, (nxt ul y).getD 0) :: clOf ul r).find? fun c => decide (c.1 = i)).map (·.2)) = _
        rw [List.find?_cons, decide_eq_false e]
        rfl
      rw [e2, ih]
      simp [show ¬ i = y from fun z => e z.symm]
theorem sorted_cells {ul : List (Int × Int)} {ys : List Int} (g : GoodU ul) (hp : ys.Perm (ul.map (·.1))) (hs : ys.Pairwise (· ≤ ·)) : GoodC (clOf ul ys) ∧ (∀ i, nxt (clOf ul ys) i = nxt ul i) ∧ (clOf ul ys).length = ul.length := by
  have hm : ∀ y, y ∈ ys ↔ y ∈ ul.map (·.1) := fun y => hp.mem_iff
  have hl : (clOf ul ys).length = ul.length := by
    have e := hp.length_eq
    rw [List.length_map] at e
    unfold clOf
    rw [List.length_map, e]
  refine ⟨⟨?_, fun c hc => ?_, by have := g.few; omega⟩, fun i => ?_, hl⟩
  · unfold clOf
    rw [List.pairwise_map]
    have hn : ys.Nodup := hp.nodup_iff.mpr g.nd
    exact (List.Pairwise.and hs hn).imp fun {a b} h => by
      have := h.1
      have := h.2
      show a < b
      omega
  · obtain ⟨y, hy, rfl⟩ := List.mem_map.mp hc
    obtain ⟨j, hj⟩ := nxt_some ((hm y).mp hy)
    have := g.ok _ (nxt_mem hj)
    show 0 < y ∧ y ≤ 999 ∧ okP ((nxt ul y).getD 0)
    rw [hj]
    exact this
  · rw [nxt_clOf ul i ys fun y hy => (hm y).mp hy]
    by_cases h : i ∈ ys
    · rw [if_pos h]
    · rw [if_neg h, nxt_none (fun z => h ((hm i).mpr z))]
theorem wk_ext {cl ul : List (Int × Int)} (h : ∀ i, nxt cl i = nxt ul i) : ∀ (n : Nat) (acc : List Int) (i : Int), wk cl n acc i = wk ul n acc i
  | 0, _, _ => rfl
  | n + 1, acc, i => by
    unfold wk
    rw [h i]
    cases nxt ul i with
    | none => rfl
    | some j =>
      show (if i ∈ acc then (acc, i) else wk cl n (acc ++ [i]) j) = if i ∈ acc then (acc, i) else wk ul n (acc ++ [i]) j
      rw [wk_ext h n]
theorem trk_ext {cl ul : List (Int × Int)} (h : ∀ i, nxt cl i = nxt ul i) (hl : cl.length = ul.length) (i : Int) : trk cl i = trk ul i := by
  unfold trk
  rw [hl, wk_ext h]
def RC2 (ys : List Int) (ul : List (Int × Int)) (i : Nat) (v : V) (H : Hp) : Prop := ∃ t y, v = .ref t ∧ ys[i]? = some y ∧ H t = some (.tup [.int y, .int ((nxt ul y).getD 0)])
theorem RC2.mono {ys : List Int} {ul : List (Int × Int)} : ∀ i v (H H' : Hp), Same H H' → RC2 ys ul i v H → RC2 ys ul i v H' := fun i v H H' s ⟨t, y, a, b, c⟩ => ⟨t, y, a, b, s _ _ c⟩
theorem acc_refs {H : Hp} {ul : List (Int × Int)} : ∀ (acc : List V) (ys : List Int), acc.length = ys.length → (∀ j v, acc[j]? = some v → RC2 ys ul j v H) → ∃ ts : List Addr, acc = ts.map V.ref ∧ Paired (fun t (c : Int × Int) => H t = some (.tup [.int c.1, .int c.2])) ts (clOf ul ys)
  | [], [], _, _ => ⟨[], rfl, .nil⟩
  | [], _ :: _, h, _ => by simp at h
  | _ :: _, [], h, _ => by simp at h
  | v :: acc, y :: ys, h, f => by
    obtain ⟨ts, e, p⟩ := acc_refs acc ys (by simpa using h) fun j u hj => by
      obtain ⟨t, z, a, b, c⟩ := f (j + 1) u (by simpa using hj)
      exact ⟨t, z, a, by simpa using b, c⟩
    obtain ⟨t, z, a, b, c⟩ := f 0 v rfl
    cases b
    exact ⟨t :: ts, by rw [a, e]; rfl, .cons c p⟩
def spLawStore (K : PySem.W.Frag) : Sp := sp1 fun mn H Q _ => ∃ m hd ld x y ul, mn = .ref m ∧ MineAt H m hd ld x y ul ∧ GoodU ul ∧ okP x ∧ okP y ∧
  ∀ H' s cl, Same H H' → StoreAt K H' s x y cl → GoodC cl → (∀ i, nxt cl i = nxt ul i) → cl.length = ul.length → Q (.ref s) H'
abbrev N__law_store : List Str := ["_law_mine", "_law_heads", "_law_sign", "_law_spot"]
theorem sc__law_store : FnScope N__law_store ["_law_mine"] (defScope s__law_store) := ⟨rfl, rfl, rfl, by decide +kernel, rfl, by decide +kernel, by decide +kernel⟩
theorem ok_law_store {P : Program} {w : World} {K : PySem.W.Frag} {mg : Str → Option Value} {base : Heap} (T : TopE K mg) : FnAt P w K mg base CX0 8 (He.ga K "_law_store") ["_law_mine"] (spLawStore K) := by
  refine fnAt0 (k := 7) T.f_law_store sc__law_store len1 (fun _ _ _ _ _ _ us hl => match us, hl with | [_], _ => rfl) (fun cdv A outer s H vs Q E hr h => ?_)
  have hu := hu_of hr
  obtain ⟨v_law_mine, rfl, h⟩ := h
  refine ⟨_, (pss_cons (ps_set (i := 1) sc__law_store.nd rfl (Or.inl rfl) (pe_callTy call_tuple_frz (by rfl) T.z_tuple (by decide +kernel) (pa_cons (by (apply pe_lcX (s0 := s) (own := [("_law_sign", 2)])); exact rfl; exact sc__law_store.nd; exact (pi_list (pe_callB (call_sortedD rfl) (by rfl) T.z_sorted (by decide +kernel) (pa_cons (pe_ix ix_list (pv 0) pe_int (fun _ _ => rfl)) pa_nil))); exact (blkOk_by (N := N__law_store) (sc := defScope s__law_store) (by decide +kernel)); (intro _ _ _ _ _; exact (pg_name (i := 2) sc__law_store.nd rfl (Or.inl rfl))); (intro _ _ _ _ _; exact pts_nil); (intro _ _ _ _ _; exact (pe_tup (pa_cons (pv 2) (pa_cons (pe_dget hu (pe_ix ix_list (pv 0) pe_int (fun _ _ => rfl)) (pv 2) (fun _ _ => rfl)) pa_nil)))); exact (fun _ => rfl); exact (fun _ _ _ _ _ => rfl); exact (fun _ _ _ _ _ => rfl); exact (fun _ _ _ _ _ => rfl)) pa_nil)))
    (pss_one (ps_ret (pe_mk T.k_Store (ok_Store_init T) (hr.mono (by decide)) T.g_Store pass0 (pa_cons (pv 1) (pa_cons (pe_callTy call_tuple_frz (by rfl) T.z_tuple (by decide +kernel) (pa_cons (by (apply pe_lcX (s0 := s) (own := [("_law_spot", 3)])); exact rfl; exact sc__law_store.nd; exact (pi_list (pe_callB (call_sortedDI rfl) (by rfl) T.z_sorted (by decide +kernel) (pa_cons (pe_ix ix_list (pv 0) pe_int (fun _ _ => rfl)) pa_nil))); exact (blkOk_by (N := N__law_store) (sc := defScope s__law_store) (by decide +kernel)); (intro _ _ _ _ _; exact (pg_name (i := 3) sc__law_store.nd rfl (Or.inl rfl))); (intro _ _ _ _ _; exact pts_nil); (intro _ _ _ _ _; exact (pe_tup (pa_cons (pv 3) (pa_cons (pe_dget hu (pe_ix ix_list (pv 0) pe_int (fun _ _ => rfl)) (pv 3) (fun _ _ => rfl)) pa_nil)))); exact (fun _ => rfl); exact (fun _ _ _ _ _ => rfl); exact (fun _ _ _ _ _ => rfl); exact (fun _ _ _ _ _ => rfl)) pa_nil)) pa_nil)))))), ?_⟩
  obtain ⟨m, hd, ld, x, y, ul, rfl, hm, gu, ox, oy, h⟩ := h
  refine ⟨_, rfl, m, _, 0, _, rfl, rfl, SqL.of hm.1, rfl, hd, _, ["x", "y"], rfl, .inl hm.2.1, rfl, by decide, fun ys L hp hs nL => ?_⟩
  rw [xy_sorted hp hs]
  generalize e1 : upd H L _ = H1
  have s1 := same_of e1 nL
  have hL1 : H1 L = some (.lst [.str "x", .str "y"]) := at_of' e1
  refine ⟨L, rfl, ⟨_, SqL.of hL1⟩, fun D nD => ?_⟩
  refine lc_list (xs := [.str "x", .str "y"]) (LcG H1 D (RN x y)) (lcG0 nD) (fun i H' _ q => SqL.of (q.1 _ _ hL1)) ?_ ?_
  · intro i v H2 hx q
    have ev : v = .str (nm i) ∧ i < 2 := by
      match i, hx with
      | 0, hx => cases hx; exact ⟨rfl, by decide⟩
      | 1, hx => cases hx; exact ⟨rfl, by decide⟩
      | _ + 2, hx => cases hx
    obtain ⟨rfl, hi⟩ := ev
    have hm2 := (hm.same s1).same q.1
    have hxy : nm i = "x" ∨ nm i = "y" := by
      match i, hi with
      | 0, _ => exact .inl rfl
      | 1, _ => exact .inr rfl
    have ei : (if nm i = "x" then x else y) = if i = 0 then x else y := by
      match i, hi with
      | 0, _ => rfl
      | 1, _ => rfl
    refine ⟨rfl, _, rfl, _, rfl, m, _, 0, _, rfl, rfl, SqL.of hm2.1, rfl, _, rfl, hd, .int (if i = 0 then x else y), rfl, ?_, ?_⟩
    · rw [← ei, ← cur_get x y hxy]
      exact DGet.k (k := Sum.inr (nm i)) hm2.2.1
    · refine ⟨sz1000 (Nat.le_of_ble_eq_true rfl), fun t nt => ?_⟩
      generalize e3 : upd H2 t _ = H3
      have tD : t ≠ D := fun e => by
        obtain ⟨_, acc, hD, _⟩ := q
        subst e
        rw [hD] at nt
        cases nt
      refine lcGS nD RN.mono q (szn (by omega)) (same_of e3 nt) ⟨t, rfl, ?_⟩
      rw [del_ne tD, at_of' e3]
  intro H2 q2
  obtain ⟨s2, acc, hD, hl, hR⟩ := q2.done RN.mono
  match acc, hl with
  | [v0, v1], _ =>
    obtain ⟨t0, rfl, h0⟩ := hR 0 v0 rfl
    obtain ⟨t1, rfl, h1⟩ := hR 1 v1 rfl
    refine ⟨D, _, rfl, SqL.of hD, fun tn o ntn od => ?_⟩
    generalize e3 : upd H2 tn _ = H3
    have s3 := same_of e3 ntn
    have s03 := Same.trans (Same.trans s1 s2) s3
    have hn3 : NamesT H3 tn x y := ⟨o, t0, t1, at_of' e3, od, s3 _ _ h0, s3 _ _ h1⟩
    have hm3 := hm.same s03
    clear hD hl hR q2
    have kl : (ul.map (·.1)).length < 64 := by
      have := gu.few
      rw [List.length_map]
      omega
    have keys : (clD ul).map (·.1) = (ul.map (·.1)).map Sum.inl := by
      unfold clD
      rw [List.map_map, List.map_map]
      rfl
    refine ⟨_, rfl, _, rfl, m, _, 1, _, rfl, rfl, SqL.of hm3.1, rfl, ld, _, ul.map (·.1), rfl, .inl hm3.2.2, keys, kl, fun ks L2 hp2 hs2 nL2 => ?_⟩
    generalize e4 : upd H3 L2 _ = H4
    have s4 := same_of e4 nL2
    have hL4 := at_of' e4
    refine ⟨L2, rfl, ⟨_, SqL.of hL4⟩, fun D2 nD2 => ?_⟩
    refine lc_list (xs := ks.map V.int) (LcG H4 D2 (RC2 ks ul)) (lcG0 nD2) (fun i H' _ q => SqL.of (q.1 _ _ hL4)) ?_ ?_
    · intro i v H5 hx q
      rw [List.getElem?_map] at hx
      obtain ⟨kx, hkx, rfl⟩ := Option.map_eq_some_iff.mp hx
      have hm5 := (hm3.same s4).same q.1
      obtain ⟨j, hj⟩ := nxt_some (hp2.mem_iff.mp (List.mem_of_getElem? hkx))
      have hil : i < 64 := by
        have := (List.getElem?_eq_some_iff.mp hkx).1
        have := hp2.length_eq
        omega
      refine ⟨rfl, _, rfl, _, rfl, m, _, 1, _, rfl, rfl, SqL.of hm5.1, rfl, _, rfl, ld, .int j, rfl, ?_, ?_⟩
      · have e := DGet.k (k := Sum.inl kx) hm5.2.2
        rw [nxt_valV, hj] at e
        exact e
      · refine ⟨sz1000 (Nat.le_of_ble_eq_true rfl), fun t nt => ?_⟩
        generalize e6 : upd H5 t _ = H6
        have tD : t ≠ D2 := fun e => by
          obtain ⟨_, acc, hD, _⟩ := q
          subst e
          rw [hD] at nt
          cases nt
        refine lcGS nD2 RC2.mono q (szn (by omega)) (same_of e6 nt) ⟨t, kx, rfl, hkx, ?_⟩
        rw [del_ne tD, at_of' e6, hj]
        rfl
    intro H5 q5
    obtain ⟨s5, acc2, hD2, hl2, hR2⟩ := q5.done RC2.mono
    rw [List.length_map] at hl2
    obtain ⟨ts, rfl, hts⟩ := acc_refs acc2 ks hl2 hR2
    refine ⟨D2, _, rfl, SqL.of hD2, fun tc oc ntc ocd => ?_⟩
    generalize e6 : upd H5 tc _ = H6
    have s6 := same_of e6 ntc
    obtain ⟨g1, g2, g3⟩ := sorted_cells gu hp2 hs2
    have hct : CellsT H6 tc (clOf ul ks) := ⟨oc, ts, at_of' e6, ocd, paired_mono (fun _ _ z => s6 _ _ z) hts⟩
    have s36 := Same.trans (Same.trans s4 s5) s6
    intro p dx np nd _
    generalize e7 : upd (upd H6 dx _) p _ = H7
    have s7 := same_make e7 np nd
    refine ⟨_, _, _, rfl, p, dx, tn, tc, x, y, _, rfl, rfl, rfl, at_make e7, (hn3.same s36).same s7, ox, oy, hct.same s7, g1, fun H8 b8 st => ⟨rfl, ?_⟩⟩
    exact h H8 p _ (Same.trans (Same.trans s03 s36) (same_but s7 b8 np)) st g1 g2 g3

end K66
end
section
set_option Elab.async false
set_option linter.all false
set_option maxRecDepth 100000
set_option maxHeartbeats 4000000
namespace K66
open PySem PySem.Spec PyProof.Rows L2
local macro_rules | `(tactic| walk_at "rd") => `(tactic| repeat (first | refine ⟨_, rfl, ?_⟩ | refine ⟨_, _, rfl, rfl, ?_⟩ | refine ⟨rfl, ?_⟩))
local macro_rules | `(tactic| walk_at "hp") => `(tactic| (first | assumption | solve_by_elim (maxDepth := 12)))
local macro_rules | `(tactic| walk_at "pl") => `(tactic| ((repeat (refine putF_lt ?_)); exact Nat.le_of_ble_eq_true rfl))
/-! ## errors told -/
def ErrN (v : V) (H : Hp) (Q : VK) : Prop := ∀ H' q, Same H H' → H' q = some (.lst [.str "number", v, .bl true]) → Q (.ref q) H'
def ErrS (v : V) (H : Hp) (Q : VK) : Prop := ∀ H' q, Same H H' → H' q = some (.lst [.str "store", v]) → Q (.ref q) H'
def ErrU (v : V) (H : Hp) (Q : VK) : Prop := ∀ H' q, Same H H' → H' q = some (.lst [.str "name", v]) → Q (.ref q) H'
/-- paces that are refused for v -/
def BadP (a b c v : V) : Prop := fl a = true ∧ fl b = true ∧ fl c = true ∧ ((between a 0 far = false ∧ v = a) ∨ ∃ si, a = .int si ∧ between a 0 far = true ∧ ((between b si far = false ∧ v = b) ∨ ∃ fi, b = .int fi ∧ between b si far = true ∧ between c 0 far = false ∧ v = c))
def spErr (K : PySem.W.Frag) : Sp := sp2 fun b so H Q _ => ∃ (S : Addr) (xs : List V), so = .ref S ∧ H S = some (.lst xs) ∧
  ((∃ t r v, b = .int 0 ∧ xs = [t, r] ∧ fl t = true ∧ fl r = true ∧ ((between t 0 far = false ∧ v = t) ∨ (between t 0 far = true ∧ between r 1 far = false ∧ v = r)) ∧ ErrN v H Q) ∨
   (∃ s l, b = .int 1 ∧ xs = [s, l] ∧ ((NoStore K H s ∧ ErrS s H Q) ∨ ∃ p px py cl, s = .ref p ∧ StoreAt K H p px py cl ∧ GoodC cl ∧ fl l = true ∧ plc px py l = none ∧ ErrU l H Q)) ∨
   (∃ s l a b' c, b = .int 2 ∧ xs = [s, l, a, b', c] ∧ ((NoStore K H s ∧ ErrS s H Q) ∨ ∃ p px py cl, s = .ref p ∧ StoreAt K H p px py cl ∧ GoodC cl ∧ fl l = true ∧ ((plc px py l = none ∧ ErrU l H Q) ∨ ∃ i v, plc px py l = some i ∧ cl.length ≤ 7 ∧ BadP a b' c v ∧ ErrN v H Q))))
abbrev N__law_error : List Str := ["_law_branch", "_law_some", "e"]
theorem sc__law_error : FnScope N__law_error ["_law_branch", "_law_some"] (defScope s__law_error) := ⟨rfl, rfl, rfl, by decide +kernel, rfl, by decide +kernel, by decide +kernel⟩
theorem ok_law_error {P : Program} {w : World} {K : PySem.W.Frag} {mg : Str → Option Value} {base : Heap} (T : TopE K mg) : FnAt P w K mg base CX0 9 (He.ga K "_law_error") ["_law_branch", "_law_some"] (spErr K) := by
  refine fnAt0 (k := 8) T.f_law_error sc__law_error len2 (fun _ _ _ _ _ _ us hl => match us, hl with | [_, _], _ => rfl) (fun cdv A outer s H vs Q E hr h => ?_)
  have hu := hu_of hr
  obtain ⟨v_law_branch, v_law_some, rfl, h⟩ := h
  refine ⟨_, (pss_cons (ps_try_manyX rfl rfl sc__law_error.nd takes_none5 (by intro W pn xe tk po; exact (pss_one (ps_if (pt_cmpR op_eq (pv 0) pe_int (nomark _)) (pss_one (ps_expr (pe_fS (E := WE W) (ok_doubling_steps T) (hr.mono (by decide)) T.g_doubling_steps (fun σ => passAt tk σ) (pa_cons (pe_ix ix_list (pv 1) pe_int (fun _ _ => rfl)) (pa_cons (pe_ix ix_list (pv 1) pe_int (fun _ _ => rfl)) pa_nil))))) (pss_one (ps_if (pt_cmpR op_eq (pv 0) pe_int (nomark _)) (pss_one (ps_expr (pe_fS (E := WE W) (ok_track_of T) (hr.mono (by decide)) T.g_track_of (fun σ => passAt tk σ) (pa_cons (pe_ix ix_list (pv 1) pe_int (fun _ _ => rfl)) (pa_cons (pe_ix ix_list (pv 1) pe_int (fun _ _ => rfl)) pa_nil))))) (pss_one (ps_expr (pe_fS (E := WE W) (ok_meeting_place T) (hr.mono (by decide)) T.g_meeting_place (fun σ => passAt tk σ) (pa_cons (pe_ix ix_list (pv 1) pe_int (fun _ _ => rfl)) (pa_cons (pe_ix ix_list (pv 1) pe_int (fun _ _ => rfl)) (pa_cons (pe_ix ix_list (pv 1) pe_int (fun _ _ => rfl)) (pa_cons (pe_ix ix_list (pv 1) pe_int (fun _ _ => rfl)) (pa_cons (pe_ix ix_list (pv 1) pe_int (fun _ _ => rfl)) pa_nil))))))))))))) (fun _ _ _ => rfl) (.cons (i := 2) ⟨rfl, by decide, .inl T.g_NotAStore⟩ rfl rfl (by intro a oe cls d pn hz hf; exact (pss_one (ps_ret (pe_lst (pa_cons pe_str (pa_cons (pe_xf T.xf_NotAStore T.on_NotAStore hz hf (pv 2)) pa_nil)))))) (.cons (i := 2) ⟨rfl, by decide, .inl T.g_UnknownName⟩ rfl rfl (by intro a oe cls d pn hz hf; exact (pss_one (ps_ret (pe_lst (pa_cons pe_str (pa_cons (pe_xf T.xf_UnknownName T.on_UnknownName hz hf (pv 2)) pa_nil)))))) (.cons (i := 2) ⟨rfl, by decide, .inl T.g_InvalidNumber⟩ rfl rfl (by intro a oe cls d pn hz hf; exact (pss_one (ps_ret (pe_lst (pa_cons pe_str (pa_cons (pe_xf T.xf_InvalidNumber T.on_InvalidNumber hz hf (pv 2)) (pa_cons (pe_callB (call_isS ⟨T.xf_InvalidNumber.ga, T.xf_InvalidNumber.gg, T.xf_InvalidNumber.exC, T.xf_InvalidNumber.hdC, T.in_class, T.st_get, T.st_takes, T.in_mro⟩ hz hf) (by rfl) T.z_isinstance (by decide +kernel) (pa_cons (pv 2) (pa_cons (pe_gr T.g_ArrowError) pa_nil))) pa_nil))))))) .nil))))
    (pss_one (ps_ret pe_non))), ?_⟩
  obtain ⟨S, xs, rfl, hS, h⟩ := h
  rcases h with ⟨t, r, v, rfl, rfl, ft, fr, hv, k⟩ | ⟨s0, l, rfl, rfl, h⟩ | ⟨s0, l, a, b', c, rfl, rfl, h⟩
  · refine ⟨_, rfl, rfl, _, rfl, iteT ?_⟩
    refine ⟨_, rfl, S, _, 0, _, rfl, rfl, SqL.of hS, rfl, _, rfl, S, _, 1, _, rfl, rfl, SqL.of hS, rfl, _, _, rfl, ft, fr, fun z => ?_, fun z1 z2 => ?_, fun a b e1 e2 z1 z2 => ?_⟩
    · rcases hv with ⟨_, rfl⟩ | ⟨z', _⟩
      · exact (fun d H1 nd s1 hd => ⟨false, T.xm_InvalidNumber_NotAStore, (fun z => nomatch z), fun _ => ⟨false, T.xm_InvalidNumber_UnknownName, (fun z => nomatch z), fun _ => ⟨true, T.xm_InvalidNumber_InvalidNumber, (fun _ a na => ⟨_, rfl, rfl, rfl, d, _, _, rfl, hd, rfl, _, rfl, _, _, true, d, _, rfl, rfl, rfl, hd, (fun _ r => r), T.in_kit, sz1000 (Nat.le_of_ble_eq_true rfl), fun q nq => k _ _ (Same.trans s1 (same_of rfl nq)) upd_same⟩), fun z => nomatch z⟩⟩⟩)
      · rw [z] at z'; cases z'
    · rcases hv with ⟨z', _⟩ | ⟨_, _, rfl⟩
      · rw [z1] at z'; cases z'
      · exact (fun d H1 nd s1 hd => ⟨false, T.xm_InvalidNumber_NotAStore, (fun z => nomatch z), fun _ => ⟨false, T.xm_InvalidNumber_UnknownName, (fun z => nomatch z), fun _ => ⟨true, T.xm_InvalidNumber_InvalidNumber, (fun _ a na => ⟨_, rfl, rfl, rfl, d, _, _, rfl, hd, rfl, _, rfl, _, _, true, d, _, rfl, rfl, rfl, hd, (fun _ r => r), T.in_kit, sz1000 (Nat.le_of_ble_eq_true rfl), fun q nq => k _ _ (Same.trans s1 (same_of rfl nq)) upd_same⟩), fun z => nomatch z⟩⟩⟩)
    · rcases hv with ⟨z', _⟩ | ⟨_, z', _⟩
      · rw [z1] at z'; cases z'
      · rw [z2] at z'; cases z'
  · refine ⟨_, rfl, rfl, _, rfl, iteF ⟨_, rfl, rfl, _, rfl, iteT ?_⟩⟩
    refine ⟨_, rfl, S, _, 0, _, rfl, rfl, SqL.of hS, rfl, _, rfl, S, _, 1, _, rfl, rfl, SqL.of hS, rfl, _, _, rfl, ?_⟩
    rcases h with ⟨ns, k⟩ | ⟨p, px, py, cl, rfl, st, hg, fl', hn, k⟩
    · exact .inl ⟨ns, (fun d H1 nd s1 hd => ⟨true, T.xm_NotAStore_NotAStore, (fun _ a na => ⟨_, rfl, rfl, rfl, d, _, _, rfl, hd, rfl, sz1000 (Nat.le_of_ble_eq_true rfl), fun q nq => k _ _ (Same.trans s1 (same_of rfl nq)) upd_same⟩), fun z => nomatch z⟩)⟩
    · exact .inr ⟨p, px, py, cl, rfl, st, hg, fl', fun i hi => (by rw [hn] at hi; cases hi), fun _ => (fun d H1 nd s1 hd => ⟨false, T.xm_UnknownName_NotAStore, (fun z => nomatch z), fun _ => ⟨true, T.xm_UnknownName_UnknownName, (fun _ a na => ⟨_, rfl, rfl, rfl, d, _, _, rfl, hd, rfl, sz1000 (Nat.le_of_ble_eq_true rfl), fun q nq => k _ _ (Same.trans s1 (same_of rfl nq)) upd_same⟩), fun z => nomatch z⟩⟩)⟩
  · refine ⟨_, rfl, rfl, _, rfl, iteF ⟨_, rfl, rfl, _, rfl, iteF ?_⟩⟩
    refine ⟨_, rfl, S, _, 0, _, rfl, rfl, SqL.of hS, rfl, _, rfl, S, _, 1, _, rfl, rfl, SqL.of hS, rfl, _, rfl, S, _, 2, _, rfl, rfl, SqL.of hS, rfl, _, rfl, S, _, 3, _, rfl, rfl, SqL.of hS, rfl, _, rfl, S, _, 4, _, rfl, rfl, SqL.of hS, rfl, _, _, _, _, _, rfl, ?_⟩
    rcases h with ⟨ns, k⟩ | ⟨p, px, py, cl, rfl, st, hg, fl', h⟩
    · exact .inl ⟨ns, (fun d H1 nd s1 hd => ⟨true, T.xm_NotAStore_NotAStore, (fun _ a na => ⟨_, rfl, rfl, rfl, d, _, _, rfl, hd, rfl, sz1000 (Nat.le_of_ble_eq_true rfl), fun q nq => k _ _ (Same.trans s1 (same_of rfl nq)) upd_same⟩), fun z => nomatch z⟩)⟩
    · refine .inr ⟨p, px, py, cl, rfl, st, hg, fl', fun i hi => ?_, fun hn => ?_⟩
      · rcases h with ⟨hn, _⟩ | ⟨i', v, hi', few, ⟨fa, fb, fc, hbad⟩, k⟩
        · rw [hn] at hi; cases hi
        · refine ⟨few, fa, fb, fc, ?_⟩
          rcases hbad with ⟨z, rfl⟩ | ⟨si, e1, z1, h⟩
          · exact .inl ⟨z, (fun d H1 nd s1 hd => ⟨false, T.xm_InvalidNumber_NotAStore, (fun z => nomatch z), fun _ => ⟨false, T.xm_InvalidNumber_UnknownName, (fun z => nomatch z), fun _ => ⟨true, T.xm_InvalidNumber_InvalidNumber, (fun _ a na => ⟨_, rfl, rfl, rfl, d, _, _, rfl, hd, rfl, _, rfl, _, _, true, d, _, rfl, rfl, rfl, hd, (fun _ r => r), T.in_kit, sz1000 (Nat.le_of_ble_eq_true rfl), fun q nq => k _ _ (Same.trans s1 (same_of rfl nq)) upd_same⟩), fun z => nomatch z⟩⟩⟩)⟩
          refine .inr ⟨si, e1, z1, ?_⟩
          rcases h with ⟨z, rfl⟩ | ⟨fi, e2, z2, z3, rfl⟩
          · exact .inl ⟨z, (fun d H1 nd s1 hd => ⟨false, T.xm_InvalidNumber_NotAStore, (fun z => nomatch z), fun _ => ⟨false, T.xm_InvalidNumber_UnknownName, (fun z => nomatch z), fun _ => ⟨true, T.xm_InvalidNumber_InvalidNumber, (fun _ a na => ⟨_, rfl, rfl, rfl, d, _, _, rfl, hd, rfl, _, rfl, _, _, true, d, _, rfl, rfl, rfl, hd, (fun _ r => r), T.in_kit, sz1000 (Nat.le_of_ble_eq_true rfl), fun q nq => k _ _ (Same.trans s1 (same_of rfl nq)) upd_same⟩), fun z => nomatch z⟩⟩⟩)⟩
          · exact .inr ⟨fi, e2, z2, .inl ⟨z3, (fun d H1 nd s1 hd => ⟨false, T.xm_InvalidNumber_NotAStore, (fun z => nomatch z), fun _ => ⟨false, T.xm_InvalidNumber_UnknownName, (fun z => nomatch z), fun _ => ⟨true, T.xm_InvalidNumber_InvalidNumber, (fun _ a na => ⟨_, rfl, rfl, rfl, d, _, _, rfl, hd, rfl, _, rfl, _, _, true, d, _, rfl, rfl, rfl, hd, (fun _ r => r), T.in_kit, sz1000 (Nat.le_of_ble_eq_true rfl), fun q nq => k _ _ (Same.trans s1 (same_of rfl nq)) upd_same⟩), fun z => nomatch z⟩⟩⟩)⟩⟩
      · rcases h with ⟨_, k⟩ | ⟨i', v, hi', _⟩
        · exact (fun d H1 nd s1 hd => ⟨false, T.xm_UnknownName_NotAStore, (fun z => nomatch z), fun _ => ⟨true, T.xm_UnknownName_UnknownName, (fun _ a na => ⟨_, rfl, rfl, rfl, d, _, _, rfl, hd, rfl, sz1000 (Nat.le_of_ble_eq_true rfl), fun q nq => k _ _ (Same.trans s1 (same_of rfl nq)) upd_same⟩), fun z => nomatch z⟩⟩)
        · rw [hn] at hi'; cases hi'

end K66
end
section
set_option Elab.async false
set_option linter.all false
set_option maxRecDepth 100000
set_option maxHeartbeats 4000000
/-! the way and the walk agree -/
namespace K66
open PySem PySem.Spec PyProof.Rows L2
theorem wk_psq {cl : List (Int × Int)} {z : Int} : ∀ (n : Nat) (acc : List Int) (i : Int), (∀ k x, acc[k]? = some x → psq cl z k = some x) → psq cl z acc.length = some i →
    (∀ k x, (wk cl n acc i).1[k]? = some x → psq cl z k = some x) ∧ psq cl z (wk cl n acc i).1.length = some (wk cl n acc i).2
  | 0, acc, i, h1, h2 => ⟨h1, h2⟩
  | n + 1, acc, i, h1, h2 => by
    cases hj : nxt cl i with
    | none =>
      rw [wk_stop1 hj]
      exact ⟨h1, h2⟩
    | some j =>
      by_cases hi : i ∈ acc
      · rw [wk_stop2 hi]
        exact ⟨h1, h2⟩
      · rw [wk_go hj hi]
        refine wk_psq n (acc ++ [i]) j (fun k x hk => ?_) ?_
        · by_cases hkl : k < acc.length
          · rw [List.getElem?_append_left hkl] at hk
            exact h1 k x hk
          · have hk2 : k = acc.length := by
              have := (List.getElem?_eq_some_iff.mp hk).1
              simp at this
              omega
            subst hk2
            rw [List.getElem?_append_right (Nat.le_refl _), Nat.sub_self] at hk
            cases hk
            exact h2
        · rw [List.length_append, List.length_singleton, psq_s h2]
          exact hj
theorem trk_psq (cl : List (Int × Int)) (z : Int) : (∀ k x, (trk cl z).1[k]? = some x → psq cl z k = some x) ∧ psq cl z (trk cl z).1.length = some (trk cl z).2 :=
  wk_psq _ [] z (fun k x h => by simp at h) rfl
section
variable {cl : List (Int × Int)} {z : Int} {t r : Nat}
theorem tarO_iff : tarO cl z = if (trk cl z).2 ∈ (trk cl z).1 then some ((trk cl z).1.idxOf (trk cl z).2, (trk cl z).1.length - (trk cl z).1.idxOf (trk cl z).2) else none := by
  obtain ⟨p, q⟩ := trk_end cl z
  unfold tarO
  by_cases h : (trk cl z).2 ∈ (trk cl z).1
  · rw [if_pos h]
    obtain ⟨j, hj⟩ := Option.isSome_iff_exists.mp (p.2 _ h)
    rw [hj]
  · rw [if_neg h, q.resolve_right h]
theorem tarO_some (h : tarO cl z = some (t, r)) : (trk cl z).2 ∈ (trk cl z).1 ∧ t = (trk cl z).1.idxOf (trk cl z).2 ∧ t + r = (trk cl z).1.length ∧ 0 < r := by
  have h2 := tarO_le h
  rw [tarO_iff] at h
  by_cases hm : (trk cl z).2 ∈ (trk cl z).1
  · rw [if_pos hm] at h
    cases h
    exact ⟨hm, rfl, h2.1, h2.2.1⟩
  · rw [if_neg hm] at h
    cases h
theorem psq_ext {a b : Nat} (h : psq cl z a = psq cl z b) : ∀ d, psq cl z (a + d) = psq cl z (b + d)
  | 0 => h
  | d + 1 => by
    show (psq cl z (a + d)).bind (nxt cl) = (psq cl z (b + d)).bind (nxt cl)
    rw [psq_ext h d]
theorem stp_small {k : Nat} (h : k < t + r) : stp t r k = (k : Int) := by
  unfold stp
  by_cases h1 : (k : Int) < t
  · exact if_pos h1
  · rw [if_neg h1, Int.emod_eq_of_lt (by omega) (by omega)]
    omega
theorem stp_back {k : Nat} (hr : 0 < r) (h : t + r ≤ k) : stp t r k = stp t r ((k - r : Nat) : Int) := by
  unfold stp
  rw [if_neg (by omega), if_neg (by omega)]
  have e : ((k : Nat) : Int) - t = ((k - r : Nat) : Int) - t + r := by omega
  rw [e, Int.add_emod_right]
theorem psq_ring (h : tarO cl z = some (t, r)) : ∀ k : Nat, ∃ j : Nat, stp t r k = (j : Int) ∧ j < t + r ∧ psq cl z k = (trk cl z).1[j]? := by
  obtain ⟨hm, ht, hl, hr⟩ := tarO_some h
  obtain ⟨p1, p2⟩ := trk_psq cl z
  intro k
  induction k using Nat.strongRecOn with
  | ind k ih =>
    by_cases hk : k < t + r
    · refine ⟨k, stp_small hk, hk, ?_⟩
      have hk' : k < (trk cl z).1.length := by omega
      rw [List.getElem?_eq_getElem hk']
      exact p1 k _ (List.getElem?_eq_getElem hk')
    · obtain ⟨j, h1, h2, h3⟩ := ih (k - r) (by omega)
      refine ⟨j, ?_, h2, ?_⟩
      · rw [stp_back hr (by omega), h1]
      · have e0 : psq cl z (t + r) = psq cl z t := by
          rw [hl, p2]
          have := idxOf_get hm
          rw [← ht] at this
          exact (p1 t _ this).symm
        have e1 := psq_ext e0 (k - (t + r))
        rw [show t + r + (k - (t + r)) = k by omega, show t + (k - (t + r)) = k - r by omega] at e1
        rw [e1, h3]
theorem psq_eq (h : tarO cl z = some (t, r)) (a b : Nat) : psq cl z a = psq cl z b ↔ stp t r a = stp t r b := by
  obtain ⟨i, h1, h2, h3⟩ := psq_ring h a
  obtain ⟨j, g1, g2, g3⟩ := psq_ring h b
  obtain ⟨hm, ht, hl, hr⟩ := tarO_some h
  have nd := (trk_end cl z).1.1
  have hi : i < (trk cl z).1.length := by omega
  have hj : j < (trk cl z).1.length := by omega
  rw [h3, g3, h1, g1, List.getElem?_eq_getElem hi, List.getElem?_eq_getElem hj]
  constructor
  · intro e
    have := (List.getElem_inj nd).mp (Option.some.inj e)
    rw [this]
  · intro e
    have : i = j := by omega
    subst this
    rfl
theorem psq_some (h : tarO cl z = some (t, r)) (k : Nat) : (psq cl z k).isSome = true := by
  obtain ⟨i, h1, h2, h3⟩ := psq_ring h k
  obtain ⟨hm, ht, hl, hr⟩ := tarO_some h
  rw [h3, List.getElem?_eq_getElem (by omega)]
  rfl
theorem all_12 : ((List.range 8).all fun t => (List.range 8).all fun r => (decide (r = 0) || decide (7 < t + r)) || (fmm t r 1 2 0).isSome) = true := by decide +kernel
theorem fmm_12 (h1 : t + r ≤ 7) (h2 : 0 < r) : ∃ n : Nat, fmm t r 1 2 0 = some (n : Int) ∧ 0 < n ∧ n ≤ 17 ∧ stp t r n = stp t r ((2 * n : Nat) : Int) ∧ ∀ j : Nat, 0 < j → j < n → stp t r j ≠ stp t r ((2 * j : Nat) : Int) := by
  have h := List.all_eq_true.mp all_12 t (List.mem_range.mpr (by omega))
  have h := List.all_eq_true.mp h r (List.mem_range.mpr (by omega))
  rw [decide_eq_false (by omega), decide_eq_false (by omega)] at h
  obtain ⟨n, hn⟩ := Option.isSome_iff_exists.mp h
  unfold fmm at hn
  obtain ⟨hp, as, bs, e, hb⟩ := List.find?_eq_some_iff_append.mp hn
  have hmem : n ∈ (List.range ((t : Int) + 2 * (r : Int) + 2).toNat).map fun k => (1 : Int) + (k : Nat) := by rw [e]; simp
  obtain ⟨k, hk, ek⟩ := List.mem_map.mp hmem
  rw [List.mem_range] at hk
  refine ⟨1 + k, ?_, by omega, by omega, ?_, fun j j0 j1 => ?_⟩
  · unfold fmm
    rw [hn, ← ek]
    congr 1
  · have hp := of_decide_eq_true hp
    rw [← ek] at hp
    have e1 : (1 : Int) * (1 + (k : Nat)) = ((1 + k : Nat) : Int) := by omega
    have e2 : (0 : Int) + 2 * (1 + (k : Nat)) = ((2 * (1 + k) : Nat) : Int) := by omega
    rw [e1, e2] at hp
    exact hp
  · intro z
    have hjm : ((List.range ((t : Int) + 2 * (r : Int) + 2).toNat).map fun k => (1 : Int) + (k : Nat))[j - 1]? = some (j : Int) := by
      rw [List.getElem?_map, List.getElem?_range (by omega)]
      show some ((1 : Int) + ((j - 1 : Nat) : Int)) = some (j : Int)
      congr 1
      omega
    have hkm : ((List.range ((t : Int) + 2 * (r : Int) + 2).toNat).map fun k => (1 : Int) + (k : Nat))[k]? = some n := by
      rw [List.getElem?_map, List.getElem?_range hk, ← ek]
      rfl
    have hlen : as.length = k := by
      have nd : ((List.range ((t : Int) + 2 * (r : Int) + 2).toNat).map fun k => (1 : Int) + (k : Nat)).Nodup := by
        rw [List.Nodup, List.pairwise_map]
        refine List.Pairwise.imp ?_ (List.nodup_range (n := ((t : Int) + 2 * (r : Int) + 2).toNat))
        intro a b hab
        omega
      have hk1 := (List.getElem?_eq_some_iff.mp hkm)
      have ha : ((List.range ((t : Int) + 2 * (r : Int) + 2).toNat).map fun k => (1 : Int) + (k : Nat))[as.length]? = some n := by
        rw [e, List.getElem?_append_right (Nat.le_refl _), Nat.sub_self]
        rfl
      obtain ⟨l1, g1⟩ := List.getElem?_eq_some_iff.mp ha
      obtain ⟨l2, g2⟩ := hk1
      exact (List.getElem_inj nd).mp (g1.trans g2.symm)
    rw [e, List.getElem?_append_left (by omega)] at hjm
    have := hb (j : Int) (List.mem_of_getElem? hjm)
    rw [Bool.not_eq_true', decide_eq_false_iff_not] at this
    refine this ?_
    have e1 : (1 : Int) * (j : Int) = ((j : Nat) : Int) := by omega
    have e2 : (0 : Int) + 2 * (j : Int) = ((2 * j : Nat) : Int) := by omega
    rw [e1, e2]
    exact z
end
end K66
end
section
set_option Elab.async false
set_option linter.all false
set_option maxRecDepth 100000
set_option maxHeartbeats 4000000
namespace K66
open PySem PySem.Spec PyProof.Rows L2
section
variable {cl : List (Int × Int)} {z : Int} {t r : Nat}
theorem tarO_none (h : tarO cl z = none) : ¬ (trk cl z).2 ∈ (trk cl z).1 ∧ nxt cl (trk cl z).2 = none := by
  rw [tarO_iff] at h
  by_cases hm : (trk cl z).2 ∈ (trk cl z).1
  · rw [if_pos hm] at h
    cases h
  · exact ⟨hm, (trk_end cl z).2.resolve_right hm⟩
theorem psq_over (h : tarO cl z = none) : psq cl z ((trk cl z).1.length + 1) = none := by
  rw [psq_s (trk_psq cl z).2]
  exact (tarO_none h).2
theorem bnd_ok (few : cl.length ≤ 7) : Bnd cl z := by
  intro m hs ha
  have hle := (trk_end cl z).1.le
  cases h : tarO cl z with
  | none =>
    refine Nat.lt_of_not_le fun hm => ?_
    have := psq_le (cl := cl) (px := z) (show (trk cl z).1.length + 1 ≤ 2 * m by omega) hs
    rw [psq_over h] at this
    cases this
  | some tr =>
    obtain ⟨t, r⟩ := tr
    obtain ⟨hm, ht, hl, hr⟩ := tarO_some h
    obtain ⟨n, _, n0, n1, e, _⟩ := fmm_12 (t := t) (r := r) (by omega) hr
    refine Nat.lt_of_not_le fun hmm => ?_
    exact ha n n0 (by omega) ((psq_eq h n (2 * n)).mpr e)
theorem run_ring (few : cl.length ≤ 7) (h : tarO cl z = some (t, r)) {n : Nat} {w : Int} (hn : 1 ≤ n) (h1 : psq cl z n = some w) (h2 : psq cl z (2 * n) = some w) (ha : Apart2 cl z (n - 1)) :
    fmm t r 1 2 0 = some (n : Int) ∧ w = (trk cl z).1.getD (stp t r n).toNat 0 ∧ n ≤ 17 := by
  have hle := (trk_end cl z).1.le
  obtain ⟨hm, ht, hl, hr⟩ := tarO_some h
  obtain ⟨n', e1, n0, n1, e2, e3⟩ := fmm_12 (t := t) (r := r) (by omega) hr
  have en : n = n' := by
    have q := (psq_eq h n (2 * n)).mp (h1.trans h2.symm)
    by_cases a : n < n'
    · exact absurd q (e3 n (by omega) a)
    · by_cases b : n' < n
      · exact absurd ((psq_eq h n' (2 * n')).mpr e2) (ha n' n0 (by omega))
      · omega
  subst en
  obtain ⟨j, j1, j2, j3⟩ := psq_ring h n
  refine ⟨e1, ?_, n1⟩
  have hj : j < (trk cl z).1.length := by omega
  rw [h1, List.getElem?_eq_getElem hj] at j3
  rw [j1, Int.toNat_natCast, List.getD_eq_getElem?_getD, List.getElem?_eq_getElem hj]
  exact Option.some.inj j3
theorem run_end (h : tarO cl z = none) {n : Nat} {w : Int} (hn : 1 ≤ n) (h1 : psq cl z n = some w) (h2 : psq cl z (2 * n) = some w) : False := by
  obtain ⟨hm, hx⟩ := tarO_none h
  obtain ⟨p1, p2⟩ := trk_psq cl z
  have nd := (trk_end cl z).1.1
  have hb : 2 * n ≤ (trk cl z).1.length := Nat.le_of_not_lt fun q => by
    have := psq_le (cl := cl) (px := z) (show (trk cl z).1.length + 1 ≤ 2 * n by omega) (by rw [h2]; rfl)
    rw [psq_over h] at this
    cases this
  have hn1 : n < (trk cl z).1.length := by omega
  have a1 := p1 n _ (List.getElem?_eq_getElem hn1)
  rw [h1] at a1
  by_cases hb2 : 2 * n < (trk cl z).1.length
  · have a2 := p1 (2 * n) _ (List.getElem?_eq_getElem hb2)
    rw [h2] at a2
    have := (List.getElem_inj nd).mp ((Option.some.inj a1).symm.trans (Option.some.inj a2))
    omega
  · have e : 2 * n = (trk cl z).1.length := by omega
    rw [e, p2] at h2
    rw [← Option.some.inj h2] at a1
    exact hm (by rw [Option.some.inj a1]; exact List.getElem_mem hn1)
theorem row_ok (g : GoodC cl) {x : Int} (h : x ∈ (trk cl z).1) : 0 < x ∧ x ≤ 999 := by
  obtain ⟨j, hj⟩ := Option.isSome_iff_exists.mp ((trk_end cl z).1.2 x h)
  have := g.ok _ (nxt_mem hj)
  exact ⟨this.1, this.2.1⟩
theorem row_at (h : tarO cl z = some (t, r)) (n : Nat) : (trk cl z).1.getD (stp t r n).toNat 0 ∈ (trk cl z).1 := by
  obtain ⟨j, j1, j2, j3⟩ := psq_ring h n
  obtain ⟨hm, ht, hl, hr⟩ := tarO_some h
  have hj : j < (trk cl z).1.length := by omega
  rw [j1, Int.toNat_natCast, List.getD_eq_getElem?_getD, List.getElem?_eq_getElem hj]
  exact List.getElem_mem hj
end
/-! ### the same data behind a grown heap -/
mutual
theorem Rp.same {K : PySem.W.Frag} {H H' : Hp} (s : Same H H') : ∀ (d : PyData) (v : V), Rp K H v d → Rp K H' v d
  | .none, _, h => by cases h; exact .non
  | .bool b, _, h => by cases h; exact .bl b
  | .int i, _, h => by cases h; exact .int i
  | .str x, _, h => by cases h; exact .str x
  | .list ds, _, h => by
    cases h with
    | lst a b => exact .lst (s _ _ a) (RpAll.same s ds _ b)
  | .tuple ds, _, h => by
    cases h with
    | tup a b => exact .tup (same_t s a) (RpAll.same s ds _ b)
  | .dict _, _, h => by
    cases h with
    | dic a => exact .dic (s _ _ a)
theorem RpAll.same {K : PySem.W.Frag} {H H' : Hp} (s : Same H H') : ∀ (ds : List PyData) (vs : List V), RpAll K H vs ds → RpAll K H' vs ds
  | [], _, h => by cases h; exact .nil
  | d :: ds, _, h => by
    cases h with
    | cons a b => exact .cons (Rp.same s d _ a) (RpAll.same s ds _ b)
end
/-- flat values as data -/
def flD : V → PyData
  | .bl b => .bool b
  | .int i => .int i
  | .str x => .str x
  | _ => .none
theorem rp_flat {K : PySem.W.Frag} {H : Hp} {v : V} (h : fl v = true) : Rp K H v (flD v) := by
  cases v with
  | non => exact .non
  | bl b => exact .bl b
  | int i => exact .int i
  | str x => exact .str x
  | _ => cases h
end K66
end
section
set_option Elab.async false
set_option linter.all false
set_option maxRecDepth 100000
set_option maxHeartbeats 4000000
namespace K66
open PySem PySem.Spec PyProof.Rows L2
local macro_rules | `(tactic| walk_at "rd") => `(tactic| repeat (first | refine ⟨_, rfl, ?_⟩ | refine ⟨_, _, rfl, rfl, ?_⟩ | refine ⟨rfl, ?_⟩))
local macro_rules | `(tactic| walk_at "hp") => `(tactic| (first | assumption | solve_by_elim (maxDepth := 12)))
local macro_rules | `(tactic| walk_at "pl") => `(tactic| ((repeat (refine putF_lt ?_)); exact Nat.le_of_ble_eq_true rfl))
/-! ## odd values -/
def OddS (K : PySem.W.Frag) (p : Addr) (H : Hp) (v : V) : Prop := ∃ d, bd 3 d = true ∧ ∀ H', But p H H' → Rp K H' v d ∧ NoStore K H' v
theorem OddS.but {K : PySem.W.Frag} {p : Addr} {H H' : Hp} {v : V} (b : But p H H') (h : OddS K p H v) : OddS K p H' v := let ⟨d, x, y⟩ := h; ⟨d, x, fun H2 b2 => y H2 (But.trans b b2)⟩
def spOdd (K : PySem.W.Frag) : Sp := sp1 fun w H Q _ => ∃ p, w = .ref p ∧ WellAt H p ∧ ∀ H' v, But p H H' → WellAt H' p → OddS K p H' v → Q v H'
abbrev N__law_odd : List Str := ["_law_well_here"]
theorem sc__law_odd : FnScope N__law_odd ["_law_well_here"] (defScope s__law_odd) := ⟨rfl, rfl, rfl, by decide +kernel, rfl, by decide +kernel, by decide +kernel⟩
theorem ok_law_odd {P : Program} {w : World} {K : PySem.W.Frag} {mg : Str → Option Value} {base : Heap} (T : TopE K mg) : FnAt P w K mg base CX0 3 (He.ga K "_law_odd") ["_law_well_here"] (spOdd K) := by
  refine fnAt0 (k := 2) T.f_law_odd sc__law_odd len1 (fun _ _ _ _ _ _ us hl => match us, hl with | [_], _ => rfl) (fun cdv A outer s H vs Q E hr h => ?_)
  have hu := hu_of hr
  obtain ⟨v_law_well_here, rfl, h⟩ := h
  refine ⟨_, (pss_one (ps_ret (pe_f (ok_law_pick T) (hr.mono (by decide)) T.g_law_pick pass0 (pa_cons (pv 0) (pa_cons (pe_tup (pa_cons pe_non (pa_cons pe_bl (pa_cons pe_bl (pa_cons pe_int (pa_cons pe_int (pa_cons pe_str (pa_cons pe_str (pa_cons pe_str (pa_cons (pe_tup pa_nil) (pa_cons (pe_tup (pa_cons pe_str pa_nil)) (pa_cons (pe_tup (pa_cons pe_str (pa_cons pe_str (pa_cons pe_non pa_nil)))) (pa_cons (pe_lst pa_nil) (pa_cons (pe_lst (pa_cons pe_str pa_nil)) (pa_cons pe_dnewK (pa_cons (pe_tup (pa_cons (pe_tup pa_nil) pa_nil)) (pa_cons (pe_un un_neg pe_int) pa_nil))))))))))))))))) pa_nil))))), ?_⟩
  obtain ⟨p, rfl, hw, h⟩ := h
  obtain ⟨wa, wb, wc, hwp⟩ := id hw
  have nep : ∀ {H1 : Hp} {a : Addr}, Same H H1 → H1 a = none → a ≠ p := fun s n e => by
    subst e
    rw [s _ _ hwp] at n
    cases n
  refine ⟨_, rfl, sz1000 (Nat.le_of_ble_eq_true rfl), fun a0 n0 => ?_⟩
  generalize e0 : upd H a0 _ = H0
  have s0 := same_of e0 n0
  refine ⟨sz1000 (Nat.le_of_ble_eq_true rfl), fun a1 n1 => ?_⟩
  generalize e1 : upd H0 a1 _ = H1
  have s1 := same_of e1 n1
  have t1 := Same.trans s0 s1
  refine ⟨sz1000 (Nat.le_of_ble_eq_true rfl), fun a2 n2 => ?_⟩
  generalize e2 : upd H1 a2 _ = H2
  have s2 := same_of e2 n2
  have t2 := Same.trans t1 s2
  refine ⟨sz1000 (Nat.le_of_ble_eq_true rfl), fun a3 n3 => ?_⟩
  generalize e3 : upd H2 a3 _ = H3
  have s3 := same_of e3 n3
  have t3 := Same.trans t2 s3
  refine ⟨sz1000 (Nat.le_of_ble_eq_true rfl), fun a4 n4 => ?_⟩
  generalize e4 : upd H3 a4 _ = H4
  have s4 := same_of e4 n4
  have t4 := Same.trans t3 s4
  intro a5 n5
  generalize e5 : upd H4 a5 _ = H5
  have s5 := same_of e5 n5
  have t5 := Same.trans t4 s5
  refine ⟨sz1000 (Nat.le_of_ble_eq_true rfl), fun a6 n6 => ?_⟩
  generalize e6 : upd H5 a6 _ = H6
  have s6 := same_of e6 n6
  have t6 := Same.trans t5 s6
  refine ⟨sz1000 (Nat.le_of_ble_eq_true rfl), fun a7 n7 => ?_⟩
  generalize e7 : upd H6 a7 _ = H7
  have s7 := same_of e7 n7
  have t7 := Same.trans t6 s7
  refine ⟨_, rfl, sz1000 (Nat.le_of_ble_eq_true rfl), fun a8 n8 => ?_⟩
  generalize e8 : upd H7 a8 _ = H8
  have s8 := same_of e8 n8
  have t8 := Same.trans t7 s8
  have h8 := at_of' e8
  have f7 : H8 a7 = some (.tup [.ref a6]) := s8 _ _ (at_of' e7)
  have u7 := Same.trans s7 s8
  have f6 : H8 a6 = some (.tup []) := u7 _ _ (at_of' e6)
  have u6 := Same.trans s6 u7
  have f5 : H8 a5 = some (.dK []) := u6 _ _ (at_of' e5)
  have u5 := Same.trans s5 u6
  have f4 : H8 a4 = some (.lst [.str "x = y"]) := u5 _ _ (at_of' e4)
  have u4 := Same.trans s4 u5
  have f3 : H8 a3 = some (.lst []) := u4 _ _ (at_of' e3)
  have u3 := Same.trans s3 u4
  have f2 : H8 a2 = some (.tup [.str "copy", .str "x", .non]) := u3 _ _ (at_of' e2)
  have u2 := Same.trans s2 u3
  have f1 : H8 a1 = some (.tup [.str "copy"]) := u2 _ _ (at_of' e1)
  have u1 := Same.trans s1 u2
  have f0 : H8 a0 = some (.tup []) := u1 _ _ (at_of' e0)
  have p0 := nep (Same.refl H) n0
  have p1 := nep s0 n1
  have p2 := nep t1 n2
  have p3 := nep t2 n3
  have p4 := nep t3 n4
  have p5 := nep t4 n5
  have p6 := nep t5 n6
  have p7 := nep t6 n7
  have p8 := nep t7 n8
  refine ⟨_, _, rfl, p, a8, _, rfl, rfl, fun H' b => .inr (SqT.of (b _ _ p8 h8)), Nat.le_of_ble_eq_true rfl, Nat.le_of_ble_eq_true rfl, hw.same t8, fun H' v b w hv => h H' v (But.trans (Same.but t8) b) w ?_⟩
  have tr : ∀ {a : Addr} {u : HO}, a ≠ p → H8 a = some u → ∀ {H2 : Hp}, But p H' H2 → H2 a = some u := fun x y _ b2 => (But.trans b b2) _ _ x y
  simp only [List.mem_cons, List.not_mem_nil, or_false] at hv
  rcases hv with rfl | rfl | rfl | rfl | rfl | rfl | rfl | rfl | rfl | rfl | rfl | rfl | rfl | rfl | rfl | rfl
  · exact ⟨.none, rfl, fun H2 b2 => ⟨.non, _, .base .non, T.kit_NoneType⟩⟩
  · exact ⟨.bool true, rfl, fun H2 b2 => ⟨.bl _, _, .base (.bl _), T.kit_bool⟩⟩
  · exact ⟨.bool false, rfl, fun H2 b2 => ⟨.bl _, _, .base (.bl _), T.kit_bool⟩⟩
  · exact ⟨.int 0, rfl, fun H2 b2 => ⟨.int _, _, .base (.int _), T.kit_int⟩⟩
  · exact ⟨.int 3, rfl, fun H2 b2 => ⟨.int _, _, .base (.int _), T.kit_int⟩⟩
  · exact ⟨.str "", by decide +kernel, fun H2 b2 => ⟨.str _, _, .base (.str _), T.kit_str⟩⟩
  · exact ⟨.str "X", by decide +kernel, fun H2 b2 => ⟨.str _, _, .base (.str _), T.kit_str⟩⟩
  · exact ⟨.str "xy", by decide +kernel, fun H2 b2 => ⟨.str _, _, .base (.str _), T.kit_str⟩⟩
  · exact ⟨.tuple [], by decide +kernel, fun H2 b2 => ⟨.tup (SqT.of (tr p0 f0 b2)) .nil, _, .base (.tup (tr p0 f0 b2)), T.kit_tuple⟩⟩
  · exact ⟨.tuple [.str "copy"], by decide +kernel, fun H2 b2 => ⟨.tup (SqT.of (tr p1 f1 b2)) (.cons (.str _) .nil), _, .base (.tup (tr p1 f1 b2)), T.kit_tuple⟩⟩
  · exact ⟨.tuple [.str "copy", .str "x", .none], by decide +kernel, fun H2 b2 => ⟨.tup (SqT.of (tr p2 f2 b2)) (.cons (.str _) (.cons (.str _) (.cons .non .nil))), _, .base (.tup (tr p2 f2 b2)), T.kit_tuple⟩⟩
  · exact ⟨.list [], by decide +kernel, fun H2 b2 => ⟨.lst (tr p3 f3 b2) .nil, _, .base (.lst (tr p3 f3 b2)), T.kit_list⟩⟩
  · exact ⟨.list [.str "x = y"], by decide +kernel, fun H2 b2 => ⟨.lst (tr p4 f4 b2) (.cons (.str _) .nil), _, .base (.lst (tr p4 f4 b2)), T.kit_list⟩⟩
  · exact ⟨.dict [], by decide +kernel, fun H2 b2 => ⟨.dic (tr p5 f5 b2), _, .base (.dK (tr p5 f5 b2)), T.kit_dict⟩⟩
  · exact ⟨.tuple [.tuple []], by decide +kernel, fun H2 b2 => ⟨.tup (SqT.of (tr p7 f7 b2)) (.cons (.tup (SqT.of (tr p6 f6 b2)) .nil) .nil), _, .base (.tup (tr p7 f7 b2)), T.kit_tuple⟩⟩
  · exact ⟨.int (-1), by decide +kernel, fun H2 b2 => ⟨.int _, _, .base (.int _), T.kit_int⟩⟩

end K66
end
section
set_option Elab.async false
set_option linter.all false
set_option maxRecDepth 100000
set_option maxHeartbeats 4000000
namespace K66
open PySem PySem.Spec PyProof.Rows L2
local macro_rules | `(tactic| walk_at "rd") => `(tactic| repeat (first | refine ⟨_, rfl, ?_⟩ | refine ⟨_, _, rfl, rfl, ?_⟩ | refine ⟨rfl, ?_⟩))
local macro_rules | `(tactic| walk_at "hp") => `(tactic| (first | assumption | solve_by_elim (maxDepth := 12)))
local macro_rules | `(tactic| walk_at "pl") => `(tactic| ((repeat (refine putF_lt ?_)); exact Nat.le_of_ble_eq_true rfl))
/-! ## what is refused -/
def FlOk (v : V) : Prop := fl v = true ∧ ∀ n, bd n (flD v) = true
theorem flOk {v : V} (h : fl v = true) (b : bd 0 (flD v) = true) : FlOk v := ⟨h, fun n => by cases v <;> first | (cases n <;> exact b) | cases h⟩
def notLst : HO → Bool
  | .lst _ => false
  | _ => true
theorem but_nl {p a : Addr} {H H' : Hp} {xs : List V} {o : HO} (b : But p H H') (hp : H p = some (.lst xs)) (ha : H a = some o) (hi : notLst o = true) : H' a = some o :=
  b a o (fun e => by subst e; rw [hp] at ha; cases ha; cases hi) ha
theorem StoreAt.butw {K : PySem.W.Frag} {H H' : Hp} {p s : Addr} {px py : Int} {cl : List (Int × Int)} (b : But p H H') (w : WellAt H p) (h : StoreAt K H s px py cl) : StoreAt K H' s px py cl := by
  obtain ⟨_, _, _, hp⟩ := w
  obtain ⟨dx, tn, tc, dp, da, e1, ⟨o, t1, t2, x1, x2, x3, x4⟩, ⟨oc, ts, y1, y2, y3⟩, e4, e5⟩ := h.ob
  have k : ∀ {a : Addr} {u : HO}, H a = some u → notLst u = true → H' a = some u := fun x y => but_nl b hp x y
  exact ⟨dx, tn, tc, dp, da, k e1 rfl, ⟨o, t1, t2, k x1 rfl, x2, k x3 rfl, k x4 rfl⟩, ⟨oc, ts, k y1 rfl, y2, paired_mono (fun _ _ z => k z rfl) y3⟩, k e4 rfl, k e5 rfl⟩
def nD (v : V) : PyData := .list [.str "number", flD v, .bool true]
def uD (v : V) : PyData := .list [.str "name", flD v]
def sD (d : PyData) : PyData := .list [.str "store", d]
theorem rp_n {K : PySem.W.Frag} {H : Hp} {q : Addr} {v : V} (h : H q = some (.lst [.str "number", v, .bl true])) (f : fl v = true) : Rp K H (.ref q) (nD v) := .lst h (.cons (.str _) (.cons (rp_flat f) (.cons (.bl _) .nil)))
theorem rp_u {K : PySem.W.Frag} {H : Hp} {q : Addr} {v : V} (h : H q = some (.lst [.str "name", v])) (f : fl v = true) : Rp K H (.ref q) (uD v) := .lst h (.cons (.str _) (.cons (rp_flat f) .nil))
theorem rp_s {K : PySem.W.Frag} {H : Hp} {q : Addr} {v : V} {d : PyData} (h : H q = some (.lst [.str "store", v])) (f : Rp K H v d) : Rp K H (.ref q) (sD d) := .lst h (.cons (.str _) (.cons f .nil))
def allD (d : PyData) (s b : V) : PyData := .list [nD b, nD b, nD (.int 0), sD d, uD s, sD d, uD s, nD b, nD (.int 2), nD b]
theorem bd_nD {v : V} (h : FlOk v) : bd 4 (nD v) = true := by
  show (decide (3 ≤ 10) && (bd 3 (.str "number") && (bd 3 (flD v) && (bd 3 (.bool true) && true)))) = true
  rw [h.2 3, show bd 3 (.str "number") = true by decide +kernel]
  rfl
theorem bd_uD {v : V} (h : FlOk v) : bd 4 (uD v) = true := by
  show (decide (2 ≤ 10) && (bd 3 (.str "name") && (bd 3 (flD v) && true))) = true
  rw [h.2 3, show bd 3 (.str "name") = true by decide +kernel]
  rfl
theorem bd_sD {d : PyData} (h : bd 3 d = true) : bd 4 (sD d) = true := by
  show (decide (2 ≤ 10) && (bd 3 (.str "store") && (bd 3 d && true))) = true
  rw [h, show bd 3 (.str "store") = true by decide +kernel]
  rfl
theorem bd_allD {d : PyData} {s b : V} (hd : bd 3 d = true) (hs : FlOk s) (hb : FlOk b) : bd 5 (allD d s b) = true := by
  show (decide (10 ≤ 10) && (bd 4 (nD b) && (bd 4 (nD b) && (bd 4 (nD (.int 0)) && (bd 4 (sD d) && (bd 4 (uD s) && (bd 4 (sD d) && (bd 4 (uD s) && (bd 4 (nD b) && (bd 4 (nD (.int 2)) && (bd 4 (nD b) && true))))))))))) = true
  rw [bd_nD hb, bd_sD hd, bd_uD hs, bd_nD (flOk (v := .int 0) rfl (by decide +kernel)), bd_nD (flOk (v := .int 2) rfl (by decide +kernel))]
  rfl
def spRefused (K : PySem.W.Frag) : Sp := sp2 fun w s H Q _ => ∃ p ps px py cl, w = .ref p ∧ s = .ref ps ∧ WellAt H p ∧ StoreAt K H ps px py cl ∧ GoodC cl ∧ cl.length ≤ 7 ∧ ∀ H', But p H H' → Q (.bl true) H'
abbrev N__law_are_refused : List Str := ["_law_well_here", "_law_ours", "_law_odd_here", "_law_strange", "_law_bad", "_law_told", "_law_due"]
theorem sc__law_are_refused : FnScope N__law_are_refused ["_law_well_here", "_law_ours"] (defScope s__law_are_refused) := ⟨rfl, rfl, rfl, by decide +kernel, rfl, by decide +kernel, by decide +kernel⟩
theorem ok_law_are_refused {P : Program} {w : World} {K : PySem.W.Frag} {mg : Str → Option Value} {base : Heap} (T : TopE K mg) : FnAtG P w K mg base CX0 10 (He.ga K "_law_are_refused") ["_law_well_here", "_law_ours"] (spRefused K) := by
  refine fnAtG (k := 9) T.f_law_are_refused sc__law_are_refused len2 (fun _ _ _ _ _ _ us hl => match us, hl with | [_, _], _ => rfl) (fun cdv A outer s H vs Q E hgu hr h => ?_)
  have hu := hu_of hr
  obtain ⟨v_law_well_here, v_law_ours, rfl, h⟩ := h
  refine ⟨_, (pss_cons (ps_par3 (i := 2) (j := 3) (l := 4) rfl sc__law_are_refused.nd rfl rfl rfl (by decide) (by decide) (by decide) rfl rfl rfl (pa_cons (pe_f (ok_law_odd T) (hr.mono (by decide)) T.g_law_odd pass0 (pa_cons (pv 0) pa_nil)) (pa_cons (pe_f (ok_law_pick T) (hr.mono (by decide)) T.g_law_pick pass0 (pa_cons (pv 0) (pa_cons (pe_tup (pa_cons pe_str (pa_cons pe_str (pa_cons pe_str (pa_cons pe_non (pa_cons pe_int (pa_cons pe_str pa_nil))))))) pa_nil))) (pa_cons (pe_f (ok_law_pick T) (hr.mono (by decide)) T.g_law_pick pass0 (pa_cons (pv 0) (pa_cons (pe_tup (pa_cons (pe_un un_neg pe_int) (pa_cons (pe_op op_add (pe_op op_pow pe_int pe_int) pe_int) (pa_cons pe_bl (pa_cons pe_non (pa_cons pe_str pa_nil)))))) pa_nil))) pa_nil))) (by rfl))
    (pss_cons (ps_set (i := 5) sc__law_are_refused.nd rfl (Or.inl rfl) (pe_lst (pa_cons (pe_f (ok_law_error T) (hr.mono (by decide)) T.g_law_error pass0 (pa_cons pe_int (pa_cons (pe_lst (pa_cons (pv 4) (pa_cons pe_int pa_nil))) pa_nil))) (pa_cons (pe_f (ok_law_error T) (hr.mono (by decide)) T.g_law_error pass0 (pa_cons pe_int (pa_cons (pe_lst (pa_cons pe_int (pa_cons (pv 4) pa_nil))) pa_nil))) (pa_cons (pe_f (ok_law_error T) (hr.mono (by decide)) T.g_law_error pass0 (pa_cons pe_int (pa_cons (pe_lst (pa_cons pe_int (pa_cons pe_int pa_nil))) pa_nil))) (pa_cons (pe_f (ok_law_error T) (hr.mono (by decide)) T.g_law_error pass0 (pa_cons pe_int (pa_cons (pe_lst (pa_cons (pv 2) (pa_cons (pv 3) pa_nil))) pa_nil))) pa_nil))))))
    (pss_cons (ps_set (i := 5) sc__law_are_refused.nd rfl (Or.inl rfl) (pe_op op_cat (pv 5) (pe_lst (pa_cons (pe_f (ok_law_error T) (hr.mono (by decide)) T.g_law_error pass0 (pa_cons pe_int (pa_cons (pe_lst (pa_cons (pv 1) (pa_cons (pv 3) pa_nil))) pa_nil))) (pa_cons (pe_f (ok_law_error T) (hr.mono (by decide)) T.g_law_error pass0 (pa_cons pe_int (pa_cons (pe_lst (pa_cons (pv 2) (pa_cons (pv 3) (pa_cons (pv 4) (pa_cons (pv 4) (pa_cons pe_int pa_nil)))))) pa_nil))) (pa_cons (pe_f (ok_law_error T) (hr.mono (by decide)) T.g_law_error pass0 (pa_cons pe_int (pa_cons (pe_lst (pa_cons (pv 1) (pa_cons (pv 3) (pa_cons (pv 4) (pa_cons pe_int (pa_cons pe_int pa_nil)))))) pa_nil))) pa_nil))))))
    (pss_cons (ps_set (i := 5) sc__law_are_refused.nd rfl (Or.inl rfl) (pe_op op_cat (pv 5) (pe_lst (pa_cons (pe_f (ok_law_error T) (hr.mono (by decide)) T.g_law_error pass0 (pa_cons pe_int (pa_cons (pe_lst (pa_cons (pv 1) (pa_cons pe_str (pa_cons (pv 4) (pa_cons (pe_un un_neg pe_int) (pa_cons pe_int pa_nil)))))) pa_nil))) (pa_cons (pe_f (ok_law_error T) (hr.mono (by decide)) T.g_law_error pass0 (pa_cons pe_int (pa_cons (pe_lst (pa_cons (pv 1) (pa_cons pe_str (pa_cons pe_int (pa_cons pe_int (pa_cons (pv 4) pa_nil)))))) pa_nil))) (pa_cons (pe_f (ok_law_error T) (hr.mono (by decide)) T.g_law_error pass0 (pa_cons pe_int (pa_cons (pe_lst (pa_cons (pv 1) (pa_cons pe_str (pa_cons pe_int (pa_cons pe_int (pa_cons (pv 4) pa_nil)))))) pa_nil))) pa_nil))))))
    (pss_cons (ps_set (i := 6) sc__law_are_refused.nd rfl (Or.inl rfl) (pe_lst (pa_cons (pe_lst (pa_cons pe_str (pa_cons (pv 4) (pa_cons pe_bl pa_nil)))) (pa_cons (pe_lst (pa_cons pe_str (pa_cons (pv 4) (pa_cons pe_bl pa_nil)))) (pa_cons (pe_lst (pa_cons pe_str (pa_cons pe_int (pa_cons pe_bl pa_nil)))) (pa_cons (pe_lst (pa_cons pe_str (pa_cons (pv 2) pa_nil))) (pa_cons (pe_lst (pa_cons pe_str (pa_cons (pv 3) pa_nil))) (pa_cons (pe_lst (pa_cons pe_str (pa_cons (pv 2) pa_nil))) pa_nil))))))))
    (pss_one (ps_ret (pe_cmpR op_eq (pe_callB (cr_repr hgu (hu65 hr) T.k_sys) (by rfl) T.z_repr (by decide +kernel) (pa_cons (pv 5) pa_nil)) (pe_callB (cr_repr hgu (hu65 hr) T.k_sys) (by rfl) T.z_repr (by decide +kernel) (pa_cons (pe_op op_cat (pv 6) (pe_lst (pa_cons (pe_lst (pa_cons pe_str (pa_cons (pv 3) pa_nil))) (pa_cons (pe_lst (pa_cons pe_str (pa_cons (pv 4) (pa_cons pe_bl pa_nil)))) (pa_cons (pe_lst (pa_cons pe_str (pa_cons pe_int (pa_cons pe_bl pa_nil)))) (pa_cons (pe_lst (pa_cons pe_str (pa_cons (pv 4) (pa_cons pe_bl pa_nil)))) pa_nil)))))) pa_nil)) (nomark _))))))))), ?_⟩
  obtain ⟨p, ps, px, py, cl, rfl, rfl, hw, st, hg, few, h⟩ := h
  refine ⟨_, rfl, _, rfl, p, rfl, hw, fun H1 vo b1 w1 ho => ?_⟩
  have st1 := st.butw b1 hw
  refine ⟨_, rfl, sz1000 (Nat.le_of_ble_eq_true rfl), fun ts nts => ?_⟩
  generalize e2 : upd H1 ts _ = H2
  have s2 := same_of e2 nts
  have w2 := w1.same s2
  have tp : ts ≠ p := fun e => by
    obtain ⟨_, _, _, hp⟩ := w1
    subst e
    rw [hp] at nts
    cases nts
  refine ⟨_, _, rfl, p, ts, _, rfl, rfl, fun H' b => .inr (SqT.of (b _ _ tp (at_of' e2))), Nat.le_of_ble_eq_true rfl, Nat.le_of_ble_eq_true rfl, w2, fun H3 vs b3 w3 hvs => ?_⟩
  have st3 := (st1.same s2).butw b3 w2
  have fs : FlOk vs ∧ ∀ px py, plc px py vs = none := by
    simp only [List.mem_cons, List.not_mem_nil, or_false] at hvs
    rcases hvs with rfl | rfl | rfl | rfl | rfl | rfl
    · exact ⟨flOk rfl (by decide +kernel), fun _ _ => rfl⟩
    · exact ⟨flOk rfl (by decide +kernel), fun _ _ => rfl⟩
    · exact ⟨flOk rfl (by decide +kernel), fun _ _ => rfl⟩
    · exact ⟨flOk rfl (by decide +kernel), fun _ _ => rfl⟩
    · exact ⟨flOk rfl (by decide +kernel), fun _ _ => rfl⟩
    · exact ⟨flOk rfl (by decide +kernel), fun _ _ => rfl⟩
  refine ⟨_, rfl, _, rfl, _, _, rfl, rfl, cpow _ (by decide) (by decide), _, _, rfl, rfl, sz1000 (Nat.le_of_ble_eq_true rfl), fun tb ntb => ?_⟩
  generalize e4 : upd H3 tb _ = H4
  have s4 := same_of e4 ntb
  have w4 := w3.same s4
  have tbp : tb ≠ p := fun e => by
    obtain ⟨_, _, _, hp⟩ := w3
    subst e
    rw [hp] at ntb
    cases ntb
  refine ⟨_, _, rfl, p, tb, _, rfl, rfl, fun H' b => .inr (SqT.of (b _ _ tbp (at_of' e4))), Nat.le_of_ble_eq_true rfl, Nat.le_of_ble_eq_true rfl, w4, fun Hb vb b5 w5 hvb => ?_⟩
  have stb := (st3.same s4).butw b5 w4
  have fb : FlOk vb ∧ between vb 0 far = false ∧ between vb 1 far = false ∧ between vb 3 far = false := by
    simp only [List.mem_cons, List.not_mem_nil, or_false] at hvb
    rcases hvb with rfl | rfl | rfl | rfl | rfl
    · exact ⟨flOk rfl (by decide +kernel), by decide +kernel, by decide +kernel, by decide +kernel⟩
    · exact ⟨flOk rfl (by decide +kernel), by decide +kernel, by decide +kernel, by decide +kernel⟩
    · exact ⟨flOk rfl (by decide +kernel), rfl, rfl, rfl⟩
    · exact ⟨flOk rfl (by decide +kernel), rfl, rfl, rfl⟩
    · exact ⟨flOk rfl (by decide +kernel), rfl, rfl, rfl⟩
  clear hvs hvb
  obtain ⟨⟨fs1, fs2⟩, fs3⟩ := fs
  have FS : FlOk vs := ⟨fs1, fs2⟩
  obtain ⟨FB, fb1, fb2, fb3⟩ := fb
  have fb0 := FB.1
  have bo : But p H1 Hb := (Same.but s2 |>.trans b3 |>.trans (Same.but s4)).trans b5
  have bH : But p H Hb := But.trans b1 bo
  obtain ⟨d, hd, hod⟩ := ho.but bo
  clear hw st w1 w2 w3 w4 st1 st3 ho
  refine ⟨_, _, _, rfl, ?_⟩
  have T0 : Same Hb Hb := Same.refl Hb
  refine ⟨_, rfl, sz1000 (Nat.le_of_ble_eq_true rfl), fun L1 nL1 => ?_⟩
  generalize eL1 : upd Hb L1 _ = A1
  have tA1 := Same.trans T0 (same_of eL1 nL1)
  refine ⟨_, _, rfl, L1, _, rfl, at_of' eL1, .inl ⟨_, _, vb, rfl, rfl, fb0, rfl, .inl ⟨fb1, rfl⟩, fun B1 q1 sB1 hq1 => ?_⟩⟩
  have tB1 := Same.trans tA1 sB1
  refine ⟨_, rfl, sz1000 (Nat.le_of_ble_eq_true rfl), fun L2 nL2 => ?_⟩
  generalize eL2 : upd B1 L2 _ = A2
  have tA2 := Same.trans tB1 (same_of eL2 nL2)
  refine ⟨_, _, rfl, L2, _, rfl, at_of' eL2, .inl ⟨_, _, vb, rfl, rfl, rfl, fb0, .inr ⟨by decide +kernel, fb2, rfl⟩, fun B2 q2 sB2 hq2 => ?_⟩⟩
  have tB2 := Same.trans tA2 sB2
  refine ⟨sz1000 (Nat.le_of_ble_eq_true rfl), fun L3 nL3 => ?_⟩
  generalize eL3 : upd B2 L3 _ = A3
  have tA3 := Same.trans tB2 (same_of eL3 nL3)
  refine ⟨_, _, rfl, L3, _, rfl, at_of' eL3, .inl ⟨_, _, (.int 0), rfl, rfl, rfl, rfl, .inr ⟨by decide +kernel, by decide +kernel, rfl⟩, fun B3 q3 sB3 hq3 => ?_⟩⟩
  have tB3 := Same.trans tA3 sB3
  refine ⟨_, rfl, _, rfl, sz1000 (Nat.le_of_ble_eq_true rfl), fun L4 nL4 => ?_⟩
  generalize eL4 : upd B3 L4 _ = A4
  have tA4 := Same.trans tB3 (same_of eL4 nL4)
  refine ⟨_, _, rfl, L4, _, rfl, at_of' eL4, .inr (.inl ⟨_, _, rfl, rfl, .inl ⟨(hod A4 (Same.but tA4)).2, fun B4 q4 sB4 hq4 => ?_⟩⟩)⟩
  have tB4 := Same.trans tA4 sB4
  refine ⟨sz1000 (Nat.le_of_ble_eq_true rfl), fun C1 nC1 => ?_⟩
  generalize eC1 : upd B4 C1 _ = HC1
  have sC1 := same_of eC1 nC1
  have tC1 := Same.trans tB4 sC1
  have hC1 := at_of' eC1
  refine ⟨_, rfl, ?_⟩
  refine ⟨_, rfl, _, rfl, sz1000 (Nat.le_of_ble_eq_true rfl), fun L5 nL5 => ?_⟩
  generalize eL5 : upd HC1 L5 _ = A5
  have tA5 := Same.trans tC1 (same_of eL5 nL5)
  refine ⟨_, _, rfl, L5, _, rfl, at_of' eL5, .inr (.inl ⟨_, _, rfl, rfl, .inr ⟨ps, px, py, cl, rfl, (stb.same tA5), hg, fs1, fs3 _ _, fun B5 q5 sB5 hq5 => ?_⟩⟩)⟩
  have tB5 := Same.trans tA5 sB5
  refine ⟨_, rfl, _, rfl, _, rfl, _, rfl, sz1000 (Nat.le_of_ble_eq_true rfl), fun L6 nL6 => ?_⟩
  generalize eL6 : upd B5 L6 _ = A6
  have tA6 := Same.trans tB5 (same_of eL6 nL6)
  refine ⟨_, _, rfl, L6, _, rfl, at_of' eL6, .inr (.inr ⟨_, _, _, _, _, rfl, rfl, .inl ⟨(hod A6 (Same.but tA6)).2, fun B6 q6 sB6 hq6 => ?_⟩⟩)⟩
  have tB6 := Same.trans tA6 sB6
  refine ⟨_, rfl, _, rfl, _, rfl, sz1000 (Nat.le_of_ble_eq_true rfl), fun L7 nL7 => ?_⟩
  generalize eL7 : upd B6 L7 _ = A7
  have tA7 := Same.trans tB6 (same_of eL7 nL7)
  refine ⟨_, _, rfl, L7, _, rfl, at_of' eL7, .inr (.inr ⟨_, _, _, _, _, rfl, rfl, .inr ⟨ps, px, py, cl, rfl, (stb.same tA7), hg, fs1, .inl ⟨fs3 _ _, fun B7 q7 sB7 hq7 => ?_⟩⟩⟩)⟩
  have tB7 := Same.trans tA7 sB7
  refine ⟨sz1000 (Nat.le_of_ble_eq_true rfl), fun C2 nC2 => ?_⟩
  generalize eC2 : upd B7 C2 _ = HC2
  have sC2 := same_of eC2 nC2
  have tC2 := Same.trans tB7 sC2
  have hC2 := at_of' eC2
  have hC1' : HC2 C1 = _ := (Same.trans (Same.trans (Same.trans (Same.trans (Same.trans (Same.trans (same_of eL5 nL5) sB5) (same_of eL6 nL6)) sB6) (same_of eL7 nL7)) sB7) sC2) _ _ hC1
  refine ⟨C1, C2, _, _, rfl, rfl, hC1', hC2, sz1000 (Nat.le_of_ble_eq_true rfl), fun D1 nD1 => ?_⟩
  generalize eD1 : upd HC2 D1 _ = HD1
  have sD1 := same_of eD1 nD1
  have tD1 := Same.trans tC2 sD1
  have hD1 := at_of' eD1
  refine ⟨_, rfl, ?_⟩
  refine ⟨_, rfl, _, rfl, _, rfl, sz1000 (Nat.le_of_ble_eq_true rfl), fun L8 nL8 => ?_⟩
  generalize eL8 : upd HD1 L8 _ = A8
  have tA8 := Same.trans tD1 (same_of eL8 nL8)
  refine ⟨_, _, rfl, L8, _, rfl, at_of' eL8, .inr (.inr ⟨_, _, _, _, _, rfl, rfl, .inr ⟨ps, px, py, cl, rfl, (stb.same tA8), hg, rfl, .inr ⟨px, vb, rfl, few, ⟨fb0, rfl, rfl, .inl ⟨fb1, rfl⟩⟩, fun B8 q8 sB8 hq8 => ?_⟩⟩⟩)⟩
  have tB8 := Same.trans tA8 sB8
  refine ⟨_, rfl, _, rfl, sz1000 (Nat.le_of_ble_eq_true rfl), fun L9 nL9 => ?_⟩
  generalize eL9 : upd B8 L9 _ = A9
  have tA9 := Same.trans tB8 (same_of eL9 nL9)
  refine ⟨_, _, rfl, L9, _, rfl, at_of' eL9, .inr (.inr ⟨_, _, _, _, _, rfl, rfl, .inr ⟨ps, px, py, cl, rfl, (stb.same tA9), hg, rfl, .inr ⟨px, (.int 2), rfl, few, ⟨rfl, rfl, fb0, .inr ⟨3, rfl, by decide +kernel, .inl ⟨by decide +kernel, rfl⟩⟩⟩, fun B9 q9 sB9 hq9 => ?_⟩⟩⟩)⟩
  have tB9 := Same.trans tA9 sB9
  refine ⟨_, rfl, _, rfl, sz1000 (Nat.le_of_ble_eq_true rfl), fun L10 nL10 => ?_⟩
  generalize eL10 : upd B9 L10 _ = A10
  have tA10 := Same.trans tB9 (same_of eL10 nL10)
  refine ⟨_, _, rfl, L10, _, rfl, at_of' eL10, .inr (.inr ⟨_, _, _, _, _, rfl, rfl, .inr ⟨ps, px, py, cl, rfl, (stb.same tA10), hg, rfl, .inr ⟨px, vb, rfl, few, ⟨rfl, rfl, fb0, .inr ⟨3, rfl, by decide +kernel, .inr ⟨4, rfl, by decide +kernel, fb1, rfl⟩⟩⟩, fun B10 q10 sB10 hq10 => ?_⟩⟩⟩)⟩
  have tB10 := Same.trans tA10 sB10
  refine ⟨sz1000 (Nat.le_of_ble_eq_true rfl), fun C3 nC3 => ?_⟩
  generalize eC3 : upd B10 C3 _ = HC3
  have sC3 := same_of eC3 nC3
  have tC3 := Same.trans tB10 sC3
  have hC3 := at_of' eC3
  have hD1' : HC3 D1 = _ := (Same.trans (Same.trans (Same.trans (Same.trans (Same.trans (Same.trans (same_of eL8 nL8) sB8) (same_of eL9 nL9)) sB9) (same_of eL10 nL10)) sB10) sC3) _ _ hD1
  refine ⟨D1, C3, _, _, rfl, rfl, hD1', hC3, sz1000 (Nat.le_of_ble_eq_true rfl), fun D2 nD2 => ?_⟩
  generalize eD2 : upd HC3 D2 _ = HD2
  have sD2 := same_of eD2 nD2
  have tD2 := Same.trans tC3 sD2
  have hD2 := at_of' eD2
  refine ⟨_, rfl, sz1000 (Nat.le_of_ble_eq_true rfl), fun E1 nE1 => ?_⟩
  generalize eE1 : upd HD2 E1 _ = HE1
  have sE1 := same_of eE1 nE1
  have tE1 := Same.trans tD2 sE1
  have hE1 := at_of' eE1
  refine ⟨_, rfl, sz1000 (Nat.le_of_ble_eq_true rfl), fun E2 nE2 => ?_⟩
  generalize eE2 : upd HE1 E2 _ = HE2
  have sE2 := same_of eE2 nE2
  have tE2 := Same.trans tE1 sE2
  have hE2 := at_of' eE2
  refine ⟨sz1000 (Nat.le_of_ble_eq_true rfl), fun E3 nE3 => ?_⟩
  generalize eE3 : upd HE2 E3 _ = HE3
  have sE3 := same_of eE3 nE3
  have tE3 := Same.trans tE2 sE3
  have hE3 := at_of' eE3
  refine ⟨_, rfl, sz1000 (Nat.le_of_ble_eq_true rfl), fun E4 nE4 => ?_⟩
  generalize eE4 : upd HE3 E4 _ = HE4
  have sE4 := same_of eE4 nE4
  have tE4 := Same.trans tE3 sE4
  have hE4 := at_of' eE4
  refine ⟨_, rfl, sz1000 (Nat.le_of_ble_eq_true rfl), fun E5 nE5 => ?_⟩
  generalize eE5 : upd HE4 E5 _ = HE5
  have sE5 := same_of eE5 nE5
  have tE5 := Same.trans tE4 sE5
  have hE5 := at_of' eE5
  refine ⟨_, rfl, sz1000 (Nat.le_of_ble_eq_true rfl), fun E6 nE6 => ?_⟩
  generalize eE6 : upd HE5 E6 _ = HE6
  have sE6 := same_of eE6 nE6
  have tE6 := Same.trans tE5 sE6
  have hE6 := at_of' eE6
  refine ⟨sz1000 (Nat.le_of_ble_eq_true rfl), fun F1 nF1 => ?_⟩
  generalize eF1 : upd HE6 F1 _ = HF1
  have sF1 := same_of eF1 nF1
  have tF1 := Same.trans tE6 sF1
  have hF1 := at_of' eF1
  have hD2' : HF1 D2 = _ := (Same.trans (Same.trans (Same.trans (Same.trans (Same.trans (Same.trans sE1 sE2) sE3) sE4) sE5) sE6) sF1) _ _ hD2
  have z_HF1 : Same HF1 HF1 := Same.refl HF1
  have z_HE6 : Same HE6 HF1 := Same.trans (sF1) z_HF1
  have z_HE5 : Same HE5 HF1 := Same.trans (sE6) z_HE6
  have z_HE4 : Same HE4 HF1 := Same.trans (sE5) z_HE5
  have z_HE3 : Same HE3 HF1 := Same.trans (sE4) z_HE4
  have z_HE2 : Same HE2 HF1 := Same.trans (sE3) z_HE3
  have z_HE1 : Same HE1 HF1 := Same.trans (sE2) z_HE2
  have z_HD2 : Same HD2 HF1 := Same.trans (sE1) z_HE1
  have z_HC3 : Same HC3 HF1 := Same.trans (sD2) z_HD2
  have z_B10 : Same B10 HF1 := Same.trans (sC3) z_HC3
  have z_A10 : Same A10 HF1 := Same.trans (sB10) z_B10
  have z_B9 : Same B9 HF1 := Same.trans (same_of eL10 nL10) z_A10
  have z_A9 : Same A9 HF1 := Same.trans (sB9) z_B9
  have z_B8 : Same B8 HF1 := Same.trans (same_of eL9 nL9) z_A9
  have z_A8 : Same A8 HF1 := Same.trans (sB8) z_B8
  have z_HD1 : Same HD1 HF1 := Same.trans (same_of eL8 nL8) z_A8
  have z_HC2 : Same HC2 HF1 := Same.trans (sD1) z_HD1
  have z_B7 : Same B7 HF1 := Same.trans (sC2) z_HC2
  have z_A7 : Same A7 HF1 := Same.trans (sB7) z_B7
  have z_B6 : Same B6 HF1 := Same.trans (same_of eL7 nL7) z_A7
  have z_A6 : Same A6 HF1 := Same.trans (sB6) z_B6
  have z_B5 : Same B5 HF1 := Same.trans (same_of eL6 nL6) z_A6
  have z_A5 : Same A5 HF1 := Same.trans (sB5) z_B5
  have z_HC1 : Same HC1 HF1 := Same.trans (same_of eL5 nL5) z_A5
  have z_B4 : Same B4 HF1 := Same.trans (sC1) z_HC1
  have z_A4 : Same A4 HF1 := Same.trans (sB4) z_B4
  have z_B3 : Same B3 HF1 := Same.trans (same_of eL4 nL4) z_A4
  have z_A3 : Same A3 HF1 := Same.trans (sB3) z_B3
  have z_B2 : Same B2 HF1 := Same.trans (same_of eL3 nL3) z_A3
  have z_A2 : Same A2 HF1 := Same.trans (sB2) z_B2
  have z_B1 : Same B1 HF1 := Same.trans (same_of eL2 nL2) z_A2
  have odF : Rp K HF1 vo d := (hod HF1 (Same.but tF1)).1
  have dT : Rp K HF1 (.ref D2) (allD d vs vb) := .lst hD2' (.cons (rp_n (z_B1 _ _ hq1) fb0) (.cons (rp_n (z_B2 _ _ hq2) fb0) (.cons (rp_n (z_B3 _ _ hq3) rfl) (.cons (rp_s (z_B4 _ _ hq4) odF) (.cons (rp_u (z_B5 _ _ hq5) fs1) (.cons (rp_s (z_B6 _ _ hq6) odF) (.cons (rp_u (z_B7 _ _ hq7) fs1) (.cons (rp_n (z_B8 _ _ hq8) fb0) (.cons (rp_n (z_B9 _ _ hq9) rfl) (.cons (rp_n (z_B10 _ _ hq10) fb0) .nil))))))))))
  have hb5 := bd_allD (d := d) (s := vs) (b := vb) hd FS FB
  refine ⟨_, rfl, D2, _, rfl, dT, hb5, ?_⟩
  refine ⟨_, rfl, ?_⟩
  refine ⟨_, rfl, sz1000 (Nat.le_of_ble_eq_true rfl), fun G1 nG1 => ?_⟩
  generalize eG1 : upd HF1 G1 _ = HG1
  have sG1 := same_of eG1 nG1
  have tG1 := Same.trans tF1 sG1
  have hG1 := at_of' eG1
  refine ⟨_, rfl, sz1000 (Nat.le_of_ble_eq_true rfl), fun G2 nG2 => ?_⟩
  generalize eG2 : upd HG1 G2 _ = HG2
  have sG2 := same_of eG2 nG2
  have tG2 := Same.trans tG1 sG2
  have hG2 := at_of' eG2
  refine ⟨sz1000 (Nat.le_of_ble_eq_true rfl), fun G3 nG3 => ?_⟩
  generalize eG3 : upd HG2 G3 _ = HG3
  have sG3 := same_of eG3 nG3
  have tG3 := Same.trans tG2 sG3
  have hG3 := at_of' eG3
  refine ⟨_, rfl, sz1000 (Nat.le_of_ble_eq_true rfl), fun G4 nG4 => ?_⟩
  generalize eG4 : upd HG3 G4 _ = HG4
  have sG4 := same_of eG4 nG4
  have tG4 := Same.trans tG3 sG4
  have hG4 := at_of' eG4
  refine ⟨sz1000 (Nat.le_of_ble_eq_true rfl), fun F2 nF2 => ?_⟩
  generalize eF2 : upd HG4 F2 _ = HF2
  have sF2 := same_of eF2 nF2
  have tF2 := Same.trans tG4 sF2
  have hF2 := at_of' eF2
  have hF1' : HF2 F1 = _ := (Same.trans (Same.trans (Same.trans (Same.trans sG1 sG2) sG3) sG4) sF2) _ _ hF1
  refine ⟨F1, F2, _, _, rfl, rfl, hF1', hF2, sz1000 (Nat.le_of_ble_eq_true rfl), fun J nJ => ?_⟩
  generalize eJ : upd HF2 J _ = HJ
  have sJ := same_of eJ nJ
  have tJ := Same.trans tF2 sJ
  have hJ := at_of' eJ
  have y_HJ : Same HJ HJ := Same.refl HJ
  have y_HF2 : Same HF2 HJ := Same.trans (sJ) y_HJ
  have y_HG4 : Same HG4 HJ := Same.trans (sF2) y_HF2
  have y_HG3 : Same HG3 HJ := Same.trans (sG4) y_HG4
  have y_HG2 : Same HG2 HJ := Same.trans (sG3) y_HG3
  have y_HG1 : Same HG1 HJ := Same.trans (sG2) y_HG2
  have y_HF1 : Same HF1 HJ := Same.trans (sG1) y_HG1
  have y_HE6 : Same HE6 HJ := Same.trans (sF1) y_HF1
  have y_HE5 : Same HE5 HJ := Same.trans (sE6) y_HE6
  have y_HE4 : Same HE4 HJ := Same.trans (sE5) y_HE5
  have y_HE3 : Same HE3 HJ := Same.trans (sE4) y_HE4
  have y_HE2 : Same HE2 HJ := Same.trans (sE3) y_HE3
  have y_HE1 : Same HE1 HJ := Same.trans (sE2) y_HE2
  have odJ : Rp K HJ vo d := (hod HJ (Same.but tJ)).1
  have dU : Rp K HJ (.ref J) (allD d vs vb) := .lst hJ (.cons (rp_n (y_HE1 _ _ hE1) fb0) (.cons (rp_n (y_HE2 _ _ hE2) fb0) (.cons (rp_n (y_HE3 _ _ hE3) rfl) (.cons (rp_s (y_HE4 _ _ hE4) odJ) (.cons (rp_u (y_HE5 _ _ hE5) fs1) (.cons (rp_s (y_HE6 _ _ hE6) odJ) (.cons (rp_u (y_HG1 _ _ hG1) fs1) (.cons (rp_n (y_HG2 _ _ hG2) fb0) (.cons (rp_n (y_HG3 _ _ hG3) rfl) (.cons (rp_n (y_HG4 _ _ hG4) fb0) .nil))))))))))
  refine ⟨J, _, rfl, dU, hb5, rfl, Qb (decide_eq_true rfl) (h HJ (bH.sm tJ))⟩

end K66
end
section
set_option Elab.async false
set_option linter.all false
set_option maxRecDepth 100000
set_option maxHeartbeats 4000000
namespace K66
open PySem PySem.Spec PyProof.Rows L2
local macro_rules | `(tactic| walk_at "rd") => `(tactic| repeat (first | refine ⟨_, rfl, ?_⟩ | refine ⟨_, _, rfl, rfl, ?_⟩ | refine ⟨rfl, ?_⟩))
local macro_rules | `(tactic| walk_at "hp") => `(tactic| (first | assumption | solve_by_elim (maxDepth := 12)))
local macro_rules | `(tactic| walk_at "pl") => `(tactic| ((repeat (refine putF_lt ?_)); exact Nat.le_of_ble_eq_true rfl))
/-! ## is_store_right -/
def tD : Option (Nat × Nat) → PyData
  | none => .none
  | some (t, r) => .tuple [.int (t : Nat), .int (r : Nat)]
theorem rp_tar {K : PySem.W.Frag} {H : Hp} {v : V} : ∀ {o : Option (Nat × Nat)}, TarV H v o → Rp K H v (tD o)
  | none, h => by
    have h : v = .non := h
    subst h
    exact .non
  | some (t, r), h => by
    obtain ⟨q, rfl, hq⟩ := (show ∃ q, v = .ref q ∧ H q = some (.tup [.int (t : Nat), .int (r : Nat)]) from h)
    exact .tup (SqT.of hq) (.cons (.int _) (.cons (.int _) .nil))
theorem okI_nat {n : Nat} (h : n < 1000) : okI (n : Int) = true := by
  unfold okI
  rw [decide_eq_true (by omega : (0 : Int) ≤ n), decide_eq_true (by omega : (n : Int) < 1000)]
  rfl
theorem okI_of {i : Int} (h : 0 < i ∧ i ≤ 999) : okI i = true := by
  unfold okI
  rw [decide_eq_true (by omega : (0 : Int) ≤ i), decide_eq_true (by omega : i < 1000)]
  rfl
theorem bd_tD {n : Nat} {o : Option (Nat × Nat)} (h : ∀ t r, o = some (t, r) → t < 1000 ∧ r < 1000) : bd (n + 1) (tD o) = true := by
  cases o with
  | none => rfl
  | some tr =>
    obtain ⟨t, r⟩ := tr
    obtain ⟨h1, h2⟩ := h t r rfl
    show (decide (2 ≤ 10) && (bd n (.int (t : Nat)) && (bd n (.int (r : Nat)) && true))) = true
    have e1 : bd n (.int (t : Nat)) = true := by cases n <;> exact okI_nat h1
    have e2 : bd n (.int (r : Nat)) = true := by cases n <;> exact okI_nat h2
    rw [e1, e2]
    rfl
theorem mp_flat {cl : List (Int × Int)} {x : Int} {a g e : Nat} : fl (mpV cl x a g e) = true := by
  cases h : tarO cl x with
  | none => rw [mpV_none h]; rfl
  | some tr =>
    obtain ⟨t, r⟩ := tr
    rw [mpV_some h]
    cases fmm t r a (a + g) e <;> rfl
theorem bd_mp {n : Nat} {cl : List (Int × Int)} {x : Int} {a g e : Nat} (hg : GoodC cl) (few : cl.length ≤ 7) (ha : a < 4) (hgn : g < 4) (he : e < 7) : bd n (flD (mpV cl x a g e)) = true := by
  cases h : tarO cl x with
  | none =>
    rw [mpV_none h]
    cases n <;> rfl
  | some tr =>
    obtain ⟨t, r⟩ := tr
    rw [mpV_some h]
    obtain ⟨e1, e2, e3⟩ := tarO_le h
    obtain ⟨o, _, hfm, hpos⟩ := ft_ok (t := t) (r := r) (by omega) e2 ha hgn he
    rw [hfm]
    cases o with
    | none => cases n <;> rfl
    | some k =>
      obtain ⟨k1, k2⟩ := hpos k rfl
      have hk : 0 ≤ (a : Int) * k := Int.mul_nonneg (by omega) (by omega)
      obtain ⟨j, hj⟩ : ∃ j : Nat, (a : Int) * k = (j : Int) := ⟨((a : Int) * k).toNat, by omega⟩
      have hm := row_at h j
      have := okI_of (row_ok hg hm)
      show bd n (.int ((trk cl x).1.getD (stp t r (a * k)).toNat 0)) = true
      rw [hj]
      cases n <;> exact this
def stD (cl : List (Int × Int)) (x : Int) (a g e : Nat) : PyData := .list [tD (tarO cl x), tD (tarO cl x), flD (mpV cl x a g e), flD (mpV cl x a g e)]
theorem bd_st {cl : List (Int × Int)} {x : Int} {a g e : Nat} (hg : GoodC cl) (few : cl.length ≤ 7) (ha : a < 4) (hgn : g < 4) (he : e < 7) : bd 5 (stD cl x a g e) = true := by
  show (decide (4 ≤ 10) && (bd 4 (tD (tarO cl x)) && (bd 4 (tD (tarO cl x)) && (bd 4 (flD (mpV cl x a g e)) && (bd 4 (flD (mpV cl x a g e)) && true))))) = true
  rw [bd_tD fun t r h => (by have := tarO_le h; omega), bd_mp hg few ha hgn he]
  rfl
def spStoreRight (K : PySem.W.Frag) : Sp := sp3 fun w mn s H Q _ => ∃ p m hd ld ps x y ul cl, w = .ref p ∧ mn = .ref m ∧ s = .ref ps ∧ WellAt H p ∧ MineAt H m hd ld x y ul ∧ ul.length ≤ 7 ∧ StoreAt K H ps x y cl ∧ GoodC cl ∧ cl.length ≤ 7 ∧ trk cl x = trk ul x ∧
  ∀ H', But p H H' → WellAt H' p → Q (.bl true) H'
abbrev N__law_is_store_right : List Str := ["_law_well_here", "_law_mine", "_law_ours", "_law_row", "_law_tail_here", "_law_calm", "_law_quick", "_law_gap", "_law_due", "_law_where", "_law_often", "_law_told"]
theorem sc__law_is_store_right : FnScope N__law_is_store_right ["_law_well_here", "_law_mine", "_law_ours"] (defScope s__law_is_store_right) := ⟨rfl, rfl, rfl, by decide +kernel, rfl, by decide +kernel, by decide +kernel⟩
theorem ok_law_is_store_right {P : Program} {w : World} {K : PySem.W.Frag} {mg : Str → Option Value} {base : Heap} (T : TopE K mg) : FnAtG P w K mg base CX0 10 (He.ga K "_law_is_store_right") ["_law_well_here", "_law_mine", "_law_ours"] (spStoreRight K) := by
  refine fnAtG (k := 9) T.f_law_is_store_right sc__law_is_store_right len3 (fun _ _ _ _ _ _ us hl => match us, hl with | [_, _, _], _ => rfl) (fun cdv A outer s H vs Q E hgu hr h => ?_)
  have hu := hu_of hr
  obtain ⟨v_law_well_here, v_law_mine, v_law_ours, rfl, h⟩ := h
  refine ⟨_, (pss_cons (ps_asg (pe_f (ok_law_track T) (hr.mono (by decide)) T.g_law_track pass0 (pa_cons (pv 1) (pa_cons pe_str pa_nil))) (pg_unl (by rfl) (pgs_cons (pg_name (i := 3) sc__law_is_store_right.nd rfl (Or.inl rfl)) (pgs_cons (pg_name (i := 4) sc__law_is_store_right.nd rfl (Or.inl rfl)) pgs_nil))))
    (pss_cons (ps_set (i := 5) sc__law_is_store_right.nd rfl (Or.inl rfl) (pe_f (ok_law_take T) (hr.mono (by decide)) T.g_law_take pass0 (pa_cons (pv 0) (pa_cons pe_int pa_nil))))
    (pss_cons (ps_asg (pe_tup (pa_cons (pe_op op_add (pv 5) (pe_f (ok_law_take T) (hr.mono (by decide)) T.g_law_take pass0 (pa_cons (pv 0) (pa_cons pe_int pa_nil)))) (pa_cons (pe_f (ok_law_take T) (hr.mono (by decide)) T.g_law_take pass0 (pa_cons (pv 0) (pa_cons pe_int pa_nil))) (pa_cons pe_non (pa_cons pe_non pa_nil))))) (pg_tup (by rfl) (pgs_cons (pg_name (i := 6) sc__law_is_store_right.nd rfl (Or.inl rfl)) (pgs_cons (pg_name (i := 7) sc__law_is_store_right.nd rfl (Or.inl rfl)) (pgs_cons (pg_name (i := 8) sc__law_is_store_right.nd rfl (Or.inl rfl)) (pgs_cons (pg_name (i := 9) sc__law_is_store_right.nd rfl (Or.inl rfl)) pgs_nil))))))
    (pss_cons (ps_if (pt_cmpR op_ge (pv 4) pe_int (nomark _)) (pss_cons (ps_set (i := 8) sc__law_is_store_right.nd rfl (Or.inl rfl) (pe_tup (pa_cons (pv 4) (pa_cons (pe_op op_sub (pe_callB call_len_seq (by rfl) T.z_len (by decide +kernel) (pa_cons (pv 3) pa_nil)) (pv 4)) pa_nil))))
    (pss_cons (ps_set (i := 10) sc__law_is_store_right.nd rfl (Or.inl rfl) (pe_f (ok_law_first_meeting T) (hr.mono (by decide)) T.g_law_first_meeting pass0 (pa_cons (pv 4) (pa_cons (pe_op op_sub (pe_callB call_len_seq (by rfl) T.z_len (by decide +kernel) (pa_cons (pv 3) pa_nil)) (pv 4)) (pa_cons (pv 5) (pa_cons (pv 6) (pa_cons (pv 7) pa_nil)))))))
    (pss_one (ps_set (i := 9) sc__law_is_store_right.nd rfl (Or.inl rfl) (pe_ifExp (pt_cmpR op_isN (pv 10) pe_non (nomark _)) pe_non (pe_ix ix_list (pv 3) (pe_f (ok_law_stop T) (hr.mono (by decide)) T.g_law_stop pass0 (pa_cons (pv 4) (pa_cons (pe_op op_sub (pe_callB call_len_seq (by rfl) T.z_len (by decide +kernel) (pa_cons (pv 3) pa_nil)) (pv 4)) (pa_cons (pe_op op_mul (pv 5) (pv 10)) pa_nil)))) (fun _ _ => rfl))))))) pss_nil)
    (pss_cons (ps_set (i := 11) sc__law_is_store_right.nd rfl (Or.inl rfl) (pe_lst (pa_cons (pe_f (ok_track_of T) (hr.mono (by decide)) T.g_track_of passL (pa_cons (pv 2) (pa_cons pe_str pa_nil))) (pa_cons (pe_fk (okK_track_of T) (hr.mono (by decide)) T.g_track_of passL (pk_cons (pv 2) (pk_cons pe_str pk_nil))) (pa_cons (pe_f (ok_meeting_place T) (hr.mono (by decide)) T.g_meeting_place passL (pa_cons (pv 2) (pa_cons pe_str (pa_cons (pv 5) (pa_cons (pv 6) (pa_cons (pv 7) pa_nil)))))) pa_nil)))))
    (pss_one (ps_ret (pe_cmpR op_eq (pe_callB (cr_repr hgu (hu65 hr) T.k_sys) (by rfl) T.z_repr (by decide +kernel) (pa_cons (pe_op op_cat (pv 11) (pe_lst (pa_cons (pe_fk (okK_meeting_place T) (hr.mono (by decide)) T.g_meeting_place passL (pk_cons (pv 2) (pk_cons pe_str (pk_cons (pv 5) (pk_cons (pv 6) (pk_cons (pv 7) pk_nil)))))) pa_nil))) pa_nil)) (pe_callB (cr_repr hgu (hu65 hr) T.k_sys) (by rfl) T.z_repr (by decide +kernel) (pa_cons (pe_lst (pa_cons (pv 8) (pa_cons (pv 8) (pa_cons (pv 9) (pa_cons (pv 9) pa_nil))))) pa_nil)) (nomark _))))))))), ?_⟩
  obtain ⟨p, m, hd, ld, ps, x, y, ul, cl, rfl, rfl, rfl, hw, hm, fu, st, hg, few, et, h⟩ := h
  obtain ⟨wa, wb, wc, hwp⟩ := id hw
  refine ⟨_, rfl, _, _, rfl, m, hd, ld, x, y, ul, rfl, rfl, hm, by omega, fun H1 q rw' s1 nrw hq hrow => ?_⟩
  have w1 := hw.same s1
  have rp : rw' ≠ p := fun e => by subst e; rw [hwp] at nrw; cases nrw
  refine ⟨q, _, rfl, SqL.of hq, rfl, _, _, rfl, _, _, rfl, rfl, ?_⟩
  refine ⟨_, rfl, _, _, rfl, p, _, rfl, rfl, by decide, by decide, w1, fun H2 aI b2 w2 a0 a1 => ?_⟩
  obtain ⟨a, rfl⟩ : ∃ a : Nat, aI = (a : Int) := ⟨aI.toNat, by omega⟩
  have ha : a < 4 := by omega
  refine ⟨_, rfl, _, rfl, _, _, rfl, p, _, rfl, rfl, by decide, by decide, w2, fun H3 gI b3 w3 g0 g1 => ?_⟩
  obtain ⟨g, rfl⟩ : ∃ g : Nat, gI = (g : Int) := ⟨gI.toNat, by omega⟩
  have hgn : g < 4 := by omega
  refine ⟨_, _, rfl, rfl, _, rfl, _, _, rfl, p, _, rfl, rfl, by decide, by decide, w3, fun H4 eI b4 w4 e0 e1 => ?_⟩
  obtain ⟨e, rfl⟩ : ∃ e : Nat, eI = (e : Int) := ⟨eI.toNat, by omega⟩
  have he : e < 7 := by omega
  refine ⟨sz1000 (Nat.le_of_ble_eq_true rfl), fun t0 nt0 => ?_⟩
  generalize eH5 : upd H4 t0 _ = H5
  have s5 := same_of eH5 nt0
  have b15 : But p H1 H5 := (But.trans (But.trans b2 b3) b4).sm s5
  have b05 : But p H H5 := But.trans (Same.but s1) b15
  have w5 := w4.same s5
  refine ⟨t0, _, rfl, SqT.of (at_of' eH5), rfl, _, _, rfl, _, _, rfl, _, _, rfl, _, _, rfl, rfl, ?_⟩
  have hrow5 := b15 _ _ rp hrow
  have st5 := st.butw b05 hw
  have hb5 := bd_st (x := x) hg few ha hgn he
  have etar := tarO_iff (cl := cl) (z := x)
  rw [et] at etar
  have oka : okM (a : Int) = true := by unfold okM; rw [decide_eq_true (by omega), decide_eq_true (by omega)]; rfl
  have okag : okM ((a : Int) + (g : Int)) = true := by unfold okM; rw [decide_eq_true (by omega), decide_eq_true (by omega)]; rfl
  refine ⟨_, rfl, _, _, rfl, rfl, _, rfl, ?_⟩
  by_cases hin : (trk ul x).2 ∈ (trk ul x).1
  · rw [if_pos hin] at etar
    have etl : tlI ul x = (((trk ul x).1.idxOf (trk ul x).2 : Nat) : Int) := if_pos hin
    rw [etl]
    obtain ⟨l1, l2, l3⟩ := tarO_le etar
    rw [et] at l1 l3
    have hle : (trk ul x).1.idxOf (trk ul x).2 ≤ (trk ul x).1.length := by omega
    generalize (trk ul x).1.idxOf (trk ul x).2 = t at etar l1 l2 l3 hle etl
    generalize hrr : (trk ul x).1.length - t = r at etar l1 l2 l3
    have elen : ((((trk ul x).1.map V.int).length : Nat) : Int) - (t : Int) = (r : Int) := by rw [List.length_map]; omega
    refine iteE (decide_eq_true (by omega)) ⟨_, rfl, _, rfl, rw', _, rfl, .inl (SqL.of hrow5), _, rfl, _, _, rfl, rfl, sz1000 (Nat.le_of_ble_eq_true rfl), fun du ndu => ?_⟩
    generalize e6 : upd H5 du _ = H6
    have s6 := same_of e6 ndu
    have hdu : H6 du = some (.tup [.int (t : Nat), .int ((((trk ul x).1.map V.int).length : Nat) - (t : Int))]) := at_of' e6
    rw [elen] at hdu
    have hrow6 := s6 _ _ hrow5
    have b06 : But p H H6 := b05.sm s6
    have w6 := w5.same s6
    have hD : Rp K H6 (.ref du) (tD (tarO cl x)) := by
      rw [etar]
      exact .tup (SqT.of hdu) (.cons (.int _) (.cons (.int _) .nil))
    have emp := mpV_some (a := a) (g := g) (e := e) etar
    refine ⟨_, rfl, _, rfl, rw', _, rfl, .inl (SqL.of hrow6), _, rfl, _, _, rfl, rfl, _, rfl, _, rfl, _, rfl, _, _, _, _, _, rfl, (t : Int), (r : Int), (a : Int), (a : Int) + (g : Int), (e : Int), rfl, congrArg V.int elen, rfl, rfl, rfl, by omega, by omega, by omega, by omega, oka, okag, ?_⟩
    refine ⟨_, rfl, rfl, _, rfl, ?_⟩
    obtain ⟨o, _, hfm, hpos⟩ := ft_ok (t := t) (r := r) (by omega) l2 ha hgn he
    rw [hfm] at emp ⊢
    cases o with
    | none =>
      refine iteT ?_
      have hW : Rp K H6 .non (flD (mpV cl x a g e)) := by rw [emp]; exact .non
      have st7 : ∀ {H' : Hp}, Same H6 H' → StoreAt K H' ps x y cl := fun s => (st.butw b06 hw).same s
      have hfar : far = 1000000000000000000000000000000 := by decide +kernel
      have tr1 : ∀ {v : V} {H1 H2 : Hp}, Same H1 H2 → TarV H1 v (tarO cl x) → Rp K H2 v (tD (tarO cl x)) := fun s h => Rp.same s _ _ (rp_tar h)
      have key : ∀ (H7 : Hp) (v1 : V), Same H6 H7 → TarV H7 v1 (tarO cl x) → ∀ (H8 : Hp) (v2 : V), Same H7 H8 → TarV H8 v2 (tarO cl x) → ∀ H9, Same H8 H9 → ∀ L, H9 L = none → ∀ H10, upd H9 L (.lst [v1, v2, mpV cl x a g e]) = H10 → ∀ H11, Same H10 H11 → ∀ M, H11 M = none → ∀ H12, upd H11 M (.lst [mpV cl x a g e]) = H12 → ∀ C, H12 C = none → ∀ H13, upd H12 C (.lst ([v1, v2, mpV cl x a g e] ++ [mpV cl x a g e])) = H13 →
          H12 L = some (.lst [v1, v2, mpV cl x a g e]) ∧ H12 M = some (.lst [mpV cl x a g e]) ∧ Same H6 H13 ∧ Rp K H13 (.ref C) (stD cl x a g e) := fun H7 v1 s7 h1 H8 v2 s8 h2 H9 s9 L nL H10 e10 H11 s11 M nM H12 e12 C nC H13 e13 => by
        have s10 := same_of e10 nL
        have s12 := same_of e12 nM
        have s13 := same_of e13 nC
        have z1 := Same.trans (Same.trans (Same.trans (Same.trans (Same.trans s8 s9) s10) s11) s12) s13
        have z2 := Same.trans (Same.trans (Same.trans (Same.trans s9 s10) s11) s12) s13
        exact ⟨s12 _ _ (s11 _ _ (at_of' e10)), at_of' e12, Same.trans s7 z1, .lst (at_of' e13) (.cons (tr1 z1 h1) (.cons (tr1 z2 h2) (.cons (rp_flat mp_flat) (.cons (rp_flat mp_flat) .nil))))⟩
      refine ⟨_, rfl, _, _, rfl, .inr ⟨ps, x, y, cl, rfl, st7 (Same.refl H6), hg, rfl, fun i hi => ?_, fun z => by cases z⟩⟩
      cases (show some x = some i from hi)
      intro v1 H7 s7 hv1
      refine ⟨_, rfl, rfl, rfl, _, _, rfl, .inr ⟨ps, x, y, cl, rfl, st7 s7, hg, rfl, fun i hi => ?_, fun z => by cases z⟩⟩
      cases (show some x = some i from hi)
      intro v2 H8 s8 hv2
      have s78 := Same.trans s7 s8
      refine ⟨_, rfl, _, rfl, _, rfl, _, rfl, _, _, _, _, _, rfl, .inr ⟨ps, x, y, cl, rfl, st7 s78, hg, rfl, fun i hi => ?_, fun z => by cases z⟩⟩
      cases (show some x = some i from hi)
      refine ⟨few, rfl, rfl, rfl, .inr ⟨_, rfl, btwI (by omega) (by omega), .inr ⟨_, rfl, btwI (by omega) (by omega), .inr ⟨_, rfl, btwI (by omega) (by omega), a, g, e, rfl, rfl, rfl, ha, hgn, he, fun H9 s9 => ?_⟩⟩⟩⟩
      refine ⟨sz1000 (Nat.le_of_ble_eq_true rfl), fun L nL => ?_⟩
      generalize e10 : upd H9 L _ = H10
      have s10 := same_of e10 nL
      refine ⟨_, rfl, _, rfl, _, rfl, _, rfl, _, rfl, rfl, rfl, _, _, _, _, _, rfl, .inr ⟨ps, x, y, cl, rfl, st7 (Same.trans (Same.trans s78 s9) s10), hg, rfl, fun i hi => ?_, fun z => by cases z⟩⟩
      cases (show some x = some i from hi)
      refine ⟨few, rfl, rfl, rfl, .inr ⟨_, rfl, btwI (by omega) (by omega), .inr ⟨_, rfl, btwI (by omega) (by omega), .inr ⟨_, rfl, btwI (by omega) (by omega), a, g, e, rfl, rfl, rfl, ha, hgn, he, fun H11 s11 => ?_⟩⟩⟩⟩
      refine ⟨sz1000 (Nat.le_of_ble_eq_true rfl), fun M nM => ?_⟩
      generalize e12 : upd H11 M _ = H12
      have kk' := key H7 v1 s7 hv1 H8 v2 s8 hv2 H9 s9 L nL H10 e10 H11 s11 M nM H12 e12
      have hL12 : H12 L = some (.lst [v1, v2, mpV cl x a g e]) := same_of e12 nM _ _ (s11 _ _ (at_of' e10))
      refine ⟨L, M, _, _, rfl, rfl, hL12, at_of' e12, sz1000 (Nat.le_of_ble_eq_true rfl), fun C nC => ?_⟩
      generalize e13 : upd H12 C _ = H13
      obtain ⟨_, _, s13, dT⟩ := kk' C nC H13 e13
      refine ⟨C, _, rfl, dT, hb5, ?_⟩
      refine ⟨_, rfl, _, rfl, _, rfl, _, rfl, sz1000 (Nat.le_of_ble_eq_true rfl), fun G nG => ?_⟩
      generalize e14 : upd H13 G _ = H14
      have s14 := same_of e14 nG
      have s6e := Same.trans s13 s14
      exact ⟨G, stD cl x a g e, rfl, .lst (at_of' e14) (.cons (Rp.same s6e _ _ hD) (.cons (Rp.same s6e _ _ hD) (.cons (Rp.same s6e _ _ hW) (.cons (Rp.same s6e _ _ hW) .nil)))), hb5, rfl, Qb (decide_eq_true rfl) (h H14 (b06.sm s6e) (w6.same s6e))⟩
    | some k =>
      obtain ⟨k1, k2⟩ := hpos k rfl
      have hk : 0 ≤ (a : Int) * k := Int.mul_nonneg (by omega) (by omega)
      obtain ⟨j, hj⟩ : ∃ j : Nat, stp (t : Int) (r : Int) ((a : Int) * k) = (j : Int) := ⟨(stp (t : Int) (r : Int) ((a : Int) * k)).toNat, by have := stp_lt (t := (t : Int)) (r := (r : Int)) (by omega) (by omega) hk; omega⟩
      have hjl : j < (trk ul x).1.length := by have := stp_lt (t := (t : Int)) (r := (r : Int)) (by omega) (by omega) hk; omega
      have emp2 : mpV cl x a g e = .int (trk ul x).1[j] := by
        rw [emp]
        show V.int ((trk cl x).1.getD (stp t r (a * k)).toNat 0) = _
        rw [hj, et, Int.toNat_natCast, List.getD_eq_getElem?_getD, List.getElem?_eq_getElem hjl]
        rfl
      have hW : Rp K H6 (.int (trk ul x).1[j]) (flD (mpV cl x a g e)) := by rw [emp2]; exact .int _
      refine iteF ⟨_, rfl, _, rfl, _, rfl, rw', _, rfl, .inl (SqL.of hrow6), _, rfl, _, _, rfl, rfl, _, rfl, _, rfl, _, _, rfl, rfl, okM_c oka, _, _, _, rfl, (t : Int), (r : Int), (a : Int) * k, rfl, congrArg V.int elen, rfl, by omega, ?_⟩
      rw [hj]
      refine ⟨rw', _, (j : Int), .int (trk ul x).1[j], rfl, rfl, SqL.of hrow6, atI_nat (by rw [List.getElem?_map, List.getElem?_eq_getElem hjl]; rfl), ?_⟩
      have st7 : ∀ {H' : Hp}, Same H6 H' → StoreAt K H' ps x y cl := fun s => (st.butw b06 hw).same s
      have hfar : far = 1000000000000000000000000000000 := by decide +kernel
      have tr1 : ∀ {v : V} {H1 H2 : Hp}, Same H1 H2 → TarV H1 v (tarO cl x) → Rp K H2 v (tD (tarO cl x)) := fun s h => Rp.same s _ _ (rp_tar h)
      have key : ∀ (H7 : Hp) (v1 : V), Same H6 H7 → TarV H7 v1 (tarO cl x) → ∀ (H8 : Hp) (v2 : V), Same H7 H8 → TarV H8 v2 (tarO cl x) → ∀ H9, Same H8 H9 → ∀ L, H9 L = none → ∀ H10, upd H9 L (.lst [v1, v2, mpV cl x a g e]) = H10 → ∀ H11, Same H10 H11 → ∀ M, H11 M = none → ∀ H12, upd H11 M (.lst [mpV cl x a g e]) = H12 → ∀ C, H12 C = none → ∀ H13, upd H12 C (.lst ([v1, v2, mpV cl x a g e] ++ [mpV cl x a g e])) = H13 →
          H12 L = some (.lst [v1, v2, mpV cl x a g e]) ∧ H12 M = some (.lst [mpV cl x a g e]) ∧ Same H6 H13 ∧ Rp K H13 (.ref C) (stD cl x a g e) := fun H7 v1 s7 h1 H8 v2 s8 h2 H9 s9 L nL H10 e10 H11 s11 M nM H12 e12 C nC H13 e13 => by
        have s10 := same_of e10 nL
        have s12 := same_of e12 nM
        have s13 := same_of e13 nC
        have z1 := Same.trans (Same.trans (Same.trans (Same.trans (Same.trans s8 s9) s10) s11) s12) s13
        have z2 := Same.trans (Same.trans (Same.trans (Same.trans s9 s10) s11) s12) s13
        exact ⟨s12 _ _ (s11 _ _ (at_of' e10)), at_of' e12, Same.trans s7 z1, .lst (at_of' e13) (.cons (tr1 z1 h1) (.cons (tr1 z2 h2) (.cons (rp_flat mp_flat) (.cons (rp_flat mp_flat) .nil))))⟩
      refine ⟨_, rfl, _, _, rfl, .inr ⟨ps, x, y, cl, rfl, st7 (Same.refl H6), hg, rfl, fun i hi => ?_, fun z => by cases z⟩⟩
      cases (show some x = some i from hi)
      intro v1 H7 s7 hv1
      refine ⟨_, rfl, rfl, rfl, _, _, rfl, .inr ⟨ps, x, y, cl, rfl, st7 s7, hg, rfl, fun i hi => ?_, fun z => by cases z⟩⟩
      cases (show some x = some i from hi)
      intro v2 H8 s8 hv2
      have s78 := Same.trans s7 s8
      refine ⟨_, rfl, _, rfl, _, rfl, _, rfl, _, _, _, _, _, rfl, .inr ⟨ps, x, y, cl, rfl, st7 s78, hg, rfl, fun i hi => ?_, fun z => by cases z⟩⟩
      cases (show some x = some i from hi)
      refine ⟨few, rfl, rfl, rfl, .inr ⟨_, rfl, btwI (by omega) (by omega), .inr ⟨_, rfl, btwI (by omega) (by omega), .inr ⟨_, rfl, btwI (by omega) (by omega), a, g, e, rfl, rfl, rfl, ha, hgn, he, fun H9 s9 => ?_⟩⟩⟩⟩
      refine ⟨sz1000 (Nat.le_of_ble_eq_true rfl), fun L nL => ?_⟩
      generalize e10 : upd H9 L _ = H10
      have s10 := same_of e10 nL
      refine ⟨_, rfl, _, rfl, _, rfl, _, rfl, _, rfl, rfl, rfl, _, _, _, _, _, rfl, .inr ⟨ps, x, y, cl, rfl, st7 (Same.trans (Same.trans s78 s9) s10), hg, rfl, fun i hi => ?_, fun z => by cases z⟩⟩
      cases (show some x = some i from hi)
      refine ⟨few, rfl, rfl, rfl, .inr ⟨_, rfl, btwI (by omega) (by omega), .inr ⟨_, rfl, btwI (by omega) (by omega), .inr ⟨_, rfl, btwI (by omega) (by omega), a, g, e, rfl, rfl, rfl, ha, hgn, he, fun H11 s11 => ?_⟩⟩⟩⟩
      refine ⟨sz1000 (Nat.le_of_ble_eq_true rfl), fun M nM => ?_⟩
      generalize e12 : upd H11 M _ = H12
      have kk' := key H7 v1 s7 hv1 H8 v2 s8 hv2 H9 s9 L nL H10 e10 H11 s11 M nM H12 e12
      have hL12 : H12 L = some (.lst [v1, v2, mpV cl x a g e]) := same_of e12 nM _ _ (s11 _ _ (at_of' e10))
      refine ⟨L, M, _, _, rfl, rfl, hL12, at_of' e12, sz1000 (Nat.le_of_ble_eq_true rfl), fun C nC => ?_⟩
      generalize e13 : upd H12 C _ = H13
      obtain ⟨_, _, s13, dT⟩ := kk' C nC H13 e13
      refine ⟨C, _, rfl, dT, hb5, ?_⟩
      refine ⟨_, rfl, _, rfl, _, rfl, _, rfl, sz1000 (Nat.le_of_ble_eq_true rfl), fun G nG => ?_⟩
      generalize e14 : upd H13 G _ = H14
      have s14 := same_of e14 nG
      have s6e := Same.trans s13 s14
      exact ⟨G, stD cl x a g e, rfl, .lst (at_of' e14) (.cons (Rp.same s6e _ _ hD) (.cons (Rp.same s6e _ _ hD) (.cons (Rp.same s6e _ _ hW) (.cons (Rp.same s6e _ _ hW) .nil)))), hb5, rfl, Qb (decide_eq_true rfl) (h H14 (b06.sm s6e) (w6.same s6e))⟩
  · rw [if_neg hin] at etar
    have etl : tlI ul x = -1 := if_neg hin
    rw [etl]
    refine iteO (by decide) ?_
    obtain ⟨H6, eH6⟩ : ∃ H6, H6 = H5 := ⟨_, rfl⟩
    subst eH6
    have b06 := b05
    have w6 := w5
    have hD : Rp K H6 .non (tD (tarO cl x)) := by rw [etar]; exact .non
    have hW : Rp K H6 .non (flD (mpV cl x a g e)) := by rw [mpV_none etar]; exact .non
    have st7 : ∀ {H' : Hp}, Same H6 H' → StoreAt K H' ps x y cl := fun s => (st.butw b06 hw).same s
    have hfar : far = 1000000000000000000000000000000 := by decide +kernel
    have tr1 : ∀ {v : V} {H1 H2 : Hp}, Same H1 H2 → TarV H1 v (tarO cl x) → Rp K H2 v (tD (tarO cl x)) := fun s h => Rp.same s _ _ (rp_tar h)
    have key : ∀ (H7 : Hp) (v1 : V), Same H6 H7 → TarV H7 v1 (tarO cl x) → ∀ (H8 : Hp) (v2 : V), Same H7 H8 → TarV H8 v2 (tarO cl x) → ∀ H9, Same H8 H9 → ∀ L, H9 L = none → ∀ H10, upd H9 L (.lst [v1, v2, mpV cl x a g e]) = H10 → ∀ H11, Same H10 H11 → ∀ M, H11 M = none → ∀ H12, upd H11 M (.lst [mpV cl x a g e]) = H12 → ∀ C, H12 C = none → ∀ H13, upd H12 C (.lst ([v1, v2, mpV cl x a g e] ++ [mpV cl x a g e])) = H13 →
        H12 L = some (.lst [v1, v2, mpV cl x a g e]) ∧ H12 M = some (.lst [mpV cl x a g e]) ∧ Same H6 H13 ∧ Rp K H13 (.ref C) (stD cl x a g e) := fun H7 v1 s7 h1 H8 v2 s8 h2 H9 s9 L nL H10 e10 H11 s11 M nM H12 e12 C nC H13 e13 => by
      have s10 := same_of e10 nL
      have s12 := same_of e12 nM
      have s13 := same_of e13 nC
      have z1 := Same.trans (Same.trans (Same.trans (Same.trans (Same.trans s8 s9) s10) s11) s12) s13
      have z2 := Same.trans (Same.trans (Same.trans (Same.trans s9 s10) s11) s12) s13
      exact ⟨s12 _ _ (s11 _ _ (at_of' e10)), at_of' e12, Same.trans s7 z1, .lst (at_of' e13) (.cons (tr1 z1 h1) (.cons (tr1 z2 h2) (.cons (rp_flat mp_flat) (.cons (rp_flat mp_flat) .nil))))⟩
    refine ⟨_, rfl, _, _, rfl, .inr ⟨ps, x, y, cl, rfl, st7 (Same.refl H6), hg, rfl, fun i hi => ?_, fun z => by cases z⟩⟩
    cases (show some x = some i from hi)
    intro v1 H7 s7 hv1
    refine ⟨_, rfl, rfl, rfl, _, _, rfl, .inr ⟨ps, x, y, cl, rfl, st7 s7, hg, rfl, fun i hi => ?_, fun z => by cases z⟩⟩
    cases (show some x = some i from hi)
    intro v2 H8 s8 hv2
    have s78 := Same.trans s7 s8
    refine ⟨_, rfl, _, rfl, _, rfl, _, rfl, _, _, _, _, _, rfl, .inr ⟨ps, x, y, cl, rfl, st7 s78, hg, rfl, fun i hi => ?_, fun z => by cases z⟩⟩
    cases (show some x = some i from hi)
    refine ⟨few, rfl, rfl, rfl, .inr ⟨_, rfl, btwI (by omega) (by omega), .inr ⟨_, rfl, btwI (by omega) (by omega), .inr ⟨_, rfl, btwI (by omega) (by omega), a, g, e, rfl, rfl, rfl, ha, hgn, he, fun H9 s9 => ?_⟩⟩⟩⟩
    refine ⟨sz1000 (Nat.le_of_ble_eq_true rfl), fun L nL => ?_⟩
    generalize e10 : upd H9 L _ = H10
    have s10 := same_of e10 nL
    refine ⟨_, rfl, _, rfl, _, rfl, _, rfl, _, rfl, rfl, rfl, _, _, _, _, _, rfl, .inr ⟨ps, x, y, cl, rfl, st7 (Same.trans (Same.trans s78 s9) s10), hg, rfl, fun i hi => ?_, fun z => by cases z⟩⟩
    cases (show some x = some i from hi)
    refine ⟨few, rfl, rfl, rfl, .inr ⟨_, rfl, btwI (by omega) (by omega), .inr ⟨_, rfl, btwI (by omega) (by omega), .inr ⟨_, rfl, btwI (by omega) (by omega), a, g, e, rfl, rfl, rfl, ha, hgn, he, fun H11 s11 => ?_⟩⟩⟩⟩
    refine ⟨sz1000 (Nat.le_of_ble_eq_true rfl), fun M nM => ?_⟩
    generalize e12 : upd H11 M _ = H12
    have kk' := key H7 v1 s7 hv1 H8 v2 s8 hv2 H9 s9 L nL H10 e10 H11 s11 M nM H12 e12
    have hL12 : H12 L = some (.lst [v1, v2, mpV cl x a g e]) := same_of e12 nM _ _ (s11 _ _ (at_of' e10))
    refine ⟨L, M, _, _, rfl, rfl, hL12, at_of' e12, sz1000 (Nat.le_of_ble_eq_true rfl), fun C nC => ?_⟩
    generalize e13 : upd H12 C _ = H13
    obtain ⟨_, _, s13, dT⟩ := kk' C nC H13 e13
    refine ⟨C, _, rfl, dT, hb5, ?_⟩
    refine ⟨_, rfl, _, rfl, _, rfl, _, rfl, sz1000 (Nat.le_of_ble_eq_true rfl), fun G nG => ?_⟩
    generalize e14 : upd H13 G _ = H14
    have s14 := same_of e14 nG
    have s6e := Same.trans s13 s14
    exact ⟨G, stD cl x a g e, rfl, .lst (at_of' e14) (.cons (Rp.same s6e _ _ hD) (.cons (Rp.same s6e _ _ hD) (.cons (Rp.same s6e _ _ hW) (.cons (Rp.same s6e _ _ hW) .nil)))), hb5, rfl, Qb (decide_eq_true rfl) (h H14 (b06.sm s6e) (w6.same s6e))⟩

end K66
end
section
set_option Elab.async false
set_option linter.all false
set_option maxRecDepth 100000
set_option maxHeartbeats 4000000
namespace K66
open PySem PySem.Spec PyProof.Rows L2
local macro_rules | `(tactic| walk_at "rd") => `(tactic| repeat (first | refine ⟨_, rfl, ?_⟩ | refine ⟨_, _, rfl, rfl, ?_⟩ | refine ⟨rfl, ?_⟩))
local macro_rules | `(tactic| walk_at "hp") => `(tactic| (first | assumption | solve_by_elim (maxDepth := 12)))
local macro_rules | `(tactic| walk_at "pl") => `(tactic| ((repeat (refine putF_lt ?_)); exact Nat.le_of_ble_eq_true rfl))
/-! ## is_program_right -/
def spProgRight (K : PySem.W.Frag) : Sp := sp1 fun mn H Q _ => ∃ m hd ld px ul, mn = .ref m ∧ MineAt H m hd ld px px ul ∧ GoodU ul ∧ okP px ∧ ∀ H', Same H H' → Q (.bl true) H'
theorem src_sz {a b : Str} (h : decide (a.length + b.length ≤ 200) = true) : a.length + b.length ≤ sizeLine := Nat.le_trans (of_decide_eq_true h) (by rw [sizeLine_eq]; decide)
theorem bd_done {i z : Int} (h1 : okI i = true) (h2 : okI z = true) : bd 5 (.list [.str "done", .int i, .int z, .int z]) = true := by
  show (_ && (_ && (okI i && (okI z && (okI z && true))))) = true
  have w : bd 4 (.str "done") = true := by
    show decide ((reprText "done").length ≤ 40) = true
    decide +kernel
  rw [h1, h2, w]
  rfl
abbrev N__law_is_program_right : List Str := ["_law_mine", "_law_steps_here", "_law_told", "_law_row", "_law_tail_here", "_law_often", "_law_spot", "_law_again"]
theorem sc__law_is_program_right : FnScope N__law_is_program_right ["_law_mine"] (defScope s__law_is_program_right) := ⟨rfl, rfl, rfl, by decide +kernel, rfl, by decide +kernel, by decide +kernel⟩
theorem ok_law_is_program_right {P : Program} {w : World} {K : PySem.W.Frag} {mg : Str → Option Value} {base : Heap} (T : TopE K mg) : FnAtG P w K mg base CX0 15 (He.ga K "_law_is_program_right") ["_law_mine"] (spProgRight K) := by
  refine fnAtG (k := 14) T.f_law_is_program_right sc__law_is_program_right len1 (fun _ _ _ _ _ _ us hl => match us, hl with | [_], _ => rfl) (fun cdv A outer s H vs Q E hgu hr h => ?_)
  have hu := hu_of hr
  obtain ⟨v_law_mine, rfl, h⟩ := h
  refine ⟨_, (pss_cons (ps_set (i := 1) sc__law_is_program_right.nd rfl (Or.inl rfl) pe_str)
    (pss_cons (ps_set (i := 2) sc__law_is_program_right.nd rfl (Or.inl rfl) (pe_f (ok_run T) (hr.mono (by decide)) T.g_run pass0 (pa_cons (pe_op op_add_str (pe_op op_add_str (pe_op op_add_str (pv 1) pe_str) (pv 1)) pe_str) (pa_cons (pe_f (ok_law_store T) (hr.mono (by decide)) T.g_law_store pass0 (pa_cons (pv 0) pa_nil)) (pa_cons pe_int pa_nil)))))
    (pss_cons (ps_asg (pe_f (ok_law_track T) (hr.mono (by decide)) T.g_law_track pass0 (pa_cons (pv 0) (pa_cons pe_str pa_nil))) (pg_unl (by rfl) (pgs_cons (pg_name (i := 3) sc__law_is_program_right.nd rfl (Or.inl rfl)) (pgs_cons (pg_name (i := 4) sc__law_is_program_right.nd rfl (Or.inl rfl)) pgs_nil))))
    (pss_cons (ps_if (pt_cmpR op_lt (pv 4) pe_int (nomark _)) (pss_one (ps_ret (pe_cmpR op_eq (pe_fld (pv 2) rfl) pe_str (nomark _)))) pss_nil)
    (pss_cons (ps_set (i := 5) sc__law_is_program_right.nd rfl (Or.inl rfl) (pe_f (ok_law_first_meeting T) (hr.mono (by decide)) T.g_law_first_meeting pass0 (pa_cons (pv 4) (pa_cons (pe_op op_sub (pe_callB call_len_seq (by rfl) T.z_len (by decide +kernel) (pa_cons (pv 3) pa_nil)) (pv 4)) (pa_cons pe_int (pa_cons pe_int (pa_cons pe_int pa_nil)))))))
    (pss_cons (ps_set (i := 6) sc__law_is_program_right.nd rfl (Or.inl rfl) (pe_ix ix_list (pv 3) (pe_f (ok_law_stop T) (hr.mono (by decide)) T.g_law_stop pass0 (pa_cons (pv 4) (pa_cons (pe_op op_sub (pe_callB call_len_seq (by rfl) T.z_len (by decide +kernel) (pa_cons (pv 3) pa_nil)) (pv 4)) (pa_cons (pv 5) pa_nil)))) (fun _ _ => rfl)))
    (pss_cons (ps_if (pt_cmpR op_ne (pe_callB (cr_repr hgu (hu65 hr) T.k_sys) (by rfl) T.z_repr (by decide +kernel) (pa_cons (pe_lst (pa_cons (pe_fld (pv 2) rfl) (pa_cons (pe_fld (pv 2) rfl) (pa_cons (pe_mt (pe_fld (pv 2) rfl) T.c_Store T.m_Store_at (ok_Store_at T) (hr.mono (by decide)) passL (pa_cons pe_str pa_nil)) (pa_cons (pe_mt (pe_fld (pv 2) rfl) T.c_Store T.m_Store_at (ok_Store_at T) (hr.mono (by decide)) passL (pa_cons pe_str pa_nil)) pa_nil))))) pa_nil)) (pe_callB (cr_repr hgu (hu65 hr) T.k_sys) (by rfl) T.z_repr (by decide +kernel) (pa_cons (pe_lst (pa_cons pe_str (pa_cons (pe_op op_mul pe_int (pv 5)) (pa_cons (pv 6) (pa_cons (pv 6) pa_nil))))) pa_nil)) (nomark _)) (pss_one (ps_ret pe_bl)) pss_nil)
    (pss_cons (ps_set (i := 7) sc__law_is_program_right.nd rfl (Or.inl rfl) (pe_f (ok_meet T) (hr.mono (by decide)) T.g_meet passL (pa_cons (pv 4) (pa_cons (pe_op op_sub (pe_callB call_len_seq (by rfl) T.z_len (by decide +kernel) (pa_cons (pv 3) pa_nil)) (pv 4)) (pa_cons pe_int (pa_cons pe_int (pa_cons pe_int pa_nil)))))))
    (pss_one (ps_ret (pe_and (pe_cmpR op_eq (pv 7) (pv 5) (nomark _)) (pe_one (pe_cmpR op_eq (pe_f (ok_meeting_place T) (hr.mono (by decide)) T.g_meeting_place passL (pa_cons (pe_f (ok_law_store T) (hr.mono (by decide)) T.g_law_store pass0 (pa_cons (pv 0) pa_nil)) (pa_cons pe_str (pa_cons pe_int (pa_cons pe_int (pa_cons pe_int pa_nil)))))) (pv 6) (nomark _)))))))))))))), ?_⟩
  obtain ⟨m, hd, ld, px, ul, rfl, hm, gu, ox, h⟩ := h
  refine ⟨_, rfl, _, _, rfl, rfl, src_sz (by decide +kernel), _, rfl, _, _, rfl, rfl, src_sz (by decide +kernel), _, _, rfl, rfl, src_sz (by decide +kernel), _, rfl, _, rfl, m, hd, ld, px, px, ul, rfl, hm, gu, ox, ox, fun H1 ps cl s1 st hg hnx hlen => ?_⟩
  have few : cl.length ≤ 7 := by have := gu.few; omega
  refine ⟨_, _, _, rfl, ps, px, cl, congrArg V.str (by decide +kernel), rfl, rfl, st, hg, by omega, ox, bnd_ok few, fun H2 p s2 res => ?_⟩
  have et : trk cl px = trk ul px := trk_ext hnx hlen px
  have s02 := Same.trans s1 s2
  refine ⟨_, rfl, _, _, rfl, m, hd, ld, px, px, ul, rfl, rfl, hm.same s02, by omega, fun H3 q rw' s3 nrw hq hrow => ?_⟩
  have s03 := Same.trans s02 s3
  refine ⟨q, _, rfl, SqL.of hq, rfl, _, _, rfl, _, _, rfl, rfl, ?_⟩
  have etar := tarO_iff (cl := cl) (z := px)
  rw [et] at etar
  refine ⟨_, rfl, _, _, rfl, rfl, _, rfl, ?_⟩
  rcases res with ⟨n, z, sz, hn, hz1, hz2, hap, ⟨dx, dd, a, b, c, d, hp⟩, stz⟩ | ⟨k, sz, i, hk, ⟨dx, dd, a, b, c, d, hp⟩⟩
  · have hp3 := s3 _ _ hp
    have st3 := stz.same s3
    by_cases hin : (trk ul px).2 ∈ (trk ul px).1
    · rw [if_pos hin] at etar
      have etl : tlI ul px = (((trk ul px).1.idxOf (trk ul px).2 : Nat) : Int) := if_pos hin
      rw [etl]
      obtain ⟨l1, l2, l3⟩ := tarO_le etar
      rw [et] at l1 l3
      generalize (trk ul px).1.idxOf (trk ul px).2 = t at etar l1 l2 l3 etl
      generalize hrr : (trk ul px).1.length - t = r at etar l1 l2 l3
      have elen : ((((trk ul px).1.map V.int).length : Nat) : Int) - (t : Int) = (r : Int) := by rw [List.length_map]; omega
      obtain ⟨efm, ez, n17⟩ := run_ring few etar hn hz1 hz2 hap
      have hzr := row_at etar n
      rw [← ez] at hzr
      have oz := row_ok hg hzr
      refine iteO (decide_eq_false (by omega)) ?_
      have h0 : (0 : Int) ≤ t := by omega
      have hr0 : (0 : Int) < r := by omega
      refine ⟨_, rfl, _, rfl, rw', _, rfl, .inl (SqL.of hrow), _, rfl, _, _, rfl, rfl, _, _, _, _, _, rfl, (t : Int), (r : Int), 1, 2, 0, rfl, congrArg V.int elen, rfl, rfl, rfl, h0, by omega, hr0, by omega, rfl, rfl, ?_⟩
      rw [efm]
      refine ⟨_, rfl, _, rfl, _, rfl, rw', _, rfl, .inl (SqL.of hrow), _, rfl, _, _, rfl, rfl, _, rfl, _, _, _, rfl, (t : Int), (r : Int), (n : Int), rfl, congrArg V.int elen, rfl, by omega, ?_⟩
      have hst := stp_lt h0 hr0 (show (0 : Int) ≤ n by omega)
      obtain ⟨j, hj⟩ : ∃ j : Nat, stp (t : Int) (r : Int) (n : Int) = (j : Int) := ⟨(stp (t : Int) (r : Int) (n : Int)).toNat, by omega⟩
      rw [hj] at ez hst ⊢
      have hjl : j < (trk ul px).1.length := by omega
      rw [et, Int.toNat_natCast, List.getD_eq_getElem?_getD, List.getElem?_eq_getElem hjl] at ez
      have ez2 : (trk ul px).1[j] = z := ez.symm
      refine ⟨rw', _, (j : Int), .int z, rfl, rfl, SqL.of hrow, atI_nat (by rw [List.getElem?_map, List.getElem?_eq_getElem hjl, ez2]; rfl), ?_⟩
      have hfar : far = 1000000000000000000000000000000 := by decide +kernel
      obtain ⟨dxs, tn, tc, dp, da, ob, _⟩ := id st3.ob
      refine ⟨_, rfl, _, _, _, _, _, rfl, hp3, T.c_Run, T.n_Run_word, ruF_word _ _ _ _ _ _ _ _, _, rfl, _, _, _, _, _, rfl, hp3, T.c_Run, T.n_Run_steps, ruF_steps _ _ _ _ _ _ _ _, _, rfl, _, _, _, _, _, rfl, hp3, T.c_Run, T.n_Run_store, ruF_store _ _ _ _ _ _ _ _, sz, dxs, _, rfl, ob, rfl, _, _, rfl, sz, z, z, cl, rfl, st3, rfl, fun i hi => ?_, fun z => by cases z⟩
      cases (show some z = some i from hi)
      refine ⟨_, rfl, _, _, _, _, _, rfl, hp3, T.c_Run, T.n_Run_store, ruF_store _ _ _ _ _ _ _ _, sz, dxs, _, rfl, ob, rfl, _, _, rfl, sz, z, z, cl, rfl, st3, rfl, fun i hi => ?_, fun z => by cases z⟩
      cases (show some z = some i from hi)
      refine ⟨sz1000 (Nat.le_of_ble_eq_true rfl), fun C nC => ?_⟩
      generalize e4 : upd H3 C _ = H4
      have s4 := same_of e4 nC
      have hC : H4 C = some (.lst [.str "done", .int ((4 * n : Nat) : Int), .int z, .int z]) := at_of' e4
      have e4n : (4 : Int) * (n : Int) = ((4 * n : Nat) : Int) := by omega
      have hb : bd 5 (.list [.str "done", .int ((4 * n : Nat) : Int), .int z, .int z]) = true := by
        have o1 : okI ((4 * n : Nat) : Int) = true := by unfold okI; rw [decide_eq_true (by omega), decide_eq_true (by omega)]; rfl
        have o2 : okI z = true := by unfold okI; rw [decide_eq_true (by omega), decide_eq_true (by omega)]; rfl
        exact bd_done o1 o2
      refine ⟨C, .list [.str "done", .int ((4 * n : Nat) : Int), .int z, .int z], rfl, .lst hC (.cons (.str _) (.cons (.int _) (.cons (.int _) (.cons (.int _) .nil)))), hb, ?_⟩
      refine ⟨_, rfl, _, _, rfl, rfl, okM_c rfl, _, rfl, _, rfl, sz1000 (Nat.le_of_ble_eq_true rfl), fun D nD => ?_⟩
      generalize e5 : upd H4 D _ = H5
      have s5 := same_of e5 nD
      have hD : H5 D = some (.lst [.str "done", .int ((4 : Int) * (n : Int)), .int z, .int z]) := at_of' e5
      rw [e4n] at hD
      have s05 := Same.trans (Same.trans s03 s4) s5
      have hrow5 := s5 _ _ (s4 _ _ hrow)
      refine ⟨D, .list [.str "done", .int ((4 * n : Nat) : Int), .int z, .int z], rfl, .lst hD (.cons (.str _) (.cons (.int _) (.cons (.int _) (.cons (.int _) .nil)))), hb, ?_⟩
      obtain ⟨o, hft, hfm, _⟩ := ft_ok (t := t) (r := r) (s := 1) (g := 1) (l := 0) (by omega) (by omega) (by decide) (by decide) (by decide)
      refine ⟨rfl, _, rfl, iteO (by rw [decide_eq_true rfl]; rfl) ?_⟩
      have efm' : fmm (t : Int) (r : Int) ((1 : Nat) : Int) (((1 : Nat) : Int) + ((1 : Nat) : Int)) ((0 : Nat) : Int) = some (n : Int) := efm
      rw [efm'] at hfm
      subst hfm
      refine ⟨_, rfl, _, rfl, rw', _, rfl, .inl (SqL.of hrow5), _, rfl, _, _, rfl, rfl, _, _, _, _, _, rfl, (t : Int), (r : Int), 1, 2, 0, some (n : Int), rfl, congrArg V.int elen, rfl, rfl, rfl, ⟨h0, by omega, by omega, by omega, by omega, by omega, by omega, by omega, by omega, by omega⟩, hft, fun H6 s6 => ?_⟩
      have s06 := Same.trans s05 s6
      refine ⟨_, rfl, _, rfl, rfl, _, rfl, iteE (decide_eq_true rfl) ?_⟩
      refine ⟨_, rfl, _, rfl, m, hd, ld, px, px, ul, rfl, hm.same s06, gu, ox, ox, fun H7 ps2 cl2 s7 st2 hg2 hnx2 hlen2 => ?_⟩
      have few2 : cl2.length ≤ 7 := by have := gu.few; omega
      have et2 : trk cl2 px = trk ul px := trk_ext hnx2 hlen2 px
      have etar2 : tarO cl2 px = some (t, r) := by
        have q1 := tarO_iff (cl := cl2) (z := px)
        have q2 := tarO_iff (cl := cl) (z := px)
        rw [et2] at q1
        rw [et] at q2
        exact (q1.trans q2.symm).trans etar
      have emp : mpV cl2 px 1 1 0 = .int z := by
        have q := mpV_some (a := 1) (g := 1) (e := 0) etar2
        rw [efm'] at q
        rw [q]
        show V.int ((trk cl2 px).1.getD (stp t r (((1 : Nat) : Int) * (n : Int))).toNat 0) = _
        rw [show ((1 : Nat) : Int) * (n : Int) = (n : Int) by omega, hj, et2, Int.toNat_natCast, List.getD_eq_getElem?_getD, List.getElem?_eq_getElem hjl]
        exact congrArg V.int ez2
      refine ⟨_, _, _, _, _, rfl, .inr ⟨ps2, px, px, cl2, rfl, st2, hg2, rfl, fun i hi => ?_, fun z => by cases z⟩⟩
      cases (show some px = some i from hi)
      refine ⟨few2, rfl, rfl, rfl, .inr ⟨_, rfl, btwI (by omega) (by omega), .inr ⟨_, rfl, btwI (by omega) (by omega), .inr ⟨_, rfl, btwI (by omega) (by omega), 1, 1, 0, rfl, rfl, rfl, by decide, by decide, by decide, fun H8 s8 => ?_⟩⟩⟩⟩
      rw [emp]
      exact ⟨_, rfl, rfl, Qb (decide_eq_true rfl) (h H8 (Same.trans (Same.trans s06 s7) s8))⟩
    · rw [if_neg hin] at etar
      exact (run_end etar hn hz1 hz2).elim
  · have hp3 := s3 _ _ hp
    by_cases hin : (trk ul px).2 ∈ (trk ul px).1
    · rw [if_pos hin] at etar
      have := psq_some etar k
      rw [hk] at this
      cases this
    · rw [if_neg hin] at etar
      have etl : tlI ul px = -1 := if_neg hin
      rw [etl]
      refine iteT ?_
      exact ⟨_, rfl, _, _, _, _, _, rfl, hp3, T.c_Run, T.n_Run_word, ruF_word _ _ _ _ _ _ _ _, rfl, Qb (decide_eq_true rfl) (h H3 s03)⟩

end K66
end
section
set_option Elab.async false
set_option linter.all false
set_option maxRecDepth 100000
set_option maxHeartbeats 4000000
namespace K66
open PySem PySem.Spec PyProof.Rows L2
local macro_rules | `(tactic| walk_at "rd") => `(tactic| repeat (first | refine ⟨_, rfl, ?_⟩ | refine ⟨_, _, rfl, rfl, ?_⟩ | refine ⟨rfl, ?_⟩))
local macro_rules | `(tactic| walk_at "hp") => `(tactic| (first | assumption | solve_by_elim (maxDepth := 12)))
local macro_rules | `(tactic| walk_at "pl") => `(tactic| ((repeat (refine putF_lt ?_)); exact Nat.le_of_ble_eq_true rfl))
/-! ## right -/
def spRight (K : PySem.W.Frag) : Sp := sp1 fun w H Q _ => ∃ p, w = .ref p ∧ WellAt H p ∧ ∀ H', But p H H' → Q (.bl true) H'
theorem same_of2 {H H' H'' : Hp} {d : Addr} {o1 o2 : HO} (e1 : upd H d o1 = H') (e2 : upd H' d o2 = H'') (n : H d = none) : Same H H'' := by
  intro a o h
  have ne : a ≠ d := fun e => by subst e; rw [n] at h; cases h
  subst e1 e2
  simp only [upd, if_neg ne]
  exact h
theorem all_dl : ((List.range 20).all fun t => (List.range 20).all fun r => okI (dl 110 1 t r - 1 + r)) = true := by decide +kernel
theorem dl_small {t r : Nat} (h1 : t < 20) (h2 : r < 20) : okI (dl 110 1 t r - 1 + r) = true :=
  List.all_eq_true.mp (List.all_eq_true.mp all_dl t (List.mem_range.mpr h1)) r (List.mem_range.mpr h2)
theorem bd_two {v : Int} (h : okI v = true) : bd 5 (.list [.int v, .int v]) = true := by
  show (_ && (okI v && (okI v && true))) = true
  rw [h]
  rfl
theorem MineAt.but {p : Addr} {H H' : Hp} {m hd ld : Addr} {x y : Int} {ul : List (Int × Int)} (b : But p H H') (w : WellAt H p) (h : MineAt H m hd ld x y ul) : MineAt H' m hd ld x y ul := by
  obtain ⟨u1, u2, u3, hp⟩ := w
  obtain ⟨h1, h2, h3⟩ := h
  exact ⟨b _ _ (fun e => by subst e; rw [hp] at h1; cases h1) h1, b _ _ (fun e => by subst e; rw [hp] at h2; cases h2) h2, b _ _ (fun e => by subst e; rw [hp] at h3; cases h3) h3⟩
abbrev N__law_right : List Str := ["_law_well_here", "_law_mine", "_law_ours", "_law_first", "_law_second", "_law_long", "_law_great"]
theorem sc__law_right : FnScope N__law_right ["_law_well_here"] (defScope s__law_right) := ⟨rfl, rfl, rfl, by decide +kernel, rfl, by decide +kernel, by decide +kernel⟩
theorem ok_law_right {P : Program} {w : World} {K : PySem.W.Frag} {mg : Str → Option Value} {base : Heap} (T : TopE K mg) : FnAtG P w K mg base CX0 16 (He.ga K "_law_right") ["_law_well_here"] (spRight K) := by
  refine fnAtG (k := 15) T.f_law_right sc__law_right len1 (fun _ _ _ _ _ _ us hl => match us, hl with | [_], _ => rfl) (fun cdv A outer s H vs Q E hgu hr h => ?_)
  have hu := hu_of hr
  obtain ⟨v_law_well_here, rfl, h⟩ := h
  refine ⟨_, (pss_cons (ps_set (i := 1) sc__law_right.nd rfl (Or.inl rfl) (pe_f (ok_law_drawn T) (hr.mono (by decide)) T.g_law_drawn pass0 (pa_cons (pv 0) (pa_cons pe_str (pa_cons pe_int pa_nil)))))
    (pss_cons (ps_set (i := 2) sc__law_right.nd rfl (Or.inl rfl) (pe_f (ok_law_store T) (hr.mono (by decide)) T.g_law_store pass0 (pa_cons (pv 1) pa_nil)))
    (pss_cons (ps_if (PW.pt (pw_or (pt_not (pt_val (pe_fG (ok_law_is_store_right T) hgu (hr.mono (by decide)) T.g_law_is_store_right pass0 (pa_cons (pv 0) (pa_cons (pv 1) (pa_cons (pv 2) pa_nil)))))) (pw_or1 (pt_not (pt_val (pe_fG (ok_law_is_program_right T) hgu (hr.mono (by decide)) T.g_law_is_program_right pass0 (pa_cons (pe_lst (pa_cons (pe_disp (pps_cons pe_str (pe_dget hu (pe_ix ix_list (pv 1) pe_int (fun _ _ => rfl)) pe_str (fun _ _ => rfl)) (pps_cons pe_str (pe_dget hu (pe_ix ix_list (pv 1) pe_int (fun _ _ => rfl)) pe_str (fun _ _ => rfl)) pps_nil)) (by rfl) (by rfl) (fun z => by cases z) (by decide)) (pa_cons (pe_ix ix_list (pv 1) pe_int (fun _ _ => rfl)) pa_nil))) pa_nil))))))) (pss_one (ps_ret pe_bl)) pss_nil)
    (pss_cons (ps_asg (pe_tup (pa_cons (pe_f (ok_law_take T) (hr.mono (by decide)) T.g_law_take pass0 (pa_cons (pv 0) (pa_cons pe_int pa_nil))) (pa_cons (pe_op op_add pe_int (pe_f (ok_law_take T) (hr.mono (by decide)) T.g_law_take pass0 (pa_cons (pv 0) (pa_cons pe_int pa_nil)))) (pa_cons (pe_f (ok_law_great_number T) (hr.mono (by decide)) T.g_law_great_number pass0 (pa_cons (pv 0) pa_nil)) (pa_cons (pe_callB (call_max2 rfl) (by rfl) T.z_max (by decide +kernel) (pa_cons pe_int (pa_cons (pe_f (ok_law_great_number T) (hr.mono (by decide)) T.g_law_great_number pass0 (pa_cons (pv 0) pa_nil)) pa_nil))) pa_nil))))) (pg_tup (by rfl) (pgs_cons (pg_name (i := 3) sc__law_right.nd rfl (Or.inl rfl)) (pgs_cons (pg_name (i := 4) sc__law_right.nd rfl (Or.inl rfl)) (pgs_cons (pg_name (i := 5) sc__law_right.nd rfl (Or.inl rfl)) (pgs_cons (pg_name (i := 6) sc__law_right.nd rfl (Or.inl rfl)) pgs_nil))))))
    (pss_cons (ps_if (pt_cmpR op_ne (pe_callB (cr_repr hgu (hu65 hr) T.k_sys) (by rfl) T.z_repr (by decide +kernel) (pa_cons (pe_lst (pa_cons (pe_f (ok_doubling_steps T) (hr.mono (by decide)) T.g_doubling_steps passL (pa_cons (pv 3) (pa_cons (pv 4) pa_nil))) (pa_cons (pe_fk (okK_doubling_steps T) (hr.mono (by decide)) T.g_doubling_steps passL (pk_cons (pv 3) (pk_cons (pv 4) pk_nil))) pa_nil))) pa_nil)) (pe_callB (cr_repr hgu (hu65 hr) T.k_sys) (by rfl) T.z_repr (by decide +kernel) (pa_cons (pe_op op_rep (pe_lst (pa_cons (pe_f (ok_law_doubling T) (hr.mono (by decide)) T.g_law_doubling pass0 (pa_cons (pv 3) (pa_cons (pv 4) pa_nil))) pa_nil)) pe_int) pa_nil)) (nomark _)) (pss_one (ps_ret pe_bl)) pss_nil)
    (pss_cons (ps_if (pt_cmpR op_ne (pe_f (ok_doubling_steps T) (hr.mono (by decide)) T.g_doubling_steps passL (pa_cons (pv 5) (pa_cons (pv 6) pa_nil))) (pe_f (ok_law_formula T) (hr.mono (by decide)) T.g_law_formula pass0 (pa_cons (pv 5) (pa_cons (pv 6) pa_nil))) (nomark _)) (pss_one (ps_ret pe_bl)) pss_nil)
    (pss_one (ps_ret (pe_fG (ok_law_are_refused T) hgu (hr.mono (by decide)) T.g_law_are_refused pass0 (pa_cons (pv 0) (pa_cons (pv 2) pa_nil))))))))))), ?_⟩
  obtain ⟨p, rfl, hw, h⟩ := h
  refine ⟨_, rfl, _, _, _, rfl, p, rfl, rfl, rfl, hw, fun H1 m hd ld kx ky ul b1 w1 hm nm gu ox oy => ?_⟩
  refine ⟨_, rfl, _, rfl, m, hd, ld, kx, ky, ul, rfl, hm, gu, ox, oy, fun H2 ps cl s2 st hg hnx hlen => ?_⟩
  have few : cl.length ≤ 7 := by have := gu.few; omega
  have et : trk cl kx = trk ul kx := trk_ext hnx hlen kx
  refine ⟨_, rfl, _, rfl, _, rfl, _, _, _, rfl, p, m, hd, ld, ps, kx, ky, ul, cl, rfl, rfl, rfl, w1.same s2, hm.same s2, gu.few, st, hg, few, et, fun H3 b3 w3 => ?_⟩
  refine ⟨_, rfl, iteO rfl fun d nd => ?_⟩
  have hm3 := (hm.same s2).but b3 (w1.same s2)
  generalize e4 : upd H3 d _ = H4
  have s4 := same_of e4 nd
  have hd4 : H4 d = some (.dK []) := at_of' e4
  have hm4 := hm3.same s4
  refine ⟨_, rfl, m, _, 0, _, rfl, rfl, SqL.of hm4.1, rfl, hd, .int kx, rfl, DGet.k (k := Sum.inr "x") hm4.2.1, ?_⟩
  refine ⟨_, rfl, m, _, 0, _, rfl, rfl, SqL.of hm4.1, rfl, hd, .int kx, rfl, DGet.k (k := Sum.inr "x") hm4.2.1, ?_⟩
  refine ⟨hd4, [(Sum.inr "x", .int kx), (Sum.inr "y", .int kx)], rfl, (show (2 : Nat) ≤ 15 by decide), ?_⟩
  generalize e5 : upd H4 d _ = H5
  have hd5 : H5 d = some (.dK (nmD kx kx)) := at_of' e5
  have s35 : Same H3 H5 := same_of2 e4 e5 nd
  have hm5 := hm3.same s35
  refine ⟨_, rfl, m, _, 1, _, rfl, rfl, SqL.of hm5.1, rfl, sz1000 (Nat.le_of_ble_eq_true rfl), fun m2 nm2 => ?_⟩
  generalize e6 : upd H5 m2 _ = H6
  have s6 := same_of e6 nm2
  have hm6 : MineAt H6 m2 d ld kx kx ul := ⟨at_of' e6, s6 _ _ hd5, s6 _ _ hm5.2.2⟩
  have s36 := Same.trans s35 s6
  refine ⟨_, rfl, m2, d, ld, kx, ul, rfl, hm6, gu, ox, fun H7 s7 => ?_⟩
  have s37 := Same.trans s36 s7
  have w7 := w3.same s37
  refine ⟨_, rfl, iteO rfl ?_⟩
  refine ⟨_, rfl, _, _, rfl, p, 20, rfl, rfl, by decide, by decide, w7, fun H8 aI b8 w8 a0 a1 => ?_⟩
  refine ⟨_, rfl, _, _, rfl, p, 19, rfl, rfl, by decide, by decide, w8, fun H9 bI b9 w9 c0 c1 => ?_⟩
  refine ⟨_, _, rfl, rfl, _, rfl, _, rfl, p, rfl, w9, fun H10 lI b10 w10 l0 l1 => ?_⟩
  refine ⟨_, rfl, _, rfl, p, rfl, w10, fun H11 gI b11 w11 g0 g1 => ?_⟩
  refine ⟨1, gI, rfl, sz1000 (Nat.le_of_ble_eq_true rfl), fun tt ntt => ?_⟩
  generalize e12 : upd H11 tt _ = H12
  have s12 := same_of e12 ntt
  have w12 := w11.same s12
  have hfar : far = 1000000000000000000000000000000 := by decide +kernel
  obtain ⟨G, eG, G1, G2⟩ : ∃ G : Int, (if gI > 1 then gI else 1) = G ∧ 1 ≤ G ∧ G ≤ far := by
    by_cases q : gI > 1
    · exact ⟨gI, if_pos q, by omega, g1⟩
    · exact ⟨1, if_neg q, by omega, by omega⟩
  rw [eG] at e12
  obtain ⟨a, rfl⟩ : ∃ a : Nat, aI = (a : Int) := ⟨aI.toNat, by omega⟩
  obtain ⟨b, hbI⟩ : ∃ b : Nat, 1 + bI = (b : Int) := ⟨(1 + bI).toNat, by omega⟩
  have e12' : upd H11 tt (.tup [.int a, .int b, .int lI, .int G]) = H12 := by rw [← hbI]; exact e12
  have ha : a < 20 := by omega
  have hb0 : 0 < b := by omega
  have hb1 : b < 20 := by omega
  refine ⟨tt, _, rfl, SqT.of (at_of' e12'), rfl, _, _, rfl, _, _, rfl, _, _, rfl, _, _, rfl, rfl, ?_⟩
  refine ⟨_, rfl, _, rfl, _, _, rfl, rfl, rfl, fun z => (by rw [btwI (by omega) (by omega)] at z; cases z), fun _ z => (by rw [btwI (by omega) (by omega)] at z; cases z), fun x y ex ey _ _ => ?_⟩
  cases ex
  cases ey
  refine ⟨_, rfl, _, rfl, rfl, rfl, _, _, rfl, rfl, rfl, fun z => (by rw [btwI (by omega) (by omega)] at z; cases z), fun _ z => (by rw [btwI (by omega) (by omega)] at z; cases z), fun x y ex ey _ _ => ?_⟩
  cases ex
  cases ey
  have hv := dl_small ha hb1
  have hlaw := lawD_ok ha hb0 hb1
  generalize dl 110 1 (a : Int) (b : Int) - 1 + (b : Int) = v at hv hlaw
  refine ⟨sz1000 (Nat.le_of_ble_eq_true rfl), fun C nC => ?_⟩
  generalize e13 : upd H12 C _ = H13
  have s13 := same_of e13 nC
  have hC : H13 C = some (.lst [.int v, .int v]) := at_of' e13
  refine ⟨C, .list [.int v, .int v], rfl, .lst hC (.cons (.int _) (.cons (.int _) .nil)), bd_two hv, ?_⟩
  refine ⟨_, rfl, _, rfl, _, _, rfl, (a : Int), (b : Int), rfl, rfl, by omega, fun H14 s14 => ?_⟩
  rw [hlaw]
  refine ⟨sz1000 (Nat.le_of_ble_eq_true rfl), fun D nD => ?_⟩
  generalize e15 : upd H14 D _ = H15
  have s15 := same_of e15 nD
  have hD : H15 D = some (.lst [.int v]) := at_of' e15
  refine ⟨D, 2, [.int v], rfl, rfl, hD, by decide, by decide, sz1000 (Nat.le_of_ble_eq_true rfl), fun R nR => ?_⟩
  generalize e16 : upd H15 R _ = H16
  have s16 := same_of e16 nR
  have hR : H16 R = some (.lst [.int v, .int v]) := at_of' e16
  refine ⟨R, .list [.int v, .int v], rfl, .lst hR (.cons (.int _) (.cons (.int _) .nil)), bd_two hv, ?_⟩
  refine ⟨rfl, _, rfl, iteO (by rw [decide_eq_true rfl]; rfl) ?_⟩
  refine ⟨_, rfl, _, rfl, _, _, rfl, rfl, rfl, fun z => (by rw [btwI (by omega) (by omega)] at z; cases z), fun _ z => (by rw [btwI (by omega) (by omega)] at z; cases z), fun x y ex ey _ _ => ?_⟩
  cases ex
  cases ey
  refine ⟨_, rfl, _, rfl, _, _, rfl, lI, G, rfl, rfl, l1, G2, ?_⟩
  refine ⟨rfl, _, rfl, iteO (by rw [decide_eq_true rfl]; rfl) ?_⟩
  have bA : But p H2 H12 := (But.trans (But.trans (But.trans (But.trans (b3.sm s37) b8) b9) b10) b11).sm s12
  have sB : Same H12 H16 := Same.trans (Same.trans (Same.trans s13 s14) s15) s16
  have bB : But p H2 H16 := bA.sm sB
  refine ⟨_, rfl, _, rfl, _, _, rfl, p, ps, kx, ky, cl, rfl, rfl, w12.same sB, st.butw bB (w1.same s2), hg, few, fun H17 b17 => ?_⟩
  exact h H17 (But.trans (But.trans (b1.sm s2) bB) b17)

end K66
end
section
set_option Elab.async false
set_option linter.all false
set_option maxRecDepth 100000
set_option maxHeartbeats 4000000
namespace K66
open PySem PySem.Spec PyProof.Rows L2
local macro_rules | `(tactic| walk_at "rd") => `(tactic| repeat (first | refine ⟨_, rfl, ?_⟩ | refine ⟨_, _, rfl, rfl, ?_⟩ | refine ⟨rfl, ?_⟩))
local macro_rules | `(tactic| walk_at "hp") => `(tactic| (first | assumption | solve_by_elim (maxDepth := 12)))
local macro_rules | `(tactic| walk_at "pl") => `(tactic| ((repeat (refine putF_lt ?_)); exact Nat.le_of_ble_eq_true rfl))
/-! ## law -/
def spLaw (K : PySem.W.Frag) : Sp := sp1 fun s H Q _ => ∃ (l : Addr) (ns : List Int), s = .ref l ∧ SqL K H l (ns.map V.int) ∧ ∀ H', Q (.bl true) H'
theorem sqL_same {K : PySem.W.Frag} {H H' : Hp} {a : Addr} {xs : List V} (h : SqL K H a xs) (s : Same H H') : SqL K H' a xs :=
  Or.elim h (fun h => .inl (Or.elim h (fun h => .inl (s _ _ h)) fun ⟨o, h⟩ => .inr ⟨o, s _ _ h⟩)) fun h => .inr h
theorem all_true (n : Nat) : (List.replicate n true).all id = true := by
  rw [List.all_eq_true]
  intro x hx
  exact (List.mem_replicate.mp hx).2
theorem mid_ok (n : Nat) : ∃ m : Nat, (if (if (3 : Int) < (n : Int) then (3 : Int) else (n : Int)) > 1 then (if (3 : Int) < (n : Int) then (3 : Int) else (n : Int)) else 1) = (m : Int) ∧ m ≤ 3 := by
  by_cases a : (3 : Int) < (n : Int)
  · exact ⟨3, by rw [if_pos a, if_pos (by decide)]; rfl, by omega⟩
  · rw [if_neg a]
    by_cases b : (n : Int) > 1
    · exact ⟨n, if_pos b, by omega⟩
    · exact ⟨1, if_neg b, by omega⟩
abbrev N_law : List Str := ["_law_script", "_law_turn"]
theorem sc_law : FnScope N_law ["_law_script"] (defScope s_law) := ⟨rfl, rfl, rfl, by decide +kernel, rfl, by decide +kernel, by decide +kernel⟩
theorem ok_law {P : Program} {w : World} {K : PySem.W.Frag} {mg : Str → Option Value} {base : Heap} (T : TopE K mg) : FnAtG P w K mg base CX0 17 (He.ga K "law") ["_law_script"] (spLaw K) := by
  refine fnAtG (k := 16) T.f_law sc_law len1 (fun _ _ _ _ _ _ us hl => match us, hl with | [_], _ => rfl) (fun cdv A outer s H vs Q E hgu hr h => ?_)
  have hu := hu_of hr
  obtain ⟨v_law_script, rfl, h⟩ := h
  refine ⟨_, (pss_one (ps_ret (pe_callB (cr_all rfl) (by rfl) T.z_all (by decide +kernel) (pa_cons (by (apply pe_lcX (s0 := s) (own := [("_law_turn", 1)])); exact rfl; exact sc_law.nd; exact (pi_range1 (by rfl) T.z_range (pa_cons (pe_callB (call_max2 rfl) (by rfl) T.z_max (by decide +kernel) (pa_cons pe_int (pa_cons (pe_callB (call_min2 rfl) (by rfl) T.z_min (by decide +kernel) (pa_cons (pe_callB call_len_seq (by rfl) T.z_len (by decide +kernel) (pa_cons (pv 0) pa_nil)) (pa_cons pe_int pa_nil))) pa_nil))) pa_nil)); exact (blkOk_by (N := N_law) (sc := defScope s_law) (by decide +kernel)); (intro _ _ _ _ _; exact (pg_name (i := 1) sc_law.nd rfl (Or.inl rfl))); (intro _ _ _ _ _; exact pts_nil); (intro _ _ _ _ _; exact (pe_fG (ok_law_right T) hgu (hr.mono (by decide)) T.g_law_right pass0 (pa_cons (pe_f (ok_law_well T) (hr.mono (by decide)) T.g_law_well pass0 (pa_cons (pv 0) (pa_cons (pv 1) pa_nil))) pa_nil))); exact (fun _ => rfl); exact (fun _ _ _ _ _ => rfl); exact (fun _ _ _ _ _ => rfl); exact (fun _ _ _ _ _ => rfl)) pa_nil)))), ?_⟩
  obtain ⟨l, ns, rfl, hl, h⟩ := h
  obtain ⟨m, em, m3⟩ := mid_ok ns.length
  have lenE : ((((ns.map V.int).length : Nat) : Int)) = (ns.length : Int) := by rw [List.length_map]
  refine ⟨_, rfl, l, _, rfl, .inl hl, _, _, rfl, _, _, rfl, ?_⟩
  rw [lenE, em]
  refine ⟨_, rfl, ⟨by omega, by omega, ?_⟩⟩
  rw [Int.toNat_natCast]
  intro P nP
  refine lc_range (lo := 0) (n := m) (LcF H P fun i => (List.replicate i true).map V.bl) (lcF0 nP rfl) ?_ ?_
  · intro i H4 hi q
    have step : (List.replicate (i + 1) true).map V.bl = (List.replicate i true).map V.bl ++ [V.bl true] := by
      rw [List.replicate_succ', List.map_append]
      rfl
    have hlen : ((List.replicate i true).map V.bl).length < sizeLine := by
      rw [List.length_map, List.length_replicate]
      exact szn (by omega)
    refine ⟨rfl, _, rfl, _, rfl, _, _, rfl, l, ns, i, rfl, congrArg V.int (by omega), sqL_same hl q.1, fun H5 p s5 np wp => ?_⟩
    refine ⟨_, rfl, p, rfl, wp, fun H6 b6 => ?_⟩
    have s46 : Same H4 H6 := fun a o ha => b6 a o (fun e => by subst e; rw [np] at ha; cases ha) (s5 a o ha)
    exact lcFS nP q hlen s46 step
  intro H4 q4
  exact ⟨P, List.replicate m true, rfl, SqL.of q4.2, by rw [all_true]; exact h H4⟩

end K66
end
section
set_option Elab.async false
set_option linter.all false
set_option maxRecDepth 100000
set_option maxHeartbeats 4000000
namespace K66
open PySem PySem.Spec PyProof.Rows L2
local macro_rules | `(tactic| walk_at "rd") => `(tactic| repeat (first | refine ⟨_, rfl, ?_⟩ | refine ⟨_, _, rfl, rfl, ?_⟩ | refine ⟨rfl, ?_⟩))
local macro_rules | `(tactic| walk_at "hp") => `(tactic| (first | assumption | solve_by_elim (maxDepth := 12)))
local macro_rules | `(tactic| walk_at "pl") => `(tactic| ((repeat (refine putF_lt ?_)); exact Nat.le_of_ble_eq_true rfl))
theorem law_callH {P : Program} {w : World} {K : PySem.W.Frag} {mg mb : Str → Option Value} {CX : CXT} {k : Nat} {fa a : Addr} {x : Str} {sp : Sp} {s₁ : Shared} {vs : List Value} {ns : List Int}
    (KX : K.In s₁.heap) (hns : s₁.heap.Ns mainGlobals mg) (hb : s₁.heap.Ns builtinsNs mb) (hbb : ∀ x : Str, x ≠ "__name__" → mb x = bootBuiltins x) (hlim : s₁.heap.NoLimit) (hg : s₁.gens = #[])
    (ha : s₁.heap.get? a = some { cls := .type "list", data := .seq vs.toArray }) (hi : IntsAre vs ns) (hl : ns.length ≤ sizeLine) (hr : Room k callerA)
    (F : ∀ base : Heap, K.In base → base.Ns mainGlobals mg → FnAtG P w K mg base CX k fa [x] sp)
    (hsp : ∀ H : Hp, Only H → SqL K H a (ns.map V.int) → sp [.ref a] H (fun v _ => v = .bl true) fun _ _ _ => False)
    (hCX : ∀ H e s', CX [] H s₁ (fun _ _ _ => False) e s' → False) :
    codeAny (model P w) callerA (.call (.ref fa) ⟨[.ref a], []⟩) (fun r s' => r = .ok (.ret (.bool true)) ∧ OldK s₁.heap s'.heap ∧ s'.os = s₁.os ∧ AllBare s'.gens) s₁ := by
  have rv := vals_ints hi
  have lenV := hi.length
  -- from an abstract heap in which nothing but the script may be tracked
  have core : ∀ H : Hp, Only H → SqL K H a (ns.map V.int) → HOk P w H s₁.heap → (∀ b, H b ≠ none → b = a) → (H a ≠ none → K.lookup a = none) →
      codeAny (model P w) callerA (.call (.ref fa) ⟨[.ref a], []⟩) (fun r s' => r = .ok (.ret (.bool true)) ∧ OldK s₁.heap s'.heap ∧ s'.os = s₁.os ∧ AllBare s'.gens) s₁ := by
    intro H hO hS hok hA hK
    have base_of : ∀ {b : Addr} {o : Obj}, s₁.heap.get? b = some o → H b = none → (hidT s₁.heap H).get? b = some o := fun e n => hidT_get e n
    have noA : ∀ {b : Addr} {o : Obj} {es : Array DictEntry} {ep : Nat}, s₁.heap.get? b = some o → o.data = .dict es ep → H b = none := fun {b o es ep} e d => by
      cases q : H b with
      | none => rfl
      | some u =>
        have e' : b = a := hA b (by rw [q]; simp)
        subst e'
        rw [ha] at e; cases e
        have d' : Data.seq vs.toArray _ = Data.dict es ep := d
        cases d'
    have nsK : ∀ {b : Addr} {m : Str → Option Value}, s₁.heap.Ns b m → (hidT s₁.heap H).Ns b m := fun {b m} ⟨o, es, ep, e, d, r⟩ => ⟨o, es, ep, base_of e (noA e d), d, r⟩
    have hKb : K.In (hidT s₁.heap H) := fun b o e => base_of (KX b o e) (by
      cases q : H b with
      | none => rfl
      | some u =>
        have e' : b = a := hA b (by rw [q]; simp)
        subst e'
        rw [hK (by rw [q]; simp)] at e; cases e)
    have hM : Mod K mg (hidT s₁.heap H) := ⟨hKb, nsK hns, ⟨mb, nsK hb, hbb⟩, let ⟨mc, h1, h2⟩ := hlim; ⟨mc, nsK h1, h2⟩⟩
    have e0 : Env0 P w K mg (hidT s₁.heap H) callerA [] s₁ H := ⟨rfl, hM, fun b o e => of_hidT e, Nat.le_of_eq (hidT_size _ _), trivial, fun b hb => absurd (show b ∈ ([] : List Addr) from hb) (by simp), hok, .of_eq hg⟩
    obtain ⟨fd, hF, _, _, hbind⟩ := F _ hKb (nsK hns)
    refine codeAny_mono (hF.run callerA [] s₁ H ⟨[.ref a], []⟩ [.ref a] [.ref a] _ _ rfl hr e0 (hbind s₁ [.ref a] rfl) (.cons rfl .nil) (hsp H hO hS)) fun r s' h => ?_
    cases r with
    | error e => exact (hCX H e s' h).elim
    | ok fl =>
      cases fl with
      | next => exact False.elim h
      | brk => exact False.elim h
      | cont => exact False.elim h
      | ret u =>
        obtain ⟨v, H', os, bare, un, hok', r', q⟩ := h
        have q' : v = .bl true := q
        subst q'
        obtain rfl : u = Value.bool true := r'
        refine ⟨rfl, OldK.of_keep fun b o e => ?_, os, bare⟩
        cases q : H b with
        | none => exact un.keep b o e q (by intro z; exact absurd (show b ∈ ([] : List Addr) from z) (by simp)) (by simp)
        | some u =>
          rcases hO b with z | ⟨ob, xs, z⟩
          · rw [q] at z; cases z
          · have z2 := un.frzs b ob _ z
            obtain ⟨e1, _⟩ := hok b _ z
            obtain ⟨e2, _⟩ := hok' b _ z2
            rw [e] at e1; cases e1
            exact e2
  cases hk : K.lookup a with
  | some o =>
    -- the script is one of the module's own objects
    have e := KX a o hk
    rw [ha] at e
    cases e
    refine core (fun _ => none) (fun _ => .inl rfl) (.inr ⟨_, vs.toArray, _, hk, rfl, rfl, rfl, by rw [List.size_toArray, lenV]; exact hl, by simpa using rv⟩) (fun b u z => by have z' : (none : Option HO) = some u := z; cases z') (fun b z => absurd rfl z) fun z => absurd rfl z
  | none =>
    refine core (fun b => if b = a then some (.frz { cls := .type "list", data := .seq vs.toArray } (.lst (ns.map V.int))) else none) (fun b => ?_) (.inl (.inr ⟨{ cls := .type "list", data := .seq vs.toArray }, if_pos rfl⟩)) (fun b u z => ?_) (fun b z => ?_) fun _ => hk
    · by_cases hb : b = a
      · exact .inr ⟨_, _, if_pos hb⟩
      · exact .inl (if_neg hb)
    · by_cases hb : b = a
      · have z' := (if_pos hb).symm.trans z
        cases z'
        subst hb
        exact ⟨ha, by rw [List.length_map]; exact hl, vs, _, rv, ha⟩
      · have z' := (if_neg hb).symm.trans z
        cases z'
    · by_cases hb : b = a
      · exact hb
      · exact absurd (if_neg hb) z
/-- a law: F gives the written part, the function object, the promise over every base -/
theorem walk_ofH {l : PySem.W.OpenLaw} {n k : Nat} {q : Program} {loose : List Str} {XP : (Str → Option Value) → Heap → Prop} {YP : World → Heap → Prop} {d : DefRec} {CX : CXT} {x : Str}
    (hn : l.most = some n) (hn2 : n ≤ sizeLine) (hdf : d.params.defaults = []) (hr : Room k callerA)
    (F : ∀ (w : World) (mg : Str → Option Value) (fa : Addr) (h : Heap), YP w h → h.Ns mainGlobals mg → mg d.name = some (.ref fa) →
      ∃ (K : PySem.W.Frag) (sp : Sp), K.In h ∧
        (∀ (H : Hp) (a : Addr) (ns : List Int), ns.length ≤ n → Only H → SqL K H a (ns.map V.int) → sp [.ref a] H (fun v _ => v = .bl true) fun _ _ _ => False) ∧
        ∀ base : Heap, K.In base → base.Ns mainGlobals mg → FnAtG l.prog w K mg base CX k fa [x] sp)
    (hCX : ∀ (H : Hp) (s : Shared) (e : Value) (s' : Shared), CX [] H s (fun _ _ _ => False) e s' → False) :
    PySem.W.WalkO q loose XP YP l.row.toRowW d [] (fun f vs => PySem.call f vs) := by
  refine Att.attach_call hn hdf fun w s₀ s₁ mg mb fa o pm cd doc a vs ns G Y ho hd hcd hmg hobj hints hlen hg => ?_
  obtain ⟨K, sp, KX, hsp, hF⟩ := F w mg fa _ Y G.T.g hmg
  exact law_callH KX G.T.g G.T.b G.T.builtins G.T.nolimit hg hobj hints (Nat.le_trans hlen hn2) hr hF (fun H hO hS => hsp H a ns hlen hO hS) fun H e s' => hCX H s₁ e s'
end K66
open PySem PySem.W PySem.Calls PyProof.Rows
theorem PySem.Challenge.cw_arrowcells_k66_whole_walkers_on_stores_holds : PySem.Challenge.rw_arrowcells_k66_whole_walkers_on_stores.Holds := by
  w_on; o_law
  refine HandSHeadRun.head_imp (r := OpenLaw.row PySem.Challenge.rw_arrowcells_k66_whole_walkers_on_stores) (q := view (OpenLaw.row PySem.Challenge.rw_arrowcells_k66_whole_walkers_on_stores).prog [107]) (H := K66.hk) (ob := K66.ob) (M := 14000) (loose := K66.names) (d := HandSHeadRun.topDef (OpenLaw.row PySem.Challenge.rw_arrowcells_k66_whole_walkers_on_stores).prog 107) (kwd := []) K66.ob_eq K66.run
    (by kernel_rfl) (by kernel_rfl) (by kernel_rfl) (by rfl) (by first | assumption | decide +kernel) (by decide +kernel) ⟨rfl, rfl, rfl, rfl, rfl, by decide +kernel⟩ ?hw ?hc
  case hw => w_witness2
  case hc =>
    refine K66.walk_ofH (l := PySem.Challenge.rw_arrowcells_k66_whole_walkers_on_stores) (n := 63) (k := 17) (x := "_law_script") (CX := L2.CX0) rfl (by decide) (by kernel_rfl) ⟨rfl, by decide, by decide⟩ ?F (fun _ _ _ _ z => z)
    intro w mg fa h Y G hmg0
    obtain ⟨K, KX, c⟩ := Y
    have hmg : mg ("law" : PySem.Str) = some (.ref fa) := by
      have e : (HandSHeadRun.topDef (OpenLaw.row PySem.Challenge.rw_arrowcells_k66_whole_walkers_on_stores).prog 107).name = ("law" : PySem.Str) := by kernel_rfl
      rw [← e]
      exact hmg0
    have T := K66.mkEnv KX G c
    have e := hmg.symm.trans T.g_law
    cases e
    exact ⟨K, K66.spLaw K, KX, fun H a ns hl _ hS => ⟨_, rfl, a, ns, rfl, hS, fun _ => rfl⟩, fun base _ _ => K66.ok_law T⟩
end
