import PyProof.Rows.All
import PySem.Challenge.RW_passkeep_k75_whole_nothing_beyond
import Wide.All
import OpenK.AllK
import Wide.FinOn
import KE.KStateDown
import HandS.ForMost
import HandS.ForExc
import HandS.ExcInit
import HandS.Defaults
import HandS.Lambda
import HandS.Nested
import HandS.EndTab
import HandS.Head0
import HandS.Head1
import HandS.Head2
import HandS.HeadEnd
import HandS.HeadWalk
import HandS.HeadHook1
import HandS.HeadHook2
import HandS.HeadHook3
import HandS.HeadHook4
import HandS.IsInst
import HandS.Style
import HandS.SortInts
import HandS.DictComp
import HandS.SetFor
import HandS.NoneIn
import HandS.Small
import HandS.TupAny
import HandS.ClsMeth
import HandS.Walk
import HandS.WordsExc
import HandS.Codes
import KE.GoesComp
import KE.KAsSuite
import HandS.Text
import PyProof.StrBlock2
import Lean
set_option Elab.async false
set_option linter.all false
set_option maxRecDepth 100000
/-! PkText -/
section
set_option maxHeartbeats 0
namespace Pk
open PySem PySem.Spec PyProof.Rows L2
def top (i : Nat) : Stmt := PySem.Challenge.pw_passkeep_k75_whole_nothing_beyond.main.body.getD i (.Pass ⟨0, 0, 0, 0⟩)
abbrev s_NoDeed_init : Stmt := inClass (top 10) 0
abbrev s_Lacks_init : Stmt := inClass (top 11) 0
abbrev s_is_whole : Stmt := top 29
abbrev s_is_rights : Stmt := top 30
abbrev s_missing : Stmt := top 31
abbrev s_narrowed : Stmt := top 32
abbrev s_is_name : Stmt := top 33
abbrev s_is_value : Stmt := top 34
abbrev s_are_words : Stmt := top 35
abbrev s_need_thing : Stmt := top 37
abbrev s_handles_of : Stmt := top 38
abbrev s_gathered : Stmt := top 39
abbrev s_can : Stmt := top 40
abbrev s_parts_heard : Stmt := top 41
abbrev s_joined : Stmt := top 42
abbrev s_passes : Stmt := top 43
abbrev s_might_have : Stmt := top 44
abbrev s_passed_on : Stmt := top 45
abbrev s_could : Stmt := top 46
abbrev s_Task_init : Stmt := inClass (top 50) 0
abbrev s_Tasks_init : Stmt := inClass (top 51) 0
abbrev s_Tasks_running_one : Stmt := inClass (top 51) 1
abbrev s_Tasks_need : Stmt := inClass (top 51) 2
abbrev s_Tasks_added : Stmt := inClass (top 51) 3
abbrev s_Tasks_running : Stmt := inClass (top 51) 4
abbrev s_Tasks_names : Stmt := inClass (top 51) 5
abbrev s_Tasks_put : Stmt := inClass (top 51) 6
abbrev s_Tasks_at : Stmt := inClass (top 51) 7
abbrev s_Tasks_free : Stmt := inClass (top 51) 8
abbrev s_Tasks_slots : Stmt := inClass (top 51) 9
abbrev s_Tasks_taken_out : Stmt := inClass (top 51) 10
abbrev s_Tasks_made_by : Stmt := inClass (top 51) 11
abbrev s_Tasks_stopped : Stmt := inClass (top 51) 12
abbrev s_Thing_init : Stmt := inClass (top 55) 0
abbrev s_Thing_kind : Stmt := inClass (top 55) 1
abbrev s_Thing_fits : Stmt := inClass (top 55) 2
abbrev s_Thing_needed : Stmt := inClass (top 55) 3
abbrev s_Thing_needs : Stmt := inClass (top 55) 4
abbrev s_Thing_done : Stmt := inClass (top 55) 5
abbrev s_Thing_did : Stmt := inClass (top 55) 6
abbrev s_Thing_told : Stmt := inClass (top 55) 7
abbrev s_Cell_init : Stmt := inClass (top 56) 0
abbrev s_Cell_kind : Stmt := inClass (top 56) 1
abbrev s_Cell_fits : Stmt := inClass (top 56) 2
abbrev s_Cell_needed : Stmt := inClass (top 56) 3
abbrev s_Cell_done : Stmt := inClass (top 56) 4
abbrev s_Cell_told : Stmt := inClass (top 56) 5
abbrev s_Line_init : Stmt := inClass (top 57) 0
abbrev s_Line_kind : Stmt := inClass (top 57) 1
abbrev s_Line_fits : Stmt := inClass (top 57) 2
abbrev s_Line_needed : Stmt := inClass (top 57) 3
abbrev s_Line_done : Stmt := inClass (top 57) 4
abbrev s_Line_told : Stmt := inClass (top 57) 5
abbrev s_Door_init : Stmt := inClass (top 58) 0
abbrev s_Door_kind : Stmt := inClass (top 58) 1
abbrev s_Door_fits : Stmt := inClass (top 58) 2
abbrev s_Door_needed : Stmt := inClass (top 58) 3
abbrev s_Door_done : Stmt := inClass (top 58) 4
abbrev s_Door_letters : Stmt := inClass (top 58) 5
abbrev s_Door_told : Stmt := inClass (top 58) 6
abbrev s_Post_init : Stmt := inClass (top 59) 0
abbrev s_Post_kind : Stmt := inClass (top 59) 1
abbrev s_Post_fits : Stmt := inClass (top 59) 2
abbrev s_Post_needed : Stmt := inClass (top 59) 3
abbrev s_Post_done : Stmt := inClass (top 59) 4
abbrev s_Post_told : Stmt := inClass (top 59) 5
abbrev s_Handle_init : Stmt := inClass (top 62) 0
abbrev s_Tree_init : Stmt := inClass (top 63) 0
abbrev s_Tree_need : Stmt := inClass (top 63) 1
abbrev s_Tree_handle : Stmt := inClass (top 63) 2
abbrev s_Tree_added : Stmt := inClass (top 63) 3
abbrev s_Tree_rooted : Stmt := inClass (top 63) 4
abbrev s_Tree_derived : Stmt := inClass (top 63) 5
abbrev s_Tree_held : Stmt := inClass (top 63) 6
abbrev s_Tree_below : Stmt := inClass (top 63) 7
abbrev s_Tree_chain : Stmt := inClass (top 63) 8
abbrev s_Tree_cut : Stmt := inClass (top 63) 9
abbrev s_Tree_kept : Stmt := inClass (top 63) 10
abbrev s_Kernel_init : Stmt := inClass (top 67) 0
abbrev s_begun : Stmt := top 68
abbrev s_handle_at : Stmt := top 69
abbrev s_need_slot : Stmt := top 70
abbrev s_need_rights : Stmt := top 71
abbrev s_made_thing : Stmt := top 72
abbrev s_kept_thing : Stmt := top 73
abbrev s_need_room : Stmt := top 74
abbrev s_make : Stmt := top 75
abbrev s_start : Stmt := top 76
abbrev s_put_below : Stmt := top 77
abbrev s_narrow : Stmt := top 78
abbrev s_hand : Stmt := top 79
abbrev s_let_go : Stmt := top 81
abbrev s_call_back : Stmt := top 82
abbrev s_give_up : Stmt := top 83
abbrev s_ended : Stmt := top 84
abbrev s_do : Stmt := top 85
abbrev s_Letter_init : Stmt := inClass (top 90) 0
abbrev s_door_at : Stmt := top 91
abbrev s_need_passing : Stmt := top 92
abbrev s_send : Stmt := top 93
abbrev s_hear : Stmt := top 94
abbrev s_l_cell_at : Stmt := top 96
abbrev s_l_drawn : Stmt := top 97
abbrev s_l_names : Stmt := top 98
abbrev s_l_slot : Stmt := top 99
abbrev s_l_had : Stmt := top 100
abbrev s_l_letter : Stmt := top 101
abbrev s_l_deed : Stmt := top 102
abbrev s_l_done : Stmt := top 103
abbrev s_l_planted : Stmt := top 104
abbrev s_l_kernel : Stmt := top 105
abbrev s_l_still : Stmt := top 106
abbrev s_l_pairs : Stmt := top 107
abbrev s_l_within : Stmt := top 108
abbrev s_l_chained : Stmt := top 109
abbrev s_l_heard : Stmt := top 110
abbrev s_law : Stmt := top 111
def d_NoDeed_init : He.DefD := ⟨("NoDeed", some "__init__"), "__init__", "NoDeed.__init__", defArgs s_NoDeed_init, defBody s_NoDeed_init, defScope s_NoDeed_init, [], []⟩
def d_Lacks_init : He.DefD := ⟨("Lacks", some "__init__"), "__init__", "Lacks.__init__", defArgs s_Lacks_init, defBody s_Lacks_init, defScope s_Lacks_init, [], []⟩
def d_is_whole : He.DefD := ⟨("is_whole", none), "is_whole", "is_whole", defArgs s_is_whole, defBody s_is_whole, defScope s_is_whole, [], []⟩
def d_is_rights : He.DefD := ⟨("is_rights", none), "is_rights", "is_rights", defArgs s_is_rights, defBody s_is_rights, defScope s_is_rights, [], []⟩
def d_missing : He.DefD := ⟨("missing", none), "missing", "missing", defArgs s_missing, defBody s_missing, defScope s_missing, [], []⟩
def d_narrowed : He.DefD := ⟨("narrowed", none), "narrowed", "narrowed", defArgs s_narrowed, defBody s_narrowed, defScope s_narrowed, [], []⟩
def d_is_name : He.DefD := ⟨("is_name", none), "is_name", "is_name", defArgs s_is_name, defBody s_is_name, defScope s_is_name, [], []⟩
def d_is_value : He.DefD := ⟨("is_value", none), "is_value", "is_value", defArgs s_is_value, defBody s_is_value, defScope s_is_value, [], []⟩
def d_are_words : He.DefD := ⟨("are_words", none), "are_words", "are_words", defArgs s_are_words, defBody s_are_words, defScope s_are_words, [], []⟩
def d_need_thing : He.DefD := ⟨("need_thing", none), "need_thing", "need_thing", defArgs s_need_thing, defBody s_need_thing, defScope s_need_thing, [], []⟩
def d_handles_of : He.DefD := ⟨("handles_of", none), "handles_of", "handles_of", defArgs s_handles_of, defBody s_handles_of, defScope s_handles_of, [], []⟩
def d_gathered : He.DefD := ⟨("gathered", none), "gathered", "gathered", defArgs s_gathered, defBody s_gathered, defScope s_gathered, [], []⟩
def d_can : He.DefD := ⟨("can", none), "can", "can", defArgs s_can, defBody s_can, defScope s_can, [], []⟩
def d_parts_heard : He.DefD := ⟨("parts_heard", none), "parts_heard", "parts_heard", defArgs s_parts_heard, defBody s_parts_heard, defScope s_parts_heard, [], []⟩
def d_joined : He.DefD := ⟨("joined", none), "joined", "joined", defArgs s_joined, defBody s_joined, defScope s_joined, [], []⟩
def d_passes : He.DefD := ⟨("passes", none), "passes", "passes", defArgs s_passes, defBody s_passes, defScope s_passes, [], []⟩
def d_might_have : He.DefD := ⟨("might_have", none), "might_have", "might_have", defArgs s_might_have, defBody s_might_have, defScope s_might_have, [], []⟩
def d_passed_on : He.DefD := ⟨("passed_on", none), "passed_on", "passed_on", defArgs s_passed_on, defBody s_passed_on, defScope s_passed_on, [], []⟩
def d_could : He.DefD := ⟨("could", none), "could", "could", defArgs s_could, defBody s_could, defScope s_could, [.non], []⟩
def d_Task_init : He.DefD := ⟨("Task", some "__init__"), "__init__", "Task.__init__", defArgs s_Task_init, defBody s_Task_init, defScope s_Task_init, [], []⟩
def d_Tasks_init : He.DefD := ⟨("Tasks", some "__init__"), "__init__", "Tasks.__init__", defArgs s_Tasks_init, defBody s_Tasks_init, defScope s_Tasks_init, [], []⟩
def d_Tasks_running_one : He.DefD := ⟨("Tasks", some "running_one"), "running_one", "Tasks.running_one", defArgs s_Tasks_running_one, defBody s_Tasks_running_one, defScope s_Tasks_running_one, [], []⟩
def d_Tasks_need : He.DefD := ⟨("Tasks", some "need"), "need", "Tasks.need", defArgs s_Tasks_need, defBody s_Tasks_need, defScope s_Tasks_need, [], []⟩
def d_Tasks_added : He.DefD := ⟨("Tasks", some "added"), "added", "Tasks.added", defArgs s_Tasks_added, defBody s_Tasks_added, defScope s_Tasks_added, [], []⟩
def d_Tasks_running : He.DefD := ⟨("Tasks", some "running"), "running", "Tasks.running", defArgs s_Tasks_running, defBody s_Tasks_running, defScope s_Tasks_running, [], []⟩
def d_Tasks_names : He.DefD := ⟨("Tasks", some "names"), "names", "Tasks.names", defArgs s_Tasks_names, defBody s_Tasks_names, defScope s_Tasks_names, [], []⟩
def d_Tasks_put : He.DefD := ⟨("Tasks", some "put"), "put", "Tasks.put", defArgs s_Tasks_put, defBody s_Tasks_put, defScope s_Tasks_put, [], []⟩
def d_Tasks_at : He.DefD := ⟨("Tasks", some "at"), "at", "Tasks.at", defArgs s_Tasks_at, defBody s_Tasks_at, defScope s_Tasks_at, [], []⟩
def d_Tasks_free : He.DefD := ⟨("Tasks", some "free"), "free", "Tasks.free", defArgs s_Tasks_free, defBody s_Tasks_free, defScope s_Tasks_free, [], []⟩
def d_Tasks_slots : He.DefD := ⟨("Tasks", some "slots"), "slots", "Tasks.slots", defArgs s_Tasks_slots, defBody s_Tasks_slots, defScope s_Tasks_slots, [], []⟩
def d_Tasks_taken_out : He.DefD := ⟨("Tasks", some "taken_out"), "taken_out", "Tasks.taken_out", defArgs s_Tasks_taken_out, defBody s_Tasks_taken_out, defScope s_Tasks_taken_out, [], []⟩
def d_Tasks_made_by : He.DefD := ⟨("Tasks", some "made_by"), "made_by", "Tasks.made_by", defArgs s_Tasks_made_by, defBody s_Tasks_made_by, defScope s_Tasks_made_by, [], []⟩
def d_Tasks_stopped : He.DefD := ⟨("Tasks", some "stopped"), "stopped", "Tasks.stopped", defArgs s_Tasks_stopped, defBody s_Tasks_stopped, defScope s_Tasks_stopped, [], []⟩
def d_Thing_init : He.DefD := ⟨("Thing", some "__init__"), "__init__", "Thing.__init__", defArgs s_Thing_init, defBody s_Thing_init, defScope s_Thing_init, [], []⟩
def d_Thing_kind : He.DefD := ⟨("Thing", some "kind"), "kind", "Thing.kind", defArgs s_Thing_kind, defBody s_Thing_kind, defScope s_Thing_kind, [], []⟩
def d_Thing_fits : He.DefD := ⟨("Thing", some "fits"), "fits", "Thing.fits", defArgs s_Thing_fits, defBody s_Thing_fits, defScope s_Thing_fits, [], []⟩
def d_Thing_needed : He.DefD := ⟨("Thing", some "needed"), "needed", "Thing.needed", defArgs s_Thing_needed, defBody s_Thing_needed, defScope s_Thing_needed, [], []⟩
def d_Thing_needs : He.DefD := ⟨("Thing", some "needs"), "needs", "Thing.needs", defArgs s_Thing_needs, defBody s_Thing_needs, defScope s_Thing_needs, [], []⟩
def d_Thing_done : He.DefD := ⟨("Thing", some "done"), "done", "Thing.done", defArgs s_Thing_done, defBody s_Thing_done, defScope s_Thing_done, [], []⟩
def d_Thing_did : He.DefD := ⟨("Thing", some "did"), "did", "Thing.did", defArgs s_Thing_did, defBody s_Thing_did, defScope s_Thing_did, [], []⟩
def d_Thing_told : He.DefD := ⟨("Thing", some "told"), "told", "Thing.told", defArgs s_Thing_told, defBody s_Thing_told, defScope s_Thing_told, [], []⟩
def d_Cell_init : He.DefD := ⟨("Cell", some "__init__"), "__init__", "Cell.__init__", defArgs s_Cell_init, defBody s_Cell_init, defScope s_Cell_init, [], []⟩
def d_Cell_kind : He.DefD := ⟨("Cell", some "kind"), "kind", "Cell.kind", defArgs s_Cell_kind, defBody s_Cell_kind, defScope s_Cell_kind, [], []⟩
def d_Cell_fits : He.DefD := ⟨("Cell", some "fits"), "fits", "Cell.fits", defArgs s_Cell_fits, defBody s_Cell_fits, defScope s_Cell_fits, [], []⟩
def d_Cell_needed : He.DefD := ⟨("Cell", some "needed"), "needed", "Cell.needed", defArgs s_Cell_needed, defBody s_Cell_needed, defScope s_Cell_needed, [], []⟩
def d_Cell_done : He.DefD := ⟨("Cell", some "done"), "done", "Cell.done", defArgs s_Cell_done, defBody s_Cell_done, defScope s_Cell_done, [], []⟩
def d_Cell_told : He.DefD := ⟨("Cell", some "told"), "told", "Cell.told", defArgs s_Cell_told, defBody s_Cell_told, defScope s_Cell_told, [], []⟩
def d_Line_init : He.DefD := ⟨("Line", some "__init__"), "__init__", "Line.__init__", defArgs s_Line_init, defBody s_Line_init, defScope s_Line_init, [], []⟩
def d_Line_kind : He.DefD := ⟨("Line", some "kind"), "kind", "Line.kind", defArgs s_Line_kind, defBody s_Line_kind, defScope s_Line_kind, [], []⟩
def d_Line_fits : He.DefD := ⟨("Line", some "fits"), "fits", "Line.fits", defArgs s_Line_fits, defBody s_Line_fits, defScope s_Line_fits, [], []⟩
def d_Line_needed : He.DefD := ⟨("Line", some "needed"), "needed", "Line.needed", defArgs s_Line_needed, defBody s_Line_needed, defScope s_Line_needed, [], []⟩
def d_Line_done : He.DefD := ⟨("Line", some "done"), "done", "Line.done", defArgs s_Line_done, defBody s_Line_done, defScope s_Line_done, [], []⟩
def d_Line_told : He.DefD := ⟨("Line", some "told"), "told", "Line.told", defArgs s_Line_told, defBody s_Line_told, defScope s_Line_told, [], []⟩
def d_Door_init : He.DefD := ⟨("Door", some "__init__"), "__init__", "Door.__init__", defArgs s_Door_init, defBody s_Door_init, defScope s_Door_init, [], []⟩
def d_Door_kind : He.DefD := ⟨("Door", some "kind"), "kind", "Door.kind", defArgs s_Door_kind, defBody s_Door_kind, defScope s_Door_kind, [], []⟩
def d_Door_fits : He.DefD := ⟨("Door", some "fits"), "fits", "Door.fits", defArgs s_Door_fits, defBody s_Door_fits, defScope s_Door_fits, [], []⟩
def d_Door_needed : He.DefD := ⟨("Door", some "needed"), "needed", "Door.needed", defArgs s_Door_needed, defBody s_Door_needed, defScope s_Door_needed, [], []⟩
def d_Door_done : He.DefD := ⟨("Door", some "done"), "done", "Door.done", defArgs s_Door_done, defBody s_Door_done, defScope s_Door_done, [], []⟩
def d_Door_letters : He.DefD := ⟨("Door", some "letters"), "letters", "Door.letters", defArgs s_Door_letters, defBody s_Door_letters, defScope s_Door_letters, [], []⟩
def d_Door_told : He.DefD := ⟨("Door", some "told"), "told", "Door.told", defArgs s_Door_told, defBody s_Door_told, defScope s_Door_told, [], []⟩
def d_Post_init : He.DefD := ⟨("Post", some "__init__"), "__init__", "Post.__init__", defArgs s_Post_init, defBody s_Post_init, defScope s_Post_init, [], []⟩
def d_Post_kind : He.DefD := ⟨("Post", some "kind"), "kind", "Post.kind", defArgs s_Post_kind, defBody s_Post_kind, defScope s_Post_kind, [], []⟩
def d_Post_fits : He.DefD := ⟨("Post", some "fits"), "fits", "Post.fits", defArgs s_Post_fits, defBody s_Post_fits, defScope s_Post_fits, [], []⟩
def d_Post_needed : He.DefD := ⟨("Post", some "needed"), "needed", "Post.needed", defArgs s_Post_needed, defBody s_Post_needed, defScope s_Post_needed, [], []⟩
def d_Post_done : He.DefD := ⟨("Post", some "done"), "done", "Post.done", defArgs s_Post_done, defBody s_Post_done, defScope s_Post_done, [], []⟩
def d_Post_told : He.DefD := ⟨("Post", some "told"), "told", "Post.told", defArgs s_Post_told, defBody s_Post_told, defScope s_Post_told, [], []⟩
def d_Handle_init : He.DefD := ⟨("Handle", some "__init__"), "__init__", "Handle.__init__", defArgs s_Handle_init, defBody s_Handle_init, defScope s_Handle_init, [], []⟩
def d_Tree_init : He.DefD := ⟨("Tree", some "__init__"), "__init__", "Tree.__init__", defArgs s_Tree_init, defBody s_Tree_init, defScope s_Tree_init, [], []⟩
def d_Tree_need : He.DefD := ⟨("Tree", some "need"), "need", "Tree.need", defArgs s_Tree_need, defBody s_Tree_need, defScope s_Tree_need, [], []⟩
def d_Tree_handle : He.DefD := ⟨("Tree", some "handle"), "handle", "Tree.handle", defArgs s_Tree_handle, defBody s_Tree_handle, defScope s_Tree_handle, [], []⟩
def d_Tree_added : He.DefD := ⟨("Tree", some "added"), "added", "Tree.added", defArgs s_Tree_added, defBody s_Tree_added, defScope s_Tree_added, [], []⟩
def d_Tree_rooted : He.DefD := ⟨("Tree", some "rooted"), "rooted", "Tree.rooted", defArgs s_Tree_rooted, defBody s_Tree_rooted, defScope s_Tree_rooted, [], []⟩
def d_Tree_derived : He.DefD := ⟨("Tree", some "derived"), "derived", "Tree.derived", defArgs s_Tree_derived, defBody s_Tree_derived, defScope s_Tree_derived, [], []⟩
def d_Tree_held : He.DefD := ⟨("Tree", some "held"), "held", "Tree.held", defArgs s_Tree_held, defBody s_Tree_held, defScope s_Tree_held, [], []⟩
def d_Tree_below : He.DefD := ⟨("Tree", some "below"), "below", "Tree.below", defArgs s_Tree_below, defBody s_Tree_below, defScope s_Tree_below, [], []⟩
def d_Tree_chain : He.DefD := ⟨("Tree", some "chain"), "chain", "Tree.chain", defArgs s_Tree_chain, defBody s_Tree_chain, defScope s_Tree_chain, [], []⟩
def d_Tree_cut : He.DefD := ⟨("Tree", some "cut"), "cut", "Tree.cut", defArgs s_Tree_cut, defBody s_Tree_cut, defScope s_Tree_cut, [], []⟩
def d_Tree_kept : He.DefD := ⟨("Tree", some "kept"), "kept", "Tree.kept", defArgs s_Tree_kept, defBody s_Tree_kept, defScope s_Tree_kept, [], []⟩
def d_Kernel_init : He.DefD := ⟨("Kernel", some "__init__"), "__init__", "Kernel.__init__", defArgs s_Kernel_init, defBody s_Kernel_init, defScope s_Kernel_init, [], []⟩
def d_begun : He.DefD := ⟨("begun", none), "begun", "begun", defArgs s_begun, defBody s_begun, defScope s_begun, [], []⟩
def d_handle_at : He.DefD := ⟨("handle_at", none), "handle_at", "handle_at", defArgs s_handle_at, defBody s_handle_at, defScope s_handle_at, [], []⟩
def d_need_slot : He.DefD := ⟨("need_slot", none), "need_slot", "need_slot", defArgs s_need_slot, defBody s_need_slot, defScope s_need_slot, [], []⟩
def d_need_rights : He.DefD := ⟨("need_rights", none), "need_rights", "need_rights", defArgs s_need_rights, defBody s_need_rights, defScope s_need_rights, [], []⟩
def d_made_thing : He.DefD := ⟨("made_thing", none), "made_thing", "made_thing", defArgs s_made_thing, defBody s_made_thing, defScope s_made_thing, [], []⟩
def d_kept_thing : He.DefD := ⟨("kept_thing", none), "kept_thing", "kept_thing", defArgs s_kept_thing, defBody s_kept_thing, defScope s_kept_thing, [], []⟩
def d_need_room : He.DefD := ⟨("need_room", none), "need_room", "need_room", defArgs s_need_room, defBody s_need_room, defScope s_need_room, [], []⟩
def d_make : He.DefD := ⟨("make", none), "make", "make", defArgs s_make, defBody s_make, defScope s_make, [], []⟩
def d_start : He.DefD := ⟨("start", none), "start", "start", defArgs s_start, defBody s_start, defScope s_start, [], []⟩
def d_put_below : He.DefD := ⟨("put_below", none), "put_below", "put_below", defArgs s_put_below, defBody s_put_below, defScope s_put_below, [], []⟩
def d_narrow : He.DefD := ⟨("narrow", none), "narrow", "narrow", defArgs s_narrow, defBody s_narrow, defScope s_narrow, [], []⟩
def d_hand : He.DefD := ⟨("hand", none), "hand", "hand", defArgs s_hand, defBody s_hand, defScope s_hand, [.non], []⟩
def d_let_go : He.DefD := ⟨("let_go", none), "let_go", "let_go", defArgs s_let_go, defBody s_let_go, defScope s_let_go, [], []⟩
def d_call_back : He.DefD := ⟨("call_back", none), "call_back", "call_back", defArgs s_call_back, defBody s_call_back, defScope s_call_back, [], []⟩
def d_give_up : He.DefD := ⟨("give_up", none), "give_up", "give_up", defArgs s_give_up, defBody s_give_up, defScope s_give_up, [], []⟩
def d_ended : He.DefD := ⟨("ended", none), "ended", "ended", defArgs s_ended, defBody s_ended, defScope s_ended, [], []⟩
def d_do : He.DefD := ⟨("do", none), "do", "do", defArgs s_do, defBody s_do, defScope s_do, [.int 0], []⟩
def d_Letter_init : He.DefD := ⟨("Letter", some "__init__"), "__init__", "Letter.__init__", defArgs s_Letter_init, defBody s_Letter_init, defScope s_Letter_init, [], []⟩
def d_door_at : He.DefD := ⟨("door_at", none), "door_at", "door_at", defArgs s_door_at, defBody s_door_at, defScope s_door_at, [], []⟩
def d_need_passing : He.DefD := ⟨("need_passing", none), "need_passing", "need_passing", defArgs s_need_passing, defBody s_need_passing, defScope s_need_passing, [], []⟩
def d_send : He.DefD := ⟨("send", none), "send", "send", defArgs s_send, defBody s_send, defScope s_send, [.non, .int 63], []⟩
def d_hear : He.DefD := ⟨("hear", none), "hear", "hear", defArgs s_hear, defBody s_hear, defScope s_hear, [], []⟩
def d_l_cell_at : He.DefD := ⟨("_law_cell_at", none), "_law_cell_at", "_law_cell_at", defArgs s_l_cell_at, defBody s_l_cell_at, defScope s_l_cell_at, [], []⟩
def d_l_drawn : He.DefD := ⟨("_law_drawn", none), "_law_drawn", "_law_drawn", defArgs s_l_drawn, defBody s_l_drawn, defScope s_l_drawn, [], []⟩
def d_l_names : He.DefD := ⟨("_law_names", none), "_law_names", "_law_names", defArgs s_l_names, defBody s_l_names, defScope s_l_names, [], []⟩
def d_l_slot : He.DefD := ⟨("_law_slot", none), "_law_slot", "_law_slot", defArgs s_l_slot, defBody s_l_slot, defScope s_l_slot, [], []⟩
def d_l_had : He.DefD := ⟨("_law_had", none), "_law_had", "_law_had", defArgs s_l_had, defBody s_l_had, defScope s_l_had, [], []⟩
def d_l_letter : He.DefD := ⟨("_law_letter", none), "_law_letter", "_law_letter", defArgs s_l_letter, defBody s_l_letter, defScope s_l_letter, [], []⟩
def d_l_deed : He.DefD := ⟨("_law_deed", none), "_law_deed", "_law_deed", defArgs s_l_deed, defBody s_l_deed, defScope s_l_deed, [], []⟩
def d_l_done : He.DefD := ⟨("_law_done", none), "_law_done", "_law_done", defArgs s_l_done, defBody s_l_done, defScope s_l_done, [], []⟩
def d_l_planted : He.DefD := ⟨("_law_planted", none), "_law_planted", "_law_planted", defArgs s_l_planted, defBody s_l_planted, defScope s_l_planted, [], []⟩
def d_l_kernel : He.DefD := ⟨("_law_kernel", none), "_law_kernel", "_law_kernel", defArgs s_l_kernel, defBody s_l_kernel, defScope s_l_kernel, [], []⟩
def d_l_still : He.DefD := ⟨("_law_still", none), "_law_still", "_law_still", defArgs s_l_still, defBody s_l_still, defScope s_l_still, [], []⟩
def d_l_pairs : He.DefD := ⟨("_law_pairs", none), "_law_pairs", "_law_pairs", defArgs s_l_pairs, defBody s_l_pairs, defScope s_l_pairs, [], []⟩
def d_l_within : He.DefD := ⟨("_law_within", none), "_law_within", "_law_within", defArgs s_l_within, defBody s_l_within, defScope s_l_within, [], []⟩
def d_l_chained : He.DefD := ⟨("_law_chained", none), "_law_chained", "_law_chained", defArgs s_l_chained, defBody s_l_chained, defScope s_l_chained, [], []⟩
def d_l_heard : He.DefD := ⟨("_law_heard", none), "_law_heard", "_law_heard", defArgs s_l_heard, defBody s_l_heard, defScope s_l_heard, [], []⟩
def d_law : He.DefD := ⟨("law", none), "law", "law", defArgs s_law, defBody s_law, defScope s_law, [], []⟩
def d_Cell_needs : He.DefD := ⟨("Cell", some "needs"), "needs", "Thing.needs", defArgs s_Thing_needs, defBody s_Thing_needs, defScope s_Thing_needs, [], []⟩
def d_Cell_did : He.DefD := ⟨("Cell", some "did"), "did", "Thing.did", defArgs s_Thing_did, defBody s_Thing_did, defScope s_Thing_did, [], []⟩
def d_Line_needs : He.DefD := ⟨("Line", some "needs"), "needs", "Thing.needs", defArgs s_Thing_needs, defBody s_Thing_needs, defScope s_Thing_needs, [], []⟩
def d_Line_did : He.DefD := ⟨("Line", some "did"), "did", "Thing.did", defArgs s_Thing_did, defBody s_Thing_did, defScope s_Thing_did, [], []⟩
def d_Door_needs : He.DefD := ⟨("Door", some "needs"), "needs", "Thing.needs", defArgs s_Thing_needs, defBody s_Thing_needs, defScope s_Thing_needs, [], []⟩
def d_Door_did : He.DefD := ⟨("Door", some "did"), "did", "Thing.did", defArgs s_Thing_did, defBody s_Thing_did, defScope s_Thing_did, [], []⟩
def d_Post_needs : He.DefD := ⟨("Post", some "needs"), "needs", "Thing.needs", defArgs s_Thing_needs, defBody s_Thing_needs, defScope s_Thing_needs, [], []⟩
def d_Post_did : He.DefD := ⟨("Post", some "did"), "did", "Thing.did", defArgs s_Thing_did, defBody s_Thing_did, defScope s_Thing_did, [], []⟩
def fn : List He.DefD := [d_NoDeed_init, d_Lacks_init, d_is_whole, d_is_rights, d_missing, d_narrowed, d_is_name, d_is_value, d_are_words, d_need_thing, d_handles_of, d_gathered, d_can, d_parts_heard, d_joined, d_passes, d_might_have, d_passed_on, d_could, d_Task_init, d_Tasks_init, d_Tasks_running_one, d_Tasks_need, d_Tasks_added, d_Tasks_running, d_Tasks_names, d_Tasks_put, d_Tasks_at, d_Tasks_free, d_Tasks_slots, d_Tasks_taken_out, d_Tasks_made_by, d_Tasks_stopped, d_Thing_init, d_Thing_kind, d_Thing_fits, d_Thing_needed, d_Thing_needs, d_Thing_done, d_Thing_did, d_Thing_told, d_Cell_init, d_Cell_kind, d_Cell_fits, d_Cell_needed, d_Cell_done, d_Cell_told, d_Line_init, d_Line_kind, d_Line_fits, d_Line_needed, d_Line_done, d_Line_told, d_Door_init, d_Door_kind, d_Door_fits, d_Door_needed, d_Door_done, d_Door_letters, d_Door_told, d_Post_init, d_Post_kind, d_Post_fits, d_Post_needed, d_Post_done, d_Post_told, d_Handle_init, d_Tree_init, d_Tree_need, d_Tree_handle, d_Tree_added, d_Tree_rooted, d_Tree_derived, d_Tree_held, d_Tree_below, d_Tree_chain, d_Tree_cut, d_Tree_kept, d_Kernel_init, d_begun, d_handle_at, d_need_slot, d_need_rights, d_made_thing, d_kept_thing, d_need_room, d_make, d_start, d_put_below, d_narrow, d_hand, d_let_go, d_call_back, d_give_up, d_ended, d_do, d_Letter_init, d_door_at, d_need_passing, d_send, d_hear, d_l_cell_at, d_l_drawn, d_l_names, d_l_slot, d_l_had, d_l_letter, d_l_deed, d_l_done, d_l_planted, d_l_kernel, d_l_still, d_l_pairs, d_l_within, d_l_chained, d_l_heard, d_law, d_Cell_needs, d_Cell_did, d_Line_needs, d_Line_did, d_Door_needs, d_Door_did, d_Post_needs, d_Post_did]
def fa : List He.Fa := [.glo "is_whole", .glo "is_rights", .glo "missing", .glo "narrowed", .glo "is_name", .glo "is_value", .glo "are_words", .glo "need_thing", .glo "handles_of", .glo "gathered", .glo "can", .glo "parts_heard", .glo "joined", .glo "passes", .glo "might_have", .glo "passed_on", .glo "could", .glo "begun", .glo "handle_at", .glo "need_slot", .glo "need_rights", .glo "made_thing", .glo "kept_thing", .glo "need_room", .glo "make", .glo "start", .glo "put_below", .glo "narrow", .glo "hand", .glo "let_go", .glo "call_back", .glo "give_up", .glo "ended", .glo "do", .glo "door_at", .glo "need_passing", .glo "send", .glo "hear", .glo "_law_cell_at", .glo "_law_drawn", .glo "_law_names", .glo "_law_slot", .glo "_law_had", .glo "_law_letter", .glo "_law_deed", .glo "_law_done", .glo "_law_planted", .glo "_law_kernel", .glo "_law_still", .glo "_law_pairs", .glo "_law_within", .glo "_law_chained", .glo "_law_heard", .glo "law", .glo "PassError", .glo "NoRights", .glo "NoName", .glo "NoValue", .glo "NoWords", .glo "NoKind", .glo "NoTask", .glo "NoHandle", .glo "NoThing", .glo "NoDeed", .glo "Lacks", .glo "Taken", .glo "TooMany", .glo "TooGreat", .glo "Empty", .glo "Full", .glo "Task", .glo "Tasks", .glo "Thing", .glo "Cell", .glo "Line", .glo "Door", .glo "Post", .glo "Handle", .glo "Tree", .glo "Kernel", .glo "Letter", .int "LOOK" 1, .int "PUT" 2, .int "SEND" 4, .int "HEAR" 8, .int "END" 16, .int "PASS" 32, .int "EACH" 63, .int "MOST_VALUE" 1000000000000, .int "MOST_LETTERS" 8, .int "MOST_SIGNS" 20, .int "PERCENT" 37, .int "MOST_TASKS" 12, .int "SLOTS" 16, .int "MOST_IN_LINE" 9, .int "MOST_WAITING_things" 8, .int "MOST_CHAIN_tree" 40, .int "MOST_THINGS" 40, .int "MOST_RUNNING" 12, .int "MOST_PARTS" 4, .int "MOST_WAITING_letters" 8, .int "MOST_CHAIN_letters" 40, .free "isinstance", .free "int", .free "bool", .free "str", .free "len", .free "abs", .free "all", .free "ord", .free "sorted", .free "enumerate", .free "dict", .free "tuple", .free "list", .free "range", .cls "Task", .mkr "Task", .noat "Task" "maker", .noat "Task" "runs", .noat "Task" "rows", .cls "Tasks", .mkr "Tasks", .noat "Tasks" "known", .cls "Cell", .mkr "Cell", .noat "Cell" "number", .noat "Cell" "amount", .cls "Line", .mkr "Line", .noat "Line" "number", .noat "Line" "row", .cls "Door", .mkr "Door", .noat "Door" "number", .noat "Door" "waiting", .cls "Post", .mkr "Post", .noat "Post" "number", .noat "Post" "name", .noat "Post" "runs", .cls "Handle", .mkr "Handle", .noat "Handle" "number", .noat "Handle" "thing", .noat "Handle" "rights", .noat "Handle" "giver", .noat "Handle" "holder", .cls "Tree", .mkr "Tree", .noat "Tree" "ever", .noat "Tree" "rows", .noat "Tree" "right_below", .cls "Kernel", .mkr "Kernel", .noat "Kernel" "tree", .noat "Kernel" "tasks", .noat "Kernel" "things", .cls "Letter", .mkr "Letter", .noat "Letter" "words", .noat "Letter" "parts", .meth "Task" "__init__", .meth "Tasks" "__init__", .meth "Tasks" "running_one", .meth "Tasks" "need", .meth "Tasks" "added", .meth "Tasks" "running", .meth "Tasks" "names", .meth "Tasks" "put", .meth "Tasks" "at", .meth "Tasks" "free", .meth "Tasks" "slots", .meth "Tasks" "taken_out", .meth "Tasks" "made_by", .meth "Tasks" "stopped", .meth "Cell" "__init__", .meth "Cell" "kind", .meth "Cell" "fits", .meth "Cell" "needed", .meth "Cell" "done", .meth "Cell" "told", .meth "Cell" "needs", .meth "Cell" "did", .meth "Line" "__init__", .meth "Line" "kind", .meth "Line" "fits", .meth "Line" "needed", .meth "Line" "done", .meth "Line" "told", .meth "Line" "needs", .meth "Line" "did", .meth "Door" "__init__", .meth "Door" "kind", .meth "Door" "fits", .meth "Door" "needed", .meth "Door" "done", .meth "Door" "letters", .meth "Door" "told", .meth "Door" "needs", .meth "Door" "did", .meth "Post" "__init__", .meth "Post" "kind", .meth "Post" "fits", .meth "Post" "needed", .meth "Post" "done", .meth "Post" "told", .meth "Post" "needs", .meth "Post" "did", .meth "Handle" "__init__", .meth "Tree" "__init__", .meth "Tree" "need", .meth "Tree" "handle", .meth "Tree" "added", .meth "Tree" "rooted", .meth "Tree" "derived", .meth "Tree" "held", .meth "Tree" "below", .meth "Tree" "chain", .meth "Tree" "cut", .meth "Tree" "kept", .meth "Kernel" "__init__", .meth "Letter" "__init__", .exc "PassError", .exc "NoRights", .exc "NoName", .exc "NoValue", .exc "NoWords", .exc "NoKind", .exc "NoTask", .exc "NoHandle", .exc "NoThing", .exc "Taken", .exc "TooMany", .exc "TooGreat", .exc "Empty", .exc "Full", .exm "PassError" "PassError" true, .exm "NoRights" "PassError" true, .exm "NoName" "PassError" true, .exm "NoValue" "PassError" true, .exm "NoWords" "PassError" true, .exm "NoKind" "PassError" true, .exm "NoTask" "PassError" true, .exm "NoHandle" "PassError" true, .exm "NoThing" "PassError" true, .exm "Taken" "PassError" true, .exm "TooMany" "PassError" true, .exm "TooGreat" "PassError" true, .exm "Empty" "PassError" true, .exm "Full" "PassError" true, .exm "NoDeed" "PassError" true, .exm "Lacks" "PassError" true]
def tf : List He.Defn := [("can", none), ("might_have", none), ("could", none)]
def oexB (K : PySem.W.Frag) (C : Addr) : Bool := match K.lookup C with
  | some ⟨.type "type", _, .cls cd, sl⟩ => (match cd.mro, sl.toList with
    | .ref C' :: bm, [_, _, _, _, some (.builtin n), _] => decide (C' = C) && (decide (n = "ValueError.__new__") && (!cd.hasDel && (cd.hasDict && PySem.HandSPX.refsVE bm)))
    | _, _ => false)
  | _ => false
def exB (K : PySem.W.Frag) (x f : Str) : Bool := oexB K (He.ga K x) && (He.eqO (PySem.W.findIn K (.ref (He.ga K x)) "__setattr__") (some (some (.builtin "object.__setattr__"))) && (decide (PySem.W.subIn K (.ref (He.ga K x)) (.type "BaseException") = some true) &&
  (decide (PySem.W.typeIn K (.ref (He.ga K x)) = some (.type "type")) && (PySem.W.keepIn K (.ref (He.ga K x)) && (He.eqO (PySem.W.findIn K (.ref (He.ga K x)) "__init__") (some (some (.ref (He.ma K (He.ga K x) "__init__")))) &&
  (decide (PySem.W.typeIn K (.ref (He.ma K (He.ga K x) "__init__")) = some (.type "function")) && He.eqO (PySem.W.findIn K (.ref (He.ga K x)) f) (some none)))))))
def cinB (K : PySem.W.Frag) (x m : Str) : Bool := PySem.W.readsIn K (He.ga K x) (.type "type") && (He.eqO (PySem.W.specialIn K (.ref (He.ga K x)) "__getattribute__") (some (some (.builtin "type.__getattribute__"))) &&
  ((match PySem.W.findCls K (.ref (He.ga K x)) (.type "type") m with
    | some (.val (.ref a)) => decide (a = He.ma K (He.ga K x) m)
    | _ => false) && PySem.W.keepIn K (.ref (He.ma K (He.ga K x) m))))
def ex (K : PySem.W.Frag) : Bool := exB K "NoDeed" "deed" && (exB K "Lacks" "missing" && cinB K "Thing" "__init__")
abbrev R : PySem.W.OpenRow := PySem.W.OpenLaw.row PySem.Challenge.rw_passkeep_k75_whole_nothing_beyond
abbrev qv : Program := PySem.W.view R.prog [111]
/-! what the names reach: functions, classes, code objects, methods -/
def kin (o : Obj) : List Addr := match o.data with
  | .func fd => He.refV fd.code ++ He.refV fd.defaults
  | .cls cd => [cd.ns]
  | .dict es _ => es.toList.flatMap fun e => He.refV e.val
  | _ => []
def stepA (g : Addr → Option Obj) (as : List Addr) : List Addr := as.flatMap fun a => match g a with
  | some o => kin o
  | none => []
def asP (g : Addr → Option Obj) : List Addr := mainGlobals :: cStatics :: (stepA g [mainGlobals] ++ (stepA g (stepA g [mainGlobals]) ++ (stepA g (stepA g (stepA g [mainGlobals])) ++ stepA g (stepA g (stepA g (stepA g [mainGlobals]))))))
abbrev AlP : Type := He.AlD × Bool
def obP (g : Addr → Option Obj) : AlP := (He.obsD fa fn (He.frT g (asP g)), ex (He.frT g (asP g)) && He.tabsB g tf (He.frT g (asP g)))
def vaP : AlP := (He.valD fn, true)
structure Says (h : Heap) (K : PySem.W.Frag) : Prop where
  d : He.SaysD fa fn K
  ex : ex K = true
  hd : ∀ p ∈ tf, PySem.W.codeHdIn K (He.cT K p).1 (He.cT K p).2 = true
  out : ∀ p ∈ tf, K.lookup (He.cT K p).2 = none
  empty : ∀ p ∈ tf, h.get? (He.cT K p).2 = some { cls := .none, data := .fields #[] }
theorem says_of {h : Heap} (e : obP h.get? = vaP) : Says h (He.frT h.get? (asP h.get?)) := by
  have e1 : He.obsD fa fn (He.frT h.get? (asP h.get?)) = He.valD fn := congrArg Prod.fst e
  have e2 : (ex (He.frT h.get? (asP h.get?)) && He.tabsB h.get? tf (He.frT h.get? (asP h.get?))) = true := congrArg Prod.snd e
  obtain ⟨x1, x2⟩ := He.ba e2
  have each : ∀ p ∈ tf, PySem.W.codeHdIn (He.frT h.get? (asP h.get?)) (He.cT (He.frT h.get? (asP h.get?)) p).1 (He.cT (He.frT h.get? (asP h.get?)) p).2 = true ∧
      ∃ o, h.get? (He.cT (He.frT h.get? (asP h.get?)) p).2 = some o ∧ He.emptyTab o = true := by
    intro p hp
    have z := List.all_eq_true.mp x2 p hp
    obtain ⟨z1, z2⟩ := He.ba z
    refine ⟨z1, ?_⟩
    split at z2
    · rename_i o ho
      exact ⟨o, ho, z2⟩
    · cases z2
  refine ⟨e1, x1, fun p hp => (each p hp).1, fun p hp => ?_, fun p hp => ?_⟩
  · obtain ⟨_, o, q, z⟩ := each p hp
    exact He.frT_none q z
  · obtain ⟨_, o, q, z⟩ := each p hp
    rw [q, He.emptyTab_eq z]
abbrev ExcF (K : PySem.W.Frag) (C : Addr) : Prop := PySem.W.excIn K C He.veBase "ValueError.__new__" = true ∧ PySem.W.keepIn K (.ref C) = true ∧ PySem.W.subIn K (.ref C) (.type "BaseException") = some true ∧ PySem.W.typeIn K (.ref C) = some (.type "type")
def hkP : PySem.W.Hook where
  α := AlP
  obs := fun s => obP s.heap.get?
  val := fun _ => vaP
  says := fun _ h => ∃ K : PySem.W.Frag, K.In h ∧ Says h K
  of := fun _ _ e => ⟨_, He.frT_in, says_of e⟩
  keeps := fun _ _ _ ⟨K, hK, c⟩ k => ⟨K, PySem.W.Frag.In.keeps hK k, ⟨c.d, c.ex, c.hd, c.out, fun p hp => k _ _ (c.empty p hp)⟩⟩
def obT (s : PySem.W.SharedT) : AlP := obP (HandSHeadRun.getT s)
theorem obT_eq (s : PySem.W.SharedT) : obT s = hkP.obs s.abs := by
  have e : HandSHeadRun.getT s = s.abs.heap.get? := funext (HandSHeadRun.getT_eq s)
  show obP (HandSHeadRun.getT s) = obP s.abs.heap.get?
  rw [e]
/-! what each proof leans on -/
structure Gx (K : PySem.W.Frag) (mg : Str → Option Value) (base : Heap) : Prop where
  d : He.SaysD fa fn K
  ex : ex K = true
  at_ : ∃ h, K.In h ∧ h.Ns mainGlobals mg
  tb : ∀ p ∈ tf, LamX.TabB base mg (He.cT K p).1 (He.cT K p).2
section
variable {K : PySem.W.Frag} {mg : Str → Option Value} {base : Heap} (G : Gx K mg base)
include G
theorem Gx.g_is_whole : mg "is_whole" = some (.ref (He.ga K "is_whole")) := let ⟨_, X, N⟩ := G.at_; He.glo_ok X N (G.d.fact 0 (f := .glo "is_whole") rfl)
theorem Gx.g_is_rights : mg "is_rights" = some (.ref (He.ga K "is_rights")) := let ⟨_, X, N⟩ := G.at_; He.glo_ok X N (G.d.fact 1 (f := .glo "is_rights") rfl)
theorem Gx.g_missing : mg "missing" = some (.ref (He.ga K "missing")) := let ⟨_, X, N⟩ := G.at_; He.glo_ok X N (G.d.fact 2 (f := .glo "missing") rfl)
theorem Gx.g_narrowed : mg "narrowed" = some (.ref (He.ga K "narrowed")) := let ⟨_, X, N⟩ := G.at_; He.glo_ok X N (G.d.fact 3 (f := .glo "narrowed") rfl)
theorem Gx.g_is_name : mg "is_name" = some (.ref (He.ga K "is_name")) := let ⟨_, X, N⟩ := G.at_; He.glo_ok X N (G.d.fact 4 (f := .glo "is_name") rfl)
theorem Gx.g_is_value : mg "is_value" = some (.ref (He.ga K "is_value")) := let ⟨_, X, N⟩ := G.at_; He.glo_ok X N (G.d.fact 5 (f := .glo "is_value") rfl)
theorem Gx.g_are_words : mg "are_words" = some (.ref (He.ga K "are_words")) := let ⟨_, X, N⟩ := G.at_; He.glo_ok X N (G.d.fact 6 (f := .glo "are_words") rfl)
theorem Gx.g_need_thing : mg "need_thing" = some (.ref (He.ga K "need_thing")) := let ⟨_, X, N⟩ := G.at_; He.glo_ok X N (G.d.fact 7 (f := .glo "need_thing") rfl)
theorem Gx.g_handles_of : mg "handles_of" = some (.ref (He.ga K "handles_of")) := let ⟨_, X, N⟩ := G.at_; He.glo_ok X N (G.d.fact 8 (f := .glo "handles_of") rfl)
theorem Gx.g_gathered : mg "gathered" = some (.ref (He.ga K "gathered")) := let ⟨_, X, N⟩ := G.at_; He.glo_ok X N (G.d.fact 9 (f := .glo "gathered") rfl)
theorem Gx.g_can : mg "can" = some (.ref (He.ga K "can")) := let ⟨_, X, N⟩ := G.at_; He.glo_ok X N (G.d.fact 10 (f := .glo "can") rfl)
theorem Gx.g_parts_heard : mg "parts_heard" = some (.ref (He.ga K "parts_heard")) := let ⟨_, X, N⟩ := G.at_; He.glo_ok X N (G.d.fact 11 (f := .glo "parts_heard") rfl)
theorem Gx.g_joined : mg "joined" = some (.ref (He.ga K "joined")) := let ⟨_, X, N⟩ := G.at_; He.glo_ok X N (G.d.fact 12 (f := .glo "joined") rfl)
theorem Gx.g_passes : mg "passes" = some (.ref (He.ga K "passes")) := let ⟨_, X, N⟩ := G.at_; He.glo_ok X N (G.d.fact 13 (f := .glo "passes") rfl)
theorem Gx.g_might_have : mg "might_have" = some (.ref (He.ga K "might_have")) := let ⟨_, X, N⟩ := G.at_; He.glo_ok X N (G.d.fact 14 (f := .glo "might_have") rfl)
theorem Gx.g_passed_on : mg "passed_on" = some (.ref (He.ga K "passed_on")) := let ⟨_, X, N⟩ := G.at_; He.glo_ok X N (G.d.fact 15 (f := .glo "passed_on") rfl)
theorem Gx.g_could : mg "could" = some (.ref (He.ga K "could")) := let ⟨_, X, N⟩ := G.at_; He.glo_ok X N (G.d.fact 16 (f := .glo "could") rfl)
theorem Gx.g_begun : mg "begun" = some (.ref (He.ga K "begun")) := let ⟨_, X, N⟩ := G.at_; He.glo_ok X N (G.d.fact 17 (f := .glo "begun") rfl)
theorem Gx.g_handle_at : mg "handle_at" = some (.ref (He.ga K "handle_at")) := let ⟨_, X, N⟩ := G.at_; He.glo_ok X N (G.d.fact 18 (f := .glo "handle_at") rfl)
theorem Gx.g_need_slot : mg "need_slot" = some (.ref (He.ga K "need_slot")) := let ⟨_, X, N⟩ := G.at_; He.glo_ok X N (G.d.fact 19 (f := .glo "need_slot") rfl)
theorem Gx.g_need_rights : mg "need_rights" = some (.ref (He.ga K "need_rights")) := let ⟨_, X, N⟩ := G.at_; He.glo_ok X N (G.d.fact 20 (f := .glo "need_rights") rfl)
theorem Gx.g_made_thing : mg "made_thing" = some (.ref (He.ga K "made_thing")) := let ⟨_, X, N⟩ := G.at_; He.glo_ok X N (G.d.fact 21 (f := .glo "made_thing") rfl)
theorem Gx.g_kept_thing : mg "kept_thing" = some (.ref (He.ga K "kept_thing")) := let ⟨_, X, N⟩ := G.at_; He.glo_ok X N (G.d.fact 22 (f := .glo "kept_thing") rfl)
theorem Gx.g_need_room : mg "need_room" = some (.ref (He.ga K "need_room")) := let ⟨_, X, N⟩ := G.at_; He.glo_ok X N (G.d.fact 23 (f := .glo "need_room") rfl)
theorem Gx.g_make : mg "make" = some (.ref (He.ga K "make")) := let ⟨_, X, N⟩ := G.at_; He.glo_ok X N (G.d.fact 24 (f := .glo "make") rfl)
theorem Gx.g_start : mg "start" = some (.ref (He.ga K "start")) := let ⟨_, X, N⟩ := G.at_; He.glo_ok X N (G.d.fact 25 (f := .glo "start") rfl)
theorem Gx.g_put_below : mg "put_below" = some (.ref (He.ga K "put_below")) := let ⟨_, X, N⟩ := G.at_; He.glo_ok X N (G.d.fact 26 (f := .glo "put_below") rfl)
theorem Gx.g_narrow : mg "narrow" = some (.ref (He.ga K "narrow")) := let ⟨_, X, N⟩ := G.at_; He.glo_ok X N (G.d.fact 27 (f := .glo "narrow") rfl)
theorem Gx.g_hand : mg "hand" = some (.ref (He.ga K "hand")) := let ⟨_, X, N⟩ := G.at_; He.glo_ok X N (G.d.fact 28 (f := .glo "hand") rfl)
theorem Gx.g_let_go : mg "let_go" = some (.ref (He.ga K "let_go")) := let ⟨_, X, N⟩ := G.at_; He.glo_ok X N (G.d.fact 29 (f := .glo "let_go") rfl)
theorem Gx.g_call_back : mg "call_back" = some (.ref (He.ga K "call_back")) := let ⟨_, X, N⟩ := G.at_; He.glo_ok X N (G.d.fact 30 (f := .glo "call_back") rfl)
theorem Gx.g_give_up : mg "give_up" = some (.ref (He.ga K "give_up")) := let ⟨_, X, N⟩ := G.at_; He.glo_ok X N (G.d.fact 31 (f := .glo "give_up") rfl)
theorem Gx.g_ended : mg "ended" = some (.ref (He.ga K "ended")) := let ⟨_, X, N⟩ := G.at_; He.glo_ok X N (G.d.fact 32 (f := .glo "ended") rfl)
theorem Gx.g_do : mg "do" = some (.ref (He.ga K "do")) := let ⟨_, X, N⟩ := G.at_; He.glo_ok X N (G.d.fact 33 (f := .glo "do") rfl)
theorem Gx.g_door_at : mg "door_at" = some (.ref (He.ga K "door_at")) := let ⟨_, X, N⟩ := G.at_; He.glo_ok X N (G.d.fact 34 (f := .glo "door_at") rfl)
theorem Gx.g_need_passing : mg "need_passing" = some (.ref (He.ga K "need_passing")) := let ⟨_, X, N⟩ := G.at_; He.glo_ok X N (G.d.fact 35 (f := .glo "need_passing") rfl)
theorem Gx.g_send : mg "send" = some (.ref (He.ga K "send")) := let ⟨_, X, N⟩ := G.at_; He.glo_ok X N (G.d.fact 36 (f := .glo "send") rfl)
theorem Gx.g_hear : mg "hear" = some (.ref (He.ga K "hear")) := let ⟨_, X, N⟩ := G.at_; He.glo_ok X N (G.d.fact 37 (f := .glo "hear") rfl)
theorem Gx.g_l_cell_at : mg "_law_cell_at" = some (.ref (He.ga K "_law_cell_at")) := let ⟨_, X, N⟩ := G.at_; He.glo_ok X N (G.d.fact 38 (f := .glo "_law_cell_at") rfl)
theorem Gx.g_l_drawn : mg "_law_drawn" = some (.ref (He.ga K "_law_drawn")) := let ⟨_, X, N⟩ := G.at_; He.glo_ok X N (G.d.fact 39 (f := .glo "_law_drawn") rfl)
theorem Gx.g_l_names : mg "_law_names" = some (.ref (He.ga K "_law_names")) := let ⟨_, X, N⟩ := G.at_; He.glo_ok X N (G.d.fact 40 (f := .glo "_law_names") rfl)
theorem Gx.g_l_slot : mg "_law_slot" = some (.ref (He.ga K "_law_slot")) := let ⟨_, X, N⟩ := G.at_; He.glo_ok X N (G.d.fact 41 (f := .glo "_law_slot") rfl)
theorem Gx.g_l_had : mg "_law_had" = some (.ref (He.ga K "_law_had")) := let ⟨_, X, N⟩ := G.at_; He.glo_ok X N (G.d.fact 42 (f := .glo "_law_had") rfl)
theorem Gx.g_l_letter : mg "_law_letter" = some (.ref (He.ga K "_law_letter")) := let ⟨_, X, N⟩ := G.at_; He.glo_ok X N (G.d.fact 43 (f := .glo "_law_letter") rfl)
theorem Gx.g_l_deed : mg "_law_deed" = some (.ref (He.ga K "_law_deed")) := let ⟨_, X, N⟩ := G.at_; He.glo_ok X N (G.d.fact 44 (f := .glo "_law_deed") rfl)
theorem Gx.g_l_done : mg "_law_done" = some (.ref (He.ga K "_law_done")) := let ⟨_, X, N⟩ := G.at_; He.glo_ok X N (G.d.fact 45 (f := .glo "_law_done") rfl)
theorem Gx.g_l_planted : mg "_law_planted" = some (.ref (He.ga K "_law_planted")) := let ⟨_, X, N⟩ := G.at_; He.glo_ok X N (G.d.fact 46 (f := .glo "_law_planted") rfl)
theorem Gx.g_l_kernel : mg "_law_kernel" = some (.ref (He.ga K "_law_kernel")) := let ⟨_, X, N⟩ := G.at_; He.glo_ok X N (G.d.fact 47 (f := .glo "_law_kernel") rfl)
theorem Gx.g_l_still : mg "_law_still" = some (.ref (He.ga K "_law_still")) := let ⟨_, X, N⟩ := G.at_; He.glo_ok X N (G.d.fact 48 (f := .glo "_law_still") rfl)
theorem Gx.g_l_pairs : mg "_law_pairs" = some (.ref (He.ga K "_law_pairs")) := let ⟨_, X, N⟩ := G.at_; He.glo_ok X N (G.d.fact 49 (f := .glo "_law_pairs") rfl)
theorem Gx.g_l_within : mg "_law_within" = some (.ref (He.ga K "_law_within")) := let ⟨_, X, N⟩ := G.at_; He.glo_ok X N (G.d.fact 50 (f := .glo "_law_within") rfl)
theorem Gx.g_l_chained : mg "_law_chained" = some (.ref (He.ga K "_law_chained")) := let ⟨_, X, N⟩ := G.at_; He.glo_ok X N (G.d.fact 51 (f := .glo "_law_chained") rfl)
theorem Gx.g_l_heard : mg "_law_heard" = some (.ref (He.ga K "_law_heard")) := let ⟨_, X, N⟩ := G.at_; He.glo_ok X N (G.d.fact 52 (f := .glo "_law_heard") rfl)
theorem Gx.g_law : mg "law" = some (.ref (He.ga K "law")) := let ⟨_, X, N⟩ := G.at_; He.glo_ok X N (G.d.fact 53 (f := .glo "law") rfl)
theorem Gx.g_PassError : mg "PassError" = some (.ref (He.ga K "PassError")) := let ⟨_, X, N⟩ := G.at_; He.glo_ok X N (G.d.fact 54 (f := .glo "PassError") rfl)
theorem Gx.g_NoRights : mg "NoRights" = some (.ref (He.ga K "NoRights")) := let ⟨_, X, N⟩ := G.at_; He.glo_ok X N (G.d.fact 55 (f := .glo "NoRights") rfl)
theorem Gx.g_NoName : mg "NoName" = some (.ref (He.ga K "NoName")) := let ⟨_, X, N⟩ := G.at_; He.glo_ok X N (G.d.fact 56 (f := .glo "NoName") rfl)
theorem Gx.g_NoValue : mg "NoValue" = some (.ref (He.ga K "NoValue")) := let ⟨_, X, N⟩ := G.at_; He.glo_ok X N (G.d.fact 57 (f := .glo "NoValue") rfl)
theorem Gx.g_NoWords : mg "NoWords" = some (.ref (He.ga K "NoWords")) := let ⟨_, X, N⟩ := G.at_; He.glo_ok X N (G.d.fact 58 (f := .glo "NoWords") rfl)
theorem Gx.g_NoKind : mg "NoKind" = some (.ref (He.ga K "NoKind")) := let ⟨_, X, N⟩ := G.at_; He.glo_ok X N (G.d.fact 59 (f := .glo "NoKind") rfl)
theorem Gx.g_NoTask : mg "NoTask" = some (.ref (He.ga K "NoTask")) := let ⟨_, X, N⟩ := G.at_; He.glo_ok X N (G.d.fact 60 (f := .glo "NoTask") rfl)
theorem Gx.g_NoHandle : mg "NoHandle" = some (.ref (He.ga K "NoHandle")) := let ⟨_, X, N⟩ := G.at_; He.glo_ok X N (G.d.fact 61 (f := .glo "NoHandle") rfl)
theorem Gx.g_NoThing : mg "NoThing" = some (.ref (He.ga K "NoThing")) := let ⟨_, X, N⟩ := G.at_; He.glo_ok X N (G.d.fact 62 (f := .glo "NoThing") rfl)
theorem Gx.g_NoDeed : mg "NoDeed" = some (.ref (He.ga K "NoDeed")) := let ⟨_, X, N⟩ := G.at_; He.glo_ok X N (G.d.fact 63 (f := .glo "NoDeed") rfl)
theorem Gx.g_Lacks : mg "Lacks" = some (.ref (He.ga K "Lacks")) := let ⟨_, X, N⟩ := G.at_; He.glo_ok X N (G.d.fact 64 (f := .glo "Lacks") rfl)
theorem Gx.g_Taken : mg "Taken" = some (.ref (He.ga K "Taken")) := let ⟨_, X, N⟩ := G.at_; He.glo_ok X N (G.d.fact 65 (f := .glo "Taken") rfl)
theorem Gx.g_TooMany : mg "TooMany" = some (.ref (He.ga K "TooMany")) := let ⟨_, X, N⟩ := G.at_; He.glo_ok X N (G.d.fact 66 (f := .glo "TooMany") rfl)
theorem Gx.g_TooGreat : mg "TooGreat" = some (.ref (He.ga K "TooGreat")) := let ⟨_, X, N⟩ := G.at_; He.glo_ok X N (G.d.fact 67 (f := .glo "TooGreat") rfl)
theorem Gx.g_Empty : mg "Empty" = some (.ref (He.ga K "Empty")) := let ⟨_, X, N⟩ := G.at_; He.glo_ok X N (G.d.fact 68 (f := .glo "Empty") rfl)
theorem Gx.g_Full : mg "Full" = some (.ref (He.ga K "Full")) := let ⟨_, X, N⟩ := G.at_; He.glo_ok X N (G.d.fact 69 (f := .glo "Full") rfl)
theorem Gx.g_Task : mg "Task" = some (.ref (He.ga K "Task")) := let ⟨_, X, N⟩ := G.at_; He.glo_ok X N (G.d.fact 70 (f := .glo "Task") rfl)
theorem Gx.g_Tasks : mg "Tasks" = some (.ref (He.ga K "Tasks")) := let ⟨_, X, N⟩ := G.at_; He.glo_ok X N (G.d.fact 71 (f := .glo "Tasks") rfl)
theorem Gx.g_Thing : mg "Thing" = some (.ref (He.ga K "Thing")) := let ⟨_, X, N⟩ := G.at_; He.glo_ok X N (G.d.fact 72 (f := .glo "Thing") rfl)
theorem Gx.g_Cell : mg "Cell" = some (.ref (He.ga K "Cell")) := let ⟨_, X, N⟩ := G.at_; He.glo_ok X N (G.d.fact 73 (f := .glo "Cell") rfl)
theorem Gx.g_Line : mg "Line" = some (.ref (He.ga K "Line")) := let ⟨_, X, N⟩ := G.at_; He.glo_ok X N (G.d.fact 74 (f := .glo "Line") rfl)
theorem Gx.g_Door : mg "Door" = some (.ref (He.ga K "Door")) := let ⟨_, X, N⟩ := G.at_; He.glo_ok X N (G.d.fact 75 (f := .glo "Door") rfl)
theorem Gx.g_Post : mg "Post" = some (.ref (He.ga K "Post")) := let ⟨_, X, N⟩ := G.at_; He.glo_ok X N (G.d.fact 76 (f := .glo "Post") rfl)
theorem Gx.g_Handle : mg "Handle" = some (.ref (He.ga K "Handle")) := let ⟨_, X, N⟩ := G.at_; He.glo_ok X N (G.d.fact 77 (f := .glo "Handle") rfl)
theorem Gx.g_Tree : mg "Tree" = some (.ref (He.ga K "Tree")) := let ⟨_, X, N⟩ := G.at_; He.glo_ok X N (G.d.fact 78 (f := .glo "Tree") rfl)
theorem Gx.g_Kernel : mg "Kernel" = some (.ref (He.ga K "Kernel")) := let ⟨_, X, N⟩ := G.at_; He.glo_ok X N (G.d.fact 79 (f := .glo "Kernel") rfl)
theorem Gx.g_Letter : mg "Letter" = some (.ref (He.ga K "Letter")) := let ⟨_, X, N⟩ := G.at_; He.glo_ok X N (G.d.fact 80 (f := .glo "Letter") rfl)
theorem Gx.c_LOOK : ∃ t, mg "LOOK" = some (.int 1 t) := let ⟨_, X, N⟩ := G.at_; He.int_ok X N (G.d.fact 81 (f := .int "LOOK" 1) rfl)
theorem Gx.c_PUT : ∃ t, mg "PUT" = some (.int 2 t) := let ⟨_, X, N⟩ := G.at_; He.int_ok X N (G.d.fact 82 (f := .int "PUT" 2) rfl)
theorem Gx.c_SEND : ∃ t, mg "SEND" = some (.int 4 t) := let ⟨_, X, N⟩ := G.at_; He.int_ok X N (G.d.fact 83 (f := .int "SEND" 4) rfl)
theorem Gx.c_HEAR : ∃ t, mg "HEAR" = some (.int 8 t) := let ⟨_, X, N⟩ := G.at_; He.int_ok X N (G.d.fact 84 (f := .int "HEAR" 8) rfl)
theorem Gx.c_END : ∃ t, mg "END" = some (.int 16 t) := let ⟨_, X, N⟩ := G.at_; He.int_ok X N (G.d.fact 85 (f := .int "END" 16) rfl)
theorem Gx.c_PASS : ∃ t, mg "PASS" = some (.int 32 t) := let ⟨_, X, N⟩ := G.at_; He.int_ok X N (G.d.fact 86 (f := .int "PASS" 32) rfl)
theorem Gx.c_EACH : ∃ t, mg "EACH" = some (.int 63 t) := let ⟨_, X, N⟩ := G.at_; He.int_ok X N (G.d.fact 87 (f := .int "EACH" 63) rfl)
theorem Gx.c_MOST_VALUE : ∃ t, mg "MOST_VALUE" = some (.int 1000000000000 t) := let ⟨_, X, N⟩ := G.at_; He.int_ok X N (G.d.fact 88 (f := .int "MOST_VALUE" 1000000000000) rfl)
theorem Gx.c_MOST_LETTERS : ∃ t, mg "MOST_LETTERS" = some (.int 8 t) := let ⟨_, X, N⟩ := G.at_; He.int_ok X N (G.d.fact 89 (f := .int "MOST_LETTERS" 8) rfl)
theorem Gx.c_MOST_SIGNS : ∃ t, mg "MOST_SIGNS" = some (.int 20 t) := let ⟨_, X, N⟩ := G.at_; He.int_ok X N (G.d.fact 90 (f := .int "MOST_SIGNS" 20) rfl)
theorem Gx.c_PERCENT : ∃ t, mg "PERCENT" = some (.int 37 t) := let ⟨_, X, N⟩ := G.at_; He.int_ok X N (G.d.fact 91 (f := .int "PERCENT" 37) rfl)
theorem Gx.c_MOST_TASKS : ∃ t, mg "MOST_TASKS" = some (.int 12 t) := let ⟨_, X, N⟩ := G.at_; He.int_ok X N (G.d.fact 92 (f := .int "MOST_TASKS" 12) rfl)
theorem Gx.c_SLOTS : ∃ t, mg "SLOTS" = some (.int 16 t) := let ⟨_, X, N⟩ := G.at_; He.int_ok X N (G.d.fact 93 (f := .int "SLOTS" 16) rfl)
theorem Gx.c_MOST_IN_LINE : ∃ t, mg "MOST_IN_LINE" = some (.int 9 t) := let ⟨_, X, N⟩ := G.at_; He.int_ok X N (G.d.fact 94 (f := .int "MOST_IN_LINE" 9) rfl)
theorem Gx.c_MOST_WAITING_things : ∃ t, mg "MOST_WAITING_things" = some (.int 8 t) := let ⟨_, X, N⟩ := G.at_; He.int_ok X N (G.d.fact 95 (f := .int "MOST_WAITING_things" 8) rfl)
theorem Gx.c_MOST_CHAIN_tree : ∃ t, mg "MOST_CHAIN_tree" = some (.int 40 t) := let ⟨_, X, N⟩ := G.at_; He.int_ok X N (G.d.fact 96 (f := .int "MOST_CHAIN_tree" 40) rfl)
theorem Gx.c_MOST_THINGS : ∃ t, mg "MOST_THINGS" = some (.int 40 t) := let ⟨_, X, N⟩ := G.at_; He.int_ok X N (G.d.fact 97 (f := .int "MOST_THINGS" 40) rfl)
theorem Gx.c_MOST_RUNNING : ∃ t, mg "MOST_RUNNING" = some (.int 12 t) := let ⟨_, X, N⟩ := G.at_; He.int_ok X N (G.d.fact 98 (f := .int "MOST_RUNNING" 12) rfl)
theorem Gx.c_MOST_PARTS : ∃ t, mg "MOST_PARTS" = some (.int 4 t) := let ⟨_, X, N⟩ := G.at_; He.int_ok X N (G.d.fact 99 (f := .int "MOST_PARTS" 4) rfl)
theorem Gx.c_MOST_WAITING_letters : ∃ t, mg "MOST_WAITING_letters" = some (.int 8 t) := let ⟨_, X, N⟩ := G.at_; He.int_ok X N (G.d.fact 100 (f := .int "MOST_WAITING_letters" 8) rfl)
theorem Gx.c_MOST_CHAIN_letters : ∃ t, mg "MOST_CHAIN_letters" = some (.int 40 t) := let ⟨_, X, N⟩ := G.at_; He.int_ok X N (G.d.fact 101 (f := .int "MOST_CHAIN_letters" 40) rfl)
theorem Gx.b_isinstance : mg "isinstance" = none := let ⟨_, X, N⟩ := G.at_; He.free_ok X N (G.d.fact 102 (f := .free "isinstance") rfl)
theorem Gx.b_int : mg "int" = none := let ⟨_, X, N⟩ := G.at_; He.free_ok X N (G.d.fact 103 (f := .free "int") rfl)
theorem Gx.b_bool : mg "bool" = none := let ⟨_, X, N⟩ := G.at_; He.free_ok X N (G.d.fact 104 (f := .free "bool") rfl)
theorem Gx.b_str : mg "str" = none := let ⟨_, X, N⟩ := G.at_; He.free_ok X N (G.d.fact 105 (f := .free "str") rfl)
theorem Gx.b_len : mg "len" = none := let ⟨_, X, N⟩ := G.at_; He.free_ok X N (G.d.fact 106 (f := .free "len") rfl)
theorem Gx.b_abs : mg "abs" = none := let ⟨_, X, N⟩ := G.at_; He.free_ok X N (G.d.fact 107 (f := .free "abs") rfl)
theorem Gx.b_all : mg "all" = none := let ⟨_, X, N⟩ := G.at_; He.free_ok X N (G.d.fact 108 (f := .free "all") rfl)
theorem Gx.b_ord : mg "ord" = none := let ⟨_, X, N⟩ := G.at_; He.free_ok X N (G.d.fact 109 (f := .free "ord") rfl)
theorem Gx.b_sorted : mg "sorted" = none := let ⟨_, X, N⟩ := G.at_; He.free_ok X N (G.d.fact 110 (f := .free "sorted") rfl)
theorem Gx.b_enumerate : mg "enumerate" = none := let ⟨_, X, N⟩ := G.at_; He.free_ok X N (G.d.fact 111 (f := .free "enumerate") rfl)
theorem Gx.b_dict : mg "dict" = none := let ⟨_, X, N⟩ := G.at_; He.free_ok X N (G.d.fact 112 (f := .free "dict") rfl)
theorem Gx.b_tuple : mg "tuple" = none := let ⟨_, X, N⟩ := G.at_; He.free_ok X N (G.d.fact 113 (f := .free "tuple") rfl)
theorem Gx.b_list : mg "list" = none := let ⟨_, X, N⟩ := G.at_; He.free_ok X N (G.d.fact 114 (f := .free "list") rfl)
theorem Gx.b_range : mg "range" = none := let ⟨_, X, N⟩ := G.at_; He.free_ok X N (G.d.fact 115 (f := .free "range") rfl)
theorem Gx.cl_Task : Cls K (He.ga K "Task") := He.cls_ok (G.d.fact 116 (f := .cls "Task") rfl)
theorem Gx.k_Task : Mk K (He.ga K "Task") (He.ma K (He.ga K "Task") "__init__") := He.mkr_ok (G.d.fact 117 (f := .mkr "Task") rfl)
theorem Gx.n_Task_maker : NoAttr K (He.ga K "Task") "maker" := He.noat_ok (G.d.fact 118 (f := .noat "Task" "maker") rfl)
theorem Gx.n_Task_runs : NoAttr K (He.ga K "Task") "runs" := He.noat_ok (G.d.fact 119 (f := .noat "Task" "runs") rfl)
theorem Gx.n_Task_rows : NoAttr K (He.ga K "Task") "rows" := He.noat_ok (G.d.fact 120 (f := .noat "Task" "rows") rfl)
theorem Gx.cl_Tasks : Cls K (He.ga K "Tasks") := He.cls_ok (G.d.fact 121 (f := .cls "Tasks") rfl)
theorem Gx.k_Tasks : Mk K (He.ga K "Tasks") (He.ma K (He.ga K "Tasks") "__init__") := He.mkr_ok (G.d.fact 122 (f := .mkr "Tasks") rfl)
theorem Gx.n_Tasks_known : NoAttr K (He.ga K "Tasks") "known" := He.noat_ok (G.d.fact 123 (f := .noat "Tasks" "known") rfl)
theorem Gx.cl_Cell : Cls K (He.ga K "Cell") := He.cls_ok (G.d.fact 124 (f := .cls "Cell") rfl)
theorem Gx.k_Cell : Mk K (He.ga K "Cell") (He.ma K (He.ga K "Cell") "__init__") := He.mkr_ok (G.d.fact 125 (f := .mkr "Cell") rfl)
theorem Gx.n_Cell_number : NoAttr K (He.ga K "Cell") "number" := He.noat_ok (G.d.fact 126 (f := .noat "Cell" "number") rfl)
theorem Gx.n_Cell_amount : NoAttr K (He.ga K "Cell") "amount" := He.noat_ok (G.d.fact 127 (f := .noat "Cell" "amount") rfl)
theorem Gx.cl_Line : Cls K (He.ga K "Line") := He.cls_ok (G.d.fact 128 (f := .cls "Line") rfl)
theorem Gx.k_Line : Mk K (He.ga K "Line") (He.ma K (He.ga K "Line") "__init__") := He.mkr_ok (G.d.fact 129 (f := .mkr "Line") rfl)
theorem Gx.n_Line_number : NoAttr K (He.ga K "Line") "number" := He.noat_ok (G.d.fact 130 (f := .noat "Line" "number") rfl)
theorem Gx.n_Line_row : NoAttr K (He.ga K "Line") "row" := He.noat_ok (G.d.fact 131 (f := .noat "Line" "row") rfl)
theorem Gx.cl_Door : Cls K (He.ga K "Door") := He.cls_ok (G.d.fact 132 (f := .cls "Door") rfl)
theorem Gx.k_Door : Mk K (He.ga K "Door") (He.ma K (He.ga K "Door") "__init__") := He.mkr_ok (G.d.fact 133 (f := .mkr "Door") rfl)
theorem Gx.n_Door_number : NoAttr K (He.ga K "Door") "number" := He.noat_ok (G.d.fact 134 (f := .noat "Door" "number") rfl)
theorem Gx.n_Door_waiting : NoAttr K (He.ga K "Door") "waiting" := He.noat_ok (G.d.fact 135 (f := .noat "Door" "waiting") rfl)
theorem Gx.cl_Post : Cls K (He.ga K "Post") := He.cls_ok (G.d.fact 136 (f := .cls "Post") rfl)
theorem Gx.k_Post : Mk K (He.ga K "Post") (He.ma K (He.ga K "Post") "__init__") := He.mkr_ok (G.d.fact 137 (f := .mkr "Post") rfl)
theorem Gx.n_Post_number : NoAttr K (He.ga K "Post") "number" := He.noat_ok (G.d.fact 138 (f := .noat "Post" "number") rfl)
theorem Gx.n_Post_name : NoAttr K (He.ga K "Post") "name" := He.noat_ok (G.d.fact 139 (f := .noat "Post" "name") rfl)
theorem Gx.n_Post_runs : NoAttr K (He.ga K "Post") "runs" := He.noat_ok (G.d.fact 140 (f := .noat "Post" "runs") rfl)
theorem Gx.cl_Handle : Cls K (He.ga K "Handle") := He.cls_ok (G.d.fact 141 (f := .cls "Handle") rfl)
theorem Gx.k_Handle : Mk K (He.ga K "Handle") (He.ma K (He.ga K "Handle") "__init__") := He.mkr_ok (G.d.fact 142 (f := .mkr "Handle") rfl)
theorem Gx.n_Handle_number : NoAttr K (He.ga K "Handle") "number" := He.noat_ok (G.d.fact 143 (f := .noat "Handle" "number") rfl)
theorem Gx.n_Handle_thing : NoAttr K (He.ga K "Handle") "thing" := He.noat_ok (G.d.fact 144 (f := .noat "Handle" "thing") rfl)
theorem Gx.n_Handle_rights : NoAttr K (He.ga K "Handle") "rights" := He.noat_ok (G.d.fact 145 (f := .noat "Handle" "rights") rfl)
theorem Gx.n_Handle_giver : NoAttr K (He.ga K "Handle") "giver" := He.noat_ok (G.d.fact 146 (f := .noat "Handle" "giver") rfl)
theorem Gx.n_Handle_holder : NoAttr K (He.ga K "Handle") "holder" := He.noat_ok (G.d.fact 147 (f := .noat "Handle" "holder") rfl)
theorem Gx.cl_Tree : Cls K (He.ga K "Tree") := He.cls_ok (G.d.fact 148 (f := .cls "Tree") rfl)
theorem Gx.k_Tree : Mk K (He.ga K "Tree") (He.ma K (He.ga K "Tree") "__init__") := He.mkr_ok (G.d.fact 149 (f := .mkr "Tree") rfl)
theorem Gx.n_Tree_ever : NoAttr K (He.ga K "Tree") "ever" := He.noat_ok (G.d.fact 150 (f := .noat "Tree" "ever") rfl)
theorem Gx.n_Tree_rows : NoAttr K (He.ga K "Tree") "rows" := He.noat_ok (G.d.fact 151 (f := .noat "Tree" "rows") rfl)
theorem Gx.n_Tree_right_below : NoAttr K (He.ga K "Tree") "right_below" := He.noat_ok (G.d.fact 152 (f := .noat "Tree" "right_below") rfl)
theorem Gx.cl_Kernel : Cls K (He.ga K "Kernel") := He.cls_ok (G.d.fact 153 (f := .cls "Kernel") rfl)
theorem Gx.k_Kernel : Mk K (He.ga K "Kernel") (He.ma K (He.ga K "Kernel") "__init__") := He.mkr_ok (G.d.fact 154 (f := .mkr "Kernel") rfl)
theorem Gx.n_Kernel_tree : NoAttr K (He.ga K "Kernel") "tree" := He.noat_ok (G.d.fact 155 (f := .noat "Kernel" "tree") rfl)
theorem Gx.n_Kernel_tasks : NoAttr K (He.ga K "Kernel") "tasks" := He.noat_ok (G.d.fact 156 (f := .noat "Kernel" "tasks") rfl)
theorem Gx.n_Kernel_things : NoAttr K (He.ga K "Kernel") "things" := He.noat_ok (G.d.fact 157 (f := .noat "Kernel" "things") rfl)
theorem Gx.cl_Letter : Cls K (He.ga K "Letter") := He.cls_ok (G.d.fact 158 (f := .cls "Letter") rfl)
theorem Gx.k_Letter : Mk K (He.ga K "Letter") (He.ma K (He.ga K "Letter") "__init__") := He.mkr_ok (G.d.fact 159 (f := .mkr "Letter") rfl)
theorem Gx.n_Letter_words : NoAttr K (He.ga K "Letter") "words" := He.noat_ok (G.d.fact 160 (f := .noat "Letter" "words") rfl)
theorem Gx.n_Letter_parts : NoAttr K (He.ga K "Letter") "parts" := He.noat_ok (G.d.fact 161 (f := .noat "Letter" "parts") rfl)
theorem Gx.m_Task_init : Meth K (He.ga K "Task") "__init__" (He.ma K (He.ga K "Task") "__init__") := He.meth_ok (G.d.fact 162 (f := .meth "Task" "__init__") rfl)
theorem Gx.m_Tasks_init : Meth K (He.ga K "Tasks") "__init__" (He.ma K (He.ga K "Tasks") "__init__") := He.meth_ok (G.d.fact 163 (f := .meth "Tasks" "__init__") rfl)
theorem Gx.m_Tasks_running_one : Meth K (He.ga K "Tasks") "running_one" (He.ma K (He.ga K "Tasks") "running_one") := He.meth_ok (G.d.fact 164 (f := .meth "Tasks" "running_one") rfl)
theorem Gx.m_Tasks_need : Meth K (He.ga K "Tasks") "need" (He.ma K (He.ga K "Tasks") "need") := He.meth_ok (G.d.fact 165 (f := .meth "Tasks" "need") rfl)
theorem Gx.m_Tasks_added : Meth K (He.ga K "Tasks") "added" (He.ma K (He.ga K "Tasks") "added") := He.meth_ok (G.d.fact 166 (f := .meth "Tasks" "added") rfl)
theorem Gx.m_Tasks_running : Meth K (He.ga K "Tasks") "running" (He.ma K (He.ga K "Tasks") "running") := He.meth_ok (G.d.fact 167 (f := .meth "Tasks" "running") rfl)
theorem Gx.m_Tasks_names : Meth K (He.ga K "Tasks") "names" (He.ma K (He.ga K "Tasks") "names") := He.meth_ok (G.d.fact 168 (f := .meth "Tasks" "names") rfl)
theorem Gx.m_Tasks_put : Meth K (He.ga K "Tasks") "put" (He.ma K (He.ga K "Tasks") "put") := He.meth_ok (G.d.fact 169 (f := .meth "Tasks" "put") rfl)
theorem Gx.m_Tasks_at : Meth K (He.ga K "Tasks") "at" (He.ma K (He.ga K "Tasks") "at") := He.meth_ok (G.d.fact 170 (f := .meth "Tasks" "at") rfl)
theorem Gx.m_Tasks_free : Meth K (He.ga K "Tasks") "free" (He.ma K (He.ga K "Tasks") "free") := He.meth_ok (G.d.fact 171 (f := .meth "Tasks" "free") rfl)
theorem Gx.m_Tasks_slots : Meth K (He.ga K "Tasks") "slots" (He.ma K (He.ga K "Tasks") "slots") := He.meth_ok (G.d.fact 172 (f := .meth "Tasks" "slots") rfl)
theorem Gx.m_Tasks_taken_out : Meth K (He.ga K "Tasks") "taken_out" (He.ma K (He.ga K "Tasks") "taken_out") := He.meth_ok (G.d.fact 173 (f := .meth "Tasks" "taken_out") rfl)
theorem Gx.m_Tasks_made_by : Meth K (He.ga K "Tasks") "made_by" (He.ma K (He.ga K "Tasks") "made_by") := He.meth_ok (G.d.fact 174 (f := .meth "Tasks" "made_by") rfl)
theorem Gx.m_Tasks_stopped : Meth K (He.ga K "Tasks") "stopped" (He.ma K (He.ga K "Tasks") "stopped") := He.meth_ok (G.d.fact 175 (f := .meth "Tasks" "stopped") rfl)
theorem Gx.m_Cell_init : Meth K (He.ga K "Cell") "__init__" (He.ma K (He.ga K "Cell") "__init__") := He.meth_ok (G.d.fact 176 (f := .meth "Cell" "__init__") rfl)
theorem Gx.m_Cell_kind : Meth K (He.ga K "Cell") "kind" (He.ma K (He.ga K "Cell") "kind") := He.meth_ok (G.d.fact 177 (f := .meth "Cell" "kind") rfl)
theorem Gx.m_Cell_fits : Meth K (He.ga K "Cell") "fits" (He.ma K (He.ga K "Cell") "fits") := He.meth_ok (G.d.fact 178 (f := .meth "Cell" "fits") rfl)
theorem Gx.m_Cell_needed : Meth K (He.ga K "Cell") "needed" (He.ma K (He.ga K "Cell") "needed") := He.meth_ok (G.d.fact 179 (f := .meth "Cell" "needed") rfl)
theorem Gx.m_Cell_done : Meth K (He.ga K "Cell") "done" (He.ma K (He.ga K "Cell") "done") := He.meth_ok (G.d.fact 180 (f := .meth "Cell" "done") rfl)
theorem Gx.m_Cell_told : Meth K (He.ga K "Cell") "told" (He.ma K (He.ga K "Cell") "told") := He.meth_ok (G.d.fact 181 (f := .meth "Cell" "told") rfl)
theorem Gx.m_Cell_needs : Meth K (He.ga K "Cell") "needs" (He.ma K (He.ga K "Cell") "needs") := He.meth_ok (G.d.fact 182 (f := .meth "Cell" "needs") rfl)
theorem Gx.m_Cell_did : Meth K (He.ga K "Cell") "did" (He.ma K (He.ga K "Cell") "did") := He.meth_ok (G.d.fact 183 (f := .meth "Cell" "did") rfl)
theorem Gx.m_Line_init : Meth K (He.ga K "Line") "__init__" (He.ma K (He.ga K "Line") "__init__") := He.meth_ok (G.d.fact 184 (f := .meth "Line" "__init__") rfl)
theorem Gx.m_Line_kind : Meth K (He.ga K "Line") "kind" (He.ma K (He.ga K "Line") "kind") := He.meth_ok (G.d.fact 185 (f := .meth "Line" "kind") rfl)
theorem Gx.m_Line_fits : Meth K (He.ga K "Line") "fits" (He.ma K (He.ga K "Line") "fits") := He.meth_ok (G.d.fact 186 (f := .meth "Line" "fits") rfl)
theorem Gx.m_Line_needed : Meth K (He.ga K "Line") "needed" (He.ma K (He.ga K "Line") "needed") := He.meth_ok (G.d.fact 187 (f := .meth "Line" "needed") rfl)
theorem Gx.m_Line_done : Meth K (He.ga K "Line") "done" (He.ma K (He.ga K "Line") "done") := He.meth_ok (G.d.fact 188 (f := .meth "Line" "done") rfl)
theorem Gx.m_Line_told : Meth K (He.ga K "Line") "told" (He.ma K (He.ga K "Line") "told") := He.meth_ok (G.d.fact 189 (f := .meth "Line" "told") rfl)
theorem Gx.m_Line_needs : Meth K (He.ga K "Line") "needs" (He.ma K (He.ga K "Line") "needs") := He.meth_ok (G.d.fact 190 (f := .meth "Line" "needs") rfl)
theorem Gx.m_Line_did : Meth K (He.ga K "Line") "did" (He.ma K (He.ga K "Line") "did") := He.meth_ok (G.d.fact 191 (f := .meth "Line" "did") rfl)
theorem Gx.m_Door_init : Meth K (He.ga K "Door") "__init__" (He.ma K (He.ga K "Door") "__init__") := He.meth_ok (G.d.fact 192 (f := .meth "Door" "__init__") rfl)
theorem Gx.m_Door_kind : Meth K (He.ga K "Door") "kind" (He.ma K (He.ga K "Door") "kind") := He.meth_ok (G.d.fact 193 (f := .meth "Door" "kind") rfl)
theorem Gx.m_Door_fits : Meth K (He.ga K "Door") "fits" (He.ma K (He.ga K "Door") "fits") := He.meth_ok (G.d.fact 194 (f := .meth "Door" "fits") rfl)
theorem Gx.m_Door_needed : Meth K (He.ga K "Door") "needed" (He.ma K (He.ga K "Door") "needed") := He.meth_ok (G.d.fact 195 (f := .meth "Door" "needed") rfl)
theorem Gx.m_Door_done : Meth K (He.ga K "Door") "done" (He.ma K (He.ga K "Door") "done") := He.meth_ok (G.d.fact 196 (f := .meth "Door" "done") rfl)
theorem Gx.m_Door_letters : Meth K (He.ga K "Door") "letters" (He.ma K (He.ga K "Door") "letters") := He.meth_ok (G.d.fact 197 (f := .meth "Door" "letters") rfl)
theorem Gx.m_Door_told : Meth K (He.ga K "Door") "told" (He.ma K (He.ga K "Door") "told") := He.meth_ok (G.d.fact 198 (f := .meth "Door" "told") rfl)
theorem Gx.m_Door_needs : Meth K (He.ga K "Door") "needs" (He.ma K (He.ga K "Door") "needs") := He.meth_ok (G.d.fact 199 (f := .meth "Door" "needs") rfl)
theorem Gx.m_Door_did : Meth K (He.ga K "Door") "did" (He.ma K (He.ga K "Door") "did") := He.meth_ok (G.d.fact 200 (f := .meth "Door" "did") rfl)
theorem Gx.m_Post_init : Meth K (He.ga K "Post") "__init__" (He.ma K (He.ga K "Post") "__init__") := He.meth_ok (G.d.fact 201 (f := .meth "Post" "__init__") rfl)
theorem Gx.m_Post_kind : Meth K (He.ga K "Post") "kind" (He.ma K (He.ga K "Post") "kind") := He.meth_ok (G.d.fact 202 (f := .meth "Post" "kind") rfl)
theorem Gx.m_Post_fits : Meth K (He.ga K "Post") "fits" (He.ma K (He.ga K "Post") "fits") := He.meth_ok (G.d.fact 203 (f := .meth "Post" "fits") rfl)
theorem Gx.m_Post_needed : Meth K (He.ga K "Post") "needed" (He.ma K (He.ga K "Post") "needed") := He.meth_ok (G.d.fact 204 (f := .meth "Post" "needed") rfl)
theorem Gx.m_Post_done : Meth K (He.ga K "Post") "done" (He.ma K (He.ga K "Post") "done") := He.meth_ok (G.d.fact 205 (f := .meth "Post" "done") rfl)
theorem Gx.m_Post_told : Meth K (He.ga K "Post") "told" (He.ma K (He.ga K "Post") "told") := He.meth_ok (G.d.fact 206 (f := .meth "Post" "told") rfl)
theorem Gx.m_Post_needs : Meth K (He.ga K "Post") "needs" (He.ma K (He.ga K "Post") "needs") := He.meth_ok (G.d.fact 207 (f := .meth "Post" "needs") rfl)
theorem Gx.m_Post_did : Meth K (He.ga K "Post") "did" (He.ma K (He.ga K "Post") "did") := He.meth_ok (G.d.fact 208 (f := .meth "Post" "did") rfl)
theorem Gx.m_Handle_init : Meth K (He.ga K "Handle") "__init__" (He.ma K (He.ga K "Handle") "__init__") := He.meth_ok (G.d.fact 209 (f := .meth "Handle" "__init__") rfl)
theorem Gx.m_Tree_init : Meth K (He.ga K "Tree") "__init__" (He.ma K (He.ga K "Tree") "__init__") := He.meth_ok (G.d.fact 210 (f := .meth "Tree" "__init__") rfl)
theorem Gx.m_Tree_need : Meth K (He.ga K "Tree") "need" (He.ma K (He.ga K "Tree") "need") := He.meth_ok (G.d.fact 211 (f := .meth "Tree" "need") rfl)
theorem Gx.m_Tree_handle : Meth K (He.ga K "Tree") "handle" (He.ma K (He.ga K "Tree") "handle") := He.meth_ok (G.d.fact 212 (f := .meth "Tree" "handle") rfl)
theorem Gx.m_Tree_added : Meth K (He.ga K "Tree") "added" (He.ma K (He.ga K "Tree") "added") := He.meth_ok (G.d.fact 213 (f := .meth "Tree" "added") rfl)
theorem Gx.m_Tree_rooted : Meth K (He.ga K "Tree") "rooted" (He.ma K (He.ga K "Tree") "rooted") := He.meth_ok (G.d.fact 214 (f := .meth "Tree" "rooted") rfl)
theorem Gx.m_Tree_derived : Meth K (He.ga K "Tree") "derived" (He.ma K (He.ga K "Tree") "derived") := He.meth_ok (G.d.fact 215 (f := .meth "Tree" "derived") rfl)
theorem Gx.m_Tree_held : Meth K (He.ga K "Tree") "held" (He.ma K (He.ga K "Tree") "held") := He.meth_ok (G.d.fact 216 (f := .meth "Tree" "held") rfl)
theorem Gx.m_Tree_below : Meth K (He.ga K "Tree") "below" (He.ma K (He.ga K "Tree") "below") := He.meth_ok (G.d.fact 217 (f := .meth "Tree" "below") rfl)
theorem Gx.m_Tree_chain : Meth K (He.ga K "Tree") "chain" (He.ma K (He.ga K "Tree") "chain") := He.meth_ok (G.d.fact 218 (f := .meth "Tree" "chain") rfl)
theorem Gx.m_Tree_cut : Meth K (He.ga K "Tree") "cut" (He.ma K (He.ga K "Tree") "cut") := He.meth_ok (G.d.fact 219 (f := .meth "Tree" "cut") rfl)
theorem Gx.m_Tree_kept : Meth K (He.ga K "Tree") "kept" (He.ma K (He.ga K "Tree") "kept") := He.meth_ok (G.d.fact 220 (f := .meth "Tree" "kept") rfl)
theorem Gx.m_Kernel_init : Meth K (He.ga K "Kernel") "__init__" (He.ma K (He.ga K "Kernel") "__init__") := He.meth_ok (G.d.fact 221 (f := .meth "Kernel" "__init__") rfl)
theorem Gx.m_Letter_init : Meth K (He.ga K "Letter") "__init__" (He.ma K (He.ga K "Letter") "__init__") := He.meth_ok (G.d.fact 222 (f := .meth "Letter" "__init__") rfl)
theorem Gx.x_PassError : ExcF K (He.ga K "PassError") := He.exc_ok (G.d.fact 223 (f := .exc "PassError") rfl)
theorem Gx.x_NoRights : ExcF K (He.ga K "NoRights") := He.exc_ok (G.d.fact 224 (f := .exc "NoRights") rfl)
theorem Gx.x_NoName : ExcF K (He.ga K "NoName") := He.exc_ok (G.d.fact 225 (f := .exc "NoName") rfl)
theorem Gx.x_NoValue : ExcF K (He.ga K "NoValue") := He.exc_ok (G.d.fact 226 (f := .exc "NoValue") rfl)
theorem Gx.x_NoWords : ExcF K (He.ga K "NoWords") := He.exc_ok (G.d.fact 227 (f := .exc "NoWords") rfl)
theorem Gx.x_NoKind : ExcF K (He.ga K "NoKind") := He.exc_ok (G.d.fact 228 (f := .exc "NoKind") rfl)
theorem Gx.x_NoTask : ExcF K (He.ga K "NoTask") := He.exc_ok (G.d.fact 229 (f := .exc "NoTask") rfl)
theorem Gx.x_NoHandle : ExcF K (He.ga K "NoHandle") := He.exc_ok (G.d.fact 230 (f := .exc "NoHandle") rfl)
theorem Gx.x_NoThing : ExcF K (He.ga K "NoThing") := He.exc_ok (G.d.fact 231 (f := .exc "NoThing") rfl)
theorem Gx.x_Taken : ExcF K (He.ga K "Taken") := He.exc_ok (G.d.fact 232 (f := .exc "Taken") rfl)
theorem Gx.x_TooMany : ExcF K (He.ga K "TooMany") := He.exc_ok (G.d.fact 233 (f := .exc "TooMany") rfl)
theorem Gx.x_TooGreat : ExcF K (He.ga K "TooGreat") := He.exc_ok (G.d.fact 234 (f := .exc "TooGreat") rfl)
theorem Gx.x_Empty : ExcF K (He.ga K "Empty") := He.exc_ok (G.d.fact 235 (f := .exc "Empty") rfl)
theorem Gx.x_Full : ExcF K (He.ga K "Full") := He.exc_ok (G.d.fact 236 (f := .exc "Full") rfl)
theorem Gx.e_PassError : PySem.W.exmOne K (.ref (He.ga K "PassError")) (.ref (He.ga K "PassError")) = some true := He.exm_ok (G.d.fact 237 (f := .exm "PassError" "PassError" true) rfl)
theorem Gx.e_NoRights : PySem.W.exmOne K (.ref (He.ga K "NoRights")) (.ref (He.ga K "PassError")) = some true := He.exm_ok (G.d.fact 238 (f := .exm "NoRights" "PassError" true) rfl)
theorem Gx.e_NoName : PySem.W.exmOne K (.ref (He.ga K "NoName")) (.ref (He.ga K "PassError")) = some true := He.exm_ok (G.d.fact 239 (f := .exm "NoName" "PassError" true) rfl)
theorem Gx.e_NoValue : PySem.W.exmOne K (.ref (He.ga K "NoValue")) (.ref (He.ga K "PassError")) = some true := He.exm_ok (G.d.fact 240 (f := .exm "NoValue" "PassError" true) rfl)
theorem Gx.e_NoWords : PySem.W.exmOne K (.ref (He.ga K "NoWords")) (.ref (He.ga K "PassError")) = some true := He.exm_ok (G.d.fact 241 (f := .exm "NoWords" "PassError" true) rfl)
theorem Gx.e_NoKind : PySem.W.exmOne K (.ref (He.ga K "NoKind")) (.ref (He.ga K "PassError")) = some true := He.exm_ok (G.d.fact 242 (f := .exm "NoKind" "PassError" true) rfl)
theorem Gx.e_NoTask : PySem.W.exmOne K (.ref (He.ga K "NoTask")) (.ref (He.ga K "PassError")) = some true := He.exm_ok (G.d.fact 243 (f := .exm "NoTask" "PassError" true) rfl)
theorem Gx.e_NoHandle : PySem.W.exmOne K (.ref (He.ga K "NoHandle")) (.ref (He.ga K "PassError")) = some true := He.exm_ok (G.d.fact 244 (f := .exm "NoHandle" "PassError" true) rfl)
theorem Gx.e_NoThing : PySem.W.exmOne K (.ref (He.ga K "NoThing")) (.ref (He.ga K "PassError")) = some true := He.exm_ok (G.d.fact 245 (f := .exm "NoThing" "PassError" true) rfl)
theorem Gx.e_Taken : PySem.W.exmOne K (.ref (He.ga K "Taken")) (.ref (He.ga K "PassError")) = some true := He.exm_ok (G.d.fact 246 (f := .exm "Taken" "PassError" true) rfl)
theorem Gx.e_TooMany : PySem.W.exmOne K (.ref (He.ga K "TooMany")) (.ref (He.ga K "PassError")) = some true := He.exm_ok (G.d.fact 247 (f := .exm "TooMany" "PassError" true) rfl)
theorem Gx.e_TooGreat : PySem.W.exmOne K (.ref (He.ga K "TooGreat")) (.ref (He.ga K "PassError")) = some true := He.exm_ok (G.d.fact 248 (f := .exm "TooGreat" "PassError" true) rfl)
theorem Gx.e_Empty : PySem.W.exmOne K (.ref (He.ga K "Empty")) (.ref (He.ga K "PassError")) = some true := He.exm_ok (G.d.fact 249 (f := .exm "Empty" "PassError" true) rfl)
theorem Gx.e_Full : PySem.W.exmOne K (.ref (He.ga K "Full")) (.ref (He.ga K "PassError")) = some true := He.exm_ok (G.d.fact 250 (f := .exm "Full" "PassError" true) rfl)
theorem Gx.e_NoDeed : PySem.W.exmOne K (.ref (He.ga K "NoDeed")) (.ref (He.ga K "PassError")) = some true := He.exm_ok (G.d.fact 251 (f := .exm "NoDeed" "PassError" true) rfl)
theorem Gx.e_Lacks : PySem.W.exmOne K (.ref (He.ga K "Lacks")) (.ref (He.ga K "PassError")) = some true := He.exm_ok (G.d.fact 252 (f := .exm "Lacks" "PassError" true) rfl)
theorem Gx.f_NoDeed_init : ∃ fd, FunD K "__init__" "NoDeed.__init__" (defArgs s_NoDeed_init) (defBody s_NoDeed_init) (defScope s_NoDeed_init) [] [] (He.ma K (He.ga K "NoDeed") "__init__") fd := G.d.def_ 0 (d := d_NoDeed_init) rfl
theorem Gx.f_Lacks_init : ∃ fd, FunD K "__init__" "Lacks.__init__" (defArgs s_Lacks_init) (defBody s_Lacks_init) (defScope s_Lacks_init) [] [] (He.ma K (He.ga K "Lacks") "__init__") fd := G.d.def_ 1 (d := d_Lacks_init) rfl
theorem Gx.f_is_whole : ∃ fd, FunD K "is_whole" "is_whole" (defArgs s_is_whole) (defBody s_is_whole) (defScope s_is_whole) [] [] (He.ga K "is_whole") fd := G.d.def_ 2 (d := d_is_whole) rfl
theorem Gx.f_is_rights : ∃ fd, FunD K "is_rights" "is_rights" (defArgs s_is_rights) (defBody s_is_rights) (defScope s_is_rights) [] [] (He.ga K "is_rights") fd := G.d.def_ 3 (d := d_is_rights) rfl
theorem Gx.f_missing : ∃ fd, FunD K "missing" "missing" (defArgs s_missing) (defBody s_missing) (defScope s_missing) [] [] (He.ga K "missing") fd := G.d.def_ 4 (d := d_missing) rfl
theorem Gx.f_narrowed : ∃ fd, FunD K "narrowed" "narrowed" (defArgs s_narrowed) (defBody s_narrowed) (defScope s_narrowed) [] [] (He.ga K "narrowed") fd := G.d.def_ 5 (d := d_narrowed) rfl
theorem Gx.f_is_name : ∃ fd, FunD K "is_name" "is_name" (defArgs s_is_name) (defBody s_is_name) (defScope s_is_name) [] [] (He.ga K "is_name") fd := G.d.def_ 6 (d := d_is_name) rfl
theorem Gx.f_is_value : ∃ fd, FunD K "is_value" "is_value" (defArgs s_is_value) (defBody s_is_value) (defScope s_is_value) [] [] (He.ga K "is_value") fd := G.d.def_ 7 (d := d_is_value) rfl
theorem Gx.f_are_words : ∃ fd, FunD K "are_words" "are_words" (defArgs s_are_words) (defBody s_are_words) (defScope s_are_words) [] [] (He.ga K "are_words") fd := G.d.def_ 8 (d := d_are_words) rfl
theorem Gx.f_need_thing : ∃ fd, FunD K "need_thing" "need_thing" (defArgs s_need_thing) (defBody s_need_thing) (defScope s_need_thing) [] [] (He.ga K "need_thing") fd := G.d.def_ 9 (d := d_need_thing) rfl
theorem Gx.f_handles_of : ∃ fd, FunD K "handles_of" "handles_of" (defArgs s_handles_of) (defBody s_handles_of) (defScope s_handles_of) [] [] (He.ga K "handles_of") fd := G.d.def_ 10 (d := d_handles_of) rfl
theorem Gx.f_gathered : ∃ fd, FunD K "gathered" "gathered" (defArgs s_gathered) (defBody s_gathered) (defScope s_gathered) [] [] (He.ga K "gathered") fd := G.d.def_ 11 (d := d_gathered) rfl
theorem Gx.f_can : ∃ fd, FunD K "can" "can" (defArgs s_can) (defBody s_can) (defScope s_can) [] [] (He.ga K "can") fd := G.d.def_ 12 (d := d_can) rfl
theorem Gx.f_parts_heard : ∃ fd, FunD K "parts_heard" "parts_heard" (defArgs s_parts_heard) (defBody s_parts_heard) (defScope s_parts_heard) [] [] (He.ga K "parts_heard") fd := G.d.def_ 13 (d := d_parts_heard) rfl
theorem Gx.f_joined : ∃ fd, FunD K "joined" "joined" (defArgs s_joined) (defBody s_joined) (defScope s_joined) [] [] (He.ga K "joined") fd := G.d.def_ 14 (d := d_joined) rfl
theorem Gx.f_passes : ∃ fd, FunD K "passes" "passes" (defArgs s_passes) (defBody s_passes) (defScope s_passes) [] [] (He.ga K "passes") fd := G.d.def_ 15 (d := d_passes) rfl
theorem Gx.f_might_have : ∃ fd, FunD K "might_have" "might_have" (defArgs s_might_have) (defBody s_might_have) (defScope s_might_have) [] [] (He.ga K "might_have") fd := G.d.def_ 16 (d := d_might_have) rfl
theorem Gx.f_passed_on : ∃ fd, FunD K "passed_on" "passed_on" (defArgs s_passed_on) (defBody s_passed_on) (defScope s_passed_on) [] [] (He.ga K "passed_on") fd := G.d.def_ 17 (d := d_passed_on) rfl
theorem Gx.f_could : ∃ fd, FunD K "could" "could" (defArgs s_could) (defBody s_could) (defScope s_could) [.non] [] (He.ga K "could") fd := G.d.def_ 18 (d := d_could) rfl
theorem Gx.f_Task_init : ∃ fd, FunD K "__init__" "Task.__init__" (defArgs s_Task_init) (defBody s_Task_init) (defScope s_Task_init) [] [] (He.ma K (He.ga K "Task") "__init__") fd := G.d.def_ 19 (d := d_Task_init) rfl
theorem Gx.f_Tasks_init : ∃ fd, FunD K "__init__" "Tasks.__init__" (defArgs s_Tasks_init) (defBody s_Tasks_init) (defScope s_Tasks_init) [] [] (He.ma K (He.ga K "Tasks") "__init__") fd := G.d.def_ 20 (d := d_Tasks_init) rfl
theorem Gx.f_Tasks_running_one : ∃ fd, FunD K "running_one" "Tasks.running_one" (defArgs s_Tasks_running_one) (defBody s_Tasks_running_one) (defScope s_Tasks_running_one) [] [] (He.ma K (He.ga K "Tasks") "running_one") fd := G.d.def_ 21 (d := d_Tasks_running_one) rfl
theorem Gx.f_Tasks_need : ∃ fd, FunD K "need" "Tasks.need" (defArgs s_Tasks_need) (defBody s_Tasks_need) (defScope s_Tasks_need) [] [] (He.ma K (He.ga K "Tasks") "need") fd := G.d.def_ 22 (d := d_Tasks_need) rfl
theorem Gx.f_Tasks_added : ∃ fd, FunD K "added" "Tasks.added" (defArgs s_Tasks_added) (defBody s_Tasks_added) (defScope s_Tasks_added) [] [] (He.ma K (He.ga K "Tasks") "added") fd := G.d.def_ 23 (d := d_Tasks_added) rfl
theorem Gx.f_Tasks_running : ∃ fd, FunD K "running" "Tasks.running" (defArgs s_Tasks_running) (defBody s_Tasks_running) (defScope s_Tasks_running) [] [] (He.ma K (He.ga K "Tasks") "running") fd := G.d.def_ 24 (d := d_Tasks_running) rfl
theorem Gx.f_Tasks_names : ∃ fd, FunD K "names" "Tasks.names" (defArgs s_Tasks_names) (defBody s_Tasks_names) (defScope s_Tasks_names) [] [] (He.ma K (He.ga K "Tasks") "names") fd := G.d.def_ 25 (d := d_Tasks_names) rfl
theorem Gx.f_Tasks_put : ∃ fd, FunD K "put" "Tasks.put" (defArgs s_Tasks_put) (defBody s_Tasks_put) (defScope s_Tasks_put) [] [] (He.ma K (He.ga K "Tasks") "put") fd := G.d.def_ 26 (d := d_Tasks_put) rfl
theorem Gx.f_Tasks_at : ∃ fd, FunD K "at" "Tasks.at" (defArgs s_Tasks_at) (defBody s_Tasks_at) (defScope s_Tasks_at) [] [] (He.ma K (He.ga K "Tasks") "at") fd := G.d.def_ 27 (d := d_Tasks_at) rfl
theorem Gx.f_Tasks_free : ∃ fd, FunD K "free" "Tasks.free" (defArgs s_Tasks_free) (defBody s_Tasks_free) (defScope s_Tasks_free) [] [] (He.ma K (He.ga K "Tasks") "free") fd := G.d.def_ 28 (d := d_Tasks_free) rfl
theorem Gx.f_Tasks_slots : ∃ fd, FunD K "slots" "Tasks.slots" (defArgs s_Tasks_slots) (defBody s_Tasks_slots) (defScope s_Tasks_slots) [] [] (He.ma K (He.ga K "Tasks") "slots") fd := G.d.def_ 29 (d := d_Tasks_slots) rfl
theorem Gx.f_Tasks_taken_out : ∃ fd, FunD K "taken_out" "Tasks.taken_out" (defArgs s_Tasks_taken_out) (defBody s_Tasks_taken_out) (defScope s_Tasks_taken_out) [] [] (He.ma K (He.ga K "Tasks") "taken_out") fd := G.d.def_ 30 (d := d_Tasks_taken_out) rfl
theorem Gx.f_Tasks_made_by : ∃ fd, FunD K "made_by" "Tasks.made_by" (defArgs s_Tasks_made_by) (defBody s_Tasks_made_by) (defScope s_Tasks_made_by) [] [] (He.ma K (He.ga K "Tasks") "made_by") fd := G.d.def_ 31 (d := d_Tasks_made_by) rfl
theorem Gx.f_Tasks_stopped : ∃ fd, FunD K "stopped" "Tasks.stopped" (defArgs s_Tasks_stopped) (defBody s_Tasks_stopped) (defScope s_Tasks_stopped) [] [] (He.ma K (He.ga K "Tasks") "stopped") fd := G.d.def_ 32 (d := d_Tasks_stopped) rfl
theorem Gx.f_Thing_init : ∃ fd, FunD K "__init__" "Thing.__init__" (defArgs s_Thing_init) (defBody s_Thing_init) (defScope s_Thing_init) [] [] (He.ma K (He.ga K "Thing") "__init__") fd := G.d.def_ 33 (d := d_Thing_init) rfl
theorem Gx.f_Thing_kind : ∃ fd, FunD K "kind" "Thing.kind" (defArgs s_Thing_kind) (defBody s_Thing_kind) (defScope s_Thing_kind) [] [] (He.ma K (He.ga K "Thing") "kind") fd := G.d.def_ 34 (d := d_Thing_kind) rfl
theorem Gx.f_Thing_fits : ∃ fd, FunD K "fits" "Thing.fits" (defArgs s_Thing_fits) (defBody s_Thing_fits) (defScope s_Thing_fits) [] [] (He.ma K (He.ga K "Thing") "fits") fd := G.d.def_ 35 (d := d_Thing_fits) rfl
theorem Gx.f_Thing_needed : ∃ fd, FunD K "needed" "Thing.needed" (defArgs s_Thing_needed) (defBody s_Thing_needed) (defScope s_Thing_needed) [] [] (He.ma K (He.ga K "Thing") "needed") fd := G.d.def_ 36 (d := d_Thing_needed) rfl
theorem Gx.f_Thing_needs : ∃ fd, FunD K "needs" "Thing.needs" (defArgs s_Thing_needs) (defBody s_Thing_needs) (defScope s_Thing_needs) [] [] (He.ma K (He.ga K "Thing") "needs") fd := G.d.def_ 37 (d := d_Thing_needs) rfl
theorem Gx.f_Thing_done : ∃ fd, FunD K "done" "Thing.done" (defArgs s_Thing_done) (defBody s_Thing_done) (defScope s_Thing_done) [] [] (He.ma K (He.ga K "Thing") "done") fd := G.d.def_ 38 (d := d_Thing_done) rfl
theorem Gx.f_Thing_did : ∃ fd, FunD K "did" "Thing.did" (defArgs s_Thing_did) (defBody s_Thing_did) (defScope s_Thing_did) [] [] (He.ma K (He.ga K "Thing") "did") fd := G.d.def_ 39 (d := d_Thing_did) rfl
theorem Gx.f_Thing_told : ∃ fd, FunD K "told" "Thing.told" (defArgs s_Thing_told) (defBody s_Thing_told) (defScope s_Thing_told) [] [] (He.ma K (He.ga K "Thing") "told") fd := G.d.def_ 40 (d := d_Thing_told) rfl
theorem Gx.f_Cell_init : ∃ fd, FunD K "__init__" "Cell.__init__" (defArgs s_Cell_init) (defBody s_Cell_init) (defScope s_Cell_init) [] [] (He.ma K (He.ga K "Cell") "__init__") fd := G.d.def_ 41 (d := d_Cell_init) rfl
theorem Gx.f_Cell_kind : ∃ fd, FunD K "kind" "Cell.kind" (defArgs s_Cell_kind) (defBody s_Cell_kind) (defScope s_Cell_kind) [] [] (He.ma K (He.ga K "Cell") "kind") fd := G.d.def_ 42 (d := d_Cell_kind) rfl
theorem Gx.f_Cell_fits : ∃ fd, FunD K "fits" "Cell.fits" (defArgs s_Cell_fits) (defBody s_Cell_fits) (defScope s_Cell_fits) [] [] (He.ma K (He.ga K "Cell") "fits") fd := G.d.def_ 43 (d := d_Cell_fits) rfl
theorem Gx.f_Cell_needed : ∃ fd, FunD K "needed" "Cell.needed" (defArgs s_Cell_needed) (defBody s_Cell_needed) (defScope s_Cell_needed) [] [] (He.ma K (He.ga K "Cell") "needed") fd := G.d.def_ 44 (d := d_Cell_needed) rfl
theorem Gx.f_Cell_done : ∃ fd, FunD K "done" "Cell.done" (defArgs s_Cell_done) (defBody s_Cell_done) (defScope s_Cell_done) [] [] (He.ma K (He.ga K "Cell") "done") fd := G.d.def_ 45 (d := d_Cell_done) rfl
theorem Gx.f_Cell_told : ∃ fd, FunD K "told" "Cell.told" (defArgs s_Cell_told) (defBody s_Cell_told) (defScope s_Cell_told) [] [] (He.ma K (He.ga K "Cell") "told") fd := G.d.def_ 46 (d := d_Cell_told) rfl
theorem Gx.f_Line_init : ∃ fd, FunD K "__init__" "Line.__init__" (defArgs s_Line_init) (defBody s_Line_init) (defScope s_Line_init) [] [] (He.ma K (He.ga K "Line") "__init__") fd := G.d.def_ 47 (d := d_Line_init) rfl
theorem Gx.f_Line_kind : ∃ fd, FunD K "kind" "Line.kind" (defArgs s_Line_kind) (defBody s_Line_kind) (defScope s_Line_kind) [] [] (He.ma K (He.ga K "Line") "kind") fd := G.d.def_ 48 (d := d_Line_kind) rfl
theorem Gx.f_Line_fits : ∃ fd, FunD K "fits" "Line.fits" (defArgs s_Line_fits) (defBody s_Line_fits) (defScope s_Line_fits) [] [] (He.ma K (He.ga K "Line") "fits") fd := G.d.def_ 49 (d := d_Line_fits) rfl
theorem Gx.f_Line_needed : ∃ fd, FunD K "needed" "Line.needed" (defArgs s_Line_needed) (defBody s_Line_needed) (defScope s_Line_needed) [] [] (He.ma K (He.ga K "Line") "needed") fd := G.d.def_ 50 (d := d_Line_needed) rfl
theorem Gx.f_Line_done : ∃ fd, FunD K "done" "Line.done" (defArgs s_Line_done) (defBody s_Line_done) (defScope s_Line_done) [] [] (He.ma K (He.ga K "Line") "done") fd := G.d.def_ 51 (d := d_Line_done) rfl
theorem Gx.f_Line_told : ∃ fd, FunD K "told" "Line.told" (defArgs s_Line_told) (defBody s_Line_told) (defScope s_Line_told) [] [] (He.ma K (He.ga K "Line") "told") fd := G.d.def_ 52 (d := d_Line_told) rfl
theorem Gx.f_Door_init : ∃ fd, FunD K "__init__" "Door.__init__" (defArgs s_Door_init) (defBody s_Door_init) (defScope s_Door_init) [] [] (He.ma K (He.ga K "Door") "__init__") fd := G.d.def_ 53 (d := d_Door_init) rfl
theorem Gx.f_Door_kind : ∃ fd, FunD K "kind" "Door.kind" (defArgs s_Door_kind) (defBody s_Door_kind) (defScope s_Door_kind) [] [] (He.ma K (He.ga K "Door") "kind") fd := G.d.def_ 54 (d := d_Door_kind) rfl
theorem Gx.f_Door_fits : ∃ fd, FunD K "fits" "Door.fits" (defArgs s_Door_fits) (defBody s_Door_fits) (defScope s_Door_fits) [] [] (He.ma K (He.ga K "Door") "fits") fd := G.d.def_ 55 (d := d_Door_fits) rfl
theorem Gx.f_Door_needed : ∃ fd, FunD K "needed" "Door.needed" (defArgs s_Door_needed) (defBody s_Door_needed) (defScope s_Door_needed) [] [] (He.ma K (He.ga K "Door") "needed") fd := G.d.def_ 56 (d := d_Door_needed) rfl
theorem Gx.f_Door_done : ∃ fd, FunD K "done" "Door.done" (defArgs s_Door_done) (defBody s_Door_done) (defScope s_Door_done) [] [] (He.ma K (He.ga K "Door") "done") fd := G.d.def_ 57 (d := d_Door_done) rfl
theorem Gx.f_Door_letters : ∃ fd, FunD K "letters" "Door.letters" (defArgs s_Door_letters) (defBody s_Door_letters) (defScope s_Door_letters) [] [] (He.ma K (He.ga K "Door") "letters") fd := G.d.def_ 58 (d := d_Door_letters) rfl
theorem Gx.f_Door_told : ∃ fd, FunD K "told" "Door.told" (defArgs s_Door_told) (defBody s_Door_told) (defScope s_Door_told) [] [] (He.ma K (He.ga K "Door") "told") fd := G.d.def_ 59 (d := d_Door_told) rfl
theorem Gx.f_Post_init : ∃ fd, FunD K "__init__" "Post.__init__" (defArgs s_Post_init) (defBody s_Post_init) (defScope s_Post_init) [] [] (He.ma K (He.ga K "Post") "__init__") fd := G.d.def_ 60 (d := d_Post_init) rfl
theorem Gx.f_Post_kind : ∃ fd, FunD K "kind" "Post.kind" (defArgs s_Post_kind) (defBody s_Post_kind) (defScope s_Post_kind) [] [] (He.ma K (He.ga K "Post") "kind") fd := G.d.def_ 61 (d := d_Post_kind) rfl
theorem Gx.f_Post_fits : ∃ fd, FunD K "fits" "Post.fits" (defArgs s_Post_fits) (defBody s_Post_fits) (defScope s_Post_fits) [] [] (He.ma K (He.ga K "Post") "fits") fd := G.d.def_ 62 (d := d_Post_fits) rfl
theorem Gx.f_Post_needed : ∃ fd, FunD K "needed" "Post.needed" (defArgs s_Post_needed) (defBody s_Post_needed) (defScope s_Post_needed) [] [] (He.ma K (He.ga K "Post") "needed") fd := G.d.def_ 63 (d := d_Post_needed) rfl
theorem Gx.f_Post_done : ∃ fd, FunD K "done" "Post.done" (defArgs s_Post_done) (defBody s_Post_done) (defScope s_Post_done) [] [] (He.ma K (He.ga K "Post") "done") fd := G.d.def_ 64 (d := d_Post_done) rfl
theorem Gx.f_Post_told : ∃ fd, FunD K "told" "Post.told" (defArgs s_Post_told) (defBody s_Post_told) (defScope s_Post_told) [] [] (He.ma K (He.ga K "Post") "told") fd := G.d.def_ 65 (d := d_Post_told) rfl
theorem Gx.f_Handle_init : ∃ fd, FunD K "__init__" "Handle.__init__" (defArgs s_Handle_init) (defBody s_Handle_init) (defScope s_Handle_init) [] [] (He.ma K (He.ga K "Handle") "__init__") fd := G.d.def_ 66 (d := d_Handle_init) rfl
theorem Gx.f_Tree_init : ∃ fd, FunD K "__init__" "Tree.__init__" (defArgs s_Tree_init) (defBody s_Tree_init) (defScope s_Tree_init) [] [] (He.ma K (He.ga K "Tree") "__init__") fd := G.d.def_ 67 (d := d_Tree_init) rfl
theorem Gx.f_Tree_need : ∃ fd, FunD K "need" "Tree.need" (defArgs s_Tree_need) (defBody s_Tree_need) (defScope s_Tree_need) [] [] (He.ma K (He.ga K "Tree") "need") fd := G.d.def_ 68 (d := d_Tree_need) rfl
theorem Gx.f_Tree_handle : ∃ fd, FunD K "handle" "Tree.handle" (defArgs s_Tree_handle) (defBody s_Tree_handle) (defScope s_Tree_handle) [] [] (He.ma K (He.ga K "Tree") "handle") fd := G.d.def_ 69 (d := d_Tree_handle) rfl
theorem Gx.f_Tree_added : ∃ fd, FunD K "added" "Tree.added" (defArgs s_Tree_added) (defBody s_Tree_added) (defScope s_Tree_added) [] [] (He.ma K (He.ga K "Tree") "added") fd := G.d.def_ 70 (d := d_Tree_added) rfl
theorem Gx.f_Tree_rooted : ∃ fd, FunD K "rooted" "Tree.rooted" (defArgs s_Tree_rooted) (defBody s_Tree_rooted) (defScope s_Tree_rooted) [] [] (He.ma K (He.ga K "Tree") "rooted") fd := G.d.def_ 71 (d := d_Tree_rooted) rfl
theorem Gx.f_Tree_derived : ∃ fd, FunD K "derived" "Tree.derived" (defArgs s_Tree_derived) (defBody s_Tree_derived) (defScope s_Tree_derived) [] [] (He.ma K (He.ga K "Tree") "derived") fd := G.d.def_ 72 (d := d_Tree_derived) rfl
theorem Gx.f_Tree_held : ∃ fd, FunD K "held" "Tree.held" (defArgs s_Tree_held) (defBody s_Tree_held) (defScope s_Tree_held) [] [] (He.ma K (He.ga K "Tree") "held") fd := G.d.def_ 73 (d := d_Tree_held) rfl
theorem Gx.f_Tree_below : ∃ fd, FunD K "below" "Tree.below" (defArgs s_Tree_below) (defBody s_Tree_below) (defScope s_Tree_below) [] [] (He.ma K (He.ga K "Tree") "below") fd := G.d.def_ 74 (d := d_Tree_below) rfl
theorem Gx.f_Tree_chain : ∃ fd, FunD K "chain" "Tree.chain" (defArgs s_Tree_chain) (defBody s_Tree_chain) (defScope s_Tree_chain) [] [] (He.ma K (He.ga K "Tree") "chain") fd := G.d.def_ 75 (d := d_Tree_chain) rfl
theorem Gx.f_Tree_cut : ∃ fd, FunD K "cut" "Tree.cut" (defArgs s_Tree_cut) (defBody s_Tree_cut) (defScope s_Tree_cut) [] [] (He.ma K (He.ga K "Tree") "cut") fd := G.d.def_ 76 (d := d_Tree_cut) rfl
theorem Gx.f_Tree_kept : ∃ fd, FunD K "kept" "Tree.kept" (defArgs s_Tree_kept) (defBody s_Tree_kept) (defScope s_Tree_kept) [] [] (He.ma K (He.ga K "Tree") "kept") fd := G.d.def_ 77 (d := d_Tree_kept) rfl
theorem Gx.f_Kernel_init : ∃ fd, FunD K "__init__" "Kernel.__init__" (defArgs s_Kernel_init) (defBody s_Kernel_init) (defScope s_Kernel_init) [] [] (He.ma K (He.ga K "Kernel") "__init__") fd := G.d.def_ 78 (d := d_Kernel_init) rfl
theorem Gx.f_begun : ∃ fd, FunD K "begun" "begun" (defArgs s_begun) (defBody s_begun) (defScope s_begun) [] [] (He.ga K "begun") fd := G.d.def_ 79 (d := d_begun) rfl
theorem Gx.f_handle_at : ∃ fd, FunD K "handle_at" "handle_at" (defArgs s_handle_at) (defBody s_handle_at) (defScope s_handle_at) [] [] (He.ga K "handle_at") fd := G.d.def_ 80 (d := d_handle_at) rfl
theorem Gx.f_need_slot : ∃ fd, FunD K "need_slot" "need_slot" (defArgs s_need_slot) (defBody s_need_slot) (defScope s_need_slot) [] [] (He.ga K "need_slot") fd := G.d.def_ 81 (d := d_need_slot) rfl
theorem Gx.f_need_rights : ∃ fd, FunD K "need_rights" "need_rights" (defArgs s_need_rights) (defBody s_need_rights) (defScope s_need_rights) [] [] (He.ga K "need_rights") fd := G.d.def_ 82 (d := d_need_rights) rfl
theorem Gx.f_made_thing : ∃ fd, FunD K "made_thing" "made_thing" (defArgs s_made_thing) (defBody s_made_thing) (defScope s_made_thing) [] [] (He.ga K "made_thing") fd := G.d.def_ 83 (d := d_made_thing) rfl
theorem Gx.f_kept_thing : ∃ fd, FunD K "kept_thing" "kept_thing" (defArgs s_kept_thing) (defBody s_kept_thing) (defScope s_kept_thing) [] [] (He.ga K "kept_thing") fd := G.d.def_ 84 (d := d_kept_thing) rfl
theorem Gx.f_need_room : ∃ fd, FunD K "need_room" "need_room" (defArgs s_need_room) (defBody s_need_room) (defScope s_need_room) [] [] (He.ga K "need_room") fd := G.d.def_ 85 (d := d_need_room) rfl
theorem Gx.f_make : ∃ fd, FunD K "make" "make" (defArgs s_make) (defBody s_make) (defScope s_make) [] [] (He.ga K "make") fd := G.d.def_ 86 (d := d_make) rfl
theorem Gx.f_start : ∃ fd, FunD K "start" "start" (defArgs s_start) (defBody s_start) (defScope s_start) [] [] (He.ga K "start") fd := G.d.def_ 87 (d := d_start) rfl
theorem Gx.f_put_below : ∃ fd, FunD K "put_below" "put_below" (defArgs s_put_below) (defBody s_put_below) (defScope s_put_below) [] [] (He.ga K "put_below") fd := G.d.def_ 88 (d := d_put_below) rfl
theorem Gx.f_narrow : ∃ fd, FunD K "narrow" "narrow" (defArgs s_narrow) (defBody s_narrow) (defScope s_narrow) [] [] (He.ga K "narrow") fd := G.d.def_ 89 (d := d_narrow) rfl
theorem Gx.f_hand : ∃ fd, FunD K "hand" "hand" (defArgs s_hand) (defBody s_hand) (defScope s_hand) [.non] [] (He.ga K "hand") fd := G.d.def_ 90 (d := d_hand) rfl
theorem Gx.f_let_go : ∃ fd, FunD K "let_go" "let_go" (defArgs s_let_go) (defBody s_let_go) (defScope s_let_go) [] [] (He.ga K "let_go") fd := G.d.def_ 91 (d := d_let_go) rfl
theorem Gx.f_call_back : ∃ fd, FunD K "call_back" "call_back" (defArgs s_call_back) (defBody s_call_back) (defScope s_call_back) [] [] (He.ga K "call_back") fd := G.d.def_ 92 (d := d_call_back) rfl
theorem Gx.f_give_up : ∃ fd, FunD K "give_up" "give_up" (defArgs s_give_up) (defBody s_give_up) (defScope s_give_up) [] [] (He.ga K "give_up") fd := G.d.def_ 93 (d := d_give_up) rfl
theorem Gx.f_ended : ∃ fd, FunD K "ended" "ended" (defArgs s_ended) (defBody s_ended) (defScope s_ended) [] [] (He.ga K "ended") fd := G.d.def_ 94 (d := d_ended) rfl
theorem Gx.f_do : ∃ fd, FunD K "do" "do" (defArgs s_do) (defBody s_do) (defScope s_do) [.int 0] [] (He.ga K "do") fd := G.d.def_ 95 (d := d_do) rfl
theorem Gx.f_Letter_init : ∃ fd, FunD K "__init__" "Letter.__init__" (defArgs s_Letter_init) (defBody s_Letter_init) (defScope s_Letter_init) [] [] (He.ma K (He.ga K "Letter") "__init__") fd := G.d.def_ 96 (d := d_Letter_init) rfl
theorem Gx.f_door_at : ∃ fd, FunD K "door_at" "door_at" (defArgs s_door_at) (defBody s_door_at) (defScope s_door_at) [] [] (He.ga K "door_at") fd := G.d.def_ 97 (d := d_door_at) rfl
theorem Gx.f_need_passing : ∃ fd, FunD K "need_passing" "need_passing" (defArgs s_need_passing) (defBody s_need_passing) (defScope s_need_passing) [] [] (He.ga K "need_passing") fd := G.d.def_ 98 (d := d_need_passing) rfl
theorem Gx.f_send : ∃ fd, FunD K "send" "send" (defArgs s_send) (defBody s_send) (defScope s_send) [.non, .int 63] [] (He.ga K "send") fd := G.d.def_ 99 (d := d_send) rfl
theorem Gx.f_hear : ∃ fd, FunD K "hear" "hear" (defArgs s_hear) (defBody s_hear) (defScope s_hear) [] [] (He.ga K "hear") fd := G.d.def_ 100 (d := d_hear) rfl
theorem Gx.f_l_cell_at : ∃ fd, FunD K "_law_cell_at" "_law_cell_at" (defArgs s_l_cell_at) (defBody s_l_cell_at) (defScope s_l_cell_at) [] [] (He.ga K "_law_cell_at") fd := G.d.def_ 101 (d := d_l_cell_at) rfl
theorem Gx.f_l_drawn : ∃ fd, FunD K "_law_drawn" "_law_drawn" (defArgs s_l_drawn) (defBody s_l_drawn) (defScope s_l_drawn) [] [] (He.ga K "_law_drawn") fd := G.d.def_ 102 (d := d_l_drawn) rfl
theorem Gx.f_l_names : ∃ fd, FunD K "_law_names" "_law_names" (defArgs s_l_names) (defBody s_l_names) (defScope s_l_names) [] [] (He.ga K "_law_names") fd := G.d.def_ 103 (d := d_l_names) rfl
theorem Gx.f_l_slot : ∃ fd, FunD K "_law_slot" "_law_slot" (defArgs s_l_slot) (defBody s_l_slot) (defScope s_l_slot) [] [] (He.ga K "_law_slot") fd := G.d.def_ 104 (d := d_l_slot) rfl
theorem Gx.f_l_had : ∃ fd, FunD K "_law_had" "_law_had" (defArgs s_l_had) (defBody s_l_had) (defScope s_l_had) [] [] (He.ga K "_law_had") fd := G.d.def_ 105 (d := d_l_had) rfl
theorem Gx.f_l_letter : ∃ fd, FunD K "_law_letter" "_law_letter" (defArgs s_l_letter) (defBody s_l_letter) (defScope s_l_letter) [] [] (He.ga K "_law_letter") fd := G.d.def_ 106 (d := d_l_letter) rfl
theorem Gx.f_l_deed : ∃ fd, FunD K "_law_deed" "_law_deed" (defArgs s_l_deed) (defBody s_l_deed) (defScope s_l_deed) [] [] (He.ga K "_law_deed") fd := G.d.def_ 107 (d := d_l_deed) rfl
theorem Gx.f_l_done : ∃ fd, FunD K "_law_done" "_law_done" (defArgs s_l_done) (defBody s_l_done) (defScope s_l_done) [] [] (He.ga K "_law_done") fd := G.d.def_ 108 (d := d_l_done) rfl
theorem Gx.f_l_planted : ∃ fd, FunD K "_law_planted" "_law_planted" (defArgs s_l_planted) (defBody s_l_planted) (defScope s_l_planted) [] [] (He.ga K "_law_planted") fd := G.d.def_ 109 (d := d_l_planted) rfl
theorem Gx.f_l_kernel : ∃ fd, FunD K "_law_kernel" "_law_kernel" (defArgs s_l_kernel) (defBody s_l_kernel) (defScope s_l_kernel) [] [] (He.ga K "_law_kernel") fd := G.d.def_ 110 (d := d_l_kernel) rfl
theorem Gx.f_l_still : ∃ fd, FunD K "_law_still" "_law_still" (defArgs s_l_still) (defBody s_l_still) (defScope s_l_still) [] [] (He.ga K "_law_still") fd := G.d.def_ 111 (d := d_l_still) rfl
theorem Gx.f_l_pairs : ∃ fd, FunD K "_law_pairs" "_law_pairs" (defArgs s_l_pairs) (defBody s_l_pairs) (defScope s_l_pairs) [] [] (He.ga K "_law_pairs") fd := G.d.def_ 112 (d := d_l_pairs) rfl
theorem Gx.f_l_within : ∃ fd, FunD K "_law_within" "_law_within" (defArgs s_l_within) (defBody s_l_within) (defScope s_l_within) [] [] (He.ga K "_law_within") fd := G.d.def_ 113 (d := d_l_within) rfl
theorem Gx.f_l_chained : ∃ fd, FunD K "_law_chained" "_law_chained" (defArgs s_l_chained) (defBody s_l_chained) (defScope s_l_chained) [] [] (He.ga K "_law_chained") fd := G.d.def_ 114 (d := d_l_chained) rfl
theorem Gx.f_l_heard : ∃ fd, FunD K "_law_heard" "_law_heard" (defArgs s_l_heard) (defBody s_l_heard) (defScope s_l_heard) [] [] (He.ga K "_law_heard") fd := G.d.def_ 115 (d := d_l_heard) rfl
theorem Gx.f_law : ∃ fd, FunD K "law" "law" (defArgs s_law) (defBody s_law) (defScope s_law) [] [] (He.ga K "law") fd := G.d.def_ 116 (d := d_law) rfl
theorem Gx.f_Cell_needs : ∃ fd, FunD K "needs" "Thing.needs" (defArgs s_Thing_needs) (defBody s_Thing_needs) (defScope s_Thing_needs) [] [] (He.ma K (He.ga K "Cell") "needs") fd := G.d.def_ 117 (d := d_Cell_needs) rfl
theorem Gx.f_Cell_did : ∃ fd, FunD K "did" "Thing.did" (defArgs s_Thing_did) (defBody s_Thing_did) (defScope s_Thing_did) [] [] (He.ma K (He.ga K "Cell") "did") fd := G.d.def_ 118 (d := d_Cell_did) rfl
theorem Gx.f_Line_needs : ∃ fd, FunD K "needs" "Thing.needs" (defArgs s_Thing_needs) (defBody s_Thing_needs) (defScope s_Thing_needs) [] [] (He.ma K (He.ga K "Line") "needs") fd := G.d.def_ 119 (d := d_Line_needs) rfl
theorem Gx.f_Line_did : ∃ fd, FunD K "did" "Thing.did" (defArgs s_Thing_did) (defBody s_Thing_did) (defScope s_Thing_did) [] [] (He.ma K (He.ga K "Line") "did") fd := G.d.def_ 120 (d := d_Line_did) rfl
theorem Gx.f_Door_needs : ∃ fd, FunD K "needs" "Thing.needs" (defArgs s_Thing_needs) (defBody s_Thing_needs) (defScope s_Thing_needs) [] [] (He.ma K (He.ga K "Door") "needs") fd := G.d.def_ 121 (d := d_Door_needs) rfl
theorem Gx.f_Door_did : ∃ fd, FunD K "did" "Thing.did" (defArgs s_Thing_did) (defBody s_Thing_did) (defScope s_Thing_did) [] [] (He.ma K (He.ga K "Door") "did") fd := G.d.def_ 122 (d := d_Door_did) rfl
theorem Gx.f_Post_needs : ∃ fd, FunD K "needs" "Thing.needs" (defArgs s_Thing_needs) (defBody s_Thing_needs) (defScope s_Thing_needs) [] [] (He.ma K (He.ga K "Post") "needs") fd := G.d.def_ 123 (d := d_Post_needs) rfl
theorem Gx.f_Post_did : ∃ fd, FunD K "did" "Thing.did" (defArgs s_Thing_did) (defBody s_Thing_did) (defScope s_Thing_did) [] [] (He.ma K (He.ga K "Post") "did") fd := G.d.def_ 124 (d := d_Post_did) rfl
end
def loose0 : List Str := [("__name__" : Str), ("PassError" : Str), ("NoRights" : Str), ("NoName" : Str), ("NoValue" : Str), ("NoWords" : Str), ("NoKind" : Str), ("NoTask" : Str), ("NoHandle" : Str), ("NoThing" : Str), ("NoDeed" : Str), ("Lacks" : Str), ("Taken" : Str), ("TooMany" : Str), ("TooGreat" : Str), ("Empty" : Str), ("Full" : Str), ("Task" : Str), ("Tasks" : Str), ("Thing" : Str), ("Cell" : Str), ("Line" : Str), ("Door" : Str), ("Post" : Str), ("Handle" : Str), ("Tree" : Str), ("Kernel" : Str), ("Letter" : Str), ("LOOK" : Str), ("PUT" : Str), ("SEND" : Str), ("HEAR" : Str), ("END" : Str), ("PASS" : Str), ("EACH" : Str)]
def loose1 : List Str := [("MOST_VALUE" : Str), ("MOST_LETTERS" : Str), ("MOST_SIGNS" : Str), ("PERCENT" : Str), ("MOST_TASKS" : Str), ("SLOTS" : Str), ("MOST_IN_LINE" : Str), ("MOST_WAITING_things" : Str), ("MOST_CHAIN_tree" : Str), ("MOST_THINGS" : Str), ("MOST_RUNNING" : Str), ("MOST_PARTS" : Str), ("MOST_WAITING_letters" : Str), ("MOST_CHAIN_letters" : Str), ("is_whole" : Str), ("is_rights" : Str), ("missing" : Str), ("narrowed" : Str), ("is_name" : Str), ("is_value" : Str), ("are_words" : Str), ("need_thing" : Str), ("handles_of" : Str), ("gathered" : Str), ("can" : Str), ("parts_heard" : Str), ("joined" : Str), ("passes" : Str), ("might_have" : Str), ("passed_on" : Str), ("could" : Str), ("begun" : Str), ("handle_at" : Str), ("need_slot" : Str), ("need_rights" : Str)]
def loose2 : List Str := [("made_thing" : Str), ("kept_thing" : Str), ("need_room" : Str), ("make" : Str), ("start" : Str), ("put_below" : Str), ("narrow" : Str), ("hand" : Str), ("let_go" : Str), ("call_back" : Str), ("give_up" : Str), ("ended" : Str), ("do" : Str), ("door_at" : Str), ("need_passing" : Str), ("send" : Str), ("hear" : Str), ("_law_cell_at" : Str), ("_law_drawn" : Str), ("_law_names" : Str), ("_law_slot" : Str), ("_law_had" : Str), ("_law_letter" : Str), ("_law_deed" : Str), ("_law_done" : Str), ("_law_planted" : Str), ("_law_kernel" : Str), ("_law_still" : Str), ("_law_pairs" : Str), ("_law_within" : Str), ("_law_chained" : Str), ("_law_heard" : Str)]
def loose : List Str := loose0 ++ loose1 ++ loose2
end Pk
end
/-! PkRun -/
section
set_option maxHeartbeats 0
namespace Pk
open PySem PySem.Spec PyProof.Rows L2
noncomputable abbrev endS (w : World) (os : OsState) : Option PySem.W.SharedT := HandSHeadRun.endF (HandSHeadRun.stepQ (HandSHeadRun.denQ HandSHeadRun.tabQ) R.prog w) 20000 R.prog w os
/-- the tracked objects at the end -/
noncomputable abbrev frE (s : PySem.W.SharedT) : PySem.W.Frag := He.frT (HandSHeadRun.getT s) (asP (HandSHeadRun.getT s))
/- the run twice, each time with a part of what is looked at: the kernel's memory is some 10 GB each time -/
theorem runA (w : World) (os : OsState) : (endS w os).map (fun s => (HandSHeadRun.looksF R.prog (PySem.W.boot_heap w.params) s.abs, fn.all (fun d => d.ok (frE s)), fn.map fun d => He.fnW (frE s) d.at_)) = some (true, true, fn.map He.DefD.val) := by
  kernel_rfl
theorem runB (w : World) (os : OsState) : (endS w os).map (fun s => (HandSHeadRun.seenQ qv loose (importedModules R.prog.main.body) (fun s => PySem.W.xlAt qv [] s && PySem.W.recOk R.toRowW.records s) s.abs, fa.all (fun f => f.ok (frE s)), ex (frE s) && He.tabsB (HandSHeadRun.getT s) tf (frE s))) = some (PySem.W.openGood qv loose, true, true) := by
  kernel_rfl
theorem ob_of {s : PySem.W.SharedT} (a1 : fn.all (fun d => d.ok (frE s)) = true) (a2 : (fn.map fun d => He.fnW (frE s) d.at_) = fn.map He.DefD.val) (b1 : fa.all (fun f => f.ok (frE s)) = true) (b2 : (ex (frE s) && He.tabsB (HandSHeadRun.getT s) tf (frE s)) = true) : obT s = vaP := by
  have e : obT s = ((fa.all (fun f => f.ok (frE s)) && fn.all (fun d => d.ok (frE s)), fn.map fun d => He.fnW (frE s) d.at_), ex (frE s) && He.tabsB (HandSHeadRun.getT s) tf (frE s)) := rfl
  rw [e, a1, a2, b1, b2]
  rfl
theorem run (w : World) : HandSHeadRun.RunEq R qv hkP obT 20000 loose w := by
  intro os
  have a := runA w os
  have b := runB w os
  obtain ⟨s, e, b2⟩ := Option.map_eq_some_iff.mp b
  rw [e] at a
  have a3 := Option.some.inj a
  have o := ob_of (congrArg (fun x => x.2.1) a3) (congrArg (fun x => x.2.2) a3) (congrArg (fun x => x.2.1) b2) (congrArg (fun x => x.2.2) b2)
  have l : HandSHeadRun.looksF R.prog (PySem.W.boot_heap w.params) s.abs = true := congrArg (fun x => x.1) a3
  have z : HandSHeadRun.seenQ qv loose (importedModules R.prog.main.body) (fun s => PySem.W.xlAt qv [] s && PySem.W.recOk R.toRowW.records s) s.abs = PySem.W.openGood qv loose := congrArg (fun x => x.1) b2
  show (endS w os).map _ = _
  rw [e]
  exact congrArg some (congr (congrArg Prod.mk l) (congr (congrArg Prod.mk z) o))
end Pk
end
/-! PkHead -/
section
set_option maxHeartbeats 0
namespace Pk
open PySem PySem.W PySem.Calls PyProof.Rows HandSHeadRun
/-- the row, from the law's call alone -/
theorem headP (call : WalkO qv loose (XL qv []) hkP.says R.toRowW (HandSHeadRun.topDef R.prog 111) [] fun f vs => PySem.call f vs) : PySem.Challenge.rw_passkeep_k75_whole_nothing_beyond.Holds := by
  w_on; o_law
  exact HandSHeadRun.head_any (r := OpenLaw.row PySem.Challenge.rw_passkeep_k75_whole_nothing_beyond) (q := qv) (H := hkP) (ob := obT) (M := 20000) (loose := loose) (d := HandSHeadRun.topDef (OpenLaw.row PySem.Challenge.rw_passkeep_k75_whole_nothing_beyond).prog 111) (kwd := []) obT_eq
    (by kernel_rfl) (fun s => by kernel_rfl) run (by kernel_rfl) (by kernel_rfl) (by kernel_rfl) (by rfl) (by first | assumption | decide +kernel) (by decide +kernel) ⟨rfl, rfl, rfl, rfl, rfl, by decide +kernel⟩ (by w_witness2) call
end Pk
end
/-! PkRules -/
section
set_option maxHeartbeats 2000000
namespace Pk
open PySem PySem.Spec PyProof.Rows L2
abbrev St := L2.St
/-! ### calls of defs, what they let out wished for at the slots -/
section
variable {X : Cx} {k : Nat} {f : Addr} {sp : Sp} {W : WX}
theorem run_w {pins : List (Addr × Obj)} {σ : St} {H : Hp} {s : Shared} {Q : VK} {us : List Value} {vs : List V} (F : FnR X.prog X.w X.K X.mg X.base (L2.CX X.prog X.w) k f sp) (hr : Room k X.A) (tk : Takes X W)
    (I : Inv X pins σ H s) (r : Vals vs us) (h : sp vs H Q (WE W σ)) : wpAny (model X.prog X.w) X.A (call (.ref f) us) (EP X pins σ Q) X.xe s := by
  refine wpAny_call (codeAny_mono (F X.A X.stack s H us vs Q (WE W σ) hr I.env0 r h) fun res s' hq => ?_)
  match res, hq with
  | .error e, hq => exact passAt tk σ pins H s e s' I hq
  | .ok (.ret u), hq => exact I.after hq
  | .ok .next, hq => exact False.elim hq
  | .ok .brk, hq => exact False.elim hq
  | .ok .cont, hq => exact False.elim hq
/-- the reading of a call by its promise -/
def tW (sp : Sp) (W : WX) (t : TA) : TE := fun σ H Q => t σ H fun vs H1 => sp vs H1 Q (WE W σ)
theorem pe_f {x : Str} {p pos : Pos} {e : Expr} {es : List Expr} {t : TA} (F : FnR X.prog X.w X.K X.mg X.base (L2.CX X.prog X.w) k f sp) (hr : Room k X.A) (hg : Gl X x) (hm : X.mg x = some (.ref f)) (hk : PySem.W.keepIn X.K (.ref f) = true) (tk : Takes X W)
    (ha : PA X (e :: es) t) (hdb : (x == ("__debug__" : Str)) = false := by decide) (he : starEach (e :: es) X.env = (false, eval e X.env) :: starEach es X.env := by rfl)
    (hpl : (backTo pos (starEach es X.env)).any (·.1) = false := by rfl) : PE X (.Call (.Name x p) (e :: es) [] pos) (tW sp W t) :=
  ⟨fun pins s σ H Q I h => wpAny_Call_Name_kw (ld_glob I hg hm (PySem.W.callWith_K (h₀ := X.base) I.ok.mod.kin hk
    (thn (ha.run pos pins s σ H _ I h) fun us s1 ⟨vs, H1, I1, r, q⟩ => ⟨I1.kIn, run_w F hr tk I1 r q⟩) he hpl) hdb)⟩
/-- an instance of the class at C without an attribute m -/
def InsC (H : Hp) (x : V) (C : Addr) (m : Str) : Prop := ∃ a dx fs, x = .ref a ∧ H a = some (.ins C dx fs) ∧ fs.lookup m = none
/-- o.m(..), the class known -/
def tM (C : Addr) (m : Str) (sp : Sp) (W : WX) (ta : TE) (t : TA) : TE := fun σ H Q => ta σ H fun x H1 => InsC H1 x C m ∧ t σ H1 fun vs H2 => sp (x :: vs) H2 Q (WE W σ)
theorem pe_m {C : Addr} {m : Str} {o e : Expr} {es : List Expr} {ta : TE} {t : TA} {apos pos : Pos} {pl : Sem Bool} (F : FnR X.prog X.w X.K X.mg X.base (L2.CX X.prog X.w) k f sp) (hr : Room k X.A) (c : Cls X.K C) (hm : Meth X.K C m f) (tk : Takes X W)
    (he : PE X o ta) (ha : PA X (e :: es) t)
    (hst : starEach (e :: es) X.env = (false, eval e X.env) :: starEach es X.env := by rfl) (hpl : (backTo pos (starEach es X.env)).any (·.1) = false := by rfl)
    (ht : eval (.Call (.Attribute o m apos) (e :: es) [] pos) X.env = (eval o X.env >>= fun ov => standAt apos.atName >>= fun _ => holding [ov] (getMethod ov m pl) >>= fun z =>
      callWith pos z.1 z.2 (backTo pos (starEach (e :: es) X.env)) (backToKw pos (keywordEach [] X.env))) := by rfl) :
    PE X (.Call (.Attribute o m apos) (e :: es) [] pos) (tM C m sp W ta t) := by
  refine ⟨fun pins s σ H Q I h => PySem.W.methodCall_KW (pl := pl) (thn (he.run pins s σ H _ I h) fun u s1 ⟨x, H1, I1, rx, ⟨a, dx, fs, ex, ea, l⟩, q⟩ => ?_) ht⟩
  subst ex
  obtain rfl : u = Value.ref a := rx
  exact getmeth_ok I1 ea c hm l (PySem.W.callWith_K (first := [.ref a]) (h₀ := X.base) I.ok.mod.kin hm.kp
    (thn (ha.run pos pins s1 σ H1 _ I1 q) fun us s2 ⟨vs, H2, I2, r, q2⟩ => ⟨I2.kIn, run_w (us := .ref a :: us) (vs := .ref a :: vs) F hr tk I2 (.cons rfl r) q2⟩) hst hpl)
theorem pe_m0 {C : Addr} {m : Str} {o : Expr} {ta : TE} {apos pos : Pos} {pl : Sem Bool} (F : FnR X.prog X.w X.K X.mg X.base (L2.CX X.prog X.w) k f sp) (hr : Room k X.A) (c : Cls X.K C) (hm : Meth X.K C m f) (tk : Takes X W) (he : PE X o ta)
    (ht : eval (.Call (.Attribute o m apos) [] [] pos) X.env = (eval o X.env >>= fun ov => standAt apos.atName >>= fun _ => holding [ov] (getMethod ov m pl) >>= fun z =>
      callWith pos z.1 z.2 (backTo pos (starEach [] X.env)) (backToKw pos (keywordEach [] X.env))) := by rfl) :
    PE X (.Call (.Attribute o m apos) [] [] pos) (tM C m sp W ta tNil) := by
  refine ⟨fun pins s σ H Q I h => PySem.W.methodCall_KW (pl := pl) (thn (he.run pins s σ H _ I h) fun u s1 ⟨x, H1, I1, rx, ⟨a, dx, fs, ex, ea, l⟩, q⟩ => ?_) ht⟩
  subst ex
  obtain rfl : u = Value.ref a := rx
  exact getmeth_ok I1 ea c hm l (PySem.W.callWith_K0 (first := [.ref a]) I1.kIn hm.kp (run_w (us := [.ref a]) (vs := [.ref a]) F hr tk I1 (.cons rfl .nil) q))
/-- o.m(..), the class known by the reading alone -/
def tD (X : Cx) (k : Nat) (m : Str) (W : WX) (ta : TE) (t : TA) : TE := fun σ H Q => ta σ H fun x H1 => ∃ a C dx fs f sp, x = .ref a ∧ H1 a = some (.ins C dx fs) ∧ fs.lookup m = none ∧ Cls X.K C ∧ Meth X.K C m f ∧
  FnR X.prog X.w X.K X.mg X.base (L2.CX X.prog X.w) k f sp ∧ t σ H1 fun vs H2 => sp (x :: vs) H2 Q (WE W σ)
theorem pe_d {m : Str} {o e : Expr} {es : List Expr} {ta : TE} {t : TA} {apos pos : Pos} {pl : Sem Bool} (hr : Room k X.A) (tk : Takes X W)
    (he : PE X o ta) (ha : PA X (e :: es) t)
    (hst : starEach (e :: es) X.env = (false, eval e X.env) :: starEach es X.env := by rfl) (hpl : (backTo pos (starEach es X.env)).any (·.1) = false := by rfl)
    (ht : eval (.Call (.Attribute o m apos) (e :: es) [] pos) X.env = (eval o X.env >>= fun ov => standAt apos.atName >>= fun _ => holding [ov] (getMethod ov m pl) >>= fun z =>
      callWith pos z.1 z.2 (backTo pos (starEach (e :: es) X.env)) (backToKw pos (keywordEach [] X.env))) := by rfl) :
    PE X (.Call (.Attribute o m apos) (e :: es) [] pos) (tD X k m W ta t) := by
  refine ⟨fun pins s σ H Q I h => PySem.W.methodCall_KW (pl := pl) (thn (he.run pins s σ H _ I h) fun u s1 ⟨x, H1, I1, rx, a, C, dx, fs, f, sp, ex, ea, l, c, hm, F, q⟩ => ?_) ht⟩
  subst ex
  obtain rfl : u = Value.ref a := rx
  exact getmeth_ok I1 ea c hm l (PySem.W.callWith_K (first := [.ref a]) (h₀ := X.base) I.ok.mod.kin hm.kp
    (thn (ha.run pos pins s1 σ H1 _ I1 q) fun us s2 ⟨vs, H2, I2, r, q2⟩ => ⟨I2.kIn, run_w (us := .ref a :: us) (vs := .ref a :: vs) F hr tk I2 (.cons rfl r) q2⟩) hst hpl)
theorem pe_d0 {m : Str} {o : Expr} {ta : TE} {apos pos : Pos} {pl : Sem Bool} (hr : Room k X.A) (tk : Takes X W) (he : PE X o ta)
    (ht : eval (.Call (.Attribute o m apos) [] [] pos) X.env = (eval o X.env >>= fun ov => standAt apos.atName >>= fun _ => holding [ov] (getMethod ov m pl) >>= fun z =>
      callWith pos z.1 z.2 (backTo pos (starEach [] X.env)) (backToKw pos (keywordEach [] X.env))) := by rfl) :
    PE X (.Call (.Attribute o m apos) [] [] pos) (tD X k m W ta tNil) := by
  refine ⟨fun pins s σ H Q I h => PySem.W.methodCall_KW (pl := pl) (thn (he.run pins s σ H _ I h) fun u s1 ⟨x, H1, I1, rx, a, C, dx, fs, f, sp, ex, ea, l, c, hm, F, q⟩ => ?_) ht⟩
  subst ex
  obtain rfl : u = Value.ref a := rx
  exact getmeth_ok I1 ea c hm l (PySem.W.callWith_K0 (first := [.ref a]) I1.kIn hm.kp (run_w (us := [.ref a]) (vs := [.ref a]) F hr tk I1 (.cons rfl .nil) q))
/-- e(..), e gives a def of the text -/
def tV (X : Cx) (k : Nat) (W : WX) (ta : TE) (t : TA) : TE := fun σ H Q => ta σ H fun x H1 => ∃ f sp, x = .ref f ∧ PySem.W.keepIn X.K (.ref f) = true ∧ FnR X.prog X.w X.K X.mg X.base (L2.CX X.prog X.w) k f sp ∧ t σ H1 fun vs H2 => sp vs H2 Q (WE W σ)
theorem pe_v {o e : Expr} {es : List Expr} {ta : TE} {t : TA} {pos : Pos} (hr : Room k X.A) (tk : Takes X W) (ho : PE X o ta) (ha : PA X (e :: es) t)
    (hst : starEach (e :: es) X.env = (false, eval e X.env) :: starEach es X.env := by rfl) (hpl : (backTo pos (starEach es X.env)).any (·.1) = false := by rfl)
    (ht : eval (.Call o (e :: es) [] pos) X.env = (eval o X.env >>= fun f => callWith pos f [] (backTo pos (starEach (e :: es) X.env)) (backToKw pos (keywordEach [] X.env))) := by rfl) :
    PE X (.Call o (e :: es) [] pos) (tV X k W ta t) := by
  refine ⟨fun pins s σ H Q I h => Call_ (thn (ho.run pins s σ H _ I h) fun u s1 ⟨x, H1, I1, rx, f, sp, ex, hk, F, q⟩ => ?_) ht⟩
  subst ex
  obtain rfl : u = Value.ref f := rx
  exact PySem.W.callWith_K (h₀ := X.base) I.ok.mod.kin hk (thn (ha.run pos pins s1 σ H1 _ I1 q) fun us s2 ⟨vs, H2, I2, r, q2⟩ => ⟨I2.kIn, run_w F hr tk I2 r q2⟩) hst hpl
/-- C.m(..), C a class that is read plainly, m its def -/
structure Cin (K : PySem.W.Frag) (C : Addr) (m : Str) (f : Addr) : Prop where
  rd : PySem.W.readsIn K C (.type "type") = true
  ga : PySem.W.specialIn K (.ref C) "__getattribute__" = some (some (.builtin "type.__getattribute__"))
  at_ : PySem.W.findCls K (.ref C) (.type "type") m = some (.val (.ref f))
  kp : PySem.W.keepIn K (.ref f) = true
theorem pe_cm {C : Addr} {m : Str} {o e : Expr} {es : List Expr} {t : TA} {apos pos : Pos} {pl : Sem Bool} (F : FnR X.prog X.w X.K X.mg X.base (L2.CX X.prog X.w) k f sp) (hr : Room k X.A) (c : Cin X.K C m f) (tk : Takes X W)
    (he : PE X o (tC (.ref C))) (ha : PA X (e :: es) t)
    (hst : starEach (e :: es) X.env = (false, eval e X.env) :: starEach es X.env := by rfl) (hpl : (backTo pos (starEach es X.env)).any (·.1) = false := by rfl)
    (ht : eval (.Call (.Attribute o m apos) (e :: es) [] pos) X.env = (eval o X.env >>= fun ov => standAt apos.atName >>= fun _ => holding [ov] (getMethod ov m pl) >>= fun z =>
      callWith pos z.1 z.2 (backTo pos (starEach (e :: es) X.env)) (backToKw pos (keywordEach [] X.env))) := by rfl) :
    PE X (.Call (.Attribute o m apos) (e :: es) [] pos) (tW sp W t) := by
  refine ⟨fun pins s σ H Q I h => PySem.W.methodCall_KW (pl := pl) (thn (he.run pins s σ H (fun x H1 => x = .ref C ∧ H1 = H) I ⟨rfl, rfl⟩) fun u s1 ⟨x, H1, I1, rx, ex, eh⟩ => ?_) ht⟩
  subst ex
  rw [eh] at I1
  obtain rfl : u = Value.ref C := rx
  refine PySem.W.method_cls I1.kIn c.ga (PySem.W.cls_value I1.kIn c.rd c.at_ rfl ?_)
  have I2 := I1.tok (s1.toks + 1)
  exact PySem.W.callWith_K (first := []) (h₀ := X.base) I.ok.mod.kin c.kp (thn (ha.run pos pins _ σ H _ I2 h) fun us s2 ⟨vs, H2, I3, r, q2⟩ => ⟨I3.kIn, run_w F hr tk I3 r q2⟩) hst hpl
/-- a class that can be made, its __init__ lets nothing out -/
structure MkR (P : Program) (w : World) (K : PySem.W.Frag) (mg : Str → Option Value) (base : Heap) (k : Nat) (C : Addr) (sp : Sp) : Prop where
  ex : ∃ f fd ps, Mk K C f ∧ FnOk P w K mg base (L2.CX P w) k f fd ps sp ∧ Binds K fd ps []
def tMk (C : Addr) (sp : Sp) (t : TA) : TE := fun σ H Q => t σ H fun vs H1 => ∀ x dx, H1 x = none → H1 dx = none → dx ≠ x →
  sp (.ref x :: vs) (upd (upd H1 dx (.own x)) x (.ins C dx [])) (fun v H2 => v = .non ∧ Q (.ref x) H2) E0
theorem pe_mk {C : Addr} {x : Str} {p pos : Pos} {e : Expr} {es : List Expr} {t : TA} (M : MkR X.prog X.w X.K X.mg X.base k C sp) (hr : Room (k + 1) X.A) (hg : Gl X x) (hm : X.mg x = some (.ref C)) (ha : PA X (e :: es) t)
    (hdb : (x == ("__debug__" : Str)) = false := by decide) (he : starEach (e :: es) X.env = (false, eval e X.env) :: starEach es X.env := by rfl) (hpl : (backTo pos (starEach es X.env)).any (·.1) = false := by rfl) :
    PE X (.Call (.Name x p) (e :: es) [] pos) (tMk C sp t) := by
  obtain ⟨f, fd, ps, m, F, b⟩ := M.ex
  refine ⟨fun pins s σ H Q I h => ?_⟩
  refine (pe_make m F hr hg hm b .nil passL ha hdb he hpl).run pins s σ H Q I ?_
  have e0 : (fun (vs : List V) (H1 : Hp) => ∀ x dx, H1 x = none → H1 dx = none → dx ≠ x → sp (.ref x :: (vs ++ [])) (upd (upd H1 dx (.own x)) x (.ins C dx [])) (fun v H2 => v = .non ∧ Q (.ref x) H2) E0) =
      fun vs H1 => ∀ x dx, H1 x = none → H1 dx = none → dx ≠ x → sp (.ref x :: vs) (upd (upd H1 dx (.own x)) x (.ins C dx [])) (fun v H2 => v = .non ∧ Q (.ref x) H2) E0 := by
    funext vs H1
    rw [List.append_nil]
  show t σ H _
  rw [e0]
  exact h
theorem pe_mk0 {C : Addr} {x : Str} {p pos : Pos} (M : MkR X.prog X.w X.K X.mg X.base k C sp) (hr : Room (k + 1) X.A) (hg : Gl X x) (hm : X.mg x = some (.ref C)) (hdb : (x == ("__debug__" : Str)) = false := by decide) :
    PE X (.Call (.Name x p) [] [] pos) (tMk C sp tNil) := by
  obtain ⟨f, fd, ps, m, F, b⟩ := M.ex
  exact ⟨fun pins s σ H Q I h => (pe_make0 m F hr hg hm b .nil passL hdb).run pins s σ H Q I h⟩
end
/-! ### a def's body -/
section
variable {P : Program} {w : World} {K : PySem.W.Frag} {mg : Str → Option Value} {base : Heap}
theorem tkd {N : List Str} {qual : Str} {sc : Scope} {f : Addr} {cd : Value} {A : Around} {outer : List Env} {s : Shared} {H : Hp} {E : XK} :
    Takes (cxOf (L2.CX P w) P w K mg base N qual sc f cd A outer s H E) (fun cls d _ H' => E cls d H') := takes_of rfl rfl rfl rfl
theorem pod {N : List Str} {qual : Str} {sc : Scope} {f : Addr} {cd : Value} {A : Around} {outer : List Env} {s : Shared} {H : Hp} {E : XK} :
    PassesOwn (model (cxOf (L2.CX P w) P w K mg base N qual sc f cd A outer s H E).prog (cxOf (L2.CX P w) P w K mg base N qual sc f cd A outer s H E).w) (cxOf (L2.CX P w) P w K mg base N qual sc f cd A outer s H E).A
      (cxOf (L2.CX P w) P w K mg base N qual sc f cd A outer s H E).env (cxOf (L2.CX P w) P w K mg base N qual sc f cd A outer s H E).xe := passes_of (K := fun e s' => L2.CX P w outer H s E e s') rfl
theorem mkF {x qual : Str} {st : Stmt} {f : Addr} {N ps : List Str} {k : Nat} {sp : Sp} (F : ∃ fd, FunD K x qual (defArgs st) (defBody st) (defScope st) [] [] f fd) (S : FnScope N ps (defScope st))
    (bd : ∀ (kV doc pm : Value) (an : Option Addr) (cdv ct : Value) (us : List Value), us.length = ps.length → bindArgs (PySem.W.fnOf x qual (defArgs st) (defBody st) (defScope st) .none kV doc pm an cdv ct) ⟨us, []⟩ = pure (ps.zip us))
    (len : ∀ vs H Q E, sp vs H Q E → vs.length = ps.length)
    (hbody : ∀ (cdv : Value) (A : Around) (outer : List Env) (s : Shared) (H : Hp) (vs : List V) (Q : VK) (E : XK), Room k (A.deeper (envOfC qual (defScope st) s.heap.objs.size f cdv)) → sp vs H Q E →
      ∃ t, PSs (cxOf (L2.CX P w) P w K mg base N qual (defScope st) f cdv A outer s H E) (defBody st) t ∧ t { nx := fun _ H' => Q .non H', rt := Q } (start N vs) H) :
    FnR P w K mg base (L2.CX P w) (k + 1) f sp := by
  obtain ⟨fd, F⟩ := F
  have b := F.bindsN bd
  have o : FnOk P w K mg base (L2.CX P w) (k + 1) f fd ps sp := F.ok S len hbody
  have r := o.raw b .nil
  exact r.imp fun vs H Q E h => by rw [List.append_nil]; exact h
/-- for a class's __init__ -/
theorem mkI {C : Addr} {x qual : Str} {st : Stmt} {f : Addr} {N ps : List Str} {k : Nat} {sp : Sp} (M : Mk K C f) (F : ∃ fd, FunD K x qual (defArgs st) (defBody st) (defScope st) [] [] f fd) (S : FnScope N ps (defScope st))
    (bd : ∀ (kV doc pm : Value) (an : Option Addr) (cdv ct : Value) (us : List Value), us.length = ps.length → bindArgs (PySem.W.fnOf x qual (defArgs st) (defBody st) (defScope st) .none kV doc pm an cdv ct) ⟨us, []⟩ = pure (ps.zip us))
    (len : ∀ vs H Q E, sp vs H Q E → vs.length = ps.length)
    (hbody : ∀ (cdv : Value) (A : Around) (outer : List Env) (s : Shared) (H : Hp) (vs : List V) (Q : VK) (E : XK), Room k (A.deeper (envOfC qual (defScope st) s.heap.objs.size f cdv)) → sp vs H Q E →
      ∃ t, PSs (cxOf (L2.CX P w) P w K mg base N qual (defScope st) f cdv A outer s H E) (defBody st) t ∧ t { nx := fun _ H' => Q .non H', rt := Q } (start N vs) H) :
    MkR P w K mg base (k + 1) C sp := by
  obtain ⟨fd, F⟩ := F
  exact ⟨f, fd, ps, M, F.ok S len hbody, F.bindsN bd⟩
end
/-! ### reading a field; constants of the module -/
def FldAt (K : PySem.W.Frag) (H : Hp) (x : V) (f : Str) (v : V) : Prop := ∃ a C dx fs, x = .ref a ∧ H a = some (.ins C dx fs) ∧ Cls K C ∧ NoAttr K C f ∧ fs.lookup f = some v
def tFd (K : PySem.W.Frag) (ta : TE) (f : Str) : TE := fun σ H Q => ta σ H fun x H1 => ∃ v, FldAt K H1 x f v ∧ Q v H1
section
variable {X : Cx}
theorem pe_fd {e : Expr} {f : Str} {pos : Pos} {ta : TE} (he : PE X e ta) (hb : attributeBase e f X.env (eval e X.env) = eval e X.env := by rfl) : PE X (.Attribute e f pos) (tFd X.K ta f) := by
  refine ⟨fun pins s σ H Q I h => attr_of hb (thn (he.run pins s σ H _ I h) fun u s1 ⟨x, H1, I1, rx, v, ⟨a, C, dx, fs, ex, ea, c, n, l⟩, q⟩ => ?_)⟩
  subst ex
  obtain rfl : u = Value.ref a := rx
  exact getattr_ok I1 ea c n l fun u' s2 I2 ru => ⟨v, H1, I2, ru, q⟩
theorem pe_ci {x : Str} {i : Int} {pos : Pos} (hg : Gl X x) (hm : ∃ t, X.mg x = some (.int i t)) (hd : (x == ("__debug__" : Str)) = false := by decide) : PE X (.Name x pos) (tC (.int i)) := by
  obtain ⟨t, hm⟩ := hm
  exact pe_glob hg hm ⟨t, rfl⟩ hd
theorem pe_cf {x : Str} {a : Addr} {pos : Pos} (hg : Gl X x) (hm : X.mg x = some (.ref a)) (hd : (x == ("__debug__" : Str)) = false := by decide) : PE X (.Name x pos) (tC (.ref a)) := pe_glob hg hm rfl hd
end
end Pk
end
/-! PkModel -/
section
set_option maxHeartbeats 2000000
namespace Pk
open PySem PySem.Spec PyProof.Rows L2
/-! ### heaps: what stays -/
/-- no table of code objects -/
def nt (o : HO) : Prop := ∀ ps, o ≠ .tbl ps
/-- an object of data -/
def Pl : HO → Prop
  | .lst _ => True
  | .tup _ => True
  | .dK _ => True
  | .ins _ _ _ => True
  | .own _ => True
  | _ => False
theorem Pl.nt {o : HO} (h : Pl o) : nt o := by
  intro ps e
  rw [e] at h
  exact h
theorem Pl.ncode {o : HO} {c : Addr} {q : Str} (h : Pl o) : o ≠ LamX.CodeO c q := by
  intro e
  rw [e] at h
  exact h
abbrev NTab := Addr
/-- the lambdas' names by the place where they stand -/
def nmL : Nat → Nat → Str := fun l _ => if l = 83 then "can.<locals>.<lambda>" else if l = 126 then "could.<locals>.<lambda>" else "might_have.<locals>.<lambda>"
def TbN (T : List NTab) (H : Hp) : Prop := ∀ P, P ∈ T → NdefX.TabN H P nmL
theorem TbN.ext {T : List NTab} {H H' : Hp} (t : TbN T H) (e : ∀ b o, H b = some o → H' b = some o) : TbN T H' := fun P hP => (t P hP).ext e
structure Al (H H' : Hp) : Prop where
  keep : ∀ b o, H b = some o → nt o → H' b = some o
  tabs : ∀ T : List NTab, TbN T H → TbN T H'
theorem Al.refl (H : Hp) : Al H H := ⟨fun _ _ h _ => h, fun _ h => h⟩
theorem Al.trans {H H1 H2 : Hp} (a : Al H H1) (b : Al H1 H2) : Al H H2 := ⟨fun c o h n => b.keep c o (a.keep c o h n) n, fun T h => b.tabs T (a.tabs T h)⟩
theorem Al.of {H H' : Hp} (s : ∀ b o, H b = some o → H' b = some o) : Al H H' := ⟨fun b o h _ => s b o h, fun _ t => t.ext s⟩
theorem Al.new {H : Hp} {p : Addr} {o : HO} (h : H p = none) : Al H (upd H p o) := Al.of fun b u e => by rw [upd_ne (ne_of_none e h)]; exact e
theorem Al.newT {H H1 : Hp} {p : Addr} {o : HO} (a : Al H H1) (h : H1 p = none) : Al H (upd H1 p o) := a.trans (.new h)
theorem tabsN_upd0 {T : List NTab} {H : Hp} {a : Addr} {o o' : HO} (t : TbN T H) (h : H a = some o) (n1 : nt o) (n2 : ∀ c q, o ≠ LamX.CodeO c q) : TbN T (upd H a o') := fun p hp => by
  obtain ⟨ps, e1, e2, e3⟩ := t p hp
  have na : p ≠ a := fun z => by
    rw [z, h] at e1
    exact n1 ps (Option.some.inj e1)
  refine ⟨ps, by rw [upd_ne na]; exact e1, e2, fun pos cv hc => ?_⟩
  obtain ⟨c, c1, c2⟩ := e3 pos cv hc
  refine ⟨c, c1, ?_⟩
  have nc : c ≠ a := fun z => by
    rw [z, h] at c2
    exact n2 _ _ (Option.some.inj c2)
  rw [upd_ne nc]
  exact c2
theorem tabsN_upd {T : List NTab} {H : Hp} {a : Addr} {o o' : HO} (t : TbN T H) (h : H a = some o) (pl : Pl o) : TbN T (upd H a o') := tabsN_upd0 t h pl.nt fun _ _ => pl.ncode
/-- an object made since is changed -/
theorem Al.set {H H1 : Hp} {a : Addr} {o o' : HO} (l : Al H H1) (hn : H a = none) (h : H1 a = some o) (pl : Pl o) : Al H (upd H1 a o') :=
  ⟨fun b u e n => by rw [upd_ne (ne_of_none e hn)]; exact l.keep b u e n, fun T t => tabsN_upd (l.tabs T t) h pl⟩
theorem Al.free {H H1 : Hp} {a : Addr} (l : Al H H1) (h : H1 a = none) : ∀ o, nt o → H a ≠ some o := fun o n e => by
  have := l.keep a o e n
  rw [h] at this
  cases this
theorem Al.ne {H H1 : Hp} {a b : Addr} {o : HO} (l : Al H H1) (h : H1 a = none) (e : H b = some o) (pl : Pl o) : b ≠ a := fun z => l.free h o pl.nt (by rw [← z]; exact e)
/-! ### the model -/
structure Hd where
  thing : Nat
  rights : Nat
  giver : Option Nat
  holder : Str
structure Tk where
  maker : Str
  runs : Bool
  rows : List (Option Nat)
structure Lt where
  at_ : Addr
  parts : List Nat
inductive Th where
  | cell
  | line
  | door (ls : List Lt)
  | post (nm : Str) (runs : Bool)
structure Mo where
  k : Addr
  tr : Addr
  rw : Addr
  rb : Addr
  ta : Addr
  kn : Addr
  th : Addr
  ever : Nat
  keys : List Nat
  row : Nat → Hd
  ha : Nat → Addr
  ka : Nat → Addr
  kids : Nat → List Nat
  dep : Nat → Nat
  names : List Str
  task : Str → Tk
  tka : Str → Addr
  tsa : Str → Addr
  nth : Nat
  thg : Nat → Th
  tha : Nat → Addr
  thb : Nat → Addr
inductive Ro where
  | k | tr | rw | rb | ta | kn | th
  | hnd (n : Nat) | kid (n : Nat) | tsk (s : Str) | tsl (s : Str) | thg (n : Nat) | sub (n : Nat)
/-! fields -/
def oV : Option Nat → V
  | none => .non
  | some n => .int (n : Int)
def nV (n : Nat) : V := .int (n : Int)
def kF (tr ta th : Addr) : List (Str × V) := [(("tree" : Str), V.ref tr), (("tasks" : Str), V.ref ta), (("things" : Str), V.ref th)]
def trF (ever : Nat) (rw rb : Addr) : List (Str × V) := [(("ever" : Str), nV ever), (("rows" : Str), V.ref rw), (("right_below" : Str), V.ref rb)]
def taF (kn : Addr) : List (Str × V) := [(("known" : Str), V.ref kn)]
def hF (n : Nat) (h : Hd) : List (Str × V) := [(("number" : Str), nV n), (("thing" : Str), nV h.thing), (("rights" : Str), nV h.rights), (("giver" : Str), oV h.giver), (("holder" : Str), V.str h.holder)]
def tkF (t : Tk) (sa : Addr) : List (Str × V) := [(("maker" : Str), V.str t.maker), (("runs" : Str), V.bl t.runs), (("rows" : Str), V.ref sa)]
def thF (n : Nat) (t : Th) (sub : Addr) : List (Str × V) := match t with
  | .cell => [(("number" : Str), nV n), (("amount" : Str), V.int 0)]
  | .line => [(("number" : Str), nV n), (("row" : Str), V.ref sub)]
  | .door _ => [(("number" : Str), nV n), (("waiting" : Str), V.ref sub)]
  | .post nm r => [(("number" : Str), nV n), (("name" : Str), V.str nm), (("runs" : Str), V.bl r)]
def ltF (ws : Str) (pt : Addr) : List (Str × V) := [(("words" : Str), V.str ws), (("parts" : Str), V.ref pt)]
theorem lk0 {k : Str} {v : V} {r : List (Str × V)} : List.lookup k ((k, v) :: r) = some v := by
  have e : (k == k) = true := beq_self_eq_true k
  simp only [List.lookup, e]
theorem lkS {k g : Str} {v : V} {r : List (Str × V)} {o : Option V} (n : (k == g) = false) (h : List.lookup k r = o) : List.lookup k ((g, v) :: r) = o := by
  simp only [List.lookup, n]
  exact h
theorem lkN {k : Str} : List.lookup k ([] : List (Str × V)) = none := rfl
def thC (K : PySem.W.Frag) : Th → Addr
  | .cell => He.ga K "Cell"
  | .line => He.ga K "Line"
  | .door _ => He.ga K "Door"
  | .post _ _ => He.ga K "Post"
def isI (C : Addr) (fs : List (Str × V)) : HO → Prop := fun o => ∃ dx, o = .ins C dx fs
def rowsD (ks : List Nat) (ad : Nat → Addr) : List (Key × V) := ks.map fun (n : Nat) => ((Sum.inl (n : Int) : Key), V.ref (ad n))
def knD (ns : List Str) (ad : Str → Addr) : List (Key × V) := ns.map fun (s : Str) => ((Sum.inr s : Key), V.ref (ad s))
def Mo.cell (K : PySem.W.Frag) (m : Mo) : Ro → Option (Addr × (HO → Prop))
  | .k => some (m.k, isI (He.ga K "Kernel") (kF m.tr m.ta m.th))
  | .tr => some (m.tr, isI (He.ga K "Tree") (trF m.ever m.rw m.rb))
  | .rw => some (m.rw, fun o => o = .dK (rowsD m.keys m.ha))
  | .rb => some (m.rb, fun o => o = .dK (rowsD m.keys m.ka))
  | .ta => some (m.ta, isI (He.ga K "Tasks") (taF m.kn))
  | .kn => some (m.kn, fun o => o = .dK (knD m.names m.tka) ∨ ∃ ob, o = .frz ob (.dK (knD m.names m.tka)))
  | .th => some (m.th, fun o => o = .dK (rowsD (List.range m.nth) m.tha) ∨ ∃ ob, o = .frz ob (.dK (rowsD (List.range m.nth) m.tha)))
  | .hnd n => if n ∈ m.keys then some (m.ha n, isI (He.ga K "Handle") (hF n (m.row n))) else none
  | .kid n => if n ∈ m.keys then some (m.ka n, fun o => o = .lst ((m.kids n).map nV)) else none
  | .tsk s => if s ∈ m.names then some (m.tka s, isI (He.ga K "Task") (tkF (m.task s) (m.tsa s))) else none
  | .tsl s => if s ∈ m.names then some (m.tsa s, fun o => o = .lst ((m.task s).rows.map oV)) else none
  | .thg i => if i < m.nth then some (m.tha i, isI (thC K (m.thg i)) (thF i (m.thg i) (m.thb i))) else none
  | .sub i => if i < m.nth then match m.thg i with
      | .line => some (m.thb i, fun o => o = .lst [])
      | .door ls => some (m.thb i, fun o => o = .lst (ls.map fun l => V.ref l.at_))
      | _ => none
    else none
abbrev Tag := Addr → Option Ro
def tset (tg : Tag) (p : Addr) (r : Ro) : Tag := fun b => if b = p then some r else tg b
/-- a letter that stands -/
def LtOk (K : PySem.W.Frag) (H : Hp) (tg : Tag) (l : Lt) : Prop := ∃ dx ws pt, H l.at_ = some (.ins (He.ga K "Letter") dx (ltF ws pt)) ∧ H pt = some (.tup (l.parts.map nV)) ∧ tg l.at_ = none ∧ tg pt = none
structure Rep (K : PySem.W.Frag) (H : Hp) (tg : Tag) (m : Mo) : Prop where
  cell : ∀ r a φ, m.cell K r = some (a, φ) → tg a = some r ∧ ∃ o, H a = some o ∧ φ o
  lets : ∀ i ls, i < m.nth → m.thg i = .door ls → ∀ l ∈ ls, LtOk K H tg l
/-- what a change of the kernel leaves -/
structure Stp (H : Hp) (tg : Tag) (H' : Hp) (tg' : Tag) : Prop where
  keep : ∀ b o, H b = some o → nt o → tg b = none → H' b = some o
  tag : ∀ b o, H b = some o → nt o → tg b = none → tg' b = none
  tabs : ∀ T : List NTab, TbN T H → TbN T H'
section
variable {K : PySem.W.Frag} {H H1 H2 H' : Hp} {tg tg1 tg2 tg' : Tag} {m m' : Mo}
theorem cellPl {r : Ro} {a : Addr} {φ : HO → Prop} (h : m.cell K r = some (a, φ)) (o : HO) (q : φ o) : nt o := by
  have hI : ∀ {C fs}, isI C fs o → nt o := fun ⟨dx, e⟩ => by rw [e]; exact Pl.nt (o := .ins _ _ _) trivial
  cases r <;> simp only [Mo.cell] at h
  all_goals (try split at h)
  all_goals (try split at h)
  all_goals first
    | (cases h; exact hI q)
    | (cases h; rw [show o = _ from q]; exact Pl.nt (o := .lst _) trivial)
    | (cases h; rw [show o = _ from q]; exact Pl.nt (o := .dK _) trivial)
    | (cases h; rcases q with e | ⟨ob, e⟩ <;> (rw [e]; intro ps z; cases z))
    | (cases h; done)
theorem Stp.refl : Stp H tg H tg := ⟨fun _ _ h _ _ => h, fun _ _ _ _ h => h, fun _ h => h⟩
theorem Stp.trans (a : Stp H tg H1 tg1) (b : Stp H1 tg1 H2 tg2) : Stp H tg H2 tg2 :=
  ⟨fun c o h n t => b.keep c o (a.keep c o h n t) n (a.tag c o h n t), fun c o h n t => b.tag c o (a.keep c o h n t) n (a.tag c o h n t), fun T h => b.tabs T (a.tabs T h)⟩
theorem Stp.al (a : Al H H') : Stp H tg H' tg := ⟨fun b o h n _ => a.keep b o h n, fun _ _ _ _ h => h, a.tabs⟩
theorem Stp.upd {a : Addr} {o o' : HO} {r : Ro} (h : H a = some o) (pl : Pl o) (t : tg a = some r) : Stp H tg (upd H a o') tg :=
  ⟨fun b u e _ n => by
    have nb : b ≠ a := fun z => by rw [z, t] at n; cases n
    rw [upd_ne nb]; exact e, fun _ _ _ _ n => n, fun T q => tabsN_upd q h pl⟩
theorem tset_same {p : Addr} {r : Ro} : tset tg p r p = some r := if_pos rfl
theorem tset_ne {p b : Addr} {r : Ro} (h : b ≠ p) : tset tg p r b = tg b := if_neg h
/-- a tag for an object made since -/
theorem Stp.adopt {x : Addr} {r : Ro} (s : Stp H tg H1 tg1) (h : H x = none) : Stp H tg H1 (tset tg1 x r) :=
  ⟨s.keep, fun b o e n t => by rw [tset_ne (ne_of_none e h)]; exact s.tag b o e n t, s.tabs⟩
theorem LtOk.al {l : Lt} (h : LtOk K H tg l) (a : Al H H') : LtOk K H' tg l := by
  obtain ⟨dx, ws, pt, e1, e2, t1, t2⟩ := h
  exact ⟨dx, ws, pt, a.keep _ _ e1 (Pl.nt (o := .ins _ _ _) trivial), a.keep _ _ e2 (Pl.nt (o := .tup _) trivial), t1, t2⟩
theorem LtOk.stp {l : Lt} (h : LtOk K H tg l) (a : Stp H tg H' tg') : LtOk K H' tg' l := by
  obtain ⟨dx, ws, pt, e1, e2, t1, t2⟩ := h
  have n1 : nt (.ins (He.ga K "Letter") dx (ltF ws pt)) := Pl.nt (o := .ins _ _ _) trivial
  have n2 : nt (.tup (l.parts.map nV)) := Pl.nt (o := .tup _) trivial
  exact ⟨dx, ws, pt, a.keep _ _ e1 n1 t1, a.keep _ _ e2 n2 t2, a.tag _ _ e1 n1 t1, a.tag _ _ e2 n2 t2⟩
theorem Rep.al (R : Rep K H tg m) (a : Al H H') : Rep K H' tg m := by
  refine ⟨fun r b φ h => ?_, fun i ls hi e l hl => (R.lets i ls hi e l hl).al a⟩
  obtain ⟨t, o, ho, q⟩ := R.cell r b φ h
  exact ⟨t, o, a.keep b o ho (cellPl h o q), q⟩
/-- the object of one role is changed -/
theorem Rep.upd {r : Ro} {a : Addr} {φ φ' : HO → Prop} {o : HO} (R : Rep K H tg m) (h0 : m.cell K r = some (a, φ)) (h1 : m'.cell K r = some (a, φ')) (ho : φ' o)
    (hm : ∀ r', r' ≠ r → ∀ x, m'.cell K r' = some x → m.cell K r' = some x) (hl : ∀ i ls, i < m'.nth → m'.thg i = .door ls → ∀ l ∈ ls, LtOk K (upd H a o) tg l) : Rep K (upd H a o) tg m' := by
  have ta := (R.cell r a φ h0).1
  refine ⟨fun r' b ψ h => ?_, hl⟩
  by_cases hr : r' = r
  · subst hr
    rw [h1] at h
    cases h
    exact ⟨ta, o, upd_same, ho⟩
  · obtain ⟨t, u, hu, q⟩ := R.cell r' b ψ (hm r' hr _ h)
    have nb : b ≠ a := fun z => by
      rw [z, ta] at t
      exact hr (Option.some.inj t).symm
    exact ⟨t, u, by rw [upd_ne nb]; exact hu, q⟩
/-- an object takes a role -/
theorem Rep.adopt {r : Ro} {x : Addr} {φ' : HO → Prop} {o : HO} (R : Rep K H tg m) (hx : H x = some o) (ho : φ' o) (hf : ∀ r' ψ, m.cell K r' ≠ some (x, ψ)) (h1 : m'.cell K r = some (x, φ'))
    (hm : ∀ r', r' ≠ r → ∀ y, m'.cell K r' = some y → m.cell K r' = some y) (hl : ∀ i ls, i < m'.nth → m'.thg i = .door ls → ∀ l ∈ ls, LtOk K H (tset tg x r) l) : Rep K H (tset tg x r) m' := by
  refine ⟨fun r' b ψ h => ?_, hl⟩
  by_cases hr : r' = r
  · subst hr
    rw [h1] at h
    cases h
    exact ⟨tset_same, o, hx, ho⟩
  · have h2 := hm r' hr _ h
    obtain ⟨t, u, hu, q⟩ := R.cell r' b ψ h2
    have nb : b ≠ x := fun z => hf r' ψ (by rw [← z]; exact h2)
    exact ⟨by rw [tset_ne nb]; exact t, u, hu, q⟩
/-- roles are given up -/
theorem Rep.sub (R : Rep K H tg m) (hm : ∀ r x, m'.cell K r = some x → m.cell K r = some x) (hl : ∀ i ls, i < m'.nth → m'.thg i = .door ls → ∀ l ∈ ls, LtOk K H tg l) : Rep K H tg m' :=
  ⟨fun r a φ h => R.cell r a φ (hm r _ h), hl⟩
/-- an address that was free when the kernel stood has no role -/
theorem Rep.fresh {x : Addr} (R : Rep K H tg m) (h : H x = none) : ∀ r ψ, m.cell K r ≠ some (x, ψ) := fun r ψ e => by
  obtain ⟨_, o, ho, _⟩ := R.cell r x ψ e
  rw [h] at ho
  cases ho
end
/-! ### reading the kernel -/
/-- a handle's object, kept or not -/
def HdAt (K : PySem.W.Frag) (H : Hp) (x : Addr) (n : Nat) (h : Hd) : Prop := ∃ dx, H x = some (.ins (He.ga K "Handle") dx (hF n h))
section
variable {K : PySem.W.Frag} {mg : Str → Option Value} {base : Heap} {H : Hp} {tg : Tag} {m : Mo}
theorem Rep.k (R : Rep K H tg m) : ∃ dx, H m.k = some (.ins (He.ga K "Kernel") dx (kF m.tr m.ta m.th)) := by
  obtain ⟨_, o, ho, dx, e⟩ := R.cell .k _ _ rfl
  exact ⟨dx, by rw [ho, e]⟩
theorem Rep.tr (R : Rep K H tg m) : ∃ dx, H m.tr = some (.ins (He.ga K "Tree") dx (trF m.ever m.rw m.rb)) := by
  obtain ⟨_, o, ho, dx, e⟩ := R.cell .tr _ _ rfl
  exact ⟨dx, by rw [ho, e]⟩
theorem Rep.ta (R : Rep K H tg m) : ∃ dx, H m.ta = some (.ins (He.ga K "Tasks") dx (taF m.kn)) := by
  obtain ⟨_, o, ho, dx, e⟩ := R.cell .ta _ _ rfl
  exact ⟨dx, by rw [ho, e]⟩
theorem Rep.rw (R : Rep K H tg m) : H m.rw = some (.dK (rowsD m.keys m.ha)) := by
  obtain ⟨_, o, ho, e⟩ := R.cell .rw _ _ rfl
  rw [ho, show o = _ from e]
theorem Rep.rb (R : Rep K H tg m) : H m.rb = some (.dK (rowsD m.keys m.ka)) := by
  obtain ⟨_, o, ho, e⟩ := R.cell .rb _ _ rfl
  rw [ho, show o = _ from e]
theorem Rep.th (R : Rep K H tg m) : Rd H m.th (.dK (rowsD (List.range m.nth) m.tha)) := by
  obtain ⟨_, o, ho, e⟩ := R.cell .th _ _ rfl
  rcases e with e | ⟨ob, e⟩
  · exact .inl (by rw [ho, e])
  · exact .inr ⟨ob, by rw [ho, e]⟩
theorem Rep.kn (R : Rep K H tg m) : Rd H m.kn (.dK (knD m.names m.tka)) := by
  obtain ⟨_, o, ho, e⟩ := R.cell .kn _ _ rfl
  rcases e with e | ⟨ob, e⟩
  · exact .inl (by rw [ho, e])
  · exact .inr ⟨ob, by rw [ho, e]⟩
theorem Rep.hnd (R : Rep K H tg m) {n : Nat} (h : n ∈ m.keys) : ∃ dx, H (m.ha n) = some (.ins (He.ga K "Handle") dx (hF n (m.row n))) := by
  obtain ⟨_, o, ho, dx, e⟩ := R.cell (.hnd n) _ _ (if_pos h)
  exact ⟨dx, by rw [ho, e]⟩
theorem Rep.kid (R : Rep K H tg m) {n : Nat} (h : n ∈ m.keys) : H (m.ka n) = some (.lst ((m.kids n).map nV)) := by
  obtain ⟨_, o, ho, e⟩ := R.cell (.kid n) _ _ (if_pos h)
  rw [ho, show o = _ from e]
theorem Rep.tsk (R : Rep K H tg m) {s : Str} (h : s ∈ m.names) : ∃ dx, H (m.tka s) = some (.ins (He.ga K "Task") dx (tkF (m.task s) (m.tsa s))) := by
  obtain ⟨_, o, ho, dx, e⟩ := R.cell (.tsk s) _ _ (if_pos h)
  exact ⟨dx, by rw [ho, e]⟩
theorem Rep.tsl (R : Rep K H tg m) {s : Str} (h : s ∈ m.names) : H (m.tsa s) = some (.lst ((m.task s).rows.map oV)) := by
  obtain ⟨_, o, ho, e⟩ := R.cell (.tsl s) _ _ (if_pos h)
  rw [ho, show o = _ from e]
theorem Rep.thg (R : Rep K H tg m) {i : Nat} (h : i < m.nth) : ∃ dx, H (m.tha i) = some (.ins (thC K (m.thg i)) dx (thF i (m.thg i) (m.thb i))) := by
  obtain ⟨_, o, ho, dx, e⟩ := R.cell (.thg i) _ _ (if_pos h)
  exact ⟨dx, by rw [ho, e]⟩
theorem Rep.door (R : Rep K H tg m) {i : Nat} {ls : List Lt} (h : i < m.nth) (d : m.thg i = .door ls) : H (m.thb i) = some (.lst (ls.map fun l => V.ref l.at_)) := by
  obtain ⟨_, o, ho, e⟩ := R.cell (.sub i) (m.thb i) (fun o => o = .lst (ls.map fun l => V.ref l.at_)) (by simp only [Mo.cell]; rw [if_pos h, d])
  rw [ho, show o = _ from e]
variable (G : Gx K mg base)
include G
theorem fld_k_tree (R : Rep K H tg m) : FldAt K H (.ref m.k) "tree" (.ref m.tr) := let ⟨dx, e⟩ := R.k; ⟨_, _, dx, _, rfl, e, G.cl_Kernel, G.n_Kernel_tree, lk0⟩
theorem fld_k_tasks (R : Rep K H tg m) : FldAt K H (.ref m.k) "tasks" (.ref m.ta) := let ⟨dx, e⟩ := R.k; ⟨_, _, dx, _, rfl, e, G.cl_Kernel, G.n_Kernel_tasks, lkS (by decide +kernel) lk0⟩
theorem fld_k_things (R : Rep K H tg m) : FldAt K H (.ref m.k) "things" (.ref m.th) := let ⟨dx, e⟩ := R.k; ⟨_, _, dx, _, rfl, e, G.cl_Kernel, G.n_Kernel_things, lkS (by decide +kernel) (lkS (by decide +kernel) lk0)⟩
theorem fld_tr_ever (R : Rep K H tg m) : FldAt K H (.ref m.tr) "ever" (nV m.ever) := let ⟨dx, e⟩ := R.tr; ⟨_, _, dx, _, rfl, e, G.cl_Tree, G.n_Tree_ever, lk0⟩
theorem fld_tr_rows (R : Rep K H tg m) : FldAt K H (.ref m.tr) "rows" (.ref m.rw) := let ⟨dx, e⟩ := R.tr; ⟨_, _, dx, _, rfl, e, G.cl_Tree, G.n_Tree_rows, lkS (by decide +kernel) lk0⟩
theorem fld_tr_rb (R : Rep K H tg m) : FldAt K H (.ref m.tr) "right_below" (.ref m.rb) := let ⟨dx, e⟩ := R.tr; ⟨_, _, dx, _, rfl, e, G.cl_Tree, G.n_Tree_right_below, lkS (by decide +kernel) (lkS (by decide +kernel) lk0)⟩
theorem fld_ta_known (R : Rep K H tg m) : FldAt K H (.ref m.ta) "known" (.ref m.kn) := let ⟨dx, e⟩ := R.ta; ⟨_, _, dx, _, rfl, e, G.cl_Tasks, G.n_Tasks_known, lk0⟩
variable {x : Addr} {n : Nat} {h : Hd}
theorem fld_h_number (R : HdAt K H x n h) : FldAt K H (.ref x) "number" (nV n) := let ⟨dx, e⟩ := R; ⟨_, _, dx, _, rfl, e, G.cl_Handle, G.n_Handle_number, lk0⟩
theorem fld_h_thing (R : HdAt K H x n h) : FldAt K H (.ref x) "thing" (nV h.thing) := let ⟨dx, e⟩ := R; ⟨_, _, dx, _, rfl, e, G.cl_Handle, G.n_Handle_thing, lkS (by decide +kernel) lk0⟩
theorem fld_h_rights (R : HdAt K H x n h) : FldAt K H (.ref x) "rights" (nV h.rights) := let ⟨dx, e⟩ := R; ⟨_, _, dx, _, rfl, e, G.cl_Handle, G.n_Handle_rights, lkS (by decide +kernel) (lkS (by decide +kernel) lk0)⟩
theorem fld_h_giver (R : HdAt K H x n h) : FldAt K H (.ref x) "giver" (oV h.giver) := let ⟨dx, e⟩ := R; ⟨_, _, dx, _, rfl, e, G.cl_Handle, G.n_Handle_giver, lkS (by decide +kernel) (lkS (by decide +kernel) (lkS (by decide +kernel) lk0))⟩
theorem fld_h_holder (R : HdAt K H x n h) : FldAt K H (.ref x) "holder" (.str h.holder) := let ⟨dx, e⟩ := R; ⟨_, _, dx, _, rfl, e, G.cl_Handle, G.n_Handle_holder, lkS (by decide +kernel) (lkS (by decide +kernel) (lkS (by decide +kernel) (lkS (by decide +kernel) lk0)))⟩
omit G in
theorem HdAt.al {H' : Hp} (R : HdAt K H x n h) (a : Al H H') : HdAt K H' x n h := let ⟨dx, e⟩ := R; ⟨dx, a.keep _ _ e (Pl.nt (o := .ins _ _ _) trivial)⟩
variable {s : Str}
theorem fld_t_maker (R : Rep K H tg m) (h : s ∈ m.names) : FldAt K H (.ref (m.tka s)) "maker" (.str (m.task s).maker) := let ⟨dx, e⟩ := R.tsk h; ⟨_, _, dx, _, rfl, e, G.cl_Task, G.n_Task_maker, lk0⟩
theorem fld_t_runs (R : Rep K H tg m) (h : s ∈ m.names) : FldAt K H (.ref (m.tka s)) "runs" (.bl (m.task s).runs) := let ⟨dx, e⟩ := R.tsk h; ⟨_, _, dx, _, rfl, e, G.cl_Task, G.n_Task_runs, lkS (by decide +kernel) lk0⟩
theorem fld_t_rows (R : Rep K H tg m) (h : s ∈ m.names) : FldAt K H (.ref (m.tka s)) "rows" (.ref (m.tsa s)) := let ⟨dx, e⟩ := R.tsk h; ⟨_, _, dx, _, rfl, e, G.cl_Task, G.n_Task_rows, lkS (by decide +kernel) (lkS (by decide +kernel) lk0)⟩
end
/-! the kernel's dicts -/
section
variable {K : PySem.W.Frag} {H : Hp} {tg : Tag} {m : Mo}
theorem val_rows {ks : List Nat} {ad : Nat → Addr} {n : Nat} : valV (rowsD ks ad) (Sum.inl (n : Int)) = if n ∈ ks then some (.ref (ad n)) else none := by
  induction ks with
  | nil => rfl
  | cons a r ih =>
    show valV (((Sum.inl (a : Int) : Key), V.ref (ad a)) :: rowsD r ad) _ = _
    by_cases h : a = n
    · subst h
      rw [valV_pos rfl, if_pos (List.mem_cons_self)]
    · rw [valV_neg (fun z => h (by have := Sum.inl.inj z; omega)), ih]
      simp [Ne.symm h]
theorem val_kn {ns : List Str} {ad : Str → Addr} {s : Str} : valV (knD ns ad) (Sum.inr s) = if s ∈ ns then some (.ref (ad s)) else none := by
  induction ns with
  | nil => rfl
  | cons a r ih =>
    show valV (((Sum.inr a : Key), V.ref (ad a)) :: knD r ad) _ = _
    by_cases h : a = s
    · subst h
      rw [valV_pos rfl, if_pos (List.mem_cons_self)]
    · rw [valV_neg (fun z => h (Sum.inr.inj z)), ih]
      simp [Ne.symm h]
theorem get_rw (R : Rep K H tg m) (n : Nat) : DGet H m.rw (nV n) (if n ∈ m.keys then some (.ref (m.ha n)) else none) := by
  have e := DGet.k (k := Sum.inl (n : Int)) R.rw
  rw [val_rows] at e
  exact e
theorem get_rb (R : Rep K H tg m) (n : Nat) : DGet H m.rb (nV n) (if n ∈ m.keys then some (.ref (m.ka n)) else none) := by
  have e := DGet.k (k := Sum.inl (n : Int)) R.rb
  rw [val_rows] at e
  exact e
theorem get_th (R : Rep K H tg m) (n : Nat) : DGet H m.th (nV n) (if n < m.nth then some (.ref (m.tha n)) else none) := by
  have e : valV (rowsD (List.range m.nth) m.tha) (Sum.inl (n : Int)) = _ := val_rows
  simp only [List.mem_range] at e
  exact .inl ⟨_, Sum.inl (n : Int), R.th, rfl, e.symm⟩
theorem get_kn (R : Rep K H tg m) (s : Str) : DGet H m.kn (.str s) (if s ∈ m.names then some (.ref (m.tka s)) else none) := by
  have e : valV (knD m.names m.tka) (Sum.inr s) = _ := val_kn
  exact .inl ⟨_, Sum.inr s, R.kn, rfl, e.symm⟩
end
end Pk
end
/-! PkRules2 -/
section
set_option maxHeartbeats 2000000
namespace Pk
open PySem PySem.Spec PyProof.Rows L2
/-! ### comprehensions whose parts are read in the block's own context -/
structure Zi where
  s : Shared
  H : Hp
  C : Addr
  cl : List (Str × Addr)
  fp : List Addr
theorem zI {p : Zi → Prop} (h : ∀ z, p z) : ∀ z, p z := h
def blkZ (X : Cx) (scope : Scope) (z : Zi) : Cx := X.blk z.s z.H scope (compEnvC scope z.cl z.C X.env) z.fp
/-- the comprehension from where its iterator stands -/
def LcB (J : It) (g : Zi → TG) (tt : Zi → TT) (te : Zi → TE) (vs : List Nat) (σ : St) (H1 : Hp) (Q : VK) : Prop := ∀ D, H1 D = none → ∃ W : Nat → Nat → Hp → Prop, (∃ m, W 0 m (upd H1 D (.lst []))) ∧ ∀ i m H, W i m H →
  (J.stop i H ∧ Q (.ref D) H) ∨ (J.go i H ∧ ∃ Nx : Hp → Prop, (∀ H', Nx H' → ∃ m', m' < m ∧ W (i + 1) m' H') ∧ ∀ x H', J.yld i H x H' → ∀ z, g z x (wipe σ vs) H' fun σ2 H2 => wipe σ2 vs = wipe σ vs ∧ ∀ z, tt z σ2 H2 fun b H3 =>
    if b = true then ∀ z, te z σ2 H3 fun y H4 => ∃ acc, H4 D = some (.lst acc) ∧ acc.length < sizeLine ∧ Nx (upd H4 D (.lst (acc ++ [y]))) else Nx H3)
def tLcZ (wi : TI) (g : Zi → TG) (tt : Zi → TT) (te : Zi → TE) (vs : List Nat) : TE := fun σ H Q => wi σ H fun J H1 => LcB J g tt te vs σ H1 Q
section
variable {X : Cx}
theorem pe_lcz {elt tg iter : Expr} {ifs : List Expr} {scope : Scope} {own : List (Str × Nat)} {pos : Pos} {wi : TI} {g : Zi → TG} {tt : Zi → TT} {te : Zi → TE} (hc : X.calm = true) (hN : X.N.Nodup) (hi : PI X tg iter wi) (ok : BlkOk X.N X.env.scope scope own)
    (hg : ∀ z : Zi, PG (blkZ X scope z) tg (g z)) (ht : ∀ z : Zi, PTs (blkZ X scope z) ifs (tt z)) (he : ∀ z : Zi, PE (blkZ X scope z) elt (te z)) (hs : ∀ x, foldedSetIterable iter X.env x = pure x := by intro _; rfl) :
    PE X (.ListComp elt [⟨tg, iter, ifs, 0⟩] scope pos) (tLcZ wi g tt te (own.map (·.2))) :=
  show PE X (.ListComp elt [⟨tg, iter, ifs, 0⟩] scope pos) (tLc wi (fun v σ H Q => ∀ z, g z v σ H Q) (fun σ H Q => ∀ z, tt z σ H Q) (fun σ H Q => ∀ z, te z σ H Q) (own.map (·.2))) from pe_lc hc hN hi ok (fun s H C cl fp => ⟨fun pins s' σ H' v u Q I r h => (hg ⟨s, H, C, cl, fp⟩).run pins s' σ H' v u Q I r (h _)⟩)
    (fun s H C cl fp => ⟨fun pins s' σ H' Q I h => (ht ⟨s, H, C, cl, fp⟩).run pins s' σ H' Q I (h _)⟩) (fun s H C cl fp => ⟨fun pins s' σ H' Q I h => (he ⟨s, H, C, cl, fp⟩).run pins s' σ H' Q I (h _)⟩) hs
theorem ps_setLcz {i : Nat} {y : Str} {py : Pos} {elt tg iter : Expr} {ifs : List Expr} {scope : Scope} {own : List (Str × Nat)} {pos spos : Pos} {wi : TI} {g : Zi → TG} {tt : Zi → TT} {te : Zi → TE} (hc : X.calm = true) (hN : X.N.Nodup) (hy : X.N[i]? = some y) (hyl : X.env.scope.names.lookup y = some .local)
    (hsw : swapsWith (.ListComp elt [⟨tg, iter, ifs, 0⟩] scope pos) (some (.Name y py)) spos.line X.env = pure true) (hi : PI X tg iter wi) (ok : BlkOk X.N X.env.scope scope own)
    (hg : ∀ z : Zi, PG (blkZ X scope z) tg (g z)) (ht : ∀ z : Zi, PTs (blkZ X scope z) ifs (tt z)) (he : ∀ z : Zi, PE (blkZ X scope z) elt (te z)) (hs : ∀ x, foldedSetIterable iter X.env x = pure x := by intro _; rfl) :
    PS X (.Assign [.Name y py] (.ListComp elt [⟨tg, iter, ifs, 0⟩] scope pos) spos) (tAsg (tLcZ wi g tt te (own.map (·.2))) (gName i)) :=
  show PS X (.Assign [.Name y py] (.ListComp elt [⟨tg, iter, ifs, 0⟩] scope pos) spos) (tAsg (tLc wi (fun v σ H Q => ∀ z, g z v σ H Q) (fun σ H Q => ∀ z, tt z σ H Q) (fun σ H Q => ∀ z, te z σ H Q) (own.map (·.2))) (gName i)) from ps_setLc hc hN hy hyl hsw hi ok (fun s H C cl fp => ⟨fun pins s' σ H' v u Q I r h => (hg ⟨s, H, C, cl, fp⟩).run pins s' σ H' v u Q I r (h _)⟩)
    (fun s H C cl fp => ⟨fun pins s' σ H' Q I h => (ht ⟨s, H, C, cl, fp⟩).run pins s' σ H' Q I (h _)⟩) (fun s H C cl fp => ⟨fun pins s' σ H' Q I h => (he ⟨s, H, C, cl, fp⟩).run pins s' σ H' Q I (h _)⟩) hs
end
/-! ### sorted(dict), int keys, any number -/
section
variable {X : Cx}
def rSortedDI : List V → Hp → VK → Prop := fun xs H Q => ∃ (a : Addr) (kvs : List (Key × V)) (ks : List Int), xs = [.ref a] ∧ Rd H a (.dK kvs) ∧ kvs.map (·.1) = ks.map Sum.inl ∧ ks.length ≤ 100000 ∧
    ∀ (ys : List Int) (p : Addr), ys.Perm ks → ys.Pairwise (· ≤ ·) → H p = none → Q (.ref p) (upd H p (.lst (ys.map V.int)))
theorem cr_sortedDI (hcalm : X.calm = true) : CallR X (.builtin "sorted") rSortedDI := by
  intro pins s σ H xs us Q I r q
  obtain ⟨a, kvs, ks, ex, hd, hks, h64, q⟩ := q
  subst ex
  obtain ⟨u, eu, rx⟩ := vals1 r
  subst eu
  cases rx
  obtain ⟨z, lo, vs, rel, dd⟩ := dk_rd I.hok hd
  obtain ⟨ep, hat⟩ := dd.dictAt
  have hkeys : vs.map (·.1) = ks.map Sum.inl := rel.keys.symm.trans hks
  have hl : vs.length = ks.length := by
    have e := congrArg List.length hkeys
    rw [List.length_map, List.length_map] at e
    exact e
  have h16 : vs.length ≤ sizeLine := by rw [hl, sizeLine_eq]; omega
  refine Calls.call_function_entry PyProof.Rows.kind_sorted PyProof.Rows.plain_sorted PyProof.Rows.entry_sorted (PyProof.Rows.args_sorted1 _) ?_
  unfold Builtin.«sorted»
  refine wpAny_bind (m := checkCount "sorted" 1 1 _) (wpAny_pure ?_)
  refine wpAny_bind (PySem.W.kdu_collect (A := X.A.in1) (PySem.W.kdl_dict (knd := mixKind X.prog X.w) (kvs := vs) (ep := ep) lo) (I.ok.hd hcalm) hat h16 fun h' tk acc hk hacc => ?_)
  have hal : acc.toList.length = ks.length := by rw [Array.length_toList, hacc.1, hl]
  have hS : IntsAre acc.toList ks := ints_each hal fun j v e => by
    obtain ⟨k, x, e1, e2⟩ := hacc.2 j v (by rw [← Array.getElem?_toList]; exact e)
    have e3 : (vs.map (·.1))[j]? = some k := by rw [List.getElem?_map, e1]; rfl
    rw [hkeys, List.getElem?_map] at e3
    cases e4 : ks[j]? with
    | none => rw [e4] at e3; cases e3
    | some y =>
      rw [e4] at e3
      have e5 : Sum.inl y = k := Option.some.inj e3
      subst e5
      rcases keyIs_shape (show keyIs (Sum.inl y) v = true from e2) with ⟨i, t, ek, ev⟩ | ⟨z, t, ek, ev⟩
      · cases ek
        exact ⟨y, t, rfl, ev⟩
      · cases ek
  have I1 : Inv X pins σ H { s with heap := h', toks := tk } := I.kept hk
  refine wpAny_bind (wpAny_newList ?_ (by rw [hal, sizeLine_eq]; omega))
  have hoL : (h'.push (seqObj "list" acc.toList.toArray 0)).get? h'.objs.size = some (seqObj "list" acc.toList.toArray 0) := Heap.get?_push_size _ rfl
  show wpAny _ _ _ _ _ { s with heap := h'.push (seqObj "list" acc.toList.toArray 0), toks := tk }
  refine wpAny_bind (wpAny_holding (wpAny_call_entry PyProof.Rows.slot_list_sort ⟨_, hoL, rfl⟩ PyProof.Rows.entry_list_sort
    (SrtO.list_sort_ord (s := { s with heap := h'.push (seqObj "list" acc.toList.toArray 0), toks := tk }) SrtO.swo_int hoL (by rw [hal, sizeLine_eq]; omega) (fun h2 => SrtO.ints_sortable hS h2) fun out h1 h2 => ⟨_, rfl, ?_⟩) (PyProof.Rows.args_list_sort _)))
  obtain ⟨k1, k2, k3⟩ := SrtO.ints_out hS h1 h2
  obtain ⟨e', he'⟩ := PyProof.Rows.sortedHeap_at (vs := acc.toList) (out := out.toArray) hoL
  have hlen : ((out.map SrtO.iv).map V.int).length ≤ sizeLine := by
    rw [List.length_map, k2.length_eq, sizeLine_eq]
    omega
  refine wpAny_pure ⟨_, rfl, .ref h'.objs.size, upd H h'.objs.size (.lst ((out.map SrtO.iv).map V.int)), I1.laid (t' := tk) (fun b u e => ?_) (Nat.le_refl _)
    (show ObjOk X.prog X.w _ _ _ (.lst ((out.map SrtO.iv).map V.int)) from ⟨hlen, out, e', vals_of_ints k1, he'⟩), rfl, q _ _ k2 k3 (I1.hok.fresh (Nat.le_refl _))⟩
  have hb : b < h'.objs.size := Heap.lt_size e
  rw [PyProof.Rows.sortedHeap_old (Nat.ne_of_lt hb) (by rw [size_push']; exact Nat.lt_succ_of_lt hb)]
  exact Heap.get?_push_of_some _ e
/-! ### rows.count(None) -/
def rCntN (K : PySem.W.Frag) : V → List V → Hp → VK → Prop := fun x xs H Q => ∃ (p : Addr) (ns : List (Option Nat)), x = .ref p ∧ xs = [.non] ∧ SqL K H p (ns.map oV) ∧ Q (.int (ns.countP (·.isNone) : Nat)) H
def eqn (v : Value) : Bool := match v with
  | .none => true
  | _ => false
theorem eqn_all {ns : List (Option Nat)} {us : List Value} (h : Vals (ns.map oV) us) : (∀ y ∈ us, ∀ (A : Around) (s : Shared), SeqAt.EqAt A s y .none (eqn y)) ∧ us.countP eqn = ns.countP (·.isNone) := by
  induction ns generalizing us with
  | nil => cases h; exact ⟨fun y hy => (by cases hy), rfl⟩
  | cons n r ih =>
    cases h with
    | cons r1 r2 =>
      rename_i u us
      obtain ⟨i1, i2⟩ := ih r2
      cases n with
      | none =>
        obtain rfl : u = Value.none := r1
        refine ⟨fun y hy A s => ?_, ?_⟩
        · rcases List.mem_cons.mp hy with e | e
          · rw [e]; exact SeqAt.EqAt.same _
          · exact i1 y e A s
        · rw [List.countP_cons, List.countP_cons, i2]; rfl
      | some k =>
        obtain ⟨t, rfl⟩ := (show ∃ t, u = Value.int (k : Int) t from r1)
        refine ⟨fun y hy A s => ?_, ?_⟩
        · rcases List.mem_cons.mp hy with e | e
          · rw [e]; exact SeqAt.EqAt.int_none _ _
          · exact i1 y e A s
        · rw [List.countP_cons, List.countP_cons, i2]; rfl
theorem mt_countN : MtR X "list.count" (rCntN X.K) := by
  intro pins s σ H x xs v us Q I rx rxs h
  obtain ⟨p, ns, rfl, rfl, hs, q⟩ := h
  cases rx
  obtain ⟨u, rfl, ru⟩ := rxs.one
  obtain rfl : u = Value.none := ru
  obtain ⟨its, rv, ⟨⟨cls, dd, data, sl⟩, n, ho, hc, hdn, hd⟩, hlen⟩ := I.list hs
  simp only at hc hd
  subst hc hd
  obtain ⟨h1, h2⟩ := eqn_all rv
  refine call_meets PySem.F.slot_list_count ⟨_, ho, rfl⟩ PySem.F.entry_list_count (PySem.F.args_list_count_2 _ _)
    (SeqAt.list_countAt p its.toArray n dd sl .none eqn) ⟨ho, fun y hy => h1 y (by simpa using hy) _ _, ?_⟩
  have ec : its.toArray.toList.countP eqn = ns.countP (·.isNone) := h2
  refine ⟨.int (ns.countP (·.isNone) : Nat), H, I.tok _, ⟨s.toks, ?_⟩, q⟩
  show Value.int ((its.toArray.toList.countP eqn : Nat) : Int) s.toks = Value.int ((ns.countP (·.isNone) : Nat) : Int) s.toks
  rw [ec]
/-! ### xs == [] -/
def rEqE (K : PySem.W.Frag) : R2 := fun x y H Q => ∃ a b xs, x = .ref a ∧ y = .ref b ∧ a ≠ b ∧ SqL K H a xs ∧ SqL K H b [] ∧ Q (.bl xs.isEmpty) H
theorem op_eqE (hu : X.A.units + 64 < cLine) : OpR X (compareOp .Eq) (rEqE X.K) := by
  intro pins s σ H x y v u Q I rx ry h
  obtain ⟨a, b, xs, rfl, rfl, hab, ha, hb, q⟩ := h
  obtain rfl : v = Value.ref a := rx
  obtain rfl : u = Value.ref b := ry
  obtain ⟨i1, r1, l1, z1⟩ := I.list ha
  obtain ⟨i2, r2, l2, z2⟩ := I.list hb
  have e2 : i2 = [] := by cases r2; rfl
  subst e2
  cases xs with
  | nil =>
    have e1 : i1 = [] := by cases r1; rfl
    subst e1
    exact SeqAt.eq_listAt (e := fun _ => true) l1.isList l2.isList rfl (by omega) (fun j h _ => absurd h (by simp)) ⟨.bl true, H, I, rfl, q⟩
  | cons z zs =>
    cases r1 with
    | cons _ _ => exact SeqAt.eq_list_lengthsAt l1.isList l2.isList (by simp) (by omega) ⟨.bl false, H, I, rfl, q⟩
/-! ### d != e, ints within -/
theorem valV_mem {κ : Type} [DecidableEq κ] {ks : List (κ × V)} {k : κ} {v : V} (h : valV ks k = some v) : (k, v) ∈ ks := by
  induction ks with
  | nil => cases h
  | cons p r ih =>
    obtain ⟨k', v'⟩ := p
    by_cases e : k' = k
    · subst e
      rw [valV_pos rfl] at h
      cases h
      exact List.mem_cons_self
    · rw [valV_neg e] at h
      exact List.mem_cons_of_mem _ (ih h)
def subD (ks ls : List (Key × V)) : Bool := ks.all fun p => decide (valV ls p.1 = some p.2)
theorem hits_int {A : Around} {s : Shared} {kvs : List (Key × V)} {vb : List (Key × Value)} (rb : KV kvs vb) (hb : ∀ p ∈ kvs, ∃ i, p.2 = V.int i) {ks : List (Key × V)} {va : List (Key × Value)} (ra : KV ks va) :
    (∀ p ∈ ks, ∃ i, p.2 = V.int i) → PySem.W.KeqHits A s vb va (subD ks kvs) := by
  unfold KV at ra
  induction ra with
  | nil => intro _; exact .nil
  | @cons p q ps qs h t ih =>
    intro hp
    obtain ⟨h1, h2⟩ := h
    obtain ⟨k, v⟩ := q
    obtain ⟨kp, vp⟩ := p
    have h1' : kp = k := h1
    subst h1'
    obtain ⟨i, hi⟩ := hp _ List.mem_cons_self
    have hi' : vp = V.int i := hi
    subst hi'
    obtain ⟨t1, rfl⟩ := (show ∃ t, v = Value.int i t from h2)
    have rr := rb.val kp
    have ih' := ih fun p hq => hp p (List.mem_cons_of_mem _ hq)
    cases e : valV kvs kp with
    | none =>
      rw [e] at rr
      have hn : valueAt vb kp = none := by
        cases z : valueAt vb kp with
        | none => rfl
        | some y => rw [z] at rr; exact absurd rr (by intro w; cases w)
      have e1 : subD ((kp, V.int i) :: ps) kvs = false := by simp [subD, e]
      rw [e1]
      exact .miss hn
    | some y =>
      rw [e] at rr
      obtain ⟨u, hu, ru⟩ := rr.some_of
      obtain ⟨j, hj⟩ := hb _ (valV_mem e)
      have hj' : y = V.int j := hj
      subst hj'
      obtain ⟨t2, rfl⟩ := (show ∃ t, u = Value.int j t from ru)
      have e1 : subD ((kp, V.int i) :: ps) kvs = ((i == j) && subD ps kvs) := by
        have : decide (V.int j = V.int i) = (i == j) := by rw [dec_int]; exact BEq.comm
        simp only [subD, List.all_cons, e, Option.some.injEq]
        rw [this]
      rw [e1]
      exact .hit hu (SeqAt.EqAt.int_int _ _ _ _) ih'
def rNeDI : R2 := fun x y H Q => ∃ a b ks ls, x = .ref a ∧ y = .ref b ∧ H a = some (.dK ks) ∧ H b = some (.dK ls) ∧ (∀ p ∈ ks, ∃ i, p.2 = V.int i) ∧ (∀ p ∈ ls, ∃ i, p.2 = V.int i) ∧ Q (.bl (!(ks.length == ls.length && subD ks ls))) H
theorem op_neDI (hu : X.A.units < cLine) : OpR X (compareOp .NotEq) rNeDI := by
  intro pins s σ H x y v u Q I rx ry h
  obtain ⟨a, b, ks, ls, rfl, rfl, ea, eb, hk, hl, q⟩ := h
  obtain rfl : v = Value.ref a := rx
  obtain rfl : u = Value.ref b := ry
  obtain ⟨_, ya, va, ra, da⟩ := (show ObjOk X.prog X.w H s.heap a (.dK ks) from I.hok a _ ea)
  obtain ⟨_, yb, vb, rb, db⟩ := (show ObjOk X.prog X.w H s.heap b (.dK ls) from I.hok b _ eb)
  refine PySem.W.keq_ne (knd := mixKind X.prog X.w) (r := subD ks ls) ya yb da db hu (fun _ => hits_int rb hl ra hk) ⟨.bl _, H, I, rfl, ?_⟩
  rw [← ra.length, ← rb.length]
  exact q
end
end Pk
end
/-! PkBase -/
section
set_option maxHeartbeats 4000000
namespace Pk
open PySem PySem.Spec PyProof.Rows L2
theorem pe_ty {X : Cx} {T : String} {x : Str} {pos : Pos} (hg : Gl X x) (hm : X.mg x = none) (hv : bootBuiltins x = some (.type T)) (hn : x ≠ "__name__" := by decide) (hd : (x == ("__debug__" : Str)) = false := by decide) : PE X (.Name x pos) (tC (.ty T)) := pe_bltn hg hm hv rfl hn hd
theorem kp_of {K : PySem.W.Frag} {x qual : Str} {a : Arguments} {b : List Stmt} {sc : Scope} {dvs : List V} {kws : List (Str × V)} {f : Addr} (h : ∃ fd, FunD K x qual a b sc dvs kws f fd) : PySem.W.keepIn K (.ref f) = true := let ⟨_, F⟩ := h; F.kp
theorem isi_yes {K : PySem.W.Frag} {H : Hp} {Q : VK} {x c : V} {t u : Value} (b : Bool) (hc : ClsV c u) (hx : TyX K H x t) (hk : PySem.W.kitOne K t u = some b) (q : Q (.bl b) H) : rIsi K [x, c] H Q := ⟨x, c, t, u, b, rfl, hc, hx, hk, q⟩
theorem isi_str {K : PySem.W.Frag} {H : Hp} {Q : VK} {z : Str} (q : Q (.bl true) H) : rIsi K [.str z, .ty "str"] H Q := isi_yes true (.ty _) (.base (.str z)) (by first | rfl | exact kit_ty (by decide +kernel)) q
theorem isi_int {K : PySem.W.Frag} {H : Hp} {Q : VK} {z : Int} (q : Q (.bl true) H) : rIsi K [.int z, .ty "int"] H Q := isi_yes true (.ty _) (.base (.int z)) (by first | rfl | exact kit_ty (by decide +kernel)) q
theorem isi_int_bool {K : PySem.W.Frag} {H : Hp} {Q : VK} {z : Int} (q : Q (.bl false) H) : rIsi K [.int z, .ty "bool"] H Q := isi_yes false (.ty _) (.base (.int z)) (by first | rfl | exact kit_ty (by decide +kernel)) q
/-- an error of ours -/
def Xc (K : PySem.W.Frag) (cls : Value) : Prop := PySem.W.exmOne K cls (.ref (He.ga K "PassError")) = some true
/-- whatever of ours is raised while nothing but new things were made -/
def Er (K : PySem.W.Frag) (H : Hp) (E : XK) : Prop := ∀ cls d H', Xc K cls → Al H H' → E cls d H'
theorem Er.al {K : PySem.W.Frag} {H H' : Hp} {E : XK} (e : Er K H E) (a : Al H H') : Er K H' E := fun cls d H2 x b => e cls d H2 x (a.trans b)
theorem Er.up {K : PySem.W.Frag} {H H' : Hp} {E E' : XK} (e : Er K H E) (a : Al H H') (h : E' = E) : Er K H' E' := by rw [h]; exact e.al a
def RunT (m : Mo) (s : Str) : Prop := s ∈ m.names ∧ (m.task s).runs = true
section
variable {K : PySem.W.Frag} {H : Hp} {tg : Tag} {m : Mo} {n : Nat} {s : Str}
theorem get_rw1 (R : Rep K H tg m) (h : n ∈ m.keys) : DGet H m.rw (nV n) (some (.ref (m.ha n))) := by have e := get_rw R n; rwa [if_pos h] at e
theorem get_rw0 (R : Rep K H tg m) (h : n ∉ m.keys) : DGet H m.rw (nV n) none := by have e := get_rw R n; rwa [if_neg h] at e
theorem get_rb1 (R : Rep K H tg m) (h : n ∈ m.keys) : DGet H m.rb (nV n) (some (.ref (m.ka n))) := by have e := get_rb R n; rwa [if_pos h] at e
theorem get_rb0 (R : Rep K H tg m) (h : n ∉ m.keys) : DGet H m.rb (nV n) none := by have e := get_rb R n; rwa [if_neg h] at e
theorem get_th1 (R : Rep K H tg m) (h : n < m.nth) : DGet H m.th (nV n) (some (.ref (m.tha n))) := by have e := get_th R n; rwa [if_pos h] at e
theorem get_th0 (R : Rep K H tg m) (h : ¬ n < m.nth) : DGet H m.th (nV n) none := by have e := get_th R n; rwa [if_neg h] at e
theorem get_kn1 (R : Rep K H tg m) (h : s ∈ m.names) : DGet H m.kn (.str s) (some (.ref (m.tka s))) := by have e := get_kn R s; rwa [if_pos h] at e
theorem get_kn0 (R : Rep K H tg m) (h : s ∉ m.names) : DGet H m.kn (.str s) none := by have e := get_kn R s; rwa [if_neg h] at e
end
/-! steps of a reading -/
section
variable {K : PySem.W.Frag} {H : Hp}
theorem fldI {x v : V} {f : Str} {B : V → Prop} (h : FldAt K H x f v) (q : B v) : ∃ v, FldAt K H x f v ∧ B v := ⟨v, h, q⟩
theorem getI {a : Addr} {y : V} {o : Option V} {B : Addr → Option V → Prop} (h : DGet H a y o) (q : B a o) : ∃ b o, V.ref a = .ref b ∧ DGet H b y o ∧ B b o := ⟨a, o, rfl, h, q⟩
theorem getS {a : Addr} {y v : V} {B : Addr → V → Prop} (h : DGet H a y (some v)) (q : B a v) : ∃ b v, V.ref a = .ref b ∧ DGet H b y (some v) ∧ B b v := ⟨a, v, rfl, h, q⟩
theorem fld_t_run1 {mg : Str → Option Value} {base : Heap} (G : Gx K mg base) {tg : Tag} {m : Mo} {s : Str} {b : Bool} (R : Rep K H tg m) (h : s ∈ m.names) (e : (m.task s).runs = b) : FldAt K H (.ref (m.tka s)) "runs" (.bl b) := by rw [← e]; exact fld_t_runs G R h
theorem iteD {p : Prop} [Decidable p] {A B : Prop} (h : p → A) (h' : ¬ p → B) : if decide p = true then A else B := by
  by_cases z : p
  · rw [if_pos (decide_eq_true z)]; exact h z
  · rw [if_neg (by rw [decide_eq_false z]; decide)]; exact h' z
theorem iteN {p : Prop} [Decidable p] {A B : Prop} (h : p → B) (h' : ¬ p → A) : if (!decide p) = true then A else B := by
  by_cases z : p
  · rw [if_neg (by rw [decide_eq_true z]; decide)]; exact h z
  · rw [if_pos (by rw [decide_eq_false z]; rfl)]; exact h' z
theorem iteB {b : Bool} {A B : Prop} (h : b = true → A) (h' : b = false → B) : if b = true then A else B := by
  cases b with
  | true => exact h rfl
  | false => exact h' rfl
theorem tup2 {σ : St} {n i j : Nat} {T : Addr} {x y : V} {Q : St → Hp → Prop} (h : SqT K H T [x, y]) (hn : n = 2) (q : Q ((σ.set i (some x)).set j (some y)) H) : gTup K n (gCons (gName i) (gCons (gName j) gNil)) (.ref T) σ H Q :=
  ⟨T, _, rfl, h, hn.symm ▸ rfl, _, _, rfl, _, _, rfl, rfl, q⟩
theorem sqT_at {T : Addr} {xs : List V} (h : H T = some (.tup xs)) : SqT K H T xs := .inl (.inl h)
theorem sqL_at {T : Addr} {xs : List V} (h : H T = some (.lst xs)) : SqL K H T xs := .inl (.inl h)
theorem tyL {T : Addr} {xs : List V} (h : H T = some (.lst xs)) : tyV K "list" (.ref T) H := by
  exact .inl ⟨rfl, _, .inl (.inl h)⟩
theorem Al.lst {H H' : Hp} {a : Addr} {xs : List V} (h : Al H H') (e : H a = some (.lst xs)) : H' a = some (.lst xs) := h.keep _ _ e (Pl.nt (o := .lst _) trivial)
theorem Al.tup {H H' : Hp} {a : Addr} {xs : List V} (h : Al H H') (e : H a = some (.tup xs)) : H' a = some (.tup xs) := h.keep _ _ e (Pl.nt (o := .tup _) trivial)
theorem Al.dK {H H' : Hp} {a : Addr} {xs : List (Key × V)} (h : Al H H') (e : H a = some (.dK xs)) : H' a = some (.dK xs) := h.keep _ _ e (Pl.nt (o := .dK _) trivial)
theorem Al.frz {H H' : Hp} {a : Addr} {o : Obj} {u : HO} (h : Al H H') (e : H a = some (.frz o u)) : H' a = some (.frz o u) := h.keep _ _ e (fun ps z => by cases z)
theorem Al.ins {H H' : Hp} {a C dx : Addr} {fs : List (Str × V)} (h : Al H H') (e : H a = some (.ins C dx fs)) : H' a = some (.ins C dx fs) := h.keep _ _ e (Pl.nt (o := .ins _ _ _) trivial)
theorem kn_at {m : Mo} {i : Nat} {kx vx : V} (e1 : Option.map (fun kv : Key × V => kV kv.1) (knD m.names m.tka)[i]? = some kx) (e2 : Option.map Prod.snd (knD m.names m.tka)[i]? = some vx) : ∃ s, m.names[i]? = some s ∧ kx = .str s ∧ vx = .ref (m.tka s) ∧ s ∈ m.names := by
  unfold knD at e1 e2
  rw [List.getElem?_map] at e1 e2
  cases e : m.names[i]? with
  | none => rw [e] at e1; cases e1
  | some s =>
    rw [e] at e1 e2
    cases e1; cases e2
    exact ⟨s, rfl, rfl, rfl, List.mem_of_getElem? e⟩
theorem xc {C : Addr} (h : PySem.W.exmOne K (.ref C) (.ref (He.ga K "PassError")) = some true) : Xc K (.ref C) := h
theorem insTa {tg : Tag} {m : Mo} (R : Rep K H tg m) {x : Str} (h : (x == "known") = false) : InsC H (.ref m.ta) (He.ga K "Tasks") x := let ⟨dx, e⟩ := R.ta; ⟨_, dx, _, rfl, e, lkS h rfl⟩
theorem insTr {tg : Tag} {m : Mo} (R : Rep K H tg m) {x : Str} (h : ((x == "ever") || (x == "rows") || (x == "right_below")) = false) : InsC H (.ref m.tr) (He.ga K "Tree") x := by
  obtain ⟨dx, e⟩ := R.tr
  simp only [Bool.or_eq_false_iff] at h
  exact ⟨_, dx, _, rfl, e, lkS h.1.1 (lkS h.1.2 (lkS h.2 rfl))⟩
end
/-! locks -/
theorem Al.unlock {H H' : Hp} {d : Addr} {od : Obj} {u : HO} (h : H d = some u) (pl : Pl u) (a : Al (upd H d (.frz od u)) H') : Al H (upd H' d u) :=
  ⟨fun b o e n => by
    by_cases hb : b = d
    · subst hb
      rw [upd_same]
      rw [h] at e
      exact e
    · rw [upd_ne hb]
      exact a.keep b o (by rw [upd_ne hb]; exact e) n,
   fun T t => tabsN_upd0 (a.tabs T (tabsN_upd t h pl)) (a.keep d _ upd_same (fun ps z => by cases z)) (fun ps z => by cases z) (fun c q z => by cases z)⟩
section
variable {K : PySem.W.Frag} {H : Hp} {tg : Tag} {m : Mo} {ob : Obj}
theorem LtOk.upd {l : Lt} {a : Addr} {o : HO} (h : LtOk K H tg l) {r : Ro} (t : tg a = some r) : LtOk K (L2.upd H a o) tg l := by
  obtain ⟨dx, ws, pt, e1, e2, t1, t2⟩ := h
  have n1 : l.at_ ≠ a := fun z => by rw [z, t] at t1; cases t1
  have n2 : pt ≠ a := fun z => by rw [z, t] at t2; cases t2
  exact ⟨dx, ws, pt, by rw [upd_ne n1]; exact e1, by rw [upd_ne n2]; exact e2, t1, t2⟩
theorem Rep.kn_tag (R : Rep K H tg m) : tg m.kn = some .kn := (R.cell .kn _ _ rfl).1
theorem Rep.th_tag (R : Rep K H tg m) : tg m.th = some .th := (R.cell .th _ _ rfl).1
/-- an object in its role is set to what the role allows -/
theorem Rep.same {r : Ro} {a : Addr} {φ : HO → Prop} {o : HO} (R : Rep K H tg m) (h0 : m.cell K r = some (a, φ)) (ho : φ o) : Rep K (L2.upd H a o) tg m :=
  R.upd h0 h0 ho (fun _ _ _ h => h) fun i ls hi e l hl => (R.lets i ls hi e l hl).upd (R.cell r a φ h0).1
theorem Rep.frzk (R : Rep K H tg m) : Rep K (L2.upd H m.kn (.frz ob (.dK (knD m.names m.tka)))) tg m := R.same (r := .kn) rfl (.inr ⟨ob, rfl⟩)
theorem Rep.thawk (R : Rep K H tg m) : Rep K (L2.upd H m.kn (.dK (knD m.names m.tka))) tg m := R.same (r := .kn) rfl (.inl rfl)
theorem Rep.frzt (R : Rep K H tg m) : Rep K (L2.upd H m.th (.frz ob (.dK (rowsD (List.range m.nth) m.tha)))) tg m := R.same (r := .th) rfl (.inr ⟨ob, rfl⟩)
theorem Rep.thawt (R : Rep K H tg m) : Rep K (L2.upd H m.th (.dK (rowsD (List.range m.nth) m.tha))) tg m := R.same (r := .th) rfl (.inl rfl)
end
/-- a comprehension that makes new things only -/
theorem lcR {J : It} {n : Nat} {G : Hp → Prop} {Y : Nat → Hp → V → Hp → Prop} (wk : Walk J n G Y) {g : Zi → TG} {tt : Zi → TT} {te : Zi → TE} {vs : List Nat} {σ : St} {H1 : Hp} {Q : VK} (f : Nat → Option V)
    (hn : n ≤ sizeLine) (hG : ∀ H, Al H1 H → G H)
    (hs : ∀ i x H H', i < n → Al H1 H → Y i H x H' → ∀ (R : V → Hp → Prop) (N : Hp → Prop), (∀ y H4, f i = some y → Al H H4 → R y H4) → (∀ H3, f i = none → Al H H3 → N H3) →
      ∀ z, g z x (wipe σ vs) H' fun σ2 H2 => wipe σ2 vs = wipe σ vs ∧ ∀ z, tt z σ2 H2 fun b H3 => if b = true then ∀ z, te z σ2 H3 R else N H3)
    (hd : ∀ H D, Al H1 H → H D = some (.lst ((List.range n).filterMap f)) → Q (.ref D) H) : LcB J g tt te vs σ H1 Q := by
  intro D hD
  refine lc_it (g := fun v σ H Q => ∀ z, g z v σ H Q) (tt := fun σ H Q => ∀ z, tt z σ H Q) (te := fun σ H Q => ∀ z, te z σ H Q) wk (fun i H => Al H1 H ∧ H D = some (.lst ((List.range i).filterMap f))) ⟨.new hD, upd_same⟩ (fun i H _ h => hG H h.1) (fun i x H H' hi h y => ?_) (fun H h => hd H D h.1 h.2)
  obtain ⟨a, e⟩ := h
  refine hs i x H H' hi a y _ _ (fun y H4 ef a4 => ⟨_, a4.keep _ _ e (Pl.nt (o := .lst _) trivial), ?_, ?_, ?_⟩) (fun H3 ef a3 => ⟨a.trans a3, ?_⟩)
  · exact Nat.lt_of_le_of_lt (List.length_filterMap_le _ _) (by rw [List.length_range]; omega)
  · exact (a.trans a4).set hD (a4.keep _ _ e (Pl.nt (o := .lst _) trivial)) trivial
  · rw [upd_same, List.range_succ, List.filterMap_append]
    simp [ef]
  · rw [a3.keep _ _ e (Pl.nt (o := .lst _) trivial), List.range_succ, List.filterMap_append]
    simp [ef]
/-- the two lists pair off -/
def Ali {α : Type} (R : α → V → Prop) (as : List α) (vs : List V) : Prop := as.length = vs.length ∧ ∀ (i : Nat) a v, as[i]? = some a → vs[i]? = some v → R a v
theorem Ali.nil {α : Type} {R : α → V → Prop} : Ali R [] [] := ⟨rfl, fun i a v h _ => by simp at h⟩
theorem Ali.snoc {α : Type} {R : α → V → Prop} {as : List α} {vs : List V} {a : α} {v : V} (h : Ali R as vs) (r : R a v) : Ali R (as ++ [a]) (vs ++ [v]) := by
  obtain ⟨l, h⟩ := h
  refine ⟨by simp [l], fun i b u e1 e2 => ?_⟩
  by_cases hi : i < as.length
  · rw [List.getElem?_append_left hi] at e1
    rw [List.getElem?_append_left (by omega)] at e2
    exact h i b u e1 e2
  · by_cases hj : i = as.length
    · subst hj
      rw [List.getElem?_append_right (Nat.le_refl _), Nat.sub_self] at e1
      rw [List.getElem?_append_right (by omega), l, Nat.sub_self] at e2
      cases e1; cases e2; exact r
    · rw [List.getElem?_eq_none (by simp; omega)] at e1
      cases e1
theorem Ali.imp {α : Type} {R R' : α → V → Prop} {as : List α} {vs : List V} (h : Ali R as vs) (f : ∀ a v, R a v → R' a v) : Ali R' as vs := ⟨h.1, fun i a v e1 e2 => f a v (h.2 i a v e1 e2)⟩
theorem Ali.get {α : Type} {R : α → V → Prop} {as : List α} {vs : List V} (h : Ali R as vs) {i : Nat} {v : V} (e : vs[i]? = some v) : ∃ a, as[i]? = some a ∧ R a v := by
  have hi : i < vs.length := by
    by_cases z : i < vs.length
    · exact z
    · rw [List.getElem?_eq_none (by omega)] at e; cases e
  have ha : as[i]? = some (as[i]'(by rw [h.1]; exact hi)) := by simp
  exact ⟨_, ha, h.2 i _ v ha e⟩
theorem Ali.map {α : Type} {R : α → V → Prop} {as : List α} {f : α → V} (h : ∀ a, a ∈ as → R a (f a)) : Ali R as (as.map f) := by
  refine ⟨by simp, fun i a v e1 e2 => ?_⟩
  rw [List.getElem?_map, e1] at e2
  cases e2
  exact h a (List.mem_of_getElem? e1)
/-- a comprehension that makes new things only, what it makes told by a relation -/
theorem lcA {α : Type} {J : It} {n : Nat} {G : Hp → Prop} {Y : Nat → Hp → V → Hp → Prop} (wk : Walk J n G Y) {g : Zi → TG} {tt : Zi → TT} {te : Zi → TE} {vs : List Nat} {σ : St} {H1 : Hp} {Q : VK} (f : Nat → Option α) (Rl : Hp → α → V → Prop)
    (hR : ∀ H H' a v, Al H H' → Rl H a v → Rl H' a v) (hRD : ∀ H D a v o, H D = some (.lst o) → ∀ o', Rl H a v → Rl (upd H D (.lst o')) a v)
    (hn : n ≤ sizeLine) (hG : ∀ H, Al H1 H → G H)
    (hs : ∀ i x H H', i < n → Al H1 H → Y i H x H' → ∀ (R : V → Hp → Prop) (N : Hp → Prop), (∀ a y H4, f i = some a → Rl H4 a y → Al H H4 → R y H4) → (∀ H3, f i = none → Al H H3 → N H3) →
      ∀ z, g z x (wipe σ vs) H' fun σ2 H2 => wipe σ2 vs = wipe σ vs ∧ ∀ z, tt z σ2 H2 fun b H3 => if b = true then ∀ z, te z σ2 H3 R else N H3)
    (hd : ∀ H D us, Al H1 H → H D = some (.lst us) → Ali (Rl H) ((List.range n).filterMap f) us → Q (.ref D) H) : LcB J g tt te vs σ H1 Q := by
  intro D hD
  refine lc_it (g := fun v σ H Q => ∀ z, g z v σ H Q) (tt := fun σ H Q => ∀ z, tt z σ H Q) (te := fun σ H Q => ∀ z, te z σ H Q) wk (fun i H => Al H1 H ∧ ∃ us, H D = some (.lst us) ∧ Ali (Rl H) ((List.range i).filterMap f) us) ⟨.new hD, [], upd_same, .nil⟩ (fun i H _ h => hG H h.1) (fun i x H H' hi h y => ?_) (fun H h => let ⟨us, e, q⟩ := h.2; hd H D us h.1 e q)
  obtain ⟨a, us, e, q⟩ := h
  refine hs i x H H' hi a y _ _ (fun b y H4 ef rb a4 => ⟨us, a4.keep _ _ e (Pl.nt (o := .lst _) trivial), ?_, ?_, _, upd_same, ?_⟩) (fun H3 ef a3 => ⟨a.trans a3, us, a3.keep _ _ e (Pl.nt (o := .lst _) trivial), ?_⟩)
  · rw [← q.1]
    exact Nat.lt_of_le_of_lt (List.length_filterMap_le _ _) (by rw [List.length_range]; omega)
  · exact (a.trans a4).set hD (a4.keep _ _ e (Pl.nt (o := .lst _) trivial)) trivial
  · rw [List.range_succ, List.filterMap_append]
    have e1 : List.filterMap f [i] = [b] := by simp [ef]
    rw [e1]
    have e4 := a4.keep _ _ e (Pl.nt (o := .lst _) trivial)
    exact (q.imp fun c v r => hRD H4 D c v us e4 _ (hR _ _ _ _ a4 r)).snoc (hRD H4 D b y us e4 _ rb)
  · rw [List.range_succ, List.filterMap_append]
    have e1 : List.filterMap f [i] = [] := by simp [ef]
    rw [e1, List.append_nil]
    exact q.imp fun c v r => hR _ _ _ _ a3 r
/-- what the names of a state are -/
structure Bd (m : Mo) : Prop where
  nms : m.names.length ≤ 200
  kys : m.keys.length ≤ 1000
  rws : ∀ s, s ∈ m.names → (m.task s).rows.length = 16
theorem map_get {α β : Type} (f : α → β) (l : List α) (i : Nat) : (l.map f)[i]? = (l[i]?).map f := by simp
theorem filterMap_range {α β : Type} (l : List α) (f : Nat → Option β) (g : α → Option β) (h : ∀ i x, l[i]? = some x → f i = g x) : (List.range l.length).filterMap f = l.filterMap g := by
  have key : ∀ k, k ≤ l.length → (List.range k).filterMap f = (l.take k).filterMap g := by
    intro k
    induction k with
    | zero => intro _; rfl
    | succ k ih =>
      intro hk
      have hx : l[k]? = some l[k] := by simp
      rw [List.range_succ, List.filterMap_append, ih (by omega), List.take_succ, List.filterMap_append, hx]
      have e := h k _ hx
      simp only [Option.toList_some, List.filterMap_cons, List.filterMap_nil, e]
  rw [key l.length (Nat.le_refl _), List.take_length]
end Pk
end
/-! PkUpd -/
section
set_option maxHeartbeats 4000000
namespace Pk
open PySem PySem.Spec PyProof.Rows L2
theorem atI_nat {α : Type} {xs : List α} {k : Nat} {v : α} (h : xs[k]? = some v) : atI xs (k : Int) = some v := by
  have hk : k < xs.length := by
    by_cases z : k < xs.length
    · exact z
    · rw [List.getElem?_eq_none (by omega)] at h; cases h
  have e : ixN xs.length (k : Int) = some k := by
    unfold ixN
    rw [if_pos (by omega), if_pos (by omega)]
    rfl
  unfold atI
  rw [e]
  exact h
theorem ixN_nat {n k : Nat} (h : k < n) : ixN n (k : Int) = some k := by
  unfold ixN
  rw [if_pos (by omega), if_pos (by omega)]
  rfl
theorem lt_of_get {α : Type} {xs : List α} {k : Nat} {v : α} (h : xs[k]? = some v) : k < xs.length := by
  by_cases z : k < xs.length
  · exact z
  · rw [List.getElem?_eq_none (by omega)] at h; cases h
theorem iteDy {p : Prop} [Decidable p] {A B : Prop} (h : p) (q : A) : if decide p = true then A else B := by rw [if_pos (decide_eq_true h)]; exact q
theorem iteDn {p : Prop} [Decidable p] {A B : Prop} (h : ¬ p) (q : B) : if decide p = true then A else B := by rw [if_neg (by rw [decide_eq_false h]; decide)]; exact q
theorem iteNy {p : Prop} [Decidable p] {A B : Prop} (h : p) (q : B) : if (!decide p) = true then A else B := by rw [if_neg (by rw [decide_eq_true h]; decide)]; exact q
theorem iteNn {p : Prop} [Decidable p] {A B : Prop} (h : ¬ p) (q : A) : if (!decide p) = true then A else B := by rw [if_pos (by rw [decide_eq_false h]; rfl)]; exact q
theorem filterMap_if {α β : Type} (l : List α) (p : α → Bool) (f : α → β) : l.filterMap (fun s => if p s = true then some (f s) else none) = (l.filter p).map f := by
  induction l with
  | nil => rfl
  | cons a r ih =>
    by_cases h : p a = true
    · simp [List.filterMap_cons, List.filter_cons, h, ih]
    · simp [List.filterMap_cons, List.filter_cons, h, ih]
theorem flat_oV {l : List (Option Nat)} : (l.map oV).all flatV = true := by
  induction l with
  | nil => rfl
  | cons o r ih => cases o <;> simpa [oV, flatV] using ih
theorem inV_oV {l : List (Option Nat)} : inV .non (l.map oV) = true ↔ none ∈ l := by
  unfold inV
  simp only [List.any_map, List.any_eq_true]
  constructor
  · rintro ⟨o, h, e⟩
    cases o with
    | none => exact h
    | some n => exact absurd e (by simp [oV, eqV])
  · intro h
    exact ⟨none, h, rfl⟩
/-- the first empty slot -/
theorem free_ex {l : List (Option Nat)} (h : none ∈ l) : ∃ j : Nat, l[j]? = some none ∧ ∀ i : Nat, i < j → l[i]? ≠ some none := by
  induction l with
  | nil => cases h
  | cons o r ih =>
    cases o with
    | none => exact ⟨0, rfl, fun i hi => absurd hi (by omega)⟩
    | some n =>
      obtain ⟨j, h1, h2⟩ := ih (by simpa using h)
      refine ⟨j + 1, by simpa using h1, fun i hi => ?_⟩
      cases i with
      | zero => simp
      | succ i => simpa using h2 i (by omega)
theorem sz1 {a : V} : [a].length ≤ sizeLine := by rw [sizeLine_eq]; simp
theorem sz2 {a b : V} : [a, b].length ≤ sizeLine := by rw [sizeLine_eq]; simp
theorem sz3 {a b c : V} : [a, b, c].length ≤ sizeLine := by rw [sizeLine_eq]; simp
/-! changes of the model -/
def Mo.setTask (m : Mo) (s : Str) (t : Tk) : Mo := { m with task := fun r => if r = s then t else m.task r }
def Mo.setRows (m : Mo) (s : Str) (rs : List (Option Nat)) : Mo := m.setTask s { m.task s with rows := rs }
section
variable {K : PySem.W.Frag} {H : Hp} {tg : Tag} {m m' : Mo}
theorem ls_upd (R : Rep K H tg m) {r : Ro} {a : Addr} {φ : HO → Prop} {o : HO} (h : m.cell K r = some (a, φ)) (e1 : m'.nth = m.nth) (e2 : m'.thg = m.thg) : ∀ i ls, i < m'.nth → m'.thg i = .door ls → ∀ l ∈ ls, LtOk K (L2.upd H a o) tg l :=
  fun i ls hi e l hl => (R.lets i ls (by rw [← e1]; exact hi) (by rw [← e2]; exact e) l hl).upd (R.cell r a φ h).1
theorem Rep.setRows (R : Rep K H tg m) {s : Str} (hs : s ∈ m.names) (rs : List (Option Nat)) : Rep K (L2.upd H (m.tsa s) (.lst (rs.map oV))) tg (m.setRows s rs) := by
  have h0 : m.cell K (.tsl s) = some (m.tsa s, fun o => o = .lst ((m.task s).rows.map oV)) := if_pos hs
  have h1 : (m.setRows s rs).cell K (.tsl s) = some (m.tsa s, fun o => o = .lst (rs.map oV)) := by
    simp only [Mo.cell, Mo.setRows, Mo.setTask, if_pos hs, if_true]
  refine R.upd h0 h1 rfl (fun r hr x e => ?_) (ls_upd R h0 rfl rfl)
  cases r with
  | tsk t =>
    simp only [Mo.cell, Mo.setRows, Mo.setTask] at e ⊢
    by_cases ht : t = s
    · subst ht
      rw [if_pos rfl] at e
      exact e
    · rw [if_neg ht] at e
      exact e
  | tsl t =>
    have ht : t ≠ s := fun z => hr (by rw [z])
    simp only [Mo.cell, Mo.setRows, Mo.setTask, if_neg ht] at e ⊢
    exact e
  | _ => exact e
theorem Stp.setRows (R : Rep K H tg m) {s : Str} (hs : s ∈ m.names) (rs : List (Option Nat)) : Stp H tg (L2.upd H (m.tsa s) (.lst (rs.map oV))) tg := Stp.upd (R.tsl hs) trivial (R.cell (.tsl s) _ _ (if_pos hs)).1
theorem setRows_task {s t : Str} {rs : List (Option Nat)} : (m.setRows s rs).task t = if t = s then { m.task s with rows := rs } else m.task t := rfl
end
end Pk
end
/-! PkUpd2 -/
section
set_option maxHeartbeats 4000000
namespace Pk
open PySem PySem.Spec PyProof.Rows L2
theorem len_putF {f : Str} {v : V} {fs : List (Str × V)} {n : Nat} (h : fs.length < n) : (putF f v fs).length < n + 1 := by
  have : ∀ gs : List (Str × V), (putF f v gs).length ≤ gs.length + 1 := by
    intro gs
    induction gs with
    | nil => exact Nat.le_refl _
    | cons p r ih =>
      obtain ⟨g, u⟩ := p
      unfold putF
      split
      · simp
      · simp only [List.length_cons]
        omega
  have := this fs
  omega
theorem len_lt {n k : Nat} (h : n < k) (h2 : k < 1000) : n < 1000 := Nat.lt_trans h h2
/-! a step of the kernel: the objects of some roles are changed, new ones take roles -/
structure Chg (rs : List Ro) (H : Hp) (tg : Tag) (H' : Hp) (tg' : Tag) : Prop where
  keep : ∀ b o, H b = some o → nt o → (∀ r, tg b = some r → r ∉ rs) → H' b = some o
  tag : ∀ b o, H b = some o → nt o → tg' b = tg b
  tabs : ∀ T : List NTab, TbN T H → TbN T H'
section
variable {K : PySem.W.Frag} {H H1 H2 H' : Hp} {tg tg1 tg' : Tag} {m m' : Mo} {rs : List Ro}
theorem Chg.refl : Chg rs H tg H tg := ⟨fun _ _ h _ _ => h, fun _ _ _ _ => rfl, fun _ h => h⟩
theorem Chg.stp (c : Chg rs H tg H' tg') : Stp H tg H' tg' := ⟨fun b o h n t => c.keep b o h n (fun r e => by rw [t] at e; cases e), fun b o h n t => by rw [c.tag b o h n, t], c.tabs⟩
theorem Chg.al (c : Chg rs H tg H1 tg1) (a : Al H1 H2) : Chg rs H tg H2 tg1 := ⟨fun b o h n t => a.keep b o (c.keep b o h n t) n, c.tag, fun T h => a.tabs T (c.tabs T h)⟩
theorem Chg.upd (c : Chg rs H tg H1 tg1) {a : Addr} {r : Ro} {o1 o' : HO} (t : tg a = some r) (hr : r ∈ rs) (e : H1 a = some o1) (pl : Pl o1) : Chg rs H tg (L2.upd H1 a o') tg1 :=
  ⟨fun b o h n k => by
    have nb : b ≠ a := fun z => k r (by rw [z]; exact t) hr
    rw [upd_ne nb]; exact c.keep b o h n k, c.tag, fun T h => tabsN_upd (c.tabs T h) e pl⟩
theorem Chg.updN (c : Chg rs H tg H1 tg1) {a : Addr} {o1 o' : HO} (hn : ∀ o, nt o → H a ≠ some o) (e : H1 a = some o1) (pl : Pl o1) : Chg rs H tg (L2.upd H1 a o') tg1 :=
  ⟨fun b o h n k => by rw [upd_ne (fun z => hn o n (by rw [← z]; exact h))]; exact c.keep b o h n k, c.tag, fun T h => tabsN_upd (c.tabs T h) e pl⟩
theorem Chg.new (c : Chg rs H tg H1 tg1) {a : Addr} {o : HO} (hn : H1 a = none) : Chg rs H tg (L2.upd H1 a o) tg1 := c.al (Al.new hn)
theorem Chg.adopt (c : Chg rs H tg H1 tg1) {x : Addr} {r : Ro} (h : ∀ o, nt o → H x ≠ some o) : Chg rs H tg H1 (tset tg1 x r) :=
  ⟨c.keep, fun b o e n => by rw [tset_ne (fun z => h o n (by rw [← z]; exact e))]; exact c.tag b o e n, c.tabs⟩
theorem LtOk.chg {l : Lt} (h : LtOk K H tg l) (a : Chg rs H tg H' tg') : LtOk K H' tg' l := h.stp a.stp
theorem Rep.chg (R : Rep K H tg m) (c : Chg rs H tg H' tg')
    (same : ∀ r, r ∉ rs → ∀ x, m'.cell K r = some x → m.cell K r = some x)
    (new : ∀ r, r ∈ rs → ∀ a φ, m'.cell K r = some (a, φ) → tg' a = some r ∧ ∃ o, H' a = some o ∧ φ o)
    (lets : ∀ i ls, i < m'.nth → m'.thg i = .door ls → ∀ l ∈ ls, LtOk K H' tg' l) : Rep K H' tg' m' := by
  refine ⟨fun r a φ e => ?_, lets⟩
  by_cases hr : r ∈ rs
  · exact new r hr a φ e
  · obtain ⟨t, o, ho, q⟩ := R.cell r a φ (same r hr _ e)
    have n := cellPl (same r hr _ e) o q
    refine ⟨by rw [c.tag a o ho n]; exact t, o, c.keep a o ho n (fun r' e' => ?_), q⟩
    rw [t] at e'
    cases e'
    exact hr
theorem ls_chg (R : Rep K H tg m) (c : Chg rs H tg H' tg') (e1 : m'.nth = m.nth) (e2 : m'.thg = m.thg) : ∀ i ls, i < m'.nth → m'.thg i = .door ls → ∀ l ∈ ls, LtOk K H' tg' l :=
  fun i ls hi e l hl => (R.lets i ls (by rw [← e1]; exact hi) (by rw [← e2]; exact e) l hl).chg c
end
/-- a task is added -/
def Mo.addTask (m : Mo) (s mk : Str) (x sa : Addr) : Mo := { m with names := m.names ++ [s], task := fun r => if r = s then ⟨mk, true, List.replicate 16 none⟩ else m.task r, tka := fun r => if r = s then x else m.tka r, tsa := fun r => if r = s then sa else m.tsa r }
theorem knD_add {ns : List Str} {ad : Str → Addr} {s : Str} {x : Addr} (h : s ∉ ns) : knD (ns ++ [s]) (fun r => if r = s then x else ad r) = knD ns ad ++ [((Sum.inr s : Key), V.ref x)] := by
  unfold knD
  rw [List.map_append]
  congr 1
  · refine List.map_congr_left fun t ht => ?_
    have : t ≠ s := fun z => h (z ▸ ht)
    simp [this]
  · simp
section
variable {K : PySem.W.Frag} {H H' : Hp} {tg tg' : Tag} {m : Mo}
theorem Rep.addTask (R : Rep K H tg m) {s mk : Str} {x sa dx : Addr} (hs : s ∉ m.names) (c : Chg [.kn, .tsk s, .tsl s] H tg H' tg')
    (h1 : H' m.kn = some (.dK (knD m.names m.tka ++ [((Sum.inr s : Key), V.ref x)]))) (h2 : H' x = some (.ins (He.ga K "Task") dx (tkF ⟨mk, true, List.replicate 16 none⟩ sa))) (h3 : H' sa = some (.lst ((List.replicate 16 (none : Option Nat)).map oV)))
    (t1 : tg' m.kn = some .kn) (t2 : tg' x = some (.tsk s)) (t3 : tg' sa = some (.tsl s)) : Rep K H' tg' (m.addTask s mk x sa) := by
  refine R.chg c (fun r hr y e => ?_) (fun r hr a φ e => ?_) (ls_chg R c rfl rfl)
  · cases r with
    | kn => exact absurd (by simp) hr
    | tsk t =>
      have ht : t ≠ s := fun z => hr (by simp [z])
      simp only [Mo.cell, Mo.addTask, if_neg ht, List.mem_append, List.mem_singleton, ht, or_false] at e ⊢
      exact e
    | tsl t =>
      have ht : t ≠ s := fun z => hr (by simp [z])
      simp only [Mo.cell, Mo.addTask, if_neg ht, List.mem_append, List.mem_singleton, ht, or_false] at e ⊢
      exact e
    | _ => exact e
  · simp only [List.mem_cons, List.not_mem_nil, or_false] at hr
    rcases hr with rfl | rfl | rfl
    · simp only [Mo.cell, Mo.addTask] at e
      cases e
      exact ⟨t1, _, h1, .inl (by rw [knD_add hs])⟩
    · simp only [Mo.cell, Mo.addTask, List.mem_append, List.mem_singleton, or_true, if_true] at e
      cases e
      exact ⟨t2, _, h2, dx, rfl⟩
    · simp only [Mo.cell, Mo.addTask, List.mem_append, List.mem_singleton, or_true, if_true] at e
      cases e
      exact ⟨t3, _, h3, rfl⟩
end
end Pk
end
/-! PkExc -/
section
set_option maxHeartbeats 4000000
namespace Pk
open PySem PySem.Spec PyProof.Rows L2
local macro_rules | `(tactic| walk_at "c") => `(tactic| first | assumption | omega | exact rfl | (intro z; cases z; done) | (simp only [nV, V.int.injEq, V.str.injEq]; first | assumption | omega))
local macro_rules | `(tactic| walk_at "fld") => `(tactic| first
  | assumption
  | exact fld_k_tasks (by assumption) (by assumption) | exact fld_k_tree (by assumption) (by assumption) | exact fld_k_things (by assumption) (by assumption) | exact fld_ta_known (by assumption) (by assumption)
  | exact fld_t_rows (by assumption) (by assumption) (by assumption) | exact fld_t_run1 (by assumption) (by assumption) (by assumption) (by assumption) | exact fld_t_runs (by assumption) (by assumption) (by assumption) | exact fld_t_maker (by assumption) (by assumption) (by assumption) | exact fld_tr_rows (by assumption) (by assumption) | exact fld_tr_rb (by assumption) (by assumption) | exact fld_tr_ever (by assumption) (by assumption)
  | exact fld_h_number (by assumption) (by assumption) | exact fld_h_thing (by assumption) (by assumption) | exact fld_h_rights (by assumption) (by assumption) | exact fld_h_giver (by assumption) (by assumption) | exact fld_h_holder (by assumption) (by assumption))
local macro_rules | `(tactic| walk_at "get") => `(tactic| first
  | assumption
  | exact get_kn1 (by assumption) (by assumption) | exact get_kn0 (by assumption) (by assumption) | exact get_rw1 (by assumption) (by assumption) | exact get_rw0 (by assumption) (by assumption)
  | exact get_rb1 (by assumption) (by assumption) | exact get_rb0 (by assumption) (by assumption) | exact get_th1 (by assumption) (by assumption) | exact get_th0 (by assumption) (by assumption))
local macro_rules | `(tactic| walk_at "ins") => `(tactic| first | exact insTa (by assumption) rfl | exact insTr (by assumption) rfl)
local macro_rules | `(tactic| walk_at "s") => `(tactic| first
  | refine ⟨_, rfl, ?_⟩
  | refine ⟨rfl, ?_⟩
  | refine zI fun _ => ?_
  | with_reducible refine iteF ?_ | with_reducible refine iteT ?_
  | ((with_reducible refine iteDy ?_ ?_); focus (walk_at "c"; done)) | ((with_reducible refine iteDn ?_ ?_); focus (walk_at "c"; done)) | ((with_reducible refine iteNy ?_ ?_); focus (walk_at "c"; done)) | ((with_reducible refine iteNn ?_ ?_); focus (walk_at "c"; done))
  | refine fldI (by walk_at "fld") ?_
  | refine getI (by walk_at "get") ?_ | refine getS (by walk_at "get") ?_
  | refine ⟨by walk_at "ins", ?_⟩
  | refine ⟨_, _, _, _, true, rfl, .ty _, .base (.str _), kit_ty (by decide +kernel), ?_⟩
  | refine ⟨_, _, _, _, true, rfl, .ty _, .base (.int _), kit_ty (by decide +kernel), ?_⟩
  | refine ⟨_, _, _, _, false, rfl, .ty _, .base (.int _), kit_ty (by decide +kernel), ?_⟩
  | refine ⟨_, _, rfl, rfl, ?_⟩
  | refine ⟨_, _, rfl, rfl, trivial, ?_⟩)
local macro_rules | `(tactic| walk_at "w") => `(tactic| repeat (walk_at "s"))
structure OexF (K : PySem.W.Frag) (x f : Str) : Prop where
  oc : OexC K (He.ga K x)
  ini : PySem.W.findIn K (.ref (He.ga K x)) "__init__" = some (some (.ref (He.ma K (He.ga K x) "__init__")))
  ty : PySem.W.typeIn K (.ref (He.ma K (He.ga K x) "__init__")) = some (.type "function")
  fld : PySem.W.findIn K (.ref (He.ga K x)) f = some none
theorem oexF_of {K : PySem.W.Frag} {x f : Str} (h : exB K x f = true) : OexF K x f := by
  unfold exB at h
  simp only [Bool.and_eq_true, decide_eq_true_eq] at h
  obtain ⟨h1, h2, h3, h4, h5, h6, h7, h8⟩ := h
  refine ⟨⟨?_, He.eqO_ok h2, h3, h4, h5⟩, He.eqO_ok h6, h7, He.eqO_ok h8⟩
  unfold oexB at h1
  split at h1
  · rename_i dd cd sl ho
    split at h1
    · rename_i C' bm k0 k1 k2 k3 n k5 e1 e2
      simp only [Bool.and_eq_true, decide_eq_true_eq, Bool.not_eq_true'] at h1
      obtain ⟨rfl, rfl, h11, h12, h13⟩ := h1
      have esl : sl = #[k0, k1, k2, k3, some (.builtin "ValueError.__new__"), k5] := Array.ext' (by simpa using e2)
      subst esl
      obtain ⟨nm, q, mro, N, bs, hd, sn, dl, sub, ab, col⟩ := cd
      simp only at e1 h11 h12
      subst e1 h11 h12
      exact ⟨nm, bs, N, q, bm, sn, dl, sub, ab, dd, k0, k1, k2, k3, k5, ho, h13⟩
    · cases h1
  · cases h1
section
variable {K : PySem.W.Frag} {mg : Str → Option Value} {base : Heap} (G : Gx K mg base)
include G
theorem oex_Lacks : OexF K "Lacks" "missing" := oexF_of (by have := G.ex; unfold ex at this; simp only [Bool.and_eq_true] at this; exact this.2.1)
theorem oex_NoDeed : OexF K "NoDeed" "deed" := oexF_of (by have := G.ex; unfold ex at this; simp only [Bool.and_eq_true] at this; exact this.1)
end
/-- an own exception's __init__ -/
def sp_einit (K : PySem.W.Frag) (x f : Str) : Sp := fun vs H Q E => ∃ a y, vs = [.ref a, y] ∧ H a = some (exo a (He.ga K x) none) ∧ ∀ dx, H dx = none → dx ≠ a → Q .non (L2.upd (L2.upd H dx (exd dx [(f, y)])) a (exo a (He.ga K x) (some dx)))
section
variable {P : Program} {w : World} {K : PySem.W.Frag} {mg : Str → Option Value} {base : Heap} (G : Gx K mg base)
include G
omit G in
theorem sc_Lacks_init : FnScope ["self", "missing"] ["self", "missing"] (defScope s_Lacks_init) := ⟨rfl, rfl, rfl, by decide +kernel, rfl, by decide +kernel, by decide +kernel⟩
theorem ok_Lacks_init : ∃ fd, FnOk P w K mg base (L2.CX P w) 1 (He.ma K (He.ga K "Lacks") "__init__") fd ["self", "missing"] (sp_einit K "Lacks" "missing") ∧ Binds K fd ["self", "missing"] [] := by
  obtain ⟨fd, F⟩ := G.f_Lacks_init
  refine ⟨fd, F.ok (k := 0) sc_Lacks_init (fun vs H Q E h => by obtain ⟨_, _, e, _⟩ := h; cases e; rfl) (fun cdv A outer s H vs Q E hr h => ?_), F.bindsN (fun _ _ _ _ _ _ us hl => match us, hl with | [_, _], _ => rfl)⟩
  have S := sc_Lacks_init
  obtain ⟨a, y, rfl, ha, k⟩ := h
  refine ⟨_, (pss_one (ps_ost (pv 0) (pv 1))), ?_⟩
  walk_at "w"
  refine ⟨_, _, rfl, (oex_Lacks G).oc, (oex_Lacks G).fld, .inl ⟨ha, fun dx hdx nx => ?_⟩⟩
  exact k dx hdx nx
omit G in
theorem sc_NoDeed_init : FnScope ["self", "deed"] ["self", "deed"] (defScope s_NoDeed_init) := ⟨rfl, rfl, rfl, by decide +kernel, rfl, by decide +kernel, by decide +kernel⟩
theorem ok_NoDeed_init : ∃ fd, FnOk P w K mg base (L2.CX P w) 1 (He.ma K (He.ga K "NoDeed") "__init__") fd ["self", "deed"] (sp_einit K "NoDeed" "deed") ∧ Binds K fd ["self", "deed"] [] := by
  obtain ⟨fd, F⟩ := G.f_NoDeed_init
  refine ⟨fd, F.ok (k := 0) sc_NoDeed_init (fun vs H Q E h => by obtain ⟨_, _, e, _⟩ := h; cases e; rfl) (fun cdv A outer s H vs Q E hr h => ?_), F.bindsN (fun _ _ _ _ _ _ us hl => match us, hl with | [_, _], _ => rfl)⟩
  have S := sc_NoDeed_init
  obtain ⟨a, y, rfl, ha, k⟩ := h
  refine ⟨_, (pss_one (ps_ost (pv 0) (pv 1))), ?_⟩
  walk_at "w"
  refine ⟨_, _, rfl, (oex_NoDeed G).oc, (oex_NoDeed G).fld, .inl ⟨ha, fun dx hdx nx => ?_⟩⟩
  exact k dx hdx nx
end
/-- raise C(e) -/
def tRI (C : Addr) (W : WX) (te : TE) : TS := fun _ σ H => te σ H fun _ H1 => ∀ d H', Al H1 H' → W (.ref C) d σ H'
theorem pe_mono {X : Cx} {e : Expr} {te : TE} (he : PE X e te) : PE X e (fun σ H Q => ∃ Q0 : VK, te σ H Q0 ∧ ∀ v H1, Q0 v H1 → Q v H1) :=
  ⟨fun pins s σ H Q I ⟨Q0, h, m⟩ => thn (he.run pins s σ H Q0 I h) fun u s1 ⟨x, H1, I1, r, q⟩ => ⟨x, H1, I1, r, m _ _ q⟩⟩
theorem ps_rI {X : Cx} {W : WX} {x f y : Str} {fd : FuncData} {e : Expr} {te : TE} {p p1 pos : Pos} (T : OexF X.K x f) (F1 : FnOk X.prog X.w X.K X.mg X.base (L2.CX X.prog X.w) 1 (He.ma X.K (He.ga X.K x) "__init__") fd ["self", y] (sp_einit X.K x f)) (hb : Binds X.K fd ["self", y] []) (hr : Room 2 X.A)
    (tk : Takes X W) (hg : Gl X x) (hm : X.mg x = some (.ref (He.ga X.K x))) (he : PE X e te) (hc : X.calm = true) (hdb : (x == ("__debug__" : Str)) = false := by decide)
    (hst : starEach [e] X.env = (false, eval e X.env) :: starEach [] X.env := by rfl) (hpl : (backTo p1 (starEach [] X.env)).any (·.1) = false := by rfl) :
    PS X (.Raise (some (.Call (.Name x p) [e] [] p1)) none pos) (tRI (He.ga X.K x) W te) := by
  refine ⟨fun pins s σ H D I h => ?_⟩
  refine (ps_raise hc tk (pmk_oex T.oc T.ini T.ty F1 hr hb .nil passL hg hm (pa_cons (pe_mono he) pa_nil (by exact hst)) hdb hst hpl)).run pins s σ H D I ?_
  refine ⟨_, h, fun v H1 q => ⟨by show (1 : Nat) ≤ 1000; decide, fun a ha => ⟨a, v, rfl, upd_same, fun dx hdx nx => ⟨rfl, dx, [(f, v)], upd_same, ?_, ?_, ?_⟩⟩⟩⟩
  · rw [upd_ne nx, upd_same]
  · rw [upd_ne nx] at hdx; exact hdx
  · refine q _ _ (Al.of fun b o e => ?_)
    have nb : b ≠ a := ne_of_none e ha
    have hdx1 : H1 dx = none := by rw [upd_ne nx] at hdx; exact hdx
    have nd : b ≠ dx := ne_of_none e hdx1
    rw [upd_ne nd, del_ne nb, upd_ne nb, upd_ne nd, upd_ne nb]
    exact e
end Pk
end
/-! PkF0 -/
section
set_option maxHeartbeats 4000000
namespace Pk
open PySem PySem.Spec PyProof.Rows L2
local macro_rules | `(tactic| walk_at "c") => `(tactic| first | assumption | omega | exact rfl | (intro z; cases z; done) | (simp only [nV, V.int.injEq, V.str.injEq]; first | assumption | omega))
local macro_rules | `(tactic| walk_at "fld") => `(tactic| first
  | assumption
  | exact fld_k_tasks (by assumption) (by assumption) | exact fld_k_tree (by assumption) (by assumption) | exact fld_k_things (by assumption) (by assumption) | exact fld_ta_known (by assumption) (by assumption)
  | exact fld_t_rows (by assumption) (by assumption) (by assumption) | exact fld_t_run1 (by assumption) (by assumption) (by assumption) (by assumption) | exact fld_t_runs (by assumption) (by assumption) (by assumption) | exact fld_t_maker (by assumption) (by assumption) (by assumption) | exact fld_tr_rows (by assumption) (by assumption) | exact fld_tr_rb (by assumption) (by assumption) | exact fld_tr_ever (by assumption) (by assumption)
  | exact fld_h_number (by assumption) (by assumption) | exact fld_h_thing (by assumption) (by assumption) | exact fld_h_rights (by assumption) (by assumption) | exact fld_h_giver (by assumption) (by assumption) | exact fld_h_holder (by assumption) (by assumption))
local macro_rules | `(tactic| walk_at "get") => `(tactic| first
  | assumption
  | exact get_kn1 (by assumption) (by assumption) | exact get_kn0 (by assumption) (by assumption) | exact get_rw1 (by assumption) (by assumption) | exact get_rw0 (by assumption) (by assumption)
  | exact get_rb1 (by assumption) (by assumption) | exact get_rb0 (by assumption) (by assumption) | exact get_th1 (by assumption) (by assumption) | exact get_th0 (by assumption) (by assumption))
local macro_rules | `(tactic| walk_at "ins") => `(tactic| first | exact insTa (by assumption) rfl | exact insTr (by assumption) rfl)
local macro_rules | `(tactic| walk_at "s") => `(tactic| first
  | refine ⟨_, rfl, ?_⟩
  | refine ⟨rfl, ?_⟩
  | refine zI fun _ => ?_
  | with_reducible refine iteF ?_ | with_reducible refine iteT ?_
  | ((with_reducible refine iteDy ?_ ?_); focus (walk_at "c"; done)) | ((with_reducible refine iteDn ?_ ?_); focus (walk_at "c"; done)) | ((with_reducible refine iteNy ?_ ?_); focus (walk_at "c"; done)) | ((with_reducible refine iteNn ?_ ?_); focus (walk_at "c"; done))
  | refine fldI (by walk_at "fld") ?_
  | refine getI (by walk_at "get") ?_ | refine getS (by walk_at "get") ?_
  | refine ⟨by walk_at "ins", ?_⟩
  | refine ⟨_, _, _, _, true, rfl, .ty _, .base (.str _), kit_ty (by decide +kernel), ?_⟩
  | refine ⟨_, _, _, _, true, rfl, .ty _, .base (.int _), kit_ty (by decide +kernel), ?_⟩
  | refine ⟨_, _, _, _, false, rfl, .ty _, .base (.int _), kit_ty (by decide +kernel), ?_⟩
  | refine ⟨_, _, rfl, rfl, ?_⟩
  | refine ⟨_, _, rfl, rfl, trivial, ?_⟩)
local macro_rules | `(tactic| walk_at "w") => `(tactic| repeat (walk_at "s"))
section
variable {P : Program} {w : World} {K : PySem.W.Frag} {mg : Str → Option Value} {base : Heap} (G : Gx K mg base)
include G
omit G in
theorem bitOr_nat {a b : Nat} : Builtin.bitOr (a : Int) (b : Int) = ((a ||| b : Nat) : Int) := by
  rw [bitOr_and]
  have e := nat_or_add_and a b
  show (a : Int) + b - ((a &&& b : Nat) : Int) = _
  omega
omit G in
theorem bitXor_63 {b : Nat} (h : b ≤ 63) : Builtin.bitXor 63 (b : Int) = ((63 - b : Nat) : Int) := by
  rw [bitXor_and]
  have e : (63 &&& b : Nat) = b := by
    have : ∀ c : Fin 64, (63 &&& c.val : Nat) = c.val := by decide +kernel
    exact this ⟨b, by omega⟩
  show (63 : Int) + b - 2 * ((63 &&& b : Nat) : Int) = _
  rw [e]
  omega
omit G in
/-- rights within rights -/
theorem lack0 {a b : Nat} (ha : a ≤ 63) (hb : b ≤ 63) : a &&& (63 - b) = 0 ↔ a &&& b = a := by
  have : ∀ a b : Fin 64, (a.val &&& (63 - b.val) = 0 ↔ a.val &&& b.val = a.val) := by decide +kernel
  exact this ⟨a, by omega⟩ ⟨b, by omega⟩
def sp_is_whole (K : PySem.W.Frag) : Sp := fun vs H Q E => ∃ z, vs = [.int z] ∧ Q (.bl true) H
omit G in
theorem sc_is_whole : FnScope ["thing"] ["thing"] (defScope s_is_whole) := ⟨rfl, rfl, rfl, by decide +kernel, rfl, by decide +kernel, by decide +kernel⟩
theorem ok_is_whole : FnR P w K mg base (L2.CX P w) 1 (He.ga K "is_whole") (sp_is_whole K) := by
  refine mkF (k := 0) G.f_is_whole sc_is_whole (fun _ _ _ _ _ _ us hl => match us, hl with | [_], _ => rfl) (fun vs H Q E h => by repeat (first | (obtain ⟨e, _⟩ := h; cases e; rfl; done) | obtain ⟨_, h⟩ := h)) (fun cdv A outer s H vs Q E hr h => ?_)
  have S := sc_is_whole
  obtain ⟨z, rfl, k⟩ := h
  refine ⟨_, (pss_one (ps_ret (pe_and (pe_callB call_isi (by rfl) G.b_isinstance (by decide +kernel) (pa_cons (pv 0) (pa_cons (pe_ty (T := "int") rfl G.b_int (by decide +kernel)) pa_nil))) (pe_one (pe_not (pe_callB call_isi (by rfl) G.b_isinstance (by decide +kernel) (pa_cons (pv 0) (pa_cons (pe_ty (T := "bool") rfl G.b_bool (by decide +kernel)) pa_nil)))))))), ?_⟩
  walk_at "w"
  exact k
def sp_is_rights (K : PySem.W.Frag) : Sp := fun vs H Q E => ∃ z : Int, vs = [.int z] ∧ Q (.bl (decide (0 ≤ z ∧ z ≤ 63))) H
omit G in
theorem sc_is_rights : FnScope ["thing"] ["thing"] (defScope s_is_rights) := ⟨rfl, rfl, rfl, by decide +kernel, rfl, by decide +kernel, by decide +kernel⟩
theorem ok_is_rights : FnR P w K mg base (L2.CX P w) 2 (He.ga K "is_rights") (sp_is_rights K) := by
  refine mkF (k := 1) G.f_is_rights sc_is_rights (fun _ _ _ _ _ _ us hl => match us, hl with | [_], _ => rfl) (fun vs H Q E h => by repeat (first | (obtain ⟨e, _⟩ := h; cases e; rfl; done) | obtain ⟨_, h⟩ := h)) (fun cdv A outer s H vs Q E hr h => ?_)
  have S := sc_is_rights
  obtain ⟨z, rfl, k⟩ := h
  refine ⟨_, (pss_one (ps_ret (pe_and (pe_f (ok_is_whole G) (hr.mono (by omega)) rfl G.g_is_whole (kp_of G.f_is_whole) tkd (pa_cons (pv 0) pa_nil)) (pe_and (pe_cmpR op_le pe_int (pv 0) (nomark _)) (pe_one (pe_cmpR op_le (pv 0) (pe_ci rfl G.c_EACH) (nomark _))))))), ?_⟩
  walk_at "w"
  by_cases h0 : 0 ≤ z
  · walk_at "w"
    rw [show decide (0 ≤ z ∧ z ≤ 63) = decide (z ≤ 63) by simp [h0]] at k
    exact k
  · walk_at "w"
    rw [show decide (0 ≤ z ∧ z ≤ 63) = false by simp [h0]] at k
    exact k
def sp_missing (K : PySem.W.Frag) : Sp := fun vs H Q E => ∃ a b : Nat, vs = [nV a, nV b] ∧ b ≤ 63 ∧ Q (nV (a &&& (63 - b))) H
omit G in
theorem sc_missing : FnScope ["needed", "had"] ["needed", "had"] (defScope s_missing) := ⟨rfl, rfl, rfl, by decide +kernel, rfl, by decide +kernel, by decide +kernel⟩
theorem ok_missing : FnR P w K mg base (L2.CX P w) 1 (He.ga K "missing") (sp_missing K) := by
  refine mkF (k := 0) G.f_missing sc_missing (fun _ _ _ _ _ _ us hl => match us, hl with | [_, _], _ => rfl) (fun vs H Q E h => by repeat (first | (obtain ⟨e, _⟩ := h; cases e; rfl; done) | obtain ⟨_, h⟩ := h)) (fun cdv A outer s H vs Q E hr h => ?_)
  have S := sc_missing
  obtain ⟨a, b, rfl, hb, k⟩ := h
  refine ⟨_, (pss_one (ps_ret (pe_op op_and (pv 0) (pe_op op_xor (pe_ci rfl G.c_EACH) (pv 1))))), ?_⟩
  walk_at "w"
  have e : Builtin.bitXor 63 (b : Int) = ((63 - b : Nat) : Int) := bitXor_63 hb
  show Q (V.int (Builtin.bitAnd (a : Int) (Builtin.bitXor 63 (b : Int)))) H
  rw [e]
  exact k
def sp_narrowed (K : PySem.W.Frag) : Sp := fun vs H Q E => ∃ a b : Nat, vs = [nV a, nV b] ∧ Q (nV (a &&& b)) H
omit G in
theorem sc_narrowed : FnScope ["rights", "to"] ["rights", "to"] (defScope s_narrowed) := ⟨rfl, rfl, rfl, by decide +kernel, rfl, by decide +kernel, by decide +kernel⟩
theorem ok_narrowed : FnR P w K mg base (L2.CX P w) 1 (He.ga K "narrowed") (sp_narrowed K) := by
  refine mkF (k := 0) G.f_narrowed sc_narrowed (fun _ _ _ _ _ _ us hl => match us, hl with | [_, _], _ => rfl) (fun vs H Q E h => by repeat (first | (obtain ⟨e, _⟩ := h; cases e; rfl; done) | obtain ⟨_, h⟩ := h)) (fun cdv A outer s H vs Q E hr h => ?_)
  have S := sc_narrowed
  obtain ⟨a, b, rfl, k⟩ := h
  refine ⟨_, (pss_one (ps_ret (pe_op op_and (pv 0) (pv 1)))), ?_⟩
  walk_at "w"
  exact k
def abc : Str := "abcdefghijklmnopqrstuvwxyz"
def isName (s : Str) : Bool := decide (1 ≤ s.length) && decide (s.length ≤ 8) && s.cps.toList.all fun c => decide (c ∈ abc.cps.toList)
def sp_is_name (K : PySem.W.Frag) : Sp := fun vs H Q E => ∃ s, vs = [.str s] ∧ s.length ≤ 1000 ∧ ∀ H', Al H H' → Q (.bl (isName s)) H'
omit G in
theorem sc_is_name : FnScope ["thing", "sign"] ["thing"] (defScope s_is_name) := ⟨rfl, rfl, rfl, by decide +kernel, rfl, by decide +kernel, by decide +kernel⟩
theorem ok_is_name : FnR P w K mg base (L2.CX P w) 1 (He.ga K "is_name") (sp_is_name K) := by
  refine mkF (k := 0) G.f_is_name sc_is_name (fun _ _ _ _ _ _ us hl => match us, hl with | [_], _ => rfl) (fun vs H Q E h => by repeat (first | (obtain ⟨e, _⟩ := h; cases e; rfl; done) | obtain ⟨_, h⟩ := h)) (fun cdv A outer s H vs Q E hr h => ?_)
  have S := sc_is_name
  obtain ⟨z, rfl, hz, k⟩ := h
  refine ⟨_, (pss_cons (ps_if (PW.pt (pw_or (pt_not (pt_val (pe_callB call_isi (by rfl) G.b_isinstance (by decide +kernel) (pa_cons (pv 0) (pa_cons (pe_ty (T := "str") rfl G.b_str (by decide +kernel)) pa_nil))))) (pw_or (pt_cmpR op_lt (pe_callB call_len (by rfl) G.b_len PySem.boot_len (pa_cons (pv 0) pa_nil)) pe_int (nomark _)) (pw_or1 (pt_cmpR op_gt (pe_callB call_len (by rfl) G.b_len PySem.boot_len (pa_cons (pv 0) pa_nil)) (pe_ci rfl G.c_MOST_LETTERS) (nomark _)))))) (pss_one (ps_ret pe_bl)) pss_nil)
      (pss_one (ps_ret (pe_callB (cr_all rfl) (by rfl) G.b_all (by decide +kernel) (pa_cons (by exact (pe_lcz (own := [("sign", 1)]) rfl S.nd (pi_str (pv 0)) (blkOk_by (own := [("sign", 1)]) (N := ["thing", "sign"]) (sc := defScope s_is_name) (by decide +kernel)) (fun _ => (pg_name (i := 1) S.nd rfl (by first | exact Or.inl rfl | exact Or.inr rfl))) (fun _ => pts_nil) (fun _ => (pe_cmpR op_in_sign (pv 1) pe_str rfl)))) pa_nil))))), ?_⟩
  have hs : z.length ≤ sizeLine := by rw [sizeLine_eq]; omega
  have iN : ∀ b, isName z = b → ∀ H', Al H H' → Q (.bl b) H' := fun b e => e ▸ k
  walk_at "w"
  refine ⟨_, _, rfl, ⟨hs, rfl⟩, ?_⟩
  by_cases h1 : z.length < 1
  · have h1' : (z.length : Int) < 1 := by omega
    walk_at "w"
    exact iN _ (by unfold isName; rw [decide_eq_false (by omega)]; rfl) _ (Al.refl _)
  · have h1' : ¬ (z.length : Int) < 1 := by omega
    walk_at "w"
    refine ⟨_, _, rfl, ⟨hs, rfl⟩, ?_⟩
    by_cases h8 : z.length ≤ 8
    · have h8' : ¬ (8 : Int) < (z.length : Int) := by omega
      walk_at "w"
      refine lcR walk_str (fun i => (z.cps[i]?).map fun c => V.bl (decide (c ∈ abc.cps.toList))) hs (fun _ _ => trivial) (fun i x H2 H3 hi a y N1 N2 hy hn => ?_) (fun H2 D a e => ?_)
      · obtain ⟨rfl, c, hc, rfl⟩ := y
        rw [hc] at hy
        walk_at "w"
        exact hy _ _ rfl (Al.refl _)
      · walk_at "w"
        have e2 : (List.range z.cps.size).filterMap (fun i => (z.cps[i]?).map fun c => V.bl (decide (c ∈ abc.cps.toList))) = (z.cps.toList.map fun c => decide (c ∈ abc.cps.toList)).map V.bl := by
          have e3 := filterMap_range z.cps.toList (fun i => (z.cps[i]?).map fun c => V.bl (decide (c ∈ abc.cps.toList))) (fun c => some (V.bl (decide (c ∈ abc.cps.toList)))) (fun i c e => by
            rw [Array.getElem?_toList] at e
            rw [e]; rfl)
          rw [Array.length_toList] at e3
          rw [e3, List.map_map, List.filterMap_eq_map']
          rfl
        rw [e2] at e
        refine ⟨D, _, rfl, sqL_at e, ?_⟩
        refine iN _ ?_ _ a
        unfold isName
        rw [decide_eq_true (by omega : 1 ≤ z.length), decide_eq_true h8, List.all_map]
        rfl
    · have h8' : (8 : Int) < (z.length : Int) := by omega
      walk_at "w"
      exact iN _ (by unfold isName; rw [decide_eq_false h8]; simp) _ (Al.refl _)
def sp_is_value (K : PySem.W.Frag) : Sp := fun vs H Q E => vs = [.int 0] ∧ Q (.bl true) H
omit G in
theorem sc_is_value : FnScope ["thing"] ["thing"] (defScope s_is_value) := ⟨rfl, rfl, rfl, by decide +kernel, rfl, by decide +kernel, by decide +kernel⟩
theorem ok_is_value : FnR P w K mg base (L2.CX P w) 2 (He.ga K "is_value") (sp_is_value K) := by
  refine mkF (k := 1) G.f_is_value sc_is_value (fun _ _ _ _ _ _ us hl => match us, hl with | [_], _ => rfl) (fun vs H Q E h => by repeat (first | (obtain ⟨e, _⟩ := h; cases e; rfl; done) | obtain ⟨_, h⟩ := h)) (fun cdv A outer s H vs Q E hr h => ?_)
  have S := sc_is_value
  obtain ⟨rfl, k⟩ := h
  refine ⟨_, (pss_one (ps_ret (pe_and (pe_f (ok_is_whole G) (hr.mono (by omega)) rfl G.g_is_whole (kp_of G.f_is_whole) tkd (pa_cons (pv 0) pa_nil)) (pe_one (pe_cmpR op_le (pe_callB call_abs (by rfl) G.b_abs (by decide +kernel) (pa_cons (pv 0) pa_nil)) (pe_ci rfl G.c_MOST_VALUE) (nomark _)))))), ?_⟩
  walk_at "w"
  exact k
end
end Pk
end
/-! PkF1 -/
section
set_option maxHeartbeats 4000000
namespace Pk
open PySem PySem.Spec PyProof.Rows L2
local macro_rules | `(tactic| walk_at "c") => `(tactic| first | assumption | omega | exact rfl | (intro z; cases z; done) | (simp only [nV, V.int.injEq, V.str.injEq]; first | assumption | omega))
local macro_rules | `(tactic| walk_at "fld") => `(tactic| first
  | assumption
  | exact fld_k_tasks (by assumption) (by assumption) | exact fld_k_tree (by assumption) (by assumption) | exact fld_k_things (by assumption) (by assumption) | exact fld_ta_known (by assumption) (by assumption)
  | exact fld_t_rows (by assumption) (by assumption) (by assumption) | exact fld_t_run1 (by assumption) (by assumption) (by assumption) (by assumption) | exact fld_t_runs (by assumption) (by assumption) (by assumption) | exact fld_t_maker (by assumption) (by assumption) (by assumption) | exact fld_tr_rows (by assumption) (by assumption) | exact fld_tr_rb (by assumption) (by assumption) | exact fld_tr_ever (by assumption) (by assumption)
  | exact fld_h_number (by assumption) (by assumption) | exact fld_h_thing (by assumption) (by assumption) | exact fld_h_rights (by assumption) (by assumption) | exact fld_h_giver (by assumption) (by assumption) | exact fld_h_holder (by assumption) (by assumption))
local macro_rules | `(tactic| walk_at "get") => `(tactic| first
  | assumption
  | exact get_kn1 (by assumption) (by assumption) | exact get_kn0 (by assumption) (by assumption) | exact get_rw1 (by assumption) (by assumption) | exact get_rw0 (by assumption) (by assumption)
  | exact get_rb1 (by assumption) (by assumption) | exact get_rb0 (by assumption) (by assumption) | exact get_th1 (by assumption) (by assumption) | exact get_th0 (by assumption) (by assumption))
local macro_rules | `(tactic| walk_at "ins") => `(tactic| first | exact insTa (by assumption) rfl | exact insTr (by assumption) rfl)
local macro_rules | `(tactic| walk_at "s") => `(tactic| first
  | refine ⟨_, rfl, ?_⟩
  | refine ⟨rfl, ?_⟩
  | refine zI fun _ => ?_
  | with_reducible refine iteF ?_ | with_reducible refine iteT ?_
  | ((with_reducible refine iteDy ?_ ?_); focus (walk_at "c"; done)) | ((with_reducible refine iteDn ?_ ?_); focus (walk_at "c"; done)) | ((with_reducible refine iteNy ?_ ?_); focus (walk_at "c"; done)) | ((with_reducible refine iteNn ?_ ?_); focus (walk_at "c"; done))
  | refine fldI (by walk_at "fld") ?_
  | refine getI (by walk_at "get") ?_ | refine getS (by walk_at "get") ?_
  | refine ⟨by walk_at "ins", ?_⟩
  | refine ⟨_, _, _, _, true, rfl, .ty _, .base (.str _), kit_ty (by decide +kernel), ?_⟩
  | refine ⟨_, _, _, _, true, rfl, .ty _, .base (.int _), kit_ty (by decide +kernel), ?_⟩
  | refine ⟨_, _, _, _, false, rfl, .ty _, .base (.int _), kit_ty (by decide +kernel), ?_⟩
  | refine ⟨_, _, rfl, rfl, ?_⟩
  | refine ⟨_, _, rfl, rfl, trivial, ?_⟩)
local macro_rules | `(tactic| walk_at "w") => `(tactic| repeat (walk_at "s"))
section
variable {P : Program} {w : World} {K : PySem.W.Frag} {mg : Str → Option Value} {base : Heap} (G : Gx K mg base)
include G
def sp_running_one (K : PySem.W.Frag) : Sp := fun vs H Q E => ∃ tg m nm, vs = [.ref m.ta, .str nm] ∧ Rep K H tg m ∧ (¬ RunT m nm → Er K H E) ∧ (RunT m nm → Q (.ref (m.tka nm)) H)
omit G in
theorem sc_Tasks_running_one : FnScope ["self", "name"] ["self", "name"] (defScope s_Tasks_running_one) := ⟨rfl, rfl, rfl, by decide +kernel, rfl, by decide +kernel, by decide +kernel⟩
theorem ok_Tasks_running_one : FnR P w K mg base (L2.CX P w) 1 (He.ma K (He.ga K "Tasks") "running_one") (sp_running_one K) := by
  refine mkF (k := 0) G.f_Tasks_running_one sc_Tasks_running_one (fun _ _ _ _ _ _ us hl => match us, hl with | [_, _], _ => rfl) (fun vs H Q E h => by repeat (first | (obtain ⟨e, _⟩ := h; cases e; rfl; done) | obtain ⟨_, h⟩ := h)) (fun cdv A outer s H vs Q E hr h => ?_)
  have S := sc_Tasks_running_one
  obtain ⟨tg, m, nm, rfl, R, er, k⟩ := h
  refine ⟨_, (pss_cons (ps_if (PW.pt (pw_or (pt_not (pt_val (pe_callB call_isi (by rfl) G.b_isinstance (by decide +kernel) (pa_cons (pv 1) (pa_cons (pe_ty (T := "str") rfl G.b_str (by decide +kernel)) pa_nil))))) (pw_or (pt_cmp (pc_dnotin (hu_of hr) (pv 1) (pe_fd (pv 0)))) (pw_or1 (pt_not (pt_val (pe_fd (pe_dget (hu_of hr) (pe_fd (pv 0)) (pv 1) (fun _ _ => rfl))))))))) (pss_one (ps_raise rfl tkd (pmk_own PySem.F.excBase_ValueError G.x_NoTask.1 G.g_NoTask G.x_NoTask.2.1 (raises_own G.x_NoTask.2.2.1 G.x_NoTask.2.2.2) rfl))) pss_nil)
      (pss_one (ps_ret (pe_dget (hu_of hr) (pe_fd (pv 0)) (pv 1) (fun _ _ => rfl))))), ?_⟩
  by_cases h1 : nm ∈ m.names
  · by_cases h2 : (m.task nm).runs = true
    · walk_at "w"
      exact k ⟨h1, h2⟩
    · have h3 : (m.task nm).runs = false := by simpa using h2
      walk_at "w"
      exact er (fun h => h2 h.2) _ _ _ (xc G.e_NoTask) (Al.refl _)
  · walk_at "w"
    exact er (fun h => h1 h.1) _ _ _ (xc G.e_NoTask) (Al.refl _)
def sp_need (K : PySem.W.Frag) : Sp := fun vs H Q E => ∃ tg m nm, vs = [.ref m.ta, .str nm] ∧ Rep K H tg m ∧ (¬ RunT m nm → Er K H E) ∧ (RunT m nm → Q .non H)
omit G in
theorem sc_Tasks_need : FnScope ["self", "name"] ["self", "name"] (defScope s_Tasks_need) := ⟨rfl, rfl, rfl, by decide +kernel, rfl, by decide +kernel, by decide +kernel⟩
theorem ok_Tasks_need : FnR P w K mg base (L2.CX P w) 2 (He.ma K (He.ga K "Tasks") "need") (sp_need K) := by
  refine mkF (k := 1) G.f_Tasks_need sc_Tasks_need (fun _ _ _ _ _ _ us hl => match us, hl with | [_, _], _ => rfl) (fun vs H Q E h => by repeat (first | (obtain ⟨e, _⟩ := h; cases e; rfl; done) | obtain ⟨_, h⟩ := h)) (fun cdv A outer s H vs Q E hr h => ?_)
  have S := sc_Tasks_need
  obtain ⟨tg, m, nm, rfl, R, er, k⟩ := h
  refine ⟨_, (pss_one (ps_expr (pe_m (ok_Tasks_running_one G) (hr.mono (by omega)) G.cl_Tasks G.m_Tasks_running_one tkd (pv 0) (pa_cons (pv 1) pa_nil)))), ?_⟩
  walk_at "w"
  refine ⟨tg, m, nm, rfl, R, er, k⟩
def runL (m : Mo) : List Str := m.names.filter fun s => (m.task s).runs
def sp_running (K : PySem.W.Frag) : Sp := fun vs H Q E => ∃ tg m, vs = [.ref m.ta] ∧ Rep K H tg m ∧ Bd m ∧ H m.kn = some (.dK (knD m.names m.tka)) ∧ (∀ H' p, Al H H' → H' p = some (.lst ((runL m).map V.str)) → Q (.ref p) H')
omit G in
theorem sc_Tasks_running : FnScope ["self", "name", "task"] ["self"] (defScope s_Tasks_running) := ⟨rfl, rfl, rfl, by decide +kernel, rfl, by decide +kernel, by decide +kernel⟩
theorem ok_Tasks_running : FnR P w K mg base (L2.CX P w) 1 (He.ma K (He.ga K "Tasks") "running") (sp_running K) := by
  refine mkF (k := 0) G.f_Tasks_running sc_Tasks_running (fun _ _ _ _ _ _ us hl => match us, hl with | [_], _ => rfl) (fun vs H Q E h => by repeat (first | (obtain ⟨e, _⟩ := h; cases e; rfl; done) | obtain ⟨_, h⟩ := h)) (fun cdv A outer s H vs Q E hr h => ?_)
  have S := sc_Tasks_running
  obtain ⟨tg, m, rfl, R, B, hk, k⟩ := h
  refine ⟨_, (pss_one (ps_ret (pe_lock (by exact (pe_lcz (own := [("name", 1), ("task", 2)]) rfl S.nd (pi_items (pe_fd (pv 0))) (blkOk_by (own := [("name", 1), ("task", 2)]) (N := ["self", "name", "task"]) (sc := defScope s_Tasks_running) (by decide +kernel)) (fun _ => (pg_tup rfl (pgs_cons (pg_name (i := 1) S.nd rfl (by first | exact Or.inl rfl | exact Or.inr rfl)) (pgs_cons (pg_name (i := 2) S.nd rfl (by first | exact Or.inl rfl | exact Or.inr rfl)) pgs_nil)))) (fun _ => (pts_one (pt_val (pe_fd (pv 2))))) (fun _ => (pv 1))))))), ?_⟩
  have hl : (knD m.names m.tka).length = m.names.length := List.length_map _
  walk_at "w"
  refine ⟨m.kn, _, hk, trivial, fun od => ?_⟩
  have R1 := R.frzk (ob := od)
  walk_at "w"
  refine ⟨_, _, _, rfl, upd_same, ?_⟩
  refine lcR walk_items (fun i => (m.names[i]?).bind fun s => if (m.task s).runs = true then some (V.str s) else none) (by rw [hl, sizeLine_eq]; have := B.nms; omega) (fun H a => a.keep _ _ upd_same (fun ps z => by cases z)) (fun i x H2 H3 hi a y N1 N2 hy hn => ?_) (fun H2 D a e => ?_)
  · obtain ⟨T, kx, vx, rfl, hT, rfl, e1, e2⟩ := y
    obtain ⟨s, es, rfl, rfl, hs⟩ := kn_at e1 e2
    have a2 : Al H2 (upd H2 T (.tup [V.str s, V.ref (m.tka s)])) := .new hT
    have R2 := R1.al (a.trans a2)
    rw [es] at hy hn
    walk_at "w"
    refine tup2 (sqT_at upd_same) rfl ?_
    refine ⟨rfl, ?_⟩
    by_cases hr : (m.task s).runs = true
    · walk_at "w"
      exact hy _ _ (by simp [hr]) a2
    · have hr1 : (m.task s).runs = false := by simpa using hr
      walk_at "w"
      exact hn _ (by simp [hr]) a2
  · refine ⟨a.frz upd_same, ?_⟩
    refine k _ _ (Al.unlock hk trivial a) ?_
    have ne : D ≠ m.kn := fun z => by
      rw [z, a.frz upd_same] at e
      cases e
    rw [upd_ne ne, e]
    rw [hl, filterMap_range m.names _ (fun s => if (m.task s).runs = true then some (V.str s) else none) (fun i x e => by rw [e]; rfl)]
    congr 2
    unfold runL
    rw [filterMap_if]
def sp_names (K : PySem.W.Frag) : Sp := fun vs H Q E => ∃ tg m, vs = [.ref m.ta] ∧ Rep K H tg m ∧ (∀ H' p, Al H H' → H' p = some (.lst (m.names.map V.str)) → Q (.ref p) H')
omit G in
theorem sc_Tasks_names : FnScope ["self"] ["self"] (defScope s_Tasks_names) := ⟨rfl, rfl, rfl, by decide +kernel, rfl, by decide +kernel, by decide +kernel⟩
theorem ok_Tasks_names : FnR P w K mg base (L2.CX P w) 1 (He.ma K (He.ga K "Tasks") "names") (sp_names K) := by
  refine mkF (k := 0) G.f_Tasks_names sc_Tasks_names (fun _ _ _ _ _ _ us hl => match us, hl with | [_], _ => rfl) (fun vs H Q E h => by repeat (first | (obtain ⟨e, _⟩ := h; cases e; rfl; done) | obtain ⟨_, h⟩ := h)) (fun cdv A outer s H vs Q E hr h => ?_)
  have S := sc_Tasks_names
  obtain ⟨tg, m, rfl, R, k⟩ := h
  refine ⟨_, (pss_one (ps_ret (pe_callTy (call_listD rfl) (by rfl) G.b_list (by decide +kernel) (pa_cons (pe_fd (pv 0)) pa_nil)))), ?_⟩
  walk_at "w"
  refine ⟨_, _, rfl, R.kn, fun p hp => ?_⟩
  refine k _ _ (.new hp) ?_
  rw [upd_same]
  unfold knD
  rw [List.map_map]
  rfl
/-- the slot of a row -/
def slotAt (m : Mo) (nm : Str) (z : Int) : Option Nat := if 0 ≤ z ∧ z < 16 then ((m.task nm).rows[z.toNat]?).bind id else none
def sp_at (K : PySem.W.Frag) : Sp := fun vs H Q E => ∃ tg m nm z, vs = [.ref m.ta, .str nm, .int z] ∧ Rep K H tg m ∧ Bd m ∧ (¬ (RunT m nm ∧ (slotAt m nm z).isSome) → Er K H E) ∧ (∀ n, RunT m nm → slotAt m nm z = some n → Q (nV n) H)
omit G in
theorem sc_Tasks_at : FnScope ["self", "name", "slot", "rows"] ["self", "name", "slot"] (defScope s_Tasks_at) := ⟨rfl, rfl, rfl, by decide +kernel, rfl, by decide +kernel, by decide +kernel⟩
theorem ok_Tasks_at : FnR P w K mg base (L2.CX P w) 2 (He.ma K (He.ga K "Tasks") "at") (sp_at K) := by
  refine mkF (k := 1) G.f_Tasks_at sc_Tasks_at (fun _ _ _ _ _ _ us hl => match us, hl with | [_, _, _], _ => rfl) (fun vs H Q E h => by repeat (first | (obtain ⟨e, _⟩ := h; cases e; rfl; done) | obtain ⟨_, h⟩ := h)) (fun cdv A outer s H vs Q E hr h => ?_)
  have S := sc_Tasks_at
  obtain ⟨tg, m, nm, z, rfl, R, B, er, k⟩ := h
  refine ⟨_, (pss_cons (ps_set (i := 3) S.nd rfl (by first | exact Or.inl rfl | exact Or.inr rfl) (pe_fd (pe_m (ok_Tasks_running_one G) (hr.mono (by omega)) G.cl_Tasks G.m_Tasks_running_one tkd (pv 0) (pa_cons (pv 1) pa_nil))))
      (pss_cons (ps_if (PW.pt (pw_or (pt_not (pt_val (pe_callB call_isi (by rfl) G.b_isinstance (by decide +kernel) (pa_cons (pv 2) (pa_cons (pe_ty (T := "int") rfl G.b_int (by decide +kernel)) pa_nil))))) (pw_or (pt_val (pe_callB call_isi (by rfl) G.b_isinstance (by decide +kernel) (pa_cons (pv 2) (pa_cons (pe_ty (T := "bool") rfl G.b_bool (by decide +kernel)) pa_nil)))) (pw_or (pt_not (pt_chain op_le op_lt pe_int (pv 2) (pe_ci rfl G.c_SLOTS))) (pw_or1 (pt_cmpR op_isN (pe_ix ix_list (pv 3) (pv 2) (fun _ _ => rfl)) pe_non (nomark _))))))) (pss_one (ps_raise rfl tkd (pmk_own PySem.F.excBase_ValueError G.x_NoHandle.1 G.g_NoHandle G.x_NoHandle.2.1 (raises_own G.x_NoHandle.2.2.1 G.x_NoHandle.2.2.2) rfl))) pss_nil)
      (pss_one (ps_ret (pe_ix ix_list (pv 3) (pv 2) (fun _ _ => rfl)))))), ?_⟩
  walk_at "w"
  refine ⟨tg, m, nm, rfl, R, fun h => er fun q => h q.1, fun hq => ?_⟩
  have hm := hq.1
  have hl := B.rws nm hm
  have sl := sqL_at (K := K) (R.tsl hm)
  by_cases h0 : 0 ≤ z
  · obtain ⟨z, rfl⟩ := Int.eq_ofNat_of_zero_le h0
    by_cases h16 : z < 16
    · have h16' : (z : Int) < 16 := by omega
      obtain ⟨o, eo⟩ : ∃ o, (m.task nm).rows[z]? = some o := ⟨_, List.getElem?_eq_getElem (by omega)⟩
      have es : slotAt m nm (z : Int) = o := by unfold slotAt; rw [if_pos ⟨h0, h16'⟩, Int.toNat_natCast, eo]; rfl
      have ea : atI ((m.task nm).rows.map oV) (z : Int) = some (oV o) := atI_nat (by rw [List.getElem?_map, eo]; rfl)
      rw [es] at er k
      walk_at "w"
      refine ⟨_, _, _, _, rfl, rfl, sl, ea, ?_⟩
      cases o with
      | none =>
        walk_at "w"
        exact er (fun h => nomatch h.2) _ _ _ (xc G.e_NoHandle) (Al.refl _)
      | some n =>
        walk_at "w"
        exact ⟨_, _, _, _, rfl, rfl, sl, ea, k n hq rfl⟩
    · have es : slotAt m nm (z : Int) = none := by unfold slotAt; rw [if_neg (by omega)]
      rw [es] at er
      walk_at "w"
      exact er (fun h => nomatch h.2) _ _ _ (xc G.e_NoHandle) (Al.refl _)
  · have es : slotAt m nm z = none := by unfold slotAt; rw [if_neg (by omega)]
    rw [es] at er
    walk_at "w"
    exact er (fun h => nomatch h.2) _ _ _ (xc G.e_NoHandle) (Al.refl _)
def sp_free (K : PySem.W.Frag) : Sp := fun vs H Q E => ∃ tg m nm, vs = [.ref m.ta, .str nm] ∧ Rep K H tg m ∧ (¬ RunT m nm → Er K H E) ∧ (RunT m nm → Q (nV ((m.task nm).rows.countP (·.isNone))) H)
omit G in
theorem sc_Tasks_free : FnScope ["self", "name"] ["self", "name"] (defScope s_Tasks_free) := ⟨rfl, rfl, rfl, by decide +kernel, rfl, by decide +kernel, by decide +kernel⟩
theorem ok_Tasks_free : FnR P w K mg base (L2.CX P w) 2 (He.ma K (He.ga K "Tasks") "free") (sp_free K) := by
  refine mkF (k := 1) G.f_Tasks_free sc_Tasks_free (fun _ _ _ _ _ _ us hl => match us, hl with | [_, _], _ => rfl) (fun vs H Q E h => by repeat (first | (obtain ⟨e, _⟩ := h; cases e; rfl; done) | obtain ⟨_, h⟩ := h)) (fun cdv A outer s H vs Q E hr h => ?_)
  have S := sc_Tasks_free
  obtain ⟨tg, m, nm, rfl, R, er, k⟩ := h
  refine ⟨_, (pss_one (ps_ret (pe_bm PySem.F.plainAttrs_list PySem.F.slot_list_count PySem.F.type_list_count mt_countN (pe_fd (pe_m (ok_Tasks_running_one G) (hr.mono (by omega)) G.cl_Tasks G.m_Tasks_running_one tkd (pv 0) (pa_cons (pv 1) pa_nil))) (pa_cons pe_non pa_nil)))), ?_⟩
  walk_at "w"
  refine ⟨tg, m, nm, rfl, R, er, fun hq => ?_⟩
  have hm := hq.1
  walk_at "w"
  exact ⟨tyL (R.tsl hm), _, _, rfl, rfl, sqL_at (R.tsl hm), k hq⟩
/-- the taken slots of a task -/
def slotsOf (m : Mo) (nm : Str) : List (Nat × Nat) := (List.range 16).filterMap fun i => (((m.task nm).rows[i]?).bind id).map fun n => (i, n)
def SlR (H : Hp) (p : Nat × Nat) (v : V) : Prop := ∃ t, v = .ref t ∧ H t = some (.tup [nV p.1, nV p.2])
def sp_slots (K : PySem.W.Frag) : Sp := fun vs H Q E => ∃ tg m nm, vs = [.ref m.ta, .str nm] ∧ Rep K H tg m ∧ Bd m ∧ (¬ RunT m nm → Er K H E) ∧ (RunT m nm → ∀ H' p us, Al H H' → H' p = some (.lst us) → Ali (SlR H') (slotsOf m nm) us → Q (.ref p) H')
omit G in
theorem sc_Tasks_slots : FnScope ["self", "name", "slot", "number"] ["self", "name"] (defScope s_Tasks_slots) := ⟨rfl, rfl, rfl, by decide +kernel, rfl, by decide +kernel, by decide +kernel⟩
theorem ok_Tasks_slots : FnR P w K mg base (L2.CX P w) 2 (He.ma K (He.ga K "Tasks") "slots") (sp_slots K) := by
  refine mkF (k := 1) G.f_Tasks_slots sc_Tasks_slots (fun _ _ _ _ _ _ us hl => match us, hl with | [_, _], _ => rfl) (fun vs H Q E h => by repeat (first | (obtain ⟨e, _⟩ := h; cases e; rfl; done) | obtain ⟨_, h⟩ := h)) (fun cdv A outer s H vs Q E hr h => ?_)
  have S := sc_Tasks_slots
  obtain ⟨tg, m, nm, rfl, R, B, er, k⟩ := h
  refine ⟨_, (pss_one (ps_ret (by exact (pe_lcz (own := [("slot", 2), ("number", 3)]) rfl S.nd (pi_enum (by rfl) G.b_enumerate (pa_cons (pe_fd (pe_m (ok_Tasks_running_one G) (hr.mono (by omega)) G.cl_Tasks G.m_Tasks_running_one tkd (pv 0) (pa_cons (pv 1) pa_nil))) pa_nil)) (blkOk_by (own := [("slot", 2), ("number", 3)]) (N := ["self", "name", "slot", "number"]) (sc := defScope s_Tasks_slots) (by decide +kernel)) (fun _ => (pg_tup rfl (pgs_cons (pg_name (i := 2) S.nd rfl (by first | exact Or.inl rfl | exact Or.inr rfl)) (pgs_cons (pg_name (i := 3) S.nd rfl (by first | exact Or.inl rfl | exact Or.inr rfl)) pgs_nil)))) (fun _ => (pts_one (pt_cmpR op_notN (pv 3) pe_non (nomark _)))) (fun _ => (pe_tup (pa_cons (pv 2) (pa_cons (pv 3) pa_nil)))))))), ?_⟩
  walk_at "w"
  refine ⟨tg, m, nm, rfl, R, er, fun hq => ?_⟩
  have hm := hq.1
  have hl : ((m.task nm).rows.map oV).length = 16 := by rw [List.length_map]; exact B.rws nm hm
  have sl := sqL_at (K := K) (R.tsl hm)
  walk_at "w"
  refine ⟨_, _, rfl, sl, ?_⟩
  refine lcA walk_enum (fun i => (((m.task nm).rows[i]?).bind id).map fun n => (i, n)) SlR (fun H H' a v al ⟨t, e, h⟩ => ⟨t, e, al.tup h⟩) (fun H D a v o hD o' ⟨t, e, h⟩ => ⟨t, e, ?_⟩) (by rw [hl, sizeLine_eq]; omega) (fun H a => sqL_at (a.lst (R.tsl hm))) (fun i x H2 H3 hi a y N1 N2 hy hn => ?_) (fun H2 D us a e q => ?_)
  · rw [upd_ne (fun z => by rw [z, hD] at h; cases h)]
    exact h
  · obtain ⟨T, kx, vx, rfl, hT, rfl, e1, e2⟩ := y
    cases e1
    have e2 : ((m.task nm).rows.map oV)[i]? = some vx := e2
    rw [List.getElem?_map] at e2
    cases eo : (m.task nm).rows[i]? with
    | none => rw [eo] at e2; cases e2
    | some o =>
      rw [eo] at e2 hy hn
      cases e2
      walk_at "w"
      refine tup2 (sqT_at upd_same) rfl ?_
      refine ⟨rfl, ?_⟩
      cases o with
      | none =>
        walk_at "w"
        exact hn _ rfl (.new hT)
      | some n =>
        walk_at "w"
        refine ⟨sz2, fun T2 hT2 => ?_⟩
        exact hy (i, n) _ _ rfl ⟨T2, rfl, upd_same⟩ ((Al.new hT).newT hT2)
  · rw [hl] at q
    exact k hq _ _ _ a e q
def freeAt (m : Mo) (nm : Str) (j : Nat) : Prop := (m.task nm).rows[j]? = some none ∧ ∀ i, i < j → (m.task nm).rows[i]? ≠ some none
def sp_put (K : PySem.W.Frag) : Sp := fun vs H Q E => ∃ tg m nm n, vs = [.ref m.ta, .str nm, nV n] ∧ Rep K H tg m ∧ Bd m ∧ RunT m nm ∧ none ∈ (m.task nm).rows ∧
  (∀ j H', freeAt m nm j → Stp H tg H' tg → Rep K H' tg (m.setRows nm ((m.task nm).rows.set j (some n))) → (∀ a, a ≠ m.tsa nm → H' a = H a) → Q (nV j) H')
omit G in
theorem sc_Tasks_put : FnScope ["self", "name", "number", "rows", "slot"] ["self", "name", "number"] (defScope s_Tasks_put) := ⟨rfl, rfl, rfl, by decide +kernel, rfl, by decide +kernel, by decide +kernel⟩
theorem ok_Tasks_put : FnR P w K mg base (L2.CX P w) 2 (He.ma K (He.ga K "Tasks") "put") (sp_put K) := by
  refine mkF (k := 1) G.f_Tasks_put sc_Tasks_put (fun _ _ _ _ _ _ us hl => match us, hl with | [_, _, _], _ => rfl) (fun vs H Q E h => by repeat (first | (obtain ⟨e, _⟩ := h; cases e; rfl; done) | obtain ⟨_, h⟩ := h)) (fun cdv A outer s H vs Q E hr h => ?_)
  have S := sc_Tasks_put
  obtain ⟨tg, m, nm, n, rfl, R, B, hq, hn, k⟩ := h
  refine ⟨_, (pss_cons (ps_set (i := 3) S.nd rfl (by first | exact Or.inl rfl | exact Or.inr rfl) (pe_fd (pe_m (ok_Tasks_running_one G) (hr.mono (by omega)) G.cl_Tasks G.m_Tasks_running_one tkd (pv 0) (pa_cons (pv 1) pa_nil))))
      (pss_cons (ps_if (pt_cmpR op_notIn_seq pe_non (pv 3) rfl) (pss_one (ps_raise rfl tkd (pmk_own PySem.F.excBase_ValueError G.x_TooMany.1 G.g_TooMany G.x_TooMany.2.1 (raises_own G.x_TooMany.2.2.1 G.x_TooMany.2.2.2) rfl))) pss_nil)
      (pss_cons (ps_set (i := 4) S.nd rfl (by first | exact Or.inl rfl | exact Or.inr rfl) (pe_bm PySem.F.plainAttrs_list PySem.F.slot_list_index PySem.F.type_list_index mt_index (pv 3) (pa_cons pe_non pa_nil)))
      (pss_cons (ps_asg (pv 2) (pg_sub (pv 3) (pv 4) set_list))
      (pss_one (ps_ret (pv 4))))))), ?_⟩
  walk_at "w"
  refine ⟨tg, m, nm, rfl, R, fun h => absurd hq h, fun hq => ?_⟩
  have hm := hq.1
  obtain ⟨j, hj⟩ := free_ex hn
  have hj' : ((m.task nm).rows.map oV)[j]? = some V.non := by rw [List.getElem?_map, hj.1]; rfl
  walk_at "w"
  refine ⟨_, _, rfl, .inl (sqL_at (R.tsl hm)), rfl, flat_oV, ?_⟩
  rw [if_pos rfl, inV_oV.mpr hn]
  walk_at "w"
  refine ⟨tyL (R.tsl hm), ?_⟩
  walk_at "w"
  refine ⟨_, _, _, j, _, rfl, rfl, sqL_at (R.tsl hm), rfl, flat_oV, hj', rfl, ?_, ?_⟩
  · intro i z hi e
    rw [List.getElem?_map] at e
    cases eo : (m.task nm).rows[i]? with
    | none => rw [eo] at e; cases e
    | some o =>
      rw [eo] at e
      cases e
      cases o with
      | none => exact absurd eo (hj.2 i hi)
      | some n => rfl
  walk_at "w"
  refine ⟨_, _, _, j, rfl, rfl, R.tsl hm, ixN_nat (lt_of_get hj'), ?_⟩
  walk_at "w"
  have e0 : ((m.task nm).rows.map oV).set j (nV n) = (((m.task nm).rows.set j (some n)).map oV) := by rw [List.map_set]; rfl
  rw [e0]
  exact k j _ hj (Stp.setRows R hm _) (R.setRows hm _) fun a ha => upd_ne ha
end
end Pk
end
/-! PkF2 -/
section
set_option maxHeartbeats 4000000
namespace Pk
open PySem PySem.Spec PyProof.Rows L2
local macro_rules | `(tactic| walk_at "c") => `(tactic| first | assumption | omega | exact rfl | (intro z; cases z; done) | (simp only [nV, V.int.injEq, V.str.injEq]; first | assumption | omega))
local macro_rules | `(tactic| walk_at "fld") => `(tactic| first
  | assumption
  | exact fld_k_tasks (by assumption) (by assumption) | exact fld_k_tree (by assumption) (by assumption) | exact fld_k_things (by assumption) (by assumption) | exact fld_ta_known (by assumption) (by assumption)
  | exact fld_t_rows (by assumption) (by assumption) (by assumption) | exact fld_t_run1 (by assumption) (by assumption) (by assumption) (by assumption) | exact fld_t_runs (by assumption) (by assumption) (by assumption) | exact fld_t_maker (by assumption) (by assumption) (by assumption) | exact fld_tr_rows (by assumption) (by assumption) | exact fld_tr_rb (by assumption) (by assumption) | exact fld_tr_ever (by assumption) (by assumption)
  | exact fld_h_number (by assumption) (by assumption) | exact fld_h_thing (by assumption) (by assumption) | exact fld_h_rights (by assumption) (by assumption) | exact fld_h_giver (by assumption) (by assumption) | exact fld_h_holder (by assumption) (by assumption))
local macro_rules | `(tactic| walk_at "get") => `(tactic| first
  | assumption
  | exact get_kn1 (by assumption) (by assumption) | exact get_kn0 (by assumption) (by assumption) | exact get_rw1 (by assumption) (by assumption) | exact get_rw0 (by assumption) (by assumption)
  | exact get_rb1 (by assumption) (by assumption) | exact get_rb0 (by assumption) (by assumption) | exact get_th1 (by assumption) (by assumption) | exact get_th0 (by assumption) (by assumption))
local macro_rules | `(tactic| walk_at "ins") => `(tactic| first | exact insTa (by assumption) rfl | exact insTr (by assumption) rfl)
local macro_rules | `(tactic| walk_at "s") => `(tactic| first
  | refine ⟨_, rfl, ?_⟩
  | refine ⟨rfl, ?_⟩
  | refine zI fun _ => ?_
  | with_reducible refine iteF ?_ | with_reducible refine iteT ?_
  | ((with_reducible refine iteDy ?_ ?_); focus (walk_at "c"; done)) | ((with_reducible refine iteDn ?_ ?_); focus (walk_at "c"; done)) | ((with_reducible refine iteNy ?_ ?_); focus (walk_at "c"; done)) | ((with_reducible refine iteNn ?_ ?_); focus (walk_at "c"; done))
  | refine fldI (by walk_at "fld") ?_
  | refine getI (by walk_at "get") ?_ | refine getS (by walk_at "get") ?_
  | refine ⟨by walk_at "ins", ?_⟩
  | refine ⟨_, _, _, _, true, rfl, .ty _, .base (.str _), kit_ty (by decide +kernel), ?_⟩
  | refine ⟨_, _, _, _, true, rfl, .ty _, .base (.int _), kit_ty (by decide +kernel), ?_⟩
  | refine ⟨_, _, _, _, false, rfl, .ty _, .base (.int _), kit_ty (by decide +kernel), ?_⟩
  | refine ⟨_, _, rfl, rfl, ?_⟩
  | refine ⟨_, _, rfl, rfl, trivial, ?_⟩)
local macro_rules | `(tactic| walk_at "w") => `(tactic| repeat (walk_at "s"))
section
variable {P : Program} {w : World} {K : PySem.W.Frag} {mg : Str → Option Value} {base : Heap} (G : Gx K mg base)
include G
/-- a new task's object -/
def newTk (mk : Str) : Tk := ⟨mk, true, List.replicate 16 none⟩
def sp_Task_init (K : PySem.W.Frag) : Sp := fun vs H Q E => ∃ x dx mk, vs = [.ref x, .str mk] ∧ H x = some (.ins (He.ga K "Task") dx []) ∧
  ∀ H' sa, H sa = none → H' x = some (.ins (He.ga K "Task") dx (tkF (newTk mk) sa)) → H' sa = some (.lst ((newTk mk).rows.map oV)) → (∀ b o, b ≠ x → H b = some o → H' b = some o) → Q .non H'
omit G in
theorem sc_Task_init : FnScope ["self", "maker"] ["self", "maker"] (defScope s_Task_init) := ⟨rfl, rfl, rfl, by decide +kernel, rfl, by decide +kernel, by decide +kernel⟩
theorem ok_Task_init : MkR P w K mg base 1 (He.ga K "Task") (sp_Task_init K) := by
  refine mkI (k := 0) G.k_Task G.f_Task_init sc_Task_init (fun _ _ _ _ _ _ us hl => match us, hl with | [_, _], _ => rfl) (fun vs H Q E h => by repeat (first | (obtain ⟨e, _⟩ := h; cases e; rfl; done) | obtain ⟨_, h⟩ := h)) (fun cdv A outer s H vs Q E hr h => ?_)
  have S := sc_Task_init
  obtain ⟨x, dx, mk, rfl, hx, k⟩ := h
  refine ⟨_, (pss_cons (ps_fld (pv 0) (pv 1) rfl)
      (pss_cons (ps_fld (pv 0) pe_bl rfl)
      (pss_one (ps_fld (pv 0) (pe_op op_rep (pe_lst (pa_cons pe_non pa_nil)) (pe_ci rfl G.c_SLOTS)) rfl)))), ?_⟩
  walk_at "w"
  refine ⟨_, _, _, _, rfl, hx, G.cl_Task, G.n_Task_maker, by decide, ?_⟩
  walk_at "w"
  refine ⟨_, _, _, _, rfl, upd_same, G.cl_Task, G.n_Task_runs, len_lt (len_putF (n := 1) Nat.zero_lt_one) (by decide), ?_⟩
  walk_at "w"
  refine ⟨sz1, fun p hp => ?_⟩
  walk_at "w"
  refine ⟨_, _, _, rfl, rfl, upd_same, by decide, by decide, by rw [sizeLine_eq]; decide, fun q hq => ?_⟩
  walk_at "w"
  have hx1 : (L2.upd (L2.upd H x (.ins (He.ga K "Task") dx (putF "maker" (V.str mk) []))) x (.ins (He.ga K "Task") dx (putF "runs" (V.bl true) (putF "maker" (V.str mk) [])))) x = some (.ins (He.ga K "Task") dx (putF "runs" (V.bl true) (putF "maker" (V.str mk) []))) := upd_same
  have np : x ≠ p := fun z => by rw [← z, upd_same] at hp; cases hp
  have nq : x ≠ q := fun z => by rw [← z, upd_ne np, upd_same] at hq; cases hq
  have hq0 : H q = none := by
    have hpq : q ≠ p := fun z => by rw [z, upd_same] at hq; cases hq
    rw [upd_ne hpq, upd_ne nq.symm, upd_ne nq.symm] at hq
    exact hq
  have hp0 : H p = none := by
    rw [upd_ne np.symm, upd_ne np.symm] at hp
    exact hp
  refine ⟨_, _, _, _, rfl, (upd_ne nq).trans ((upd_ne np).trans hx1), G.cl_Task, G.n_Task_rows, len_lt (len_putF (len_putF (n := 1) Nat.zero_lt_one)) (by decide), ?_⟩
  walk_at "w"
  refine k _ q hq0 (by rw [upd_same]; rfl) (by rw [upd_ne nq.symm, upd_same]; rfl) (fun b o hb e => ?_)
  rw [upd_ne hb, upd_ne (ne_of_none e hq0), upd_ne (ne_of_none e hp0), upd_ne hb, upd_ne hb]
  exact e
def sp_Tasks_init (K : PySem.W.Frag) : Sp := fun vs H Q E => ∃ x dx, vs = [.ref x] ∧ H x = some (.ins (He.ga K "Tasks") dx []) ∧
  ∀ H' kn, H kn = none → H' x = some (.ins (He.ga K "Tasks") dx (taF kn)) → H' kn = some (.dK []) → (∀ b o, b ≠ x → H b = some o → H' b = some o) → Q .non H'
omit G in
theorem sc_Tasks_init : FnScope ["self"] ["self"] (defScope s_Tasks_init) := ⟨rfl, rfl, rfl, by decide +kernel, rfl, by decide +kernel, by decide +kernel⟩
theorem ok_Tasks_init : MkR P w K mg base 1 (He.ga K "Tasks") (sp_Tasks_init K) := by
  refine mkI (k := 0) G.k_Tasks G.f_Tasks_init sc_Tasks_init (fun _ _ _ _ _ _ us hl => match us, hl with | [_], _ => rfl) (fun vs H Q E h => by repeat (first | (obtain ⟨e, _⟩ := h; cases e; rfl; done) | obtain ⟨_, h⟩ := h)) (fun cdv A outer s H vs Q E hr h => ?_)
  have S := sc_Tasks_init
  obtain ⟨x, dx, rfl, hx, k⟩ := h
  refine ⟨_, (pss_one (ps_fld (pv 0) pe_dnewK rfl)), ?_⟩
  walk_at "w"
  refine fun p hp => ?_
  have np : x ≠ p := ne_of_none hx hp
  walk_at "w"
  refine ⟨_, _, _, _, rfl, (upd_ne np).trans hx, G.cl_Tasks, G.n_Tasks_known, by decide, ?_⟩
  walk_at "w"
  refine k _ p hp (by rw [upd_same]; rfl) (by rw [upd_ne np.symm, upd_same]) (fun b o hb e => by rw [upd_ne hb, upd_ne (ne_of_none e hp)]; exact e)
def AddOk (m : Mo) (nm mk : Str) : Prop := isName nm = true ∧ nm ∉ m.names ∧ (mk ≠ "" → RunT m mk) ∧ (runL m).length < 12
def sp_added (K : PySem.W.Frag) : Sp := fun vs H Q E => ∃ tg m nm mk, vs = [.ref m.ta, .str nm, .str mk] ∧ Rep K H tg m ∧ Bd m ∧ H m.kn = some (.dK (knD m.names m.tka)) ∧ nm.length ≤ 1000 ∧ mk.length ≤ 1000 ∧ (¬ AddOk m nm mk → Er K H E) ∧
  (AddOk m nm mk → ∀ H' tg' x sa, Stp H tg H' tg' → Rep K H' tg' (m.addTask nm mk x sa) → H' m.kn = some (.dK (knD (m.addTask nm mk x sa).names (m.addTask nm mk x sa).tka)) → (∀ o, H m.th = some o → nt o → H' m.th = some o) → Q .non H')
omit G in
theorem sc_Tasks_added : FnScope ["self", "name", "maker"] ["self", "name", "maker"] (defScope s_Tasks_added) := ⟨rfl, rfl, rfl, by decide +kernel, rfl, by decide +kernel, by decide +kernel⟩
theorem ok_Tasks_added : FnR P w K mg base (L2.CX P w) 3 (He.ma K (He.ga K "Tasks") "added") (sp_added K) := by
  refine mkF (k := 2) G.f_Tasks_added sc_Tasks_added (fun _ _ _ _ _ _ us hl => match us, hl with | [_, _, _], _ => rfl) (fun vs H Q E h => by repeat (first | (obtain ⟨e, _⟩ := h; cases e; rfl; done) | obtain ⟨_, h⟩ := h)) (fun cdv A outer s H vs Q E hr h => ?_)
  have S := sc_Tasks_added
  obtain ⟨tg, m, nm, mk, rfl, R, B, hk, hnl, hml, er, k⟩ := h
  refine ⟨_, (pss_cons (ps_if (pt_not (pt_val (pe_f (ok_is_name G) (hr.mono (by omega)) rfl G.g_is_name (kp_of G.f_is_name) tkd (pa_cons (pv 1) pa_nil)))) (pss_one (ps_raise rfl tkd (pmk_own PySem.F.excBase_ValueError G.x_NoName.1 G.g_NoName G.x_NoName.2.1 (raises_own G.x_NoName.2.2.1 G.x_NoName.2.2.2) rfl))) pss_nil)
      (pss_cons (ps_if (pt_cmp (pc_din (hu_of hr) (pv 1) (pe_fd (pv 0)))) (pss_one (ps_raise rfl tkd (pmk_own PySem.F.excBase_ValueError G.x_Taken.1 G.g_Taken G.x_Taken.2.1 (raises_own G.x_Taken.2.2.1 G.x_Taken.2.2.2) rfl))) pss_nil)
      (C8.pss_cut (ps_if (pt_cmpR op_ne (pv 2) pe_str (nomark _)) (pss_one (ps_expr (pe_m (ok_Tasks_need G) (hr.mono (by omega)) G.cl_Tasks G.m_Tasks_need tkd (pv 0) (pa_cons (pv 2) pa_nil)))) pss_nil)
      (pss_cons (ps_if (pt_cmpR op_ge (pe_callB call_len (by rfl) G.b_len PySem.boot_len (pa_cons (pe_m0 (ok_Tasks_running G) (hr.mono (by omega)) G.cl_Tasks G.m_Tasks_running tkd (pv 0)) pa_nil)) (pe_ci rfl G.c_MOST_TASKS) (nomark _)) (pss_one (ps_raise rfl tkd (pmk_own PySem.F.excBase_ValueError G.x_TooMany.1 G.g_TooMany G.x_TooMany.2.1 (raises_own G.x_TooMany.2.2.1 G.x_TooMany.2.2.2) rfl))) pss_nil)
      (pss_one (ps_dput (hu_of hr) (pe_fd (pv 0)) (pv 1) (pe_mk (ok_Task_init G) (hr.mono (by omega)) rfl G.g_Task (pa_cons (pv 2) pa_nil)) rfl)))))), ?_⟩
  walk_at "w"
  refine ⟨hnl, fun H1 a1 => ?_⟩
  have R1 := R.al a1
  have er1 : ∀ c, Xc K c → ¬ AddOk m nm mk → ∀ H', Al H H' → E c none H' := fun c hc n H' a => er n c none H' hc a
  by_cases hN : isName nm = true
  · rw [hN]
    walk_at "w"
    by_cases hm : nm ∈ m.names
    · walk_at "w"
      exact er1 _ (xc G.e_Taken) (fun h => h.2.1 hm) _ a1
    · walk_at "w"
      refine ⟨fun σ' H' => σ' = L2.start ["self", "name", "maker"] [V.ref m.ta, V.str nm, V.str mk] ∧ H' = H1 ∧ (mk ≠ "" → RunT m mk), ?_, ?_⟩
      · by_cases he : mk = ""
        · walk_at "w"
          exact fun z => absurd he z
        · walk_at "w"
          exact ⟨tg, m, mk, rfl, R1, fun h c d H' hc a => er (fun q => h (q.2.2.1 he)) c d H' hc (a1.trans a), fun h => ⟨rfl, rfl, fun _ => h⟩⟩
      · rintro σ' H' ⟨rfl, rfl, hmk⟩
        walk_at "w"
        refine ⟨tg, m, rfl, R1, B, a1.dK hk, fun H2 p a2 e2 => ?_⟩
        walk_at "w"
        refine ⟨_, _, rfl, .inl ⟨_, sqL_at e2, rfl⟩, ?_⟩
        rw [List.length_map]
        by_cases h12 : (12 : Int) ≤ (runL m).length
        · walk_at "w"
          exact er1 _ (xc G.e_TooMany) (fun h => absurd h.2.2.2 (by omega)) _ (a1.trans a2)
        · walk_at "w"
          have R2 := R1.al a2
          have ok : AddOk m nm mk := ⟨hN, hm, hmk, by omega⟩
          refine fun x dx hx hdx nx => ⟨x, dx, mk, rfl, upd_same, fun H3 sa hsa e3 e4 kp => ⟨rfl, ?_⟩⟩
          have hx2 : ∀ b o, H2 b = some o → b ≠ x := fun b o e => ne_of_none e hx
          have a3 : Al H2 H3 := Al.of fun b o e => kp b o (hx2 b o e) (by rw [upd_ne (hx2 b o e), upd_ne (ne_of_none e hdx)]; exact e)
          have nsx : sa ≠ x := fun z => by rw [z, upd_same] at hsa; cases hsa
          have hsa2 : H2 sa = none := by
            rw [upd_ne nsx] at hsa
            by_cases z : sa = dx
            · rw [z, upd_same] at hsa; cases hsa
            · rw [upd_ne z] at hsa; exact hsa
          have R3 := R2.al a3
          have a4 := a1.trans (a2.trans a3)
          have hk3 := a4.dK hk
          have hk2 := (a1.trans a2).dK hk
          have nkx : m.kn ≠ x := hx2 _ _ hk2
          have nks : m.kn ≠ sa := ne_of_none hk2 hsa2
          walk_at "w"
          have hv : valV (knD m.names m.tka) (Sum.inr nm) = none := by rw [val_kn, if_neg hm]
          refine ⟨_, _, rfl, DPut.k (k := Sum.inr nm) hk3 (by unfold knD; rw [List.length_map, sizeLine_eq]; have := B.nms; omega), ?_⟩
          have c : Chg [.kn, .tsk nm, .tsl nm] H tg (L2.upd H3 m.kn (.dK (putK (knD m.names m.tka) (Sum.inr nm) (V.ref x)))) (tset (tset tg x (.tsk nm)) sa (.tsl nm)) :=
            ((((Chg.refl.al a4).upd R.kn_tag (by simp) hk3 trivial).adopt ((a1.trans a2).free hx)).adopt ((a1.trans a2).free hsa2))
          have ek : (L2.upd H3 m.kn (.dK (putK (knD m.names m.tka) (Sum.inr nm) (V.ref x)))) m.kn = some (.dK (knD m.names m.tka ++ [((Sum.inr nm : Key), V.ref x)])) := by rw [upd_same, putK_new _ hv]
          refine k ok _ _ x sa c.stp (R.addTask (dx := dx) hm c ek ?_ ?_ ?_ ?_ tset_same) ?_ ?_
          · exact (upd_ne nkx.symm).trans e3
          · exact (upd_ne nks.symm).trans e4
          · rw [tset_ne nks, tset_ne nkx]; exact R.kn_tag
          · rw [tset_ne nsx.symm]; exact tset_same
          · rw [ek]
            simp only [Mo.addTask]
            rw [knD_add hm]
          · exact fun o z n => c.keep _ _ z n (fun r hr hm => by rw [R.th_tag] at hr; cases hr; simp at hm)
  · have hN : isName nm = false := by simpa using hN
    rw [hN]
    walk_at "w"
    exact er1 _ (xc G.e_NoName) (fun h => by rw [h.1] at hN; cases hN) _ a1
end
end Pk
end
/-! PkF3 -/
section
set_option maxHeartbeats 4000000
namespace Pk
open PySem PySem.Spec PyProof.Rows L2
local macro_rules | `(tactic| walk_at "c") => `(tactic| first | assumption | omega | exact rfl | (intro z; cases z; done) | (simp only [nV, V.int.injEq, V.str.injEq]; first | assumption | omega))
local macro_rules | `(tactic| walk_at "fld") => `(tactic| first
  | assumption
  | exact fld_k_tasks (by assumption) (by assumption) | exact fld_k_tree (by assumption) (by assumption) | exact fld_k_things (by assumption) (by assumption) | exact fld_ta_known (by assumption) (by assumption)
  | exact fld_t_rows (by assumption) (by assumption) (by assumption) | exact fld_t_run1 (by assumption) (by assumption) (by assumption) (by assumption) | exact fld_t_runs (by assumption) (by assumption) (by assumption) | exact fld_t_maker (by assumption) (by assumption) (by assumption) | exact fld_tr_rows (by assumption) (by assumption) | exact fld_tr_rb (by assumption) (by assumption) | exact fld_tr_ever (by assumption) (by assumption)
  | exact fld_h_number (by assumption) (by assumption) | exact fld_h_thing (by assumption) (by assumption) | exact fld_h_rights (by assumption) (by assumption) | exact fld_h_giver (by assumption) (by assumption) | exact fld_h_holder (by assumption) (by assumption))
local macro_rules | `(tactic| walk_at "get") => `(tactic| first
  | assumption
  | exact get_kn1 (by assumption) (by assumption) | exact get_kn0 (by assumption) (by assumption) | exact get_rw1 (by assumption) (by assumption) | exact get_rw0 (by assumption) (by assumption)
  | exact get_rb1 (by assumption) (by assumption) | exact get_rb0 (by assumption) (by assumption) | exact get_th1 (by assumption) (by assumption) | exact get_th0 (by assumption) (by assumption))
local macro_rules | `(tactic| walk_at "ins") => `(tactic| first | exact insTa (by assumption) rfl | exact insTr (by assumption) rfl)
local macro_rules | `(tactic| walk_at "s") => `(tactic| first
  | refine ⟨_, rfl, ?_⟩
  | refine ⟨rfl, ?_⟩
  | refine zI fun _ => ?_
  | with_reducible refine iteF ?_ | with_reducible refine iteT ?_
  | ((with_reducible refine iteDy ?_ ?_); focus (walk_at "c"; done)) | ((with_reducible refine iteDn ?_ ?_); focus (walk_at "c"; done)) | ((with_reducible refine iteNy ?_ ?_); focus (walk_at "c"; done)) | ((with_reducible refine iteNn ?_ ?_); focus (walk_at "c"; done))
  | refine fldI (by walk_at "fld") ?_
  | refine getI (by walk_at "get") ?_ | refine getS (by walk_at "get") ?_
  | refine ⟨by walk_at "ins", ?_⟩
  | refine ⟨_, _, _, _, true, rfl, .ty _, .base (.str _), kit_ty (by decide +kernel), ?_⟩
  | refine ⟨_, _, _, _, true, rfl, .ty _, .base (.int _), kit_ty (by decide +kernel), ?_⟩
  | refine ⟨_, _, _, _, false, rfl, .ty _, .base (.int _), kit_ty (by decide +kernel), ?_⟩
  | refine ⟨_, _, rfl, rfl, ?_⟩
  | refine ⟨_, _, rfl, rfl, trivial, ?_⟩)
local macro_rules | `(tactic| walk_at "w") => `(tactic| repeat (walk_at "s"))
theorem Stp.unlock {H H' : Hp} {tg tg' : Tag} {d : Addr} {od : Obj} {u : HO} {r : Ro} (h : H d = some u) (pl : Pl u) (t : tg d = some r) (a : Stp (L2.upd H d (.frz od u)) tg H' tg') (e : H' d = some (.frz od u)) : Stp H tg (L2.upd H' d u) tg' :=
  ⟨fun b o h1 n t1 => by
    have nb : b ≠ d := fun z => by rw [z, t] at t1; cases t1
    rw [upd_ne nb]
    exact a.keep b o (by rw [upd_ne nb]; exact h1) n t1,
   fun b o h1 n t1 => by
    have nb : b ≠ d := fun z => by rw [z, t] at t1; cases t1
    exact a.tag b o (by rw [upd_ne nb]; exact h1) n t1,
   fun T tt => tabsN_upd0 (a.tabs T (tabsN_upd tt h pl)) e (fun ps z => by cases z) (fun c q z => by cases z)⟩
/-- slots only emptied -/
def Emp (rs rs' : List (Option Nat)) : Prop := rs'.length = rs.length ∧ ∀ i : Nat, rs'[i]? = rs[i]? ∨ rs'[i]? = some none
theorem Emp.refl {rs : List (Option Nat)} : Emp rs rs := ⟨rfl, fun _ => .inl rfl⟩
theorem Emp.set {rs rs' : List (Option Nat)} (h : Emp rs rs') (j : Nat) : Emp rs (rs'.set j none) := by
  refine ⟨by rw [List.length_set]; exact h.1, fun i => ?_⟩
  by_cases e : j = i
  · subst e
    by_cases hj : j < rs'.length
    · exact .inr (by rw [List.getElem?_set_self hj])
    · rw [List.getElem?_eq_none (by rw [List.length_set]; omega), List.getElem?_eq_none (by have := h.1; omega)]; exact .inl rfl
  · rw [List.getElem?_set_ne e]; exact h.2 i
/-- the model with other tasks -/
abbrev Mo.wt (m : Mo) (tk : Str → Tk) : Mo := { m with task := tk }
/-- the tasks' slots only emptied -/
structure TkR (m : Mo) (tk : Str → Tk) : Prop where
  mr : ∀ s, (tk s).maker = (m.task s).maker
  rn : ∀ s, (tk s).runs = (m.task s).runs
  em : ∀ s, Emp (m.task s).rows (tk s).rows
theorem TkR.refl {m : Mo} : TkR m m.task := ⟨fun _ => rfl, fun _ => rfl, fun _ => .refl⟩
def tset1 (tk : Str → Tk) (s : Str) (rs : List (Option Nat)) : Str → Tk := fun r => if r = s then { tk s with rows := rs } else tk r
theorem TkR.set {m : Mo} {tk : Str → Tk} (h : TkR m tk) (s : Str) (j : Nat) : TkR m (tset1 tk s ((tk s).rows.set j none)) := by
  refine ⟨fun t => ?_, fun t => ?_, fun t => ?_⟩
  all_goals
    unfold tset1
    by_cases ht : t = s
    · subst ht
      rw [if_pos rfl]
      first | exact h.mr t | exact h.rn t | exact (h.em t).set j
    · rw [if_neg ht]
      first | exact h.mr t | exact h.rn t | exact h.em t
section
variable {P : Program} {w : World} {K : PySem.W.Frag} {mg : Str → Option Value} {base : Heap} (G : Gx K mg base)
include G
def sp_taken_out (K : PySem.W.Frag) : Sp := fun vs H Q E => ∃ tg m n, vs = [.ref m.ta, nV n] ∧ Rep K H tg m ∧ Bd m ∧ H m.kn = some (.dK (knD m.names m.tka)) ∧
  (∀ H' tk v, TkR m tk → (∀ s, s ∈ m.names → some n ∉ (tk s).rows) → Stp H tg H' tg → Rep K H' tg (m.wt tk) → H' m.kn = some (.dK (knD m.names m.tka)) → (∀ o, H m.th = some o → H' m.th = some o) → Q v H')
omit G in
theorem sc_Tasks_taken_out : FnScope ["self", "number", "many", "task", "slot"] ["self", "number"] (defScope s_Tasks_taken_out) := ⟨rfl, rfl, rfl, by decide +kernel, rfl, by decide +kernel, by decide +kernel⟩
theorem ok_Tasks_taken_out : FnR P w K mg base (L2.CX P w) 1 (He.ma K (He.ga K "Tasks") "taken_out") (sp_taken_out K) := by
  refine mkF (k := 0) G.f_Tasks_taken_out sc_Tasks_taken_out (fun _ _ _ _ _ _ us hl => match us, hl with | [_, _], _ => rfl) (fun vs H Q E h => by repeat (first | (obtain ⟨e, _⟩ := h; cases e; rfl; done) | obtain ⟨_, h⟩ := h)) (fun cdv A outer s H vs Q E hr h => ?_)
  have S := sc_Tasks_taken_out
  obtain ⟨tg, m, n, rfl, R, B, hk, k⟩ := h
  refine ⟨_, (pss_cons (ps_set (i := 2) S.nd rfl (by first | exact Or.inl rfl | exact Or.inr rfl) pe_int)
      (pss_cons (ps_lock (ps_for pod rfl (pi_values (pe_fd (pv 0))) (pg_name (i := 3) S.nd rfl (by first | exact Or.inl rfl | exact Or.inr rfl)) (pss_one (ps_for pod rfl (pi_range1 rfl G.b_range (pa_cons (pe_ci rfl G.c_SLOTS) pa_nil)) (pg_name (i := 4) S.nd rfl (by first | exact Or.inl rfl | exact Or.inr rfl)) (pss_one (ps_if (PW.pt (pw_and (pt_cmpR op_notN (pe_ix ix_list (pe_fd (pv 3)) (pv 4) (fun _ _ => rfl)) pe_non (nomark _)) (pw_and1 (pt_cmpR op_eq (pe_ix ix_list (pe_fd (pv 3)) (pv 4) (fun _ _ => rfl)) (pv 1) (nomark _))))) (pss_cons (ps_asg pe_non (pg_sub (pe_fd (pv 3)) (pv 4) set_list))
      (pss_one (ps_aug (i := 2) S.nd rfl (by first | exact Or.inl rfl | exact Or.inr rfl) pe_int ip_add))) pss_nil))))))
      (pss_one (ps_ret (pv 2))))), ?_⟩
  walk_at "w"
  refine ⟨m.kn, _, hk, trivial, fun od => ?_⟩
  have R1 := R.frzk (ob := od)
  walk_at "w"
  refine ⟨_, _, _, rfl, upd_same, ?_⟩
  have hl : (knD m.names m.tka).length = m.names.length := List.length_map _
  let Base := fun (H' : Hp) (tk : Str → Tk) => TkR m tk ∧ Stp (L2.upd H m.kn (.frz od (.dK (knD m.names m.tka)))) tg H' tg ∧ Rep K H' tg (m.wt tk) ∧ H' m.kn = some (.frz od (.dK (knD m.names m.tka))) ∧ (∀ o, H m.th = some o → H' m.th = some o)
  refine for_it walk_values (fun i σ H' => (∃ z v3 v4, σ = [some (.ref m.ta), some (nV n), some (.int z), v3, v4]) ∧ ∃ tk, Base H' tk ∧ ∀ (j : Nat) s, j < i → m.names[j]? = some s → some n ∉ (tk s).rows) ?_ ?_ ?_ ?_
  · exact ⟨⟨_, _, _, rfl⟩, m.task, ⟨.refl, .refl, R1, upd_same, fun o z => (upd_ne (fun y => by have := R.th_tag; rw [y, R.kn_tag] at this; cases this)).trans z⟩, fun j s h => absurd h (by omega)⟩
  · rintro i σ H1 hi ⟨_, tk, ⟨_, _, _, e, _⟩, _⟩
    exact e
  · rintro i x σ H1 H2 hi ⟨⟨z, v3, v4, rfl⟩, tk, ⟨tr, st, R2, e, ht⟩, don⟩ ⟨rfl, kk, hx⟩
    rw [hl] at hi
    obtain ⟨s, hs⟩ : ∃ s, m.names[i]? = some s := ⟨_, List.getElem?_eq_getElem hi⟩
    have hm : s ∈ m.names := List.mem_of_getElem? hs
    obtain rfl : x = .ref (m.tka s) := by
      unfold knD at hx
      rw [List.getElem?_map, hs] at hx
      cases hx
      rfl
    walk_at "w"
    refine ⟨by decide, by decide, ?_⟩
    refine for_it (walk_range (lo := 0) (n := 16)) (fun q σ H' => (∃ z v4, σ = [some (.ref m.ta), some (nV n), some (.int z), some (.ref (m.tka s)), v4]) ∧ ∃ tk, Base H' tk ∧ (∀ (j : Nat) s, j < i → m.names[j]? = some s → some n ∉ (tk s).rows) ∧ ∀ j, j < q → (tk s).rows[j]? ≠ some (some n)) ?_ (fun _ _ _ _ _ => trivial) ?_ ?_
    · exact ⟨⟨_, _, rfl⟩, tk, ⟨tr, st, R2, e, ht⟩, don, fun j h => absurd h (by omega)⟩
    · rintro q x σ H3 H4 hq ⟨⟨z, v4, rfl⟩, tk, ⟨tr, st, R2, e, ht⟩, don, dn⟩ ⟨rfl, rfl⟩
      have hrl : (tk s).rows.length = 16 := by rw [(tr.em s).1]; exact B.rws s hm
      obtain ⟨o, eo⟩ : ∃ o, (tk s).rows[q]? = some o := ⟨_, List.getElem?_eq_getElem (by omega)⟩
      have f1 : FldAt K H4 (.ref (m.tka s)) "rows" (.ref (m.tsa s)) := fld_t_rows (m := m.wt tk) G R2 hm
      have sl : SqL K H4 (m.tsa s) ((tk s).rows.map oV) := sqL_at (R2.tsl hm)
      have ea : atI ((tk s).rows.map oV) ((0 : Int) + (q : Nat)) = some (oV o) := by rw [Int.zero_add]; exact atI_nat (by rw [List.getElem?_map, eo]; rfl)
      have keep : o ≠ some n → (∃ z v4, ([some (.ref m.ta), some (nV n), some (.int z), some (.ref (m.tka s)), v4] : St) = [some (.ref m.ta), some (nV n), some (.int z), some (.ref (m.tka s)), v4]) → ∀ j, j < q + 1 → (tk s).rows[j]? ≠ some (some n) := fun ho _ j hj => by
        by_cases z : j = q
        · subst z
          rw [eo]
          intro e
          exact ho (Option.some.inj e)
        · exact dn j (by omega)
      walk_at "w"
      refine ⟨_, _, _, _, rfl, rfl, sl, ea, ?_⟩
      cases o with
      | none =>
        walk_at "w"
        exact ⟨⟨_, _, rfl⟩, tk, ⟨tr, st, R2, e, ht⟩, don, keep (by simp) ⟨z, none, rfl⟩⟩
      | some m1 =>
        walk_at "w"
        refine ⟨_, _, _, _, rfl, rfl, sl, ea, ?_⟩
        by_cases hv : oV (some m1) = nV n
        · walk_at "w"
          refine ⟨_, _, _, q, rfl, rfl, R2.tsl (s := s) hm, by rw [Int.zero_add]; exact ixN_nat (by rw [List.length_map]; show q < (tk s).rows.length; omega), ?_⟩
          have e0 : (((m.wt tk).task s).rows.map oV).set q V.non = (((tk s).rows.set q none).map oV) := by rw [List.map_set]; rfl
          rw [e0]
          have st2 := st.trans (Stp.setRows (m := m.wt tk) R2 hm ((tk s).rows.set q none))
          have R3 := R2.setRows (s := s) hm ((tk s).rows.set q none)
          have nt2 : m.th ≠ m.tsa s := fun z => by
            have h1 := (R2.cell (.tsl s) _ _ (if_pos hm)).1
            have h2 := R2.th_tag
            rw [← show m.th = (m.wt tk).tsa s from z, show m.th = (m.wt tk).th from rfl, h2] at h1
            cases h1
          have nk : m.kn ≠ m.tsa s := fun z => by
            have := R2.tsl (s := s) hm
            rw [← show m.kn = (m.wt tk).tsa s from z, e] at this
            cases this
          walk_at "w"
          refine ⟨⟨_, _, rfl⟩, tset1 tk s ((tk s).rows.set q none), ⟨tr.set s q, st2, R3, (upd_ne nk).trans e, fun o z => (upd_ne nt2).trans (ht o z)⟩, fun j s' hj hs' => ?_, fun j hj => ?_⟩
          · unfold tset1
            by_cases hss : s' = s
            · subst hss
              rw [if_pos rfl]
              intro hmem
              rcases List.mem_or_eq_of_mem_set hmem with h | h
              · exact don j s' hj hs' h
              · cases h
            · rw [if_neg hss]
              exact don j s' hj hs'
          · unfold tset1
            rw [if_pos rfl]
            show ((tk s).rows.set q none)[j]? ≠ _
            by_cases hjq : q = j
            · subst hjq
              rw [List.getElem?_set_self (by omega)]
              simp
            · rw [List.getElem?_set_ne hjq]
              exact dn j (by omega)
        · walk_at "w"
          exact ⟨⟨_, _, rfl⟩, tk, ⟨tr, st, R2, e, ht⟩, don, keep (fun z => hv (by rw [Option.some.inj z]; rfl)) ⟨z, none, rfl⟩⟩
    · rintro σ H3 ⟨⟨z, v4, rfl⟩, tk, ⟨tr, st, R2, e, ht⟩, don, dn⟩
      refine ⟨⟨_, _, _, rfl⟩, tk, ⟨tr, st, R2, e, ht⟩, fun j s' hj hs' => ?_⟩
      by_cases hji : j = i
      · subst hji
        rw [hs] at hs'
        cases hs'
        intro hmem
        obtain ⟨q, hq, eq⟩ := List.getElem_of_mem hmem
        exact dn q (by rw [(tr.em s).1, B.rws s hm] at hq; exact hq) (by rw [List.getElem?_eq_getElem hq, eq])
      · exact don j s' (by omega) hs'
  · rintro σ H1 ⟨⟨z, v3, v4, rfl⟩, tk, ⟨tr, st, R2, e, ht⟩, don⟩
    refine ⟨e, ?_⟩
    walk_at "w"
    refine k _ tk _ tr (fun s hs => ?_) ?_ R2.thawk upd_same (fun o z => (upd_ne (fun y => by have := R.th_tag; rw [y, R.kn_tag] at this; cases this)).trans (ht o z))
    · obtain ⟨j, hj, ej⟩ := List.getElem_of_mem hs
      exact don j s (by rw [hl]; exact hj) (by rw [List.getElem?_eq_getElem hj, ej])
    · exact Stp.unlock hk trivial R.kn_tag st e
end
end Pk
end
/-! PkF4 -/
section
set_option maxHeartbeats 4000000
namespace Pk
open PySem PySem.Spec PyProof.Rows L2
local macro_rules | `(tactic| walk_at "c") => `(tactic| first | assumption | omega | exact rfl | (intro z; cases z; done) | (simp only [nV, V.int.injEq, V.str.injEq]; first | assumption | omega))
local macro_rules | `(tactic| walk_at "fld") => `(tactic| first
  | assumption
  | exact fld_k_tasks (by assumption) (by assumption) | exact fld_k_tree (by assumption) (by assumption) | exact fld_k_things (by assumption) (by assumption) | exact fld_ta_known (by assumption) (by assumption)
  | exact fld_t_rows (by assumption) (by assumption) (by assumption) | exact fld_t_run1 (by assumption) (by assumption) (by assumption) (by assumption) | exact fld_t_runs (by assumption) (by assumption) (by assumption) | exact fld_t_maker (by assumption) (by assumption) (by assumption) | exact fld_tr_rows (by assumption) (by assumption) | exact fld_tr_rb (by assumption) (by assumption) | exact fld_tr_ever (by assumption) (by assumption)
  | exact fld_h_number (by assumption) (by assumption) | exact fld_h_thing (by assumption) (by assumption) | exact fld_h_rights (by assumption) (by assumption) | exact fld_h_giver (by assumption) (by assumption) | exact fld_h_holder (by assumption) (by assumption))
local macro_rules | `(tactic| walk_at "get") => `(tactic| first
  | assumption
  | exact get_kn1 (by assumption) (by assumption) | exact get_kn0 (by assumption) (by assumption) | exact get_rw1 (by assumption) (by assumption) | exact get_rw0 (by assumption) (by assumption)
  | exact get_rb1 (by assumption) (by assumption) | exact get_rb0 (by assumption) (by assumption) | exact get_th1 (by assumption) (by assumption) | exact get_th0 (by assumption) (by assumption))
local macro_rules | `(tactic| walk_at "ins") => `(tactic| first | exact insTa (by assumption) rfl | exact insTr (by assumption) rfl)
local macro_rules | `(tactic| walk_at "s") => `(tactic| first
  | refine ⟨_, rfl, ?_⟩
  | refine ⟨rfl, ?_⟩
  | refine zI fun _ => ?_
  | with_reducible refine iteF ?_ | with_reducible refine iteT ?_
  | ((with_reducible refine iteDy ?_ ?_); focus (walk_at "c"; done)) | ((with_reducible refine iteDn ?_ ?_); focus (walk_at "c"; done)) | ((with_reducible refine iteNy ?_ ?_); focus (walk_at "c"; done)) | ((with_reducible refine iteNn ?_ ?_); focus (walk_at "c"; done))
  | refine fldI (by walk_at "fld") ?_
  | refine getI (by walk_at "get") ?_ | refine getS (by walk_at "get") ?_
  | refine ⟨by walk_at "ins", ?_⟩
  | refine ⟨_, _, _, _, true, rfl, .ty _, .base (.str _), kit_ty (by decide +kernel), ?_⟩
  | refine ⟨_, _, _, _, true, rfl, .ty _, .base (.int _), kit_ty (by decide +kernel), ?_⟩
  | refine ⟨_, _, _, _, false, rfl, .ty _, .base (.int _), kit_ty (by decide +kernel), ?_⟩
  | refine ⟨_, _, rfl, rfl, ?_⟩
  | refine ⟨_, _, rfl, rfl, trivial, ?_⟩)
local macro_rules | `(tactic| walk_at "w") => `(tactic| repeat (walk_at "s"))
theorem Al.set0 {H H1 : Hp} {a : Addr} {o o' : HO} (l : Al H H1) (hn : ∀ o, nt o → H a ≠ some o) (h : H1 a = some o) (pl : Pl o) : Al H (L2.upd H1 a o') :=
  ⟨fun b u e n => by rw [upd_ne (fun z => hn u n (by rw [← z]; exact e))]; exact l.keep b u e n, fun T t => tabsN_upd (l.tabs T t) h pl⟩
/-- a running task's maker came before it -/
def Mk1 (m : Mo) : Prop := m.names.Nodup ∧ ∀ (i : Nat) s, m.names[i]? = some s → (m.task s).runs = true → ∀ (j : Nat), m.names[j]? = some (m.task s).maker → j < i
/-- how many run from i on -/
def rho (m : Mo) (i : Nat) : Nat := ((m.names.drop i).filter fun s => (m.task s).runs).length
theorem rho_le {m : Mo} {i j : Nat} (h : i ≤ j) : rho m j ≤ rho m i := by
  unfold rho
  refine List.Sublist.length_le (List.Sublist.filter _ ?_)
  have : j = i + (j - i) := by omega
  rw [this, ← List.drop_drop]
  exact List.drop_sublist _ _
theorem rho_step {m : Mo} {i : Nat} {s : Str} (h : m.names[i]? = some s) (r : (m.task s).runs = true) : rho m i = rho m (i + 1) + 1 := by
  unfold rho
  have hi : i < m.names.length := lt_of_get h
  have e : m.names[i] = s := by rw [List.getElem?_eq_getElem hi] at h; exact Option.some.inj h
  rw [List.drop_eq_getElem_cons hi, e, List.filter_cons]
  simp [r]
section
variable {P : Program} {w : World} {K : PySem.W.Frag} {mg : Str → Option Value} {base : Heap} (G : Gx K mg base)
include G
omit G in
theorem sc_Tasks_made_by : FnScope ["self", "name", "found", "other", "task"] ["self", "name"] (defScope s_Tasks_made_by) := ⟨rfl, rfl, rfl, by decide +kernel, rfl, by decide +kernel, by decide +kernel⟩
def sp_made_by (K : PySem.W.Frag) (d : Nat) : Sp := fun vs H Q E => ∃ tg m i nm, vs = [.ref m.ta, .str nm] ∧ Rep K H tg m ∧ Bd m ∧ Mk1 m ∧ (RunT m nm → m.names[i]? = some nm) ∧ rho m (i + 1) < d ∧ d ≤ 20 ∧ (¬ RunT m nm → Er K H E) ∧
  (RunT m nm → ∀ H' p (L : List Str), Al H H' → H p = none → H' p = some (.lst (L.map V.str)) → (∀ s, s ∈ L → RunT m s ∧ (m.task s).maker ∈ m.names) → L.length < 2 ^ (rho m (i + 1)) → Q (.ref p) H')
theorem made_by_body (d : Nat) (IH : FnR P w K mg base (L2.CX P w) (d + 2) (He.ma K (He.ga K "Tasks") "made_by") (sp_made_by K d)) : FnR P w K mg base (L2.CX P w) (d + 1 + 2) (He.ma K (He.ga K "Tasks") "made_by") (sp_made_by K (d + 1)) := by
  refine mkF (k := d + 2) G.f_Tasks_made_by sc_Tasks_made_by (fun _ _ _ _ _ _ us hl => match us, hl with | [_, _], _ => rfl) (fun vs H Q E h => by obtain ⟨_, _, _, _, e, _⟩ := h; cases e; rfl) (fun cdv A outer s H vs Q E hr h => ?_)
  have S := sc_Tasks_made_by
  obtain ⟨tg, m, i0, nm, rfl, R, B, M, hi0, hd, h20, er, k⟩ := h
  by_cases hq : RunT m nm
  · have hi0 := hi0 hq
    have hl : (knD m.names m.tka).length = m.names.length := List.length_map _
    rcases R.kn with hk | ⟨od, hk⟩
    · refine ⟨_, (pss_cons (ps_expr (pe_m (ok_Tasks_need G) (hr.mono (by omega)) G.cl_Tasks G.m_Tasks_need tkd (pv 0) (pa_cons (pv 1) pa_nil)))
      (pss_cons (ps_set (i := 2) S.nd rfl (by first | exact Or.inl rfl | exact Or.inr rfl) (pe_lst pa_nil))
      (pss_cons (ps_lock (ps_for pod rfl (pi_items (pe_fd (pv 0))) (pg_tup rfl (pgs_cons (pg_name (i := 3) S.nd rfl (by first | exact Or.inl rfl | exact Or.inr rfl)) (pgs_cons (pg_name (i := 4) S.nd rfl (by first | exact Or.inl rfl | exact Or.inr rfl)) pgs_nil))) (pss_one (ps_if (PW.pt (pw_and (pt_val (pe_fd (pv 4))) (pw_and1 (pt_cmpR op_eq (pe_fd (pv 4)) (pv 1) (nomark _))))) (pss_cons (ps_expr (pe_bm PySem.F.plainAttrs_list PySem.F.slot_list_append PySem.F.type_list_append mt_append (pv 2) (pa_cons (pv 3) pa_nil)))
      (pss_one (ps_aug (i := 2) S.nd rfl (by first | exact Or.inl rfl | exact Or.inr rfl) (pe_m IH (hr.mono (by omega)) G.cl_Tasks G.m_Tasks_made_by tkd (pv 0) (pa_cons (pv 3) pa_nil)) iop_ext))) pss_nil))))
      (pss_one (ps_ret (pv 2)))))), ?_⟩
      walk_at "w"
      refine ⟨tg, m, nm, rfl, R, er, fun _ => ?_⟩
      walk_at "w"
      refine ⟨by rw [sizeLine_eq]; decide, fun F hF => ?_⟩
      walk_at "w"
      have nF : m.kn ≠ F := ne_of_none hk hF
      refine ⟨m.kn, _, (upd_ne nF).trans hk, trivial, fun od => ?_⟩
      have R1 : Rep K (L2.upd (L2.upd H F (.lst [])) m.kn (.frz od (.dK (knD m.names m.tka)))) tg m := (R.al (Al.new hF)).frzk
      have eF : (L2.upd (L2.upd H F (.lst [])) m.kn (.frz od (.dK (knD m.names m.tka)))) F = some (.lst []) := (upd_ne nF.symm).trans upd_same
      have ek : (L2.upd (L2.upd H F (.lst [])) m.kn (.frz od (.dK (knD m.names m.tka)))) m.kn = some (.frz od (.dK (knD m.names m.tka))) := upd_same
      have hFb : ∀ o, nt o → (L2.upd H m.kn (.frz od (.dK (knD m.names m.tka)))) F ≠ some o := fun o n z => by rw [upd_ne nF.symm, hF] at z; cases z
      have ekb : (L2.upd H m.kn (.frz od (.dK (knD m.names m.tka)))) m.kn = some (.frz od (.dK (knD m.names m.tka))) := upd_same
      have al0 : Al (L2.upd H m.kn (.frz od (.dK (knD m.names m.tka)))) (L2.upd (L2.upd H F (.lst [])) m.kn (.frz od (.dK (knD m.names m.tka)))) := Al.of fun b o e => by
        by_cases hb : b = m.kn
        · subst hb; rw [upd_same] at e ⊢; exact e
        · rw [upd_ne hb] at e ⊢
          rw [upd_ne (ne_of_none e hF)]; exact e
      have Rb : Rep K (L2.upd H m.kn (.frz od (.dK (knD m.names m.tka)))) tg m := R.frzk
      generalize eHb : L2.upd H m.kn (.frz od (.dK (knD m.names m.tka))) = Hb at *
      generalize eH0 : L2.upd (L2.upd H F (.lst [])) m.kn (.frz od (.dK (knD m.names m.tka))) = H0 at *
      walk_at "w"
      refine ⟨_, _, _, rfl, ek, ?_⟩
      refine for_it walk_items (fun i σ H' => (∃ v3 v4, σ = [some (.ref m.ta), some (.str nm), some (.ref F), v3, v4]) ∧ ∃ L : List Str, Al Hb H' ∧ H' F = some (.lst (L.map V.str)) ∧ (∀ s, s ∈ L → RunT m s ∧ (m.task s).maker ∈ m.names) ∧ (i ≤ i0 + 1 → L = []) ∧ (i0 + 1 ≤ i → L.length + 2 ^ rho m i ≤ 2 ^ rho m (i0 + 1))) ?_ ?_ ?_ ?_
      · exact ⟨⟨_, _, rfl⟩, [], al0, eF, fun s h => (by cases h), fun _ => rfl, fun h => (by omega)⟩
      · rintro i σ H1 hi ⟨_, L, al, _⟩
        exact al.frz ekb
      · rintro i x σ H1 H2 hi ⟨⟨v3, v4, rfl⟩, L, al, e, hL, b1, b2⟩ ⟨T, kx, vx, rfl, hT, rfl, e1, e2⟩
        obtain ⟨s, es, rfl, rfl, hs⟩ := kn_at e1 e2
        have al2 := al.newT (o := .tup [V.str s, V.ref (m.tka s)]) hT
        have R2 := Rb.al al2
        have eF2 : (L2.upd H1 T (.tup [V.str s, V.ref (m.tka s)])) F = some (.lst (L.map V.str)) := (upd_ne (ne_of_none e hT)).trans e
        refine tup2 (sqT_at upd_same) rfl ?_
        by_cases hr : (m.task s).runs = true
        · by_cases hmk : V.str (m.task s).maker = V.str nm
          · walk_at "w"
            refine ⟨tyL eF2, ?_⟩
            walk_at "w"
            have hmk' : (m.task s).maker = nm := by cases hmk; rfl
            have hii : i0 < i := M.2 i s es hr i0 (by rw [hmk']; exact hi0)
            have hLl := b2 (by omega)
            have hst := rho_step es hr
            have hle : rho m i ≤ rho m (i0 + 1) := rho_le (by omega)
            have hpow : 2 ^ rho m (i0 + 1) ≤ 2 ^ 20 := Nat.pow_le_pow_right (by decide) (by omega)
            have hpi : 2 ^ rho m i = 2 * 2 ^ rho m (i + 1) := by rw [hst, Nat.pow_succ]; omega
            have hp1 : 0 < 2 ^ rho m (i + 1) := Nat.pow_pos (by decide)
            refine ⟨_, _, _, rfl, rfl, eF2, by rw [List.length_map, sizeLine_eq]; omega, ?_⟩
            have eL : (L.map V.str ++ [V.str s]) = (L ++ [s]).map V.str := by simp
            rw [eL]
            have al3 : Al Hb (L2.upd (L2.upd H1 T (.tup [V.str s, V.ref (m.tka s)])) F (.lst ((L ++ [s]).map V.str))) := al2.set0 hFb eF2 trivial
            have R3 := Rb.al al3
            walk_at "w"
            refine ⟨tg, m, i, s, rfl, R3, B, M, fun _ => es, by omega, by omega, fun h => absurd ⟨hs, hr⟩ h, fun _ H4 p Lb a4 hp4 e4 hLb hlen => ?_⟩
            have eF4 := a4.lst (upd_same (H := L2.upd H1 T (.tup [V.str s, V.ref (m.tka s)])) (a := F) (o := .lst ((L ++ [s]).map V.str)))
            refine ⟨_, _, _, _, rfl, rfl, eF4, e4, by rw [List.length_map, List.length_map, List.length_append, List.length_singleton, sizeLine_eq]; omega, ?_⟩
            rw [← List.map_append]
            refine ⟨⟨_, _, rfl⟩, L ++ [s] ++ Lb, (al3.trans a4).set0 hFb eF4 trivial, upd_same, fun t ht => ?_, fun h => by omega, fun _ => ?_⟩
            · simp only [List.mem_append, List.mem_singleton] at ht
              rcases ht with (h | h) | h
              · exact hL t h
              · rw [h]; exact ⟨⟨hs, hr⟩, by rw [hmk']; exact List.mem_of_getElem? hi0⟩
              · exact hLb t h
            · simp only [List.length_append, List.length_singleton]
              omega
          · walk_at "w"
            refine ⟨⟨_, _, rfl⟩, L, al2, eF2, hL, fun h => b1 (by omega), fun h => ?_⟩
            by_cases z : i0 + 1 ≤ i
            · have := b2 z
              have : 2 ^ rho m (i + 1) ≤ 2 ^ rho m i := Nat.pow_le_pow_right (by decide) (rho_le (by omega))
              omega
            · have e1 : i = i0 := by omega
              subst e1
              rw [b1 (by omega)]
              simp
        · have hr1 : (m.task s).runs = false := by simpa using hr
          walk_at "w"
          refine ⟨⟨_, _, rfl⟩, L, al2, eF2, hL, fun h => b1 (by omega), fun h => ?_⟩
          by_cases z : i0 + 1 ≤ i
          · have := b2 z
            have : 2 ^ rho m (i + 1) ≤ 2 ^ rho m i := Nat.pow_le_pow_right (by decide) (rho_le (by omega))
            omega
          · have e1 : i = i0 := by omega
            subst e1
            rw [b1 (by omega)]
            simp
      · rintro σ H1 ⟨⟨v3, v4, rfl⟩, L, al, e, hL, b1, b2⟩
        refine ⟨al.frz ekb, ?_⟩
        walk_at "w"
        rw [hl] at b2
        have h0 : 0 < 2 ^ rho m m.names.length := Nat.pow_pos (by decide)
        have hlt := lt_of_get hi0
        rw [← eHb] at al
        exact k hq _ F L (Al.unlock hk trivial al) hF ((upd_ne nF.symm).trans e) hL (by have := b2 (by omega); omega)
    · refine ⟨_, (pss_cons (ps_expr (pe_m (ok_Tasks_need G) (hr.mono (by omega)) G.cl_Tasks G.m_Tasks_need tkd (pv 0) (pa_cons (pv 1) pa_nil)))
      (pss_cons (ps_set (i := 2) S.nd rfl (by first | exact Or.inl rfl | exact Or.inr rfl) (pe_lst pa_nil))
      (pss_cons (ps_for pod rfl (pi_items (pe_fd (pv 0))) (pg_tup rfl (pgs_cons (pg_name (i := 3) S.nd rfl (by first | exact Or.inl rfl | exact Or.inr rfl)) (pgs_cons (pg_name (i := 4) S.nd rfl (by first | exact Or.inl rfl | exact Or.inr rfl)) pgs_nil))) (pss_one (ps_if (PW.pt (pw_and (pt_val (pe_fd (pv 4))) (pw_and1 (pt_cmpR op_eq (pe_fd (pv 4)) (pv 1) (nomark _))))) (pss_cons (ps_expr (pe_bm PySem.F.plainAttrs_list PySem.F.slot_list_append PySem.F.type_list_append mt_append (pv 2) (pa_cons (pv 3) pa_nil)))
      (pss_one (ps_aug (i := 2) S.nd rfl (by first | exact Or.inl rfl | exact Or.inr rfl) (pe_m IH (hr.mono (by omega)) G.cl_Tasks G.m_Tasks_made_by tkd (pv 0) (pa_cons (pv 3) pa_nil)) iop_ext))) pss_nil)))
      (pss_one (ps_ret (pv 2)))))), ?_⟩
      walk_at "w"
      refine ⟨tg, m, nm, rfl, R, er, fun _ => ?_⟩
      walk_at "w"
      refine ⟨by rw [sizeLine_eq]; decide, fun F hF => ?_⟩
      walk_at "w"
      have nF : m.kn ≠ F := ne_of_none hk hF
      have R1 : Rep K (L2.upd H F (.lst [])) tg m := (R.al (Al.new hF))
      have eF : (L2.upd H F (.lst [])) F = some (.lst []) := upd_same
      have ek : (L2.upd H F (.lst [])) m.kn = some (.frz od (.dK (knD m.names m.tka))) := (upd_ne nF).trans hk
      obtain ⟨Hb, eHb⟩ : ∃ Hb, Hb = H := ⟨_, rfl⟩
      have hFb : ∀ o, nt o → Hb F ≠ some o := fun o n z => by rw [eHb, hF] at z; cases z
      have ekb : Hb m.kn = some (.frz od (.dK (knD m.names m.tka))) := by rw [eHb]; exact hk
      have Rb : Rep K Hb tg m := by rw [eHb]; exact R
      have al0 : Al Hb (L2.upd H F (.lst [])) := by rw [eHb]; exact Al.new hF
      generalize eH0 : L2.upd H F (.lst []) = H0 at *
      walk_at "w"
      refine ⟨_, _, _, rfl, ek, ?_⟩
      refine for_it walk_items (fun i σ H' => (∃ v3 v4, σ = [some (.ref m.ta), some (.str nm), some (.ref F), v3, v4]) ∧ ∃ L : List Str, Al Hb H' ∧ H' F = some (.lst (L.map V.str)) ∧ (∀ s, s ∈ L → RunT m s ∧ (m.task s).maker ∈ m.names) ∧ (i ≤ i0 + 1 → L = []) ∧ (i0 + 1 ≤ i → L.length + 2 ^ rho m i ≤ 2 ^ rho m (i0 + 1))) ?_ ?_ ?_ ?_
      · exact ⟨⟨_, _, rfl⟩, [], al0, eF, fun s h => (by cases h), fun _ => rfl, fun h => (by omega)⟩
      · rintro i σ H1 hi ⟨_, L, al, _⟩
        exact al.frz ekb
      · rintro i x σ H1 H2 hi ⟨⟨v3, v4, rfl⟩, L, al, e, hL, b1, b2⟩ ⟨T, kx, vx, rfl, hT, rfl, e1, e2⟩
        obtain ⟨s, es, rfl, rfl, hs⟩ := kn_at e1 e2
        have al2 := al.newT (o := .tup [V.str s, V.ref (m.tka s)]) hT
        have R2 := Rb.al al2
        have eF2 : (L2.upd H1 T (.tup [V.str s, V.ref (m.tka s)])) F = some (.lst (L.map V.str)) := (upd_ne (ne_of_none e hT)).trans e
        refine tup2 (sqT_at upd_same) rfl ?_
        by_cases hr : (m.task s).runs = true
        · by_cases hmk : V.str (m.task s).maker = V.str nm
          · walk_at "w"
            refine ⟨tyL eF2, ?_⟩
            walk_at "w"
            have hmk' : (m.task s).maker = nm := by cases hmk; rfl
            have hii : i0 < i := M.2 i s es hr i0 (by rw [hmk']; exact hi0)
            have hLl := b2 (by omega)
            have hst := rho_step es hr
            have hle : rho m i ≤ rho m (i0 + 1) := rho_le (by omega)
            have hpow : 2 ^ rho m (i0 + 1) ≤ 2 ^ 20 := Nat.pow_le_pow_right (by decide) (by omega)
            have hpi : 2 ^ rho m i = 2 * 2 ^ rho m (i + 1) := by rw [hst, Nat.pow_succ]; omega
            have hp1 : 0 < 2 ^ rho m (i + 1) := Nat.pow_pos (by decide)
            refine ⟨_, _, _, rfl, rfl, eF2, by rw [List.length_map, sizeLine_eq]; omega, ?_⟩
            have eL : (L.map V.str ++ [V.str s]) = (L ++ [s]).map V.str := by simp
            rw [eL]
            have al3 : Al Hb (L2.upd (L2.upd H1 T (.tup [V.str s, V.ref (m.tka s)])) F (.lst ((L ++ [s]).map V.str))) := al2.set0 hFb eF2 trivial
            have R3 := Rb.al al3
            walk_at "w"
            refine ⟨tg, m, i, s, rfl, R3, B, M, fun _ => es, by omega, by omega, fun h => absurd ⟨hs, hr⟩ h, fun _ H4 p Lb a4 hp4 e4 hLb hlen => ?_⟩
            have eF4 := a4.lst (upd_same (H := L2.upd H1 T (.tup [V.str s, V.ref (m.tka s)])) (a := F) (o := .lst ((L ++ [s]).map V.str)))
            refine ⟨_, _, _, _, rfl, rfl, eF4, e4, by rw [List.length_map, List.length_map, List.length_append, List.length_singleton, sizeLine_eq]; omega, ?_⟩
            rw [← List.map_append]
            refine ⟨⟨_, _, rfl⟩, L ++ [s] ++ Lb, (al3.trans a4).set0 hFb eF4 trivial, upd_same, fun t ht => ?_, fun h => by omega, fun _ => ?_⟩
            · simp only [List.mem_append, List.mem_singleton] at ht
              rcases ht with (h | h) | h
              · exact hL t h
              · rw [h]; exact ⟨⟨hs, hr⟩, by rw [hmk']; exact List.mem_of_getElem? hi0⟩
              · exact hLb t h
            · simp only [List.length_append, List.length_singleton]
              omega
          · walk_at "w"
            refine ⟨⟨_, _, rfl⟩, L, al2, eF2, hL, fun h => b1 (by omega), fun h => ?_⟩
            by_cases z : i0 + 1 ≤ i
            · have := b2 z
              have : 2 ^ rho m (i + 1) ≤ 2 ^ rho m i := Nat.pow_le_pow_right (by decide) (rho_le (by omega))
              omega
            · have e1 : i = i0 := by omega
              subst e1
              rw [b1 (by omega)]
              simp
        · have hr1 : (m.task s).runs = false := by simpa using hr
          walk_at "w"
          refine ⟨⟨_, _, rfl⟩, L, al2, eF2, hL, fun h => b1 (by omega), fun h => ?_⟩
          by_cases z : i0 + 1 ≤ i
          · have := b2 z
            have : 2 ^ rho m (i + 1) ≤ 2 ^ rho m i := Nat.pow_le_pow_right (by decide) (rho_le (by omega))
            omega
          · have e1 : i = i0 := by omega
            subst e1
            rw [b1 (by omega)]
            simp
      · rintro σ H1 ⟨⟨v3, v4, rfl⟩, L, al, e, hL, b1, b2⟩
        walk_at "w"
        rw [hl] at b2
        have h0 : 0 < 2 ^ rho m m.names.length := Nat.pow_pos (by decide)
        have hlt := lt_of_get hi0
        rw [eHb] at al
        exact k hq _ F L al hF e hL (by have := b2 (by omega); omega)
  · refine ⟨_, (pss_cons (ps_expr (pe_m (ok_Tasks_need G) (hr.mono (by omega)) G.cl_Tasks G.m_Tasks_need tkd (pv 0) (pa_cons (pv 1) pa_nil)))
      (pss_cons (ps_set (i := 2) S.nd rfl (by first | exact Or.inl rfl | exact Or.inr rfl) (pe_lst pa_nil))
      (pss_cons (ps_lock (ps_for pod rfl (pi_items (pe_fd (pv 0))) (pg_tup rfl (pgs_cons (pg_name (i := 3) S.nd rfl (by first | exact Or.inl rfl | exact Or.inr rfl)) (pgs_cons (pg_name (i := 4) S.nd rfl (by first | exact Or.inl rfl | exact Or.inr rfl)) pgs_nil))) (pss_one (ps_if (PW.pt (pw_and (pt_val (pe_fd (pv 4))) (pw_and1 (pt_cmpR op_eq (pe_fd (pv 4)) (pv 1) (nomark _))))) (pss_cons (ps_expr (pe_bm PySem.F.plainAttrs_list PySem.F.slot_list_append PySem.F.type_list_append mt_append (pv 2) (pa_cons (pv 3) pa_nil)))
      (pss_one (ps_aug (i := 2) S.nd rfl (by first | exact Or.inl rfl | exact Or.inr rfl) (pe_m IH (hr.mono (by omega)) G.cl_Tasks G.m_Tasks_made_by tkd (pv 0) (pa_cons (pv 3) pa_nil)) iop_ext))) pss_nil))))
      (pss_one (ps_ret (pv 2)))))), ?_⟩
    walk_at "w"
    exact ⟨tg, m, nm, rfl, R, er, fun h => absurd h hq⟩
theorem ok_made_by : ∀ d, FnR P w K mg base (L2.CX P w) (d + 2) (He.ma K (He.ga K "Tasks") "made_by") (sp_made_by K d)
  | 0 => fun A st s H us vs Q E hr e r h => by obtain ⟨_, _, _, _, _, _, _, _, _, h, _⟩ := h; omega
  | d + 1 => made_by_body G d (ok_made_by d)
def sp_mb (K : PySem.W.Frag) : Sp := fun vs H Q E => ∃ tg m nm, vs = [.ref m.ta, .str nm] ∧ Rep K H tg m ∧ Bd m ∧ Mk1 m ∧ (runL m).length ≤ 12 ∧ (¬ RunT m nm → Er K H E) ∧
  (RunT m nm → ∀ H' p (L : List Str), Al H H' → H p = none → H' p = some (.lst (L.map V.str)) → (∀ s, s ∈ L → RunT m s ∧ (m.task s).maker ∈ m.names) → L.length < 2 ^ 13 → Q (.ref p) H')
theorem ok_Tasks_made_by : FnR P w K mg base (L2.CX P w) 20 (He.ma K (He.ga K "Tasks") "made_by") (sp_mb K) := by
  have F := ok_made_by G (P := P) (w := w) 18
  refine F.imp fun vs H Q E h => ?_
  obtain ⟨tg, m, nm, rfl, R, B, M, h12, er, k⟩ := h
  have hr0 : rho m 0 = (runL m).length := rfl
  have hb : ∀ j, rho m j ≤ 12 := fun j => Nat.le_trans (rho_le (Nat.zero_le j)) (by omega)
  by_cases hm : nm ∈ m.names
  · obtain ⟨i, hi, ei⟩ := List.getElem_of_mem hm
    have hi' : m.names[i]? = some nm := by rw [List.getElem?_eq_getElem hi, ei]
    have := hb (i + 1)
    refine ⟨tg, m, i, nm, rfl, R, B, M, fun _ => hi', by omega, by omega, er, fun hq H' p L a hp e hL hlen => k hq H' p L a hp e hL (Nat.lt_of_lt_of_le hlen (Nat.pow_le_pow_right (by decide) (by omega)))⟩
  · have := hb (0 + 1)
    exact ⟨tg, m, 0, nm, rfl, R, B, M, fun h => absurd h.1 hm, by omega, by omega, er, fun h => absurd h.1 hm⟩
end
end Pk
end
/-! PkF5 -/
section
set_option maxHeartbeats 4000000
namespace Pk
open PySem PySem.Spec PyProof.Rows L2
local macro_rules | `(tactic| walk_at "c") => `(tactic| first | assumption | omega | exact rfl | (intro z; cases z; done) | (simp only [nV, V.int.injEq, V.str.injEq]; first | assumption | omega))
local macro_rules | `(tactic| walk_at "fld") => `(tactic| first
  | assumption
  | exact fld_k_tasks (by assumption) (by assumption) | exact fld_k_tree (by assumption) (by assumption) | exact fld_k_things (by assumption) (by assumption) | exact fld_ta_known (by assumption) (by assumption)
  | exact fld_t_rows (by assumption) (by assumption) (by assumption) | exact fld_t_run1 (by assumption) (by assumption) (by assumption) (by assumption) | exact fld_t_runs (by assumption) (by assumption) (by assumption) | exact fld_t_maker (by assumption) (by assumption) (by assumption) | exact fld_tr_rows (by assumption) (by assumption) | exact fld_tr_rb (by assumption) (by assumption) | exact fld_tr_ever (by assumption) (by assumption)
  | exact fld_h_number (by assumption) (by assumption) | exact fld_h_thing (by assumption) (by assumption) | exact fld_h_rights (by assumption) (by assumption) | exact fld_h_giver (by assumption) (by assumption) | exact fld_h_holder (by assumption) (by assumption))
local macro_rules | `(tactic| walk_at "get") => `(tactic| first
  | assumption
  | exact get_kn1 (by assumption) (by assumption) | exact get_kn0 (by assumption) (by assumption) | exact get_rw1 (by assumption) (by assumption) | exact get_rw0 (by assumption) (by assumption)
  | exact get_rb1 (by assumption) (by assumption) | exact get_rb0 (by assumption) (by assumption) | exact get_th1 (by assumption) (by assumption) | exact get_th0 (by assumption) (by assumption))
local macro_rules | `(tactic| walk_at "ins") => `(tactic| first | exact insTa (by assumption) rfl | exact insTr (by assumption) rfl)
local macro_rules | `(tactic| walk_at "s") => `(tactic| first
  | refine ⟨_, rfl, ?_⟩
  | refine ⟨rfl, ?_⟩
  | refine zI fun _ => ?_
  | with_reducible refine iteF ?_ | with_reducible refine iteT ?_
  | ((with_reducible refine iteDy ?_ ?_); focus (walk_at "c"; done)) | ((with_reducible refine iteDn ?_ ?_); focus (walk_at "c"; done)) | ((with_reducible refine iteNy ?_ ?_); focus (walk_at "c"; done)) | ((with_reducible refine iteNn ?_ ?_); focus (walk_at "c"; done))
  | refine fldI (by walk_at "fld") ?_
  | refine getI (by walk_at "get") ?_ | refine getS (by walk_at "get") ?_
  | refine ⟨by walk_at "ins", ?_⟩
  | refine ⟨_, _, _, _, true, rfl, .ty _, .base (.str _), kit_ty (by decide +kernel), ?_⟩
  | refine ⟨_, _, _, _, true, rfl, .ty _, .base (.int _), kit_ty (by decide +kernel), ?_⟩
  | refine ⟨_, _, _, _, false, rfl, .ty _, .base (.int _), kit_ty (by decide +kernel), ?_⟩
  | refine ⟨_, _, rfl, rfl, ?_⟩
  | refine ⟨_, _, rfl, rfl, trivial, ?_⟩)
local macro_rules | `(tactic| walk_at "w") => `(tactic| repeat (walk_at "s"))
/-! a free address has no tag -/
def untag (tg : Tag) (p : Addr) : Tag := fun b => if b = p then none else tg b
theorem untag_at {tg : Tag} {p : Addr} : untag tg p p = none := if_pos rfl
section
variable {K : PySem.W.Frag} {H H' : Hp} {tg tg' : Tag} {m : Mo}
theorem Rep.fresh1 {x : Addr} (R : Rep K H tg m) (h : ∀ o, nt o → H x ≠ some o) : ∀ r ψ, m.cell K r ≠ some (x, ψ) := fun r ψ e => by
  obtain ⟨_, o, ho, q⟩ := R.cell r x ψ e
  exact h o (cellPl e o q) ho
theorem Rep.untag {p : Addr} (R : Rep K H tg m) (hf : ∀ r ψ, m.cell K r ≠ some (p, ψ)) : Rep K H (untag tg p) m := by
  refine ⟨fun r a φ e => ?_, fun i ls hi e l hl => ?_⟩
  · obtain ⟨t, o, ho, q⟩ := R.cell r a φ e
    have na : a ≠ p := fun z => hf r φ (by rw [← z]; exact e)
    exact ⟨by unfold Pk.untag; rw [if_neg na]; exact t, o, ho, q⟩
  · obtain ⟨dx, ws, pt, e1, e2, t1, t2⟩ := R.lets i ls hi e l hl
    refine ⟨dx, ws, pt, e1, e2, ?_, ?_⟩
    · unfold Pk.untag; split
      · rfl
      · exact t1
    · unfold Pk.untag; split
      · rfl
      · exact t2
theorem Stp.untag {p : Addr} (s : Stp H tg H' tg') (h : ∀ o, nt o → H p ≠ some o) : Stp H tg H' (Pk.untag tg' p) :=
  ⟨s.keep, fun b o e n t => by
    have nb : b ≠ p := fun z => h o n (by rw [← z]; exact e)
    unfold Pk.untag
    rw [if_neg nb]; exact s.tag b o e n t, s.tabs⟩
end
/-- tasks are stopped -/
structure StR (m : Mo) (tk : Str → Tk) (sa : Str → Addr) (L : List Str) : Prop where
  off : ∀ s, s ∉ L → tk s = m.task s ∧ sa s = m.tsa s
  on : ∀ s, s ∈ L → tk s = ⟨(m.task s).maker, false, List.replicate 16 none⟩
abbrev Mo.ws (m : Mo) (tk : Str → Tk) (sa : Str → Addr) : Mo := { m with task := tk, tsa := sa }
def tkput {α : Type} (f : Str → α) (s : Str) (v : α) : Str → α := fun r => if r = s then v else f r
theorem Rep.stopT {K : PySem.W.Frag} {H H' : Hp} {tg tg' : Tag} {m : Mo} {tk : Str → Tk} {sa : Str → Addr} {s : Str} {q dx : Addr} (R : Rep K H tg (m.ws tk sa)) (hs : s ∈ m.names) (c : Chg [.tsk s, .tsl s] H tg H' tg')
    (h2 : H' (m.tka s) = some (.ins (He.ga K "Task") dx (tkF ⟨(tk s).maker, false, List.replicate 16 none⟩ q))) (h3 : H' q = some (.lst ((List.replicate 16 (none : Option Nat)).map oV)))
    (t2 : tg' (m.tka s) = some (.tsk s)) (t3 : tg' q = some (.tsl s)) : Rep K H' tg' (m.ws (tkput tk s ⟨(tk s).maker, false, List.replicate 16 none⟩) (tkput sa s q)) := by
  refine R.chg c (fun r hr y e => ?_) (fun r hr a φ e => ?_) (ls_chg R c rfl rfl)
  · cases r with
    | tsk t =>
      have ht : t ≠ s := fun z => hr (by simp [z])
      simp only [Mo.cell, tkput, if_neg ht] at e ⊢
      exact e
    | tsl t =>
      have ht : t ≠ s := fun z => hr (by simp [z])
      simp only [Mo.cell, tkput, if_neg ht] at e ⊢
      exact e
    | _ => exact e
  · simp only [List.mem_cons, List.not_mem_nil, or_false] at hr
    rcases hr with rfl | rfl
    · simp only [Mo.cell, tkput, if_pos hs, if_true] at e
      cases e
      exact ⟨t2, _, h2, dx, rfl⟩
    · simp only [Mo.cell, tkput, if_pos hs, if_true] at e
      cases e
      exact ⟨t3, _, h3, rfl⟩
section
variable {P : Program} {w : World} {K : PySem.W.Frag} {mg : Str → Option Value} {base : Heap} (G : Gx K mg base)
include G
def sp_stopped (K : PySem.W.Frag) : Sp := fun vs H Q E => ∃ tg m nm, vs = [.ref m.ta, .str nm] ∧ Rep K H tg m ∧ Bd m ∧ Mk1 m ∧ (runL m).length ≤ 12 ∧ H m.kn = some (.dK (knD m.names m.tka)) ∧ RunT m nm ∧
  (∀ H' tg' L tk sa v, (∀ s, s ∈ L → RunT m s ∧ (m.task s).maker ∈ m.names) → StR m tk sa (nm :: L) → Stp H tg H' tg' → Rep K H' tg' (m.ws tk sa) → H' m.kn = some (.dK (knD m.names m.tka)) → (∀ o, H m.th = some o → nt o → H' m.th = some o) → Q v H')
omit G in
theorem sc_Tasks_stopped : FnScope ["self", "name", "found", "other", "task"] ["self", "name"] (defScope s_Tasks_stopped) := ⟨rfl, rfl, rfl, by decide +kernel, rfl, by decide +kernel, by decide +kernel⟩
theorem ok_Tasks_stopped : FnR P w K mg base (L2.CX P w) 21 (He.ma K (He.ga K "Tasks") "stopped") (sp_stopped K) := by
  refine mkF (k := 20) G.f_Tasks_stopped sc_Tasks_stopped (fun _ _ _ _ _ _ us hl => match us, hl with | [_, _], _ => rfl) (fun vs H Q E h => by repeat (first | (obtain ⟨e, _⟩ := h; cases e; rfl; done) | obtain ⟨_, h⟩ := h)) (fun cdv A outer s H vs Q E hr h => ?_)
  have S := sc_Tasks_stopped
  obtain ⟨tg, m, nm, rfl, R, B, M, h12, hk, hq, k⟩ := h
  refine ⟨_, (pss_cons (ps_set (i := 2) S.nd rfl (by first | exact Or.inl rfl | exact Or.inr rfl) (pe_op op_cat (pe_lst (pa_cons (pv 1) pa_nil)) (pe_m (ok_Tasks_made_by G) (hr.mono (by omega)) G.cl_Tasks G.m_Tasks_made_by tkd (pv 0) (pa_cons (pv 1) pa_nil))))
      (pss_cons (ps_for pod rfl (pi_list (pv 2)) (pg_name (i := 3) S.nd rfl (by first | exact Or.inl rfl | exact Or.inr rfl)) (pss_cons (ps_set (i := 4) S.nd rfl (by first | exact Or.inl rfl | exact Or.inr rfl) (pe_dget (hu_of hr) (pe_fd (pv 0)) (pv 3) (fun _ _ => rfl)))
      (pss_cons (ps_fld (pv 4) pe_bl rfl)
      (pss_one (ps_fld (pv 4) (pe_op op_rep (pe_lst (pa_cons pe_non pa_nil)) (pe_ci rfl G.c_SLOTS)) rfl)))))
      (pss_one (ps_ret (pv 2))))), ?_⟩
  walk_at "w"
  refine ⟨sz1, fun F1 hF1 => ?_⟩
  have a1 := Al.new (o := .lst [V.str nm]) hF1
  have R1 := R.al a1
  walk_at "w"
  refine ⟨tg, m, nm, rfl, R1, B, M, h12, fun h => absurd hq h, fun _ H2 p L a2 hp e2 hL hlen => ?_⟩
  have eF := a2.lst (upd_same (H := H) (a := F1) (o := .lst [V.str nm]))
  refine ⟨_, _, _, _, rfl, rfl, eF, e2, by rw [List.length_map, sizeLine_eq]; simp only [List.length_singleton]; omega, fun p2 hp2 => ?_⟩
  have a3 := (a1.trans a2).newT (o := .lst ([V.str nm] ++ L.map V.str)) hp2
  have fr := (a1.trans a2).free hp2
  have RB := (R.al a3).untag (R.fresh1 fr)
  have stB := (Stp.al (tg := tg) a3).untag fr
  have eB : (L2.upd H2 p2 (.lst ([V.str nm] ++ L.map V.str))) p2 = some (.lst ((nm :: L).map V.str)) := upd_same
  have kB := a3.dK hk
  generalize L2.upd H2 p2 (.lst ([V.str nm] ++ L.map V.str)) = HB at *
  generalize eTG : Pk.untag tg p2 = tgB at *
  have tB : tgB p2 = none := by rw [← eTG]; exact untag_at
  have nkp : m.kn ≠ p2 := fun z => by rw [z, eB] at kB; cases kB
  walk_at "w"
  refine ⟨⟨_, sqL_at eB⟩, ?_⟩
  have hnd : ∀ s, s ∈ nm :: L → s ∈ m.names := fun s hs => by
    rcases List.mem_cons.mp hs with e | e
    · rw [e]; exact hq.1
    · exact (hL s e).1.1
  refine for_list (xs := (nm :: L).map V.str) (fun i σ H' => (∃ v3 v4, σ = [some (.ref m.ta), some (.str nm), some (.ref p2), v3, v4]) ∧ ∃ tk sa tg', StR m tk sa ((nm :: L).take i) ∧ Stp HB tgB H' tg' ∧ Rep K H' tg' (m.ws tk sa) ∧ H' m.kn = some (.dK (knD m.names m.tka)) ∧ (∀ o, H m.th = some o → nt o → H' m.th = some o)) ?_ ?_ ?_ ?_
  · exact ⟨⟨_, _, rfl⟩, m.task, m.tsa, tgB, ⟨fun _ _ => ⟨rfl, rfl⟩, fun s h => by simp at h⟩, .refl, RB, kB, fun o z n => a3.keep _ _ z n⟩
  · rintro i σ H1 hi ⟨_, tk, sa, tg', sr, st, R1, e1, _⟩
    exact sqL_at (st.keep _ _ eB (Pl.nt (o := .lst _) trivial) tB)
  · rintro i x σ H1 hx ⟨⟨v3, v4, rfl⟩, tk, sa, tg', sr, st, R3, e3, ht⟩
    rw [List.getElem?_map] at hx
    cases hxs : (nm :: L)[i]? with
    | none => rw [hxs] at hx; cases hx
    | some s =>
      rw [hxs] at hx
      cases hx
      have hs : s ∈ m.names := hnd s (List.mem_of_getElem? hxs)
      have gk : DGet H1 m.kn (.str s) (some (.ref (m.tka s))) := get_kn1 (m := m.ws tk sa) R3 hs
      have fk : FldAt K H1 (.ref m.ta) "known" (.ref m.kn) := fld_ta_known (m := m.ws tk sa) G R3
      obtain ⟨dx, et⟩ := R3.tsk (s := s) hs
      have tt : tg' (m.tka s) = some (.tsk s) := (R3.cell (.tsk s) _ _ (if_pos hs)).1
      walk_at "w"
      refine ⟨_, _, _, _, rfl, et, G.cl_Task, G.n_Task_runs, by show (3 : Nat) < 1000; decide, ?_⟩
      walk_at "w"
      refine ⟨sz1, fun q0 hq0 => ?_⟩
      walk_at "w"
      refine ⟨_, _, _, rfl, rfl, upd_same, by decide, by decide, by rw [sizeLine_eq]; decide, fun q hq => ?_⟩
      walk_at "w"
      have c0 : Chg [.tsk s, .tsl s] H1 tg' (L2.upd H1 (m.tka s) (.ins (He.ga K "Task") dx (putF "runs" (.bl false) (tkF (tk s) (sa s))))) tg' := (Chg.refl).upd tt (by simp) et trivial
      have eT0 : (L2.upd H1 (m.tka s) (.ins (He.ga K "Task") dx (putF "runs" (.bl false) (tkF (tk s) (sa s))))) (m.tka s) = some (.ins (He.ga K "Task") dx (putF "runs" (.bl false) (tkF (tk s) (sa s)))) := upd_same
      have hA : ∀ b, b ≠ m.tka s → (L2.upd H1 (m.tka s) (.ins (He.ga K "Task") dx (putF "runs" (.bl false) (tkF (tk s) (sa s))))) b = H1 b := fun b hb => upd_ne hb
      generalize L2.upd H1 (m.tka s) (.ins (He.ga K "Task") dx (putF "runs" (.bl false) (tkF (tk s) (sa s)))) = Ha at *
      have nq0 : m.tka s ≠ q0 := ne_of_none eT0 hq0
      have eT1 := (upd_ne (o := .lst [V.non]) nq0).trans eT0
      have nq : m.tka s ≠ q := ne_of_none eT1 hq
      have eT2 := (upd_ne (o := .lst ((List.replicate 16 (none : Option Nat)).map oV)) nq).trans eT1
      have c1 := c0.new (o := .lst [V.non]) hq0
      have fr1 : ∀ o, nt o → H1 q ≠ some o := fun o n z => by
        by_cases hz : q = q0
        · rw [hz, upd_same] at hq; cases hq
        · rw [upd_ne hz, hA q nq.symm, z] at hq; cases hq
      have c2 := c1.new (o := .lst ((List.replicate 16 (none : Option Nat)).map oV)) hq
      have c3 := (c2.upd (o' := .ins (He.ga K "Task") dx (putF "rows" (.ref q) (putF "runs" (.bl false) (tkF (tk s) (sa s))))) tt (by simp) eT2 trivial).adopt (r := .tsl s) fr1
      refine ⟨_, _, _, _, rfl, eT2, G.cl_Task, G.n_Task_rows, by show (3 : Nat) < 1000; decide, ?_⟩
      have R4 := R3.stopT hs c3 (by rw [upd_same]; rfl) ((upd_ne nq.symm).trans upd_same) (by rw [tset_ne nq]; exact tt) tset_same
      have nk1 : m.kn ≠ m.tka s := fun z => by rw [z, et] at e3; cases e3
      have e4 := c3.keep _ _ e3 (Pl.nt (o := .dK _) trivial) (fun r hr hm => by rw [(R3.kn_tag : tg' m.kn = _)] at hr; cases hr; simp at hm)
      refine ⟨⟨_, _, rfl⟩, _, _, _, ⟨fun t ht => ?_, fun t ht => ?_⟩, st.trans c3.stp, R4, e4, fun o z n => c3.keep _ _ (ht o z n) n (fun r hr hm => by rw [(R3.th_tag : tg' m.th = _)] at hr; cases hr; simp at hm)⟩
      · have hi' : i < (nm :: L).length := lt_of_get hxs
        rw [List.take_succ, hxs] at ht
        simp only [Option.toList_some, List.mem_append, List.mem_singleton, not_or] at ht
        unfold tkput
        rw [if_neg ht.2, if_neg ht.2]
        exact sr.off t ht.1
      · rw [List.take_succ, hxs] at ht
        simp only [Option.toList_some, List.mem_append, List.mem_singleton] at ht
        unfold tkput
        by_cases hts : t = s
        · subst hts
          rw [if_pos rfl]
          by_cases hin : t ∈ (nm :: L).take i
          · rw [sr.on t hin]
          · rw [(sr.off t hin).1]
        · rw [if_neg hts]
          exact sr.on t (ht.resolve_right hts)
  · rintro σ H1 ⟨⟨v3, v4, rfl⟩, tk, sa, tg', sr, st, R1, e1, ht⟩
    walk_at "w"
    rw [List.length_map, List.take_length] at sr
    exact k _ _ L tk sa _ hL sr (stB.trans st) R1 e1 ht
end
end Pk
end
/-! PkTr -/
section
set_option maxHeartbeats 4000000
namespace Pk
open PySem PySem.Spec PyProof.Rows L2
def nput {α : Type} (f : Nat → α) (n : Nat) (v : α) : Nat → α := fun r => if r = n then v else f r
theorem nput_at {α : Type} {f : Nat → α} {n : Nat} {v : α} : nput f n v n = v := if_pos rfl
theorem nput_ne {α : Type} {f : Nat → α} {n r : Nat} {v : α} (h : r ≠ n) : nput f n v r = f r := if_neg h
/-- how the tree stands -/
structure WT (m : Mo) : Prop where
  nd : m.keys.Nodup
  lt : ∀ n, n ∈ m.keys → n < m.ever
  rg : ∀ n, n ∈ m.keys → (m.row n).rights ≤ 63
  th : ∀ n, n ∈ m.keys → (m.row n).thing < m.nth
  gv : ∀ n g, n ∈ m.keys → (m.row n).giver = some g → g ∈ m.keys ∧ m.dep n = m.dep g + 1
  g0 : ∀ n, n ∈ m.keys → (m.row n).giver = none → m.dep n = 1
  dp : ∀ n, n ∈ m.keys → m.dep n ≤ 40
  knd : ∀ n, n ∈ m.keys → (m.kids n).Nodup
  kid : ∀ n c, n ∈ m.keys → (c ∈ m.kids n ↔ c ∈ m.keys ∧ (m.row c).giver = some n)
  sz : m.keys.length ≤ 1000
/-- a handle is added -/
def Mo.addH (m : Mo) (h : Hd) (x kx : Addr) : Mo :=
  { m with ever := m.ever + 1, keys := m.keys ++ [m.ever], row := nput m.row m.ever h, ha := nput m.ha m.ever x, ka := nput m.ka m.ever kx, kids := nput m.kids m.ever [], dep := nput m.dep m.ever (match h.giver with | none => 1 | some g => m.dep g + 1) }
theorem rowsD_add {ks : List Nat} {ad : Nat → Addr} {n : Nat} {x : Addr} (h : n ∉ ks) : rowsD (ks ++ [n]) (nput ad n x) = rowsD ks ad ++ [((Sum.inl (n : Int) : Key), V.ref x)] := by
  unfold rowsD
  rw [List.map_append]
  congr 1
  · refine List.map_congr_left fun t ht => ?_
    have : t ≠ n := fun z => h (z ▸ ht)
    rw [nput_ne this]
  · simp [nput_at]
theorem put_rows {ks : List Nat} {ad : Nat → Addr} {n : Nat} {x : Addr} (h : n ∉ ks) : putK (rowsD ks ad) (Sum.inl (n : Int)) (V.ref x) = rowsD (ks ++ [n]) (nput ad n x) := by
  rw [rowsD_add h, putK_new _ (by rw [val_rows, if_neg h])]
section
variable {K : PySem.W.Frag} {H H' : Hp} {tg tg' : Tag} {m : Mo}
theorem Rep.rw_tag (R : Rep K H tg m) : tg m.rw = some .rw := (R.cell .rw _ _ rfl).1
theorem Rep.rb_tag (R : Rep K H tg m) : tg m.rb = some .rb := (R.cell .rb _ _ rfl).1
theorem Rep.tr_tag (R : Rep K H tg m) : tg m.tr = some .tr := (R.cell .tr _ _ rfl).1
theorem Rep.addH (R : Rep K H tg m) {h : Hd} {x kx dx dt : Addr} (hn : m.ever ∉ m.keys) (c : Chg [.rw, .rb, .tr, .hnd m.ever, .kid m.ever] H tg H' tg')
    (h1 : H' m.rw = some (.dK (rowsD (m.keys ++ [m.ever]) (nput m.ha m.ever x)))) (h2 : H' m.rb = some (.dK (rowsD (m.keys ++ [m.ever]) (nput m.ka m.ever kx))))
    (h3 : H' m.tr = some (.ins (He.ga K "Tree") dt (trF (m.ever + 1) m.rw m.rb))) (h4 : H' x = some (.ins (He.ga K "Handle") dx (hF m.ever h))) (h5 : H' kx = some (.lst []))
    (t1 : tg' m.rw = some .rw) (t2 : tg' m.rb = some .rb) (t3 : tg' m.tr = some .tr) (t4 : tg' x = some (.hnd m.ever)) (t5 : tg' kx = some (.kid m.ever)) : Rep K H' tg' (m.addH h x kx) := by
  refine R.chg c (fun r hr y e => ?_) (fun r hr a φ e => ?_) (ls_chg R c rfl rfl)
  · cases r with
    | hnd n =>
      have hne : n ≠ m.ever := fun z => hr (by simp [z])
      simp only [Mo.cell, Mo.addH, nput_ne hne, List.mem_append, List.mem_singleton, hne, or_false] at e ⊢
      exact e
    | kid n =>
      have hne : n ≠ m.ever := fun z => hr (by simp [z])
      simp only [Mo.cell, Mo.addH, nput_ne hne, List.mem_append, List.mem_singleton, hne, or_false] at e ⊢
      exact e
    | rw => exact absurd (by simp) hr
    | rb => exact absurd (by simp) hr
    | tr => exact absurd (by simp) hr
    | _ => exact e
  · simp only [List.mem_cons, List.not_mem_nil, or_false] at hr
    rcases hr with rfl | rfl | rfl | rfl | rfl
    · simp only [Mo.cell, Mo.addH] at e
      cases e
      exact ⟨t1, _, h1, rfl⟩
    · simp only [Mo.cell, Mo.addH] at e
      cases e
      exact ⟨t2, _, h2, rfl⟩
    · simp only [Mo.cell, Mo.addH] at e
      cases e
      exact ⟨t3, _, h3, dt, rfl⟩
    · simp only [Mo.cell, Mo.addH, List.mem_append, List.mem_singleton, or_true, if_true, nput_at] at e
      cases e
      exact ⟨t4, _, h4, dx, rfl⟩
    · simp only [Mo.cell, Mo.addH, List.mem_append, List.mem_singleton, or_true, if_true, nput_at] at e
      cases e
      exact ⟨t5, _, h5, rfl⟩
/-- the holder of a handle -/
def Mo.setHold (m : Mo) (n : Nat) (s : Str) : Mo := { m with row := nput m.row n { m.row n with holder := s } }
/-- another list of children -/
def Mo.setKids (m : Mo) (n : Nat) (ks : List Nat) : Mo := { m with kids := nput m.kids n ks }
theorem Rep.setHold (R : Rep K H tg m) {n : Nat} {dx : Addr} {s : Str} (hn : n ∈ m.keys) (e0 : H (m.ha n) = some (.ins (He.ga K "Handle") dx (hF n (m.row n)))) : Rep K (L2.upd H (m.ha n) (.ins (He.ga K "Handle") dx (hF n { m.row n with holder := s }))) tg (m.setHold n s) := by
  have h0 : m.cell K (.hnd n) = some (m.ha n, isI (He.ga K "Handle") (hF n (m.row n))) := if_pos hn
  have h1 : (m.setHold n s).cell K (.hnd n) = some (m.ha n, isI (He.ga K "Handle") (hF n { m.row n with holder := s })) := by
    simp only [Mo.cell, Mo.setHold, if_pos hn, nput_at]
  refine R.upd h0 h1 ⟨dx, rfl⟩ (fun r hr x e => ?_) (ls_upd R h0 rfl rfl)
  cases r with
  | hnd k =>
    have ht : k ≠ n := fun z => hr (by rw [z])
    simp only [Mo.cell, Mo.setHold, nput_ne ht] at e ⊢
    exact e
  | _ => exact e
theorem Rep.setKids (R : Rep K H tg m) {n : Nat} {ks : List Nat} (hn : n ∈ m.keys) : Rep K (L2.upd H (m.ka n) (.lst (ks.map nV))) tg (m.setKids n ks) := by
  have h0 : m.cell K (.kid n) = some (m.ka n, fun o => o = .lst ((m.kids n).map nV)) := if_pos hn
  have h1 : (m.setKids n ks).cell K (.kid n) = some (m.ka n, fun o => o = .lst (ks.map nV)) := by
    simp only [Mo.cell, Mo.setKids, if_pos hn, nput_at]
  refine R.upd h0 h1 rfl (fun r hr x e => ?_) (ls_upd R h0 rfl rfl)
  cases r with
  | kid k =>
    have ht : k ≠ n := fun z => hr (by rw [z])
    simp only [Mo.cell, Mo.setKids, nput_ne ht] at e ⊢
    exact e
  | _ => exact e
end
end Pk
end
/-! PkTr2 -/
section
set_option maxHeartbeats 4000000
namespace Pk
open PySem PySem.Spec PyProof.Rows L2
/-- n above x -/
inductive Anc (m : Mo) (n : Nat) : Nat → Prop
  | one {x : Nat} (h : (m.row x).giver = some n) : Anc m n x
  | up {x g : Nat} (h : (m.row x).giver = some g) (a : Anc m n g) : Anc m n x
theorem Anc.dep {m : Mo} {n x : Nat} (W : WT m) (hx : x ∈ m.keys) (a : Anc m n x) : n ∈ m.keys ∧ m.dep n < m.dep x := by
  induction a with
  | one h => obtain ⟨h1, h2⟩ := W.gv _ _ hx h; exact ⟨h1, by omega⟩
  | up h a ih => obtain ⟨h1, h2⟩ := W.gv _ _ hx h; obtain ⟨h3, h4⟩ := ih h1; exact ⟨h3, by omega⟩
theorem Anc.uniq {m : Mo} {c1 c2 x : Nat} (W : WT m) (hx : x ∈ m.keys) (a : Anc m c1 x) (b : Anc m c2 x) (e : m.dep c1 = m.dep c2) : c1 = c2 := by
  induction a with
  | one h =>
    cases b with
    | one h' => rw [h] at h'; exact Option.some.inj h'
    | up h' b' =>
      rw [h] at h'
      cases h'
      have := b'.dep W (W.gv _ _ hx h).1
      omega
  | up h a ih =>
    cases b with
    | one h' =>
      rw [h] at h'
      cases h'
      have := a.dep W (W.gv _ _ hx h).1
      omega
    | up h' b' =>
      rw [h] at h'
      cases h'
      exact ih (W.gv _ _ hx h).1 b'
theorem anc_kid {m : Mo} {n x : Nat} (W : WT m) (hn : n ∈ m.keys) : (x ∈ m.keys ∧ Anc m n x) ↔ ∃ c, c ∈ m.kids n ∧ (x = c ∨ (x ∈ m.keys ∧ Anc m c x)) := by
  constructor
  · rintro ⟨hx, a⟩
    induction a with
    | one h => exact ⟨_, (W.kid n _ hn).mpr ⟨hx, h⟩, .inl rfl⟩
    | up h a ih =>
      obtain ⟨c, hc, e⟩ := ih (W.gv _ _ hx h).1
      rcases e with rfl | ⟨_, e⟩
      · exact ⟨_, hc, .inr ⟨hx, .one h⟩⟩
      · exact ⟨c, hc, .inr ⟨hx, .up h e⟩⟩
  · rintro ⟨c, hc, e⟩
    obtain ⟨ck, cg⟩ := (W.kid n c hn).mp hc
    rcases e with rfl | ⟨hx, a⟩
    · exact ⟨ck, .one cg⟩
    · refine ⟨hx, ?_⟩
      induction a with
      | one h => exact .up h (.one cg)
      | up h a ih => exact .up h (ih (W.gv _ _ hx h).1)
/-- a child and what is below it -/
def Und (m : Mo) (c x : Nat) : Prop := x = c ∨ (x ∈ m.keys ∧ Anc m c x)
theorem und_dis {m : Mo} {n c1 c2 x : Nat} (W : WT m) (hn : n ∈ m.keys) (h1 : c1 ∈ m.kids n) (h2 : c2 ∈ m.kids n) (u1 : Und m c1 x) (u2 : Und m c2 x) : c1 = c2 := by
  obtain ⟨k1, g1⟩ := (W.kid n c1 hn).mp h1
  obtain ⟨k2, g2⟩ := (W.kid n c2 hn).mp h2
  have d1 := (W.gv _ _ k1 g1).2
  have d2 := (W.gv _ _ k2 g2).2
  rcases u1 with rfl | ⟨hx, a1⟩ <;> rcases u2 with e2 | ⟨hx2, a2⟩
  · exact e2
  · have := a2.dep W hx2; omega
  · subst e2; have := a1.dep W hx; omega
  · exact a1.uniq W hx a2 (by omega)
theorem nodup_le {l k : List Nat} (h : l.Nodup) (s : ∀ x, x ∈ l → x ∈ k) : l.length ≤ k.length := by
  induction l generalizing k with
  | nil => exact Nat.zero_le _
  | cons a r ih =>
    rw [List.nodup_cons] at h
    have ha : a ∈ k := s a List.mem_cons_self
    have := ih (k := k.erase a) h.2 (fun x hx => by
      have hne : x ≠ a := fun z => h.1 (z ▸ hx)
      exact (List.mem_erase_of_ne hne).mpr (s x (List.mem_cons_of_mem _ hx)))
    rw [List.length_erase_of_mem ha] at this
    have hpos := List.length_pos_of_mem ha
    simp only [List.length_cons]
    omega
theorem drop_rows {ks : List Nat} {ad : Nat → Addr} {n : Nat} : dropK (rowsD ks ad) (Sum.inl (n : Int)) = rowsD (ks.filter fun k => decide (k ≠ n)) ad := by
  unfold dropK rowsD
  rw [List.filter_map]
  congr 1
  refine List.filter_congr fun k _ => ?_
  simp only [Function.comp, ne_eq, Sum.inl.injEq, Int.natCast_inj]
theorem put_rows_old {ks : List Nat} {ad : Nat → Addr} {n : Nat} {x : Addr} (h : n ∈ ks) : putK (rowsD ks ad) (Sum.inl (n : Int)) (V.ref x) = rowsD ks (nput ad n x) := by
  have e : ((rowsD ks ad).any fun kv => decide (kv.1 = (Sum.inl (n : Int) : Key))) = true := by
    rw [valV_any, val_rows, if_pos h]; rfl
  unfold putK
  rw [if_pos e]
  unfold rowsD
  rw [List.map_map]
  refine List.map_congr_left fun t ht => ?_
  by_cases z : t = n
  · subst z; simp [nput_at]
  · have : ¬ ((Sum.inl (t : Int) : Key) = Sum.inl (n : Int)) := fun y => z (by have := Sum.inl.inj y; omega)
    simp [this, nput_ne z]
def Mo.dropKey (m : Mo) (n : Nat) : Mo := { m with keys := m.keys.filter fun k => decide (k ≠ n) }
def Mo.newKids (m : Mo) (n : Nat) (ks : List Nat) (kx : Addr) : Mo := { m with kids := nput m.kids n ks, ka := nput m.ka n kx }
section
variable {K : PySem.W.Frag} {H H' : Hp} {tg tg' : Tag} {m : Mo}
theorem Rep.dropKey (R : Rep K H tg m) {n : Nat} (c : Chg [.rw, .rb] H tg H' tg')
    (h1 : H' m.rw = some (.dK (rowsD (m.keys.filter fun k => decide (k ≠ n)) m.ha))) (h2 : H' m.rb = some (.dK (rowsD (m.keys.filter fun k => decide (k ≠ n)) m.ka)))
    (t1 : tg' m.rw = some .rw) (t2 : tg' m.rb = some .rb) : Rep K H' tg' (m.dropKey n) := by
  refine R.chg c (fun r hr y e => ?_) (fun r hr a φ e => ?_) (ls_chg R c rfl rfl)
  · cases r with
    | hnd k =>
      simp only [Mo.cell, Mo.dropKey, List.mem_filter] at e ⊢
      split at e
      · rename_i z; rw [if_pos z.1]; exact e
      · cases e
    | kid k =>
      simp only [Mo.cell, Mo.dropKey, List.mem_filter] at e ⊢
      split at e
      · rename_i z; rw [if_pos z.1]; exact e
      · cases e
    | rw => exact absurd (by simp) hr
    | rb => exact absurd (by simp) hr
    | _ => exact e
  · simp only [List.mem_cons, List.not_mem_nil, or_false] at hr
    rcases hr with rfl | rfl
    · simp only [Mo.cell, Mo.dropKey] at e
      cases e
      exact ⟨t1, _, h1, rfl⟩
    · simp only [Mo.cell, Mo.dropKey] at e
      cases e
      exact ⟨t2, _, h2, rfl⟩
theorem Rep.newKids (R : Rep K H tg m) {n : Nat} {ks : List Nat} {kx : Addr} (hn : n ∈ m.keys) (c : Chg [.rb, .kid n] H tg H' tg') (h2 : H' m.rb = some (.dK (rowsD m.keys (nput m.ka n kx)))) (h3 : H' kx = some (.lst (ks.map nV)))
    (t2 : tg' m.rb = some .rb) (t3 : tg' kx = some (.kid n)) : Rep K H' tg' (m.newKids n ks kx) := by
  refine R.chg c (fun r hr y e => ?_) (fun r hr a φ e => ?_) (ls_chg R c rfl rfl)
  · cases r with
    | kid k =>
      have hne : k ≠ n := fun z => hr (by simp [z])
      simp only [Mo.cell, Mo.newKids, nput_ne hne] at e ⊢
      exact e
    | rb => exact absurd (by simp) hr
    | _ => exact e
  · simp only [List.mem_cons, List.not_mem_nil, or_false] at hr
    rcases hr with rfl | rfl
    · simp only [Mo.cell, Mo.newKids] at e
      cases e
      exact ⟨t2, _, h2, rfl⟩
    · simp only [Mo.cell, Mo.newKids, if_pos hn, nput_at] at e
      cases e
      exact ⟨t3, _, h3, rfl⟩
end
end Pk
end
/-! PkF6 -/
section
set_option maxHeartbeats 4000000
namespace Pk
open PySem PySem.Spec PyProof.Rows L2
local macro_rules | `(tactic| walk_at "c") => `(tactic| first | assumption | omega | exact rfl | (intro z; cases z; done) | (simp only [nV, V.int.injEq, V.str.injEq]; first | assumption | omega))
local macro_rules | `(tactic| walk_at "fld") => `(tactic| first
  | assumption
  | exact fld_k_tasks (by assumption) (by assumption) | exact fld_k_tree (by assumption) (by assumption) | exact fld_k_things (by assumption) (by assumption) | exact fld_ta_known (by assumption) (by assumption)
  | exact fld_t_rows (by assumption) (by assumption) (by assumption) | exact fld_t_run1 (by assumption) (by assumption) (by assumption) (by assumption) | exact fld_t_runs (by assumption) (by assumption) (by assumption) | exact fld_t_maker (by assumption) (by assumption) (by assumption) | exact fld_tr_rows (by assumption) (by assumption) | exact fld_tr_rb (by assumption) (by assumption) | exact fld_tr_ever (by assumption) (by assumption)
  | exact fld_h_number (by assumption) (by assumption) | exact fld_h_thing (by assumption) (by assumption) | exact fld_h_rights (by assumption) (by assumption) | exact fld_h_giver (by assumption) (by assumption) | exact fld_h_holder (by assumption) (by assumption))
local macro_rules | `(tactic| walk_at "get") => `(tactic| first
  | assumption
  | exact get_kn1 (by assumption) (by assumption) | exact get_kn0 (by assumption) (by assumption) | exact get_rw1 (by assumption) (by assumption) | exact get_rw0 (by assumption) (by assumption)
  | exact get_rb1 (by assumption) (by assumption) | exact get_rb0 (by assumption) (by assumption) | exact get_th1 (by assumption) (by assumption) | exact get_th0 (by assumption) (by assumption))
local macro_rules | `(tactic| walk_at "ins") => `(tactic| first | exact insTa (by assumption) rfl | exact insTr (by assumption) rfl)
local macro_rules | `(tactic| walk_at "s") => `(tactic| first
  | refine ⟨_, rfl, ?_⟩
  | refine ⟨rfl, ?_⟩
  | refine zI fun _ => ?_
  | with_reducible refine iteF ?_ | with_reducible refine iteT ?_
  | ((with_reducible refine iteDy ?_ ?_); focus (walk_at "c"; done)) | ((with_reducible refine iteDn ?_ ?_); focus (walk_at "c"; done)) | ((with_reducible refine iteNy ?_ ?_); focus (walk_at "c"; done)) | ((with_reducible refine iteNn ?_ ?_); focus (walk_at "c"; done))
  | refine fldI (by walk_at "fld") ?_
  | refine getI (by walk_at "get") ?_ | refine getS (by walk_at "get") ?_
  | refine ⟨by walk_at "ins", ?_⟩
  | refine ⟨_, _, _, _, true, rfl, .ty _, .base (.str _), kit_ty (by decide +kernel), ?_⟩
  | refine ⟨_, _, _, _, true, rfl, .ty _, .base (.int _), kit_ty (by decide +kernel), ?_⟩
  | refine ⟨_, _, _, _, false, rfl, .ty _, .base (.int _), kit_ty (by decide +kernel), ?_⟩
  | refine ⟨_, _, rfl, rfl, ?_⟩
  | refine ⟨_, _, rfl, rfl, trivial, ?_⟩)
local macro_rules | `(tactic| walk_at "w") => `(tactic| repeat (walk_at "s"))
section
variable {P : Program} {w : World} {K : PySem.W.Frag} {mg : Str → Option Value} {base : Heap} (G : Gx K mg base)
include G
theorem fT_rb {H : Hp} {a dt rw rb : Addr} {ev : Nat} (e : H a = some (.ins (He.ga K "Tree") dt (trF ev rw rb))) : FldAt K H (.ref a) "right_below" (.ref rb) := ⟨_, _, dt, _, rfl, e, G.cl_Tree, G.n_Tree_right_below, lkS (by decide +kernel) (lkS (by decide +kernel) lk0)⟩
theorem fT_rw {H : Hp} {a dt rw rb : Addr} {ev : Nat} (e : H a = some (.ins (He.ga K "Tree") dt (trF ev rw rb))) : FldAt K H (.ref a) "rows" (.ref rw) := ⟨_, _, dt, _, rfl, e, G.cl_Tree, G.n_Tree_rows, lkS (by decide +kernel) lk0⟩
def sp_Handle_init (K : PySem.W.Frag) : Sp := fun vs H Q E => ∃ x dx n h, vs = [.ref x, nV n, nV h.thing, nV h.rights, oV h.giver, .str h.holder] ∧ H x = some (.ins (He.ga K "Handle") dx []) ∧
  ∀ H', H' x = some (.ins (He.ga K "Handle") dx (hF n h)) → (∀ b, b ≠ x → H' b = H b) → Q .non H'
omit G in
theorem sc_Handle_init : FnScope ["self", "number", "thing", "rights", "giver", "holder"] ["self", "number", "thing", "rights", "giver", "holder"] (defScope s_Handle_init) := ⟨rfl, rfl, rfl, by decide +kernel, rfl, by decide +kernel, by decide +kernel⟩
theorem ok_Handle_init : MkR P w K mg base 1 (He.ga K "Handle") (sp_Handle_init K) := by
  refine mkI (k := 0) G.k_Handle G.f_Handle_init sc_Handle_init (fun _ _ _ _ _ _ us hl => match us, hl with | [_, _, _, _, _, _], _ => rfl) (fun vs H Q E h => by repeat (first | (obtain ⟨e, _⟩ := h; cases e; rfl; done) | obtain ⟨_, h⟩ := h)) (fun cdv A outer s H vs Q E hr h => ?_)
  have S := sc_Handle_init
  obtain ⟨x, dx, n, h, rfl, hx, k⟩ := h
  refine ⟨_, (pss_cons (ps_fld (pv 0) (pv 1) rfl)
      (pss_cons (ps_fld (pv 0) (pv 2) rfl)
      (pss_cons (ps_fld (pv 0) (pv 3) rfl)
      (pss_cons (ps_fld (pv 0) (pv 4) rfl)
      (pss_one (ps_fld (pv 0) (pv 5) rfl)))))), ?_⟩
  walk_at "w"
  refine ⟨_, _, _, _, rfl, hx, G.cl_Handle, G.n_Handle_number, by show (0 : Nat) < 1000; decide, ?_⟩
  walk_at "w"
  refine ⟨_, _, _, _, rfl, upd_same, G.cl_Handle, G.n_Handle_thing, by show (1 : Nat) < 1000; decide, ?_⟩
  walk_at "w"
  refine ⟨_, _, _, _, rfl, upd_same, G.cl_Handle, G.n_Handle_rights, by show (2 : Nat) < 1000; decide, ?_⟩
  walk_at "w"
  refine ⟨_, _, _, _, rfl, upd_same, G.cl_Handle, G.n_Handle_giver, by show (3 : Nat) < 1000; decide, ?_⟩
  walk_at "w"
  refine ⟨_, _, _, _, rfl, upd_same, G.cl_Handle, G.n_Handle_holder, by show (4 : Nat) < 1000; decide, ?_⟩
  walk_at "w"
  refine k _ (by rw [upd_same]; rfl) (fun b hb => by rw [upd_ne hb, upd_ne hb, upd_ne hb, upd_ne hb, upd_ne hb])
def sp_Tree_init (K : PySem.W.Frag) : Sp := fun vs H Q E => ∃ x dx, vs = [.ref x] ∧ H x = some (.ins (He.ga K "Tree") dx []) ∧
  ∀ H' rw rb, H rw = none → H rb = none → rw ≠ rb → H' x = some (.ins (He.ga K "Tree") dx (trF 0 rw rb)) → H' rw = some (.dK []) → H' rb = some (.dK []) → (∀ b o, b ≠ x → H b = some o → H' b = some o) → Q .non H'
omit G in
theorem sc_Tree_init : FnScope ["self"] ["self"] (defScope s_Tree_init) := ⟨rfl, rfl, rfl, by decide +kernel, rfl, by decide +kernel, by decide +kernel⟩
theorem ok_Tree_init : MkR P w K mg base 1 (He.ga K "Tree") (sp_Tree_init K) := by
  refine mkI (k := 0) G.k_Tree G.f_Tree_init sc_Tree_init (fun _ _ _ _ _ _ us hl => match us, hl with | [_], _ => rfl) (fun vs H Q E h => by repeat (first | (obtain ⟨e, _⟩ := h; cases e; rfl; done) | obtain ⟨_, h⟩ := h)) (fun cdv A outer s H vs Q E hr h => ?_)
  have S := sc_Tree_init
  obtain ⟨x, dx, rfl, hx, k⟩ := h
  refine ⟨_, (pss_cons (ps_fld (pv 0) pe_int rfl)
      (pss_cons (ps_fld (pv 0) pe_dnewK rfl)
      (pss_one (ps_fld (pv 0) pe_dnewK rfl)))), ?_⟩
  walk_at "w"
  refine ⟨_, _, _, _, rfl, hx, G.cl_Tree, G.n_Tree_ever, by show (0 : Nat) < 1000; decide, ?_⟩
  walk_at "w"
  refine fun p hp => ?_
  have np : x ≠ p := fun z => by rw [← z, upd_same] at hp; cases hp
  walk_at "w"
  refine ⟨_, _, _, _, rfl, (upd_ne np).trans upd_same, G.cl_Tree, G.n_Tree_rows, by show (1 : Nat) < 1000; decide, ?_⟩
  walk_at "w"
  refine fun q hq => ?_
  have nq : x ≠ q := fun z => by rw [← z, upd_same] at hq; cases hq
  have npq : p ≠ q := fun z => by rw [← z, upd_ne np.symm, upd_same] at hq; cases hq
  walk_at "w"
  refine ⟨_, _, _, _, rfl, (upd_ne nq).trans upd_same, G.cl_Tree, G.n_Tree_right_below, by show (2 : Nat) < 1000; decide, ?_⟩
  walk_at "w"
  have hp0 : H p = none := by rw [upd_ne np.symm] at hp; exact hp
  have hq0 : H q = none := by rw [upd_ne nq.symm, upd_ne npq.symm, upd_ne nq.symm] at hq; exact hq
  refine k _ p q hp0 hq0 npq (by rw [upd_same]; rfl) ?_ ?_ (fun b o hb e => ?_)
  · rw [upd_ne np.symm, upd_ne npq, upd_ne np.symm, upd_same]
  · rw [upd_ne nq.symm, upd_same]
  · rw [upd_ne hb, upd_ne (ne_of_none e hq0), upd_ne hb, upd_ne (ne_of_none e hp0), upd_ne hb]; exact e
def sp_tneed (K : PySem.W.Frag) : Sp := fun vs H Q E => ∃ tg m n, vs = [.ref m.tr, nV n] ∧ Rep K H tg m ∧ (n ∉ m.keys → Er K H E) ∧ (n ∈ m.keys → Q .non H)
omit G in
theorem sc_Tree_need : FnScope ["self", "number"] ["self", "number"] (defScope s_Tree_need) := ⟨rfl, rfl, rfl, by decide +kernel, rfl, by decide +kernel, by decide +kernel⟩
theorem ok_Tree_need : FnR P w K mg base (L2.CX P w) 1 (He.ma K (He.ga K "Tree") "need") (sp_tneed K) := by
  refine mkF (k := 0) G.f_Tree_need sc_Tree_need (fun _ _ _ _ _ _ us hl => match us, hl with | [_, _], _ => rfl) (fun vs H Q E h => by repeat (first | (obtain ⟨e, _⟩ := h; cases e; rfl; done) | obtain ⟨_, h⟩ := h)) (fun cdv A outer s H vs Q E hr h => ?_)
  have S := sc_Tree_need
  obtain ⟨tg, m, n, rfl, R, er, k⟩ := h
  refine ⟨_, (pss_one (ps_if (PW.pt (pw_or (pt_not (pt_val (pe_callB call_isi (by rfl) G.b_isinstance (by decide +kernel) (pa_cons (pv 1) (pa_cons (pe_ty (T := "int") rfl G.b_int (by decide +kernel)) pa_nil))))) (pw_or (pt_val (pe_callB call_isi (by rfl) G.b_isinstance (by decide +kernel) (pa_cons (pv 1) (pa_cons (pe_ty (T := "bool") rfl G.b_bool (by decide +kernel)) pa_nil)))) (pw_or1 (pt_cmp (pc_dnotin (hu_of hr) (pv 1) (pe_fd (pv 0)))))))) (pss_one (ps_raise rfl tkd (pmk_own PySem.F.excBase_ValueError G.x_NoHandle.1 G.g_NoHandle G.x_NoHandle.2.1 (raises_own G.x_NoHandle.2.2.1 G.x_NoHandle.2.2.2) rfl))) pss_nil)), ?_⟩
  by_cases hn : n ∈ m.keys
  · walk_at "w"
    exact k hn
  · walk_at "w"
    exact er hn _ _ _ (xc G.e_NoHandle) (Al.refl _)
def sp_handle (K : PySem.W.Frag) : Sp := fun vs H Q E => ∃ tg m n, vs = [.ref m.tr, nV n] ∧ Rep K H tg m ∧ (n ∉ m.keys → Er K H E) ∧ (n ∈ m.keys → ∀ H' x, Al H H' → HdAt K H' x n (m.row n) → Q (.ref x) H')
omit G in
theorem sc_Tree_handle : FnScope ["self", "number", "row"] ["self", "number"] (defScope s_Tree_handle) := ⟨rfl, rfl, rfl, by decide +kernel, rfl, by decide +kernel, by decide +kernel⟩
theorem ok_Tree_handle : FnR P w K mg base (L2.CX P w) 3 (He.ma K (He.ga K "Tree") "handle") (sp_handle K) := by
  refine mkF (k := 2) G.f_Tree_handle sc_Tree_handle (fun _ _ _ _ _ _ us hl => match us, hl with | [_, _], _ => rfl) (fun vs H Q E h => by repeat (first | (obtain ⟨e, _⟩ := h; cases e; rfl; done) | obtain ⟨_, h⟩ := h)) (fun cdv A outer s H vs Q E hr h => ?_)
  have S := sc_Tree_handle
  obtain ⟨tg, m, n, rfl, R, er, k⟩ := h
  refine ⟨_, (pss_cons (ps_expr (pe_m (ok_Tree_need G) (hr.mono (by omega)) G.cl_Tree G.m_Tree_need tkd (pv 0) (pa_cons (pv 1) pa_nil)))
      (pss_cons (ps_set (i := 2) S.nd rfl (by first | exact Or.inl rfl | exact Or.inr rfl) (pe_dget (hu_of hr) (pe_fd (pv 0)) (pv 1) (fun _ _ => rfl)))
      (pss_one (ps_ret (pe_mk (ok_Handle_init G) (hr.mono (by omega)) rfl G.g_Handle (pa_cons (pv 1) (pa_cons (pe_fd (pv 2)) (pa_cons (pe_fd (pv 2)) (pa_cons (pe_fd (pv 2)) (pa_cons (pe_fd (pv 2)) pa_nil)))))))))), ?_⟩
  walk_at "w"
  refine ⟨tg, m, n, rfl, R, er, fun hn => ?_⟩
  have hh : HdAt K H (m.ha n) n (m.row n) := R.hnd hn
  walk_at "w"
  refine fun x dx hx hdx nx => ⟨x, dx, n, m.row n, rfl, upd_same, fun H3 e3 kp => ⟨rfl, ?_⟩⟩
  walk_at "w"
  refine k hn _ x (Al.of fun b o e => ?_) ⟨dx, e3⟩
  rw [kp b (ne_of_none e hx), upd_ne (ne_of_none e hx), upd_ne (ne_of_none e hdx)]
  exact e
def sp_tadded (K : PySem.W.Frag) : Sp := fun vs H Q E => ∃ tg m h, vs = [.ref m.tr, nV h.thing, nV h.rights, oV h.giver, .str h.holder] ∧ Rep K H tg m ∧ m.ever ∉ m.keys ∧ m.keys.length ≤ 1000 ∧
  (∀ H' tg' x kx, Stp H tg H' tg' → Rep K H' tg' (m.addH h x kx) → (∀ b o, tg b ≠ some .rw → tg b ≠ some .rb → tg b ≠ some .tr → H b = some o → H' b = some o) → Q (nV m.ever) H')
omit G in
theorem sc_Tree_added : FnScope ["self", "thing", "rights", "giver", "holder", "number"] ["self", "thing", "rights", "giver", "holder"] (defScope s_Tree_added) := ⟨rfl, rfl, rfl, by decide +kernel, rfl, by decide +kernel, by decide +kernel⟩
theorem ok_Tree_added : FnR P w K mg base (L2.CX P w) 3 (He.ma K (He.ga K "Tree") "added") (sp_tadded K) := by
  refine mkF (k := 2) G.f_Tree_added sc_Tree_added (fun _ _ _ _ _ _ us hl => match us, hl with | [_, _, _, _, _], _ => rfl) (fun vs H Q E h => by repeat (first | (obtain ⟨e, _⟩ := h; cases e; rfl; done) | obtain ⟨_, h⟩ := h)) (fun cdv A outer s H vs Q E hr h => ?_)
  have S := sc_Tree_added
  obtain ⟨tg, m, h, rfl, R, hn, hsz, k⟩ := h
  refine ⟨_, (pss_cons (ps_set (i := 5) S.nd rfl (by first | exact Or.inl rfl | exact Or.inr rfl) (pe_fd (pv 0)))
      (pss_cons (ps_dput (hu_of hr) (pe_fd (pv 0)) (pv 5) (pe_mk (ok_Handle_init G) (hr.mono (by omega)) rfl G.g_Handle (pa_cons (pv 5) (pa_cons (pv 1) (pa_cons (pv 2) (pa_cons (pv 3) (pa_cons (pv 4) pa_nil)))))) rfl)
      (pss_cons (ps_dput (hu_of hr) (pe_fd (pv 0)) (pv 5) (pe_lst pa_nil) rfl)
      (pss_cons (ps_fldaug (pv 0) pe_int in_add)
      (pss_one (ps_ret (pv 5))))))), ?_⟩
  walk_at "w"
  refine fun x dx hx hdx nx => ⟨x, dx, m.ever, h, rfl, upd_same, fun H3 e3 kp => ⟨rfl, ?_⟩⟩
  have a3 : Al H H3 := Al.of fun b o e => by rw [kp b (ne_of_none e hx), upd_ne (ne_of_none e hx), upd_ne (ne_of_none e hdx)]; exact e
  have R3 := R.al a3
  have erw := R.rw
  have erb := R.rb
  obtain ⟨dt, etr⟩ := R.tr
  have nrwx : m.rw ≠ x := ne_of_none erw hx
  have nrbx : m.rb ≠ x := ne_of_none erb hx
  have ntrx : m.tr ≠ x := ne_of_none etr hx
  have ntw : m.tr ≠ m.rw := fun z => by rw [z, erw] at etr; cases etr
  have ntb : m.tr ≠ m.rb := fun z => by rw [z, erb] at etr; cases etr
  have nwb : m.rw ≠ m.rb := fun z => by
    have := R.rw_tag
    rw [z, R.rb_tag] at this
    cases this
  have erw3 := a3.dK erw
  have erb3 := a3.dK erb
  have etr3 := a3.ins etr
  walk_at "w"
  refine ⟨_, _, rfl, DPut.k (k := Sum.inl (m.ever : Int)) erw3 (by unfold rowsD; rw [List.length_map, sizeLine_eq]; omega), ?_⟩
  rw [put_rows hn]
  walk_at "w"
  refine ⟨by rw [sizeLine_eq]; decide, fun kx hkx => ?_⟩
  have nkr : kx ≠ m.rw := fun z => by rw [z, upd_same] at hkx; cases hkx
  have hkx3 : H3 kx = none := by rw [upd_ne nkr] at hkx; exact hkx
  have hkx0 : ∀ o, nt o → H kx ≠ some o := a3.free hkx3
  have nkx : x ≠ kx := ne_of_none e3 hkx3
  have etr4 := (upd_ne (o := .lst []) (ne_of_none etr3 hkx3)).trans ((upd_ne (o := .dK (rowsD (m.keys ++ [m.ever]) (nput m.ha m.ever x))) ntw).trans etr3)
  have erb4 := (upd_ne (o := .lst []) (ne_of_none erb3 hkx3)).trans ((upd_ne (o := .dK (rowsD (m.keys ++ [m.ever]) (nput m.ha m.ever x))) nwb.symm).trans erb3)
  have f1 := fT_rb G etr4
  walk_at "w"
  refine ⟨_, _, rfl, DPut.k (k := Sum.inl (m.ever : Int)) erb4 (by unfold rowsD; rw [List.length_map, sizeLine_eq]; omega), ?_⟩
  rw [put_rows hn]
  have etr5 := (upd_ne (o := .dK (rowsD (m.keys ++ [m.ever]) (nput m.ka m.ever kx))) ntb).trans etr4
  walk_at "w"
  refine ⟨_, _, _, _, _, rfl, etr5, G.cl_Tree, G.n_Tree_ever, lk0, ?_⟩
  walk_at "w"
  refine ⟨_, _, etr5, by show (3 : Nat) < 1000; decide, ?_⟩
  walk_at "w"
  have c0 : Chg [.rw, .rb, .tr, .hnd m.ever, .kid m.ever] H tg H3 tg := Chg.refl.al a3
  have c1 := (((((c0.upd (o' := .dK (rowsD (m.keys ++ [m.ever]) (nput m.ha m.ever x))) R.rw_tag (by simp) erw3 trivial).new (o := .lst []) hkx).upd (o' := .dK (rowsD (m.keys ++ [m.ever]) (nput m.ka m.ever kx))) R.rb_tag (by simp) erb4 trivial).upd (o' := .ins (He.ga K "Tree") dt (putF "ever" (.int ((m.ever : Int) + 1)) (trF m.ever m.rw m.rb))) R.tr_tag (by simp) etr5 trivial).adopt (x := x) (r := .hnd m.ever) (fun o n z => by rw [hx] at z; cases z)).adopt (x := kx) (r := .kid m.ever) hkx0
  have nrwk : m.rw ≠ kx := nkr.symm
  have nrbk : m.rb ≠ kx := ne_of_none erb3 hkx3
  have ntrk : m.tr ≠ kx := ne_of_none etr3 hkx3
  refine k _ _ x kx c1.stp (R.addH (dx := dx) (dt := dt) hn c1 ?_ ?_ ?_ ?_ ?_ ?_ ?_ ?_ ?_ ?_) (fun b o h1 h2 h3 e => ?_)
  · rw [upd_ne ntw.symm, upd_ne nwb, upd_ne nrwk, upd_same]
  · rw [upd_ne ntb.symm, upd_same]
  · rw [upd_same]; rfl
  · rw [upd_ne ntrx.symm, upd_ne nrbx.symm, upd_ne nkx, upd_ne nrwx.symm]; exact e3
  · rw [upd_ne ntrk.symm, upd_ne nrbk.symm, upd_same]
  · rw [tset_ne nrwk, tset_ne nrwx]; exact R.rw_tag
  · rw [tset_ne nrbk, tset_ne nrbx]; exact R.rb_tag
  · rw [tset_ne ntrk, tset_ne ntrx]; exact R.tr_tag
  · rw [tset_ne nkx]; exact tset_same
  · exact tset_same
  · have n1 : b ≠ m.rw := fun z => h1 (by rw [z]; exact R.rw_tag)
    have n2 : b ≠ m.rb := fun z => h2 (by rw [z]; exact R.rb_tag)
    have n3 : b ≠ m.tr := fun z => h3 (by rw [z]; exact R.tr_tag)
    have e3' : H3 b = some o := by rw [kp b (ne_of_none e hx), upd_ne (ne_of_none e hx), upd_ne (ne_of_none e hdx)]; exact e
    rw [upd_ne n3, upd_ne n2, upd_ne (ne_of_none e3' hkx3), upd_ne n1]
    exact e3'
def sp_kept (K : PySem.W.Frag) : Sp := fun vs H Q E => ∃ tg m, vs = [.ref m.tr] ∧ Rep K H tg m ∧ m.keys.length ≤ 1000 ∧ (∀ H' p (ks : List Nat), Al H H' → H p = none → H' p = some (.lst (ks.map nV)) → ks.Perm m.keys → Q (.ref p) H')
omit G in
theorem sc_Tree_kept : FnScope ["self"] ["self"] (defScope s_Tree_kept) := ⟨rfl, rfl, rfl, by decide +kernel, rfl, by decide +kernel, by decide +kernel⟩
theorem ok_Tree_kept : FnR P w K mg base (L2.CX P w) 1 (He.ma K (He.ga K "Tree") "kept") (sp_kept K) := by
  refine mkF (k := 0) G.f_Tree_kept sc_Tree_kept (fun _ _ _ _ _ _ us hl => match us, hl with | [_], _ => rfl) (fun vs H Q E h => by repeat (first | (obtain ⟨e, _⟩ := h; cases e; rfl; done) | obtain ⟨_, h⟩ := h)) (fun cdv A outer s H vs Q E hr h => ?_)
  have S := sc_Tree_kept
  obtain ⟨tg, m, rfl, R, hsz, k⟩ := h
  refine ⟨_, (pss_one (ps_ret (pe_callB (cr_sortedDI rfl) (by rfl) G.b_sorted (by decide +kernel) (pa_cons (pe_fd (pv 0)) pa_nil)))), ?_⟩
  walk_at "w"
  refine ⟨m.rw, rowsD m.keys m.ha, m.keys.map fun n : Nat => (n : Int), rfl, .inl R.rw, ?_, by rw [List.length_map]; omega, fun ys p hp _ hq => ?_⟩
  · unfold rowsD
    rw [List.map_map, List.map_map]
    rfl
  · obtain ⟨ks, rfl⟩ : ∃ ks : List Nat, ys = ks.map (fun n : Nat => (n : Int)) := ⟨ys.map Int.toNat, by
      rw [List.map_map]
      have : ∀ y ∈ ys, ((fun n : Nat => (n : Int)) ∘ Int.toNat) y = y := fun y hy => by
        obtain ⟨n, _, rfl⟩ := List.mem_map.mp (hp.mem_iff.mp hy)
        rfl
      rw [List.map_congr_left this, List.map_id']⟩
    have hp2 : ks.Perm m.keys := by
      have := hp.map Int.toNat
      rw [List.map_map, List.map_map] at this
      have e : (Int.toNat ∘ fun n : Nat => (n : Int)) = id := by funext n; rfl
      rw [e, List.map_id, List.map_id] at this
      exact this
    exact k _ p ks (.new hq) hq (by rw [upd_same, List.map_map]; rfl) hp2
end
end Pk
end
/-! PkF7 -/
section
set_option maxHeartbeats 4000000
namespace Pk
open PySem PySem.Spec PyProof.Rows L2
local macro_rules | `(tactic| walk_at "c") => `(tactic| first | assumption | omega | exact rfl | (intro z; cases z; done) | (simp only [nV, V.int.injEq, V.str.injEq]; first | assumption | omega))
local macro_rules | `(tactic| walk_at "fld") => `(tactic| first
  | assumption
  | exact fld_k_tasks (by assumption) (by assumption) | exact fld_k_tree (by assumption) (by assumption) | exact fld_k_things (by assumption) (by assumption) | exact fld_ta_known (by assumption) (by assumption)
  | exact fld_t_rows (by assumption) (by assumption) (by assumption) | exact fld_t_run1 (by assumption) (by assumption) (by assumption) (by assumption) | exact fld_t_runs (by assumption) (by assumption) (by assumption) | exact fld_t_maker (by assumption) (by assumption) (by assumption) | exact fld_tr_rows (by assumption) (by assumption) | exact fld_tr_rb (by assumption) (by assumption) | exact fld_tr_ever (by assumption) (by assumption)
  | exact fld_h_number (by assumption) (by assumption) | exact fld_h_thing (by assumption) (by assumption) | exact fld_h_rights (by assumption) (by assumption) | exact fld_h_giver (by assumption) (by assumption) | exact fld_h_holder (by assumption) (by assumption))
local macro_rules | `(tactic| walk_at "get") => `(tactic| first
  | assumption
  | exact get_kn1 (by assumption) (by assumption) | exact get_kn0 (by assumption) (by assumption) | exact get_rw1 (by assumption) (by assumption) | exact get_rw0 (by assumption) (by assumption)
  | exact get_rb1 (by assumption) (by assumption) | exact get_rb0 (by assumption) (by assumption) | exact get_th1 (by assumption) (by assumption) | exact get_th0 (by assumption) (by assumption))
local macro_rules | `(tactic| walk_at "ins") => `(tactic| first | exact insTa (by assumption) rfl | exact insTr (by assumption) rfl)
local macro_rules | `(tactic| walk_at "s") => `(tactic| first
  | refine ⟨_, rfl, ?_⟩
  | refine ⟨rfl, ?_⟩
  | refine zI fun _ => ?_
  | with_reducible refine iteF ?_ | with_reducible refine iteT ?_
  | ((with_reducible refine iteDy ?_ ?_); focus (walk_at "c"; done)) | ((with_reducible refine iteDn ?_ ?_); focus (walk_at "c"; done)) | ((with_reducible refine iteNy ?_ ?_); focus (walk_at "c"; done)) | ((with_reducible refine iteNn ?_ ?_); focus (walk_at "c"; done))
  | refine fldI (by walk_at "fld") ?_
  | refine getI (by walk_at "get") ?_ | refine getS (by walk_at "get") ?_
  | refine ⟨by walk_at "ins", ?_⟩
  | refine ⟨_, _, _, _, true, rfl, .ty _, .base (.str _), kit_ty (by decide +kernel), ?_⟩
  | refine ⟨_, _, _, _, true, rfl, .ty _, .base (.int _), kit_ty (by decide +kernel), ?_⟩
  | refine ⟨_, _, _, _, false, rfl, .ty _, .base (.int _), kit_ty (by decide +kernel), ?_⟩
  | refine ⟨_, _, rfl, rfl, ?_⟩
  | refine ⟨_, _, rfl, rfl, trivial, ?_⟩)
local macro_rules | `(tactic| walk_at "w") => `(tactic| repeat (walk_at "s"))
section
variable {P : Program} {w : World} {K : PySem.W.Frag} {mg : Str → Option Value} {base : Heap} (G : Gx K mg base)
include G
def sp_rooted (K : PySem.W.Frag) : Sp := fun vs H Q E => ∃ tg m th rg ho, vs = [.ref m.tr, nV th, nV rg, .str ho] ∧ Rep K H tg m ∧ m.ever ∉ m.keys ∧ m.keys.length ≤ 1000 ∧
  (∀ H' tg' x kx, Stp H tg H' tg' → Rep K H' tg' (m.addH ⟨th, rg, none, ho⟩ x kx) → (∀ b o, tg b ≠ some .rw → tg b ≠ some .rb → tg b ≠ some .tr → H b = some o → H' b = some o) → Q (nV m.ever) H')
omit G in
theorem sc_Tree_rooted : FnScope ["self", "thing", "rights", "holder"] ["self", "thing", "rights", "holder"] (defScope s_Tree_rooted) := ⟨rfl, rfl, rfl, by decide +kernel, rfl, by decide +kernel, by decide +kernel⟩
theorem ok_Tree_rooted : FnR P w K mg base (L2.CX P w) 4 (He.ma K (He.ga K "Tree") "rooted") (sp_rooted K) := by
  refine mkF (k := 3) G.f_Tree_rooted sc_Tree_rooted (fun _ _ _ _ _ _ us hl => match us, hl with | [_, _, _, _], _ => rfl) (fun vs H Q E h => by repeat (first | (obtain ⟨e, _⟩ := h; cases e; rfl; done) | obtain ⟨_, h⟩ := h)) (fun cdv A outer s H vs Q E hr h => ?_)
  have S := sc_Tree_rooted
  obtain ⟨tg, m, th, rg, ho, rfl, R, hn, hsz, k⟩ := h
  refine ⟨_, (pss_one (ps_ret (pe_m (ok_Tree_added G) (hr.mono (by omega)) G.cl_Tree G.m_Tree_added tkd (pv 0) (pa_cons (pv 1) (pa_cons (pv 2) (pa_cons pe_non (pa_cons (pv 3) pa_nil))))))), ?_⟩
  walk_at "w"
  exact ⟨tg, m, ⟨th, rg, none, ho⟩, rfl, R, hn, hsz, k⟩
def sp_held (K : PySem.W.Frag) : Sp := fun vs H Q E => ∃ tg m n s, vs = [.ref m.tr, nV n, .str s] ∧ Rep K H tg m ∧ n ∈ m.keys ∧
  (∀ H', Stp H tg H' tg → Rep K H' tg (m.setHold n s) → (∀ b o, tg b ≠ some (.hnd n) → H b = some o → H' b = some o) → Q .non H')
omit G in
theorem sc_Tree_held : FnScope ["self", "number", "holder"] ["self", "number", "holder"] (defScope s_Tree_held) := ⟨rfl, rfl, rfl, by decide +kernel, rfl, by decide +kernel, by decide +kernel⟩
theorem ok_Tree_held : FnR P w K mg base (L2.CX P w) 2 (He.ma K (He.ga K "Tree") "held") (sp_held K) := by
  refine mkF (k := 1) G.f_Tree_held sc_Tree_held (fun _ _ _ _ _ _ us hl => match us, hl with | [_, _, _], _ => rfl) (fun vs H Q E h => by repeat (first | (obtain ⟨e, _⟩ := h; cases e; rfl; done) | obtain ⟨_, h⟩ := h)) (fun cdv A outer s H vs Q E hr h => ?_)
  have S := sc_Tree_held
  obtain ⟨tg, m, n, s1, rfl, R, hn, k⟩ := h
  refine ⟨_, (pss_cons (ps_expr (pe_m (ok_Tree_need G) (hr.mono (by omega)) G.cl_Tree G.m_Tree_need tkd (pv 0) (pa_cons (pv 1) pa_nil)))
      (pss_one (ps_fld (pe_dget (hu_of hr) (pe_fd (pv 0)) (pv 1) (fun _ _ => rfl)) (pv 2) rfl))), ?_⟩
  walk_at "w"
  refine ⟨tg, m, n, rfl, R, fun h => absurd hn h, fun hn => ?_⟩
  obtain ⟨dx, eh⟩ := R.hnd hn
  have tt : tg (m.ha n) = some (.hnd n) := (R.cell (.hnd n) _ _ (if_pos hn)).1
  walk_at "w"
  refine ⟨_, _, _, _, rfl, eh, G.cl_Handle, G.n_Handle_holder, by show (5 : Nat) < 1000; decide, ?_⟩
  walk_at "w"
  exact k _ (Stp.upd eh trivial tt) (R.setHold (s := s1) hn eh) (fun b o hb e => by rw [upd_ne (fun z => hb (by rw [z]; exact tt))]; exact e)
omit G in
theorem sc_Tree_chain : FnScope ["self", "number", "giver"] ["self", "number"] (defScope s_Tree_chain) := ⟨rfl, rfl, rfl, by decide +kernel, rfl, by decide +kernel, by decide +kernel⟩
def sp_chain (K : PySem.W.Frag) (d : Nat) : Sp := fun vs H Q E => ∃ tg m n, vs = [.ref m.tr, nV n] ∧ Rep K H tg m ∧ WT m ∧ (if n ∈ m.keys then m.dep n else 0) < d ∧ (n ∉ m.keys → Er K H E) ∧
  (n ∈ m.keys → ∀ H' p xs, Al H H' → H' p = some (.lst xs) → xs.length = m.dep n → Q (.ref p) H')
theorem chain_body (d : Nat) (IH : FnR P w K mg base (L2.CX P w) (d + 3) (He.ma K (He.ga K "Tree") "chain") (sp_chain K d)) : FnR P w K mg base (L2.CX P w) (d + 1 + 3) (He.ma K (He.ga K "Tree") "chain") (sp_chain K (d + 1)) := by
  refine mkF (k := d + 3) G.f_Tree_chain sc_Tree_chain (fun _ _ _ _ _ _ us hl => match us, hl with | [_, _], _ => rfl) (fun vs H Q E h => by obtain ⟨_, _, _, e, _⟩ := h; cases e; rfl) (fun cdv A outer s H vs Q E hr h => ?_)
  have S := sc_Tree_chain
  obtain ⟨tg, m, n, rfl, R, W, hd, er, k⟩ := h
  refine ⟨_, (pss_cons (ps_expr (pe_m (ok_Tree_need G) (hr.mono (by omega)) G.cl_Tree G.m_Tree_need tkd (pv 0) (pa_cons (pv 1) pa_nil)))
      (pss_cons (ps_set (i := 2) S.nd rfl (by first | exact Or.inl rfl | exact Or.inr rfl) (pe_fd (pe_dget (hu_of hr) (pe_fd (pv 0)) (pv 1) (fun _ _ => rfl))))
      (pss_cons (ps_if (pt_cmpR op_isN (pv 2) pe_non (nomark _)) (pss_one (ps_ret (pe_lst (pa_cons (pv 1) pa_nil)))) pss_nil)
      (pss_one (ps_ret (pe_op op_cat (pe_m IH (hr.mono (by omega)) G.cl_Tree G.m_Tree_chain tkd (pv 0) (pa_cons (pv 2) pa_nil)) (pe_lst (pa_cons (pv 1) pa_nil)))))))), ?_⟩
  walk_at "w"
  refine ⟨tg, m, n, rfl, R, er, fun hn => ?_⟩
  have hh : HdAt K H (m.ha n) n (m.row n) := R.hnd hn
  rw [if_pos hn] at hd
  walk_at "w"
  cases eg : (m.row n).giver with
  | none =>
    walk_at "w"
    refine ⟨sz1, fun p hp => ?_⟩
    exact k hn _ p _ (.new hp) upd_same (by rw [W.g0 n hn eg]; rfl)
  | some g =>
    obtain ⟨hg, hdep⟩ := W.gv n g hn eg
    have hdn := W.dp n hn
    walk_at "w"
    refine ⟨tg, m, g, rfl, R, W, by rw [if_pos hg]; omega, fun h => absurd hg h, fun _ H1 p xs a e hl => ?_⟩
    walk_at "w"
    refine ⟨sz1, fun q hq => ?_⟩
    walk_at "w"
    have e2 := (Al.new (o := .lst [nV n]) hq).lst e
    refine ⟨_, _, _, _, rfl, rfl, e2, upd_same, by rw [sizeLine_eq]; simp only [List.length_singleton]; omega, fun r hr' => ?_⟩
    exact k hn _ r _ ((a.newT hq).newT hr') upd_same (by rw [List.length_append, hl, hdep]; rfl)
theorem ok_chain : ∀ d, FnR P w K mg base (L2.CX P w) (d + 3) (He.ma K (He.ga K "Tree") "chain") (sp_chain K d)
  | 0 => fun A st s H us vs Q E hr e r h => by obtain ⟨_, _, _, _, _, _, h, _⟩ := h; omega
  | d + 1 => chain_body G d (ok_chain d)
def sp_ch (K : PySem.W.Frag) : Sp := fun vs H Q E => ∃ tg m n, vs = [.ref m.tr, nV n] ∧ Rep K H tg m ∧ WT m ∧ (n ∉ m.keys → Er K H E) ∧
  (n ∈ m.keys → ∀ H' p xs, Al H H' → H' p = some (.lst xs) → xs.length = m.dep n → Q (.ref p) H')
theorem ok_Tree_chain : FnR P w K mg base (L2.CX P w) 50 (He.ma K (He.ga K "Tree") "chain") (sp_ch K) := by
  have F := ok_chain G (P := P) (w := w) 47
  refine F.imp fun vs H Q E h => ?_
  obtain ⟨tg, m, n, rfl, R, W, er, k⟩ := h
  refine ⟨tg, m, n, rfl, R, W, ?_, er, k⟩
  split
  · rename_i z; have := W.dp n z; omega
  · omega
end
end Pk
end
/-! PkF8 -/
section
set_option maxHeartbeats 4000000
namespace Pk
open PySem PySem.Spec PyProof.Rows L2
local macro_rules | `(tactic| walk_at "c") => `(tactic| first | assumption | omega | exact rfl | (intro z; cases z; done) | (simp only [nV, V.int.injEq, V.str.injEq]; first | assumption | omega))
local macro_rules | `(tactic| walk_at "fld") => `(tactic| first
  | assumption
  | exact fld_k_tasks (by assumption) (by assumption) | exact fld_k_tree (by assumption) (by assumption) | exact fld_k_things (by assumption) (by assumption) | exact fld_ta_known (by assumption) (by assumption)
  | exact fld_t_rows (by assumption) (by assumption) (by assumption) | exact fld_t_run1 (by assumption) (by assumption) (by assumption) (by assumption) | exact fld_t_runs (by assumption) (by assumption) (by assumption) | exact fld_t_maker (by assumption) (by assumption) (by assumption) | exact fld_tr_rows (by assumption) (by assumption) | exact fld_tr_rb (by assumption) (by assumption) | exact fld_tr_ever (by assumption) (by assumption)
  | exact fld_h_number (by assumption) (by assumption) | exact fld_h_thing (by assumption) (by assumption) | exact fld_h_rights (by assumption) (by assumption) | exact fld_h_giver (by assumption) (by assumption) | exact fld_h_holder (by assumption) (by assumption))
local macro_rules | `(tactic| walk_at "get") => `(tactic| first
  | assumption
  | exact get_kn1 (by assumption) (by assumption) | exact get_kn0 (by assumption) (by assumption) | exact get_rw1 (by assumption) (by assumption) | exact get_rw0 (by assumption) (by assumption)
  | exact get_rb1 (by assumption) (by assumption) | exact get_rb0 (by assumption) (by assumption) | exact get_th1 (by assumption) (by assumption) | exact get_th0 (by assumption) (by assumption))
local macro_rules | `(tactic| walk_at "ins") => `(tactic| first | exact insTa (by assumption) rfl | exact insTr (by assumption) rfl)
local macro_rules | `(tactic| walk_at "s") => `(tactic| first
  | refine ⟨_, rfl, ?_⟩
  | refine ⟨rfl, ?_⟩
  | refine zI fun _ => ?_
  | with_reducible refine iteF ?_ | with_reducible refine iteT ?_
  | ((with_reducible refine iteDy ?_ ?_); focus (walk_at "c"; done)) | ((with_reducible refine iteDn ?_ ?_); focus (walk_at "c"; done)) | ((with_reducible refine iteNy ?_ ?_); focus (walk_at "c"; done)) | ((with_reducible refine iteNn ?_ ?_); focus (walk_at "c"; done))
  | refine fldI (by walk_at "fld") ?_
  | refine getI (by walk_at "get") ?_ | refine getS (by walk_at "get") ?_
  | refine ⟨by walk_at "ins", ?_⟩
  | refine ⟨_, _, _, _, true, rfl, .ty _, .base (.str _), kit_ty (by decide +kernel), ?_⟩
  | refine ⟨_, _, _, _, true, rfl, .ty _, .base (.int _), kit_ty (by decide +kernel), ?_⟩
  | refine ⟨_, _, _, _, false, rfl, .ty _, .base (.int _), kit_ty (by decide +kernel), ?_⟩
  | refine ⟨_, _, rfl, rfl, ?_⟩
  | refine ⟨_, _, rfl, rfl, trivial, ?_⟩)
local macro_rules | `(tactic| walk_at "w") => `(tactic| repeat (walk_at "s"))
/-- a handle made from another -/
def Mo.derH (m : Mo) (n r : Nat) (ho : Str) (x kx : Addr) : Mo := (m.addH ⟨(m.row n).thing, r, some n, ho⟩ x kx).setKids n (m.kids n ++ [m.ever])
def DerOk (m : Mo) (n r : Nat) : Prop := n ∈ m.keys ∧ r &&& (m.row n).rights = r ∧ m.dep n < 40
section
variable {P : Program} {w : World} {K : PySem.W.Frag} {mg : Str → Option Value} {base : Heap} (G : Gx K mg base)
include G
def sp_derived (K : PySem.W.Frag) : Sp := fun vs H Q E => ∃ tg m n r ho, vs = [.ref m.tr, nV n, nV r, .str ho] ∧ Rep K H tg m ∧ WT m ∧ m.ever ∉ m.keys ∧ r ≤ 63 ∧ (¬ DerOk m n r → Er K H E) ∧
  (DerOk m n r → ∀ H' tg' x kx, Stp H tg H' tg' → Rep K H' tg' (m.derH n r ho x kx) → (∀ b o, tg b ≠ some .rw → tg b ≠ some .rb → tg b ≠ some .tr → tg b ≠ some (.kid n) → H b = some o → nt o → H' b = some o) → Q (nV m.ever) H')
omit G in
theorem sc_Tree_derived : FnScope ["self", "number", "rights", "holder", "lacking", "found"] ["self", "number", "rights", "holder"] (defScope s_Tree_derived) := ⟨rfl, rfl, rfl, by decide +kernel, rfl, by decide +kernel, by decide +kernel⟩
theorem ok_Tree_derived : FnR P w K mg base (L2.CX P w) 51 (He.ma K (He.ga K "Tree") "derived") (sp_derived K) := by
  refine mkF (k := 50) G.f_Tree_derived sc_Tree_derived (fun _ _ _ _ _ _ us hl => match us, hl with | [_, _, _, _], _ => rfl) (fun vs H Q E h => by repeat (first | (obtain ⟨e, _⟩ := h; cases e; rfl; done) | obtain ⟨_, h⟩ := h)) (fun cdv A outer s H vs Q E hr h => ?_)
  have S := sc_Tree_derived
  obtain ⟨tg, m, n, r, ho, rfl, R, W, hne, hr63, er, k⟩ := h
  refine ⟨_, (pss_cons (ps_set (i := 4) S.nd rfl (by first | exact Or.inl rfl | exact Or.inr rfl) (pe_f (ok_missing G) (hr.mono (by omega)) rfl G.g_missing (kp_of G.f_missing) tkd (pa_cons (pv 2) (pa_cons (pe_fd (pe_m (ok_Tree_handle G) (hr.mono (by omega)) G.cl_Tree G.m_Tree_handle tkd (pv 0) (pa_cons (pv 1) pa_nil))) pa_nil))))
      (pss_cons (ps_if (pt_cmpR op_ne (pv 4) pe_int (nomark _)) (pss_one (ps_rI (oex_Lacks G) (ok_Lacks_init G).choose_spec.1 (ok_Lacks_init G).choose_spec.2 (hr.mono (by omega)) tkd rfl G.g_Lacks (pv 4) rfl)) pss_nil)
      (pss_cons (ps_if (pt_cmpR op_ge (pe_callB call_len (by rfl) G.b_len PySem.boot_len (pa_cons (pe_m (ok_Tree_chain G) (hr.mono (by omega)) G.cl_Tree G.m_Tree_chain tkd (pv 0) (pa_cons (pv 1) pa_nil)) pa_nil)) (pe_ci rfl G.c_MOST_CHAIN_tree) (nomark _)) (pss_one (ps_raise rfl tkd (pmk_own PySem.F.excBase_ValueError G.x_TooMany.1 G.g_TooMany G.x_TooMany.2.1 (raises_own G.x_TooMany.2.2.1 G.x_TooMany.2.2.2) rfl))) pss_nil)
      (pss_cons (ps_set (i := 5) S.nd rfl (by first | exact Or.inl rfl | exact Or.inr rfl) (pe_m (ok_Tree_added G) (hr.mono (by omega)) G.cl_Tree G.m_Tree_added tkd (pv 0) (pa_cons (pe_fd (pe_dget (hu_of hr) (pe_fd (pv 0)) (pv 1) (fun _ _ => rfl))) (pa_cons (pv 2) (pa_cons (pv 1) (pa_cons (pv 3) pa_nil))))))
      (pss_cons (ps_expr (pe_bm PySem.F.plainAttrs_list PySem.F.slot_list_append PySem.F.type_list_append mt_append (pe_dget (hu_of hr) (pe_fd (pv 0)) (pv 1) (fun _ _ => rfl)) (pa_cons (pv 5) pa_nil)))
      (pss_one (ps_ret (pv 5)))))))), ?_⟩
  walk_at "w"
  refine ⟨tg, m, n, rfl, R, fun h => er fun q => h q.1, fun hn H1 x a1 hx => ?_⟩
  have hrg := W.rg n hn
  walk_at "w"
  refine ⟨r, (m.row n).rights, rfl, hrg, ?_⟩
  have hl := lack0 hr63 hrg
  by_cases h0 : r &&& (63 - (m.row n).rights) = 0
  · have h0' : nV (r &&& (63 - (m.row n).rights)) = V.int 0 := by rw [h0]; rfl
    walk_at "w"
    have R1 := R.al a1
    walk_at "w"
    refine ⟨tg, m, n, rfl, R1, W, fun h => absurd hn h, fun _ H2 p xs a2 e2 hxs => ?_⟩
    walk_at "w"
    refine ⟨_, _, rfl, .inl ⟨_, sqL_at e2, rfl⟩, ?_⟩
    rw [hxs]
    by_cases hd : m.dep n < 40
    · have hd' : ¬ (40 : Int) ≤ m.dep n := by omega
      have R2 := R1.al a2
      have ok : DerOk m n r := ⟨hn, hl.mp h0, hd⟩
      have hh : HdAt K H2 (m.ha n) n (m.row n) := R2.hnd hn
      walk_at "w"
      refine ⟨tg, m, ⟨(m.row n).thing, r, some n, ho⟩, rfl, R2, hne, W.sz, fun H3 tg3 x3 kx3 st3 R3 kp3 => ?_⟩
      have nne : n ≠ m.ever := fun z => hne (z ▸ hn)
      have hn3 : n ∈ (m.addH ⟨(m.row n).thing, r, some n, ho⟩ x3 kx3).keys := by simp [Mo.addH, hn]
      have gk : DGet H3 m.rb (nV n) (some (.ref (m.ka n))) := by
        have := get_rb1 R3 hn3
        rw [show (m.addH ⟨(m.row n).thing, r, some n, ho⟩ x3 kx3).ka n = m.ka n from nput_ne nne] at this
        exact this
      have fk : FldAt K H3 (.ref m.tr) "right_below" (.ref m.rb) := fld_tr_rb (m := m.addH ⟨(m.row n).thing, r, some n, ho⟩ x3 kx3) G R3
      have ekid : H3 (m.ka n) = some (.lst ((m.kids n).map nV)) := by
        have := R3.kid hn3
        rw [show (m.addH ⟨(m.row n).thing, r, some n, ho⟩ x3 kx3).ka n = m.ka n from nput_ne nne, show (m.addH ⟨(m.row n).thing, r, some n, ho⟩ x3 kx3).kids n = m.kids n from nput_ne nne] at this
        exact this
      walk_at "w"
      refine ⟨tyL ekid, ?_⟩
      walk_at "w"
      have hkl : (m.kids n).length ≤ 1000 := Nat.le_trans (nodup_le (W.knd n hn) fun c hc => ((W.kid n c hn).mp hc).1) W.sz
      refine ⟨_, _, _, rfl, rfl, ekid, by rw [List.length_map, sizeLine_eq]; omega, ?_⟩
      have eL : (m.kids n).map nV ++ [nV m.ever] = (m.kids n ++ [m.ever]).map nV := by simp
      rw [eL]
      have R4 := R3.setKids (ks := m.kids n ++ [m.ever]) hn3
      have tk : tg3 (m.ka n) = some (.kid n) := by
        have := (R3.cell (.kid n) _ _ (if_pos hn3)).1
        rw [show (m.addH ⟨(m.row n).thing, r, some n, ho⟩ x3 kx3).ka n = m.ka n from nput_ne nne] at this
        exact this
      rw [show (m.addH ⟨(m.row n).thing, r, some n, ho⟩ x3 kx3).ka n = m.ka n from nput_ne nne] at R4
      walk_at "w"
      have tk0 : tg (m.ka n) = some (.kid n) := (R.cell (.kid n) _ _ (if_pos hn)).1
      refine k ok _ _ x3 kx3 ((Stp.al (a1.trans a2)).trans (st3.trans (Stp.upd ekid trivial tk))) R4 (fun b o h1 h2 h3 h4 e n' => ?_)
      rw [upd_ne (fun z => h4 (by rw [z]; exact tk0))]
      exact kp3 b o h1 h2 h3 ((a1.trans a2).keep b o e n')
    · have hd' : (40 : Int) ≤ m.dep n := by omega
      walk_at "w"
      exact er (fun q => hd q.2.2) _ _ _ (xc G.e_TooMany) (a1.trans a2)
  · have h0' : ¬ nV (r &&& (63 - (m.row n).rights)) = V.int 0 := fun z => h0 (by have := V.int.inj z; omega)
    walk_at "w"
    exact fun d H' a => er (fun q => h0 (hl.mpr q.2.1)) _ _ _ (xc G.e_Lacks) (a1.trans a)
end
end Pk
end
/-! PkF9 -/
section
set_option maxHeartbeats 4000000
namespace Pk
open PySem PySem.Spec PyProof.Rows L2
local macro_rules | `(tactic| walk_at "c") => `(tactic| first | assumption | omega | exact rfl | (intro z; cases z; done) | (simp only [nV, V.int.injEq, V.str.injEq]; first | assumption | omega))
local macro_rules | `(tactic| walk_at "fld") => `(tactic| first
  | assumption
  | exact fld_k_tasks (by assumption) (by assumption) | exact fld_k_tree (by assumption) (by assumption) | exact fld_k_things (by assumption) (by assumption) | exact fld_ta_known (by assumption) (by assumption)
  | exact fld_t_rows (by assumption) (by assumption) (by assumption) | exact fld_t_run1 (by assumption) (by assumption) (by assumption) (by assumption) | exact fld_t_runs (by assumption) (by assumption) (by assumption) | exact fld_t_maker (by assumption) (by assumption) (by assumption) | exact fld_tr_rows (by assumption) (by assumption) | exact fld_tr_rb (by assumption) (by assumption) | exact fld_tr_ever (by assumption) (by assumption)
  | exact fld_h_number (by assumption) (by assumption) | exact fld_h_thing (by assumption) (by assumption) | exact fld_h_rights (by assumption) (by assumption) | exact fld_h_giver (by assumption) (by assumption) | exact fld_h_holder (by assumption) (by assumption))
local macro_rules | `(tactic| walk_at "get") => `(tactic| first
  | assumption
  | exact get_kn1 (by assumption) (by assumption) | exact get_kn0 (by assumption) (by assumption) | exact get_rw1 (by assumption) (by assumption) | exact get_rw0 (by assumption) (by assumption)
  | exact get_rb1 (by assumption) (by assumption) | exact get_rb0 (by assumption) (by assumption) | exact get_th1 (by assumption) (by assumption) | exact get_th0 (by assumption) (by assumption))
local macro_rules | `(tactic| walk_at "ins") => `(tactic| first | exact insTa (by assumption) rfl | exact insTr (by assumption) rfl)
local macro_rules | `(tactic| walk_at "s") => `(tactic| first
  | refine ⟨_, rfl, ?_⟩
  | refine ⟨rfl, ?_⟩
  | refine zI fun _ => ?_
  | with_reducible refine iteF ?_ | with_reducible refine iteT ?_
  | ((with_reducible refine iteDy ?_ ?_); focus (walk_at "c"; done)) | ((with_reducible refine iteDn ?_ ?_); focus (walk_at "c"; done)) | ((with_reducible refine iteNy ?_ ?_); focus (walk_at "c"; done)) | ((with_reducible refine iteNn ?_ ?_); focus (walk_at "c"; done))
  | refine fldI (by walk_at "fld") ?_
  | refine getI (by walk_at "get") ?_ | refine getS (by walk_at "get") ?_
  | refine ⟨by walk_at "ins", ?_⟩
  | refine ⟨_, _, _, _, true, rfl, .ty _, .base (.str _), kit_ty (by decide +kernel), ?_⟩
  | refine ⟨_, _, _, _, true, rfl, .ty _, .base (.int _), kit_ty (by decide +kernel), ?_⟩
  | refine ⟨_, _, _, _, false, rfl, .ty _, .base (.int _), kit_ty (by decide +kernel), ?_⟩
  | refine ⟨_, _, rfl, rfl, ?_⟩
  | refine ⟨_, _, rfl, rfl, trivial, ?_⟩)
local macro_rules | `(tactic| walk_at "w") => `(tactic| repeat (walk_at "s"))
section
variable {P : Program} {w : World} {K : PySem.W.Frag} {mg : Str → Option Value} {base : Heap} (G : Gx K mg base)
include G
omit G in
theorem sc_Tree_below : FnScope ["self", "number", "found", "one"] ["self", "number"] (defScope s_Tree_below) := ⟨rfl, rfl, rfl, by decide +kernel, rfl, by decide +kernel, by decide +kernel⟩
def sp_below (K : PySem.W.Frag) (d : Nat) : Sp := fun vs H Q E => ∃ tg m n, vs = [.ref m.tr, nV n] ∧ Rep K H tg m ∧ WT m ∧ (if n ∈ m.keys then 41 - m.dep n else 0) < d ∧ (n ∉ m.keys → Er K H E) ∧
  (n ∈ m.keys → ∀ H' p (xs : List Nat), Al H H' → H p = none → H' p = some (.lst (xs.map nV)) → xs.Nodup → (∀ x, x ∈ xs ↔ x ∈ m.keys ∧ Anc m n x) → Q (.ref p) H')
theorem below_body (d : Nat) (IH : FnR P w K mg base (L2.CX P w) (d + 3) (He.ma K (He.ga K "Tree") "below") (sp_below K d)) : FnR P w K mg base (L2.CX P w) (d + 1 + 3) (He.ma K (He.ga K "Tree") "below") (sp_below K (d + 1)) := by
  refine mkF (k := d + 3) G.f_Tree_below sc_Tree_below (fun _ _ _ _ _ _ us hl => match us, hl with | [_, _], _ => rfl) (fun vs H Q E h => by obtain ⟨_, _, _, e, _⟩ := h; cases e; rfl) (fun cdv A outer s H vs Q E hr h => ?_)
  have S := sc_Tree_below
  obtain ⟨tg, m, n, rfl, R, W, hd, er, k⟩ := h
  refine ⟨_, (pss_cons (ps_expr (pe_m (ok_Tree_need G) (hr.mono (by omega)) G.cl_Tree G.m_Tree_need tkd (pv 0) (pa_cons (pv 1) pa_nil)))
      (pss_cons (ps_set (i := 2) S.nd rfl (by first | exact Or.inl rfl | exact Or.inr rfl) (pe_lst pa_nil))
      (pss_cons (ps_for pod rfl (pi_list (pe_dget (hu_of hr) (pe_fd (pv 0)) (pv 1) (fun _ _ => rfl))) (pg_name (i := 3) S.nd rfl (by first | exact Or.inl rfl | exact Or.inr rfl)) (pss_cons (ps_expr (pe_bm PySem.F.plainAttrs_list PySem.F.slot_list_append PySem.F.type_list_append mt_append (pv 2) (pa_cons (pv 3) pa_nil)))
      (pss_one (ps_aug (i := 2) S.nd rfl (by first | exact Or.inl rfl | exact Or.inr rfl) (pe_m IH (hr.mono (by omega)) G.cl_Tree G.m_Tree_below tkd (pv 0) (pa_cons (pv 3) pa_nil)) iop_ext))))
      (pss_one (ps_ret (pv 2)))))), ?_⟩
  walk_at "w"
  refine ⟨tg, m, n, rfl, R, er, fun hn => ?_⟩
  rw [if_pos hn] at hd
  walk_at "w"
  refine ⟨by rw [sizeLine_eq]; decide, fun F hF => ?_⟩
  have a0 := Al.new (o := .lst []) hF
  have R0 := R.al a0
  have eF : (L2.upd H F (.lst [])) F = some (.lst []) := upd_same
  have ekid := R.kid hn
  walk_at "w"
  refine ⟨⟨_, sqL_at (a0.lst ekid)⟩, ?_⟩
  refine for_list (xs := (m.kids n).map nV) (fun i σ H' => (∃ v3, σ = [some (.ref m.tr), some (nV n), some (.ref F), v3]) ∧ ∃ L : List Nat, Al H H' ∧ H' F = some (.lst (L.map nV)) ∧ L.Nodup ∧ (∀ x, x ∈ L ↔ ∃ (j : Nat) (c : Nat), j < i ∧ (m.kids n)[j]? = some c ∧ Und m c x)) ?_ ?_ ?_ ?_
  · exact ⟨⟨_, rfl⟩, [], a0, eF, .nil, fun x => ⟨fun h => (by cases h), fun h => (by obtain ⟨j, c, h, _⟩ := h; omega)⟩⟩
  · rintro i σ H1 hi ⟨_, L, al, _⟩
    exact sqL_at (al.lst ekid)
  · rintro i x σ H1 hx ⟨⟨v3, rfl⟩, L, al, e, nd, mem⟩
    rw [List.getElem?_map] at hx
    cases hc : (m.kids n)[i]? with
    | none => rw [hc] at hx; cases hx
    | some c =>
      rw [hc] at hx
      cases hx
      have hck : c ∈ m.kids n := List.mem_of_getElem? hc
      obtain ⟨hcm, hcg⟩ := (W.kid n c hn).mp hck
      have hdc := (W.gv c n hcm hcg).2
      have hd40 := W.dp c hcm
      walk_at "w"
      refine ⟨tyL e, ?_⟩
      walk_at "w"
      have hLl : L.length ≤ 1000 := Nat.le_trans (nodup_le nd fun x hx => by
        obtain ⟨j, c', _, hc', u⟩ := (mem x).mp hx
        rcases u with rfl | ⟨h, _⟩
        · exact ((W.kid n _ hn).mp (List.mem_of_getElem? hc')).1
        · exact h) W.sz
      refine ⟨_, _, _, rfl, rfl, e, by rw [List.length_map, sizeLine_eq]; omega, ?_⟩
      have eL : L.map nV ++ [nV c] = (L ++ [c]).map nV := by simp
      rw [eL]
      have al3 := al.set hF (o' := .lst ((L ++ [c]).map nV)) e trivial
      have R3 := R.al al3
      walk_at "w"
      refine ⟨tg, m, c, rfl, R3, W, by rw [if_pos hcm]; omega, fun h => absurd hcm h, fun _ H4 p Lb a4 hp4 e4 ndb memb => ?_⟩
      have eF4 := a4.lst (upd_same (H := H1) (a := F) (o := .lst ((L ++ [c]).map nV)))
      have hLb : Lb.length ≤ 1000 := Nat.le_trans (nodup_le ndb fun x hx => ((memb x).mp hx).1) W.sz
      refine ⟨_, _, _, _, rfl, rfl, eF4, e4, by rw [List.length_map, List.length_map, List.length_append, List.length_singleton, sizeLine_eq]; omega, ?_⟩
      rw [← List.map_append]
      refine ⟨⟨_, rfl⟩, L ++ [c] ++ Lb, (al3.trans a4).set hF eF4 trivial, upd_same, ?_, fun x => ?_⟩
      · have dis : ∀ x, x ∈ L → ¬ Und m c x := fun x hx u => by
          obtain ⟨j, c', hj, hc', u'⟩ := (mem x).mp hx
          have := und_dis W hn (List.mem_of_getElem? hc') hck u' u
          subst this
          have hnd := W.knd n hn
          have hi := lt_of_get hc
          have hj' := lt_of_get hc'
          have e1 : (m.kids n)[j] = (m.kids n)[i] := by
            rw [List.getElem?_eq_getElem hi] at hc
            rw [List.getElem?_eq_getElem hj'] at hc'
            rw [Option.some.inj hc, Option.some.inj hc']
          have := (List.getElem_inj hnd).mp e1
          omega
        rw [List.append_assoc]
        refine List.nodup_append.mpr ⟨nd, ?_, fun a ha b hb => ?_⟩
        · rw [List.singleton_append, List.nodup_cons]
          refine ⟨fun hin => ?_, ndb⟩
          have := (((memb c).mp hin).2).dep W hcm
          omega
        · intro z
          subst z
          refine dis a ha ?_
          rcases List.mem_append.mp hb with h | h
          · exact .inl (List.mem_singleton.mp h)
          · exact .inr ((memb a).mp h)
      · simp only [List.mem_append, List.mem_singleton]
        constructor
        · rintro ((h | h) | h)
          · obtain ⟨j, c', hj, r⟩ := (mem x).mp h
            exact ⟨j, c', by omega, r⟩
          · exact ⟨i, c, by omega, hc, .inl h⟩
          · exact ⟨i, c, by omega, hc, .inr ((memb x).mp h)⟩
        · rintro ⟨j, c', hj, hc', u⟩
          by_cases hji : j < i
          · exact .inl (.inl ((mem x).mpr ⟨j, c', hji, hc', u⟩))
          · have : j = i := by omega
            subst this
            rw [hc] at hc'
            cases hc'
            rcases u with u | u
            · exact .inl (.inr u)
            · exact .inr ((memb x).mpr u)
  · rintro σ H1 ⟨⟨v3, rfl⟩, L, al, e, nd, mem⟩
    walk_at "w"
    refine k hn _ F L al hF e nd (fun x => ?_)
    rw [anc_kid W hn, mem x, List.length_map]
    constructor
    · rintro ⟨j, c, _, hc, u⟩
      exact ⟨c, List.mem_of_getElem? hc, u⟩
    · rintro ⟨c, hc, u⟩
      obtain ⟨j, hj, ej⟩ := List.getElem_of_mem hc
      exact ⟨j, c, hj, by rw [List.getElem?_eq_getElem hj, ej], u⟩
theorem ok_below : ∀ d, FnR P w K mg base (L2.CX P w) (d + 3) (He.ma K (He.ga K "Tree") "below") (sp_below K d)
  | 0 => fun A st s H us vs Q E hr e r h => by obtain ⟨_, _, _, _, _, _, h, _⟩ := h; omega
  | d + 1 => below_body G d (ok_below d)
def sp_be (K : PySem.W.Frag) : Sp := fun vs H Q E => ∃ tg m n, vs = [.ref m.tr, nV n] ∧ Rep K H tg m ∧ WT m ∧ (n ∉ m.keys → Er K H E) ∧
  (n ∈ m.keys → ∀ H' p (xs : List Nat), Al H H' → H p = none → H' p = some (.lst (xs.map nV)) → xs.Nodup → (∀ x, x ∈ xs ↔ x ∈ m.keys ∧ Anc m n x) → Q (.ref p) H')
theorem ok_Tree_below : FnR P w K mg base (L2.CX P w) 50 (He.ma K (He.ga K "Tree") "below") (sp_be K) := by
  have F := ok_below G (P := P) (w := w) 47
  refine F.imp fun vs H Q E h => ?_
  obtain ⟨tg, m, n, rfl, R, W, er, k⟩ := h
  refine ⟨tg, m, n, rfl, R, W, ?_, er, k⟩
  split <;> omega
end
end Pk
end
/-! PkF10 -/
section
set_option maxHeartbeats 4000000
namespace Pk
open PySem PySem.Spec PyProof.Rows L2
local macro_rules | `(tactic| walk_at "c") => `(tactic| first | assumption | omega | exact rfl | (intro z; cases z; done) | (simp only [nV, V.int.injEq, V.str.injEq]; first | assumption | omega))
local macro_rules | `(tactic| walk_at "fld") => `(tactic| first
  | assumption
  | exact fld_k_tasks (by assumption) (by assumption) | exact fld_k_tree (by assumption) (by assumption) | exact fld_k_things (by assumption) (by assumption) | exact fld_ta_known (by assumption) (by assumption)
  | exact fld_t_rows (by assumption) (by assumption) (by assumption) | exact fld_t_run1 (by assumption) (by assumption) (by assumption) (by assumption) | exact fld_t_runs (by assumption) (by assumption) (by assumption) | exact fld_t_maker (by assumption) (by assumption) (by assumption) | exact fld_tr_rows (by assumption) (by assumption) | exact fld_tr_rb (by assumption) (by assumption) | exact fld_tr_ever (by assumption) (by assumption)
  | exact fld_h_number (by assumption) (by assumption) | exact fld_h_thing (by assumption) (by assumption) | exact fld_h_rights (by assumption) (by assumption) | exact fld_h_giver (by assumption) (by assumption) | exact fld_h_holder (by assumption) (by assumption))
local macro_rules | `(tactic| walk_at "get") => `(tactic| first
  | assumption
  | exact get_kn1 (by assumption) (by assumption) | exact get_kn0 (by assumption) (by assumption) | exact get_rw1 (by assumption) (by assumption) | exact get_rw0 (by assumption) (by assumption)
  | exact get_rb1 (by assumption) (by assumption) | exact get_rb0 (by assumption) (by assumption) | exact get_th1 (by assumption) (by assumption) | exact get_th0 (by assumption) (by assumption))
local macro_rules | `(tactic| walk_at "ins") => `(tactic| first | exact insTa (by assumption) rfl | exact insTr (by assumption) rfl)
local macro_rules | `(tactic| walk_at "s") => `(tactic| first
  | refine ⟨_, rfl, ?_⟩
  | refine ⟨rfl, ?_⟩
  | refine zI fun _ => ?_
  | with_reducible refine iteF ?_ | with_reducible refine iteT ?_
  | ((with_reducible refine iteDy ?_ ?_); focus (walk_at "c"; done)) | ((with_reducible refine iteDn ?_ ?_); focus (walk_at "c"; done)) | ((with_reducible refine iteNy ?_ ?_); focus (walk_at "c"; done)) | ((with_reducible refine iteNn ?_ ?_); focus (walk_at "c"; done))
  | refine fldI (by walk_at "fld") ?_
  | refine getI (by walk_at "get") ?_ | refine getS (by walk_at "get") ?_
  | refine ⟨by walk_at "ins", ?_⟩
  | refine ⟨_, _, _, _, true, rfl, .ty _, .base (.str _), kit_ty (by decide +kernel), ?_⟩
  | refine ⟨_, _, _, _, true, rfl, .ty _, .base (.int _), kit_ty (by decide +kernel), ?_⟩
  | refine ⟨_, _, _, _, false, rfl, .ty _, .base (.int _), kit_ty (by decide +kernel), ?_⟩
  | refine ⟨_, _, rfl, rfl, ?_⟩
  | refine ⟨_, _, rfl, rfl, trivial, ?_⟩)
local macro_rules | `(tactic| walk_at "w") => `(tactic| repeat (walk_at "s"))
theorem nats_of {ys : List Int} {ns : List Nat} (hp : ys.Perm (ns.map fun n : Nat => (n : Int))) : ∃ ks : List Nat, ys = ks.map (fun n : Nat => (n : Int)) ∧ ks.Perm ns := by
  refine ⟨ys.map Int.toNat, ?_, ?_⟩
  · rw [List.map_map]
    have : ∀ y ∈ ys, ((fun n : Nat => (n : Int)) ∘ Int.toNat) y = y := fun y hy => by
      obtain ⟨n, _, rfl⟩ := List.mem_map.mp (hp.mem_iff.mp hy)
      rfl
    rw [List.map_congr_left this, List.map_id']
  · have := hp.map Int.toNat
    rw [List.map_map] at this
    have e : (Int.toNat ∘ fun n : Nat => (n : Int)) = id := by funext n; rfl
    rw [e, List.map_id] at this
    exact this
theorem nV_map {ks : List Nat} : ((ks.map fun n : Nat => (n : Int)).map V.int) = ks.map nV := by rw [List.map_map]; rfl
def Mo.wk (m : Mo) (ks : List Nat) : Mo := { m with keys := ks }
theorem LcB.imp {J : It} {g : Zi → TG} {tt : Zi → TT} {te : Zi → TE} {vs : List Nat} {σ : L2.St} {H1 : Hp} {Q Q' : VK} (h : LcB J g tt te vs σ H1 Q') (m : ∀ D H, H1 D = none → Q' (.ref D) H → Q (.ref D) H) : LcB J g tt te vs σ H1 Q := fun D hD => by
  obtain ⟨W, h0, st⟩ := h D hD
  exact ⟨W, h0, fun i n H w => (st i n H w).imp (fun q => ⟨q.1, m D H hD q.2⟩) fun q => q⟩
/-- after a cut -/
def Mo.cutH (m : Mo) (n : Nat) (gone : List Nat) (kx : Addr) : Mo := (match (m.row n).giver with
  | none => m
  | some g => m.newKids g ((m.kids g).filter fun c => decide (c ≠ n)) kx).wk (m.keys.filter fun k => decide (k ∉ gone))
section
variable {P : Program} {w : World} {K : PySem.W.Frag} {mg : Str → Option Value} {base : Heap} (G : Gx K mg base)
include G
def sp_cut (K : PySem.W.Frag) : Sp := fun vs H Q E => ∃ tg m n, vs = [.ref m.tr, nV n] ∧ Rep K H tg m ∧ WT m ∧ (n ∉ m.keys → Er K H E) ∧
  (n ∈ m.keys → ∀ H' tg' p gone kx, gone.Nodup → (∀ x, x ∈ gone ↔ x ∈ m.keys ∧ (x = n ∨ Anc m n x)) → Stp H tg H' tg' → Rep K H' tg' (m.cutH n gone kx) → H' p = some (.lst (gone.map nV)) → tg' p = none → (∀ b o, tg b ≠ some .rw → tg b ≠ some .rb → H b = some o → nt o → H' b = some o) → Q (.ref p) H')
omit G in
theorem sc_Tree_cut : FnScope ["self", "number", "gone", "giver", "one"] ["self", "number"] (defScope s_Tree_cut) := ⟨rfl, rfl, rfl, by decide +kernel, rfl, by decide +kernel, by decide +kernel⟩
theorem ok_Tree_cut : FnR P w K mg base (L2.CX P w) 51 (He.ma K (He.ga K "Tree") "cut") (sp_cut K) := by
  refine mkF (k := 50) G.f_Tree_cut sc_Tree_cut (fun _ _ _ _ _ _ us hl => match us, hl with | [_, _], _ => rfl) (fun vs H Q E h => by repeat (first | (obtain ⟨e, _⟩ := h; cases e; rfl; done) | obtain ⟨_, h⟩ := h)) (fun cdv A outer s H vs Q E hr h => ?_)
  have S := sc_Tree_cut
  obtain ⟨tg, m, n, rfl, R, W, er, k⟩ := h
  refine ⟨_, (pss_cons (ps_set (i := 2) S.nd rfl (by first | exact Or.inl rfl | exact Or.inr rfl) (pe_callB cr_sortedI (by rfl) G.b_sorted (by decide +kernel) (pa_cons (pe_op op_cat (pe_lst (pa_cons (pv 1) pa_nil)) (pe_m (ok_Tree_below G) (hr.mono (by omega)) G.cl_Tree G.m_Tree_below tkd (pv 0) (pa_cons (pv 1) pa_nil))) pa_nil)))
      (pss_cons (ps_set (i := 3) S.nd rfl (by first | exact Or.inl rfl | exact Or.inr rfl) (pe_fd (pe_dget (hu_of hr) (pe_fd (pv 0)) (pv 1) (fun _ _ => rfl))))
      (C8.pss_cut (ps_if (pt_cmpR op_notN (pv 3) pe_non (nomark _)) (pss_one (ps_dput (hu_of hr) (pe_fd (pv 0)) (pv 3) (by exact (pe_lcz (own := [("one", 4)]) rfl S.nd (pi_list (pe_dget (hu_of hr) (pe_fd (pv 0)) (pv 3) (fun _ _ => rfl))) (blkOk_by (own := [("one", 4)]) (N := ["self", "number", "gone", "giver", "one"]) (sc := defScope s_Tree_cut) (by decide +kernel)) (fun _ => (pg_name (i := 4) S.nd rfl (by first | exact Or.inl rfl | exact Or.inr rfl))) (fun _ => (pts_one (pt_cmpR op_ne (pv 4) (pv 1) (nomark _)))) (fun _ => (pv 4)))) rfl)) pss_nil)
      (pss_cons (ps_for pod rfl (pi_list (pv 2)) (pg_name (i := 4) S.nd rfl (by first | exact Or.inl rfl | exact Or.inr rfl)) (pss_cons (ps_expr (pe_dpop1 (pe_fd (pv 0)) (pv 4) ⟨rfl, rfl, rfl, rfl⟩))
      (pss_one (ps_expr (pe_dpop1 (pe_fd (pv 0)) (pv 4) ⟨rfl, rfl, rfl, rfl⟩)))))
      (pss_one (ps_ret (pv 2))))))), ?_⟩
  walk_at "w"
  refine ⟨sz1, fun F1 hF1 => ?_⟩
  have a1 := Al.new (o := .lst [nV n]) hF1
  have R1 := R.al a1
  walk_at "w"
  refine ⟨tg, m, n, rfl, R1, W, fun h => (er h).al a1, fun hn H2 p xs a2 hp e2 nd mem => ?_⟩
  have eF := a2.lst (upd_same (H := H) (a := F1) (o := .lst [nV n]))
  have hxl : xs.length ≤ 1000 := Nat.le_trans (nodup_le nd fun x hx => ((mem x).mp hx).1) W.sz
  refine ⟨_, _, _, _, rfl, rfl, eF, e2, by rw [List.length_map, sizeLine_eq]; simp only [List.length_singleton]; omega, fun p2 hp2 => ?_⟩
  walk_at "w"
  have e3 : (L2.upd H2 p2 (.lst ([nV n] ++ xs.map nV))) p2 = some (.lst (((n :: xs).map fun n : Nat => (n : Int)).map V.int)) := by rw [upd_same, nV_map]; rfl
  refine ⟨p2, _, rfl, sqL_at e3, fun ys p3 hperm _ hp3 => ?_⟩
  obtain ⟨gone, rfl, hg⟩ := nats_of hperm
  rw [nV_map]
  have a3 := ((a1.trans a2).newT (o := .lst ([nV n] ++ xs.map nV)) hp2)
  have a4 := a3.newT (o := .lst (gone.map nV)) hp3
  have fr3 := a3.free hp3
  have R4 := (R.al a4).untag (R.fresh1 fr3)
  have st4 := (Stp.al (tg := tg) a4).untag fr3
  have e4 : (L2.upd (L2.upd H2 p2 (.lst ([nV n] ++ xs.map nV))) p3 (.lst (gone.map nV))) p3 = some (.lst (gone.map nV)) := upd_same
  generalize L2.upd (L2.upd H2 p2 (.lst ([nV n] ++ xs.map nV))) p3 (.lst (gone.map nV)) = H4 at *
  have hgn : gone.Nodup := hg.symm.nodup (by
    rw [List.nodup_cons]
    exact ⟨fun h => by have := (((mem n).mp h).2).dep W hn; omega, nd⟩)
  have hgm : ∀ x, x ∈ gone ↔ x ∈ m.keys ∧ (x = n ∨ Anc m n x) := fun x => by
    rw [hg.mem_iff, List.mem_cons, mem x]
    constructor
    · rintro (rfl | h)
      · exact ⟨hn, .inl rfl⟩
      · exact ⟨h.1, .inr h.2⟩
    · rintro ⟨h, rfl | h2⟩
      · exact .inl rfl
      · exact .inr ⟨h, h2⟩
  have tgp : (Pk.untag tg p3) p3 = none := untag_at
  have hh : HdAt K H4 (m.ha n) n (m.row n) := R4.hnd hn
  have tgo : ∀ b, tg b ≠ some .rw → Pk.untag tg p3 b ≠ some .rw := fun b h => by unfold Pk.untag; split <;> simp_all
  have tgo2 : ∀ b, tg b ≠ some .rb → Pk.untag tg p3 b ≠ some .rb := fun b h => by unfold Pk.untag; split <;> simp_all
  generalize Pk.untag tg p3 = tg4 at *
  walk_at "w"
  refine ⟨fun σ' H' => σ' = [some (.ref m.tr), some (nV n), some (.ref p3), some (oV (m.row n).giver), none] ∧ ∃ tg' kx, Stp H4 tg4 H' tg' ∧ Rep K H' tg' (m.cutH n [] kx) ∧ (∀ b o, tg b ≠ some .rw → tg b ≠ some .rb → H4 b = some o → nt o → H' b = some o), ?_, ?_⟩
  · cases eg : (m.row n).giver with
    | none =>
      walk_at "w"
      refine ⟨tg4, 0, .refl, ?_, fun _ _ _ _ h _ => h⟩
      have ec : m.cutH n [] 0 = m := by
        unfold Mo.cutH
        rw [eg]
        show m.wk (m.keys.filter fun k => decide (k ∉ ([] : List Nat))) = m
        rw [List.filter_eq_self.mpr (fun _ _ => by simp)]
        rfl
      rw [ec]
      exact R4
    | some g =>
      obtain ⟨hgk, _⟩ := W.gv n g hn eg
      have ekid := R4.kid hgk
      have grb := get_rb1 R4 hgk
      have hkl : (m.kids g).length ≤ 1000 := Nat.le_trans (nodup_le (W.knd g hgk) fun c hc => ((W.kid g c hgk).mp hc).1) W.sz
      have hl : ((m.kids g).map nV).length = (m.kids g).length := List.length_map _
      walk_at "w"
      refine ⟨⟨_, sqL_at ekid⟩, ?_⟩
      refine LcB.imp (Q' := fun v H' => ∃ D, v = .ref D ∧ Al H4 H' ∧ H' D = some (.lst (((m.kids g).filter fun c => decide (c ≠ n)).map nV))) (lcR walk_list (fun i => ((m.kids g)[i]?).bind fun c => if decide (c ≠ n) = true then some (nV c) else none) (by rw [hl, sizeLine_eq]; omega) (fun H a => sqL_at (a.lst ekid)) (fun i x H6 H7 hi a y N1 N2 hy hno => ?_) (fun H6 D a e => ?_)) (fun D0 H6 hD0 q => ?_)
      · obtain ⟨rfl, hx⟩ := y
        rw [List.getElem?_map] at hx
        cases hc : (m.kids g)[i]? with
        | none => rw [hc] at hx; cases hx
        | some c =>
          rw [hc] at hx hy hno
          cases hx
          by_cases hcn : c = n
          · have hv : nV c = nV n := by rw [hcn]
            walk_at "w"
            exact hno _ (by simp [hcn]) (Al.refl _)
          · have hv : ¬ nV c = nV n := fun z => hcn (by have := V.int.inj z; omega)
            walk_at "w"
            exact hy _ _ (by simp [hcn]) (Al.refl _)
      · have ef : (List.range ((m.kids g).map nV).length).filterMap (fun i => ((m.kids g)[i]?).bind fun c => if decide (c ≠ n) = true then some (nV c) else none) = ((m.kids g).filter fun c => decide (c ≠ n)).map nV := by
          rw [hl, filterMap_range (m.kids g) _ (fun c => if decide (c ≠ n) = true then some (nV c) else none) (fun i x e => by rw [e]; rfl), filterMap_if]
        rw [ef] at e
        exact ⟨D, rfl, a, e⟩
      · obtain ⟨D, eD, a, e⟩ := q
        cases eD
        have frD : ∀ o, nt o → H4 D0 ≠ some o := fun o _ z => by rw [hD0] at z; cases z
        have R6 := R4.al a
        have erb := R6.rb
        walk_at "w"
        refine ⟨_, _, rfl, DPut.k (k := Sum.inl (g : Int)) erb (by unfold rowsD; rw [List.length_map, sizeLine_eq]; have := W.sz; omega), ?_⟩
        rw [put_rows_old hgk]
        have c1 : Chg [.rb, .kid g] H4 tg4 (L2.upd H6 m.rb (.dK (rowsD m.keys (nput m.ka g D0)))) (tset tg4 D0 (.kid g)) := ((Chg.refl.al a).upd R4.rb_tag (by simp) erb trivial).adopt frD
        have nrd : m.rb ≠ D0 := fun z => by rw [z, e] at erb; cases erb
        have R7 := R4.newKids (ks := (m.kids g).filter fun c => decide (c ≠ n)) hgk c1 upd_same ((upd_ne nrd.symm).trans e) (by rw [tset_ne nrd]; exact R4.rb_tag) tset_same
        have ec : m.cutH n [] D0 = m.newKids g ((m.kids g).filter fun c => decide (c ≠ n)) D0 := by
          unfold Mo.cutH
          rw [eg]
          show (m.newKids g ((m.kids g).filter fun c => decide (c ≠ n)) D0).wk (m.keys.filter fun k => decide (k ∉ ([] : List Nat))) = _
          have e0 : m.keys.filter (fun k => decide (k ∉ ([] : List Nat))) = m.keys := List.filter_eq_self.mpr (fun _ _ => by simp)
          rw [e0]
          rfl
        rw [← ec] at R7
        walk_at "w"
        refine ⟨_, D0, c1.stp, R7, fun b o h1 h2 e' n' => ?_⟩
        rw [upd_ne (fun z => h2 (by rw [z]; exact R.rb_tag))]
        exact a.keep b o e' n'
  · rintro σ' H5 ⟨rfl, tg5, kx, st5, R5, kp5⟩
    have e5 := st5.keep _ _ e4 (Pl.nt (o := .lst _) trivial) tgp
    have tp5 := st5.tag _ _ e4 (Pl.nt (o := .lst _) trivial) tgp
    walk_at "w"
    refine ⟨⟨_, sqL_at e5⟩, ?_⟩
    have ckeys : ∀ L, (m.cutH n L kx).keys = m.keys.filter fun k => decide (k ∉ L) := fun L => rfl
    have cadr : ∀ L, (m.cutH n L kx).rw = m.rw ∧ (m.cutH n L kx).rb = m.rb ∧ (m.cutH n L kx).tr = m.tr ∧ (m.cutH n L kx).ha = m.ha ∧ (m.cutH n L kx).ka = (m.cutH n [] kx).ka := fun L => by
      unfold Mo.cutH
      cases (m.row n).giver <;> exact ⟨rfl, rfl, rfl, rfl, rfl⟩
    have cdrop : ∀ L x, (m.cutH n L kx).dropKey x = m.cutH n (L ++ [x]) kx := fun L x => by
      have e1 : (m.keys.filter fun k => decide (k ∉ L)).filter (fun k => decide (k ≠ x)) = m.keys.filter fun k => decide (k ∉ L ++ [x]) := by
        rw [List.filter_filter]
        refine List.filter_congr fun k _ => ?_
        simp only [List.mem_append, List.mem_singleton, not_or, Bool.decide_and]
        rw [Bool.and_comm]
      unfold Mo.cutH Mo.dropKey
      show (Mo.wk _ ((m.keys.filter fun k => decide (k ∉ L)).filter (fun k => decide (k ≠ x)))) = _
      rw [e1]
      rfl
    refine for_list (xs := gone.map nV) (fun i σ H' => (∃ v4, σ = [some (.ref m.tr), some (nV n), some (.ref p3), some (oV (m.row n).giver), v4]) ∧ ∃ tg', Stp H5 tg5 H' tg' ∧ Rep K H' tg' (m.cutH n (gone.take i) kx) ∧ (∀ b o, tg b ≠ some .rw → tg b ≠ some .rb → H5 b = some o → nt o → H' b = some o)) ?_ ?_ ?_ ?_
    · exact ⟨⟨_, rfl⟩, tg5, .refl, R5, fun _ _ _ _ h _ => h⟩
    · rintro i σ H6 hi ⟨_, tg6, st6, _⟩
      exact sqL_at (st6.keep _ _ e5 (Pl.nt (o := .lst _) trivial) tp5)
    · rintro i x σ H6 hx ⟨⟨v4, rfl⟩, tg6, st6, R6, kp6⟩
      rw [List.getElem?_map] at hx
      cases hc : gone[i]? with
      | none => rw [hc] at hx; cases hx
      | some c =>
        rw [hc] at hx
        cases hx
        have hcg : c ∈ gone := List.mem_of_getElem? hc
        have hck := ((hgm c).mp hcg).1
        have hcn : c ∉ gone.take i := fun hin => by
          obtain ⟨j, hj, ej⟩ := List.getElem_of_mem hin
          rw [List.length_take] at hj
          rw [List.getElem_take] at ej
          have hi := lt_of_get hc
          rw [List.getElem?_eq_getElem hi] at hc
          have := (List.getElem_inj hgn).mp (ej.trans (Option.some.inj hc).symm)
          omega
        have hcc : c ∈ (m.cutH n (gone.take i) kx).keys := by rw [ckeys, List.mem_filter]; exact ⟨hck, by simpa using hcn⟩
        obtain ⟨q1, q2, q3, q4, q5⟩ := cadr (gone.take i)
        have erw6 := R6.rw
        have erb6 := R6.rb
        obtain ⟨dt, etr6⟩ := R6.tr
        have trw := R6.rw_tag
        have trb := R6.rb_tag
        rw [q1] at erw6 trw
        rw [q2] at erb6 trb
        rw [q1, q2, q3] at etr6
        have nwb : m.rw ≠ m.rb := fun z => by rw [z, trb] at trw; cases trw
        have ntw : m.tr ≠ m.rw := fun z => by rw [z, erw6] at etr6; cases etr6
        have f1 := fT_rw G etr6
        walk_at "w"
        refine ⟨.inl ⟨_, .inl erw6⟩, ?_⟩
        have hv1 : ∀ ad, valV (rowsD (m.cutH n (gone.take i) kx).keys ad) (Sum.inl (c : Int)) = some (.ref (ad c)) := fun ad => by rw [val_rows, if_pos hcc]
        walk_at "w"
        refine ⟨_, Sum.inl (c : Int), _, erw6, rfl, hv1 _, ?_⟩
        have etr7 := (upd_ne (o := .dK (dropK (rowsD (m.cutH n (gone.take i) kx).keys (m.cutH n (gone.take i) kx).ha) (Sum.inl (c : Int)))) ntw).trans etr6
        have erb7 := (upd_ne (o := .dK (dropK (rowsD (m.cutH n (gone.take i) kx).keys (m.cutH n (gone.take i) kx).ha) (Sum.inl (c : Int)))) nwb.symm).trans erb6
        have f2 := fT_rb G etr7
        walk_at "w"
        refine ⟨.inl ⟨_, .inl erb7⟩, ?_⟩
        walk_at "w"
        refine ⟨_, Sum.inl (c : Int), _, erb7, rfl, hv1 _, ?_⟩
        rw [drop_rows, drop_rows]
        have c6 : Chg [.rw, .rb] H6 tg6 (L2.upd (L2.upd H6 m.rw (.dK (rowsD ((m.cutH n (gone.take i) kx).keys.filter fun k => decide (k ≠ c)) (m.cutH n (gone.take i) kx).ha))) m.rb (.dK (rowsD ((m.cutH n (gone.take i) kx).keys.filter fun k => decide (k ≠ c)) (m.cutH n (gone.take i) kx).ka))) tg6 :=
          ((Chg.refl).upd trw (by simp) erw6 trivial).upd trb (by simp) ((upd_ne nwb.symm).trans erb6) trivial
        have R8 := R6.dropKey (n := c) c6 (by rw [q1]; exact (upd_ne nwb).trans upd_same) (by rw [q2]; exact upd_same) (by rw [q1]; exact trw) (by rw [q2]; exact trb)
        rw [cdrop] at R8
        refine ⟨⟨_, rfl⟩, tg6, st6.trans c6.stp, ?_, fun b o h1 h2 e' n' => ?_⟩
        · rw [List.take_succ, hc]
          exact R8
        · rw [upd_ne (fun z => h2 (by rw [z]; exact R.rb_tag)), upd_ne (fun z => h1 (by rw [z]; exact R.rw_tag))]
          exact kp6 b o h1 h2 e' n'
    · rintro σ H6 ⟨⟨v4, rfl⟩, tg6, st6, R6, kp6⟩
      walk_at "w"
      rw [List.length_map, List.take_length] at R6
      refine k hn _ tg6 p3 gone kx hgn hgm (st4.trans (st5.trans st6)) R6 (st6.keep _ _ e5 (Pl.nt (o := .lst _) trivial) tp5) (st6.tag _ _ e5 (Pl.nt (o := .lst _) trivial) tp5) (fun b o h1 h2 e' n' => ?_)
      exact kp6 b o h1 h2 (kp5 b o h1 h2 (a4.keep b o e' n') n') n'
end
end Pk
end
/-! PkWf -/
section
set_option maxHeartbeats 4000000
namespace Pk
open PySem PySem.Spec PyProof.Rows L2
def rootN : Str := "root"
/-- how the whole kernel stands -/
structure Wf (m : Mo) : Prop where
  t : WT m
  k1 : Mk1 m
  bd : Bd m
  nth : m.nth ≤ 40
  run : (runL m).length ≤ 12
  slot : ∀ s n, s ∈ m.names → some n ∈ (m.task s).rows → n ∈ m.keys
  root : RunT m rootN
  rmk : ∀ s, s ∈ m.names → (m.task s).maker = "" → s = rootN
  r0 : (m.task rootN).maker = ""
  mkn : ∀ s, s ∈ m.names → (m.task s).maker = "" ∨ (m.task s).maker ∈ m.names
  prt : ∀ i ls l n, i < m.nth → m.thg i = .door ls → l ∈ ls → n ∈ l.parts → n < m.ever
  ne : ("" : Str) ∉ m.names
  len : ∀ s, s ∈ m.names → s.length ≤ 100
  post : ∀ i nm r, i < m.nth → m.thg i = .post nm r → nm ≠ rootN ∧ nm.length ≤ 100
  door : ∀ i ls, i < m.nth → m.thg i = .door ls → ls.length ≤ 8 ∧ ∀ l, l ∈ ls → l.parts.length ≤ 4
/-- the kernel stands -/
structure Kn (K : PySem.W.Frag) (H : Hp) (tg : Tag) (m : Mo) : Prop where
  r : Rep K H tg m
  w : Wf m
  kn : H m.kn = some (.dK (knD m.names m.tka))
  th : H m.th = some (.dK (rowsD (List.range m.nth) m.tha))
theorem Kn.al {K : PySem.W.Frag} {H H' : Hp} {tg : Tag} {m : Mo} (k : Kn K H tg m) (a : Al H H') : Kn K H' tg m := ⟨k.r.al a, k.w, a.dK k.kn, a.dK k.th⟩
theorem WT.ev {m : Mo} (w : WT m) : m.ever ∉ m.keys := fun h => Nat.lt_irrefl _ (w.lt _ h)
/-- what is taken away alone -/
structure Shr (m m' : Mo) : Prop where
  adr : m'.k = m.k ∧ m'.tr = m.tr ∧ m'.ta = m.ta ∧ m'.kn = m.kn ∧ m'.th = m.th ∧ m'.rw = m.rw ∧ m'.rb = m.rb ∧ m'.tka = m.tka ∧ m'.tha = m.tha
  ever : m'.ever = m.ever
  keys : ∀ n, n ∈ m'.keys → n ∈ m.keys
  row : ∀ n, m'.row n = m.row n
  names : m'.names = m.names
  nth : m'.nth = m.nth
  mr : ∀ s, (m'.task s).maker = (m.task s).maker
  rn : ∀ s, (m'.task s).runs = true → (m.task s).runs = true
  em : ∀ s, Emp (m.task s).rows (m'.task s).rows
  dr : ∀ i ls, m'.thg i = .door ls → m.thg i = .door ls
  po : ∀ i nm r, m'.thg i = .post nm r → ∃ r', m.thg i = .post nm r'
theorem Emp.trans {a b c : List (Option Nat)} (h : Emp a b) (g : Emp b c) : Emp a c := by
  refine ⟨g.1.trans h.1, fun i => ?_⟩
  rcases g.2 i with e | e
  · rw [e]; exact h.2 i
  · exact .inr e
theorem Shr.refl {m : Mo} : Shr m m := ⟨⟨rfl, rfl, rfl, rfl, rfl, rfl, rfl, rfl, rfl⟩, rfl, fun _ h => h, fun _ => rfl, rfl, rfl, fun _ => rfl, fun _ h => h, fun _ => .refl, fun _ _ h => h, fun _ _ r h => ⟨r, h⟩⟩
theorem Shr.trans {a b c : Mo} (h : Shr a b) (g : Shr b c) : Shr a c := by
  obtain ⟨h1, h2, h3, h4, h5, h6, h7, h8, h9⟩ := h.adr
  obtain ⟨g1, g2, g3, g4, g5, g6, g7, g8, g9⟩ := g.adr
  exact ⟨⟨g1.trans h1, g2.trans h2, g3.trans h3, g4.trans h4, g5.trans h5, g6.trans h6, g7.trans h7, g8.trans h8, g9.trans h9⟩, g.ever.trans h.ever, fun n q => h.keys n (g.keys n q), fun n => (g.row n).trans (h.row n), g.names.trans h.names, g.nth.trans h.nth,
    fun s => (g.mr s).trans (h.mr s), fun s q => h.rn s (g.rn s q), fun s => (h.em s).trans (g.em s), fun i ls q => h.dr i ls (g.dr i ls q), fun i nm r q => let ⟨r', q'⟩ := g.po i nm r q; h.po i nm r' q'⟩
theorem Emp.mem {a b : List (Option Nat)} (h : Emp a b) {n : Nat} (q : some n ∈ b) : some n ∈ a := by
  obtain ⟨i, hi, e⟩ := List.getElem_of_mem q
  have e' : b[i]? = some (some n) := by rw [List.getElem?_eq_getElem hi, e]
  rcases h.2 i with z | z
  · rw [z] at e'; exact List.mem_of_getElem? e'
  · rw [z] at e'; cases e'
theorem runL_le {m m' : Mo} (hn : m'.names = m.names) (rn : ∀ s, (m'.task s).runs = true → (m.task s).runs = true) : (runL m').length ≤ (runL m).length := by
  unfold runL
  rw [hn]
  generalize m.names = l
  induction l with
  | nil => exact Nat.le_refl _
  | cons a r ih =>
    rw [List.filter_cons, List.filter_cons]
    by_cases h : (m'.task a).runs = true
    · rw [if_pos h, if_pos (rn a h)]; simp only [List.length_cons]; omega
    · rw [if_neg h]
      split
      · simp only [List.length_cons]; omega
      · exact ih
theorem Wf.shr {m m' : Mo} (w : Wf m) (s : Shr m m') (t : WT m') (sl : ∀ s n, s ∈ m'.names → some n ∈ (m'.task s).rows → n ∈ m'.keys) (root : RunT m' rootN) : Wf m' := by
  refine ⟨t, ⟨by rw [s.names]; exact w.k1.1, fun i r hi hr j hj => ?_⟩, ⟨by rw [s.names]; exact w.bd.nms, t.sz, fun r hr => by rw [(s.em r).1]; exact w.bd.rws r (by rw [← s.names]; exact hr)⟩, by rw [s.nth]; exact w.nth, Nat.le_trans (runL_le s.names s.rn) w.run, sl, root,
    fun r hr h => w.rmk r (by rw [← s.names]; exact hr) (by rw [← s.mr]; exact h), by rw [s.mr]; exact w.r0, fun r hr => by rw [s.mr, s.names]; exact w.mkn r (by rw [← s.names]; exact hr), fun i ls l n hi h hl hn => ?_, by rw [s.names]; exact w.ne, fun r hr => w.len r (by rw [← s.names]; exact hr), fun i nm r hi h => ?_, fun i ls hi h => w.door i ls (by rw [← s.nth]; exact hi) (s.dr i ls h)⟩
  · rw [s.names] at hi hj
    rw [s.mr] at hj
    exact w.k1.2 i r hi (s.rn r hr) j hj
  · rw [s.ever]; exact w.prt i ls l n (by rw [← s.nth]; exact hi) (s.dr i ls h) hl hn
  · obtain ⟨r', h'⟩ := s.po i nm r h
    exact w.post i nm r' (by rw [← s.nth]; exact hi) h'
/-- the tree after a cut -/
theorem WT.cut {m : Mo} {n kx : Nat} {gone : List Nat} (w : WT m) (hn : n ∈ m.keys) (hg : ∀ x, x ∈ gone ↔ x ∈ m.keys ∧ (x = n ∨ Anc m n x)) : WT (m.cutH n gone kx) := by
  have ek : (m.cutH n gone kx).keys = m.keys.filter fun k => decide (k ∉ gone) := rfl
  have er : (m.cutH n gone kx).row = m.row := by unfold Mo.cutH; cases (m.row n).giver <;> rfl
  have ed : (m.cutH n gone kx).dep = m.dep := by unfold Mo.cutH; cases (m.row n).giver <;> rfl
  have ee : (m.cutH n gone kx).ever = m.ever := by unfold Mo.cutH; cases (m.row n).giver <;> rfl
  have et : (m.cutH n gone kx).nth = m.nth := by unfold Mo.cutH; cases (m.row n).giver <;> rfl
  have mem : ∀ x, x ∈ (m.cutH n gone kx).keys ↔ x ∈ m.keys ∧ x ∉ gone := fun x => by rw [ek, List.mem_filter]; simp
  have up : ∀ x g, x ∈ m.keys → x ∉ gone → (m.row x).giver = some g → g ∉ gone := fun x g hx hxg hgv h => by
    obtain ⟨_, h2⟩ := (hg g).mp h
    refine hxg ((hg x).mpr ⟨hx, .inr ?_⟩)
    rcases h2 with rfl | h2
    · exact .one hgv
    · exact .up hgv h2
  have ekids : ∀ p, (m.cutH n gone kx).kids p = if (m.row n).giver = some p then (m.kids p).filter (fun c => decide (c ≠ n)) else m.kids p := fun p => by
    unfold Mo.cutH
    cases hgv : (m.row n).giver with
    | none => rfl
    | some g =>
      show nput m.kids g _ p = _
      by_cases hp : p = g
      · subst hp; rw [nput_at, if_pos rfl]
      · rw [nput_ne hp, if_neg (fun z => hp (Option.some.inj z).symm)]
  refine ⟨?_, ?_, ?_, ?_, ?_, ?_, ?_, ?_, ?_, ?_⟩
  · rw [ek]; exact w.nd.filter _
  · intro x hx; rw [ee]; exact w.lt x ((mem x).mp hx).1
  · intro x hx; rw [er]; exact w.rg x ((mem x).mp hx).1
  · intro x hx; rw [er, et]; exact w.th x ((mem x).mp hx).1
  · intro x g hx hgv
    rw [er] at hgv
    obtain ⟨h1, h2⟩ := (mem x).mp hx
    obtain ⟨h3, h4⟩ := w.gv x g h1 hgv
    rw [ed]
    exact ⟨(mem g).mpr ⟨h3, up x g h1 h2 hgv⟩, h4⟩
  · intro x hx hgv
    rw [er] at hgv
    rw [ed]; exact w.g0 x ((mem x).mp hx).1 hgv
  · intro x hx; rw [ed]; exact w.dp x ((mem x).mp hx).1
  · intro x hx
    rw [ekids]
    have := w.knd x ((mem x).mp hx).1
    split
    · exact this.filter _
    · exact this
  · intro p c hp
    obtain ⟨hpk, hpg⟩ := (mem p).mp hp
    rw [ekids, er, mem]
    have base := w.kid p c hpk
    split
    · rename_i hgv
      rw [List.mem_filter, base]
      have hd := (w.gv n p hn hgv).2
      constructor
      · rintro ⟨⟨h1, h2⟩, h3⟩
        refine ⟨⟨h1, fun h => ?_⟩, h2⟩
        obtain ⟨_, h4⟩ := (hg c).mp h
        rcases h4 with h4 | h4
        · simp [h4] at h3
        · cases h4 with
          | one h5 => rw [h2] at h5; cases h5; omega
          | up h5 a =>
            rw [h2] at h5
            cases h5
            have := a.dep w hpk
            omega
      · rintro ⟨⟨h1, h2⟩, h3⟩
        refine ⟨⟨h1, h3⟩, ?_⟩
        have : c ≠ n := fun z => h2 ((hg c).mpr ⟨h1, .inl z⟩)
        simpa using this
    · rename_i hgv
      rw [base]
      constructor
      · rintro ⟨h1, h2⟩
        refine ⟨⟨h1, fun h => ?_⟩, h2⟩
        obtain ⟨_, h4⟩ := (hg c).mp h
        rcases h4 with h4 | h4
        · subst h4; exact hgv h2
        · cases h4 with
          | one h5 => exact hpg ((hg p).mpr ⟨hpk, .inl (Option.some.inj (h2.symm.trans h5))⟩)
          | up h5 a => exact hpg ((hg p).mpr ⟨hpk, .inr ((Option.some.inj (h2.symm.trans h5)) ▸ a)⟩)
      · rintro ⟨⟨h1, _⟩, h3⟩; exact ⟨h1, h3⟩
  · rw [ek]; exact Nat.le_trans (List.length_filter_le _ _) w.sz
end Pk
end
/-! PkTr3 -/
section
set_option maxHeartbeats 4000000
namespace Pk
open PySem PySem.Spec PyProof.Rows L2
/-- a thing is added -/
def Mo.addTh (m : Mo) (t : Th) (x b : Addr) : Mo := { m with nth := m.nth + 1, thg := nput m.thg m.nth t, tha := nput m.tha m.nth x, thb := nput m.thb m.nth b }
section
variable {K : PySem.W.Frag} {H H' : Hp} {tg tg' : Tag} {m : Mo}
theorem Rep.addTh (R : Rep K H tg m) {t : Th} {x b dx : Addr} (c : Chg [.th, .thg m.nth, .sub m.nth] H tg H' tg')
    (h1 : H' m.th = some (.dK (rowsD (List.range (m.nth + 1)) (nput m.tha m.nth x)))) (h2 : H' x = some (.ins (thC K t) dx (thF m.nth t b)))
    (h3 : match t with | .line => H' b = some (.lst []) | .door ls => ls = [] ∧ H' b = some (.lst []) | _ => True)
    (t1 : tg' m.th = some .th) (t2 : tg' x = some (.thg m.nth)) (t3 : match t with | .line => tg' b = some (.sub m.nth) | .door _ => tg' b = some (.sub m.nth) | _ => True) : Rep K H' tg' (m.addTh t x b) := by
  refine R.chg c (fun r hr y e => ?_) (fun r hr a φ e => ?_) (fun i ls hi e l hl => ?_)
  · cases r with
    | thg n =>
      have hne : n ≠ m.nth := fun z => hr (by simp [z])
      simp only [Mo.cell, Mo.addTh, nput_ne hne] at e ⊢
      by_cases hlt : n < m.nth
      · rw [if_pos (by omega)] at e; rw [if_pos hlt]; exact e
      · rw [if_neg (by omega)] at e; cases e
    | sub n =>
      have hne : n ≠ m.nth := fun z => hr (by simp [z])
      simp only [Mo.cell, Mo.addTh, nput_ne hne] at e ⊢
      by_cases hlt : n < m.nth
      · rw [if_pos (by omega)] at e; rw [if_pos hlt]; exact e
      · rw [if_neg (by omega)] at e; cases e
    | th => exact absurd (by simp) hr
    | _ => exact e
  · simp only [List.mem_cons, List.not_mem_nil, or_false] at hr
    rcases hr with rfl | rfl | rfl
    · simp only [Mo.cell, Mo.addTh] at e
      cases e
      exact ⟨t1, _, h1, .inl rfl⟩
    · simp only [Mo.cell, Mo.addTh, nput_at] at e
      rw [if_pos (by omega)] at e
      cases e
      exact ⟨t2, _, h2, dx, rfl⟩
    · simp only [Mo.cell, Mo.addTh, nput_at] at e
      rw [if_pos (by omega)] at e
      cases t with
      | cell => cases e
      | line => cases e; exact ⟨t3, _, h3, rfl⟩
      | door ls => cases e; obtain ⟨rfl, h3⟩ := h3; exact ⟨t3, _, h3, rfl⟩
      | post nm r => cases e
  · by_cases hin : i = m.nth
    · subst hin
      rw [show (m.addTh t x b).thg m.nth = t from nput_at] at e
      subst e
      obtain ⟨rfl, _⟩ := h3
      cases hl
    · have hi' : i < m.nth := by
        have : i < m.nth + 1 := hi
        omega
      rw [show (m.addTh t x b).thg i = m.thg i from nput_ne hin] at e
      exact (R.lets i ls hi' e l hl).chg c
end
end Pk
end
/-! PkF12 -/
section
set_option maxHeartbeats 4000000
namespace Pk
open PySem PySem.Spec PyProof.Rows L2
local macro_rules | `(tactic| walk_at "c") => `(tactic| first | assumption | omega | exact rfl | (intro z; cases z; done) | (simp only [nV, V.int.injEq, V.str.injEq]; first | assumption | omega))
local macro_rules | `(tactic| walk_at "fld") => `(tactic| first
  | assumption
  | exact fld_k_tasks (by assumption) (by assumption) | exact fld_k_tree (by assumption) (by assumption) | exact fld_k_things (by assumption) (by assumption) | exact fld_ta_known (by assumption) (by assumption)
  | exact fld_t_rows (by assumption) (by assumption) (by assumption) | exact fld_t_run1 (by assumption) (by assumption) (by assumption) (by assumption) | exact fld_t_runs (by assumption) (by assumption) (by assumption) | exact fld_t_maker (by assumption) (by assumption) (by assumption) | exact fld_tr_rows (by assumption) (by assumption) | exact fld_tr_rb (by assumption) (by assumption) | exact fld_tr_ever (by assumption) (by assumption)
  | exact fld_h_number (by assumption) (by assumption) | exact fld_h_thing (by assumption) (by assumption) | exact fld_h_rights (by assumption) (by assumption) | exact fld_h_giver (by assumption) (by assumption) | exact fld_h_holder (by assumption) (by assumption))
local macro_rules | `(tactic| walk_at "get") => `(tactic| first
  | assumption
  | exact get_kn1 (by assumption) (by assumption) | exact get_kn0 (by assumption) (by assumption) | exact get_rw1 (by assumption) (by assumption) | exact get_rw0 (by assumption) (by assumption)
  | exact get_rb1 (by assumption) (by assumption) | exact get_rb0 (by assumption) (by assumption) | exact get_th1 (by assumption) (by assumption) | exact get_th0 (by assumption) (by assumption))
local macro_rules | `(tactic| walk_at "ins") => `(tactic| first | exact insTa (by assumption) rfl | exact insTr (by assumption) rfl)
local macro_rules | `(tactic| walk_at "s") => `(tactic| first
  | refine ⟨_, rfl, ?_⟩
  | refine ⟨rfl, ?_⟩
  | refine zI fun _ => ?_
  | with_reducible refine iteF ?_ | with_reducible refine iteT ?_
  | ((with_reducible refine iteDy ?_ ?_); focus (walk_at "c"; done)) | ((with_reducible refine iteDn ?_ ?_); focus (walk_at "c"; done)) | ((with_reducible refine iteNy ?_ ?_); focus (walk_at "c"; done)) | ((with_reducible refine iteNn ?_ ?_); focus (walk_at "c"; done))
  | refine fldI (by walk_at "fld") ?_
  | refine getI (by walk_at "get") ?_ | refine getS (by walk_at "get") ?_
  | refine ⟨by walk_at "ins", ?_⟩
  | refine ⟨_, _, _, _, true, rfl, .ty _, .base (.str _), kit_ty (by decide +kernel), ?_⟩
  | refine ⟨_, _, _, _, true, rfl, .ty _, .base (.int _), kit_ty (by decide +kernel), ?_⟩
  | refine ⟨_, _, _, _, false, rfl, .ty _, .base (.int _), kit_ty (by decide +kernel), ?_⟩
  | refine ⟨_, _, rfl, rfl, ?_⟩
  | refine ⟨_, _, rfl, rfl, trivial, ?_⟩)
local macro_rules | `(tactic| walk_at "w") => `(tactic| repeat (walk_at "s"))
section
variable {P : Program} {w : World} {K : PySem.W.Frag} {mg : Str → Option Value} {base : Heap} (G : Gx K mg base)
omit G in
theorem FnR.lift {CX : CXT} {k k' : Nat} {f : Addr} {sp : Sp} (F : FnR P w K mg base CX k f sp) (h : k ≤ k') : FnR P w K mg base CX k' f sp := fun A outer s H us vs Q E hr e0 r hs => F A outer s H us vs Q E (hr.mono h) e0 r hs
include G
theorem cin_Thing : Cin K (He.ga K "Thing") "__init__" (He.ma K (He.ga K "Thing") "__init__") := by
  have h := G.ex
  unfold ex at h
  simp only [Bool.and_eq_true] at h
  have h := h.2.2
  unfold cinB at h
  simp only [Bool.and_eq_true] at h
  obtain ⟨h1, h2, h3, h4⟩ := h
  refine ⟨h1, He.eqO_ok h2, ?_, h4⟩
  split at h3
  · rename_i a e
    rw [e, of_decide_eq_true h3]
  · cases h3
/-- a def that gives v whatever its arguments (n of them) -/
def sp_c1 (v : V) : Sp := fun vs H Q E => ∃ a, vs = [.ref a] ∧ Q v H
def sp_Thing_init (K : PySem.W.Frag) : Sp := fun vs H Q E => ∃ a C dx n, vs = [.ref a, nV n] ∧ H a = some (.ins C dx []) ∧ Cls K C ∧ NoAttr K C "number" ∧ Q .non (L2.upd H a (.ins C dx [(("number" : Str), nV n)]))
omit G in
theorem sc_Thing_init : FnScope ["self", "number"] ["self", "number"] (defScope s_Thing_init) := ⟨rfl, rfl, rfl, by decide +kernel, rfl, by decide +kernel, by decide +kernel⟩
theorem ok_Thing_init : FnR P w K mg base (L2.CX P w) 1 (He.ma K (He.ga K "Thing") "__init__") (sp_Thing_init K) := by
  refine mkF (k := 0) G.f_Thing_init sc_Thing_init (fun _ _ _ _ _ _ us hl => match us, hl with | [_, _], _ => rfl) (fun vs H Q E h => by repeat (first | (obtain ⟨e, _⟩ := h; cases e; rfl; done) | obtain ⟨_, h⟩ := h)) (fun cdv A outer s H vs Q E hr h => ?_)
  have S := sc_Thing_init
  obtain ⟨a, C, dx, n, rfl, ha, c, na, k⟩ := h
  refine ⟨_, (pss_one (ps_fld (pv 0) (pv 1) rfl)), ?_⟩
  walk_at "w"
  refine ⟨_, _, _, _, rfl, ha, c, na, by show (0 : Nat) < 1000; decide, ?_⟩
  walk_at "w"
  exact k
def sp_thi (K : PySem.W.Frag) (C : Addr) (fs : Nat → List (Str × V)) : Sp := fun vs H Q E => ∃ x dx n, vs = [.ref x, nV n] ∧ H x = some (.ins C dx []) ∧ ∀ H', H' x = some (.ins C dx (fs n)) → (∀ b o, b ≠ x → H b = some o → H' b = some o) → Q .non H'
omit G in
theorem sc_Cell_init : FnScope ["self", "number"] ["self", "number"] (defScope s_Cell_init) := ⟨rfl, rfl, rfl, by decide +kernel, rfl, by decide +kernel, by decide +kernel⟩
theorem ok_Cell_init : MkR P w K mg base 2 (He.ga K "Cell") (sp_thi K (He.ga K "Cell") fun n => [(("number" : Str), nV n), (("amount" : Str), V.int 0)]) := by
  refine mkI (k := 1) G.k_Cell G.f_Cell_init sc_Cell_init (fun _ _ _ _ _ _ us hl => match us, hl with | [_, _], _ => rfl) (fun vs H Q E h => by repeat (first | (obtain ⟨e, _⟩ := h; cases e; rfl; done) | obtain ⟨_, h⟩ := h)) (fun cdv A outer s H vs Q E hr h => ?_)
  have S := sc_Cell_init
  obtain ⟨x, dx, n, rfl, hx, k⟩ := h
  refine ⟨_, (pss_cons (ps_expr (pe_cm (ok_Thing_init G) (hr.mono (by omega)) (cin_Thing G) tkd (pe_cf rfl G.g_Thing) (pa_cons (pv 0) (pa_cons (pv 1) pa_nil))))
      (pss_one (ps_fld (pv 0) pe_int rfl))), ?_⟩
  walk_at "w"
  refine ⟨x, _, dx, n, rfl, hx, G.cl_Cell, G.n_Cell_number, ?_⟩
  walk_at "w"
  refine ⟨_, _, _, _, rfl, upd_same, G.cl_Cell, G.n_Cell_amount, by show (1 : Nat) < 1000; decide, ?_⟩
  walk_at "w"
  exact k _ (by rw [upd_same]; rfl) (fun b o hb e => by rw [upd_ne hb, upd_ne hb]; exact e)
def sp_tho (K : PySem.W.Frag) (C : Addr) (fs : Nat → Addr → List (Str × V)) : Sp := fun vs H Q E => ∃ x dx n, vs = [.ref x, nV n] ∧ H x = some (.ins C dx []) ∧ ∀ H' p, H p = none → H' x = some (.ins C dx (fs n p)) → H' p = some (.lst []) → (∀ b o, b ≠ x → H b = some o → H' b = some o) → Q .non H'
omit G in
theorem sc_Line_init : FnScope ["self", "number"] ["self", "number"] (defScope s_Line_init) := ⟨rfl, rfl, rfl, by decide +kernel, rfl, by decide +kernel, by decide +kernel⟩
theorem ok_Line_init : MkR P w K mg base 2 (He.ga K "Line") (sp_tho K (He.ga K "Line") fun n p => [(("number" : Str), nV n), (("row" : Str), V.ref p)]) := by
  refine mkI (k := 1) G.k_Line G.f_Line_init sc_Line_init (fun _ _ _ _ _ _ us hl => match us, hl with | [_, _], _ => rfl) (fun vs H Q E h => by repeat (first | (obtain ⟨e, _⟩ := h; cases e; rfl; done) | obtain ⟨_, h⟩ := h)) (fun cdv A outer s H vs Q E hr h => ?_)
  have S := sc_Line_init
  obtain ⟨x, dx, n, rfl, hx, k⟩ := h
  refine ⟨_, (pss_cons (ps_expr (pe_cm (ok_Thing_init G) (hr.mono (by omega)) (cin_Thing G) tkd (pe_cf rfl G.g_Thing) (pa_cons (pv 0) (pa_cons (pv 1) pa_nil))))
      (pss_one (ps_fld (pv 0) (pe_lst pa_nil) rfl))), ?_⟩
  walk_at "w"
  refine ⟨x, _, dx, n, rfl, hx, G.cl_Line, G.n_Line_number, ?_⟩
  walk_at "w"
  refine ⟨by rw [sizeLine_eq]; decide, fun p hp => ?_⟩
  have np : x ≠ p := fun z => by rw [← z, upd_same] at hp; cases hp
  have hp0 : H p = none := by rw [upd_ne np.symm] at hp; exact hp
  walk_at "w"
  refine ⟨_, _, _, _, rfl, (upd_ne np).trans upd_same, G.cl_Line, G.n_Line_row, by show (1 : Nat) < 1000; decide, ?_⟩
  walk_at "w"
  exact k _ p hp0 (by rw [upd_same]; rfl) ((upd_ne np.symm).trans upd_same) (fun b o hb e => by rw [upd_ne hb, upd_ne (ne_of_none e hp0), upd_ne hb]; exact e)
omit G in
theorem sc_Door_init : FnScope ["self", "number"] ["self", "number"] (defScope s_Door_init) := ⟨rfl, rfl, rfl, by decide +kernel, rfl, by decide +kernel, by decide +kernel⟩
theorem ok_Door_init : MkR P w K mg base 2 (He.ga K "Door") (sp_tho K (He.ga K "Door") fun n p => [(("number" : Str), nV n), (("waiting" : Str), V.ref p)]) := by
  refine mkI (k := 1) G.k_Door G.f_Door_init sc_Door_init (fun _ _ _ _ _ _ us hl => match us, hl with | [_, _], _ => rfl) (fun vs H Q E h => by repeat (first | (obtain ⟨e, _⟩ := h; cases e; rfl; done) | obtain ⟨_, h⟩ := h)) (fun cdv A outer s H vs Q E hr h => ?_)
  have S := sc_Door_init
  obtain ⟨x, dx, n, rfl, hx, k⟩ := h
  refine ⟨_, (pss_cons (ps_expr (pe_cm (ok_Thing_init G) (hr.mono (by omega)) (cin_Thing G) tkd (pe_cf rfl G.g_Thing) (pa_cons (pv 0) (pa_cons (pv 1) pa_nil))))
      (pss_one (ps_fld (pv 0) (pe_lst pa_nil) rfl))), ?_⟩
  walk_at "w"
  refine ⟨x, _, dx, n, rfl, hx, G.cl_Door, G.n_Door_number, ?_⟩
  walk_at "w"
  refine ⟨by rw [sizeLine_eq]; decide, fun p hp => ?_⟩
  have np : x ≠ p := fun z => by rw [← z, upd_same] at hp; cases hp
  have hp0 : H p = none := by rw [upd_ne np.symm] at hp; exact hp
  walk_at "w"
  refine ⟨_, _, _, _, rfl, (upd_ne np).trans upd_same, G.cl_Door, G.n_Door_waiting, by show (1 : Nat) < 1000; decide, ?_⟩
  walk_at "w"
  exact k _ p hp0 (by rw [upd_same]; rfl) ((upd_ne np.symm).trans upd_same) (fun b o hb e => by rw [upd_ne hb, upd_ne (ne_of_none e hp0), upd_ne hb]; exact e)
def sp_Post_init (K : PySem.W.Frag) : Sp := fun vs H Q E => ∃ x dx n nm, vs = [.ref x, nV n, .str nm] ∧ H x = some (.ins (He.ga K "Post") dx []) ∧ ∀ H', H' x = some (.ins (He.ga K "Post") dx [(("number" : Str), nV n), (("name" : Str), V.str nm), (("runs" : Str), V.bl true)]) → (∀ b o, b ≠ x → H b = some o → H' b = some o) → Q .non H'
omit G in
theorem sc_Post_init : FnScope ["self", "number", "name"] ["self", "number", "name"] (defScope s_Post_init) := ⟨rfl, rfl, rfl, by decide +kernel, rfl, by decide +kernel, by decide +kernel⟩
theorem ok_Post_init : MkR P w K mg base 2 (He.ga K "Post") (sp_Post_init K) := by
  refine mkI (k := 1) G.k_Post G.f_Post_init sc_Post_init (fun _ _ _ _ _ _ us hl => match us, hl with | [_, _, _], _ => rfl) (fun vs H Q E h => by repeat (first | (obtain ⟨e, _⟩ := h; cases e; rfl; done) | obtain ⟨_, h⟩ := h)) (fun cdv A outer s H vs Q E hr h => ?_)
  have S := sc_Post_init
  obtain ⟨x, dx, n, nm, rfl, hx, k⟩ := h
  refine ⟨_, (pss_cons (ps_expr (pe_cm (ok_Thing_init G) (hr.mono (by omega)) (cin_Thing G) tkd (pe_cf rfl G.g_Thing) (pa_cons (pv 0) (pa_cons (pv 1) pa_nil))))
      (pss_cons (ps_fld (pv 0) (pv 2) rfl)
      (pss_one (ps_fld (pv 0) pe_bl rfl)))), ?_⟩
  walk_at "w"
  refine ⟨x, _, dx, n, rfl, hx, G.cl_Post, G.n_Post_number, ?_⟩
  walk_at "w"
  refine ⟨_, _, _, _, rfl, upd_same, G.cl_Post, G.n_Post_name, by show (1 : Nat) < 1000; decide, ?_⟩
  walk_at "w"
  refine ⟨_, _, _, _, rfl, upd_same, G.cl_Post, G.n_Post_runs, by show (2 : Nat) < 1000; decide, ?_⟩
  walk_at "w"
  exact k _ (by rw [upd_same]; rfl) (fun b o hb e => by rw [upd_ne hb, upd_ne hb, upd_ne hb]; exact e)
omit G in
theorem sc_Cell_kind : FnScope ["self"] ["self"] (defScope s_Cell_kind) := ⟨rfl, rfl, rfl, by decide +kernel, rfl, by decide +kernel, by decide +kernel⟩
theorem ok_Cell_kind : FnR P w K mg base (L2.CX P w) 1 (He.ma K (He.ga K "Cell") "kind") (sp_c1 (.str "cell")) := by
  refine mkF (k := 0) G.f_Cell_kind sc_Cell_kind (fun _ _ _ _ _ _ us hl => match us, hl with | [_], _ => rfl) (fun vs H Q E h => by repeat (first | (obtain ⟨e, _⟩ := h; cases e; rfl; done) | obtain ⟨_, h⟩ := h)) (fun cdv A outer s H vs Q E hr h => ?_)
  have S := sc_Cell_kind
  obtain ⟨a, rfl, k⟩ := h
  refine ⟨_, (pss_one (ps_ret pe_str)), ?_⟩
  walk_at "w"
  exact k
omit G in
theorem sc_Line_kind : FnScope ["self"] ["self"] (defScope s_Line_kind) := ⟨rfl, rfl, rfl, by decide +kernel, rfl, by decide +kernel, by decide +kernel⟩
theorem ok_Line_kind : FnR P w K mg base (L2.CX P w) 1 (He.ma K (He.ga K "Line") "kind") (sp_c1 (.str "line")) := by
  refine mkF (k := 0) G.f_Line_kind sc_Line_kind (fun _ _ _ _ _ _ us hl => match us, hl with | [_], _ => rfl) (fun vs H Q E h => by repeat (first | (obtain ⟨e, _⟩ := h; cases e; rfl; done) | obtain ⟨_, h⟩ := h)) (fun cdv A outer s H vs Q E hr h => ?_)
  have S := sc_Line_kind
  obtain ⟨a, rfl, k⟩ := h
  refine ⟨_, (pss_one (ps_ret pe_str)), ?_⟩
  walk_at "w"
  exact k
omit G in
theorem sc_Door_kind : FnScope ["self"] ["self"] (defScope s_Door_kind) := ⟨rfl, rfl, rfl, by decide +kernel, rfl, by decide +kernel, by decide +kernel⟩
theorem ok_Door_kind : FnR P w K mg base (L2.CX P w) 1 (He.ma K (He.ga K "Door") "kind") (sp_c1 (.str "door")) := by
  refine mkF (k := 0) G.f_Door_kind sc_Door_kind (fun _ _ _ _ _ _ us hl => match us, hl with | [_], _ => rfl) (fun vs H Q E h => by repeat (first | (obtain ⟨e, _⟩ := h; cases e; rfl; done) | obtain ⟨_, h⟩ := h)) (fun cdv A outer s H vs Q E hr h => ?_)
  have S := sc_Door_kind
  obtain ⟨a, rfl, k⟩ := h
  refine ⟨_, (pss_one (ps_ret pe_str)), ?_⟩
  walk_at "w"
  exact k
omit G in
theorem sc_Post_kind : FnScope ["self"] ["self"] (defScope s_Post_kind) := ⟨rfl, rfl, rfl, by decide +kernel, rfl, by decide +kernel, by decide +kernel⟩
theorem ok_Post_kind : FnR P w K mg base (L2.CX P w) 1 (He.ma K (He.ga K "Post") "kind") (sp_c1 (.str "post")) := by
  refine mkF (k := 0) G.f_Post_kind sc_Post_kind (fun _ _ _ _ _ _ us hl => match us, hl with | [_], _ => rfl) (fun vs H Q E h => by repeat (first | (obtain ⟨e, _⟩ := h; cases e; rfl; done) | obtain ⟨_, h⟩ := h)) (fun cdv A outer s H vs Q E hr h => ?_)
  have S := sc_Post_kind
  obtain ⟨a, rfl, k⟩ := h
  refine ⟨_, (pss_one (ps_ret pe_str)), ?_⟩
  walk_at "w"
  exact k
omit G in
theorem sc_Cell_fits : FnScope ["self"] ["self"] (defScope s_Cell_fits) := ⟨rfl, rfl, rfl, by decide +kernel, rfl, by decide +kernel, by decide +kernel⟩
theorem ok_Cell_fits : FnR P w K mg base (L2.CX P w) 1 (He.ma K (He.ga K "Cell") "fits") (sp_c1 (.int 3)) := by
  refine mkF (k := 0) G.f_Cell_fits sc_Cell_fits (fun _ _ _ _ _ _ us hl => match us, hl with | [_], _ => rfl) (fun vs H Q E h => by repeat (first | (obtain ⟨e, _⟩ := h; cases e; rfl; done) | obtain ⟨_, h⟩ := h)) (fun cdv A outer s H vs Q E hr h => ?_)
  have S := sc_Cell_fits
  obtain ⟨a, rfl, k⟩ := h
  refine ⟨_, (pss_one (ps_ret (pe_op op_or (pe_ci rfl G.c_LOOK) (pe_ci rfl G.c_PUT)))), ?_⟩
  walk_at "w"
  exact k
omit G in
theorem sc_Line_fits : FnScope ["self"] ["self"] (defScope s_Line_fits) := ⟨rfl, rfl, rfl, by decide +kernel, rfl, by decide +kernel, by decide +kernel⟩
theorem ok_Line_fits : FnR P w K mg base (L2.CX P w) 1 (He.ma K (He.ga K "Line") "fits") (sp_c1 (.int 3)) := by
  refine mkF (k := 0) G.f_Line_fits sc_Line_fits (fun _ _ _ _ _ _ us hl => match us, hl with | [_], _ => rfl) (fun vs H Q E h => by repeat (first | (obtain ⟨e, _⟩ := h; cases e; rfl; done) | obtain ⟨_, h⟩ := h)) (fun cdv A outer s H vs Q E hr h => ?_)
  have S := sc_Line_fits
  obtain ⟨a, rfl, k⟩ := h
  refine ⟨_, (pss_one (ps_ret (pe_op op_or (pe_ci rfl G.c_LOOK) (pe_ci rfl G.c_PUT)))), ?_⟩
  walk_at "w"
  exact k
omit G in
theorem sc_Door_fits : FnScope ["self"] ["self"] (defScope s_Door_fits) := ⟨rfl, rfl, rfl, by decide +kernel, rfl, by decide +kernel, by decide +kernel⟩
theorem ok_Door_fits : FnR P w K mg base (L2.CX P w) 1 (He.ma K (He.ga K "Door") "fits") (sp_c1 (.int 13)) := by
  refine mkF (k := 0) G.f_Door_fits sc_Door_fits (fun _ _ _ _ _ _ us hl => match us, hl with | [_], _ => rfl) (fun vs H Q E h => by repeat (first | (obtain ⟨e, _⟩ := h; cases e; rfl; done) | obtain ⟨_, h⟩ := h)) (fun cdv A outer s H vs Q E hr h => ?_)
  have S := sc_Door_fits
  obtain ⟨a, rfl, k⟩ := h
  refine ⟨_, (pss_one (ps_ret (pe_op op_or (pe_op op_or (pe_ci rfl G.c_LOOK) (pe_ci rfl G.c_SEND)) (pe_ci rfl G.c_HEAR)))), ?_⟩
  walk_at "w"
  exact k
omit G in
theorem sc_Post_fits : FnScope ["self"] ["self"] (defScope s_Post_fits) := ⟨rfl, rfl, rfl, by decide +kernel, rfl, by decide +kernel, by decide +kernel⟩
theorem ok_Post_fits : FnR P w K mg base (L2.CX P w) 1 (He.ma K (He.ga K "Post") "fits") (sp_c1 (.int 17)) := by
  refine mkF (k := 0) G.f_Post_fits sc_Post_fits (fun _ _ _ _ _ _ us hl => match us, hl with | [_], _ => rfl) (fun vs H Q E h => by repeat (first | (obtain ⟨e, _⟩ := h; cases e; rfl; done) | obtain ⟨_, h⟩ := h)) (fun cdv A outer s H vs Q E hr h => ?_)
  have S := sc_Post_fits
  obtain ⟨a, rfl, k⟩ := h
  refine ⟨_, (pss_one (ps_ret (pe_op op_or (pe_ci rfl G.c_LOOK) (pe_ci rfl G.c_END)))), ?_⟩
  walk_at "w"
  exact k
/-- the deeds that are told here -/
def isD (s : Str) : Prop := s = "end" ∨ s = "state"
def sp_nd (v : Str → V) : Sp := fun vs H Q E => ∃ a s, vs = [.ref a, .str s] ∧ isD s ∧ Q (v s) H
omit G in
theorem sc_Cell_needed : FnScope ["self", "deed"] ["self", "deed"] (defScope s_Cell_needed) := ⟨rfl, rfl, rfl, by decide +kernel, rfl, by decide +kernel, by decide +kernel⟩
theorem ok_Cell_needed : FnR P w K mg base (L2.CX P w) 1 (He.ma K (He.ga K "Cell") "needed") (sp_nd fun _ => .non) := by
  refine mkF (k := 0) G.f_Cell_needed sc_Cell_needed (fun _ _ _ _ _ _ us hl => match us, hl with | [_, _], _ => rfl) (fun vs H Q E h => by repeat (first | (obtain ⟨e, _⟩ := h; cases e; rfl; done) | obtain ⟨_, h⟩ := h)) (fun cdv A outer s H vs Q E hr h => ?_)
  have S := sc_Cell_needed
  obtain ⟨a, s1, rfl, hs, k⟩ := h
  refine ⟨_, (pss_cons (ps_if (pt_cmpR op_eq (pv 1) pe_str (nomark _)) (pss_one (ps_ret (pe_ci rfl G.c_LOOK))) pss_nil)
      (pss_cons (ps_if (pt_cmpR op_eq (pv 1) pe_str (nomark _)) (pss_one (ps_ret (pe_ci rfl G.c_PUT))) pss_nil)
      (pss_cons (ps_if (pt_cmpR op_eq (pv 1) pe_str (nomark _)) (pss_one (ps_ret (pe_op op_or (pe_ci rfl G.c_LOOK) (pe_ci rfl G.c_PUT)))) pss_nil)
      (pss_one (ps_ret pe_non))))), ?_⟩
  rcases hs with rfl | rfl
  · walk_at "w"
    exact k
  · walk_at "w"
    exact k
omit G in
theorem sc_Line_needed : FnScope ["self", "deed"] ["self", "deed"] (defScope s_Line_needed) := ⟨rfl, rfl, rfl, by decide +kernel, rfl, by decide +kernel, by decide +kernel⟩
theorem ok_Line_needed : FnR P w K mg base (L2.CX P w) 1 (He.ma K (He.ga K "Line") "needed") (sp_nd fun _ => .non) := by
  refine mkF (k := 0) G.f_Line_needed sc_Line_needed (fun _ _ _ _ _ _ us hl => match us, hl with | [_, _], _ => rfl) (fun vs H Q E h => by repeat (first | (obtain ⟨e, _⟩ := h; cases e; rfl; done) | obtain ⟨_, h⟩ := h)) (fun cdv A outer s H vs Q E hr h => ?_)
  have S := sc_Line_needed
  obtain ⟨a, s1, rfl, hs, k⟩ := h
  refine ⟨_, (pss_cons (ps_if (pt_cmpR op_eq (pv 1) pe_str (nomark _)) (pss_one (ps_ret (pe_ci rfl G.c_PUT))) pss_nil)
      (pss_cons (ps_if (pt_cmpR op_eq (pv 1) pe_str (nomark _)) (pss_one (ps_ret (pe_op op_or (pe_ci rfl G.c_LOOK) (pe_ci rfl G.c_PUT)))) pss_nil)
      (pss_cons (ps_if (pt_cmpR op_eq (pv 1) pe_str (nomark _)) (pss_one (ps_ret (pe_ci rfl G.c_LOOK))) pss_nil)
      (pss_one (ps_ret pe_non))))), ?_⟩
  rcases hs with rfl | rfl
  · walk_at "w"
    exact k
  · walk_at "w"
    exact k
omit G in
theorem sc_Door_needed : FnScope ["self", "deed"] ["self", "deed"] (defScope s_Door_needed) := ⟨rfl, rfl, rfl, by decide +kernel, rfl, by decide +kernel, by decide +kernel⟩
theorem ok_Door_needed : FnR P w K mg base (L2.CX P w) 1 (He.ma K (He.ga K "Door") "needed") (sp_nd fun _ => .non) := by
  refine mkF (k := 0) G.f_Door_needed sc_Door_needed (fun _ _ _ _ _ _ us hl => match us, hl with | [_, _], _ => rfl) (fun vs H Q E h => by repeat (first | (obtain ⟨e, _⟩ := h; cases e; rfl; done) | obtain ⟨_, h⟩ := h)) (fun cdv A outer s H vs Q E hr h => ?_)
  have S := sc_Door_needed
  obtain ⟨a, s1, rfl, hs, k⟩ := h
  refine ⟨_, (pss_cons (ps_if (pt_cmpR op_eq (pv 1) pe_str (nomark _)) (pss_one (ps_ret (pe_ci rfl G.c_LOOK))) pss_nil)
      (pss_cons (ps_if (pt_cmpR op_eq (pv 1) pe_str (nomark _)) (pss_one (ps_ret (pe_ci rfl G.c_SEND))) pss_nil)
      (pss_cons (ps_if (pt_cmpR op_eq (pv 1) pe_str (nomark _)) (pss_one (ps_ret (pe_ci rfl G.c_HEAR))) pss_nil)
      (pss_one (ps_ret pe_non))))), ?_⟩
  rcases hs with rfl | rfl
  · walk_at "w"
    exact k
  · walk_at "w"
    exact k
def postN (s : Str) : Nat := if s = "end" then 16 else 1
omit G in
theorem sc_Post_needed : FnScope ["self", "deed"] ["self", "deed"] (defScope s_Post_needed) := ⟨rfl, rfl, rfl, by decide +kernel, rfl, by decide +kernel, by decide +kernel⟩
theorem ok_Post_needed : FnR P w K mg base (L2.CX P w) 1 (He.ma K (He.ga K "Post") "needed") (sp_nd fun s => nV (postN s)) := by
  refine mkF (k := 0) G.f_Post_needed sc_Post_needed (fun _ _ _ _ _ _ us hl => match us, hl with | [_, _], _ => rfl) (fun vs H Q E h => by repeat (first | (obtain ⟨e, _⟩ := h; cases e; rfl; done) | obtain ⟨_, h⟩ := h)) (fun cdv A outer s H vs Q E hr h => ?_)
  have S := sc_Post_needed
  obtain ⟨a, s1, rfl, hs, k⟩ := h
  refine ⟨_, (pss_cons (ps_if (pt_cmpR op_eq (pv 1) pe_str (nomark _)) (pss_one (ps_ret (pe_ci rfl G.c_LOOK))) pss_nil)
      (pss_cons (ps_if (pt_cmpR op_eq (pv 1) pe_str (nomark _)) (pss_one (ps_ret (pe_ci rfl G.c_END))) pss_nil)
      (pss_one (ps_ret pe_non)))), ?_⟩
  rcases hs with rfl | rfl
  · walk_at "w"
    exact k
  · walk_at "w"
    exact k
end
end Pk
end
/-! PkF13 -/
section
set_option maxHeartbeats 4000000
namespace Pk
open PySem PySem.Spec PyProof.Rows L2
local macro_rules | `(tactic| walk_at "c") => `(tactic| first | assumption | omega | exact rfl | (intro z; cases z; done) | (simp only [nV, V.int.injEq, V.str.injEq]; first | assumption | omega))
local macro_rules | `(tactic| walk_at "fld") => `(tactic| first
  | assumption
  | exact fld_k_tasks (by assumption) (by assumption) | exact fld_k_tree (by assumption) (by assumption) | exact fld_k_things (by assumption) (by assumption) | exact fld_ta_known (by assumption) (by assumption)
  | exact fld_t_rows (by assumption) (by assumption) (by assumption) | exact fld_t_run1 (by assumption) (by assumption) (by assumption) (by assumption) | exact fld_t_runs (by assumption) (by assumption) (by assumption) | exact fld_t_maker (by assumption) (by assumption) (by assumption) | exact fld_tr_rows (by assumption) (by assumption) | exact fld_tr_rb (by assumption) (by assumption) | exact fld_tr_ever (by assumption) (by assumption)
  | exact fld_h_number (by assumption) (by assumption) | exact fld_h_thing (by assumption) (by assumption) | exact fld_h_rights (by assumption) (by assumption) | exact fld_h_giver (by assumption) (by assumption) | exact fld_h_holder (by assumption) (by assumption))
local macro_rules | `(tactic| walk_at "get") => `(tactic| first
  | assumption
  | exact get_kn1 (by assumption) (by assumption) | exact get_kn0 (by assumption) (by assumption) | exact get_rw1 (by assumption) (by assumption) | exact get_rw0 (by assumption) (by assumption)
  | exact get_rb1 (by assumption) (by assumption) | exact get_rb0 (by assumption) (by assumption) | exact get_th1 (by assumption) (by assumption) | exact get_th0 (by assumption) (by assumption))
local macro_rules | `(tactic| walk_at "ins") => `(tactic| first | exact insTa (by assumption) rfl | exact insTr (by assumption) rfl)
local macro_rules | `(tactic| walk_at "s") => `(tactic| first
  | refine ⟨_, rfl, ?_⟩
  | refine ⟨rfl, ?_⟩
  | refine zI fun _ => ?_
  | with_reducible refine iteF ?_ | with_reducible refine iteT ?_
  | ((with_reducible refine iteDy ?_ ?_); focus (walk_at "c"; done)) | ((with_reducible refine iteDn ?_ ?_); focus (walk_at "c"; done)) | ((with_reducible refine iteNy ?_ ?_); focus (walk_at "c"; done)) | ((with_reducible refine iteNn ?_ ?_); focus (walk_at "c"; done))
  | refine fldI (by walk_at "fld") ?_
  | refine getI (by walk_at "get") ?_ | refine getS (by walk_at "get") ?_
  | refine ⟨by walk_at "ins", ?_⟩
  | refine ⟨_, _, _, _, true, rfl, .ty _, .base (.str _), kit_ty (by decide +kernel), ?_⟩
  | refine ⟨_, _, _, _, true, rfl, .ty _, .base (.int _), kit_ty (by decide +kernel), ?_⟩
  | refine ⟨_, _, _, _, false, rfl, .ty _, .base (.int _), kit_ty (by decide +kernel), ?_⟩
  | refine ⟨_, _, rfl, rfl, ?_⟩
  | refine ⟨_, _, rfl, rfl, trivial, ?_⟩)
local macro_rules | `(tactic| walk_at "w") => `(tactic| repeat (walk_at "s"))
section
variable {P : Program} {w : World} {K : PySem.W.Frag} {mg : Str → Option Value} {base : Heap} (G : Gx K mg base)
include G
def sp_needsN (K : PySem.W.Frag) (C : Addr) : Sp := fun vs H Q E => ∃ a dx fs s, vs = [.ref a, .str s] ∧ H a = some (.ins C dx fs) ∧ fs.lookup ("needed" : Str) = none ∧ isD s ∧ Er K H E
omit G in
theorem sc_Thing_needs : FnScope ["self", "deed", "found"] ["self", "deed"] (defScope s_Thing_needs) := ⟨rfl, rfl, rfl, by decide +kernel, rfl, by decide +kernel, by decide +kernel⟩
theorem ok_Cell_needs : FnR P w K mg base (L2.CX P w) 10 (He.ma K (He.ga K "Cell") "needs") (sp_needsN K (He.ga K "Cell")) := by
  refine mkF (k := 9) G.f_Cell_needs sc_Thing_needs (fun _ _ _ _ _ _ us hl => match us, hl with | [_, _], _ => rfl) (fun vs H Q E h => by repeat (first | (obtain ⟨e, _⟩ := h; cases e; rfl; done) | obtain ⟨_, h⟩ := h)) (fun cdv A outer s H vs Q E hr h => ?_)
  have S := sc_Thing_needs
  obtain ⟨a, dx, fs, s1, rfl, ha, hl, hs, er⟩ := h
  refine ⟨_, (pss_cons (ps_if (pt_cmpR op_eq (pv 1) pe_str (nomark _)) (pss_one (ps_ret pe_int)) pss_nil)
      (pss_cons (ps_set (i := 2) S.nd rfl (by first | exact Or.inl rfl | exact Or.inr rfl) (pe_d (k := 9) (hr.mono (by omega)) tkd (pv 0) (pa_cons (pv 1) pa_nil)))
      (pss_cons (ps_if (pt_cmpR op_isN (pv 2) pe_non (nomark _)) (pss_one (ps_rI (oex_NoDeed G) (ok_NoDeed_init G).choose_spec.1 (ok_NoDeed_init G).choose_spec.2 (hr.mono (by omega)) tkd rfl G.g_NoDeed (pv 1) rfl)) pss_nil)
      (pss_one (ps_ret (pv 2)))))), ?_⟩
  have hk : ¬ V.str s1 = V.str "kind" := by rcases hs with rfl | rfl <;> decide
  walk_at "w"
  refine ⟨a, _, dx, fs, _, _, rfl, ha, hl, G.cl_Cell, G.m_Cell_needed, FnR.lift (ok_Cell_needed G) (by decide), ?_⟩
  walk_at "w"
  refine ⟨a, s1, rfl, hs, ?_⟩
  walk_at "w"
  exact fun d H' al => er _ _ _ (xc G.e_NoDeed) al
theorem ok_Line_needs : FnR P w K mg base (L2.CX P w) 10 (He.ma K (He.ga K "Line") "needs") (sp_needsN K (He.ga K "Line")) := by
  refine mkF (k := 9) G.f_Line_needs sc_Thing_needs (fun _ _ _ _ _ _ us hl => match us, hl with | [_, _], _ => rfl) (fun vs H Q E h => by repeat (first | (obtain ⟨e, _⟩ := h; cases e; rfl; done) | obtain ⟨_, h⟩ := h)) (fun cdv A outer s H vs Q E hr h => ?_)
  have S := sc_Thing_needs
  obtain ⟨a, dx, fs, s1, rfl, ha, hl, hs, er⟩ := h
  refine ⟨_, (pss_cons (ps_if (pt_cmpR op_eq (pv 1) pe_str (nomark _)) (pss_one (ps_ret pe_int)) pss_nil)
      (pss_cons (ps_set (i := 2) S.nd rfl (by first | exact Or.inl rfl | exact Or.inr rfl) (pe_d (k := 9) (hr.mono (by omega)) tkd (pv 0) (pa_cons (pv 1) pa_nil)))
      (pss_cons (ps_if (pt_cmpR op_isN (pv 2) pe_non (nomark _)) (pss_one (ps_rI (oex_NoDeed G) (ok_NoDeed_init G).choose_spec.1 (ok_NoDeed_init G).choose_spec.2 (hr.mono (by omega)) tkd rfl G.g_NoDeed (pv 1) rfl)) pss_nil)
      (pss_one (ps_ret (pv 2)))))), ?_⟩
  have hk : ¬ V.str s1 = V.str "kind" := by rcases hs with rfl | rfl <;> decide
  walk_at "w"
  refine ⟨a, _, dx, fs, _, _, rfl, ha, hl, G.cl_Line, G.m_Line_needed, FnR.lift (ok_Line_needed G) (by decide), ?_⟩
  walk_at "w"
  refine ⟨a, s1, rfl, hs, ?_⟩
  walk_at "w"
  exact fun d H' al => er _ _ _ (xc G.e_NoDeed) al
theorem ok_Door_needs : FnR P w K mg base (L2.CX P w) 10 (He.ma K (He.ga K "Door") "needs") (sp_needsN K (He.ga K "Door")) := by
  refine mkF (k := 9) G.f_Door_needs sc_Thing_needs (fun _ _ _ _ _ _ us hl => match us, hl with | [_, _], _ => rfl) (fun vs H Q E h => by repeat (first | (obtain ⟨e, _⟩ := h; cases e; rfl; done) | obtain ⟨_, h⟩ := h)) (fun cdv A outer s H vs Q E hr h => ?_)
  have S := sc_Thing_needs
  obtain ⟨a, dx, fs, s1, rfl, ha, hl, hs, er⟩ := h
  refine ⟨_, (pss_cons (ps_if (pt_cmpR op_eq (pv 1) pe_str (nomark _)) (pss_one (ps_ret pe_int)) pss_nil)
      (pss_cons (ps_set (i := 2) S.nd rfl (by first | exact Or.inl rfl | exact Or.inr rfl) (pe_d (k := 9) (hr.mono (by omega)) tkd (pv 0) (pa_cons (pv 1) pa_nil)))
      (pss_cons (ps_if (pt_cmpR op_isN (pv 2) pe_non (nomark _)) (pss_one (ps_rI (oex_NoDeed G) (ok_NoDeed_init G).choose_spec.1 (ok_NoDeed_init G).choose_spec.2 (hr.mono (by omega)) tkd rfl G.g_NoDeed (pv 1) rfl)) pss_nil)
      (pss_one (ps_ret (pv 2)))))), ?_⟩
  have hk : ¬ V.str s1 = V.str "kind" := by rcases hs with rfl | rfl <;> decide
  walk_at "w"
  refine ⟨a, _, dx, fs, _, _, rfl, ha, hl, G.cl_Door, G.m_Door_needed, FnR.lift (ok_Door_needed G) (by decide), ?_⟩
  walk_at "w"
  refine ⟨a, s1, rfl, hs, ?_⟩
  walk_at "w"
  exact fun d H' al => er _ _ _ (xc G.e_NoDeed) al
def sp_needsP (K : PySem.W.Frag) : Sp := fun vs H Q E => ∃ a dx fs s, vs = [.ref a, .str s] ∧ H a = some (.ins (He.ga K "Post") dx fs) ∧ fs.lookup ("needed" : Str) = none ∧ isD s ∧ Q (nV (postN s)) H
theorem ok_Post_needs : FnR P w K mg base (L2.CX P w) 10 (He.ma K (He.ga K "Post") "needs") (sp_needsP K) := by
  refine mkF (k := 9) G.f_Post_needs sc_Thing_needs (fun _ _ _ _ _ _ us hl => match us, hl with | [_, _], _ => rfl) (fun vs H Q E h => by repeat (first | (obtain ⟨e, _⟩ := h; cases e; rfl; done) | obtain ⟨_, h⟩ := h)) (fun cdv A outer s H vs Q E hr h => ?_)
  have S := sc_Thing_needs
  obtain ⟨a, dx, fs, s1, rfl, ha, hl, hs, er⟩ := h
  refine ⟨_, (pss_cons (ps_if (pt_cmpR op_eq (pv 1) pe_str (nomark _)) (pss_one (ps_ret pe_int)) pss_nil)
      (pss_cons (ps_set (i := 2) S.nd rfl (by first | exact Or.inl rfl | exact Or.inr rfl) (pe_d (k := 9) (hr.mono (by omega)) tkd (pv 0) (pa_cons (pv 1) pa_nil)))
      (pss_cons (ps_if (pt_cmpR op_isN (pv 2) pe_non (nomark _)) (pss_one (ps_rI (oex_NoDeed G) (ok_NoDeed_init G).choose_spec.1 (ok_NoDeed_init G).choose_spec.2 (hr.mono (by omega)) tkd rfl G.g_NoDeed (pv 1) rfl)) pss_nil)
      (pss_one (ps_ret (pv 2)))))), ?_⟩
  have hk : ¬ V.str s1 = V.str "kind" := by rcases hs with rfl | rfl <;> decide
  walk_at "w"
  refine ⟨a, _, dx, fs, _, _, rfl, ha, hl, G.cl_Post, G.m_Post_needed, FnR.lift (ok_Post_needed G) (by decide), ?_⟩
  walk_at "w"
  refine ⟨a, s1, rfl, hs, ?_⟩
  walk_at "w"
  exact er
def sp_pdone (K : PySem.W.Frag) : Sp := fun vs H Q E => ∃ a dx n nm r s, vs = [.ref a, .str s, .int 0] ∧ H a = some (.ins (He.ga K "Post") dx (thF n (.post nm r) 0)) ∧ isD s ∧ (s = "state" → ∀ v, Q v H) ∧ (s = "end" → Q (.str nm) (L2.upd H a (.ins (He.ga K "Post") dx (thF n (.post nm false) 0))))
omit G in
theorem sc_Post_done : FnScope ["self", "deed", "value"] ["self", "deed", "value"] (defScope s_Post_done) := ⟨rfl, rfl, rfl, by decide +kernel, rfl, by decide +kernel, by decide +kernel⟩
theorem ok_Post_done : FnR P w K mg base (L2.CX P w) 1 (He.ma K (He.ga K "Post") "done") (sp_pdone K) := by
  refine mkF (k := 0) G.f_Post_done sc_Post_done (fun _ _ _ _ _ _ us hl => match us, hl with | [_, _, _], _ => rfl) (fun vs H Q E h => by repeat (first | (obtain ⟨e, _⟩ := h; cases e; rfl; done) | obtain ⟨_, h⟩ := h)) (fun cdv A outer s H vs Q E hr h => ?_)
  have S := sc_Post_done
  obtain ⟨a, dx, n, nm, r, s1, rfl, ha, hs, k1, k2⟩ := h
  have f1 : FldAt K H (.ref a) "runs" (.bl r) := ⟨_, _, dx, _, rfl, ha, G.cl_Post, G.n_Post_runs, lkS (by decide +kernel) (lkS (by decide +kernel) lk0)⟩
  refine ⟨_, (pss_cons (ps_if (pt_cmpR op_eq (pv 1) pe_str (nomark _)) (pss_cons (ps_if (pt_val (pe_fd (pv 0))) (pss_one (ps_ret pe_str)) pss_nil)
      (pss_one (ps_ret pe_str))) pss_nil)
      (pss_cons (ps_fld (pv 0) pe_bl rfl)
      (pss_one (ps_ret (pe_fd (pv 0)))))), ?_⟩
  rcases hs with rfl | rfl
  · walk_at "w"
    refine ⟨_, _, _, _, rfl, ha, G.cl_Post, G.n_Post_runs, by show (3 : Nat) < 1000; decide, ?_⟩
    have f2 : FldAt K (L2.upd H a (.ins (He.ga K "Post") dx (thF n (.post nm false) 0))) (.ref a) "name" (.str nm) := ⟨_, _, dx, _, rfl, upd_same, G.cl_Post, G.n_Post_name, lkS (by decide +kernel) lk0⟩
    have e0 : putF "runs" (V.bl false) (thF n (.post nm r) 0) = thF n (.post nm false) 0 := rfl
    rw [e0]
    walk_at "w"
    exact k2 rfl
  · walk_at "w"
    cases r with
    | true =>
      walk_at "w"
      exact k1 rfl _
    | false =>
      walk_at "w"
      exact k1 rfl _
omit G in
theorem sc_Thing_did : FnScope ["self", "deed", "value"] ["self", "deed", "value"] (defScope s_Thing_did) := ⟨rfl, rfl, rfl, by decide +kernel, rfl, by decide +kernel, by decide +kernel⟩
theorem ok_Post_did : FnR P w K mg base (L2.CX P w) 10 (He.ma K (He.ga K "Post") "did") (sp_pdone K) := by
  refine mkF (k := 9) G.f_Post_did sc_Thing_did (fun _ _ _ _ _ _ us hl => match us, hl with | [_, _, _], _ => rfl) (fun vs H Q E h => by repeat (first | (obtain ⟨e, _⟩ := h; cases e; rfl; done) | obtain ⟨_, h⟩ := h)) (fun cdv A outer s H vs Q E hr h => ?_)
  have S := sc_Thing_did
  obtain ⟨a, dx, n, nm, r, s1, rfl, ha, hs, k1, k2⟩ := h
  refine ⟨_, (pss_cons (ps_if (pt_cmpR op_eq (pv 1) pe_str (nomark _)) (pss_one (ps_ret (pe_d0 (k := 9) (hr.mono (by omega)) tkd (pv 0)))) pss_nil)
      (pss_one (ps_ret (pe_d (k := 9) (hr.mono (by omega)) tkd (pv 0) (pa_cons (pv 1) (pa_cons (pv 2) pa_nil)))))), ?_⟩
  have hk : ¬ V.str s1 = V.str "kind" := by rcases hs with rfl | rfl <;> decide
  walk_at "w"
  refine ⟨a, _, dx, _, _, _, rfl, ha, by rfl, G.cl_Post, G.m_Post_done, FnR.lift (ok_Post_done G) (by decide), ?_⟩
  walk_at "w"
  exact ⟨a, dx, n, nm, r, s1, rfl, ha, hs, k1, k2⟩
def sp_ptold (K : PySem.W.Frag) : Sp := fun vs H Q E => ∃ a dx n nm r, vs = [.ref a] ∧ H a = some (.ins (He.ga K "Post") dx (thF n (.post nm r) 0)) ∧ ∀ p, H p = none → Q (.ref p) (L2.upd H p (.tup [.str "post", .str nm, .bl r]))
omit G in
theorem sc_Post_told : FnScope ["self"] ["self"] (defScope s_Post_told) := ⟨rfl, rfl, rfl, by decide +kernel, rfl, by decide +kernel, by decide +kernel⟩
theorem ok_Post_told : FnR P w K mg base (L2.CX P w) 2 (He.ma K (He.ga K "Post") "told") (sp_ptold K) := by
  refine mkF (k := 1) G.f_Post_told sc_Post_told (fun _ _ _ _ _ _ us hl => match us, hl with | [_], _ => rfl) (fun vs H Q E h => by repeat (first | (obtain ⟨e, _⟩ := h; cases e; rfl; done) | obtain ⟨_, h⟩ := h)) (fun cdv A outer s H vs Q E hr h => ?_)
  have S := sc_Post_told
  obtain ⟨a, dx, n, nm, r, rfl, ha, k⟩ := h
  have f1 : FldAt K H (.ref a) "runs" (.bl r) := ⟨_, _, dx, _, rfl, ha, G.cl_Post, G.n_Post_runs, lkS (by decide +kernel) (lkS (by decide +kernel) lk0)⟩
  have f2 : FldAt K H (.ref a) "name" (.str nm) := ⟨_, _, dx, _, rfl, ha, G.cl_Post, G.n_Post_name, lkS (by decide +kernel) lk0⟩
  have i1 : InsC H (.ref a) (He.ga K "Post") "kind" := ⟨a, dx, _, rfl, ha, rfl⟩
  refine ⟨_, (pss_one (ps_ret (pe_tup (pa_cons (pe_m0 (ok_Post_kind G) (hr.mono (by omega)) G.cl_Post G.m_Post_kind tkd (pv 0)) (pa_cons (pe_fd (pv 0)) (pa_cons (pe_fd (pv 0)) pa_nil)))))), ?_⟩
  walk_at "w"
  refine ⟨i1, ?_⟩
  walk_at "w"
  refine ⟨sz3, fun p hp => ?_⟩
  exact k p hp
def sp_letters (K : PySem.W.Frag) : Sp := fun vs H Q E => ∃ a dx n p xs, vs = [.ref a] ∧ H a = some (.ins (He.ga K "Door") dx [(("number" : Str), nV n), (("waiting" : Str), V.ref p)]) ∧ H p = some (.lst xs) ∧ ∀ q, H q = none → Q (.ref q) (L2.upd H q (.lst xs))
omit G in
theorem sc_Door_letters : FnScope ["self"] ["self"] (defScope s_Door_letters) := ⟨rfl, rfl, rfl, by decide +kernel, rfl, by decide +kernel, by decide +kernel⟩
theorem ok_Door_letters : FnR P w K mg base (L2.CX P w) 1 (He.ma K (He.ga K "Door") "letters") (sp_letters K) := by
  refine mkF (k := 0) G.f_Door_letters sc_Door_letters (fun _ _ _ _ _ _ us hl => match us, hl with | [_], _ => rfl) (fun vs H Q E h => by repeat (first | (obtain ⟨e, _⟩ := h; cases e; rfl; done) | obtain ⟨_, h⟩ := h)) (fun cdv A outer s H vs Q E hr h => ?_)
  have S := sc_Door_letters
  obtain ⟨a, dx, n, p, xs, rfl, ha, hp, k⟩ := h
  have f1 : FldAt K H (.ref a) "waiting" (.ref p) := ⟨_, _, dx, _, rfl, ha, G.cl_Door, G.n_Door_waiting, lkS (by decide +kernel) lk0⟩
  refine ⟨_, (pss_one (ps_ret (pe_callTy call_list_of (by rfl) G.b_list (by decide +kernel) (pa_cons (pe_fd (pv 0)) pa_nil)))), ?_⟩
  walk_at "w"
  exact ⟨_, _, rfl, .inl (sqL_at hp), k⟩
def sp_ddone (K : PySem.W.Frag) : Sp := fun vs H Q E => ∃ a dx n p xs s v, vs = [.ref a, .str s, v] ∧ H a = some (.ins (He.ga K "Door") dx [(("number" : Str), nV n), (("waiting" : Str), V.ref p)]) ∧ H p = some (.lst xs) ∧
  ((s = "send" ∧ xs.length < 8 ∧ Q (nV (xs.length + 1)) (L2.upd H p (.lst (xs ++ [v])))) ∨ (s = "hear" ∧ ∃ x r, xs = x :: r ∧ xs.length ≤ 8 ∧ Q x (L2.upd H p (.lst r))))
omit G in
theorem sc_Door_done : FnScope ["self", "deed", "value"] ["self", "deed", "value"] (defScope s_Door_done) := ⟨rfl, rfl, rfl, by decide +kernel, rfl, by decide +kernel, by decide +kernel⟩
theorem ok_Door_done : FnR P w K mg base (L2.CX P w) 1 (He.ma K (He.ga K "Door") "done") (sp_ddone K) := by
  refine mkF (k := 0) G.f_Door_done sc_Door_done (fun _ _ _ _ _ _ us hl => match us, hl with | [_, _, _], _ => rfl) (fun vs H Q E h => by repeat (first | (obtain ⟨e, _⟩ := h; cases e; rfl; done) | obtain ⟨_, h⟩ := h)) (fun cdv A outer s H vs Q E hr h => ?_)
  have S := sc_Door_done
  obtain ⟨a, dx, n, p, xs, s1, v, rfl, ha, hp, hs⟩ := h
  have f1 : FldAt K H (.ref a) "waiting" (.ref p) := ⟨_, _, dx, _, rfl, ha, G.cl_Door, G.n_Door_waiting, lkS (by decide +kernel) lk0⟩
  have nap : a ≠ p := fun z => by rw [z, hp] at ha; cases ha
  refine ⟨_, (pss_cons (ps_if (pt_cmpR op_eq (pv 1) pe_str (nomark _)) (pss_one (ps_ret (pe_callB call_len (by rfl) G.b_len PySem.boot_len (pa_cons (pe_fd (pv 0)) pa_nil)))) pss_nil)
      (pss_cons (ps_if (pt_cmpR op_eq (pv 1) pe_str (nomark _)) (pss_cons (ps_if (pt_cmpR op_ge (pe_callB call_len (by rfl) G.b_len PySem.boot_len (pa_cons (pe_fd (pv 0)) pa_nil)) (pe_ci rfl G.c_MOST_WAITING_things) (nomark _)) (pss_one (ps_raise rfl tkd (pmk_own PySem.F.excBase_ValueError G.x_Full.1 G.g_Full G.x_Full.2.1 (raises_own G.x_Full.2.2.1 G.x_Full.2.2.2) rfl))) pss_nil)
      (pss_cons (ps_expr (pe_bm PySem.F.plainAttrs_list PySem.F.slot_list_append PySem.F.type_list_append mt_append (pe_fd (pv 0)) (pa_cons (pv 2) pa_nil)))
      (pss_one (ps_ret (pe_callB call_len (by rfl) G.b_len PySem.boot_len (pa_cons (pe_fd (pv 0)) pa_nil)))))) pss_nil)
      (pss_cons (ps_if (pt_cmpR op_eq (pe_callB call_len (by rfl) G.b_len PySem.boot_len (pa_cons (pe_fd (pv 0)) pa_nil)) pe_int (nomark _)) (pss_one (ps_raise rfl tkd (pmk_own PySem.F.excBase_ValueError G.x_Empty.1 G.g_Empty G.x_Empty.2.1 (raises_own G.x_Empty.2.2.1 G.x_Empty.2.2.2) rfl))) pss_nil)
      (pss_one (ps_ret (pe_bm PySem.F.plainAttrs_list PySem.F.slot_list_pop PySem.F.type_list_pop mt_popAt (pe_fd (pv 0)) (pa_cons pe_int pa_nil))))))), ?_⟩
  rcases hs with ⟨rfl, h8, k⟩ | ⟨rfl, x, r, rfl, h8, k⟩
  · walk_at "w"
    refine ⟨_, _, rfl, .inl ⟨_, sqL_at hp, rfl⟩, ?_⟩
    have h8' : ¬ (8 : Int) ≤ xs.length := by omega
    walk_at "w"
    refine ⟨tyL hp, ?_⟩
    walk_at "w"
    refine ⟨_, _, _, rfl, rfl, hp, by rw [sizeLine_eq]; omega, ?_⟩
    have f2 : FldAt K (L2.upd H p (.lst (xs ++ [v]))) (.ref a) "waiting" (.ref p) := ⟨_, _, dx, _, rfl, (upd_ne nap).trans ha, G.cl_Door, G.n_Door_waiting, lkS (by decide +kernel) lk0⟩
    walk_at "w"
    refine ⟨_, _, rfl, .inl ⟨_, sqL_at upd_same, rfl⟩, ?_⟩
    rw [List.length_append]
    exact k
  · walk_at "w"
    refine ⟨_, _, rfl, .inl ⟨_, sqL_at hp, rfl⟩, ?_⟩
    have h0 : ¬ V.int (((x :: r).length : Nat) : Int) = V.int 0 := fun z => by have := V.int.inj z; simp only [List.length_cons] at this; omega
    walk_at "w"
    refine ⟨tyL hp, ?_⟩
    walk_at "w"
    refine ⟨_, _, _, 0, x, rfl, rfl, hp, by decide, by decide, ?_, rfl, k⟩
    simp [seqIndex?]
theorem ok_Door_did : FnR P w K mg base (L2.CX P w) 10 (He.ma K (He.ga K "Door") "did") (sp_ddone K) := by
  refine mkF (k := 9) G.f_Door_did sc_Thing_did (fun _ _ _ _ _ _ us hl => match us, hl with | [_, _, _], _ => rfl) (fun vs H Q E h => by repeat (first | (obtain ⟨e, _⟩ := h; cases e; rfl; done) | obtain ⟨_, h⟩ := h)) (fun cdv A outer s H vs Q E hr h => ?_)
  have S := sc_Thing_did
  obtain ⟨a, dx, n, p, xs, s1, v, rfl, ha, hp, hs⟩ := h
  refine ⟨_, (pss_cons (ps_if (pt_cmpR op_eq (pv 1) pe_str (nomark _)) (pss_one (ps_ret (pe_d0 (k := 9) (hr.mono (by omega)) tkd (pv 0)))) pss_nil)
      (pss_one (ps_ret (pe_d (k := 9) (hr.mono (by omega)) tkd (pv 0) (pa_cons (pv 1) (pa_cons (pv 2) pa_nil)))))), ?_⟩
  have hk : ¬ V.str s1 = V.str "kind" := by rcases hs with ⟨rfl, _⟩ | ⟨rfl, _⟩ <;> decide
  walk_at "w"
  refine ⟨a, _, dx, _, _, _, rfl, ha, by rfl, G.cl_Door, G.m_Door_done, FnR.lift (ok_Door_done G) (by decide), ?_⟩
  walk_at "w"
  exact ⟨a, dx, n, p, xs, s1, v, rfl, ha, hp, hs⟩
end
end Pk
end
/-! PkF14 -/
section
set_option maxHeartbeats 4000000
namespace Pk
open PySem PySem.Spec PyProof.Rows L2
local macro_rules | `(tactic| walk_at "c") => `(tactic| first | assumption | omega | exact rfl | (intro z; cases z; done) | (simp only [nV, V.int.injEq, V.str.injEq]; first | assumption | omega))
local macro_rules | `(tactic| walk_at "fld") => `(tactic| first
  | assumption
  | exact fld_k_tasks (by assumption) (by assumption) | exact fld_k_tree (by assumption) (by assumption) | exact fld_k_things (by assumption) (by assumption) | exact fld_ta_known (by assumption) (by assumption)
  | exact fld_t_rows (by assumption) (by assumption) (by assumption) | exact fld_t_run1 (by assumption) (by assumption) (by assumption) (by assumption) | exact fld_t_runs (by assumption) (by assumption) (by assumption) | exact fld_t_maker (by assumption) (by assumption) (by assumption) | exact fld_tr_rows (by assumption) (by assumption) | exact fld_tr_rb (by assumption) (by assumption) | exact fld_tr_ever (by assumption) (by assumption)
  | exact fld_h_number (by assumption) (by assumption) | exact fld_h_thing (by assumption) (by assumption) | exact fld_h_rights (by assumption) (by assumption) | exact fld_h_giver (by assumption) (by assumption) | exact fld_h_holder (by assumption) (by assumption))
local macro_rules | `(tactic| walk_at "get") => `(tactic| first
  | assumption
  | exact get_kn1 (by assumption) (by assumption) | exact get_kn0 (by assumption) (by assumption) | exact get_rw1 (by assumption) (by assumption) | exact get_rw0 (by assumption) (by assumption)
  | exact get_rb1 (by assumption) (by assumption) | exact get_rb0 (by assumption) (by assumption) | exact get_th1 (by assumption) (by assumption) | exact get_th0 (by assumption) (by assumption))
local macro_rules | `(tactic| walk_at "ins") => `(tactic| first | exact insTa (by assumption) rfl | exact insTr (by assumption) rfl)
local macro_rules | `(tactic| walk_at "s") => `(tactic| first
  | refine ⟨_, rfl, ?_⟩
  | refine ⟨rfl, ?_⟩
  | refine zI fun _ => ?_
  | with_reducible refine iteF ?_ | with_reducible refine iteT ?_
  | ((with_reducible refine iteDy ?_ ?_); focus (walk_at "c"; done)) | ((with_reducible refine iteDn ?_ ?_); focus (walk_at "c"; done)) | ((with_reducible refine iteNy ?_ ?_); focus (walk_at "c"; done)) | ((with_reducible refine iteNn ?_ ?_); focus (walk_at "c"; done))
  | refine fldI (by walk_at "fld") ?_
  | refine getI (by walk_at "get") ?_ | refine getS (by walk_at "get") ?_
  | refine ⟨by walk_at "ins", ?_⟩
  | refine ⟨_, _, _, _, true, rfl, .ty _, .base (.str _), kit_ty (by decide +kernel), ?_⟩
  | refine ⟨_, _, _, _, true, rfl, .ty _, .base (.int _), kit_ty (by decide +kernel), ?_⟩
  | refine ⟨_, _, _, _, false, rfl, .ty _, .base (.int _), kit_ty (by decide +kernel), ?_⟩
  | refine ⟨_, _, rfl, rfl, ?_⟩
  | refine ⟨_, _, rfl, rfl, trivial, ?_⟩)
local macro_rules | `(tactic| walk_at "w") => `(tactic| repeat (walk_at "s"))
def kindS : Th → Str
  | .cell => "cell"
  | .line => "line"
  | .door _ => "door"
  | .post _ _ => "post"
def fitsN : Th → Nat
  | .cell => 3
  | .line => 3
  | .door _ => 13
  | .post _ _ => 17
section
variable {P : Program} {w : World} {K : PySem.W.Frag} {mg : Str → Option Value} {base : Heap} (G : Gx K mg base)
omit G in
theorem slot_key {m : Mo} (W : Wf m) {t : Str} {z : Int} {n : Nat} (ht : RunT m t) (h : slotAt m t z = some n) : n ∈ m.keys := by
  unfold slotAt at h
  split at h
  · refine W.slot t n ht.1 ?_
    cases e : (m.task t).rows[z.toNat]? with
    | none => rw [e] at h; cases h
    | some o => rw [e] at h; have : o = some n := h; rw [← this]; exact List.mem_of_getElem? e
  · cases h
omit G in
theorem keys_le {m : Mo} (W : WT m) : m.keys.length ≤ m.ever := by
  have := nodup_le (k := List.range m.ever) W.nd (fun x hx => List.mem_range.mpr (W.lt x hx))
  rwa [List.length_range] at this
include G
theorem kind_ex {H : Hp} {tg : Tag} {m : Mo} (R : Rep K H tg m) {i : Nat} (hi : i < m.nth) : ∃ C dx fs f, H (m.tha i) = some (.ins C dx fs) ∧ fs.lookup ("kind" : Str) = none ∧ Cls K C ∧ Meth K C "kind" f ∧ FnR P w K mg base (L2.CX P w) 12 f (sp_c1 (.str (kindS (m.thg i)))) := by
  obtain ⟨dx, e⟩ := R.thg hi
  cases h : m.thg i with
  | cell => rw [h] at e; exact ⟨_, dx, _, _, e, rfl, G.cl_Cell, G.m_Cell_kind, FnR.lift (ok_Cell_kind G) (by decide)⟩
  | line => rw [h] at e; exact ⟨_, dx, _, _, e, rfl, G.cl_Line, G.m_Line_kind, FnR.lift (ok_Line_kind G) (by decide)⟩
  | door ls => rw [h] at e; exact ⟨_, dx, _, _, e, rfl, G.cl_Door, G.m_Door_kind, FnR.lift (ok_Door_kind G) (by decide)⟩
  | post nm r => rw [h] at e; exact ⟨_, dx, _, _, e, rfl, G.cl_Post, G.m_Post_kind, FnR.lift (ok_Post_kind G) (by decide)⟩
theorem fits_ex {H : Hp} {x dx : Addr} {t : Th} {n : Nat} {b : Addr} (e : H x = some (.ins (thC K t) dx (thF n t b))) : ∃ C dx fs f, H x = some (.ins C dx fs) ∧ fs.lookup ("fits" : Str) = none ∧ Cls K C ∧ Meth K C "fits" f ∧ FnR P w K mg base (L2.CX P w) 12 f (sp_c1 (nV (fitsN t))) := by
  cases t with
  | cell => exact ⟨_, dx, _, _, e, rfl, G.cl_Cell, G.m_Cell_fits, FnR.lift (ok_Cell_fits G) (by decide)⟩
  | line => exact ⟨_, dx, _, _, e, rfl, G.cl_Line, G.m_Line_fits, FnR.lift (ok_Line_fits G) (by decide)⟩
  | door ls => exact ⟨_, dx, _, _, e, rfl, G.cl_Door, G.m_Door_fits, FnR.lift (ok_Door_fits G) (by decide)⟩
  | post nm r => exact ⟨_, dx, _, _, e, rfl, G.cl_Post, G.m_Post_fits, FnR.lift (ok_Post_fits G) (by decide)⟩
theorem fld_thn {H : Hp} {x dx : Addr} {t : Th} {n : Nat} {b : Addr} (e : H x = some (.ins (thC K t) dx (thF n t b))) : FldAt K H (.ref x) "number" (nV n) := by
  cases t with
  | cell => exact ⟨_, _, dx, _, rfl, e, G.cl_Cell, G.n_Cell_number, lk0⟩
  | line => exact ⟨_, _, dx, _, rfl, e, G.cl_Line, G.n_Line_number, lk0⟩
  | door ls => exact ⟨_, _, dx, _, rfl, e, G.cl_Door, G.n_Door_number, lk0⟩
  | post nm r => exact ⟨_, _, dx, _, rfl, e, G.cl_Post, G.n_Post_number, lk0⟩
def sp_handle_at (K : PySem.W.Frag) : Sp := fun vs H Q E => ∃ tg m t z, vs = [.ref m.k, .str t, .int z] ∧ Rep K H tg m ∧ Wf m ∧ (¬ (RunT m t ∧ (slotAt m t z).isSome) → Er K H E) ∧ (∀ n, RunT m t → slotAt m t z = some n → n ∈ m.keys → ∀ H' x, Al H H' → HdAt K H' x n (m.row n) → Q (.ref x) H')
omit G in
theorem sc_handle_at : FnScope ["kernel", "task", "slot"] ["kernel", "task", "slot"] (defScope s_handle_at) := ⟨rfl, rfl, rfl, by decide +kernel, rfl, by decide +kernel, by decide +kernel⟩
theorem ok_handle_at : FnR P w K mg base (L2.CX P w) 4 (He.ga K "handle_at") (sp_handle_at K) := by
  refine mkF (k := 3) G.f_handle_at sc_handle_at (fun _ _ _ _ _ _ us hl => match us, hl with | [_, _, _], _ => rfl) (fun vs H Q E h => by repeat (first | (obtain ⟨e, _⟩ := h; cases e; rfl; done) | obtain ⟨_, h⟩ := h)) (fun cdv A outer s H vs Q E hr h => ?_)
  have S := sc_handle_at
  obtain ⟨tg, m, t, z, rfl, R, W, er, k⟩ := h
  refine ⟨_, (pss_one (ps_ret (pe_m (ok_Tree_handle G) (hr.mono (by omega)) G.cl_Tree G.m_Tree_handle tkd (pe_fd (pv 0)) (pa_cons (pe_m (ok_Tasks_at G) (hr.mono (by omega)) G.cl_Tasks G.m_Tasks_at tkd (pe_fd (pv 0)) (pa_cons (pv 1) (pa_cons (pv 2) pa_nil))) pa_nil)))), ?_⟩
  walk_at "w"
  refine ⟨tg, m, t, z, rfl, R, W.bd, er, fun n hr hs => ?_⟩
  have hk := slot_key W hr hs
  walk_at "w"
  exact ⟨tg, m, n, rfl, R, fun h => absurd hk h, fun _ H' x a hx => k n hr hs hk H' x a hx⟩
def sp_need_slot (K : PySem.W.Frag) : Sp := fun vs H Q E => ∃ tg m t, vs = [.ref m.k, .str t] ∧ Rep K H tg m ∧ (¬ (RunT m t ∧ none ∈ (m.task t).rows) → Er K H E) ∧ (RunT m t → none ∈ (m.task t).rows → Q .non H)
omit G in
theorem sc_need_slot : FnScope ["kernel", "name"] ["kernel", "name"] (defScope s_need_slot) := ⟨rfl, rfl, rfl, by decide +kernel, rfl, by decide +kernel, by decide +kernel⟩
theorem ok_need_slot : FnR P w K mg base (L2.CX P w) 3 (He.ga K "need_slot") (sp_need_slot K) := by
  refine mkF (k := 2) G.f_need_slot sc_need_slot (fun _ _ _ _ _ _ us hl => match us, hl with | [_, _], _ => rfl) (fun vs H Q E h => by repeat (first | (obtain ⟨e, _⟩ := h; cases e; rfl; done) | obtain ⟨_, h⟩ := h)) (fun cdv A outer s H vs Q E hr h => ?_)
  have S := sc_need_slot
  obtain ⟨tg, m, t, rfl, R, er, k⟩ := h
  refine ⟨_, (pss_one (ps_if (pt_cmpR op_eq (pe_m (ok_Tasks_free G) (hr.mono (by omega)) G.cl_Tasks G.m_Tasks_free tkd (pe_fd (pv 0)) (pa_cons (pv 1) pa_nil)) pe_int (nomark _)) (pss_one (ps_raise rfl tkd (pmk_own PySem.F.excBase_ValueError G.x_TooMany.1 G.g_TooMany G.x_TooMany.2.1 (raises_own G.x_TooMany.2.2.1 G.x_TooMany.2.2.2) rfl))) pss_nil)), ?_⟩
  walk_at "w"
  refine ⟨tg, m, t, rfl, R, fun h => er fun q => h q.1, fun hr => ?_⟩
  by_cases hn : none ∈ (m.task t).rows
  · have h0 : ¬ nV ((m.task t).rows.countP (·.isNone)) = V.int 0 := fun z => by
      have h1 : 0 < (m.task t).rows.countP (·.isNone) := List.countP_pos_iff.mpr ⟨none, hn, rfl⟩
      have h2 := V.int.inj z
      omega
    walk_at "w"
    exact k hr hn
  · have h0 : nV ((m.task t).rows.countP (·.isNone)) = V.int 0 := by
      have h1 : (m.task t).rows.countP (·.isNone) = 0 := List.countP_eq_zero.mpr fun o ho => by
        cases o with
        | none => exact absurd ho hn
        | some n => simp
      rw [h1]; rfl
    walk_at "w"
    exact er (fun q => hn q.2) _ _ _ (xc G.e_TooMany) (Al.refl _)
def sp_need_rights (K : PySem.W.Frag) : Sp := fun vs H Q E => ∃ a b : Nat, vs = [nV a, nV b] ∧ a ≤ 63 ∧ b ≤ 63 ∧ (a &&& b ≠ a → Er K H E) ∧ (a &&& b = a → Q .non H)
omit G in
theorem sc_need_rights : FnScope ["rights", "had", "lacking"] ["rights", "had"] (defScope s_need_rights) := ⟨rfl, rfl, rfl, by decide +kernel, rfl, by decide +kernel, by decide +kernel⟩
theorem ok_need_rights : FnR P w K mg base (L2.CX P w) 3 (He.ga K "need_rights") (sp_need_rights K) := by
  refine mkF (k := 2) G.f_need_rights sc_need_rights (fun _ _ _ _ _ _ us hl => match us, hl with | [_, _], _ => rfl) (fun vs H Q E h => by repeat (first | (obtain ⟨e, _⟩ := h; cases e; rfl; done) | obtain ⟨_, h⟩ := h)) (fun cdv A outer s H vs Q E hr h => ?_)
  have S := sc_need_rights
  obtain ⟨a, b, rfl, ha, hb, er, k⟩ := h
  refine ⟨_, (pss_cons (ps_set (i := 2) S.nd rfl (by first | exact Or.inl rfl | exact Or.inr rfl) (pe_f (ok_missing G) (hr.mono (by omega)) rfl G.g_missing (kp_of G.f_missing) tkd (pa_cons (pv 0) (pa_cons (pv 1) pa_nil))))
      (pss_one (ps_if (pt_cmpR op_ne (pv 2) pe_int (nomark _)) (pss_one (ps_rI (oex_Lacks G) (ok_Lacks_init G).choose_spec.1 (ok_Lacks_init G).choose_spec.2 (hr.mono (by omega)) tkd rfl G.g_Lacks (pv 2) rfl)) pss_nil))), ?_⟩
  walk_at "w"
  refine ⟨a, b, rfl, hb, ?_⟩
  have hl := lack0 ha hb
  by_cases h0 : a &&& (63 - b) = 0
  · have h0' : nV (a &&& (63 - b)) = V.int 0 := by rw [h0]; rfl
    walk_at "w"
    exact k (hl.mp h0)
  · have h0' : ¬ nV (a &&& (63 - b)) = V.int 0 := fun z => h0 (by have := V.int.inj z; omega)
    walk_at "w"
    exact fun d H' al => er (fun q => h0 (hl.mpr q)) _ _ _ (xc G.e_Lacks) al
def sp_need_room (K : PySem.W.Frag) : Sp := fun vs H Q E => ∃ tg m t, vs = [.ref m.k, .str t] ∧ Rep K H tg m ∧ H m.th = some (.dK (rowsD (List.range m.nth) m.tha)) ∧ (¬ (RunT m t ∧ none ∈ (m.task t).rows ∧ m.nth < 40) → Er K H E) ∧ (RunT m t → none ∈ (m.task t).rows → m.nth < 40 → Q .non H)
omit G in
theorem sc_need_room : FnScope ["kernel", "task"] ["kernel", "task"] (defScope s_need_room) := ⟨rfl, rfl, rfl, by decide +kernel, rfl, by decide +kernel, by decide +kernel⟩
theorem ok_need_room : FnR P w K mg base (L2.CX P w) 4 (He.ga K "need_room") (sp_need_room K) := by
  refine mkF (k := 3) G.f_need_room sc_need_room (fun _ _ _ _ _ _ us hl => match us, hl with | [_, _], _ => rfl) (fun vs H Q E h => by repeat (first | (obtain ⟨e, _⟩ := h; cases e; rfl; done) | obtain ⟨_, h⟩ := h)) (fun cdv A outer s H vs Q E hr h => ?_)
  have S := sc_need_room
  obtain ⟨tg, m, t, rfl, R, eth, er, k⟩ := h
  refine ⟨_, (pss_cons (ps_expr (pe_f (ok_need_slot G) (hr.mono (by omega)) rfl G.g_need_slot (kp_of G.f_need_slot) tkd (pa_cons (pv 0) (pa_cons (pv 1) pa_nil))))
      (pss_one (ps_if (pt_cmpR op_ge (pe_callB call_lenD (by rfl) G.b_len PySem.boot_len (pa_cons (pe_fd (pv 0)) pa_nil)) (pe_ci rfl G.c_MOST_THINGS) (nomark _)) (pss_one (ps_raise rfl tkd (pmk_own PySem.F.excBase_ValueError G.x_TooMany.1 G.g_TooMany G.x_TooMany.2.1 (raises_own G.x_TooMany.2.2.1 G.x_TooMany.2.2.2) rfl))) pss_nil))), ?_⟩
  walk_at "w"
  refine ⟨tg, m, t, rfl, R, fun h => er fun q => h ⟨q.1, q.2.1⟩, fun h1 h2 => ?_⟩
  walk_at "w"
  refine ⟨m.th, _, rfl, eth, ?_⟩
  have hl : (rowsD (List.range m.nth) m.tha).length = m.nth := by unfold rowsD; rw [List.length_map, List.length_range]
  rw [hl]
  by_cases h40 : m.nth < 40
  · have h40' : ¬ (40 : Int) ≤ m.nth := by omega
    walk_at "w"
    exact k h1 h2 h40
  · have h40' : (40 : Int) ≤ m.nth := by omega
    walk_at "w"
    exact er (fun q => h40 q.2.2) _ _ _ (xc G.e_TooMany) (Al.refl _)
def thOf (s : Str) : Th := if s = "cell" then .cell else if s = "line" then .line else .door []
/-- a thing's own list -/
def SubAt (H : Hp) (t : Th) (b : Addr) : Prop := match t with
  | .line => H b = some (.lst [])
  | .door ls => ls = [] ∧ H b = some (.lst [])
  | _ => True
def sp_made_thing (K : PySem.W.Frag) : Sp := fun vs H Q E => ∃ kd n, vs = [.str kd, nV n] ∧ (∀ H' x dx b, Al H H' → H x = none → H b = none → x ≠ b → H' x = some (.ins (thC K (thOf kd)) dx (thF n (thOf kd) b)) → SubAt H' (thOf kd) b → Q (.ref x) H')
omit G in
theorem sc_made_thing : FnScope ["kind", "number"] ["kind", "number"] (defScope s_made_thing) := ⟨rfl, rfl, rfl, by decide +kernel, rfl, by decide +kernel, by decide +kernel⟩
theorem ok_made_thing : FnR P w K mg base (L2.CX P w) 4 (He.ga K "made_thing") (sp_made_thing K) := by
  refine mkF (k := 3) G.f_made_thing sc_made_thing (fun _ _ _ _ _ _ us hl => match us, hl with | [_, _], _ => rfl) (fun vs H Q E h => by repeat (first | (obtain ⟨e, _⟩ := h; cases e; rfl; done) | obtain ⟨_, h⟩ := h)) (fun cdv A outer s H vs Q E hr h => ?_)
  have S := sc_made_thing
  obtain ⟨kd, n, rfl, k⟩ := h
  refine ⟨_, (pss_cons (ps_if (pt_cmpR op_eq (pv 0) pe_str (nomark _)) (pss_one (ps_ret (pe_mk (ok_Cell_init G) (hr.mono (by omega)) rfl G.g_Cell (pa_cons (pv 1) pa_nil)))) pss_nil)
      (pss_cons (ps_if (pt_cmpR op_eq (pv 0) pe_str (nomark _)) (pss_one (ps_ret (pe_mk (ok_Line_init G) (hr.mono (by omega)) rfl G.g_Line (pa_cons (pv 1) pa_nil)))) pss_nil)
      (pss_one (ps_ret (pe_mk (ok_Door_init G) (hr.mono (by omega)) rfl G.g_Door (pa_cons (pv 1) pa_nil)))))), ?_⟩
  have alx : ∀ {H3 : Hp} {x dx : Addr} {o : HO}, H x = none → H dx = none → (∀ b o1, b ≠ x → (L2.upd (L2.upd H dx (.own x)) x o) b = some o1 → H3 b = some o1) → Al H H3 := fun hx hdx kp => Al.of fun b o1 e => kp b o1 (ne_of_none e hx) (by rw [upd_ne (ne_of_none e hx), upd_ne (ne_of_none e hdx)]; exact e)
  by_cases h1 : kd = "cell"
  · subst h1
    walk_at "w"
    refine fun x dx hx hdx nx => ⟨x, dx, n, rfl, upd_same, fun H3 e3 kp => ⟨rfl, ?_⟩⟩
    have hdx0 : H dx = none := hdx
    exact k _ x dx dx (alx hx hdx kp) hx hdx nx.symm e3 trivial
  · have h1' : ¬ V.str kd = V.str "cell" := fun z => h1 (V.str.inj z)
    by_cases h2 : kd = "line"
    · subst h2
      walk_at "w"
      refine fun x dx hx hdx nx => ⟨x, dx, n, rfl, upd_same, fun H3 p hp e3 e4 kp => ⟨rfl, ?_⟩⟩
      have npx : x ≠ p := fun z => by rw [← z, upd_same] at hp; cases hp
      have hp0 : H p = none := by
        rw [upd_ne npx.symm] at hp
        by_cases z : p = dx
        · rw [z, upd_same] at hp; cases hp
        · rw [upd_ne z] at hp; exact hp
      exact k _ x dx p (alx hx hdx kp) hx hp0 npx e3 e4
    · have h2' : ¬ V.str kd = V.str "line" := fun z => h2 (V.str.inj z)
      have ek : thOf kd = .door [] := by unfold thOf; rw [if_neg h1, if_neg h2]
      rw [ek] at k
      walk_at "w"
      refine fun x dx hx hdx nx => ⟨x, dx, n, rfl, upd_same, fun H3 p hp e3 e4 kp => ⟨rfl, ?_⟩⟩
      have npx : x ≠ p := fun z => by rw [← z, upd_same] at hp; cases hp
      have hp0 : H p = none := by
        rw [upd_ne npx.symm] at hp
        by_cases z : p = dx
        · rw [z, upd_same] at hp; cases hp
        · rw [upd_ne z] at hp; exact hp
      exact k _ x dx p (alx hx hdx kp) hx hp0 npx e3 ⟨rfl, e4⟩
def PbOk (m : Mo) (n r : Nat) (nm : Str) : Prop := RunT m nm ∧ none ∈ (m.task nm).rows ∧ DerOk m n r
def sp_put_below (K : PySem.W.Frag) : Sp := fun vs H Q E => ∃ tg m n r nm, vs = [.ref m.k, nV n, nV r, .str nm] ∧ Kn K H tg m ∧ r ≤ 63 ∧ m.ever < 1000 ∧ (¬ PbOk m n r nm → Er K H E) ∧
  (PbOk m n r nm → ∀ H' tg' x kx j, freeAt m nm j → Stp H tg H' tg' → Rep K H' tg' ((m.derH n r nm x kx).setRows nm ((m.task nm).rows.set j (some m.ever))) → H' m.kn = some (.dK (knD m.names m.tka)) → H' m.th = some (.dK (rowsD (List.range m.nth) m.tha)) → Q (nV j) H')
omit G in
theorem sc_put_below : FnScope ["kernel", "number", "rights", "name"] ["kernel", "number", "rights", "name"] (defScope s_put_below) := ⟨rfl, rfl, rfl, by decide +kernel, rfl, by decide +kernel, by decide +kernel⟩
theorem ok_put_below : FnR P w K mg base (L2.CX P w) 52 (He.ga K "put_below") (sp_put_below K) := by
  refine mkF (k := 51) G.f_put_below sc_put_below (fun _ _ _ _ _ _ us hl => match us, hl with | [_, _, _, _], _ => rfl) (fun vs H Q E h => by repeat (first | (obtain ⟨e, _⟩ := h; cases e; rfl; done) | obtain ⟨_, h⟩ := h)) (fun cdv A outer s H vs Q E hr h => ?_)
  have S := sc_put_below
  obtain ⟨tg, m, n, r, nm, rfl, KN, hr63, hev, er, k⟩ := h
  have R := KN.r
  refine ⟨_, (pss_cons (ps_expr (pe_f (ok_need_slot G) (hr.mono (by omega)) rfl G.g_need_slot (kp_of G.f_need_slot) tkd (pa_cons (pv 0) (pa_cons (pv 3) pa_nil))))
      (pss_one (ps_ret (pe_m (ok_Tasks_put G) (hr.mono (by omega)) G.cl_Tasks G.m_Tasks_put tkd (pe_fd (pv 0)) (pa_cons (pv 3) (pa_cons (pe_m (ok_Tree_derived G) (hr.mono (by omega)) G.cl_Tree G.m_Tree_derived tkd (pe_fd (pv 0)) (pa_cons (pv 1) (pa_cons (pv 2) (pa_cons (pv 3) pa_nil)))) pa_nil)))))), ?_⟩
  walk_at "w"
  refine ⟨tg, m, nm, rfl, R, fun h => er fun q => h ⟨q.1, q.2.1⟩, fun h1 h2 => ?_⟩
  walk_at "w"
  refine ⟨tg, m, n, r, nm, rfl, R, KN.w.t, KN.w.t.ev, hr63, fun h => er fun q => h q.2.2, fun ok H1 tg1 x kx st1 R1 kp1 => ?_⟩
  have B1 : Bd (m.derH n r nm x kx) := by
    refine ⟨KN.w.bd.nms, ?_, KN.w.bd.rws⟩
    have := keys_le KN.w.t
    show (m.keys ++ [m.ever]).length ≤ 1000
    rw [List.length_append, List.length_singleton]
    omega
  walk_at "w"
  refine ⟨tg1, m.derH n r nm x kx, nm, m.ever, rfl, R1, B1, h1, h2, fun j H2 hj st2 R2 kp2 => ?_⟩
  have et := R1.tsl (s := nm) h1.1
  have ek : H1 m.kn = some (.dK (knD m.names m.tka)) := kp1 _ _ (by rw [R.kn_tag]; simp) (by rw [R.kn_tag]; simp) (by rw [R.kn_tag]; simp) (by rw [R.kn_tag]; simp) KN.kn (Pl.nt (o := .dK _) trivial)
  have eh : H1 m.th = some (.dK (rowsD (List.range m.nth) m.tha)) := kp1 _ _ (by rw [R.th_tag]; simp) (by rw [R.th_tag]; simp) (by rw [R.th_tag]; simp) (by rw [R.th_tag]; simp) KN.th (Pl.nt (o := .dK _) trivial)
  refine k ⟨h1, h2, ok⟩ H2 tg1 x kx j hj (st1.trans st2) R2 ?_ ?_
  · rw [kp2 _ (fun z => by rw [z, show (m.derH n r nm x kx).tsa nm = m.tsa nm from rfl] at ek; rw [show (m.derH n r nm x kx).tsa nm = m.tsa nm from rfl, ek] at et; cases et)]; exact ek
  · rw [kp2 _ (fun z => by rw [z, show (m.derH n r nm x kx).tsa nm = m.tsa nm from rfl] at eh; rw [show (m.derH n r nm x kx).tsa nm = m.tsa nm from rfl, eh] at et; cases et)]; exact eh
end
end Pk
end
/-! PkPol -/
section
set_option maxHeartbeats 4000000
namespace Pk
open PySem PySem.Spec PyProof.Rows L2
/-- what a task holds: thing and rights -/
def Sl (m : Mo) (s : Str) (p : Nat × Nat) : Prop := s ∈ m.names ∧ ∃ n, some n ∈ (m.task s).rows ∧ (m.row n).thing = p.1 ∧ (m.row n).rights = p.2
/-- what waits at a door -/
def Dp (m : Mo) (i : Nat) (p : Nat × Nat) : Prop := i < m.nth ∧ ∃ ls l n, m.thg i = .door ls ∧ l ∈ ls ∧ n ∈ l.parts ∧ n ∈ m.keys ∧ (m.row n).thing = p.1 ∧ (m.row n).rights = p.2
def SubR (x y : Nat × Nat) : Prop := x.1 = y.1 ∧ x.2 &&& y.2 = x.2
structure Step (m m' : Mo) (t : Str) : Prop where
  sl : ∀ s x, Sl m' s x → Sl m s x ∨ (s = t ∧ x.1 = m.nth ∧ m.nth < m'.nth) ∨ (∃ y, Sl m t y ∧ SubR x y ∧ (s = t ∨ 32 &&& y.2 = 32)) ∨ (s = t ∧ ∃ e, Sl m t e ∧ 8 &&& e.2 = 8 ∧ Dp m e.1 x)
  dp : ∀ i x, Dp m' i x → Dp m i x ∨ ∃ y, Sl m t y ∧ 32 &&& y.2 = 32 ∧ SubR x y
  rn : ∀ s, RunT m' s → RunT m s ∨ s ∉ m.names
  nm : ∀ s, s ∈ m.names → s ∈ m'.names
  nth : m.nth ≤ m'.nth
  ev : m'.ever ≤ m.ever + 5
  nl : m'.names.length ≤ m.names.length + 1
  k : m'.k = m.k
theorem Shr.step {m m' : Mo} (h : Shr m m') (t : Str) : Step m m' t := by
  refine ⟨fun s x ⟨hs, n, h1, h2, h3⟩ => .inl ⟨by rw [← h.names]; exact hs, n, (h.em s).mem h1, by rw [← h.row]; exact h2, by rw [← h.row]; exact h3⟩,
    fun i x ⟨hi, ls, l, n, h1, h2, h3, h4, h5, h6⟩ => .inl ⟨by rw [← h.nth]; exact hi, ls, l, n, h.dr i ls h1, h2, h3, h.keys n h4, by rw [← h.row]; exact h5, by rw [← h.row]; exact h6⟩,
    fun s q => .inl ⟨by rw [← h.names]; exact q.1, h.rn s q.2⟩, fun s q => by rw [h.names]; exact q, by rw [h.nth]; exact Nat.le_refl _, by rw [h.ever]; omega, by rw [h.names]; omega, h.adr.1⟩
/-! trees with one more handle -/
theorem WT.derH {m : Mo} {n r : Nat} {ho : Str} {x kx : Addr} (w : WT m) (ok : DerOk m n r) (hr : r ≤ 63) (hev : m.ever < 1000) : WT (m.derH n r ho x kx) := by
  obtain ⟨hn, hsub, hd⟩ := ok
  have hne : n ≠ m.ever := fun z => w.ev (z ▸ hn)
  have mem : ∀ y, y ∈ (m.derH n r ho x kx).keys ↔ y ∈ m.keys ∨ y = m.ever := fun y => by
    show y ∈ m.keys ++ [m.ever] ↔ _
    simp
  have nev : ∀ y, y ∈ m.keys → y ≠ m.ever := fun y hy z => w.ev (z ▸ hy)
  have rowo : ∀ y, y ≠ m.ever → (m.derH n r ho x kx).row y = m.row y := fun y hy => nput_ne hy
  have rown : (m.derH n r ho x kx).row m.ever = ⟨(m.row n).thing, r, some n, ho⟩ := nput_at
  have depo : ∀ y, y ≠ m.ever → (m.derH n r ho x kx).dep y = m.dep y := fun y hy => nput_ne hy
  have depn : (m.derH n r ho x kx).dep m.ever = m.dep n + 1 := nput_at
  have kidn : (m.derH n r ho x kx).kids n = m.kids n ++ [m.ever] := nput_at
  have kide : (m.derH n r ho x kx).kids m.ever = [] := by
    show nput (nput m.kids m.ever []) n _ m.ever = []
    rw [nput_ne hne.symm, nput_at]
  have kido : ∀ y, y ≠ n → y ≠ m.ever → (m.derH n r ho x kx).kids y = m.kids y := fun y h1 h2 => by
    show nput (nput m.kids m.ever []) n _ y = _
    rw [nput_ne h1, nput_ne h2]
  have sz := keys_le w
  refine ⟨?_, ?_, ?_, ?_, ?_, ?_, ?_, ?_, ?_, ?_⟩
  · show (m.keys ++ [m.ever]).Nodup
    exact List.nodup_append.mpr ⟨w.nd, by simp, fun a ha b hb => by simp at hb; rw [hb]; exact nev a ha⟩
  · intro y hy
    show y < m.ever + 1
    rcases (mem y).mp hy with h | h
    · have := w.lt y h; omega
    · omega
  · intro y hy
    rcases (mem y).mp hy with h | rfl
    · rw [rowo y (nev y h)]; exact w.rg y h
    · rw [rown]; exact hr
  · intro y hy
    rcases (mem y).mp hy with h | rfl
    · rw [rowo y (nev y h)]; exact w.th y h
    · rw [rown]; exact w.th n hn
  · intro y g hy hg
    rcases (mem y).mp hy with h | rfl
    · rw [rowo y (nev y h)] at hg
      obtain ⟨h1, h2⟩ := w.gv y g h hg
      rw [depo y (nev y h), depo g (nev g h1)]
      exact ⟨(mem g).mpr (.inl h1), h2⟩
    · rw [rown] at hg
      cases hg
      rw [depn, depo n hne]
      exact ⟨(mem n).mpr (.inl hn), rfl⟩
  · intro y hy hg
    rcases (mem y).mp hy with h | rfl
    · rw [rowo y (nev y h)] at hg
      rw [depo y (nev y h)]; exact w.g0 y h hg
    · rw [rown] at hg; cases hg
  · intro y hy
    rcases (mem y).mp hy with h | rfl
    · rw [depo y (nev y h)]; exact w.dp y h
    · rw [depn]; omega
  · intro y hy
    rcases (mem y).mp hy with h | rfl
    · by_cases z : y = n
      · subst z
        rw [kidn]
        exact List.nodup_append.mpr ⟨w.knd y h, by simp, fun a ha b hb => by simp at hb; rw [hb]; exact nev a ((w.kid y a h).mp ha).1⟩
      · rw [kido y z (nev y h)]; exact w.knd y h
    · rw [kide]; exact .nil
  · intro p c hp
    have key : ∀ q, q ∈ m.keys → ((c ∈ (m.derH n r ho x kx).keys ∧ ((m.derH n r ho x kx).row c).giver = some q) ↔ ((c ∈ m.keys ∧ (m.row c).giver = some q) ∨ (c = m.ever ∧ q = n))) := fun q hq => by
      constructor
      · rintro ⟨h1, h2⟩
        rcases (mem c).mp h1 with h | rfl
        · rw [rowo c (nev c h)] at h2; exact .inl ⟨h, h2⟩
        · rw [rown] at h2; exact .inr ⟨rfl, (Option.some.inj h2).symm⟩
      · rintro (⟨h1, h2⟩ | ⟨rfl, rfl⟩)
        · exact ⟨(mem c).mpr (.inl h1), by rw [rowo c (nev c h1)]; exact h2⟩
        · exact ⟨(mem _).mpr (.inr rfl), by rw [rown]⟩
    rcases (mem p).mp hp with h | rfl
    · rw [key p h]
      by_cases z : p = n
      · subst z
        rw [kidn, List.mem_append, w.kid p c h, List.mem_singleton]
        simp
      · rw [kido p z (nev p h), w.kid p c h]
        simp [z]
    · rw [kide]
      constructor
      · intro h; cases h
      · rintro ⟨h1, h2⟩
        exfalso
        rcases (mem c).mp h1 with h | rfl
        · rw [rowo c (nev c h)] at h2
          exact w.ev (w.gv c _ h h2).1
        · rw [rown] at h2
          exact hne (Option.some.inj h2)
  · show (m.keys ++ [m.ever]).length ≤ 1000
    rw [List.length_append, List.length_singleton]; omega
theorem WT.rootH {m : Mo} {th rg : Nat} {ho : Str} {x kx : Addr} (w : WT m) (ht : th < m.nth) (hr : rg ≤ 63) (hev : m.ever < 1000) : WT (m.addH ⟨th, rg, none, ho⟩ x kx) := by
  have mem : ∀ y, y ∈ (m.addH ⟨th, rg, none, ho⟩ x kx).keys ↔ y ∈ m.keys ∨ y = m.ever := fun y => by
    show y ∈ m.keys ++ [m.ever] ↔ _
    simp
  have nev : ∀ y, y ∈ m.keys → y ≠ m.ever := fun y hy z => w.ev (z ▸ hy)
  have rowo : ∀ y, y ≠ m.ever → (m.addH ⟨th, rg, none, ho⟩ x kx).row y = m.row y := fun y hy => nput_ne hy
  have rown : (m.addH ⟨th, rg, none, ho⟩ x kx).row m.ever = ⟨th, rg, none, ho⟩ := nput_at
  have depo : ∀ y, y ≠ m.ever → (m.addH ⟨th, rg, none, ho⟩ x kx).dep y = m.dep y := fun y hy => nput_ne hy
  have depn : (m.addH ⟨th, rg, none, ho⟩ x kx).dep m.ever = 1 := nput_at
  have kide : (m.addH ⟨th, rg, none, ho⟩ x kx).kids m.ever = [] := nput_at
  have kido : ∀ y, y ≠ m.ever → (m.addH ⟨th, rg, none, ho⟩ x kx).kids y = m.kids y := fun y h2 => nput_ne h2
  have sz := keys_le w
  refine ⟨?_, ?_, ?_, ?_, ?_, ?_, ?_, ?_, ?_, ?_⟩
  · show (m.keys ++ [m.ever]).Nodup
    exact List.nodup_append.mpr ⟨w.nd, by simp, fun a ha b hb => by simp at hb; rw [hb]; exact nev a ha⟩
  · intro y hy
    show y < m.ever + 1
    rcases (mem y).mp hy with h | h
    · have := w.lt y h; omega
    · omega
  · intro y hy
    rcases (mem y).mp hy with h | rfl
    · rw [rowo y (nev y h)]; exact w.rg y h
    · rw [rown]; exact hr
  · intro y hy
    rcases (mem y).mp hy with h | rfl
    · rw [rowo y (nev y h)]; exact w.th y h
    · rw [rown]; exact ht
  · intro y g hy hg
    rcases (mem y).mp hy with h | rfl
    · rw [rowo y (nev y h)] at hg
      obtain ⟨h1, h2⟩ := w.gv y g h hg
      rw [depo y (nev y h), depo g (nev g h1)]
      exact ⟨(mem g).mpr (.inl h1), h2⟩
    · rw [rown] at hg; cases hg
  · intro y hy hg
    rcases (mem y).mp hy with h | rfl
    · rw [rowo y (nev y h)] at hg
      rw [depo y (nev y h)]; exact w.g0 y h hg
    · exact depn
  · intro y hy
    rcases (mem y).mp hy with h | rfl
    · rw [depo y (nev y h)]; exact w.dp y h
    · rw [depn]; omega
  · intro y hy
    rcases (mem y).mp hy with h | rfl
    · rw [kido y (nev y h)]; exact w.knd y h
    · rw [kide]; exact .nil
  · intro p c hp
    rcases (mem p).mp hp with h | rfl
    · rw [kido p (nev p h), w.kid p c h]
      constructor
      · rintro ⟨h1, h2⟩; exact ⟨(mem c).mpr (.inl h1), by rw [rowo c (nev c h1)]; exact h2⟩
      · rintro ⟨h1, h2⟩
        rcases (mem c).mp h1 with h | rfl
        · rw [rowo c (nev c h)] at h2; exact ⟨h, h2⟩
        · rw [rown] at h2; cases h2
    · rw [kide]
      constructor
      · intro h; cases h
      · rintro ⟨h1, h2⟩
        exfalso
        rcases (mem c).mp h1 with h | rfl
        · rw [rowo c (nev c h)] at h2
          exact w.ev (w.gv c _ h h2).1
        · rw [rown] at h2; cases h2
  · show (m.keys ++ [m.ever]).length ≤ 1000
    rw [List.length_append, List.length_singleton]; omega
end Pk
end
/-! PkPol2 -/
section
set_option maxHeartbeats 4000000
namespace Pk
open PySem PySem.Spec PyProof.Rows L2
theorem mem_set_or {l : List (Option Nat)} {j : Nat} {a b : Option Nat} (h : a ∈ l.set j b) : a ∈ l ∨ a = b := List.mem_or_eq_of_mem_set h
theorem Wf.derH {m : Mo} {n r : Nat} {ho : Str} {x kx : Addr} (w : Wf m) (ok : DerOk m n r) (hr : r ≤ 63) (hev : m.ever < 1000) : Wf (m.derH n r ho x kx) :=
  { w with
    t := w.t.derH ok hr hev
    bd := ⟨w.bd.nms, (w.t.derH (ho := ho) (x := x) (kx := kx) ok hr hev).sz, w.bd.rws⟩
    slot := fun s k hs hk => List.mem_append_left _ (w.slot s k hs hk)
    prt := fun i ls l k hi h hl hk => Nat.lt_succ_of_lt (w.prt i ls l k hi h hl hk) }
theorem Wf.rootH {m : Mo} {th rg : Nat} {ho : Str} {x kx : Addr} (w : Wf m) (ht : th < m.nth) (hr : rg ≤ 63) (hev : m.ever < 1000) : Wf (m.addH ⟨th, rg, none, ho⟩ x kx) :=
  { w with
    t := w.t.rootH ht hr hev
    bd := ⟨w.bd.nms, (w.t.rootH (ho := ho) (x := x) (kx := kx) ht hr hev).sz, w.bd.rws⟩
    slot := fun s k hs hk => List.mem_append_left _ (w.slot s k hs hk)
    prt := fun i ls l k hi h hl hk => Nat.lt_succ_of_lt (w.prt i ls l k hi h hl hk) }
theorem Wf.setSlot {m : Mo} {nm : Str} {j n : Nat} (w : Wf m) (hs : nm ∈ m.names) (hn : n ∈ m.keys) : Wf (m.setRows nm ((m.task nm).rows.set j (some n))) := by
  have tk : ∀ s, ((m.setRows nm ((m.task nm).rows.set j (some n))).task s).maker = (m.task s).maker ∧ ((m.setRows nm ((m.task nm).rows.set j (some n))).task s).runs = (m.task s).runs := fun s => by
    rw [setRows_task]
    by_cases h : s = nm
    · rw [if_pos h, h]; exact ⟨rfl, rfl⟩
    · rw [if_neg h]; exact ⟨rfl, rfl⟩
  have rw' : ∀ s k, some k ∈ ((m.setRows nm ((m.task nm).rows.set j (some n))).task s).rows → some k ∈ (m.task s).rows ∨ k = n := fun s k h => by
    rw [setRows_task] at h
    by_cases e : s = nm
    · rw [if_pos e] at h
      rcases mem_set_or h with h | h
      · rw [e]; exact .inl h
      · exact .inr (Option.some.inj h)
    · rw [if_neg e] at h; exact .inl h
  refine ⟨{ w.t with }, ⟨w.k1.1, fun i s hi hr k hk => ?_⟩, ⟨w.bd.nms, w.bd.kys, fun s hs' => ?_⟩, w.nth, ?_, fun s k hs' hk => ?_, ⟨w.root.1, ?_⟩, fun s hs' h => w.rmk s hs' (by rw [← (tk s).1]; exact h), by rw [(tk rootN).1]; exact w.r0, fun s hs' => by rw [(tk s).1]; exact w.mkn s hs', w.prt, w.ne, w.len, w.post, w.door⟩
  · rw [(tk s).1] at hk
    exact w.k1.2 i s hi (by rw [← (tk s).2]; exact hr) k hk
  · rw [setRows_task]
    by_cases e : s = nm
    · rw [if_pos e]; show ((m.task nm).rows.set j (some n)).length = 16; rw [List.length_set]; exact w.bd.rws nm hs
    · rw [if_neg e]; exact w.bd.rws s hs'
  · refine Nat.le_trans (runL_le (m := m) rfl fun s h => ?_) w.run
    rw [← (tk s).2]; exact h
  · rcases rw' s k hk with h | h
    · exact w.slot s k hs' h
    · rw [h]; exact hn
  · rw [(tk rootN).2]; exact w.root.2
theorem Wf.addTh {m : Mo} {t : Th} {x b : Addr} (w : Wf m) (h40 : m.nth < 40) (hp : ∀ nm r, t = .post nm r → nm ≠ rootN ∧ nm.length ≤ 100) (hd : ∀ ls, t = .door ls → ls = []) : Wf (m.addTh t x b) := by
  have tho : ∀ i, i < m.nth → (m.addTh t x b).thg i = m.thg i := fun i hi => nput_ne (by omega)
  have thn : (m.addTh t x b).thg m.nth = t := nput_at
  have sp : ∀ i, i < (m.addTh t x b).nth → i < m.nth ∨ i = m.nth := fun i hi => by
    have : i < m.nth + 1 := hi
    omega
  refine { w with t := { w.t with th := fun n hn => Nat.lt_succ_of_lt (w.t.th n hn) }, bd := ⟨w.bd.nms, w.bd.kys, w.bd.rws⟩, nth := h40, prt := fun i ls l n hi h hl hn => ?_, post := fun i nm r hi h => ?_, door := fun i ls hi h => ?_ }
  · rcases sp i hi with h1 | rfl
    · rw [tho i h1] at h; exact w.prt i ls l n h1 h hl hn
    · rw [thn] at h; rw [hd ls h] at hl; cases hl
  · rcases sp i hi with h1 | rfl
    · rw [tho i h1] at h; exact w.post i nm r h1 h
    · rw [thn] at h; exact hp nm r h
  · rcases sp i hi with h1 | rfl
    · rw [tho i h1] at h; exact w.door i ls h1 h
    · rw [thn] at h; rw [hd ls h]; exact ⟨by decide, fun l hl => by cases hl⟩
theorem Wf.addTask {m : Mo} {nm mk : Str} {x sa : Addr} (w : Wf m) (ok : AddOk m nm mk) (hmk : mk ≠ "") (hne : nm ≠ "") (hlen : nm.length ≤ 100) (h200 : m.names.length < 200) : Wf (m.addTask nm mk x sa) := by
  obtain ⟨_, hnm, hm, h12⟩ := ok
  have hmk' := hm hmk
  have mem : ∀ s, s ∈ (m.addTask nm mk x sa).names ↔ s ∈ m.names ∨ s = nm := fun s => by
    show s ∈ m.names ++ [nm] ↔ _
    simp
  have tko : ∀ s, s ≠ nm → (m.addTask nm mk x sa).task s = m.task s := fun s h => if_neg h
  have tkn : (m.addTask nm mk x sa).task nm = ⟨mk, true, List.replicate 16 none⟩ := if_pos rfl
  have nes : ∀ s, s ∈ m.names → s ≠ nm := fun s h z => hnm (z ▸ h)
  have hrt : rootN ≠ nm := nes _ w.root.1
  refine ⟨{ w.t with }, ⟨?_, fun i s hi hr j hj => ?_⟩, ⟨?_, w.bd.kys, fun s hs => ?_⟩, w.nth, ?_, fun s n hs hn => ?_, ⟨(mem _).mpr (.inl w.root.1), by rw [tko _ hrt]; exact w.root.2⟩, fun s hs h => ?_, by rw [tko _ hrt]; exact w.r0, fun s hs => ?_, w.prt, fun h => ?_, fun s hs => ?_, w.post, w.door⟩
  · show (m.names ++ [nm]).Nodup
    exact List.nodup_append.mpr ⟨w.k1.1, by simp, fun a ha b hb => by simp at hb; rw [hb]; exact nes a ha⟩
  · have hi' : (m.names ++ [nm])[i]? = some s := hi
    have hj' : (m.names ++ [nm])[j]? = some ((m.addTask nm mk x sa).task s).maker := hj
    by_cases hil : i < m.names.length
    · rw [List.getElem?_append_left hil] at hi'
      have hs := List.mem_of_getElem? hi'
      rw [tko s (nes s hs)] at hr hj'
      by_cases hjl : j < m.names.length
      · rw [List.getElem?_append_left hjl] at hj'
        exact w.k1.2 i s hi' hr j hj'
      · exfalso
        have hjn := lt_of_get hj'
        rw [List.length_append, List.length_singleton] at hjn
        have e : j = m.names.length := by omega
        rw [e, List.getElem?_append_right (Nat.le_refl _), Nat.sub_self] at hj'
        have e2 : nm = (m.task s).maker := Option.some.inj hj'
        rcases w.mkn s hs with h | h
        · exact hne (e2.trans h)
        · exact hnm (e2 ▸ h)
    · have hin := lt_of_get hi'
      rw [List.length_append, List.length_singleton] at hin
      have e : i = m.names.length := by omega
      rw [e, List.getElem?_append_right (Nat.le_refl _), Nat.sub_self] at hi'
      have e2 : nm = s := Option.some.inj hi'
      rw [← e2, tkn] at hj'
      have hjn := lt_of_get hj'
      rw [List.length_append, List.length_singleton] at hjn
      by_cases hjl : j < m.names.length
      · omega
      · exfalso
        have e3 : j = m.names.length := by omega
        rw [e3, List.getElem?_append_right (Nat.le_refl _), Nat.sub_self] at hj'
        have e4 : nm = mk := Option.some.inj hj'
        exact hnm (e4 ▸ hmk'.1)
  · show (m.names ++ [nm]).length ≤ 200
    rw [List.length_append, List.length_singleton]; omega
  · rcases (mem s).mp hs with h | rfl
    · rw [tko s (nes s h)]; exact w.bd.rws s h
    · rw [tkn]; rfl
  · show ((m.names ++ [nm]).filter fun s => ((m.addTask nm mk x sa).task s).runs).length ≤ 12
    rw [List.filter_append, List.length_append]
    have e1 : (m.names.filter fun s => ((m.addTask nm mk x sa).task s).runs) = runL m := by
      unfold runL
      refine List.filter_congr fun s hs => ?_
      rw [tko s (nes s hs)]
    rw [e1]
    have e2 : ([nm].filter fun s => ((m.addTask nm mk x sa).task s).runs).length ≤ 1 := List.length_filter_le _ _
    omega
  · rcases (mem s).mp hs with h | rfl
    · rw [tko s (nes s h)] at hn; exact w.slot s n h hn
    · rw [tkn] at hn
      have := List.eq_of_mem_replicate hn
      cases this
  · rcases (mem s).mp hs with h1 | rfl
    · rw [tko s (nes s h1)] at h; exact w.rmk s h1 h
    · rw [tkn] at h; exact absurd h hmk
  · rcases (mem s).mp hs with h | rfl
    · rw [tko s (nes s h)]
      rcases w.mkn s h with h1 | h1
      · exact .inl h1
      · exact .inr ((mem _).mpr (.inl h1))
    · rw [tkn]; exact .inr ((mem _).mpr (.inl hmk'.1))
  · rcases (mem _).mp h with h | h
    · exact w.ne h
    · exact hne h.symm
  · rcases (mem s).mp hs with h | rfl
    · exact w.len s h
    · exact hlen
end Pk
end
/-! PkPol3 -/
section
set_option maxHeartbeats 4000000
namespace Pk
open PySem PySem.Spec PyProof.Rows L2
theorem setRows_run {m : Mo} {nm : Str} {rs : List (Option Nat)} {s : Str} : RunT (m.setRows nm rs) s ↔ RunT m s := by
  unfold RunT
  rw [setRows_task]
  by_cases h : s = nm
  · rw [if_pos h, h]; exact Iff.rfl
  · rw [if_neg h]; exact Iff.rfl
theorem setRows_mem {m : Mo} {nm : Str} {j n k : Nat} {s : Str} (h : some k ∈ ((m.setRows nm ((m.task nm).rows.set j (some n))).task s).rows) : some k ∈ (m.task s).rows ∨ (s = nm ∧ k = n) := by
  rw [setRows_task] at h
  by_cases e : s = nm
  · rw [if_pos e] at h
    rcases mem_set_or h with h | h
    · rw [e]; exact .inl h
    · exact .inr ⟨e, Option.some.inj h⟩
  · rw [if_neg e] at h; exact .inl h
theorem step_der {m : Mo} {t nm : Str} {n r j : Nat} {x kx : Addr} (w : Wf m) (ht : t ∈ m.names) (hn : some n ∈ (m.task t).rows) (ok : PbOk m n r nm) (hp : nm = t ∨ 32 &&& (m.row n).rights = 32) :
    Step m ((m.derH n r nm x kx).setRows nm ((m.task nm).rows.set j (some m.ever))) t := by
  obtain ⟨h1, h2, hnk, hsub, hd⟩ := ok
  have rowo : ∀ y, y ≠ m.ever → ((m.derH n r nm x kx).setRows nm ((m.task nm).rows.set j (some m.ever))).row y = m.row y := fun y hy => nput_ne hy
  have rown : ((m.derH n r nm x kx).setRows nm ((m.task nm).rows.set j (some m.ever))).row m.ever = ⟨(m.row n).thing, r, some n, nm⟩ := nput_at
  have nev : ∀ y, y ∈ m.keys → y ≠ m.ever := fun y hy z => w.t.ev (z ▸ hy)
  refine ⟨fun s y ⟨hs, k, hk, e1, e2⟩ => ?_, fun i y ⟨hi, ls, l, k, q1, q2, q3, q4, q5, q6⟩ => .inl ?_, fun s q => .inl (setRows_run.mp q), fun s h => h, Nat.le_refl _, by show m.ever + 1 ≤ m.ever + 5; omega, by show m.names.length ≤ _; omega, rfl⟩
  · rcases setRows_mem (m := m.derH n r nm x kx) hk with h | ⟨rfl, rfl⟩
    · have hkk := nev k (w.slot s k hs h)
      rw [rowo k hkk] at e1 e2
      exact .inl ⟨hs, k, h, e1, e2⟩
    · rw [rown] at e1 e2
      refine .inr (.inr (.inl ⟨((m.row n).thing, (m.row n).rights), ⟨ht, n, hn, rfl, rfl⟩, ⟨e1.symm, ?_⟩, hp⟩))
      rw [← e2]; exact hsub
  · have hkk : k ≠ m.ever := Nat.ne_of_lt (w.prt i ls l k hi q1 q2 q3)
    rw [rowo k hkk] at q5 q6
    have q4' : k ∈ m.keys ++ [m.ever] := q4
    exact ⟨hi, ls, l, k, q1, q2, q3, by simpa [hkk] using q4', q5, q6⟩
/-- the model after a new thing with its handle in a slot -/
def Mo.newT (m : Mo) (th : Th) (t : Str) (x b hx kx : Addr) (j : Nat) : Mo := ((m.addTh th x b).addH ⟨m.nth, fitsN th ||| 32, none, t⟩ hx kx).setRows t ((m.task t).rows.set j (some m.ever))
theorem step_new {m : Mo} {t : Str} {th : Th} {j : Nat} {x b hx kx : Addr} (w : Wf m) (hd : ∀ ls, th = .door ls → ls = []) : Step m (m.newT th t x b hx kx j) t := by
  have rowo : ∀ y, y ≠ m.ever → (m.newT th t x b hx kx j).row y = m.row y := fun y hy => nput_ne hy
  have rown : (m.newT th t x b hx kx j).row m.ever = ⟨m.nth, fitsN th ||| 32, none, t⟩ := nput_at
  have nev : ∀ y, y ∈ m.keys → y ≠ m.ever := fun y hy z => w.t.ev (z ▸ hy)
  refine ⟨fun s y ⟨hs, k, hk, e1, e2⟩ => ?_, fun i y ⟨hi, ls, l, k, q1, q2, q3, q4, q5, q6⟩ => .inl ?_, fun s q => .inl (setRows_run.mp q), fun s h => h, Nat.le_succ _, by show m.ever + 1 ≤ m.ever + 5; omega, by show m.names.length ≤ _; omega, rfl⟩
  · rcases setRows_mem (m := (m.addTh th x b).addH ⟨m.nth, fitsN th ||| 32, none, t⟩ hx kx) hk with h | ⟨rfl, rfl⟩
    · have hkk := nev k (w.slot s k hs h)
      rw [rowo k hkk] at e1 e2
      exact .inl ⟨hs, k, h, e1, e2⟩
    · rw [rown] at e1 e2
      exact .inr (.inl ⟨rfl, e1.symm, Nat.lt_succ_self _⟩)
  · have hi' : i < m.nth + 1 := hi
    by_cases hin : i = m.nth
    · exfalso
      subst hin
      have q1' : th = .door ls := by rw [← q1]; exact (nput_at).symm
      rw [hd ls q1'] at q2
      cases q2
    · have q1' : m.thg i = .door ls := by rw [← q1]; exact (nput_ne hin).symm
      have hkk : k ≠ m.ever := Nat.ne_of_lt (w.prt i ls l k (by omega) q1' q2 q3)
      rw [rowo k hkk] at q5 q6
      have q4' : k ∈ m.keys ++ [m.ever] := q4
      exact ⟨by omega, ls, l, k, q1', q2, q3, by simpa [hkk] using q4', q5, q6⟩
theorem step_start {m m' : Mo} {t nm mk : Str} {x sa : Addr} (w : Wf m) (hnm : nm ∉ m.names) (ht : t ∈ m.names) (s : Step (m.addTask nm mk x sa) m' t) (hl : m'.names.length ≤ m.names.length + 1) : Step m m' t := by
  have mem : ∀ s, s ∈ (m.addTask nm mk x sa).names ↔ s ∈ m.names ∨ s = nm := fun s => by
    show s ∈ m.names ++ [nm] ↔ _
    simp
  have nes : ∀ s, s ∈ m.names → s ≠ nm := fun s h z => hnm (z ▸ h)
  have tko : ∀ s, s ≠ nm → (m.addTask nm mk x sa).task s = m.task s := fun s h => if_neg h
  have tkn : (m.addTask nm mk x sa).task nm = ⟨mk, true, List.replicate 16 none⟩ := if_pos rfl
  have sl : ∀ s y, Sl (m.addTask nm mk x sa) s y → Sl m s y := fun s y ⟨hs, k, hk, e1, e2⟩ => by
    rcases (mem s).mp hs with h | rfl
    · rw [tko s (nes s h)] at hk; exact ⟨h, k, hk, e1, e2⟩
    · rw [tkn] at hk
      have := List.eq_of_mem_replicate hk
      cases this
  refine ⟨fun s' y h => ?_, fun i y h => ?_, fun s' q => ?_, fun s' h => s.nm s' ((mem s').mpr (.inl h)), s.nth, s.ev, hl, s.k⟩
  · rcases s.sl s' y h with h | h | ⟨z, h1, h2, h3⟩ | ⟨h0, z, h1, h2, h3⟩
    · exact .inl (sl _ _ h)
    · exact .inr (.inl h)
    · exact .inr (.inr (.inl ⟨z, sl _ _ h1, h2, h3⟩))
    · exact .inr (.inr (.inr ⟨h0, z, sl _ _ h1, h2, h3⟩))
  · rcases s.dp i y h with h | ⟨z, h1, h2, h3⟩
    · exact .inl h
    · exact .inr ⟨z, sl _ _ h1, h2, h3⟩
  · rcases s.rn s' q with h | h
    · rcases (mem s').mp h.1 with h1 | rfl
      · exact .inl ⟨h1, by have := h.2; rwa [tko s' (nes s' h1)] at this⟩
      · exact .inr hnm
    · exact .inr fun z => h ((mem s').mpr (.inl z))
end Pk
end
/-! PkF15 -/
section
set_option maxHeartbeats 4000000
namespace Pk
open PySem PySem.Spec PyProof.Rows L2
local macro_rules | `(tactic| walk_at "c") => `(tactic| first | assumption | omega | exact rfl | (intro z; cases z; done) | (simp only [nV, V.int.injEq, V.str.injEq]; first | assumption | omega))
local macro_rules | `(tactic| walk_at "fld") => `(tactic| first
  | assumption
  | exact fld_k_tasks (by assumption) (by assumption) | exact fld_k_tree (by assumption) (by assumption) | exact fld_k_things (by assumption) (by assumption) | exact fld_ta_known (by assumption) (by assumption)
  | exact fld_t_rows (by assumption) (by assumption) (by assumption) | exact fld_t_run1 (by assumption) (by assumption) (by assumption) (by assumption) | exact fld_t_runs (by assumption) (by assumption) (by assumption) | exact fld_t_maker (by assumption) (by assumption) (by assumption) | exact fld_tr_rows (by assumption) (by assumption) | exact fld_tr_rb (by assumption) (by assumption) | exact fld_tr_ever (by assumption) (by assumption)
  | exact fld_h_number (by assumption) (by assumption) | exact fld_h_thing (by assumption) (by assumption) | exact fld_h_rights (by assumption) (by assumption) | exact fld_h_giver (by assumption) (by assumption) | exact fld_h_holder (by assumption) (by assumption))
local macro_rules | `(tactic| walk_at "get") => `(tactic| first
  | assumption
  | exact get_kn1 (by assumption) (by assumption) | exact get_kn0 (by assumption) (by assumption) | exact get_rw1 (by assumption) (by assumption) | exact get_rw0 (by assumption) (by assumption)
  | exact get_rb1 (by assumption) (by assumption) | exact get_rb0 (by assumption) (by assumption) | exact get_th1 (by assumption) (by assumption) | exact get_th0 (by assumption) (by assumption))
local macro_rules | `(tactic| walk_at "ins") => `(tactic| first | exact insTa (by assumption) rfl | exact insTr (by assumption) rfl)
local macro_rules | `(tactic| walk_at "s") => `(tactic| first
  | refine ⟨_, rfl, ?_⟩
  | refine ⟨rfl, ?_⟩
  | refine zI fun _ => ?_
  | with_reducible refine iteF ?_ | with_reducible refine iteT ?_
  | ((with_reducible refine iteDy ?_ ?_); focus (walk_at "c"; done)) | ((with_reducible refine iteDn ?_ ?_); focus (walk_at "c"; done)) | ((with_reducible refine iteNy ?_ ?_); focus (walk_at "c"; done)) | ((with_reducible refine iteNn ?_ ?_); focus (walk_at "c"; done))
  | refine fldI (by walk_at "fld") ?_
  | refine getI (by walk_at "get") ?_ | refine getS (by walk_at "get") ?_
  | refine ⟨by walk_at "ins", ?_⟩
  | refine ⟨_, _, _, _, true, rfl, .ty _, .base (.str _), kit_ty (by decide +kernel), ?_⟩
  | refine ⟨_, _, _, _, true, rfl, .ty _, .base (.int _), kit_ty (by decide +kernel), ?_⟩
  | refine ⟨_, _, _, _, false, rfl, .ty _, .base (.int _), kit_ty (by decide +kernel), ?_⟩
  | refine ⟨_, _, rfl, rfl, ?_⟩
  | refine ⟨_, _, rfl, rfl, trivial, ?_⟩)
local macro_rules | `(tactic| walk_at "w") => `(tactic| repeat (walk_at "s"))
theorem fits63 {t : Th} : fitsN t ||| 32 ≤ 63 := by cases t <;> simp only [fitsN] <;> decide
theorem Wf.newT {m : Mo} {th : Th} {t : Str} {x b hx kx : Addr} {j : Nat} (w : Wf m) (h40 : m.nth < 40) (hev : m.ever < 1000) (ht : t ∈ m.names) (hp : ∀ nm r, th = .post nm r → nm ≠ rootN ∧ nm.length ≤ 100) (hd : ∀ ls, th = .door ls → ls = []) : Wf (m.newT th t x b hx kx j) := by
  have w1 := (w.addTh (x := x) (b := b) h40 hp hd)
  have w2 : Wf ((m.addTh th x b).addH ⟨m.nth, fitsN th ||| 32, none, t⟩ hx kx) := w1.rootH (Nat.lt_succ_self _) fits63 hev
  exact w2.setSlot (nm := t) (j := j) (n := m.ever) ht (by show m.ever ∈ m.keys ++ [m.ever]; simp)
section
variable {P : Program} {w : World} {K : PySem.W.Frag} {mg : Str → Option Value} {base : Heap} (G : Gx K mg base)
include G
def sp_kept_thing (K : PySem.W.Frag) : Sp := fun vs H Q E => ∃ H0 tg m t x dx b th, vs = [.ref m.k, .str t, .ref x] ∧ Kn K H0 tg m ∧ Al H0 H ∧ m.ever < 1000 ∧ m.nth < 40 ∧ RunT m t ∧ none ∈ (m.task t).rows ∧
  (∀ o, nt o → H0 x ≠ some o) ∧ (∀ o, nt o → H0 b ≠ some o) ∧ (match th with | .line => x ≠ b | .door _ => x ≠ b | _ => True) ∧ H x = some (.ins (thC K th) dx (thF m.nth th b)) ∧ SubAt H th b ∧ (∀ nm r, th = .post nm r → nm ≠ rootN ∧ nm.length ≤ 100) ∧
  (∀ H' tg' hx kx j, freeAt m t j → Stp H0 tg H' tg' → Kn K H' tg' (m.newT th t x b hx kx j) → Q (nV j) H')
omit G in
theorem sc_kept_thing : FnScope ["kernel", "task", "thing"] ["kernel", "task", "thing"] (defScope s_kept_thing) := ⟨rfl, rfl, rfl, by decide +kernel, rfl, by decide +kernel, by decide +kernel⟩
theorem ok_kept_thing : FnR P w K mg base (L2.CX P w) 13 (He.ga K "kept_thing") (sp_kept_thing K) := by
  refine mkF (k := 12) G.f_kept_thing sc_kept_thing (fun _ _ _ _ _ _ us hl => match us, hl with | [_, _, _], _ => rfl) (fun vs H Q E h => by repeat (first | (obtain ⟨e, _⟩ := h; cases e; rfl; done) | obtain ⟨_, h⟩ := h)) (fun cdv A outer s H vs Q E hr h => ?_)
  have S := sc_kept_thing
  obtain ⟨H0, tg, m, t, x, dx, b, th, rfl, KN, a0, hev, h40, hq, hn, fx, fb, nxb, ex, esub, hp, k⟩ := h
  have R := KN.r
  have R0 := R.al a0
  have hd : ∀ ls, th = .door ls → ls = [] := fun ls e => by subst e; exact esub.1
  have eth := a0.dK KN.th
  have ekn := a0.dK KN.kn
  have f0 := fld_thn G ex
  have nthx : m.th ≠ x := fun z => by rw [z, ex] at eth; cases eth
  refine ⟨_, (pss_cons (ps_dput (hu_of hr) (pe_fd (pv 0)) (pe_fd (pv 2)) (pv 2) rfl)
      (pss_one (ps_ret (pe_m (ok_Tasks_put G) (hr.mono (by omega)) G.cl_Tasks G.m_Tasks_put tkd (pe_fd (pv 0)) (pa_cons (pv 1) (pa_cons (pe_m (ok_Tree_rooted G) (hr.mono (by omega)) G.cl_Tree G.m_Tree_rooted tkd (pe_fd (pv 0)) (pa_cons (pe_fd (pv 2)) (pa_cons (pe_op op_or (pe_d0 (k := 12) (hr.mono (by omega)) tkd (pv 2)) (pe_ci rfl G.c_PASS)) (pa_cons (pv 1) pa_nil)))) pa_nil)))))), ?_⟩
  walk_at "w"
  refine ⟨_, _, rfl, DPut.k (k := Sum.inl (m.nth : Int)) eth (by unfold rowsD; rw [List.length_map, List.length_range, sizeLine_eq]; omega), ?_⟩
  have hnot : m.nth ∉ List.range m.nth := by simp
  rw [put_rows hnot, ← List.range_succ]
  have c1 : Chg [.th, .thg m.nth, .sub m.nth] H0 tg (L2.upd H m.th (.dK (rowsD (List.range (m.nth + 1)) (nput m.tha m.nth x)))) tg := (Chg.refl.al a0).upd R.th_tag (by simp) eth trivial
  have ex1 := (upd_ne (o := .dK (rowsD (List.range (m.nth + 1)) (nput m.tha m.nth x))) nthx.symm).trans ex
  have hk1 := (upd_ne (o := .dK (rowsD (List.range (m.nth + 1)) (nput m.tha m.nth x))) (show m.kn ≠ m.th from fun z => by have := R.kn_tag; rw [z, R.th_tag] at this; cases this)).trans ekn
  obtain ⟨tg1, cc, R1, htg⟩ : ∃ tg1, Chg [.th, .thg m.nth, .sub m.nth] H0 tg (L2.upd H m.th (.dK (rowsD (List.range (m.nth + 1)) (nput m.tha m.nth x)))) tg1 ∧ Rep K (L2.upd H m.th (.dK (rowsD (List.range (m.nth + 1)) (nput m.tha m.nth x)))) tg1 (m.addTh th x b) ∧ True := by
    have c2 := c1.adopt (x := x) (r := .thg m.nth) fx
    have nbth : ∀ (o : HO), H b = some o → (∀ ks, o ≠ .dK ks) → m.th ≠ b := fun o e ne z => by rw [← z, eth] at e; exact ne _ (Option.some.inj e).symm
    cases th with
    | cell => exact ⟨_, c2, R.addTh (b := b) (dx := dx) c2 upd_same ex1 trivial (by rw [tset_ne nthx]; exact R.th_tag) tset_same trivial, trivial⟩
    | post nm r => exact ⟨_, c2, R.addTh (b := b) (dx := dx) c2 upd_same ex1 trivial (by rw [tset_ne nthx]; exact R.th_tag) tset_same trivial, trivial⟩
    | line =>
      have nb : m.th ≠ b := nbth _ esub (fun ks z => by cases z)
      have c3 := c2.adopt (x := b) (r := .sub m.nth) fb
      exact ⟨_, c3, R.addTh (b := b) (dx := dx) c3 upd_same ex1 ((upd_ne nb.symm).trans esub) (by rw [tset_ne nb, tset_ne nthx]; exact R.th_tag) (by rw [tset_ne nxb]; exact tset_same) tset_same, trivial⟩
    | door ls =>
      have nb : m.th ≠ b := nbth _ esub.2 (fun ks z => by cases z)
      have c3 := c2.adopt (x := b) (r := .sub m.nth) fb
      exact ⟨_, c3, R.addTh (b := b) (dx := dx) c3 upd_same ex1 ⟨esub.1, (upd_ne nb.symm).trans esub.2⟩ (by rw [tset_ne nb, tset_ne nthx]; exact R.th_tag) (by rw [tset_ne nxb]; exact tset_same) tset_same, trivial⟩
  have eth1 : (L2.upd H m.th (.dK (rowsD (List.range (m.nth + 1)) (nput m.tha m.nth x)))) m.th = some (.dK (rowsD (List.range (m.nth + 1)) (nput m.tha m.nth x))) := upd_same
  generalize L2.upd H m.th (.dK (rowsD (List.range (m.nth + 1)) (nput m.tha m.nth x))) = H1 at *
  have w1 := KN.w.addTh (x := x) (b := b) h40 hp hd
  have f2 : FldAt K H1 (.ref m.k) "tasks" (.ref m.ta) := fld_k_tasks (m := m.addTh th x b) G R1
  have f3 : FldAt K H1 (.ref m.k) "tree" (.ref m.tr) := fld_k_tree (m := m.addTh th x b) G R1
  have i1 : InsC H1 (.ref m.ta) (He.ga K "Tasks") "put" := insTa (m := m.addTh th x b) R1 rfl
  have i2 : InsC H1 (.ref m.tr) (He.ga K "Tree") "rooted" := insTr (m := m.addTh th x b) R1 rfl
  have f4 := fld_thn G ex1
  walk_at "w"
  refine ⟨i1, ?_⟩
  walk_at "w"
  refine ⟨i2, ?_⟩
  walk_at "w"
  obtain ⟨C, dx2, fs, f, e1, l1, cl1, m1, F1⟩ := fits_ex (P := P) (w := w) G ex1
  refine ⟨x, C, dx2, fs, f, _, rfl, e1, l1, cl1, m1, F1, ?_⟩
  walk_at "w"
  have eor : Builtin.bitOr (fitsN th : Int) 32 = ((fitsN th ||| 32 : Nat) : Int) := bitOr_nat
  refine ⟨tg1, m.addTh th x b, m.nth, fitsN th ||| 32, t, ?_, R1, w1.t.ev, w1.t.sz, fun H2 tg2 hx kx st2 R2 kp2 => ?_⟩
  · show [V.ref m.tr, nV m.nth, V.int (Builtin.bitOr (fitsN th : Int) 32), V.str t] = _
    rw [eor]
    rfl
  have w2 : Wf ((m.addTh th x b).addH ⟨m.nth, fitsN th ||| 32, none, t⟩ hx kx) := w1.rootH (Nat.lt_succ_self _) fits63 hev
  walk_at "w"
  refine ⟨tg2, (m.addTh th x b).addH ⟨m.nth, fitsN th ||| 32, none, t⟩ hx kx, t, m.ever, rfl, R2, w2.bd, hq, hn, fun j H3 hj st3 R3 kp3 => ?_⟩
  have w3 : Wf (m.newT th t x b hx kx j) := w2.setSlot (nm := t) (j := j) (n := m.ever) hq.1 (by show m.ever ∈ m.keys ++ [m.ever]; simp)
  have et := R2.tsl (s := t) hq.1
  have tk1 : tg1 m.kn = some .kn := R1.kn_tag
  have th1 : tg1 m.th = some .th := R1.th_tag
  have ek2 : H2 m.kn = some (.dK (knD m.names m.tka)) := kp2 _ _ (by rw [tk1]; simp) (by rw [tk1]; simp) (by rw [tk1]; simp) hk1
  have eh2 := kp2 _ _ (by rw [th1]; simp) (by rw [th1]; simp) (by rw [th1]; simp) eth1
  refine k H3 tg2 hx kx j hj (cc.stp.trans (st2.trans st3)) ⟨R3, w3, ?_, ?_⟩
  · refine (kp3 m.kn fun z => ?_).trans ek2
    have et' : H2 (m.tsa t) = _ := et
    have z' : m.kn = m.tsa t := z
    rw [← z', ek2] at et'
    cases et'
  · refine (kp3 m.th fun z => ?_).trans eh2
    have et' : H2 (m.tsa t) = _ := et
    have z' : m.th = m.tsa t := z
    rw [← z', eh2] at et'
    cases et'
end
end Pk
end
/-! PkF16 -/
section
set_option maxHeartbeats 4000000
namespace Pk
open PySem PySem.Spec PyProof.Rows L2
local macro_rules | `(tactic| walk_at "c") => `(tactic| first | assumption | omega | exact rfl | (intro z; cases z; done) | (simp only [nV, V.int.injEq, V.str.injEq]; first | assumption | omega))
local macro_rules | `(tactic| walk_at "fld") => `(tactic| first
  | assumption
  | exact fld_k_tasks (by assumption) (by assumption) | exact fld_k_tree (by assumption) (by assumption) | exact fld_k_things (by assumption) (by assumption) | exact fld_ta_known (by assumption) (by assumption)
  | exact fld_t_rows (by assumption) (by assumption) (by assumption) | exact fld_t_run1 (by assumption) (by assumption) (by assumption) (by assumption) | exact fld_t_runs (by assumption) (by assumption) (by assumption) | exact fld_t_maker (by assumption) (by assumption) (by assumption) | exact fld_tr_rows (by assumption) (by assumption) | exact fld_tr_rb (by assumption) (by assumption) | exact fld_tr_ever (by assumption) (by assumption)
  | exact fld_h_number (by assumption) (by assumption) | exact fld_h_thing (by assumption) (by assumption) | exact fld_h_rights (by assumption) (by assumption) | exact fld_h_giver (by assumption) (by assumption) | exact fld_h_holder (by assumption) (by assumption))
local macro_rules | `(tactic| walk_at "get") => `(tactic| first
  | assumption
  | exact get_kn1 (by assumption) (by assumption) | exact get_kn0 (by assumption) (by assumption) | exact get_rw1 (by assumption) (by assumption) | exact get_rw0 (by assumption) (by assumption)
  | exact get_rb1 (by assumption) (by assumption) | exact get_rb0 (by assumption) (by assumption) | exact get_th1 (by assumption) (by assumption) | exact get_th0 (by assumption) (by assumption))
local macro_rules | `(tactic| walk_at "ins") => `(tactic| first | exact insTa (by assumption) rfl | exact insTr (by assumption) rfl)
local macro_rules | `(tactic| walk_at "s") => `(tactic| first
  | refine ⟨_, rfl, ?_⟩
  | refine ⟨rfl, ?_⟩
  | refine zI fun _ => ?_
  | with_reducible refine iteF ?_ | with_reducible refine iteT ?_
  | ((with_reducible refine iteDy ?_ ?_); focus (walk_at "c"; done)) | ((with_reducible refine iteDn ?_ ?_); focus (walk_at "c"; done)) | ((with_reducible refine iteNy ?_ ?_); focus (walk_at "c"; done)) | ((with_reducible refine iteNn ?_ ?_); focus (walk_at "c"; done))
  | refine fldI (by walk_at "fld") ?_
  | refine getI (by walk_at "get") ?_ | refine getS (by walk_at "get") ?_
  | refine ⟨by walk_at "ins", ?_⟩
  | refine ⟨_, _, _, _, true, rfl, .ty _, .base (.str _), kit_ty (by decide +kernel), ?_⟩
  | refine ⟨_, _, _, _, true, rfl, .ty _, .base (.int _), kit_ty (by decide +kernel), ?_⟩
  | refine ⟨_, _, _, _, false, rfl, .ty _, .base (.int _), kit_ty (by decide +kernel), ?_⟩
  | refine ⟨_, _, rfl, rfl, ?_⟩
  | refine ⟨_, _, rfl, rfl, trivial, ?_⟩)
local macro_rules | `(tactic| walk_at "w") => `(tactic| repeat (walk_at "s"))
theorem inV_str {l : List Str} {s : Str} : inV (.str s) (l.map V.str) = decide (s ∈ l) := by
  unfold inV
  rw [List.any_map]
  rw [Bool.eq_iff_iff, List.any_eq_true, decide_eq_true_iff]
  constructor
  · rintro ⟨x, hx, e⟩
    have : (x == s) = true := e
    rw [← eq_of_beq this]; exact hx
  · intro h
    exact ⟨s, h, (beq_self_eq_true s : (s == s) = true)⟩
theorem flat_str {l : List Str} : (l.map V.str).all flatV = true := by
  induction l with
  | nil => rfl
  | cons a r ih => exact ih
theorem or32 {r h : Nat} (hr : r ≤ 63) (hh : h ≤ 63) (e : (r ||| 32) &&& h = r ||| 32) : r &&& h = r ∧ 32 &&& h = 32 := by
  have : ∀ r h : Fin 64, (r.val ||| 32) &&& h.val = r.val ||| 32 → r.val &&& h.val = r.val ∧ 32 &&& h.val = 32 := by decide +kernel
  exact this ⟨r, by omega⟩ ⟨h, by omega⟩ e
theorem or32_le {r : Nat} (hr : r ≤ 63) : r ||| 32 ≤ 63 := by
  have : ∀ r : Fin 64, r.val ||| 32 ≤ 63 := by decide +kernel
  exact this ⟨r, by omega⟩
def MkOk (m : Mo) (t : Str) : Prop := RunT m t ∧ none ∈ (m.task t).rows ∧ m.nth < 40
def StOk (m : Mo) (t nm : Str) : Prop := RunT m t ∧ isName nm = true ∧ nm ∉ m.names ∧ none ∈ (m.task t).rows ∧ m.nth < 40 ∧ (runL m).length < 12
section
variable {P : Program} {w : World} {K : PySem.W.Frag} {mg : Str → Option Value} {base : Heap} (G : Gx K mg base)
include G
def sp_make (K : PySem.W.Frag) : Sp := fun vs H Q E => ∃ tg m t kd, vs = [.ref m.k, .str t, .str kd] ∧ Kn K H tg m ∧ m.ever < 1000 ∧ (kd = "cell" ∨ kd = "line" ∨ kd = "door") ∧ (¬ MkOk m t → Er K H E) ∧
  (MkOk m t → ∀ H' tg' x b hx kx j, freeAt m t j → Stp H tg H' tg' → Kn K H' tg' (m.newT (thOf kd) t x b hx kx j) → Q (nV j) H')
omit G in
theorem sc_make : FnScope ["kernel", "task", "kind"] ["kernel", "task", "kind"] (defScope s_make) := ⟨rfl, rfl, rfl, by decide +kernel, rfl, by decide +kernel, by decide +kernel⟩
theorem ok_make : FnR P w K mg base (L2.CX P w) 14 (He.ga K "make") (sp_make K) := by
  refine mkF (k := 13) G.f_make sc_make (fun _ _ _ _ _ _ us hl => match us, hl with | [_, _, _], _ => rfl) (fun vs H Q E h => by repeat (first | (obtain ⟨e, _⟩ := h; cases e; rfl; done) | obtain ⟨_, h⟩ := h)) (fun cdv A outer s H vs Q E hr h => ?_)
  have S := sc_make
  obtain ⟨tg, m, t, kd, rfl, KN, hev, hkd, er, k⟩ := h
  have R := KN.r
  refine ⟨_, (pss_cons (ps_expr (pe_m (ok_Tasks_need G) (hr.mono (by omega)) G.cl_Tasks G.m_Tasks_need tkd (pe_fd (pv 0)) (pa_cons (pv 1) pa_nil)))
      (pss_cons (ps_if (pt_cmpR op_notIn_seq (pv 2) (pe_lst (pa_cons pe_str (pa_cons pe_str (pa_cons pe_str pa_nil)))) rfl) (pss_one (ps_raise rfl tkd (pmk_own PySem.F.excBase_ValueError G.x_NoKind.1 G.g_NoKind G.x_NoKind.2.1 (raises_own G.x_NoKind.2.2.1 G.x_NoKind.2.2.2) rfl))) pss_nil)
      (pss_cons (ps_expr (pe_f (ok_need_room G) (hr.mono (by omega)) rfl G.g_need_room (kp_of G.f_need_room) tkd (pa_cons (pv 0) (pa_cons (pv 1) pa_nil))))
      (pss_one (ps_ret (pe_f (ok_kept_thing G) (hr.mono (by omega)) rfl G.g_kept_thing (kp_of G.f_kept_thing) tkd (pa_cons (pv 0) (pa_cons (pv 1) (pa_cons (pe_f (ok_made_thing G) (hr.mono (by omega)) rfl G.g_made_thing (kp_of G.f_made_thing) tkd (pa_cons (pv 2) (pa_cons (pe_callB call_lenD (by rfl) G.b_len PySem.boot_len (pa_cons (pe_fd (pv 0)) pa_nil)) pa_nil))) pa_nil))))))))), ?_⟩
  walk_at "w"
  refine ⟨tg, m, t, rfl, R, fun h => er fun q => h q.1, fun hq => ?_⟩
  walk_at "w"
  refine ⟨sz3, fun p hp => ?_⟩
  have a1 := Al.new (o := .lst [V.str "cell", V.str "line", V.str "door"]) hp
  have K1 := KN.al a1
  have R1 := K1.r
  have hin : inV (.str kd) [V.str "cell", V.str "line", V.str "door"] = true := by rcases hkd with rfl | rfl | rfl <;> decide
  walk_at "w"
  refine ⟨p, _, rfl, .inl (sqL_at upd_same), rfl, rfl, ?_⟩
  rw [if_pos rfl, hin]
  walk_at "w"
  refine ⟨tg, m, t, rfl, R1, K1.th, fun h => (er h).al a1, fun h1 h2 h3 => ?_⟩
  have ok : MkOk m t := ⟨h1, h2, h3⟩
  have hl : (rowsD (List.range m.nth) m.tha).length = m.nth := by unfold rowsD; rw [List.length_map, List.length_range]
  walk_at "w"
  refine ⟨m.th, _, rfl, K1.th, ?_⟩
  rw [hl]
  walk_at "w"
  refine ⟨kd, m.nth, rfl, fun H2 x dx b a2 fx fb nxb ex esub => ?_⟩
  walk_at "w"
  have a12 := a1.trans a2
  have hpost : ∀ nm r, thOf kd = .post nm r → nm ≠ rootN ∧ nm.length ≤ 100 := fun nm r e => by
    unfold thOf at e
    split at e
    · cases e
    · split at e <;> cases e
  have hnx : (match thOf kd with | .line => x ≠ b | .door _ => x ≠ b | _ => True) := by
    split
    · exact nxb
    · exact nxb
    · trivial
  refine ⟨H, tg, m, t, x, dx, b, thOf kd, rfl, KN, a12, hev, h3, h1, h2, a1.free (by exact fx), a1.free (by exact fb), hnx, ex, esub, hpost, fun H' tg' hx kx j hj st KN' => k ok H' tg' x b hx kx j hj st KN'⟩
def sp_start (K : PySem.W.Frag) : Sp := fun vs H Q E => ∃ tg m t nm, vs = [.ref m.k, .str t, .str nm] ∧ Kn K H tg m ∧ m.ever < 1000 ∧ m.names.length < 200 ∧ nm.length ≤ 100 ∧ nm ≠ "" ∧ t ≠ "" ∧ t.length ≤ 1000 ∧ (¬ StOk m t nm → Er K H E) ∧
  (StOk m t nm → ∀ H' tg' x sa x2 b hx kx j, freeAt m t j → Stp H tg H' tg' → Kn K H' tg' ((m.addTask nm t x sa).newT (.post nm true) t x2 b hx kx j) → Q (nV j) H')
omit G in
theorem sc_start : FnScope ["kernel", "task", "name"] ["kernel", "task", "name"] (defScope s_start) := ⟨rfl, rfl, rfl, by decide +kernel, rfl, by decide +kernel, by decide +kernel⟩
theorem ok_start : FnR P w K mg base (L2.CX P w) 14 (He.ga K "start") (sp_start K) := by
  refine mkF (k := 13) G.f_start sc_start (fun _ _ _ _ _ _ us hl => match us, hl with | [_, _, _], _ => rfl) (fun vs H Q E h => by repeat (first | (obtain ⟨e, _⟩ := h; cases e; rfl; done) | obtain ⟨_, h⟩ := h)) (fun cdv A outer s H vs Q E hr h => ?_)
  have S := sc_start
  obtain ⟨tg, m, t, nm, rfl, KN, hev, h200, hnl, hne, htne, htl, er, k⟩ := h
  have R := KN.r
  refine ⟨_, (pss_cons (ps_expr (pe_m (ok_Tasks_need G) (hr.mono (by omega)) G.cl_Tasks G.m_Tasks_need tkd (pe_fd (pv 0)) (pa_cons (pv 1) pa_nil)))
      (pss_cons (ps_if (pt_not (pt_val (pe_f (ok_is_name G) (hr.mono (by omega)) rfl G.g_is_name (kp_of G.f_is_name) tkd (pa_cons (pv 2) pa_nil)))) (pss_one (ps_raise rfl tkd (pmk_own PySem.F.excBase_ValueError G.x_NoName.1 G.g_NoName G.x_NoName.2.1 (raises_own G.x_NoName.2.2.1 G.x_NoName.2.2.2) rfl))) pss_nil)
      (pss_cons (ps_if (pt_cmpR op_in_seq (pv 2) (pe_m0 (ok_Tasks_names G) (hr.mono (by omega)) G.cl_Tasks G.m_Tasks_names tkd (pe_fd (pv 0))) rfl) (pss_one (ps_raise rfl tkd (pmk_own PySem.F.excBase_ValueError G.x_Taken.1 G.g_Taken G.x_Taken.2.1 (raises_own G.x_Taken.2.2.1 G.x_Taken.2.2.2) rfl))) pss_nil)
      (pss_cons (ps_expr (pe_f (ok_need_room G) (hr.mono (by omega)) rfl G.g_need_room (kp_of G.f_need_room) tkd (pa_cons (pv 0) (pa_cons (pv 1) pa_nil))))
      (pss_cons (ps_if (pt_cmpR op_ge (pe_callB call_len (by rfl) G.b_len PySem.boot_len (pa_cons (pe_m0 (ok_Tasks_running G) (hr.mono (by omega)) G.cl_Tasks G.m_Tasks_running tkd (pe_fd (pv 0))) pa_nil)) (pe_ci rfl G.c_MOST_RUNNING) (nomark _)) (pss_one (ps_raise rfl tkd (pmk_own PySem.F.excBase_ValueError G.x_TooMany.1 G.g_TooMany G.x_TooMany.2.1 (raises_own G.x_TooMany.2.2.1 G.x_TooMany.2.2.2) rfl))) pss_nil)
      (pss_cons (ps_expr (pe_m (ok_Tasks_added G) (hr.mono (by omega)) G.cl_Tasks G.m_Tasks_added tkd (pe_fd (pv 0)) (pa_cons (pv 2) (pa_cons (pv 1) pa_nil))))
      (pss_one (ps_ret (pe_f (ok_kept_thing G) (hr.mono (by omega)) rfl G.g_kept_thing (kp_of G.f_kept_thing) tkd (pa_cons (pv 0) (pa_cons (pv 1) (pa_cons (pe_mk (ok_Post_init G) (hr.mono (by omega)) rfl G.g_Post (pa_cons (pe_callB call_lenD (by rfl) G.b_len PySem.boot_len (pa_cons (pe_fd (pv 0)) pa_nil)) (pa_cons (pv 2) pa_nil))) pa_nil)))))))))))), ?_⟩
  walk_at "w"
  refine ⟨tg, m, t, rfl, R, fun h => er fun q => h q.1, fun hq => ?_⟩
  walk_at "w"
  refine ⟨by omega, fun H1 a1 => ?_⟩
  have K1 := KN.al a1
  have R1 := K1.r
  by_cases hN : isName nm = true
  · rw [hN]
    walk_at "w"
    refine ⟨tg, m, rfl, R1, fun H2 p2 a2 e2 => ?_⟩
    have a12 := a1.trans a2
    have K2 := KN.al a12
    have R2 := K2.r
    walk_at "w"
    refine ⟨p2, _, rfl, .inl (sqL_at e2), rfl, flat_str, ?_⟩
    rw [if_neg (by decide), inV_str]
    by_cases hm : nm ∈ m.names
    · walk_at "w"
      exact er (fun q => q.2.2.1 hm) _ _ _ (xc G.e_Taken) a12
    · walk_at "w"
      refine ⟨tg, m, t, rfl, R2, K2.th, fun h => (er fun q => h ⟨q.1, q.2.2.2.1, q.2.2.2.2.1⟩).al a12, fun h1 h2 h3 => ?_⟩
      walk_at "w"
      refine ⟨tg, m, rfl, R2, K2.w.bd, K2.kn, fun H3 p3 a3 e3 => ?_⟩
      have a13 := a12.trans a3
      have K3 := KN.al a13
      have R3 := K3.r
      walk_at "w"
      refine ⟨_, _, rfl, .inl ⟨_, sqL_at e3, rfl⟩, ?_⟩
      rw [List.length_map]
      by_cases h12 : (12 : Int) ≤ (runL m).length
      · walk_at "w"
        exact er (fun q => absurd q.2.2.2.2.2 (by omega)) _ _ _ (xc G.e_TooMany) a13
      · walk_at "w"
        have ok : StOk m t nm := ⟨h1, hN, hm, h2, h3, by omega⟩
        have aok : AddOk m nm t := ⟨hN, hm, fun _ => h1, by omega⟩
        refine ⟨tg, m, nm, t, rfl, R3, K3.w.bd, K3.kn, by omega, htl, fun h => absurd aok h, fun _ H4 tg4 x sa st4 R4 k4 t4 => ?_⟩
        have w4 : Wf (m.addTask nm t x sa) := KN.w.addTask aok htne hne hnl h200
        have K4 : Kn K H4 tg4 (m.addTask nm t x sa) := ⟨R4, w4, k4, t4 _ K3.th (Pl.nt (o := .dK _) trivial)⟩
        have ntn : t ≠ nm := fun z => hm (z ▸ h1.1)
        have f1 : FldAt K H4 (.ref m.k) "things" (.ref m.th) := fld_k_things (m := m.addTask nm t x sa) G R4
        have hl : (rowsD (List.range m.nth) m.tha).length = m.nth := by unfold rowsD; rw [List.length_map, List.length_range]
        have tkt : (m.addTask nm t x sa).task t = m.task t := if_neg ntn
        walk_at "w"
        refine ⟨m.th, _, rfl, K4.th, ?_⟩
        rw [show (rowsD (List.range (m.addTask nm t x sa).nth) (m.addTask nm t x sa).tha).length = m.nth from hl]
        walk_at "w"
        refine fun x2 dx2 hx2 hdx2 nx2 => ⟨x2, dx2, m.nth, nm, rfl, upd_same, fun H5 e5 kp5 => ⟨rfl, ?_⟩⟩
        have a5 : Al H4 H5 := Al.of fun b o e => kp5 b o (ne_of_none e hx2) (by rw [upd_ne (ne_of_none e hx2), upd_ne (ne_of_none e hdx2)]; exact e)
        have frx : ∀ o, nt o → H4 x2 ≠ some o := fun o _ z => by rw [hx2] at z; cases z
        walk_at "w"
        refine ⟨H4, tg4, m.addTask nm t x sa, t, x2, dx2, x2, .post nm true, rfl, K4, a5, hev, h3, ⟨List.mem_append_left _ h1.1, by rw [tkt]; exact h1.2⟩, by rw [tkt]; exact h2, frx, frx, trivial, e5, trivial, fun nm' r e => ?_, fun H' tg' hx kx j hj st KN' => ?_⟩
        · cases e
          exact ⟨fun z => hm (z ▸ KN.w.root.1), hnl⟩
        · have hj' : freeAt m t j := by unfold freeAt at hj ⊢; rwa [tkt] at hj
          exact k ok H' tg' x sa x2 x2 hx kx j hj' ((Stp.al a13).trans (st4.trans st)) KN'
  · have hN' : isName nm = false := by simpa using hN
    rw [hN']
    walk_at "w"
    exact er (fun q => hN q.2.1) _ _ _ (xc G.e_NoName) a1
theorem mkFd {x qual : Str} {st : Stmt} {f : Addr} {N ps : List Str} {dvs : List V} {k : Nat} {sp : Sp} (n j : Nat) (hd : dvs ≠ []) (F : ∃ fd, FunD K x qual (defArgs st) (defBody st) (defScope st) dvs [] f fd) (S : FnScope N ps (defScope st)) (hn : n + (dvs.length - j) = ps.length)
    (bd : ∀ (T : Addr) (kV doc pm : Value) (an : Option Addr) (cdv ct : Value) (us its : List Value), us.length = n → its.length = dvs.length →
      ∃ k, bindArgs (PySem.W.fnOf x qual (defArgs st) (defBody st) (defScope st) (.ref T) kV doc pm an cdv ct) ⟨us, []⟩ = seqItems? (.ref T) >>= k ∧ k (some its.toArray) = pure (ps.zip (us ++ its.drop j)))
    (len : ∀ vs H Q E, sp vs H Q E → vs.length = ps.length)
    (hbody : ∀ (cdv : Value) (A : Around) (outer : List Env) (s : Shared) (H : Hp) (vs : List V) (Q : VK) (E : XK), Room k (A.deeper (envOfC qual (defScope st) s.heap.objs.size f cdv)) → sp vs H Q E →
      ∃ t, PSs (cxOf (L2.CX P w) P w K mg base N qual (defScope st) f cdv A outer s H E) (defBody st) t ∧ t { nx := fun _ H' => Q .non H', rt := Q } (L2.start N vs) H) :
    FnR P w K mg base (L2.CX P w) (k + 1) f (fun vs H Q E => sp (vs ++ dvs.drop j) H Q E) := by
  obtain ⟨fd, F⟩ := F
  have o : FnOk P w K mg base (L2.CX P w) (k + 1) f fd ps sp := F.ok S len hbody
  obtain ⟨ds, hv, hb⟩ := F.binds1 n j hd hn bd
  exact o.raw hb hv
end
end Pk
end
/-! PkF17 -/
section
set_option maxHeartbeats 4000000
namespace Pk
open PySem PySem.Spec PyProof.Rows L2
local macro_rules | `(tactic| walk_at "c") => `(tactic| first | assumption | omega | exact rfl | (intro z; cases z; done) | (simp only [nV, V.int.injEq, V.str.injEq]; first | assumption | omega))
local macro_rules | `(tactic| walk_at "fld") => `(tactic| first
  | assumption
  | exact fld_k_tasks (by assumption) (by assumption) | exact fld_k_tree (by assumption) (by assumption) | exact fld_k_things (by assumption) (by assumption) | exact fld_ta_known (by assumption) (by assumption)
  | exact fld_t_rows (by assumption) (by assumption) (by assumption) | exact fld_t_run1 (by assumption) (by assumption) (by assumption) (by assumption) | exact fld_t_runs (by assumption) (by assumption) (by assumption) | exact fld_t_maker (by assumption) (by assumption) (by assumption) | exact fld_tr_rows (by assumption) (by assumption) | exact fld_tr_rb (by assumption) (by assumption) | exact fld_tr_ever (by assumption) (by assumption)
  | exact fld_h_number (by assumption) (by assumption) | exact fld_h_thing (by assumption) (by assumption) | exact fld_h_rights (by assumption) (by assumption) | exact fld_h_giver (by assumption) (by assumption) | exact fld_h_holder (by assumption) (by assumption))
local macro_rules | `(tactic| walk_at "get") => `(tactic| first
  | assumption
  | exact get_kn1 (by assumption) (by assumption) | exact get_kn0 (by assumption) (by assumption) | exact get_rw1 (by assumption) (by assumption) | exact get_rw0 (by assumption) (by assumption)
  | exact get_rb1 (by assumption) (by assumption) | exact get_rb0 (by assumption) (by assumption) | exact get_th1 (by assumption) (by assumption) | exact get_th0 (by assumption) (by assumption))
local macro_rules | `(tactic| walk_at "ins") => `(tactic| first | exact insTa (by assumption) rfl | exact insTr (by assumption) rfl)
local macro_rules | `(tactic| walk_at "s") => `(tactic| first
  | refine ⟨_, rfl, ?_⟩
  | refine ⟨rfl, ?_⟩
  | refine zI fun _ => ?_
  | with_reducible refine iteF ?_ | with_reducible refine iteT ?_
  | ((with_reducible refine iteDy ?_ ?_); focus (walk_at "c"; done)) | ((with_reducible refine iteDn ?_ ?_); focus (walk_at "c"; done)) | ((with_reducible refine iteNy ?_ ?_); focus (walk_at "c"; done)) | ((with_reducible refine iteNn ?_ ?_); focus (walk_at "c"; done))
  | refine fldI (by walk_at "fld") ?_
  | refine getI (by walk_at "get") ?_ | refine getS (by walk_at "get") ?_
  | refine ⟨by walk_at "ins", ?_⟩
  | refine ⟨_, _, _, _, true, rfl, .ty _, .base (.str _), kit_ty (by decide +kernel), ?_⟩
  | refine ⟨_, _, _, _, true, rfl, .ty _, .base (.int _), kit_ty (by decide +kernel), ?_⟩
  | refine ⟨_, _, _, _, false, rfl, .ty _, .base (.int _), kit_ty (by decide +kernel), ?_⟩
  | refine ⟨_, _, rfl, rfl, ?_⟩
  | refine ⟨_, _, rfl, rfl, trivial, ?_⟩)
local macro_rules | `(tactic| walk_at "w") => `(tactic| repeat (walk_at "s"))
theorem Wf.put {m : Mo} {n r j : Nat} {nm : Str} {x kx : Addr} (w : Wf m) (ok : PbOk m n r nm) (hr : r ≤ 63) (hev : m.ever < 1000) : Wf ((m.derH n r nm x kx).setRows nm ((m.task nm).rows.set j (some m.ever))) :=
  (w.derH (ho := nm) (x := x) (kx := kx) ok.2.2 hr hev).setSlot (nm := nm) (j := j) (n := m.ever) ok.1.1 (by show m.ever ∈ m.keys ++ [m.ever]; simp)
/-- the model after a handle is made from another and put -/
def Mo.newP (m : Mo) (n r : Nat) (nm : Str) (x kx : Addr) (j : Nat) : Mo := (m.derH n r nm x kx).setRows nm ((m.task nm).rows.set j (some m.ever))
section
variable {P : Program} {w : World} {K : PySem.W.Frag} {mg : Str → Option Value} {base : Heap} (G : Gx K mg base)
include G
def NaOk (m : Mo) (t : Str) (z : Int) (r : Nat) : Prop := ∃ n, RunT m t ∧ slotAt m t z = some n ∧ PbOk m n r t
def sp_narrow (K : PySem.W.Frag) : Sp := fun vs H Q E => ∃ tg m t z r, vs = [.ref m.k, .str t, .int z, nV r] ∧ Kn K H tg m ∧ r ≤ 63 ∧ m.ever < 1000 ∧ (¬ NaOk m t z r → Er K H E) ∧
  (∀ n, RunT m t → slotAt m t z = some n → PbOk m n r t → ∀ H' tg' x kx j, freeAt m t j → Stp H tg H' tg' → Kn K H' tg' (m.newP n r t x kx j) → Q (nV j) H')
omit G in
theorem sc_narrow : FnScope ["kernel", "task", "slot", "rights", "handle"] ["kernel", "task", "slot", "rights"] (defScope s_narrow) := ⟨rfl, rfl, rfl, by decide +kernel, rfl, by decide +kernel, by decide +kernel⟩
theorem ok_narrow : FnR P w K mg base (L2.CX P w) 53 (He.ga K "narrow") (sp_narrow K) := by
  refine mkF (k := 52) G.f_narrow sc_narrow (fun _ _ _ _ _ _ us hl => match us, hl with | [_, _, _, _], _ => rfl) (fun vs H Q E h => by repeat (first | (obtain ⟨e, _⟩ := h; cases e; rfl; done) | obtain ⟨_, h⟩ := h)) (fun cdv A outer s H vs Q E hr h => ?_)
  have S := sc_narrow
  obtain ⟨tg, m, t, z, r, rfl, KN, hr63, hev, er, k⟩ := h
  have R := KN.r
  refine ⟨_, (pss_cons (ps_set (i := 4) S.nd rfl (by first | exact Or.inl rfl | exact Or.inr rfl) (pe_f (ok_handle_at G) (hr.mono (by omega)) rfl G.g_handle_at (kp_of G.f_handle_at) tkd (pa_cons (pv 0) (pa_cons (pv 1) (pa_cons (pv 2) pa_nil)))))
      (pss_cons (ps_if (pt_not (pt_val (pe_f (ok_is_rights G) (hr.mono (by omega)) rfl G.g_is_rights (kp_of G.f_is_rights) tkd (pa_cons (pv 3) pa_nil)))) (pss_one (ps_raise rfl tkd (pmk_own PySem.F.excBase_ValueError G.x_NoRights.1 G.g_NoRights G.x_NoRights.2.1 (raises_own G.x_NoRights.2.2.1 G.x_NoRights.2.2.2) rfl))) pss_nil)
      (pss_cons (ps_expr (pe_f (ok_need_rights G) (hr.mono (by omega)) rfl G.g_need_rights (kp_of G.f_need_rights) tkd (pa_cons (pv 3) (pa_cons (pe_fd (pv 4)) pa_nil))))
      (pss_one (ps_ret (pe_f (ok_put_below G) (hr.mono (by omega)) rfl G.g_put_below (kp_of G.f_put_below) tkd (pa_cons (pv 0) (pa_cons (pe_fd (pv 4)) (pa_cons (pv 3) (pa_cons (pv 1) pa_nil)))))))))), ?_⟩
  walk_at "w"
  refine ⟨tg, m, t, z, rfl, R, KN.w, fun h => er fun ⟨n, q1, q2, _⟩ => h ⟨q1, by rw [q2]; rfl⟩, fun n hq hs hk H1 x1 a1 hx => ?_⟩
  have K1 := KN.al a1
  have hrg := KN.w.t.rg n hk
  have er1 : ¬ PbOk m n r t → Er K H E := fun h => er fun ⟨n', q1, q2, q3⟩ => h (by rw [hs] at q2; cases q2; exact q3)
  walk_at "w"
  refine ⟨r, (m.row n).rights, rfl, hr63, hrg, fun h => (er1 fun q => h q.2.2.2.1).al a1, fun hsub => ?_⟩
  walk_at "w"
  refine ⟨tg, m, n, r, t, rfl, K1, hr63, hev, fun h => (er1 h).al a1, fun ok H' tg' x kx j hj st R' k' t' => ?_⟩
  exact k n hq hs ok H' tg' x kx j hj ((Stp.al a1).trans st) ⟨R', KN.w.put ok hr63 hev, k', t'⟩
/-- the rights that are handed on -/
def rgOf (rv : V) (had : Nat) : Nat := match rv with | .int z => z.toNat | _ => had
def rvOk (rv : V) : Prop := rv = .non ∨ ∃ r : Nat, rv = nV r ∧ r ≤ 63
def HaOk (m : Mo) (t : Str) (z : Int) (o : Str) (rv : V) : Prop := ∃ n, RunT m t ∧ slotAt m t z = some n ∧ (rgOf rv (m.row n).rights ||| 32) &&& (m.row n).rights = rgOf rv (m.row n).rights ||| 32 ∧ PbOk m n (rgOf rv (m.row n).rights) o
def sp_hand (K : PySem.W.Frag) : Sp := fun vs H Q E => ∃ tg m t z o rv, vs = [.ref m.k, .str t, .int z, .str o, rv] ∧ Kn K H tg m ∧ rvOk rv ∧ m.ever < 1000 ∧ (¬ HaOk m t z o rv → Er K H E) ∧
  (∀ n, RunT m t → slotAt m t z = some n → 32 &&& (m.row n).rights = 32 → PbOk m n (rgOf rv (m.row n).rights) o → ∀ H' tg' x kx j, freeAt m o j → Stp H tg H' tg' → Kn K H' tg' (m.newP n (rgOf rv (m.row n).rights) o x kx j) → Q (nV j) H')
omit G in
theorem sc_hand : FnScope ["kernel", "task", "slot", "other", "rights", "handle"] ["kernel", "task", "slot", "other", "rights"] (defScope s_hand) := ⟨rfl, rfl, rfl, by decide +kernel, rfl, by decide +kernel, by decide +kernel⟩
theorem hand_body (cdv : Value) (A : Around) (outer : List Env) (s : Shared) (H : Hp) (vs : List V) (Q : VK) (E : XK) (hr : Room 52 (A.deeper (envOfC "hand" (defScope s_hand) s.heap.objs.size (He.ga K "hand") cdv))) (h : sp_hand K vs H Q E) :
    ∃ t, PSs (cxOf (L2.CX P w) P w K mg base ["kernel", "task", "slot", "other", "rights", "handle"] "hand" (defScope s_hand) (He.ga K "hand") cdv A outer s H E) (defBody s_hand) t ∧ t { nx := fun _ H' => Q .non H', rt := Q } (L2.start ["kernel", "task", "slot", "other", "rights", "handle"] vs) H := by
  have S := sc_hand
  obtain ⟨tg, m, t, z, o, rv, rfl, KN, hrv, hev, er, k⟩ := h
  have R := KN.r
  refine ⟨_, (pss_cons (ps_set (i := 5) S.nd rfl (by first | exact Or.inl rfl | exact Or.inr rfl) (pe_f (ok_handle_at G) (hr.mono (by omega)) rfl G.g_handle_at (kp_of G.f_handle_at) tkd (pa_cons (pv 0) (pa_cons (pv 1) (pa_cons (pv 2) pa_nil)))))
      (pss_cons (ps_expr (pe_m (ok_Tasks_need G) (hr.mono (by omega)) G.cl_Tasks G.m_Tasks_need tkd (pe_fd (pv 0)) (pa_cons (pv 3) pa_nil)))
      (C8.pss_cut (ps_if (pt_cmpR op_isN (pv 4) pe_non (nomark _)) (pss_one (ps_set (i := 4) S.nd rfl (by first | exact Or.inl rfl | exact Or.inr rfl) (pe_fd (pv 5)))) pss_nil)
      (pss_cons (ps_if (pt_not (pt_val (pe_f (ok_is_rights G) (hr.mono (by omega)) rfl G.g_is_rights (kp_of G.f_is_rights) tkd (pa_cons (pv 4) pa_nil)))) (pss_one (ps_raise rfl tkd (pmk_own PySem.F.excBase_ValueError G.x_NoRights.1 G.g_NoRights G.x_NoRights.2.1 (raises_own G.x_NoRights.2.2.1 G.x_NoRights.2.2.2) rfl))) pss_nil)
      (pss_cons (ps_expr (pe_f (ok_need_rights G) (hr.mono (by omega)) rfl G.g_need_rights (kp_of G.f_need_rights) tkd (pa_cons (pe_op op_or (pv 4) (pe_ci rfl G.c_PASS)) (pa_cons (pe_fd (pv 5)) pa_nil))))
      (pss_one (ps_ret (pe_f (ok_put_below G) (hr.mono (by omega)) rfl G.g_put_below (kp_of G.f_put_below) tkd (pa_cons (pv 0) (pa_cons (pe_fd (pv 5)) (pa_cons (pv 4) (pa_cons (pv 3) pa_nil)))))))))))), ?_⟩
  walk_at "w"
  refine ⟨tg, m, t, z, rfl, R, KN.w, fun h => er fun ⟨n, q1, q2, _⟩ => h ⟨q1, by rw [q2]; rfl⟩, fun n hq hs hk H1 x1 a1 hx => ?_⟩
  have K1 := KN.al a1
  have R1 := K1.r
  have hrg := KN.w.t.rg n hk
  have er1 : ¬ ((rgOf rv (m.row n).rights ||| 32) &&& (m.row n).rights = rgOf rv (m.row n).rights ||| 32 ∧ PbOk m n (rgOf rv (m.row n).rights) o) → Er K H E := fun h => er fun ⟨n', q1, q2, q3⟩ => h (by rw [hs] at q2; cases q2; exact q3)
  walk_at "w"
  refine ⟨tg, m, o, rfl, R1, fun h => (er1 fun q => h q.2.1).al a1, fun ho => ?_⟩
  have hr63 : rgOf rv (m.row n).rights ≤ 63 := by
    rcases hrv with rfl | ⟨r, rfl, hr⟩
    · exact hrg
    · show ((r : Int)).toNat ≤ 63
      omega
  refine ⟨fun σ' H' => σ' = [some (.ref m.k), some (.str t), some (.int z), some (.str o), some (nV (rgOf rv (m.row n).rights)), some (.ref x1)] ∧ H' = H1, ?_, ?_⟩
  · rcases hrv with rfl | ⟨r, rfl, hr⟩
    · walk_at "w"
      exact rfl
    · have hnn : ¬ nV r = V.non := fun z => by cases z
      have e1 : nV (rgOf (nV r) (m.row n).rights) = nV r := by show nV ((r : Int)).toNat = nV r; simp
      rw [e1]
      walk_at "w"
      exact rfl
  · rintro σ' H' ⟨rfl, rfl⟩
    generalize hR : rgOf rv (m.row n).rights = r at *
    walk_at "w"
    have eor : Builtin.bitOr (r : Int) 32 = ((r ||| 32 : Nat) : Int) := bitOr_nat
    refine ⟨r ||| 32, (m.row n).rights, ?_, or32_le hr63, hrg, fun h => (er1 fun q => h q.1).al a1, fun hsub => ?_⟩
    · show [V.int (Builtin.bitOr (r : Int) 32), nV (m.row n).rights] = _
      rw [eor]
      rfl
    walk_at "w"
    refine ⟨tg, m, n, r, o, rfl, K1, hr63, hev, fun h => (er1 fun q => h q.2).al a1, fun ok H' tg' x kx j hj st R' k' t' => ?_⟩
    have e32 := (or32 hr63 hrg hsub).2
    have kk := k n hq hs e32
    rw [hR] at kk
    exact kk ok H' tg' x kx j hj ((Stp.al a1).trans st) ⟨R', KN.w.put ok hr63 hev, k', t'⟩
def sp_hand4 (K : PySem.W.Frag) : Sp := fun vs H Q E => sp_hand K (vs ++ [.non]) H Q E
theorem ok_hand_4 : FnR P w K mg base (L2.CX P w) 53 (He.ga K "hand") (sp_hand4 K) :=
  mkFd G (sp := sp_hand K) 4 0 (by simp) G.f_hand sc_hand rfl (fun T kV doc pm an cdv ct us its hu hi => match us, hu, its, hi with | [_, _, _, _], _, [_], _ => ⟨_, rfl, rfl⟩) (fun vs H Q E h => by obtain ⟨_, _, _, _, _, _, e, _⟩ := h; cases e; rfl) (fun cdv A outer s H vs Q E hr h => hand_body G cdv A outer s H vs Q E hr h)
theorem ok_hand_5 : FnR P w K mg base (L2.CX P w) 53 (He.ga K "hand") (sp_hand K) := by
  have F := mkFd (P := P) (w := w) (mg := mg) (base := base) (k := 52) (sp := sp_hand K) G (dvs := [.non]) 5 1 (by simp) G.f_hand sc_hand rfl (fun T kV doc pm an cdv ct us its hu hi => match us, hu, its, hi with | [_, _, _, _, _], _, [_], _ => ⟨_, rfl, rfl⟩) (fun vs H Q E h => by obtain ⟨_, _, _, _, _, _, e, _⟩ := h; cases e; rfl) (fun cdv A outer s H vs Q E hr h => hand_body G cdv A outer s H vs Q E hr h)
  exact F.imp fun vs H Q E h => by simpa using h
end
end Pk
end
/-! PkF18 -/
section
set_option maxHeartbeats 4000000
namespace Pk
open PySem PySem.Spec PyProof.Rows L2
local macro_rules | `(tactic| walk_at "c") => `(tactic| first | assumption | omega | exact rfl | (intro z; cases z; done) | (simp only [nV, V.int.injEq, V.str.injEq]; first | assumption | omega))
local macro_rules | `(tactic| walk_at "fld") => `(tactic| first
  | assumption
  | exact fld_k_tasks (by assumption) (by assumption) | exact fld_k_tree (by assumption) (by assumption) | exact fld_k_things (by assumption) (by assumption) | exact fld_ta_known (by assumption) (by assumption)
  | exact fld_t_rows (by assumption) (by assumption) (by assumption) | exact fld_t_run1 (by assumption) (by assumption) (by assumption) (by assumption) | exact fld_t_runs (by assumption) (by assumption) (by assumption) | exact fld_t_maker (by assumption) (by assumption) (by assumption) | exact fld_tr_rows (by assumption) (by assumption) | exact fld_tr_rb (by assumption) (by assumption) | exact fld_tr_ever (by assumption) (by assumption)
  | exact fld_h_number (by assumption) (by assumption) | exact fld_h_thing (by assumption) (by assumption) | exact fld_h_rights (by assumption) (by assumption) | exact fld_h_giver (by assumption) (by assumption) | exact fld_h_holder (by assumption) (by assumption))
local macro_rules | `(tactic| walk_at "get") => `(tactic| first
  | assumption
  | exact get_kn1 (by assumption) (by assumption) | exact get_kn0 (by assumption) (by assumption) | exact get_rw1 (by assumption) (by assumption) | exact get_rw0 (by assumption) (by assumption)
  | exact get_rb1 (by assumption) (by assumption) | exact get_rb0 (by assumption) (by assumption) | exact get_th1 (by assumption) (by assumption) | exact get_th0 (by assumption) (by assumption))
local macro_rules | `(tactic| walk_at "ins") => `(tactic| first | exact insTa (by assumption) rfl | exact insTr (by assumption) rfl)
local macro_rules | `(tactic| walk_at "s") => `(tactic| first
  | refine ⟨_, rfl, ?_⟩
  | refine ⟨rfl, ?_⟩
  | refine zI fun _ => ?_
  | with_reducible refine iteF ?_ | with_reducible refine iteT ?_
  | ((with_reducible refine iteDy ?_ ?_); focus (walk_at "c"; done)) | ((with_reducible refine iteDn ?_ ?_); focus (walk_at "c"; done)) | ((with_reducible refine iteNy ?_ ?_); focus (walk_at "c"; done)) | ((with_reducible refine iteNn ?_ ?_); focus (walk_at "c"; done))
  | refine fldI (by walk_at "fld") ?_
  | refine getI (by walk_at "get") ?_ | refine getS (by walk_at "get") ?_
  | refine ⟨by walk_at "ins", ?_⟩
  | refine ⟨_, _, _, _, true, rfl, .ty _, .base (.str _), kit_ty (by decide +kernel), ?_⟩
  | refine ⟨_, _, _, _, true, rfl, .ty _, .base (.int _), kit_ty (by decide +kernel), ?_⟩
  | refine ⟨_, _, _, _, false, rfl, .ty _, .base (.int _), kit_ty (by decide +kernel), ?_⟩
  | refine ⟨_, _, rfl, rfl, ?_⟩
  | refine ⟨_, _, rfl, rfl, trivial, ?_⟩)
local macro_rules | `(tactic| walk_at "w") => `(tactic| repeat (walk_at "s"))
def cutKids (m : Mo) (n : Nat) : Nat → List Nat := match (m.row n).giver with
  | none => m.kids
  | some g => nput m.kids g ((m.kids g).filter fun c => decide (c ≠ n))
def cutKa (m : Mo) (n : Nat) (kx : Addr) : Nat → Addr := match (m.row n).giver with
  | none => m.ka
  | some g => nput m.ka g kx
/-- a cut, and other tasks -/
def Mo.cutT (m : Mo) (n : Nat) (gone : List Nat) (kx : Addr) (tk : Str → Tk) : Mo := { m with keys := m.keys.filter fun k => decide (k ∉ gone), kids := cutKids m n, ka := cutKa m n kx, task := tk }
theorem cutH_eq {m : Mo} {n : Nat} {gone : List Nat} {kx : Addr} : m.cutH n gone kx = m.cutT n gone kx m.task := by
  unfold Mo.cutH Mo.cutT cutKids cutKa
  cases (m.row n).giver <;> rfl
theorem TkR.trans {m : Mo} {tk tk' : Str → Tk} (h : TkR m tk) (g : TkR (m.wt tk) tk') : TkR m tk' := ⟨fun s => (g.mr s).trans (h.mr s), fun s => (g.rn s).trans (h.rn s), fun s => (h.em s).trans (g.em s)⟩
theorem TkR.cut {m : Mo} {n : Nat} {gone : List Nat} {kx : Addr} {tk0 tk : Str → Tk} (g : TkR (m.cutT n gone kx tk0) tk) (h : TkR m tk0) : TkR m tk := ⟨fun s => (g.mr s).trans (h.mr s), fun s => (g.rn s).trans (h.rn s), fun s => (h.em s).trans (g.em s)⟩
theorem shr_cut {m : Mo} {n : Nat} {gone : List Nat} {kx : Addr} {tk : Str → Tk} (h : TkR m tk) : Shr m (m.cutT n gone kx tk) :=
  ⟨⟨rfl, rfl, rfl, rfl, rfl, rfl, rfl, rfl, rfl⟩, rfl, fun k hk => (List.mem_filter.mp hk).1, fun _ => rfl, rfl, rfl, h.mr, fun s e => by rw [← h.rn]; exact e, h.em, fun _ _ e => e, fun _ _ r e => ⟨r, e⟩⟩
theorem wf_cut {m : Mo} {n : Nat} {gone : List Nat} {kx : Addr} {tk : Str → Tk} (w : Wf m) (hn : n ∈ m.keys) (hg : ∀ x, x ∈ gone ↔ x ∈ m.keys ∧ (x = n ∨ Anc m n x)) (h : TkR m tk) (hc : ∀ c, c ∈ gone → ∀ s, s ∈ m.names → some c ∉ (tk s).rows) : Wf (m.cutT n gone kx tk) := by
  have t0 := w.t.cut (kx := kx) hn hg
  rw [cutH_eq] at t0
  refine w.shr (shr_cut h) { t0 with } (fun s k hs hk => ?_) ⟨w.root.1, ?_⟩
  · show k ∈ m.keys.filter fun k => decide (k ∉ gone)
    rw [List.mem_filter]
    refine ⟨w.slot s k hs ((h.em s).mem hk), ?_⟩
    simp only [decide_eq_true_eq]
    exact fun hgn => hc k hgn s hs hk
  · show (tk rootN).runs = true
    rw [h.rn]; exact w.root.2
theorem inV_nat {l : List Nat} {n : Nat} : inV (nV n) (l.map nV) = decide (n ∈ l) := by
  unfold inV
  rw [List.any_map, Bool.eq_iff_iff, List.any_eq_true, decide_eq_true_iff]
  constructor
  · rintro ⟨x, hx, e⟩
    have : ((x : Int) == (n : Int)) = true := e
    have := eq_of_beq this
    have e2 : x = n := by omega
    rw [← e2]; exact hx
  · intro h
    exact ⟨n, h, (beq_self_eq_true (n : Int) : ((n : Int) == (n : Int)) = true)⟩
theorem flat_nat {l : List Nat} : (l.map nV).all flatV = true := by
  induction l with
  | nil => rfl
  | cons a r ih => exact ih
section
variable {P : Program} {w : World} {K : PySem.W.Frag} {mg : Str → Option Value} {base : Heap} (G : Gx K mg base)
include G
def sp_let_go (K : PySem.W.Frag) : Sp := fun vs H Q E => ∃ tg m n, vs = [.ref m.k, nV n] ∧ Kn K H tg m ∧ n ∈ m.keys ∧
  (∀ H' tg' m' c, Stp H tg H' tg' → Kn K H' tg' m' → Shr m m' → Q (.int c) H')
omit G in
theorem sc_let_go : FnScope ["kernel", "number", "numbers", "one"] ["kernel", "number"] (defScope s_let_go) := ⟨rfl, rfl, rfl, by decide +kernel, rfl, by decide +kernel, by decide +kernel⟩
theorem ok_let_go : FnR P w K mg base (L2.CX P w) 52 (He.ga K "let_go") (sp_let_go K) := by
  refine mkF (k := 51) G.f_let_go sc_let_go (fun _ _ _ _ _ _ us hl => match us, hl with | [_, _], _ => rfl) (fun vs H Q E h => by repeat (first | (obtain ⟨e, _⟩ := h; cases e; rfl; done) | obtain ⟨_, h⟩ := h)) (fun cdv A outer s H vs Q E hr h => ?_)
  have S := sc_let_go
  obtain ⟨tg, m, n, rfl, KN, hn, k⟩ := h
  have R := KN.r
  refine ⟨_, (pss_cons (ps_set (i := 2) S.nd rfl (by first | exact Or.inl rfl | exact Or.inr rfl) (pe_m (ok_Tree_cut G) (hr.mono (by omega)) G.cl_Tree G.m_Tree_cut tkd (pe_fd (pv 0)) (pa_cons (pv 1) pa_nil)))
      (pss_cons (ps_for pod rfl (pi_list (pv 2)) (pg_name (i := 3) S.nd rfl (by first | exact Or.inl rfl | exact Or.inr rfl)) (pss_one (ps_expr (pe_m (ok_Tasks_taken_out G) (hr.mono (by omega)) G.cl_Tasks G.m_Tasks_taken_out tkd (pe_fd (pv 0)) (pa_cons (pv 3) pa_nil)))))
      (pss_one (ps_ret (pe_callB call_len (by rfl) G.b_len PySem.boot_len (pa_cons (pv 2) pa_nil)))))), ?_⟩
  walk_at "w"
  refine ⟨tg, m, n, rfl, R, KN.w.t, fun h => absurd hn h, fun _ H1 tg1 p gone kx hgn hgm st1 R1 e1 tp1 kp1 => ?_⟩
  rw [cutH_eq] at R1
  have ek := kp1 m.kn _ (by rw [R.kn_tag]; simp) (by rw [R.kn_tag]; simp) KN.kn (Pl.nt (o := .dK _) trivial)
  have eth := kp1 m.th _ (by rw [R.th_tag]; simp) (by rw [R.th_tag]; simp) KN.th (Pl.nt (o := .dK _) trivial)
  walk_at "w"
  refine ⟨⟨_, sqL_at e1⟩, ?_⟩
  refine for_list (xs := gone.map nV) (fun i σ H' => (∃ v3, σ = [some (.ref m.k), some (nV n), some (.ref p), v3]) ∧ ∃ tk, TkR m tk ∧ (∀ (j : Nat) c, j < i → gone[j]? = some c → ∀ s, s ∈ m.names → some c ∉ (tk s).rows) ∧ Stp H1 tg1 H' tg1 ∧ Rep K H' tg1 (m.cutT n gone kx tk) ∧ H' m.kn = some (.dK (knD m.names m.tka)) ∧ H' m.th = some (.dK (rowsD (List.range m.nth) m.tha))) ?_ ?_ ?_ ?_
  · exact ⟨⟨_, rfl⟩, m.task, .refl, fun j c h => absurd h (by omega), .refl, R1, ek, eth⟩
  · rintro i σ H2 hi ⟨_, tk, _, _, st, _⟩
    exact sqL_at (st.keep _ _ e1 (Pl.nt (o := .lst _) trivial) tp1)
  · rintro i x σ H2 hx ⟨⟨v3, rfl⟩, tk, tr, dn, st, R2, k2, t2⟩
    rw [List.getElem?_map] at hx
    cases hc : gone[i]? with
    | none => rw [hc] at hx; cases hx
    | some c =>
      rw [hc] at hx
      cases hx
      have f1 : FldAt K H2 (.ref m.k) "tasks" (.ref m.ta) := fld_k_tasks (m := m.cutT n gone kx tk) G R2
      have i1 : InsC H2 (.ref m.ta) (He.ga K "Tasks") "taken_out" := insTa (m := m.cutT n gone kx tk) R2 rfl
      have B2 : Bd (m.cutT n gone kx tk) := ⟨KN.w.bd.nms, Nat.le_trans (List.length_filter_le _ _) KN.w.bd.kys, fun s hs => by show (tk s).rows.length = 16; rw [(tr.em s).1]; exact KN.w.bd.rws s hs⟩
      walk_at "w"
      refine ⟨i1, ?_⟩
      walk_at "w"
      refine ⟨tg1, m.cutT n gone kx tk, c, rfl, R2, B2, k2, fun H3 tk3 v tr3 hno st3 R3 k3 t3 => ?_⟩
      refine ⟨⟨_, rfl⟩, tk3, tr3.cut tr, fun j d hj hd s hs hmem => ?_, st.trans st3, R3, k3, t3 _ t2⟩
      by_cases hji : j < i
      · exact dn j d hji hd s hs ((tr3.em s).mem hmem)
      · have : j = i := by omega
        subst this
        rw [hc] at hd
        cases hd
        exact hno s hs hmem
  · rintro σ H2 ⟨⟨v3, rfl⟩, tk, tr, dn, st, R2, k2, t2⟩
    have e2 := st.keep _ _ e1 (Pl.nt (o := .lst _) trivial) tp1
    walk_at "w"
    refine ⟨_, _, rfl, .inl ⟨_, sqL_at e2, rfl⟩, ?_⟩
    refine k H2 tg1 (m.cutT n gone kx tk) _ (st1.trans st) ⟨R2, wf_cut KN.w hn hgm tr (fun c hc s hs => ?_), k2, t2⟩ (shr_cut tr)
    obtain ⟨j, hj, ej⟩ := List.getElem_of_mem hc
    exact dn j c (by rw [List.length_map]; exact hj) (by rw [List.getElem?_eq_getElem hj, ej]) s hs
def sp_take (K : PySem.W.Frag) : Sp := fun vs H Q E => ∃ tg m t z, vs = [.ref m.k, .str t, .int z] ∧ Kn K H tg m ∧ Er K H E ∧
  (∀ H' tg' m' v, Stp H tg H' tg' → Kn K H' tg' m' → Shr m m' → Q v H')
omit G in
theorem sc_give_up : FnScope ["kernel", "task", "slot"] ["kernel", "task", "slot"] (defScope s_give_up) := ⟨rfl, rfl, rfl, by decide +kernel, rfl, by decide +kernel, by decide +kernel⟩
theorem ok_give_up : FnR P w K mg base (L2.CX P w) 53 (He.ga K "give_up") (sp_take K) := by
  refine mkF (k := 52) G.f_give_up sc_give_up (fun _ _ _ _ _ _ us hl => match us, hl with | [_, _, _], _ => rfl) (fun vs H Q E h => by repeat (first | (obtain ⟨e, _⟩ := h; cases e; rfl; done) | obtain ⟨_, h⟩ := h)) (fun cdv A outer s H vs Q E hr h => ?_)
  have S := sc_give_up
  obtain ⟨tg, m, t, z, rfl, KN, er, k⟩ := h
  refine ⟨_, (pss_one (ps_ret (pe_f (ok_let_go G) (hr.mono (by omega)) rfl G.g_let_go (kp_of G.f_let_go) tkd (pa_cons (pv 0) (pa_cons (pe_fd (pe_f (ok_handle_at G) (hr.mono (by omega)) rfl G.g_handle_at (kp_of G.f_handle_at) tkd (pa_cons (pv 0) (pa_cons (pv 1) (pa_cons (pv 2) pa_nil))))) pa_nil))))), ?_⟩
  walk_at "w"
  refine ⟨tg, m, t, z, rfl, KN.r, KN.w, fun _ => er, fun n hq hs hk H1 x a1 hx => ?_⟩
  walk_at "w"
  exact ⟨tg, m, n, rfl, KN.al a1, hk, fun H' tg' m' c st KN' sh => k H' tg' m' _ ((Stp.al a1).trans st) KN' sh⟩
omit G in
theorem sc_call_back : FnScope ["kernel", "task", "slot", "number", "count", "one"] ["kernel", "task", "slot"] (defScope s_call_back) := ⟨rfl, rfl, rfl, by decide +kernel, rfl, by decide +kernel, by decide +kernel⟩
theorem ok_call_back : FnR P w K mg base (L2.CX P w) 53 (He.ga K "call_back") (sp_take K) := by
  refine mkF (k := 52) G.f_call_back sc_call_back (fun _ _ _ _ _ _ us hl => match us, hl with | [_, _, _], _ => rfl) (fun vs H Q E h => by repeat (first | (obtain ⟨e, _⟩ := h; cases e; rfl; done) | obtain ⟨_, h⟩ := h)) (fun cdv A outer s H vs Q E hr h => ?_)
  have S := sc_call_back
  obtain ⟨tg, m, t, z, rfl, KN, er, k⟩ := h
  refine ⟨_, (pss_cons (ps_set (i := 3) S.nd rfl (by first | exact Or.inl rfl | exact Or.inr rfl) (pe_fd (pe_f (ok_handle_at G) (hr.mono (by omega)) rfl G.g_handle_at (kp_of G.f_handle_at) tkd (pa_cons (pv 0) (pa_cons (pv 1) (pa_cons (pv 2) pa_nil))))))
      (pss_cons (ps_set (i := 4) S.nd rfl (by first | exact Or.inl rfl | exact Or.inr rfl) pe_int)
      (pss_cons (ps_for pod rfl (pi_list (pe_m (ok_Tree_below G) (hr.mono (by omega)) G.cl_Tree G.m_Tree_below tkd (pe_fd (pv 0)) (pa_cons (pv 3) pa_nil))) (pg_name (i := 5) S.nd rfl (by first | exact Or.inl rfl | exact Or.inr rfl)) (pss_one (ps_if (pt_cmpR op_in_seq (pv 5) (pe_m0 (ok_Tree_kept G) (hr.mono (by omega)) G.cl_Tree G.m_Tree_kept tkd (pe_fd (pv 0))) rfl) (pss_one (ps_aug (i := 4) S.nd rfl (by first | exact Or.inl rfl | exact Or.inr rfl) (pe_f (ok_let_go G) (hr.mono (by omega)) rfl G.g_let_go (kp_of G.f_let_go) tkd (pa_cons (pv 0) (pa_cons (pv 5) pa_nil))) ip_add)) pss_nil)))
      (pss_one (ps_ret (pv 4)))))), ?_⟩
  walk_at "w"
  refine ⟨tg, m, t, z, rfl, KN.r, KN.w, fun _ => er, fun n hq hs hk H1 x a1 hx => ?_⟩
  have K1 := KN.al a1
  have R1 := K1.r
  walk_at "w"
  refine ⟨tg, m, n, rfl, R1, KN.w.t, fun h => absurd hk h, fun _ H2 p xs a2 hp e2 nd mem => ?_⟩
  have a12 := a1.trans a2
  have fr := a1.free hp
  have R2 := (KN.r.al a12).untag (KN.r.fresh1 fr)
  have st2 := (Stp.al (tg := tg) a12).untag fr
  have K2 : Kn K H2 (Pk.untag tg p) m := ⟨R2, KN.w, a12.dK KN.kn, a12.dK KN.th⟩
  have tp : (Pk.untag tg p) p = none := untag_at
  generalize Pk.untag tg p = tg2 at *
  walk_at "w"
  refine ⟨⟨_, sqL_at e2⟩, ?_⟩
  refine for_list (xs := xs.map nV) (fun i σ H' => (∃ c v5, σ = [some (.ref m.k), some (.str t), some (.int z), some (nV n), some (.int c), v5]) ∧ ∃ tg' m', Stp H2 tg2 H' tg' ∧ Kn K H' tg' m' ∧ Shr m m') ?_ ?_ ?_ ?_
  · exact ⟨⟨_, _, rfl⟩, tg2, m, .refl, K2, .refl⟩
  · rintro i σ H3 hi ⟨_, tg3, m3, st, _⟩
    exact sqL_at (st.keep _ _ e2 (Pl.nt (o := .lst _) trivial) tp)
  · rintro i x σ H3 hx ⟨⟨c, v5, rfl⟩, tg3, m3, st, K3, sh⟩
    rw [List.getElem?_map] at hx
    cases hc : xs[i]? with
    | none => rw [hc] at hx; cases hx
    | some d =>
      rw [hc] at hx
      cases hx
      obtain ⟨q1, q2, q3, q4, q5, q6, q7, q8, q9⟩ := sh.adr
      have R3 := K3.r
      have f1 : FldAt K H3 (.ref m.k) "tree" (.ref m.tr) := by have := fld_k_tree G R3; rwa [q1, q2] at this
      have i1 : InsC H3 (.ref m.tr) (He.ga K "Tree") "kept" := by have := insTr (x := "kept") R3 rfl; rwa [q2] at this
      walk_at "w"
      refine ⟨i1, ?_⟩
      walk_at "w"
      refine ⟨tg3, m3, by rw [q2], R3, K3.w.t.sz, fun H4 p4 ks a4 hp4 e4 perm => ?_⟩
      walk_at "w"
      refine ⟨p4, _, rfl, .inl (sqL_at e4), rfl, flat_nat, ?_⟩
      rw [if_neg (by decide), inV_nat]
      by_cases hin : d ∈ ks
      · walk_at "w"
        refine ⟨tg3, m3, d, by rw [q1], K3.al a4, perm.mem_iff.mp hin, fun H' tg' m' c2 st' KN' sh' => ?_⟩
        walk_at "w"
        exact ⟨⟨_, _, rfl⟩, tg', m', st.trans ((Stp.al a4).trans st'), KN', sh.trans sh'⟩
      · walk_at "w"
        exact ⟨⟨_, _, rfl⟩, tg3, m3, st.trans (Stp.al a4), K3.al a4, sh⟩
  · rintro σ H3 ⟨⟨c, v5, rfl⟩, tg3, m3, st, K3, sh⟩
    walk_at "w"
    exact k H3 tg3 m3 _ (st2.trans st) K3 sh
end
end Pk
end
/-! PkEnd -/
section
set_option maxHeartbeats 4000000
namespace Pk
open PySem PySem.Spec PyProof.Rows L2
abbrev Mo.wg (m : Mo) (tg : Nat → Th) : Mo := { m with thg := tg }
section
variable {K : PySem.W.Frag} {H H1 H' : Hp} {tg tg1 : Tag} {m : Mo}
theorem Stp.updN (st : Stp H tg H1 tg1) {q : Addr} {o o' : HO} (hn : ∀ o, nt o → H q ≠ some o) (e : H1 q = some o) (pl : Pl o) : Stp H tg (L2.upd H1 q o') tg1 :=
  ⟨fun b u h n t => by rw [upd_ne (fun z => hn u n (by rw [← z]; exact h))]; exact st.keep b u h n t, st.tag, fun T t => tabsN_upd (st.tabs T t) e pl⟩
theorem Rep.other (R : Rep K H tg m) {q : Addr} {xs ys : List V} (t : tg q = none) (e : H q = some (.lst xs)) : Rep K (L2.upd H q (.lst ys)) tg m := by
  refine ⟨fun r a φ h => ?_, fun i ls hi h l hl => ?_⟩
  · obtain ⟨t1, o, ho, q1⟩ := R.cell r a φ h
    have na : a ≠ q := fun z => by rw [z, t] at t1; cases t1
    exact ⟨t1, o, by rw [upd_ne na]; exact ho, q1⟩
  · obtain ⟨dx, ws, pt, e1, e2, t1, t2⟩ := R.lets i ls hi h l hl
    have n1 : l.at_ ≠ q := fun z => by rw [z, e] at e1; cases e1
    have n2 : pt ≠ q := fun z => by rw [z, e] at e2; cases e2
    exact ⟨dx, ws, pt, by rw [upd_ne n1]; exact e1, by rw [upd_ne n2]; exact e2, t1, t2⟩
theorem Rep.setPost (R : Rep K H tg m) {i : Nat} {nm : Str} {r : Bool} {dx : Addr} (hi : i < m.nth) (hp : m.thg i = .post nm r) : Rep K (L2.upd H (m.tha i) (.ins (He.ga K "Post") dx (thF i (.post nm false) 0))) tg (m.wg (nput m.thg i (.post nm false))) := by
  have h0 : m.cell K (.thg i) = some (m.tha i, isI (thC K (m.thg i)) (thF i (m.thg i) (m.thb i))) := if_pos hi
  have h1 : (m.wg (nput m.thg i (.post nm false))).cell K (.thg i) = some (m.tha i, isI (He.ga K "Post") (thF i (.post nm false) 0)) := by
    simp only [Mo.cell, if_pos hi, nput_at]
    rfl
  refine R.upd h0 h1 ⟨dx, rfl⟩ (fun r' hr x e => ?_) (fun k ls hk e l hl => ?_)
  · cases r' with
    | thg k =>
      have hk : k ≠ i := fun z => hr (by rw [z])
      simp only [Mo.cell, nput_ne hk] at e ⊢
      exact e
    | sub k =>
      by_cases hk : k = i
      · subst hk
        simp only [Mo.cell, nput_at, if_pos hi] at e
        cases e
      · simp only [Mo.cell, nput_ne hk] at e ⊢
        exact e
    | _ => exact e
  · by_cases hki : k = i
    · subst hki
      have e' : nput m.thg k (.post nm false) k = .door ls := e
      rw [nput_at] at e'
      cases e'
    · have e' : nput m.thg i (.post nm false) k = .door ls := e
      rw [nput_ne hki] at e'
      exact (R.lets k ls hk e' l hl).upd (R.cell _ _ _ h0).1
theorem th_at {i : Nat} {kx vx : V} (e1 : Option.map (fun kv : Key × V => kV kv.1) (rowsD (List.range m.nth) m.tha)[i]? = some kx) (e2 : Option.map Prod.snd (rowsD (List.range m.nth) m.tha)[i]? = some vx) : i < m.nth ∧ kx = nV i ∧ vx = .ref (m.tha i) := by
  unfold rowsD at e1 e2
  rw [List.getElem?_map] at e1 e2
  by_cases h : i < m.nth
  · rw [List.getElem?_range h] at e1 e2
    cases e1; cases e2
    exact ⟨h, rfl, rfl⟩
  · rw [List.getElem?_eq_none (by rw [List.length_range]; omega)] at e1
    cases e1
end
theorem shr_stop {m : Mo} {tk : Str → Tk} {sa : Str → Addr} {L : List Str} (w : Wf m) (s : StR m tk sa L) (hL : ∀ s, s ∈ L → s ∈ m.names) : Shr m (m.ws tk sa) := by
  refine ⟨⟨rfl, rfl, rfl, rfl, rfl, rfl, rfl, rfl, rfl⟩, rfl, fun _ h => h, fun _ => rfl, rfl, rfl, fun t => ?_, fun t h => ?_, fun t => ?_, fun _ _ e => e, fun _ _ r e => ⟨r, e⟩⟩
  · by_cases ht : t ∈ L
    · show (tk t).maker = _; rw [s.on t ht]
    · show (tk t).maker = _; rw [(s.off t ht).1]
  · by_cases ht : t ∈ L
    · have h' : (tk t).runs = true := h; rw [s.on t ht] at h'; cases h'
    · have h' : (tk t).runs = true := h; rw [(s.off t ht).1] at h'; exact h'
  · show Emp (m.task t).rows (tk t).rows
    by_cases ht : t ∈ L
    · rw [s.on t ht]
      have hl := w.bd.rws t (hL t ht)
      refine ⟨by rw [List.length_replicate, hl], fun i => ?_⟩
      by_cases hi : i < 16
      · exact .inr (by rw [List.getElem?_replicate, if_pos hi])
      · exact .inl (by rw [List.getElem?_eq_none (by rw [List.length_replicate]; omega), List.getElem?_eq_none (by omega)])
    · rw [(s.off t ht).1]; exact .refl
theorem wf_stop {m : Mo} {tk : Str → Tk} {sa : Str → Addr} {L : List Str} (w : Wf m) (s : StR m tk sa L) (hL : ∀ s, s ∈ L → s ∈ m.names) (hr : rootN ∉ L) : Wf (m.ws tk sa) := by
  refine w.shr (shr_stop w s hL) { w.t with } (fun t k ht hk => ?_) ⟨w.root.1, ?_⟩
  · have hk' : some k ∈ (tk t).rows := hk
    by_cases h : t ∈ L
    · rw [s.on t h] at hk'
      have := List.eq_of_mem_replicate hk'
      cases this
    · rw [(s.off t h).1] at hk'
      exact w.slot t k ht hk'
  · show (tk rootN).runs = true
    rw [(s.off _ hr).1]; exact w.root.2
end Pk
end
/-! PkF19 -/
section
set_option maxHeartbeats 4000000
namespace Pk
open PySem PySem.Spec PyProof.Rows L2
local macro_rules | `(tactic| walk_at "c") => `(tactic| first | assumption | omega | exact rfl | (intro z; cases z; done) | (simp only [nV, V.int.injEq, V.str.injEq]; first | assumption | omega))
local macro_rules | `(tactic| walk_at "fld") => `(tactic| first
  | assumption
  | exact fld_k_tasks (by assumption) (by assumption) | exact fld_k_tree (by assumption) (by assumption) | exact fld_k_things (by assumption) (by assumption) | exact fld_ta_known (by assumption) (by assumption)
  | exact fld_t_rows (by assumption) (by assumption) (by assumption) | exact fld_t_run1 (by assumption) (by assumption) (by assumption) (by assumption) | exact fld_t_runs (by assumption) (by assumption) (by assumption) | exact fld_t_maker (by assumption) (by assumption) (by assumption) | exact fld_tr_rows (by assumption) (by assumption) | exact fld_tr_rb (by assumption) (by assumption) | exact fld_tr_ever (by assumption) (by assumption)
  | exact fld_h_number (by assumption) (by assumption) | exact fld_h_thing (by assumption) (by assumption) | exact fld_h_rights (by assumption) (by assumption) | exact fld_h_giver (by assumption) (by assumption) | exact fld_h_holder (by assumption) (by assumption))
local macro_rules | `(tactic| walk_at "get") => `(tactic| first
  | assumption
  | exact get_kn1 (by assumption) (by assumption) | exact get_kn0 (by assumption) (by assumption) | exact get_rw1 (by assumption) (by assumption) | exact get_rw0 (by assumption) (by assumption)
  | exact get_rb1 (by assumption) (by assumption) | exact get_rb0 (by assumption) (by assumption) | exact get_th1 (by assumption) (by assumption) | exact get_th0 (by assumption) (by assumption))
local macro_rules | `(tactic| walk_at "ins") => `(tactic| first | exact insTa (by assumption) rfl | exact insTr (by assumption) rfl)
local macro_rules | `(tactic| walk_at "s") => `(tactic| first
  | refine ⟨_, rfl, ?_⟩
  | refine ⟨rfl, ?_⟩
  | refine zI fun _ => ?_
  | with_reducible refine iteF ?_ | with_reducible refine iteT ?_
  | ((with_reducible refine iteDy ?_ ?_); focus (walk_at "c"; done)) | ((with_reducible refine iteDn ?_ ?_); focus (walk_at "c"; done)) | ((with_reducible refine iteNy ?_ ?_); focus (walk_at "c"; done)) | ((with_reducible refine iteNn ?_ ?_); focus (walk_at "c"; done))
  | refine fldI (by walk_at "fld") ?_
  | refine getI (by walk_at "get") ?_ | refine getS (by walk_at "get") ?_
  | refine ⟨by walk_at "ins", ?_⟩
  | refine ⟨_, _, _, _, true, rfl, .ty _, .base (.str _), kit_ty (by decide +kernel), ?_⟩
  | refine ⟨_, _, _, _, true, rfl, .ty _, .base (.int _), kit_ty (by decide +kernel), ?_⟩
  | refine ⟨_, _, _, _, false, rfl, .ty _, .base (.int _), kit_ty (by decide +kernel), ?_⟩
  | refine ⟨_, _, rfl, rfl, ?_⟩
  | refine ⟨_, _, rfl, rfl, trivial, ?_⟩)
local macro_rules | `(tactic| walk_at "w") => `(tactic| repeat (walk_at "s"))
theorem Ali.getv {α : Type} {R : α → V → Prop} {as : List α} {vs : List V} (h : Ali R as vs) {i : Nat} {v : V} (e : vs[i]? = some v) : ∃ a, as[i]? = some a ∧ R a v := h.get e
theorem slotsOf_len {m : Mo} {s : Str} : (slotsOf m s).length ≤ 16 := by
  unfold slotsOf
  refine Nat.le_trans (List.length_filterMap_le _ _) ?_
  rw [List.length_range]; exact Nat.le_refl _
section
variable {P : Program} {w : World} {K : PySem.W.Frag} {mg : Str → Option Value} {base : Heap} (G : Gx K mg base)
include G
def sp_ended (K : PySem.W.Frag) : Sp := fun vs H Q E => ∃ tg m nm, vs = [.ref m.k, .str nm] ∧ Kn K H tg m ∧ nm ≠ rootN ∧ Er K H E ∧
  (∀ H' tg' m' v, Stp H tg H' tg' → Kn K H' tg' m' → Shr m m' → Q v H')
omit G in
theorem sc_ended : FnScope ["kernel", "name", "names", "numbers", "one", "posts", "number", "thing", "slot"] ["kernel", "name"] (defScope s_ended) := ⟨rfl, rfl, rfl, by decide +kernel, rfl, by decide +kernel, by decide +kernel⟩
theorem ok_ended : FnR P w K mg base (L2.CX P w) 53 (He.ga K "ended") (sp_ended K) := by
  refine mkF (k := 52) G.f_ended sc_ended (fun _ _ _ _ _ _ us hl => match us, hl with | [_, _], _ => rfl) (fun vs H Q E h => by repeat (first | (obtain ⟨e, _⟩ := h; cases e; rfl; done) | obtain ⟨_, h⟩ := h)) (fun cdv A outer s H vs Q E hr h => ?_)
  have S := sc_ended
  obtain ⟨tg, m, nm, rfl, KN, hroot, er, k⟩ := h
  have R := KN.r
  refine ⟨_, (pss_cons (ps_set (i := 2) S.nd rfl (by first | exact Or.inl rfl | exact Or.inr rfl) (pe_op op_cat (pe_lst (pa_cons (pv 1) pa_nil)) (pe_m (ok_Tasks_made_by G) (hr.mono (by omega)) G.cl_Tasks G.m_Tasks_made_by tkd (pe_fd (pv 0)) (pa_cons (pv 1) pa_nil))))
      (pss_cons (ps_set (i := 3) S.nd rfl (by first | exact Or.inl rfl | exact Or.inr rfl) (pe_lst pa_nil))
      (pss_cons (ps_for pod rfl (pi_list (pv 2)) (pg_name (i := 4) S.nd rfl (by first | exact Or.inl rfl | exact Or.inr rfl)) (pss_one (ps_aug (i := 3) S.nd rfl (by first | exact Or.inl rfl | exact Or.inr rfl) (by exact (pe_lcz (own := [("slot", 8), ("number", 6)]) rfl S.nd (pi_list (pe_m (ok_Tasks_slots G) (hr.mono (by omega)) G.cl_Tasks G.m_Tasks_slots tkd (pe_fd (pv 0)) (pa_cons (pv 4) pa_nil))) (blkOk_by (own := [("slot", 8), ("number", 6)]) (N := ["kernel", "name", "names", "numbers", "one", "posts", "number", "thing", "slot"]) (sc := defScope s_ended) (by decide +kernel)) (fun _ => (pg_tup rfl (pgs_cons (pg_name (i := 8) S.nd rfl (by first | exact Or.inl rfl | exact Or.inr rfl)) (pgs_cons (pg_name (i := 6) S.nd rfl (by first | exact Or.inl rfl | exact Or.inr rfl)) pgs_nil)))) (fun _ => pts_nil) (fun _ => (pv 6)))) iop_ext)))
      (pss_cons (ps_expr (pe_m (ok_Tasks_stopped G) (hr.mono (by omega)) G.cl_Tasks G.m_Tasks_stopped tkd (pe_fd (pv 0)) (pa_cons (pv 1) pa_nil)))
      (pss_cons (ps_set (i := 5) S.nd rfl (by first | exact Or.inl rfl | exact Or.inr rfl) (pe_lst pa_nil))
      (pss_cons (ps_lock (ps_for pod rfl (pi_items (pe_fd (pv 0))) (pg_tup rfl (pgs_cons (pg_name (i := 6) S.nd rfl (by first | exact Or.inl rfl | exact Or.inr rfl)) (pgs_cons (pg_name (i := 7) S.nd rfl (by first | exact Or.inl rfl | exact Or.inr rfl)) pgs_nil))) (pss_one (ps_if (PW.pt (pw_and (pt_cmpR op_eq (pe_d0 (k := 12) (hr.mono (by omega)) tkd (pv 7)) pe_str (nomark _)) (pw_and1 (pt_cmpR op_in_seq (pe_ix ix_tup (pe_d0 (k := 12) (hr.mono (by omega)) tkd (pv 7)) pe_int (fun _ _ => rfl)) (pv 2) rfl)))) (pss_cons (ps_expr (pe_d (k := 12) (hr.mono (by omega)) tkd (pv 7) (pa_cons pe_str (pa_cons pe_int pa_nil))))
      (pss_one (ps_expr (pe_bm PySem.F.plainAttrs_list PySem.F.slot_list_append PySem.F.type_list_append mt_append (pv 5) (pa_cons (pv 6) pa_nil))))) pss_nil))))
      (pss_cons (ps_aug (i := 3) S.nd rfl (by first | exact Or.inl rfl | exact Or.inr rfl) (by exact (pe_lcz (own := [("number", 6)]) rfl S.nd (pi_list (pe_m0 (ok_Tree_kept G) (hr.mono (by omega)) G.cl_Tree G.m_Tree_kept tkd (pe_fd (pv 0)))) (blkOk_by (own := [("number", 6)]) (N := ["kernel", "name", "names", "numbers", "one", "posts", "number", "thing", "slot"]) (sc := defScope s_ended) (by decide +kernel)) (fun _ => (pg_name (i := 6) S.nd rfl (by first | exact Or.inl rfl | exact Or.inr rfl))) (fun _ => (pts_one (pt_cmpR op_in_seq (pe_fd (pe_m (ok_Tree_handle G) (hr.mono (by omega)) G.cl_Tree G.m_Tree_handle takes0 (pe_fd (pv 0)) (pa_cons (pv 6) pa_nil))) (pv 5) rfl))) (fun _ => (pv 6)))) iop_ext)
      (pss_cons (ps_for pod rfl (pi_list (pv 3)) (pg_name (i := 6) S.nd rfl (by first | exact Or.inl rfl | exact Or.inr rfl)) (pss_one (ps_if (pt_cmpR op_in_seq (pv 6) (pe_m0 (ok_Tree_kept G) (hr.mono (by omega)) G.cl_Tree G.m_Tree_kept tkd (pe_fd (pv 0))) rfl) (pss_one (ps_expr (pe_f (ok_let_go G) (hr.mono (by omega)) rfl G.g_let_go (kp_of G.f_let_go) tkd (pa_cons (pv 0) (pa_cons (pv 6) pa_nil))))) pss_nil)))
      (pss_one (ps_ret (pe_callB call_len (by rfl) G.b_len PySem.boot_len (pa_cons (pv 2) pa_nil)))))))))))), ?_⟩
  walk_at "w"
  refine ⟨sz1, fun F1 hF1 => ?_⟩
  have a1 := Al.new (o := .lst [V.str nm]) hF1
  have K1 := KN.al a1
  have R1 := K1.r
  walk_at "w"
  refine ⟨tg, m, nm, rfl, R1, KN.w.bd, KN.w.k1, KN.w.run, fun _ => er.al a1, fun hq H2 p1 L a2 hp1 e2 hL hlen => ?_⟩
  have eF := a2.lst (upd_same (H := H) (a := F1) (o := .lst [V.str nm]))
  refine ⟨_, _, _, _, rfl, rfl, eF, e2, by rw [List.length_map, sizeLine_eq]; simp only [List.length_singleton]; omega, fun p hp => ?_⟩
  have a3 := (a1.trans a2).newT (o := .lst ([V.str nm] ++ L.map V.str)) hp
  have frp := (a1.trans a2).free hp
  have ep : (L2.upd H2 p (.lst ([V.str nm] ++ L.map V.str))) p = some (.lst ((nm :: L).map V.str)) := upd_same
  generalize L2.upd H2 p (.lst ([V.str nm] ++ L.map V.str)) = Hp at *
  have hnd : ∀ s, s ∈ nm :: L → RunT m s := fun s hs => by
    rcases List.mem_cons.mp hs with e | e
    · rw [e]; exact hq
    · exact (hL s e).1
  walk_at "w"
  refine ⟨by rw [sizeLine_eq]; decide, fun q hqf => ?_⟩
  have npq : p ≠ q := ne_of_none ep hqf
  have frq : ∀ o, nt o → H q ≠ some o := a3.free hqf
  walk_at "w"
  refine ⟨⟨_, sqL_at ((upd_ne npq).trans ep)⟩, ?_⟩
  refine for_list (xs := (nm :: L).map V.str) (fun i σ H' => (∃ v4 v5 v6 v7 v8, σ = [some (.ref m.k), some (.str nm), some (.ref p), some (.ref q), v4, v5, v6, v7, v8]) ∧ ∃ ns : List Nat, Al Hp H' ∧ H' q = some (.lst (ns.map nV)) ∧ ns.length ≤ 16 * i) ?_ ?_ ?_ ?_
  · exact ⟨⟨_, _, _, _, _, rfl⟩, [], Al.new hqf, upd_same, by simp⟩
  · rintro i σ H3 hi ⟨_, ns, al, _⟩
    exact sqL_at (al.lst ep)
  · rintro i x σ H3 hx ⟨⟨v4, v5, v6, v7, v8, rfl⟩, ns, al, eq, hns⟩
    rw [List.getElem?_map] at hx
    cases hc : (nm :: L)[i]? with
    | none => rw [hc] at hx; cases hx
    | some one =>
      rw [hc] at hx
      cases hx
      have h1 := hnd one (List.mem_of_getElem? hc)
      have hi := lt_of_get hc
      simp only [List.length_cons] at hi
      have R3 := R.al (a3.trans al)
      walk_at "w"
      refine ⟨tg, m, one, rfl, R3, KN.w.bd, fun h => absurd h1 h, fun _ H4 p4 us a4 e4 hal => ?_⟩
      have hul : us.length = (slotsOf m one).length := hal.1.symm
      walk_at "w"
      refine ⟨⟨_, sqL_at e4⟩, ?_⟩
      refine lcR walk_list (fun i => ((slotsOf m one)[i]?).bind fun x => some (nV x.2)) (by rw [hul, sizeLine_eq]; have := slotsOf_len (m := m) (s := one); omega) (fun H a => sqL_at (a.lst e4)) (fun j x H5 H6 hj a y N1 N2 hy hno => ?_) (fun H5 D a e => ?_)
      · obtain ⟨rfl, hxu⟩ := y
        obtain ⟨sn, hsn, T, rfl, eT⟩ := hal.get hxu
        rw [hsn] at hy
        walk_at "w"
        refine tup2 (sqT_at (a.tup eT)) rfl ?_
        refine ⟨rfl, ?_⟩
        walk_at "w"
        exact hy _ _ rfl (Al.refl _)
      · have ef : (List.range us.length).filterMap (fun i => ((slotsOf m one)[i]?).bind fun x => some (nV x.2)) = ((slotsOf m one).map Prod.snd).map nV := by
          rw [hul, filterMap_range (slotsOf m one) _ (fun x => some (nV x.2)) (fun i x e => by rw [e]; rfl), List.filterMap_eq_map', List.map_map]
          rfl
        rw [ef] at e
        have al5 := al.trans (a4.trans a)
        have eq5 := (a4.trans a).lst eq
        walk_at "w"
        refine ⟨_, _, _, _, rfl, rfl, eq5, e, by rw [List.length_map, List.length_map, List.length_map, sizeLine_eq]; have := slotsOf_len (m := m) (s := one); omega, ?_⟩
        rw [← List.map_append]
        refine ⟨⟨_, _, _, _, _, rfl⟩, ns ++ (slotsOf m one).map Prod.snd, al5.set hqf eq5 trivial, upd_same, ?_⟩
        rw [List.length_append, List.length_map]
        have := slotsOf_len (m := m) (s := one)
        omega
  · rintro σ H3 ⟨⟨v4, v5, v6, v7, v8, rfl⟩, ns, al, eq, hns⟩
    rw [List.length_map, List.length_cons] at hns
    have a03 := a3.trans al
    have ep3 := al.lst ep
    have RU := ((R.al a03).untag (R.fresh1 frp)).untag (p := q) (R.fresh1 frq)
    have stU := ((Stp.al (tg := tg) a03).untag frp).untag frq
    have tq : (Pk.untag (Pk.untag tg p) q) q = none := untag_at
    have tp : (Pk.untag (Pk.untag tg p) q) p = none := by unfold Pk.untag; rw [if_neg npq, if_pos rfl]
    have k3 := a03.dK KN.kn
    have t3 := a03.dK KN.th
    generalize Pk.untag (Pk.untag tg p) q = tg3 at *
    walk_at "w"
    refine ⟨tg3, m, nm, rfl, RU, KN.w.bd, KN.w.k1, KN.w.run, k3, hq, fun H4 tg4 L4 tk sa v hL4 sr st4 R4 k4 t4 => ?_⟩
    have hLn : ∀ s, s ∈ nm :: L4 → s ∈ m.names := fun s hs => by
      rcases List.mem_cons.mp hs with e | e
      · rw [e]; exact hq.1
      · exact (hL4 s e).1.1
    have hrt : rootN ∉ nm :: L4 := fun h => by
      rcases List.mem_cons.mp h with e | e
      · exact hroot e.symm
      · have := (hL4 _ e).2
        rw [KN.w.r0] at this
        exact KN.w.ne this
    have sh4 := shr_stop KN.w sr hLn
    have w4 := wf_stop KN.w sr hLn hrt
    have eq4 := st4.keep _ _ eq (Pl.nt (o := .lst _) trivial) tq
    have tq4 := st4.tag _ _ eq (Pl.nt (o := .lst _) trivial) tq
    have ep4 := st4.keep _ _ ep3 (Pl.nt (o := .lst _) trivial) tp
    have tp4 := st4.tag _ _ ep3 (Pl.nt (o := .lst _) trivial) tp
    have h4 := t4 _ t3 (Pl.nt (o := .dK _) trivial)
    walk_at "w"
    refine ⟨by rw [sizeLine_eq]; decide, fun pp hpp => ?_⟩
    have frpp : ∀ o, nt o → H4 pp ≠ some o := fun o _ z => by rw [hpp] at z; cases z
    have nqpp : q ≠ pp := ne_of_none eq4 hpp
    have nppp : p ≠ pp := ne_of_none ep4 hpp
    have R5 := R4.untag (R4.fresh1 frpp)
    have st5 := (Stp.refl (H := H4) (tg := tg4)).untag frpp
    have tpp : (Pk.untag tg4 pp) pp = none := untag_at
    have tq5 : (Pk.untag tg4 pp) q = none := by unfold Pk.untag; rw [if_neg nqpp]; exact tq4
    have tp5 : (Pk.untag tg4 pp) p = none := by unfold Pk.untag; rw [if_neg nppp]; exact tp4
    generalize Pk.untag tg4 pp = tg5 at *
    have f5 : FldAt K (L2.upd H4 pp (.lst [])) (.ref m.k) "things" (.ref m.th) := fld_k_things (m := m.ws tk sa) G (R5.al (.new hpp))
    walk_at "w"
    have nth_pp : m.th ≠ pp := ne_of_none h4 hpp
    refine ⟨m.th, _, (upd_ne nth_pp).trans h4, trivial, fun od => ?_⟩
    have Rb : Rep K (L2.upd H4 m.th (.frz od (.dK (rowsD (List.range m.nth) m.tha)))) tg5 (m.ws tk sa) := R5.frzt
    have al0 : Al (L2.upd H4 m.th (.frz od (.dK (rowsD (List.range m.nth) m.tha)))) (L2.upd (L2.upd H4 pp (.lst [])) m.th (.frz od (.dK (rowsD (List.range m.nth) m.tha)))) := Al.of fun b o e => by
      by_cases hb : b = m.th
      · subst hb; rw [upd_same] at e ⊢; exact e
      · rw [upd_ne hb] at e ⊢
        rw [upd_ne (ne_of_none e hpp)]; exact e
    have frb : ∀ o, nt o → (L2.upd H4 m.th (.frz od (.dK (rowsD (List.range m.nth) m.tha)))) pp ≠ some o := fun o n z => by rw [upd_ne nth_pp.symm] at z; exact frpp o n z
    have e0th : (L2.upd (L2.upd H4 pp (.lst [])) m.th (.frz od (.dK (rowsD (List.range m.nth) m.tha)))) m.th = some (.frz od (.dK (rowsD (List.range m.nth) m.tha))) := upd_same
    have e0pp : (L2.upd (L2.upd H4 pp (.lst [])) m.th (.frz od (.dK (rowsD (List.range m.nth) m.tha)))) pp = some (.lst []) := (upd_ne nth_pp.symm).trans upd_same
    have nthq : m.th ≠ q := fun z => by rw [z, eq4] at h4; cases h4
    have nthp : m.th ≠ p := fun z => by rw [z, ep4] at h4; cases h4
    have nkth : m.kn ≠ m.th := fun z => by have := R.kn_tag; rw [z, R.th_tag] at this; cases this
    have ebq : (L2.upd H4 m.th (.frz od (.dK (rowsD (List.range m.nth) m.tha)))) q = some (.lst (ns.map nV)) := (upd_ne nthq.symm).trans eq4
    have ebp : (L2.upd H4 m.th (.frz od (.dK (rowsD (List.range m.nth) m.tha)))) p = some (.lst ((nm :: L).map V.str)) := (upd_ne nthp.symm).trans ep4
    have ebk : (L2.upd H4 m.th (.frz od (.dK (rowsD (List.range m.nth) m.tha)))) m.kn = some (.dK (knD m.names m.tka)) := (upd_ne nkth).trans k4
    have R6 := Rb.al al0
    have fth : FldAt K (L2.upd (L2.upd H4 pp (.lst [])) m.th (.frz od (.dK (rowsD (List.range m.nth) m.tha)))) (.ref m.k) "things" (.ref m.th) := fld_k_things (m := m.ws tk sa) G R6
    generalize eHb : L2.upd H4 m.th (.frz od (.dK (rowsD (List.range m.nth) m.tha))) = Hb at *
    generalize L2.upd (L2.upd H4 pp (.lst [])) m.th (.frz od (.dK (rowsD (List.range m.nth) m.tha))) = H6 at *
    walk_at "w"
    refine ⟨_, _, _, rfl, e0th, ?_⟩
    have hlr : (rowsD (List.range m.nth) m.tha).length = m.nth := by unfold rowsD; rw [List.length_map, List.length_range]
    refine for_it walk_items (fun i σ H' => (∃ v4 v6 v7 v8, σ = [some (.ref m.k), some (.str nm), some (.ref p), some (.ref q), v4, some (.ref pp), v6, v7, v8]) ∧ ∃ (tg' : Nat → Th) (ps : List Nat), ps.length ≤ i ∧ (∀ i, tg' i = m.thg i ∨ ∃ nm' r, m.thg i = .post nm' r ∧ tg' i = .post nm' false) ∧ Stp Hb tg5 H' tg5 ∧ Rep K H' tg5 ((m.ws tk sa).wg tg') ∧ H' m.th = some (.frz od (.dK (rowsD (List.range m.nth) m.tha))) ∧ H' m.kn = some (.dK (knD m.names m.tka)) ∧ H' pp = some (.lst (ps.map nV))) ?_ ?_ ?_ ?_
    · exact ⟨⟨_, _, _, _, rfl⟩, m.thg, [], Nat.le_refl _, fun _ => .inl rfl, Stp.al al0, R6, e0th, al0.dK ebk, e0pp⟩
    · rintro i σ H7 hi ⟨_, tg', ps, _, _, _, _, e, _⟩
      exact e
    · rintro i x σ H7 H8 hi ⟨⟨v4, v6, v7, v8, rfl⟩, tg', ps, hps, hth, st7, R7, e7, k7, ep7⟩ ⟨T, kx, vx, rfl, hT, rfl, e1, e2⟩
      obtain ⟨hin, rfl, rfl⟩ := th_at e1 e2
      have aT := Al.new (o := .tup [nV i, V.ref (m.tha i)]) hT
      have R8 := R7.al aT
      have st8 := st7.trans (Stp.al (tg := tg5) aT)
      have e8 := aT.frz e7
      have k8 := aT.dK k7
      have ep8 := aT.lst ep7
      have eT : (L2.upd H7 T (.tup [nV i, V.ref (m.tha i)])) T = some (.tup [nV i, V.ref (m.tha i)]) := upd_same
      have epn8 := st8.keep _ _ ebp (Pl.nt (o := .lst _) trivial) tp5
      generalize L2.upd H7 T (.tup [nV i, V.ref (m.tha i)]) = H8 at *
      refine tup2 (sqT_at eT) rfl ?_
      obtain ⟨C, dx, fs, f, ek, lk, clk, mk, Fk⟩ := kind_ex (P := P) (w := w) G R8 (i := i) hin
      walk_at "w"
      refine ⟨_, C, dx, fs, f, _, rfl, ek, lk, clk, mk, Fk, ?_⟩
      walk_at "w"
      cases ht : tg' i with
      | post nm' r =>
        have hkp : kindS (((m.ws tk sa).wg tg').thg i) = "post" := by show kindS (tg' i) = _; rw [ht]; rfl
        rw [hkp]
        obtain ⟨dx3, e3⟩ := R8.thg (i := i) hin
        have e3' : H8 (m.tha i) = some (.ins (He.ga K "Post") dx3 (thF i (.post nm' r) 0)) := by
          have : H8 (m.tha i) = some (.ins (thC K (tg' i)) dx3 (thF i (tg' i) (m.thb i))) := e3
          rw [ht] at this
          exact this
        walk_at "w"
        refine ⟨_, _, dx3, _, _, _, rfl, e3', rfl, G.cl_Post, G.m_Post_told, FnR.lift (ok_Post_told G) (by decide), ?_⟩
        walk_at "w"
        refine ⟨_, dx3, i, nm', r, rfl, e3', fun p9 hp9 => ?_⟩
        have a9 := Al.new (o := .tup [.str "post", .str nm', .bl r]) hp9
        walk_at "w"
        refine ⟨_, _, _, _, rfl, rfl, sqT_at upd_same, rfl, ?_⟩
        walk_at "w"
        refine ⟨p, _, rfl, .inl (sqL_at (a9.lst epn8)), rfl, flat_str, ?_⟩
        rw [if_neg (by decide), inV_str]
        have R9 := R8.al a9
        have e9 := a9.ins e3'
        by_cases hn' : nm' ∈ nm :: L
        · walk_at "w"
          refine ⟨_, _, dx3, _, _, _, rfl, e9, rfl, G.cl_Post, G.m_Post_did, FnR.lift (ok_Post_did G) (by decide), ?_⟩
          walk_at "w"
          refine ⟨_, dx3, i, nm', r, "end", rfl, e9, .inl rfl, fun h => absurd h (by decide), fun _ => ?_⟩
          have Ra := R9.setPost (i := i) (nm := nm') (r := r) (dx := dx3) hin ht
          have tta : tg5 (m.tha i) = some (.thg i) := (R9.cell (.thg i) _ _ (if_pos hin)).1
          have st9 := (st8.trans (Stp.al (tg := tg5) a9)).trans (Stp.upd (o' := .ins (He.ga K "Post") dx3 (thF i (.post nm' false) 0)) e9 trivial tta)
          have npa : pp ≠ m.tha i := fun z => by rw [← z, tpp] at tta; cases tta
          have nta : m.th ≠ m.tha i := fun z => by have h1 := R9.th_tag; have h1' : tg5 m.th = some .th := h1; rw [z, tta] at h1'; cases h1'
          have nka : m.kn ≠ m.tha i := fun z => by have h1 := R9.kn_tag; have h1' : tg5 m.kn = some .kn := h1; rw [z, tta] at h1'; cases h1'
          have ea := (upd_ne (o := .ins (He.ga K "Post") dx3 (thF i (.post nm' false) 0)) nta).trans (a9.frz e8)
          have ka := (upd_ne (o := .ins (He.ga K "Post") dx3 (thF i (.post nm' false) 0)) nka).trans (a9.dK k8)
          have epa := (upd_ne (o := .ins (He.ga K "Post") dx3 (thF i (.post nm' false) 0)) npa).trans (a9.lst ep8)
          walk_at "w"
          refine ⟨tyL epa, ?_⟩
          walk_at "w"
          refine ⟨_, _, _, rfl, rfl, epa, by rw [List.length_map, sizeLine_eq]; rw [hlr] at hi; have := KN.w.nth; omega, ?_⟩
          have eL : ps.map nV ++ [nV i] = (ps ++ [i]).map nV := by simp
          rw [eL]
          have ntp : m.th ≠ pp := fun z => by rw [z, epa] at ea; cases ea
          have nkp : m.kn ≠ pp := fun z => by rw [z, epa] at ka; cases ka
          refine ⟨⟨_, _, _, _, rfl⟩, nput tg' i (.post nm' false), ps ++ [i], by rw [List.length_append, List.length_singleton]; omega, fun j => ?_, st9.updN frb epa trivial, Ra.other tpp epa, (upd_ne ntp).trans ea, (upd_ne nkp).trans ka, upd_same⟩
          by_cases hji : j = i
          · subst hji
            rw [nput_at]
            rcases hth j with h | ⟨n2, r2, h1, h2⟩
            · rw [ht] at h; exact .inr ⟨nm', r, h.symm, rfl⟩
            · rw [ht] at h2; cases h2; exact .inr ⟨_, r2, h1, rfl⟩
          · rw [nput_ne hji]; exact hth j
        · walk_at "w"
          exact ⟨⟨_, _, _, _, rfl⟩, tg', ps, by omega, hth, st8.trans (Stp.al a9), R9, a9.frz e8, a9.dK k8, a9.lst ep8⟩
      | cell =>
        have hkp : kindS (((m.ws tk sa).wg tg').thg i) = "cell" := by show kindS (tg' i) = _; rw [ht]; rfl
        rw [hkp]
        walk_at "w"
        exact ⟨⟨_, _, _, _, rfl⟩, tg', ps, by omega, hth, st8, R8, e8, k8, ep8⟩
      | line =>
        have hkp : kindS (((m.ws tk sa).wg tg').thg i) = "line" := by show kindS (tg' i) = _; rw [ht]; rfl
        rw [hkp]
        walk_at "w"
        exact ⟨⟨_, _, _, _, rfl⟩, tg', ps, by omega, hth, st8, R8, e8, k8, ep8⟩
      | door ls =>
        have hkp : kindS (((m.ws tk sa).wg tg').thg i) = "door" := by show kindS (tg' i) = _; rw [ht]; rfl
        rw [hkp]
        walk_at "w"
        exact ⟨⟨_, _, _, _, rfl⟩, tg', ps, by omega, hth, st8, R8, e8, k8, ep8⟩
    · rintro σ H7 ⟨⟨v4, v6, v7, v8, rfl⟩, tg', ps, hps, hth, st7, R7, e7, k7, ep7⟩
      refine ⟨e7, ?_⟩
      rw [hlr] at hps
      have R8 : Rep K (L2.upd H7 m.th (.dK (rowsD (List.range m.nth) m.tha))) tg5 ((m.ws tk sa).wg tg') := R7.thawt
      rw [← eHb] at st7
      have st8 := Stp.unlock h4 trivial (R5.th_tag : tg5 m.th = some .th) st7 e7
      have sthst : Stp H tg (L2.upd H7 m.th (.dK (rowsD (List.range m.nth) m.tha))) tg5 := stU.trans (st4.trans (st5.trans st8))
      have e8 : (L2.upd H7 m.th (.dK (rowsD (List.range m.nth) m.tha))) m.th = some (.dK (rowsD (List.range m.nth) m.tha)) := upd_same
      have k8 := (upd_ne (o := .dK (rowsD (List.range m.nth) m.tha)) nkth).trans k7
      have ep8 := (upd_ne (o := .dK (rowsD (List.range m.nth) m.tha)) nth_pp.symm).trans ep7
      have eq8 := st8.keep _ _ eq4 (Pl.nt (o := .lst _) trivial) tq5
      have epn8 := st8.keep _ _ ep4 (Pl.nt (o := .lst _) trivial) tp5
      generalize L2.upd H7 m.th (.dK (rowsD (List.range m.nth) m.tha)) = H8 at *
      have sh8 : Shr (m.ws tk sa) ((m.ws tk sa).wg tg') := by
        refine ⟨⟨rfl, rfl, rfl, rfl, rfl, rfl, rfl, rfl, rfl⟩, rfl, fun _ h => h, fun _ => rfl, rfl, rfl, fun _ => rfl, fun _ h => h, fun _ => .refl, fun i ls h => ?_, fun i nm' r h => ?_⟩
        · rcases hth i with h1 | ⟨n2, r2, h1, h2⟩
          · exact h1.symm.trans h
          · have h' : tg' i = .door ls := h
            rw [h2] at h'; cases h'
        · rcases hth i with h1 | ⟨n2, r2, h1, h2⟩
          · exact ⟨r, h1.symm.trans h⟩
          · have h' : tg' i = .post nm' r := h
            rw [h2] at h'; cases h'; exact ⟨r2, h1⟩
      have w8 : Wf ((m.ws tk sa).wg tg') := w4.shr sh8 { w4.t with } w4.slot w4.root
      have K8 : Kn K H8 tg5 ((m.ws tk sa).wg tg') := ⟨R8, w8, k8, e8⟩
      have sh08 := sh4.trans sh8
      have f1 : FldAt K H8 (.ref m.k) "tree" (.ref m.tr) := fld_k_tree (m := (m.ws tk sa).wg tg') G R8
      have i1 : InsC H8 (.ref m.tr) (He.ga K "Tree") "kept" := insTr (m := (m.ws tk sa).wg tg') R8 rfl
      walk_at "w"
      refine ⟨i1, ?_⟩
      walk_at "w"
      refine ⟨tg5, (m.ws tk sa).wg tg', rfl, R8, w8.t.sz, fun H9 p9 ks a9 hp9 e9 perm => ?_⟩
      have hkl : ks.length ≤ 1000 := by rw [perm.length_eq]; exact w8.t.sz
      walk_at "w"
      refine ⟨⟨_, sqL_at e9⟩, ?_⟩
      have hksl : (ks.map nV).length = ks.length := List.length_map _
      refine lcR walk_list (fun i => (ks[i]?).bind fun n => if decide ((m.row n).thing ∈ ps) = true then some (nV n) else none) (by rw [hksl, sizeLine_eq]; omega) (fun H a => sqL_at (a.lst e9)) (fun j x Ha Hb2 hj a y N1 N2 hy hno => ?_) (fun Ha D a e => ?_)
      · obtain ⟨rfl, hx⟩ := y
        rw [List.getElem?_map] at hx
        cases hc : ks[j]? with
        | none => rw [hc] at hx; cases hx
        | some n =>
          rw [hc] at hx hy hno
          cases hx
          have hnk : n ∈ m.keys := perm.mem_iff.mp (List.mem_of_getElem? hc)
          have Ra : Rep K Hb2 tg5 ((m.ws tk sa).wg tg') := R8.al (a9.trans a)
          have epa := (a9.trans a).lst ep8
          have f2 : FldAt K Hb2 (.ref m.k) "tree" (.ref m.tr) := fld_k_tree (m := (m.ws tk sa).wg tg') G Ra
          have i2 : InsC Hb2 (.ref m.tr) (He.ga K "Tree") "handle" := insTr (m := (m.ws tk sa).wg tg') Ra rfl
          walk_at "w"
          refine ⟨i2, ?_⟩
          walk_at "w"
          refine ⟨tg5, (m.ws tk sa).wg tg', n, rfl, Ra, fun h => absurd hnk h, fun _ Hc xh ac hh => ?_⟩
          walk_at "w"
          refine ⟨pp, _, rfl, .inl (sqL_at (ac.lst epa)), rfl, flat_nat, ?_⟩
          rw [if_neg (by decide), inV_nat]
          by_cases hin : (m.row n).thing ∈ ps
          · walk_at "w"
            exact hy _ _ (by simp [hin]) ac
          · walk_at "w"
            exact hno _ (by simp [hin]) ac
      · have ef : (List.range (ks.map nV).length).filterMap (fun i => (ks[i]?).bind fun n => if decide ((m.row n).thing ∈ ps) = true then some (nV n) else none) = (ks.filter fun n => decide ((m.row n).thing ∈ ps)).map nV := by
          rw [hksl, filterMap_range ks _ (fun n => if decide ((m.row n).thing ∈ ps) = true then some (nV n) else none) (fun i x e => by rw [e]; rfl), filterMap_if]
        rw [ef] at e
        have a89 := a9.trans a
        have eqa := a89.lst eq8
        walk_at "w"
        refine ⟨_, _, _, _, rfl, rfl, eqa, e, by rw [List.length_map, List.length_map, sizeLine_eq]; have := List.length_filter_le (fun n => decide ((m.row n).thing ∈ ps)) ks; omega, ?_⟩
        rw [← List.map_append]
        have Kb := K8.al a89
        have Rc := Kb.r.other (ys := (ns ++ ks.filter fun n => decide ((m.row n).thing ∈ ps)).map nV) tq5 eqa
        have nkq : m.kn ≠ q := fun z => by have := Kb.kn; rw [show ((m.ws tk sa).wg tg').kn = q from z, eqa] at this; cases this
        have ntq : m.th ≠ q := fun z => by have := Kb.th; rw [show ((m.ws tk sa).wg tg').th = q from z, eqa] at this; cases this
        have npq' : p ≠ q := npq
        have stc := (sthst.trans (Stp.al (tg := tg5) a89)).updN (o' := .lst ((ns ++ ks.filter fun n => decide ((m.row n).thing ∈ ps)).map nV)) frq eqa trivial
        have Kc : Kn K (L2.upd Ha q (.lst ((ns ++ ks.filter fun n => decide ((m.row n).thing ∈ ps)).map nV))) tg5 ((m.ws tk sa).wg tg') := ⟨Rc, w8, (upd_ne nkq).trans Kb.kn, (upd_ne ntq).trans Kb.th⟩
        have eqc : (L2.upd Ha q (.lst ((ns ++ ks.filter fun n => decide ((m.row n).thing ∈ ps)).map nV))) q = some (.lst ((ns ++ ks.filter fun n => decide ((m.row n).thing ∈ ps)).map nV)) := upd_same
        have epc := (upd_ne (o := .lst ((ns ++ ks.filter fun n => decide ((m.row n).thing ∈ ps)).map nV)) npq').trans (a89.lst epn8)
        generalize L2.upd Ha q (.lst ((ns ++ ks.filter fun n => decide ((m.row n).thing ∈ ps)).map nV)) = Hc at *
        generalize ns ++ ks.filter (fun n => decide ((m.row n).thing ∈ ps)) = nums at *
        walk_at "w"
        refine ⟨⟨_, sqL_at eqc⟩, ?_⟩
        refine for_list (xs := nums.map nV) (fun i σ H' => (∃ v4 v6 v7 v8, σ = [some (.ref m.k), some (.str nm), some (.ref p), some (.ref q), v4, some (.ref pp), v6, v7, v8]) ∧ ∃ tg' m', Stp Hc tg5 H' tg' ∧ Kn K H' tg' m' ∧ Shr m m') ?_ ?_ ?_ ?_
        · exact ⟨⟨_, _, _, _, rfl⟩, tg5, _, .refl, Kc, sh08⟩
        · rintro i σ Hd hi ⟨_, tgd, md, st, _⟩
          exact sqL_at (st.keep _ _ eqc (Pl.nt (o := .lst _) trivial) tq5)
        · rintro i x σ Hd hx ⟨⟨v4, v6, v7, v8, rfl⟩, tgd, md, st, Kd, sh⟩
          rw [List.getElem?_map] at hx
          cases hc : nums[i]? with
          | none => rw [hc] at hx; cases hx
          | some d =>
            rw [hc] at hx
            cases hx
            obtain ⟨q1, q2, q3, q4, q5, q6, q7, q8, q9⟩ := sh.adr
            have Rd := Kd.r
            have f3 : FldAt K Hd (.ref m.k) "tree" (.ref m.tr) := by have := fld_k_tree G Rd; rwa [q1, q2] at this
            have i3 : InsC Hd (.ref m.tr) (He.ga K "Tree") "kept" := by have := insTr (x := "kept") Rd rfl; rwa [q2] at this
            walk_at "w"
            refine ⟨i3, ?_⟩
            walk_at "w"
            refine ⟨tgd, md, by rw [q2], Rd, Kd.w.t.sz, fun He p4 ks4 a4 hp4 e4 perm4 => ?_⟩
            walk_at "w"
            refine ⟨p4, _, rfl, .inl (sqL_at e4), rfl, flat_nat, ?_⟩
            rw [if_neg (by decide), inV_nat]
            by_cases hin : d ∈ ks4
            · walk_at "w"
              refine ⟨tgd, md, d, by rw [q1], Kd.al a4, perm4.mem_iff.mp hin, fun H' tg' m' c2 st' KN' sh' => ?_⟩
              exact ⟨⟨_, _, _, _, rfl⟩, tg', m', st.trans ((Stp.al a4).trans st'), KN', sh.trans sh'⟩
            · walk_at "w"
              exact ⟨⟨_, _, _, _, rfl⟩, tgd, md, st.trans (Stp.al a4), Kd.al a4, sh⟩
        · rintro σ Hd ⟨⟨v4, v6, v7, v8, rfl⟩, tgd, md, st, Kd, sh⟩
          have epd := st.keep _ _ epc (Pl.nt (o := .lst _) trivial) tp5
          walk_at "w"
          refine ⟨_, _, rfl, .inl ⟨_, sqL_at epd, rfl⟩, ?_⟩
          exact k Hd tgd md _ (stc.trans st) Kd sh
end
end Pk
end
/-! PkDict -/
section
set_option maxHeartbeats 4000000
namespace Pk
open PySem PySem.Spec PyProof.Rows L2
/-! dicts from things to rights -/
abbrev PL := List (Nat × Nat)
def mD (ps : PL) : List (Key × V) := ps.map fun (p : Nat × Nat) => ((Sum.inl (p.1 : Int) : Key), nV p.2)
def keysN (ps : PL) : List Nat := ps.map Prod.fst
def look (ps : PL) (t : Nat) : Nat := match ps.find? (fun p => decide (p.1 = t)) with | some p => p.2 | none => 0
def putN (ps : PL) (t r : Nat) : PL := if t ∈ keysN ps then ps.map (fun p => if p.1 = t then (p.1, r) else p) else ps ++ [(t, r)]
def addN (ps : PL) (p : Nat × Nat) : PL := putN ps p.1 (look ps p.1 ||| p.2)
def addAll (ps qs : PL) : PL := qs.foldl addN ps
theorem look_nil {t : Nat} : look [] t = 0 := rfl
theorem look_cons {p : Nat × Nat} {r : PL} {t : Nat} : look (p :: r) t = if p.1 = t then p.2 else look r t := by
  unfold look
  rw [List.find?_cons]
  by_cases h : p.1 = t
  · simp [h]
  · simp [h]
theorem look_none {ps : PL} {t : Nat} (h : t ∉ keysN ps) : look ps t = 0 := by
  induction ps with
  | nil => rfl
  | cons p r ih =>
    unfold keysN at h
    rw [List.map_cons, List.mem_cons, not_or] at h
    rw [look_cons, if_neg (fun z => h.1 z.symm)]
    exact ih h.2
theorem val_mD {ps : PL} {t : Nat} : valV (mD ps) (Sum.inl (t : Int)) = if t ∈ keysN ps then some (nV (look ps t)) else none := by
  induction ps with
  | nil => rfl
  | cons p r ih =>
    show valV (((Sum.inl (p.1 : Int) : Key), nV p.2) :: mD r) _ = _
    rw [look_cons]
    by_cases h : p.1 = t
    · subst h
      rw [valV_pos rfl, if_pos (by simp [keysN]), if_pos rfl]
    · rw [valV_neg (fun z => h (by have := Sum.inl.inj z; omega)), ih, if_neg h]
      have : t ∈ keysN (p :: r) ↔ t ∈ keysN r := by simp [keysN, Ne.symm h]
      simp only [this]
theorem get_mD {ps : PL} {t : Nat} : ((valV (mD ps) (Sum.inl (t : Int))).getD (V.int 0)) = nV (look ps t) := by
  rw [val_mD]
  split
  · rfl
  · rename_i h; rw [look_none h]; rfl
theorem any_mD {ps : PL} {t : Nat} : ((mD ps).any fun kv => decide (kv.1 = (Sum.inl (t : Int) : Key))) = decide (t ∈ keysN ps) := by
  rw [valV_any, val_mD]
  split
  · rename_i h; rw [decide_eq_true h]; rfl
  · rename_i h; rw [decide_eq_false h]; rfl
theorem put_mD {ps : PL} {t r : Nat} : putK (mD ps) (Sum.inl (t : Int)) (nV r) = mD (putN ps t r) := by
  unfold putK putN
  rw [any_mD]
  by_cases h : t ∈ keysN ps
  · rw [if_pos (decide_eq_true h), if_pos h]
    unfold mD
    rw [List.map_map, List.map_map]
    refine List.map_congr_left fun p _ => ?_
    by_cases z : p.1 = t
    · simp [Function.comp, z]
    · have : ¬ ((Sum.inl (p.1 : Int) : Key) = Sum.inl (t : Int)) := fun y => z (by have := Sum.inl.inj y; omega)
      simp [Function.comp, z, this]
  · rw [if_neg (by rw [decide_eq_false h]; decide), if_neg h]
    unfold mD
    rw [List.map_append]
    rfl
theorem keys_putN {ps : PL} {t r : Nat} : keysN (putN ps t r) = if t ∈ keysN ps then keysN ps else keysN ps ++ [t] := by
  unfold putN
  split
  · unfold keysN
    rw [List.map_map]
    refine List.map_congr_left fun p _ => ?_
    simp only [Function.comp]
    split <;> rfl
  · unfold keysN
    rw [List.map_append]; rfl
theorem look_putN {ps : PL} {t r u : Nat} : look (putN ps t r) u = if u = t then r else look ps u := by
  unfold putN
  by_cases h : t ∈ keysN ps
  · rw [if_pos h]
    induction ps with
    | nil => cases h
    | cons p q ih =>
      rw [List.map_cons, look_cons, look_cons]
      by_cases hp : p.1 = t
      · rw [if_pos hp]
        by_cases hu : u = t
        · subst hu; rw [if_pos hp, if_pos rfl]
        · have hpu : ¬ p.1 = u := fun z => hu (z.symm.trans hp)
          rw [if_neg hpu, if_neg hpu, if_neg hu]
          by_cases hq : t ∈ keysN q
          · have := ih hq; rw [if_neg hu] at this; exact this
          · have e : q.map (fun p => if p.1 = t then (p.1, r) else p) = q := by
              refine (List.map_congr_left fun x hx => ?_).trans (List.map_id' q)
              rw [if_neg (fun z => hq (by unfold keysN; exact List.mem_map.mpr ⟨x, hx, z⟩))]
            rw [e]
      · rw [if_neg hp]
        have hq : t ∈ keysN q := by
          unfold keysN at h
          rw [List.map_cons, List.mem_cons] at h
          exact h.resolve_left (fun z => hp z.symm)
        by_cases hu : p.1 = u
        · rw [if_pos hu, if_pos hu, if_neg (fun z => hp (hu.trans z))]
        · rw [if_neg hu, if_neg hu]; exact ih hq
  · rw [if_neg h]
    induction ps with
    | nil =>
      show look [(t, r)] u = _
      rw [look_cons]
      by_cases hu : u = t
      · subst hu; simp
      · rw [if_neg hu, if_neg (fun z => hu z.symm)]
    | cons p q ih =>
      rw [List.cons_append, look_cons, look_cons]
      have hq : t ∉ keysN q := fun z => h (by unfold keysN at z ⊢; rw [List.map_cons]; exact List.mem_cons_of_mem _ z)
      have hp : p.1 ≠ t := fun z => h (by unfold keysN; rw [List.map_cons, z]; exact List.mem_cons_self)
      by_cases hu : p.1 = u
      · rw [if_pos hu, if_pos hu, if_neg (fun z => hp (hu.trans z))]
      · rw [if_neg hu, if_neg hu]; exact ih hq
theorem look_addN {ps : PL} {p : Nat × Nat} {u : Nat} : look (addN ps p) u = if u = p.1 then look ps u ||| p.2 else look ps u := by
  unfold addN
  rw [look_putN]
  by_cases h : u = p.1
  · rw [if_pos h, if_pos h, h]
  · rw [if_neg h, if_neg h]
theorem keys_addN {ps : PL} {p : Nat × Nat} : ∀ t, t ∈ keysN (addN ps p) ↔ t ∈ keysN ps ∨ t = p.1 := fun t => by
  unfold addN
  rw [keys_putN]
  split
  · rename_i h
    exact ⟨.inl, fun z => z.elim id fun e => e ▸ h⟩
  · rw [List.mem_append, List.mem_singleton]
theorem nd_addN {ps : PL} {p : Nat × Nat} (h : (keysN ps).Nodup) : (keysN (addN ps p)).Nodup := by
  unfold addN
  rw [keys_putN]
  split
  · exact h
  · rename_i hn
    exact List.nodup_append.mpr ⟨h, by simp, fun a ha b hb => by simp at hb; rw [hb]; exact fun z => hn (z ▸ ha)⟩
/-- bit by bit -/
theorem bit_addAll {ps qs : PL} {t b : Nat} : (look (addAll ps qs) t).testBit b = true ↔ (look ps t).testBit b = true ∨ ∃ q, q ∈ qs ∧ q.1 = t ∧ q.2.testBit b = true := by
  induction qs generalizing ps with
  | nil => exact ⟨.inl, fun z => z.elim id fun ⟨_, h, _⟩ => by cases h⟩
  | cons p r ih =>
    show (look (addAll (addN ps p) r) t).testBit b = true ↔ _
    rw [ih, look_addN]
    constructor
    · rintro (h | ⟨q, h1, h2, h3⟩)
      · by_cases e : t = p.1
        · rw [if_pos e, Nat.testBit_or, Bool.or_eq_true] at h
          rcases h with h | h
          · exact .inl h
          · exact .inr ⟨p, List.mem_cons_self, e.symm, h⟩
        · rw [if_neg e] at h; exact .inl h
      · exact .inr ⟨q, List.mem_cons_of_mem _ h1, h2, h3⟩
    · rintro (h | ⟨q, h1, h2, h3⟩)
      · refine .inl ?_
        split
        · rw [Nat.testBit_or, h]; rfl
        · exact h
      · rcases List.mem_cons.mp h1 with e | h1
        · subst e
          refine .inl ?_
          rw [if_pos h2.symm, Nat.testBit_or, h3, Bool.or_true]
        · exact .inr ⟨q, h1, h2, h3⟩
theorem keys_addAll {ps qs : PL} {t : Nat} : t ∈ keysN (addAll ps qs) ↔ t ∈ keysN ps ∨ t ∈ keysN qs := by
  induction qs generalizing ps with
  | nil => exact ⟨.inl, fun z => z.elim id fun h => by cases h⟩
  | cons p r ih =>
    show t ∈ keysN (addAll (addN ps p) r) ↔ _
    rw [ih, keys_addN]
    have : t ∈ keysN (p :: r) ↔ t = p.1 ∨ t ∈ keysN r := by simp [keysN]
    rw [this, or_assoc]
theorem nd_addAll {ps qs : PL} (h : (keysN ps).Nodup) : (keysN (addAll ps qs)).Nodup := by
  induction qs generalizing ps with
  | nil => exact h
  | cons p r ih => exact ih (nd_addN h)
theorem addAll_snoc {ps qs : PL} {p : Nat × Nat} : addAll ps (qs ++ [p]) = addN (addAll ps qs) p := by
  unfold addAll
  rw [List.foldl_append]
  rfl
theorem mD_len {ps : PL} : (mD ps).length = ps.length := List.length_map _
theorem addN_len {ps : PL} {p : Nat × Nat} : (addN ps p).length ≤ ps.length + 1 := by
  unfold addN putN
  split
  · rw [List.length_map]; omega
  · rw [List.length_append]; exact Nat.le_refl _
theorem addAll_len {ps qs : PL} : (addAll ps qs).length ≤ ps.length + qs.length := by
  induction qs generalizing ps with
  | nil => exact Nat.le_refl _
  | cons p r ih =>
    have h1 : (addAll ps (p :: r)).length ≤ (addN ps p).length + r.length := ih
    have h2 := addN_len (ps := ps) (p := p)
    simp only [List.length_cons]
    omega
end Pk
end
/-! PkF20 -/
section
set_option maxHeartbeats 4000000
namespace Pk
open PySem PySem.Spec PyProof.Rows L2
local macro_rules | `(tactic| walk_at "c") => `(tactic| first | assumption | omega | exact rfl | (intro z; cases z; done) | (simp only [nV, V.int.injEq, V.str.injEq]; first | assumption | omega))
local macro_rules | `(tactic| walk_at "fld") => `(tactic| first
  | assumption
  | exact fld_k_tasks (by assumption) (by assumption) | exact fld_k_tree (by assumption) (by assumption) | exact fld_k_things (by assumption) (by assumption) | exact fld_ta_known (by assumption) (by assumption)
  | exact fld_t_rows (by assumption) (by assumption) (by assumption) | exact fld_t_run1 (by assumption) (by assumption) (by assumption) (by assumption) | exact fld_t_runs (by assumption) (by assumption) (by assumption) | exact fld_t_maker (by assumption) (by assumption) (by assumption) | exact fld_tr_rows (by assumption) (by assumption) | exact fld_tr_rb (by assumption) (by assumption) | exact fld_tr_ever (by assumption) (by assumption)
  | exact fld_h_number (by assumption) (by assumption) | exact fld_h_thing (by assumption) (by assumption) | exact fld_h_rights (by assumption) (by assumption) | exact fld_h_giver (by assumption) (by assumption) | exact fld_h_holder (by assumption) (by assumption))
local macro_rules | `(tactic| walk_at "get") => `(tactic| first
  | assumption
  | exact get_kn1 (by assumption) (by assumption) | exact get_kn0 (by assumption) (by assumption) | exact get_rw1 (by assumption) (by assumption) | exact get_rw0 (by assumption) (by assumption)
  | exact get_rb1 (by assumption) (by assumption) | exact get_rb0 (by assumption) (by assumption) | exact get_th1 (by assumption) (by assumption) | exact get_th0 (by assumption) (by assumption))
local macro_rules | `(tactic| walk_at "ins") => `(tactic| first | exact insTa (by assumption) rfl | exact insTr (by assumption) rfl)
local macro_rules | `(tactic| walk_at "s") => `(tactic| first
  | refine ⟨_, rfl, ?_⟩
  | refine ⟨rfl, ?_⟩
  | refine zI fun _ => ?_
  | with_reducible refine iteF ?_ | with_reducible refine iteT ?_
  | ((with_reducible refine iteDy ?_ ?_); focus (walk_at "c"; done)) | ((with_reducible refine iteDn ?_ ?_); focus (walk_at "c"; done)) | ((with_reducible refine iteNy ?_ ?_); focus (walk_at "c"; done)) | ((with_reducible refine iteNn ?_ ?_); focus (walk_at "c"; done))
  | refine fldI (by walk_at "fld") ?_
  | refine getI (by walk_at "get") ?_ | refine getS (by walk_at "get") ?_
  | refine ⟨by walk_at "ins", ?_⟩
  | refine ⟨_, _, _, _, true, rfl, .ty _, .base (.str _), kit_ty (by decide +kernel), ?_⟩
  | refine ⟨_, _, _, _, true, rfl, .ty _, .base (.int _), kit_ty (by decide +kernel), ?_⟩
  | refine ⟨_, _, _, _, false, rfl, .ty _, .base (.int _), kit_ty (by decide +kernel), ?_⟩
  | refine ⟨_, _, rfl, rfl, ?_⟩
  | refine ⟨_, _, rfl, rfl, trivial, ?_⟩)
local macro_rules | `(tactic| walk_at "w") => `(tactic| repeat (walk_at "s"))
section
variable {P : Program} {w : World} {K : PySem.W.Frag} {mg : Str → Option Value} {base : Heap} (G : Gx K mg base)
include G
def sp_need_thing (K : PySem.W.Frag) : Sp := fun vs H Q E => ∃ tg m i, vs = [.ref m.k, nV i] ∧ Rep K H tg m ∧ i < m.nth ∧ Q .non H
omit G in
theorem sc_need_thing : FnScope ["kernel", "thing"] ["kernel", "thing"] (defScope s_need_thing) := ⟨rfl, rfl, rfl, by decide +kernel, rfl, by decide +kernel, by decide +kernel⟩
theorem ok_need_thing : FnR P w K mg base (L2.CX P w) 1 (He.ga K "need_thing") (sp_need_thing K) := by
  refine mkF (k := 0) G.f_need_thing sc_need_thing (fun _ _ _ _ _ _ us hl => match us, hl with | [_, _], _ => rfl) (fun vs H Q E h => by repeat (first | (obtain ⟨e, _⟩ := h; cases e; rfl; done) | obtain ⟨_, h⟩ := h)) (fun cdv A outer s H vs Q E hr h => ?_)
  have S := sc_need_thing
  obtain ⟨tg, m, i, rfl, R, hi, k⟩ := h
  refine ⟨_, (pss_one (ps_if (PW.pt (pw_or (pt_not (pt_val (pe_callB call_isi (by rfl) G.b_isinstance (by decide +kernel) (pa_cons (pv 1) (pa_cons (pe_ty (T := "int") rfl G.b_int (by decide +kernel)) pa_nil))))) (pw_or (pt_val (pe_callB call_isi (by rfl) G.b_isinstance (by decide +kernel) (pa_cons (pv 1) (pa_cons (pe_ty (T := "bool") rfl G.b_bool (by decide +kernel)) pa_nil)))) (pw_or1 (pt_cmp (pc_dnotin (hu_of hr) (pv 1) (pe_fd (pv 0)))))))) (pss_one (ps_raise rfl tkd (pmk_own PySem.F.excBase_ValueError G.x_NoThing.1 G.g_NoThing G.x_NoThing.2.1 (raises_own G.x_NoThing.2.2.1 G.x_NoThing.2.2.2) rfl))) pss_nil)), ?_⟩
  walk_at "w"
  exact k
/-- a list of handles' objects -/
def HdR (K : PySem.W.Frag) (m : Mo) (H : Hp) (n : Nat) (v : V) : Prop := ∃ x, v = .ref x ∧ HdAt K H x n (m.row n)
def numsOf (m : Mo) (s : Str) : List Nat := (slotsOf m s).map Prod.snd
def sp_handles_of (K : PySem.W.Frag) : Sp := fun vs H Q E => ∃ tg m s, vs = [.ref m.k, .str s] ∧ Rep K H tg m ∧ Wf m ∧ RunT m s ∧ (∀ H' p us, Al H H' → H' p = some (.lst us) → Ali (HdR K m H') (numsOf m s) us → Q (.ref p) H')
omit G in
theorem sc_handles_of : FnScope ["kernel", "task", "slot", "number"] ["kernel", "task"] (defScope s_handles_of) := ⟨rfl, rfl, rfl, by decide +kernel, rfl, by decide +kernel, by decide +kernel⟩
theorem ok_handles_of : FnR P w K mg base (L2.CX P w) 4 (He.ga K "handles_of") (sp_handles_of K) := by
  refine mkF (k := 3) G.f_handles_of sc_handles_of (fun _ _ _ _ _ _ us hl => match us, hl with | [_, _], _ => rfl) (fun vs H Q E h => by repeat (first | (obtain ⟨e, _⟩ := h; cases e; rfl; done) | obtain ⟨_, h⟩ := h)) (fun cdv A outer s H vs Q E hr h => ?_)
  have S := sc_handles_of
  obtain ⟨tg, m, s1, rfl, R, W, hq, k⟩ := h
  refine ⟨_, (pss_one (ps_ret (by exact (pe_lcz (own := [("slot", 2), ("number", 3)]) rfl S.nd (pi_list (pe_m (ok_Tasks_slots G) (hr.mono (by omega)) G.cl_Tasks G.m_Tasks_slots tkd (pe_fd (pv 0)) (pa_cons (pv 1) pa_nil))) (blkOk_by (own := [("slot", 2), ("number", 3)]) (N := ["kernel", "task", "slot", "number"]) (sc := defScope s_handles_of) (by decide +kernel)) (fun _ => (pg_tup rfl (pgs_cons (pg_name (i := 2) S.nd rfl (by first | exact Or.inl rfl | exact Or.inr rfl)) (pgs_cons (pg_name (i := 3) S.nd rfl (by first | exact Or.inl rfl | exact Or.inr rfl)) pgs_nil)))) (fun _ => pts_nil) (fun _ => (pe_m (ok_Tree_handle G) (hr.mono (by omega)) G.cl_Tree G.m_Tree_handle takes0 (pe_fd (pv 0)) (pa_cons (pv 3) pa_nil))))))), ?_⟩
  walk_at "w"
  refine ⟨tg, m, s1, rfl, R, W.bd, fun h => absurd hq h, fun _ H1 p1 us a1 e1 hal => ?_⟩
  have hul : us.length = (slotsOf m s1).length := hal.1.symm
  have hl16 : (slotsOf m s1).length ≤ 16 := by
    unfold slotsOf
    refine Nat.le_trans (List.length_filterMap_le _ _) ?_
    rw [List.length_range]; exact Nat.le_refl _
  walk_at "w"
  refine ⟨⟨_, sqL_at e1⟩, ?_⟩
  refine lcA walk_list (fun i => ((slotsOf m s1)[i]?).map Prod.snd) (HdR K m) (fun H H' a v al ⟨x, e, h⟩ => ⟨x, e, h.al al⟩) (fun H D a v o hD o' ⟨x, e, dx, h⟩ => ⟨x, e, dx, by rw [upd_ne (fun z => by rw [z, hD] at h; cases h)]; exact h⟩) (by rw [hul, sizeLine_eq]; omega) (fun H a => sqL_at (a.lst e1)) (fun i x H2 H3 hi a y N1 N2 hy hn => ?_) (fun H2 D us2 a e q => ?_)
  · obtain ⟨rfl, hxu⟩ := y
    obtain ⟨sn, hsn, T, rfl, eT⟩ := hal.get hxu
    rw [hsn] at hy
    have R3 := R.al (a1.trans a)
    have hk : sn.2 ∈ m.keys := by
      have hm := List.mem_of_getElem? hsn
      unfold slotsOf at hm
      obtain ⟨i2, _, e2⟩ := List.mem_filterMap.mp hm
      cases eo : (m.task s1).rows[i2]? with
      | none => rw [eo] at e2; cases e2
      | some o =>
        rw [eo] at e2
        cases o with
        | none => cases e2
        | some n => cases e2; exact W.slot s1 n hq.1 (List.mem_of_getElem? eo)
    walk_at "w"
    refine tup2 (sqT_at (a.tup eT)) rfl ?_
    refine ⟨rfl, ?_⟩
    walk_at "w"
    refine ⟨tg, m, sn.2, rfl, R3, fun h => absurd hk h, fun _ H4 x a4 hx => ?_⟩
    exact hy sn.2 _ _ rfl ⟨x, rfl, hx⟩ a4
  · have ef : (List.range us.length).filterMap (fun i => ((slotsOf m s1)[i]?).map Prod.snd) = numsOf m s1 := by
      rw [hul, filterMap_range (slotsOf m s1) _ (fun x => some x.2) (fun i x e => by rw [e]; rfl), List.filterMap_eq_map']
      rfl
    rw [ef] at q
    exact k _ _ _ (a1.trans a) e q
end
end Pk
end
/-! PkF22 -/
section
set_option maxHeartbeats 4000000
namespace Pk
open PySem PySem.Spec PyProof.Rows L2
local macro_rules | `(tactic| walk_at "c") => `(tactic| first | assumption | omega | exact rfl | (intro z; cases z; done) | (simp only [nV, V.int.injEq, V.str.injEq]; first | assumption | omega))
local macro_rules | `(tactic| walk_at "fld") => `(tactic| first
  | assumption
  | exact fld_k_tasks (by assumption) (by assumption) | exact fld_k_tree (by assumption) (by assumption) | exact fld_k_things (by assumption) (by assumption) | exact fld_ta_known (by assumption) (by assumption)
  | exact fld_t_rows (by assumption) (by assumption) (by assumption) | exact fld_t_run1 (by assumption) (by assumption) (by assumption) (by assumption) | exact fld_t_runs (by assumption) (by assumption) (by assumption) | exact fld_t_maker (by assumption) (by assumption) (by assumption) | exact fld_tr_rows (by assumption) (by assumption) | exact fld_tr_rb (by assumption) (by assumption) | exact fld_tr_ever (by assumption) (by assumption)
  | exact fld_h_number (by assumption) (by assumption) | exact fld_h_thing (by assumption) (by assumption) | exact fld_h_rights (by assumption) (by assumption) | exact fld_h_giver (by assumption) (by assumption) | exact fld_h_holder (by assumption) (by assumption))
local macro_rules | `(tactic| walk_at "get") => `(tactic| first
  | assumption
  | exact get_kn1 (by assumption) (by assumption) | exact get_kn0 (by assumption) (by assumption) | exact get_rw1 (by assumption) (by assumption) | exact get_rw0 (by assumption) (by assumption)
  | exact get_rb1 (by assumption) (by assumption) | exact get_rb0 (by assumption) (by assumption) | exact get_th1 (by assumption) (by assumption) | exact get_th0 (by assumption) (by assumption))
local macro_rules | `(tactic| walk_at "ins") => `(tactic| first | exact insTa (by assumption) rfl | exact insTr (by assumption) rfl)
local macro_rules | `(tactic| walk_at "s") => `(tactic| first
  | refine ⟨_, rfl, ?_⟩
  | refine ⟨rfl, ?_⟩
  | refine zI fun _ => ?_
  | with_reducible refine iteF ?_ | with_reducible refine iteT ?_
  | ((with_reducible refine iteDy ?_ ?_); focus (walk_at "c"; done)) | ((with_reducible refine iteDn ?_ ?_); focus (walk_at "c"; done)) | ((with_reducible refine iteNy ?_ ?_); focus (walk_at "c"; done)) | ((with_reducible refine iteNn ?_ ?_); focus (walk_at "c"; done))
  | refine fldI (by walk_at "fld") ?_
  | refine getI (by walk_at "get") ?_ | refine getS (by walk_at "get") ?_
  | refine ⟨by walk_at "ins", ?_⟩
  | refine ⟨_, _, _, _, true, rfl, .ty _, .base (.str _), kit_ty (by decide +kernel), ?_⟩
  | refine ⟨_, _, _, _, true, rfl, .ty _, .base (.int _), kit_ty (by decide +kernel), ?_⟩
  | refine ⟨_, _, _, _, false, rfl, .ty _, .base (.int _), kit_ty (by decide +kernel), ?_⟩
  | refine ⟨_, _, rfl, rfl, ?_⟩
  | refine ⟨_, _, rfl, rfl, trivial, ?_⟩)
local macro_rules | `(tactic| walk_at "w") => `(tactic| repeat (walk_at "s"))
section
variable {P : Program} {w : World} {K : PySem.W.Frag} {mg : Str → Option Value} {base : Heap} (G : Gx K mg base)
include G
def sp_do (K : PySem.W.Frag) : Sp := fun vs H Q E => ∃ tg m t z d, vs = [.ref m.k, .str t, .int z, .str d, .int 0] ∧ Kn K H tg m ∧ isD d ∧ Er K H E ∧
  (∀ H' tg' m' v, Stp H tg H' tg' → Kn K H' tg' m' → Shr m m' → Q v H')
omit G in
theorem sc_do : FnScope ["kernel", "task", "slot", "deed", "value", "handle", "thing", "needed"] ["kernel", "task", "slot", "deed", "value"] (defScope s_do) := ⟨rfl, rfl, rfl, by decide +kernel, rfl, by decide +kernel, by decide +kernel⟩
theorem do_body (cdv : Value) (A : Around) (outer : List Env) (s : Shared) (H : Hp) (vs : List V) (Q : VK) (E : XK) (hr : Room 53 (A.deeper (envOfC "do" (defScope s_do) s.heap.objs.size (He.ga K "do") cdv))) (h : sp_do K vs H Q E) :
    ∃ t, PSs (cxOf (L2.CX P w) P w K mg base ["kernel", "task", "slot", "deed", "value", "handle", "thing", "needed"] "do" (defScope s_do) (He.ga K "do") cdv A outer s H E) (defBody s_do) t ∧ t { nx := fun _ H' => Q .non H', rt := Q } (L2.start ["kernel", "task", "slot", "deed", "value", "handle", "thing", "needed"] vs) H := by
  have S := sc_do
  obtain ⟨tg, m, t, z, d, rfl, KN, hd, er, k⟩ := h
  have R := KN.r
  refine ⟨_, (pss_cons (ps_set (i := 5) S.nd rfl (by first | exact Or.inl rfl | exact Or.inr rfl) (pe_f (ok_handle_at G) (hr.mono (by omega)) rfl G.g_handle_at (kp_of G.f_handle_at) tkd (pa_cons (pv 0) (pa_cons (pv 1) (pa_cons (pv 2) pa_nil)))))
      (pss_cons (ps_set (i := 6) S.nd rfl (by first | exact Or.inl rfl | exact Or.inr rfl) (pe_dget (hu_of hr) (pe_fd (pv 0)) (pe_fd (pv 5)) (fun _ _ => rfl)))
      (pss_cons (ps_set (i := 7) S.nd rfl (by first | exact Or.inl rfl | exact Or.inr rfl) (pe_d (k := 12) (hr.mono (by omega)) tkd (pv 6) (pa_cons (pv 3) pa_nil)))
      (pss_cons (ps_if (PW.pt (pw_and (pt_cmpR op_eq (pe_d0 (k := 12) (hr.mono (by omega)) tkd (pv 6)) pe_str (nomark _)) (pw_and1 (pt_cmpR op_in_seq (pv 3) (pe_lst (pa_cons pe_str (pa_cons pe_str pa_nil))) rfl)))) (pss_one (ps_rI (oex_NoDeed G) (ok_NoDeed_init G).choose_spec.1 (ok_NoDeed_init G).choose_spec.2 (hr.mono (by omega)) tkd rfl G.g_NoDeed (pv 3) rfl)) pss_nil)
      (pss_cons (ps_if (pt_not (pt_val (pe_f (ok_is_value G) (hr.mono (by omega)) rfl G.g_is_value (kp_of G.f_is_value) tkd (pa_cons (pv 4) pa_nil)))) (pss_one (ps_raise rfl tkd (pmk_own PySem.F.excBase_ValueError G.x_NoValue.1 G.g_NoValue G.x_NoValue.2.1 (raises_own G.x_NoValue.2.2.1 G.x_NoValue.2.2.2) rfl))) pss_nil)
      (pss_cons (ps_expr (pe_f (ok_need_rights G) (hr.mono (by omega)) rfl G.g_need_rights (kp_of G.f_need_rights) tkd (pa_cons (pv 7) (pa_cons (pe_fd (pv 5)) pa_nil))))
      (pss_cons (ps_if (PW.pt (pw_and (pt_cmpR op_eq (pe_d0 (k := 12) (hr.mono (by omega)) tkd (pv 6)) pe_str (nomark _)) (pw_and1 (pt_cmpR op_eq (pv 3) pe_str (nomark _))))) (pss_one (ps_ret (pe_f (ok_ended G) (hr.mono (by omega)) rfl G.g_ended (kp_of G.f_ended) tkd (pa_cons (pv 0) (pa_cons (pe_ix ix_tup (pe_d0 (k := 12) (hr.mono (by omega)) tkd (pv 6)) pe_int (fun _ _ => rfl)) pa_nil))))) pss_nil)
      (pss_one (ps_ret (pe_d (k := 12) (hr.mono (by omega)) tkd (pv 6) (pa_cons (pv 3) (pa_cons (pv 4) pa_nil)))))))))))), ?_⟩
  walk_at "w"
  refine ⟨tg, m, t, z, rfl, R, KN.w, fun _ => er, fun n hq hs hk H1 x1 a1 hx => ?_⟩
  have K1 := KN.al a1
  have R1 := K1.r
  have hth := KN.w.t.th n hk
  have hrg := KN.w.t.rg n hk
  walk_at "w"
  obtain ⟨dx, ex⟩ := R1.thg hth
  cases ht : m.thg (m.row n).thing with
  | cell =>
    rw [ht] at ex
    refine ⟨_, _, dx, _, _, _, rfl, ex, rfl, G.cl_Cell, G.m_Cell_needs, FnR.lift (ok_Cell_needs G) (by decide), ?_⟩
    walk_at "w"
    exact ⟨_, dx, _, d, rfl, ex, rfl, hd, er.al a1⟩
  | line =>
    rw [ht] at ex
    refine ⟨_, _, dx, _, _, _, rfl, ex, rfl, G.cl_Line, G.m_Line_needs, FnR.lift (ok_Line_needs G) (by decide), ?_⟩
    walk_at "w"
    exact ⟨_, dx, _, d, rfl, ex, rfl, hd, er.al a1⟩
  | door ls =>
    rw [ht] at ex
    refine ⟨_, _, dx, _, _, _, rfl, ex, rfl, G.cl_Door, G.m_Door_needs, FnR.lift (ok_Door_needs G) (by decide), ?_⟩
    walk_at "w"
    exact ⟨_, dx, _, d, rfl, ex, rfl, hd, er.al a1⟩
  | post nm r =>
    rw [ht] at ex
    have ex' : H1 (m.tha (m.row n).thing) = some (.ins (He.ga K "Post") dx (thF (m.row n).thing (.post nm r) 0)) := ex
    have hpo := KN.w.post _ nm r hth ht
    refine ⟨_, _, dx, _, _, _, rfl, ex', rfl, G.cl_Post, G.m_Post_needs, FnR.lift (ok_Post_needs G) (by decide), ?_⟩
    walk_at "w"
    refine ⟨_, dx, _, d, rfl, ex', rfl, hd, ?_⟩
    walk_at "w"
    refine ⟨_, _, dx, _, _, _, rfl, ex', rfl, G.cl_Post, G.m_Post_kind, FnR.lift (ok_Post_kind G) (by decide), ?_⟩
    walk_at "w"
    have hpn : postN d ≤ 63 := by unfold postN; split <;> decide
    refine ⟨postN d, (m.row n).rights, rfl, hpn, hrg, fun _ => er.al a1, fun _ => ?_⟩
    walk_at "w"
    refine ⟨_, _, dx, _, _, _, rfl, ex', rfl, G.cl_Post, G.m_Post_kind, FnR.lift (ok_Post_kind G) (by decide), ?_⟩
    rcases hd with rfl | rfl
    · walk_at "w"
      refine ⟨_, _, dx, _, _, _, rfl, ex', rfl, G.cl_Post, G.m_Post_told, FnR.lift (ok_Post_told G) (by decide), ?_⟩
      walk_at "w"
      refine ⟨_, dx, _, nm, r, rfl, ex', fun p hp => ?_⟩
      have a2 := a1.newT (o := .tup [.str "post", .str nm, .bl r]) hp
      walk_at "w"
      refine ⟨_, _, _, _, rfl, rfl, sqT_at upd_same, rfl, ?_⟩
      walk_at "w"
      exact ⟨tg, m, nm, rfl, KN.al a2, hpo.1, er.al a2, fun H' tg' m' v st KN' sh => k H' tg' m' v ((Stp.al a2).trans st) KN' sh⟩
    · walk_at "w"
      refine ⟨_, _, dx, _, _, _, rfl, ex', rfl, G.cl_Post, G.m_Post_did, FnR.lift (ok_Post_did G) (by decide), ?_⟩
      walk_at "w"
      exact ⟨_, dx, _, nm, r, "state", rfl, ex', .inr rfl, fun _ v => k H1 tg m v (Stp.al a1) K1 .refl, fun h => absurd h (by decide)⟩
def sp_do4 (K : PySem.W.Frag) : Sp := fun vs H Q E => sp_do K (vs ++ [.int 0]) H Q E
theorem ok_do_4 : FnR P w K mg base (L2.CX P w) 54 (He.ga K "do") (sp_do4 K) :=
  mkFd G (sp := sp_do K) 4 0 (by simp) G.f_do sc_do rfl (fun T kV doc pm an cdv ct us its hu hi => match us, hu, its, hi with | [_, _, _, _], _, [_], _ => ⟨_, rfl, rfl⟩) (fun vs H Q E h => by obtain ⟨_, _, _, _, _, e, _⟩ := h; cases e; rfl) (fun cdv A outer s H vs Q E hr h => do_body G cdv A outer s H vs Q E hr h)
end
end Pk
end
/-! PkLam -/
section
set_option maxHeartbeats 4000000
namespace Pk
open PySem PySem.Spec PyProof.Rows L2
/-- what is asked of a handle -/
def sp_fit (K : PySem.W.Frag) (pr : Nat → Bool) : Sp := fun vs H Q E => ∃ x n h, vs = [.ref x] ∧ HdAt K H x n h ∧ Q (.bl (pr h.rights)) H
/-- the object of a lambda -/
def LamO (f : Addr) (q : Str) (params : Arguments) (body : Expr) (scope : Scope) (pm : Value) (c' : Addr) : HO := .ext fun h => ∃ od sl ctv, h.get? f = some (⟨.type "function", od, .func (PySem.W.kla_fn "<lambda>" q params body scope [] pm (.ref c') ctv), sl⟩ : Obj)
/-- lambda x: True -/
structure LamOk (params : Arguments) (body : Expr) (scope : Scope) : Prop where
  kind : scope.kind = .function
  co : scope.isCoroutine = false
  gen : scope.isGenerator = false
  nms : scope.names = [(("handle" : Str), NameKind.local)]
  bind : ∀ (q : Str) (pm c' ctv u : Value), bindArgs (PySem.W.kla_fn "<lambda>" q params body scope [] pm c' ctv) ⟨[u], []⟩ = pure [(("handle" : Str), u)]
  body : ∃ pos, body = .Constant (.bool true) 0 pos
def LamAt (H : Hp) (f : Addr) : Prop := ∃ q params body scope pm c', H f = some (LamO f q params body scope pm c') ∧ H c' = some (LamX.CodeO c' q) ∧ LamOk params body scope
theorem lamO_nt {f : Addr} {q : Str} {params : Arguments} {body : Expr} {scope : Scope} {pm : Value} {c' : Addr} : nt (LamO f q params body scope pm c') := fun ps z => by unfold LamO at z; cases z
theorem codeO_nt {c : Addr} {q : Str} : nt (LamX.CodeO c q) := fun ps z => by unfold LamX.CodeO at z; cases z
theorem LamAt.al {H H' : Hp} {f : Addr} (h : LamAt H f) (a : Al H H') : LamAt H' f := by
  obtain ⟨q, params, body, scope, pm, c', e1, e2, ok⟩ := h
  exact ⟨q, params, body, scope, pm, c', a.keep _ _ e1 lamO_nt, a.keep _ _ e2 codeO_nt, ok⟩
def CalR (P : Program) (w : World) (K : PySem.W.Frag) (mg : Str → Option Value) (base : Heap) (H : Hp) (v : V) (pr : Nat → Bool) : Prop :=
  ∃ f, v = .ref f ∧ ((PySem.W.keepIn K (.ref f) = true ∧ FnR P w K mg base (L2.CX P w) 1 f (sp_fit K pr)) ∨ (LamAt H f ∧ pr = fun _ => true))
theorem CalR.al {P : Program} {w : World} {K : PySem.W.Frag} {mg : Str → Option Value} {base : Heap} {H H' : Hp} {v : V} {pr : Nat → Bool} (h : CalR P w K mg base H v pr) (a : Al H H') : CalR P w K mg base H' v pr := by
  obtain ⟨f, e, h⟩ := h
  exact ⟨f, e, h.imp id fun ⟨l, e3⟩ => ⟨l.al a, e3⟩⟩
def tL (X : Cx) (i : Nat) (t : TA) : TE := fun σ H Q => ∃ v pr, σ[i]? = some (some v) ∧ CalR X.prog X.w X.K X.mg X.base H v pr ∧ t σ H fun vs H1 => (∀ f, v = .ref f → LamAt H f → LamAt H1 f) ∧ ∃ x n h, vs = [.ref x] ∧ HdAt X.K H1 x n h ∧ Q (.bl (pr h.rights)) H1
section
variable {X : Cx} {pins : List (Addr × Obj)} {σ : L2.St} {H : Hp} {s : Shared}
theorem lam_run {f : Addr} {k : Nat} {u : Value} {Q : VK} {E : XK} (I : Inv X pins σ H s) (hr : Room (k + 1) X.A) (l : LamAt H f) (q : Q (.bl true) H) : codeAny (model X.prog X.w) X.A (.call (.ref f) ⟨[u], []⟩) (CR (L2.CX X.prog X.w) X.stack X.prog X.w H s Q E) s := by
  obtain ⟨qq, params, body, scope, pm, c', e1, e2, ok⟩ := l
  obtain ⟨⟨od, sl, ctv, of1⟩, _, _⟩ := I.hok f _ e1
  obtain ⟨⟨oc, vs, t, hoc, hdc, hvc⟩, _, _⟩ := I.hok c' _ e2
  refine PySem.W.kla_callFunE hr.depth of1 rfl ok.co ok.gen rfl ⟨c', oc, vs, t, rfl, hoc, hdc, hvc⟩ ?_
  rw [ok.bind]
  refine wpAny_pure (wpAny_newFunctionEnv (fun y hy => ?_) (fun y hy => ?_) (fun h₁ hns hsb => ?_) ok.kind)
  · rw [show (PySem.W.kla_fn "<lambda>" qq params body scope [] pm (.ref c') ctv).scope = scope from rfl, ok.nms] at hy
    simp only [List.mem_singleton] at hy
    rw [hy]
    simp
  · simp only [List.mem_singleton] at hy
    rw [hy, show (PySem.W.kla_fn "<lambda>" qq params body scope [] pm (.ref c') ctv).scope = scope from rfl, ok.nms]
    rfl
  · have kp : ∀ b o, s.heap.get? b = some o → h₁.get? b = some o := fun b o e => hsb.extBut b o (Nat.ne_of_lt (Heap.lt_size e)) (Heap.get?_push_of_some _ e)
    refine ⟨I.nolimit.fresh _ hsb, ?_⟩
    refine PySem.W.kla_codeExpr ?_
    obtain ⟨pos, rfl⟩ := ok.body
    refine wpAny_mono (Q := fun v s' => v = .bool true ∧ s' = { s with heap := h₁, toks := s.toks + 1 }) ?_ (fun v s' hq => ?_) fun e s' hq => hq
    · exact wpAny_Constant_bool ⟨rfl, by simp⟩
    · obtain ⟨rfl, rfl⟩ := hq
      exact ⟨.bl true, H, rfl, I.bare, Un.kept kp, I.hok.kept kp, rfl, q⟩
theorem pe_l {W : WX} {i : Nat} {a : Str} {e : Expr} {es : List Expr} {t : TA} {p1 pos : Pos} (hr : Room 3 X.A) (tk : Takes X W) (hv : PE X (.Name a p1) (tVar i)) (ha : PA X (e :: es) t)
    (hst : starEach (e :: es) X.env = (false, eval e X.env) :: starEach es X.env := by rfl) (hpl : (backTo pos (starEach es X.env)).any (·.1) = false := by rfl)
    (ht : eval (.Call (.Name a p1) (e :: es) [] pos) X.env = (eval (.Name a p1) X.env >>= fun f => callWith pos f [] (backTo pos (starEach (e :: es) X.env)) (backToKw pos (keywordEach [] X.env))) := by rfl) :
    PE X (.Call (.Name a p1) (e :: es) [] pos) (tL X i t) := by
  refine ⟨fun pins s σ H Q I h => ?_⟩
  obtain ⟨v, pr, hs, ⟨f, rfl, hc⟩, h⟩ := h
  refine Call_ (thn (hv.run pins s σ H (fun x H1 => x = .ref f ∧ H1 = H) I ⟨.ref f, hs, rfl, rfl⟩) fun u s1 ⟨x, H1, I1, rx, ex, eH⟩ => ?_) ht
  subst ex
  rw [eH] at I1
  obtain rfl : u = Value.ref f := rx
  rcases hc with ⟨hk, F⟩ | ⟨l, rfl⟩
  · refine PySem.W.callWith_K (h₀ := X.base) I1.ok.mod.kin hk (thn (ha.run pos pins s1 σ H _ I1 h) fun us s2 ⟨vs, H2, I2, r, _, x, n, hd, ev, hh, q⟩ => ⟨I2.kIn, ?_⟩) hst hpl
    exact run_w F (hr.mono (by omega)) tk I2 r ⟨x, n, hd, ev, hh, q⟩
  · have fnat : ∀ {H' : Hp} {s' : Shared}, Inv X pins σ H' s' → LamAt H' f → PySem.W.FnAt f s'.heap := fun I' l' => by
      obtain ⟨qq, params, body, scope, pm, c', e1, _, _⟩ := l'
      obtain ⟨⟨od, sl, ctv, of1⟩, _, _⟩ := I'.hok f _ e1
      exact ⟨_, _, _, _, of1⟩
    refine PySem.W.callWith_F (fnat I1 l) (thn (ha.run pos pins s1 σ H _ I1 h) fun us s2 ⟨vs, H2, I2, r, c2, x, n, hd, ev, hh, q⟩ => ?_) hst hpl
    have l2 : LamAt H2 f := c2 f rfl l
    subst ev
    refine ⟨fnat I2 l2, ?_⟩
    obtain ⟨u, rfl, ru⟩ := r.one
    refine wpAny_call (codeAny_mono (lam_run (E := WE W σ) I2 (k := 2) hr l2 q) fun res s' hq => ?_)
    match res, hq with
    | .error e, hq => exact passAt tk σ pins H2 s2 e s' I2 hq
    | .ok (.ret u), hq => exact I2.after hq
    | .ok .next, hq => exact False.elim hq
    | .ok .brk, hq => exact False.elim hq
    | .ok .cont, hq => exact False.elim hq
theorem inv_lam {o : Obj} {t' : Nat} {q : Str} {params : Arguments} {body : Expr} {scope : Scope} {pm : Value} {c' : Addr} {ctv : Value} (I : Inv X pins σ H s) (ho : o = PySem.W.kla_obj "<lambda>" q params body scope [] pm c' ctv) :
    Inv X pins σ (L2.upd H s.heap.objs.size (LamO s.heap.objs.size q params body scope pm c')) { s with heap := s.heap.push o, toks := t' } := by
  subst ho
  refine I.laid (a := s.heap.objs.size) (fun b u e => Heap.get?_push_of_some _ e) (Nat.le_refl _) ?_
  have e : (s.heap.push (PySem.W.kla_obj "<lambda>" q params body scope [] pm c' ctv)).get? s.heap.objs.size = some (PySem.W.kla_obj "<lambda>" q params body scope [] pm c' ctv) := Heap.get?_push_size _ rfl
  exact ⟨⟨_, _, ctv, e⟩, ⟨_, e⟩, fun h1 h2 ⟨od, sl, t, z⟩ st => ⟨od, sl, t, st _ z⟩⟩
end
/-- lambda x: True, made -/
def tLamM (T : List NTab) : TE := fun _ H Q => TbN T H ∧ ∀ f H1, Al H H1 → LamAt H1 f → Q (.ref f) H1
theorem pe_lamT {X : Cx} {T : List NTab} {c P : Addr} {params : Arguments} {body : Expr} {scope : Scope} {pos : Pos} (TB : LamX.TabB X.base X.mg c P) (hcode : X.env.code = .ref c) (hm : P ∈ T) (hn : nmL pos.line pos.col = X.env.qual ++ "<lambda>")
    (ok : LamOk params body scope) (hdef : defaultsOf params X.env = ([], []) := by rfl) : PE X (.Lambda params body scope pos) (tLamM T) := by
  refine ⟨fun pins s σ H Q I h => ?_⟩
  obtain ⟨hT, q⟩ := h
  obtain ⟨ps, hP, ht, ha⟩ := hT _ hm
  have hfree : ∀ y ∈ scope.names, y.2 = .free → ∃ c, X.env.cells.lookup y.1 = some c := fun y hy e => by
    rw [ok.nms] at hy
    simp only [List.mem_singleton] at hy
    rw [hy] at e
    cases e
  have hcl : cloFrom X.env.cells scope.names [] = [] := by rw [ok.nms]; rfl
  refine PySem.W.kla_eval hdef ?_
  have bP : s.heap.BuiltinsAt X.mg P := TB.bm.keeps I.bk
  have hP' : s.heap.get? P = some { cls := .none, data := .fields ps } := I.hok P _ hP
  cases hc : codeAmong pos ps.toList with
  | none =>
    refine PySem.W.kla_makeFunction (mg := X.mg) (c := c) (P := P) (ps := ps) (closure_ok hfree) I.ok.glob (I.mod.glob.keeps I.bk) hcode (TB.code.keeps I.bk) hP' ht hc TB.gP bP fun c' ctv h' tk hx hge hlt hrec htb => ?_
    rw [hcl]
    obtain ⟨c2, oc, vs, t, e2, hoc, hd, hv⟩ := hrec
    cases e2
    have nC : H c' = none := I.hok.fresh hge
    have I1 := LamX.inv_table (t' := tk) (more := #[rawInt pos.line, rawInt pos.col, .ref c']) (h' := h') I hP (fun b o hb e => hx b o hb e) htb hge ⟨oc, vs, t, hoc, hd, hv⟩
    have hE : ∀ b o, H b = some o → nt o → (L2.upd (L2.upd H P (.tbl (ps ++ #[rawInt pos.line, rawInt pos.col, .ref c']))) c' (LamX.CodeO c' (X.env.qual ++ "<lambda>"))) b = some o := fun b o e n => by
      rw [upd_ne (ne_of_none e nC), upd_ne (fun z => n ps (Option.some.inj (e.symm.trans (by rw [z]; exact hP))))]
      exact e
    have eL : (ps ++ #[rawInt pos.line, rawInt pos.col, .ref c']).toList = ps.toList ++ [rawInt pos.line, rawInt pos.col, .ref c'] := by simp
    have T1 : ∀ T' : List NTab, TbN T' H → TbN T' (L2.upd (L2.upd H P (.tbl (ps ++ #[rawInt pos.line, rawInt pos.col, .ref c']))) c' (LamX.CodeO c' (X.env.qual ++ "<lambda>"))) := fun T' hT' p hp => by
      by_cases hb : p = P
      · rw [hb]
        refine ⟨_, by rw [upd_ne (ne_of_none hP nC), upd_same], by rw [eL]; exact PySem.TriplesOk_snoc _ _ _ _ ht, fun p' cv hcv => ?_⟩
        rw [eL] at hcv
        rcases NdefX.among_app2 _ ht hcv with z | ⟨z, z1, z2⟩
        · obtain ⟨c0, e1, e2⟩ := ha p' cv z
          exact ⟨c0, e1, hE _ _ e2 codeO_nt⟩
        · refine ⟨c', z, ?_⟩
          rw [← z1, ← z2, hn]
          exact upd_same
      · obtain ⟨ps', a1, a2, a3⟩ := hT' p hp
        refine ⟨ps', by rw [upd_ne (ne_of_none a1 nC), upd_ne hb]; exact a1, a2, fun p' cv hcv => ?_⟩
        obtain ⟨c0, e1, e2⟩ := a3 p' cv hcv
        exact ⟨c0, e1, hE _ _ e2 codeO_nt⟩
    have nF := I1.hok.fresh (Nat.le_refl _)
    have I2 := inv_lam (t' := tk) (q := X.env.qual ++ "<lambda>") (params := params) (body := body) (scope := scope) (pm := (X.mg "__name__").getD .none) (c' := c') (ctv := ctv) I1 rfl
    have aF := Al.new (o := LamO h'.objs.size (X.env.qual ++ "<lambda>") params body scope ((X.mg "__name__").getD .none) c') nF
    exact ⟨.ref h'.objs.size, _, I2, rfl, q _ _ (Al.trans ⟨hE, T1⟩ aF) ⟨_, _, _, _, _, c', upd_same, (upd_ne (Nat.ne_of_lt hlt)).trans upd_same, ok⟩⟩
  | some cv =>
    obtain ⟨c', e, hco⟩ := ha pos cv hc
    subst e
    rw [hn] at hco
    refine PySem.W.kla_makeFunctionHit (mg := X.mg) (c := c) (P := P) (ps := ps) (closure_ok hfree) I.ok.glob (I.mod.glob.keeps I.bk) hcode (TB.code.keeps I.bk) hP' ht hc bP fun ctv h' tk hx hsz => ?_
    rw [hcl]
    have I1 : Inv X pins σ H { s with heap := h', toks := tk } := I.kept hx
    have nF : H h'.objs.size = none := I1.hok.fresh (Nat.le_refl _)
    have I2 := inv_lam (t' := tk) (q := X.env.qual ++ "<lambda>") (params := params) (body := body) (scope := scope) (pm := (X.mg "__name__").getD .none) (c' := c') (ctv := ctv) I1 rfl
    have aF := Al.new (o := LamO h'.objs.size (X.env.qual ++ "<lambda>") params body scope ((X.mg "__name__").getD .none) c') nF
    exact ⟨.ref h'.objs.size, _, I2, rfl, q _ _ aF ⟨_, _, _, _, _, c', upd_same, (upd_ne (ne_of_none hco nF)).trans hco, ok⟩⟩
end Pk
end
/-! PkF21 -/
section
set_option maxHeartbeats 4000000
namespace Pk
open PySem PySem.Spec PyProof.Rows L2
local macro_rules | `(tactic| walk_at "c") => `(tactic| first | assumption | omega | exact rfl | (intro z; cases z; done) | (simp only [nV, V.int.injEq, V.str.injEq]; first | assumption | omega))
local macro_rules | `(tactic| walk_at "fld") => `(tactic| first
  | assumption
  | exact fld_k_tasks (by assumption) (by assumption) | exact fld_k_tree (by assumption) (by assumption) | exact fld_k_things (by assumption) (by assumption) | exact fld_ta_known (by assumption) (by assumption)
  | exact fld_t_rows (by assumption) (by assumption) (by assumption) | exact fld_t_run1 (by assumption) (by assumption) (by assumption) (by assumption) | exact fld_t_runs (by assumption) (by assumption) (by assumption) | exact fld_t_maker (by assumption) (by assumption) (by assumption) | exact fld_tr_rows (by assumption) (by assumption) | exact fld_tr_rb (by assumption) (by assumption) | exact fld_tr_ever (by assumption) (by assumption)
  | exact fld_h_number (by assumption) (by assumption) | exact fld_h_thing (by assumption) (by assumption) | exact fld_h_rights (by assumption) (by assumption) | exact fld_h_giver (by assumption) (by assumption) | exact fld_h_holder (by assumption) (by assumption))
local macro_rules | `(tactic| walk_at "get") => `(tactic| first
  | assumption
  | exact get_kn1 (by assumption) (by assumption) | exact get_kn0 (by assumption) (by assumption) | exact get_rw1 (by assumption) (by assumption) | exact get_rw0 (by assumption) (by assumption)
  | exact get_rb1 (by assumption) (by assumption) | exact get_rb0 (by assumption) (by assumption) | exact get_th1 (by assumption) (by assumption) | exact get_th0 (by assumption) (by assumption))
local macro_rules | `(tactic| walk_at "ins") => `(tactic| first | exact insTa (by assumption) rfl | exact insTr (by assumption) rfl)
local macro_rules | `(tactic| walk_at "s") => `(tactic| first
  | refine ⟨_, rfl, ?_⟩
  | refine ⟨rfl, ?_⟩
  | refine zI fun _ => ?_
  | with_reducible refine iteF ?_ | with_reducible refine iteT ?_
  | ((with_reducible refine iteDy ?_ ?_); focus (walk_at "c"; done)) | ((with_reducible refine iteDn ?_ ?_); focus (walk_at "c"; done)) | ((with_reducible refine iteNy ?_ ?_); focus (walk_at "c"; done)) | ((with_reducible refine iteNn ?_ ?_); focus (walk_at "c"; done))
  | refine fldI (by walk_at "fld") ?_
  | refine getI (by walk_at "get") ?_ | refine getS (by walk_at "get") ?_
  | refine ⟨by walk_at "ins", ?_⟩
  | refine ⟨_, _, _, _, true, rfl, .ty _, .base (.str _), kit_ty (by decide +kernel), ?_⟩
  | refine ⟨_, _, _, _, true, rfl, .ty _, .base (.int _), kit_ty (by decide +kernel), ?_⟩
  | refine ⟨_, _, _, _, false, rfl, .ty _, .base (.int _), kit_ty (by decide +kernel), ?_⟩
  | refine ⟨_, _, rfl, rfl, ?_⟩
  | refine ⟨_, _, rfl, rfl, trivial, ?_⟩)
local macro_rules | `(tactic| walk_at "w") => `(tactic| repeat (walk_at "s"))
section
variable {P : Program} {w : World} {K : PySem.W.Frag} {mg : Str → Option Value} {base : Heap} (G : Gx K mg base)
include G
def hasP (r : Nat) : Bool := decide (0 < r &&& 32)
omit G in
theorem sc_passes : FnScope ["handle"] ["handle"] (defScope s_passes) := ⟨rfl, rfl, rfl, by decide +kernel, rfl, by decide +kernel, by decide +kernel⟩
theorem ok_passes : FnR P w K mg base (L2.CX P w) 1 (He.ga K "passes") (sp_fit K hasP) := by
  refine mkF (k := 0) G.f_passes sc_passes (fun _ _ _ _ _ _ us hl => match us, hl with | [_], _ => rfl) (fun vs H Q E h => by repeat (first | (obtain ⟨e, _⟩ := h; cases e; rfl; done) | obtain ⟨_, h⟩ := h)) (fun cdv A outer s H vs Q E hr h => ?_)
  have S := sc_passes
  obtain ⟨x, n, h, rfl, hh, k⟩ := h
  refine ⟨_, (pss_one (ps_ret (pe_cmpR op_gt (pe_op op_and (pe_fd (pv 0)) (pe_ci rfl G.c_PASS)) pe_int (nomark _)))), ?_⟩
  walk_at "w"
  have e : Builtin.bitAnd (h.rights : Int) 32 = ((h.rights &&& 32 : Nat) : Int) := rfl
  have e2 : decide ((0 : Int) < ((h.rights &&& 32 : Nat) : Int)) = hasP h.rights := by unfold hasP; rw [decide_eq_decide]; omega
  show Q (.bl (decide ((0 : Int) < Builtin.bitAnd (h.rights : Int) 32))) H
  rw [e, e2]
  exact k
def sp_joined : Sp := fun vs H Q E => ∃ a b ps qs, vs = [.ref a, .ref b] ∧ Rd H a (.dK (mD ps)) ∧ H b = some (.dK (mD qs)) ∧ ps.length + qs.length ≤ 10000 ∧ (∀ H' p, Al H H' → H p = none → H' p = some (.dK (mD (addAll ps qs))) → Q (.ref p) H')
omit G in
theorem sc_joined : FnScope ["might", "more", "found", "thing", "rights"] ["might", "more"] (defScope s_joined) := ⟨rfl, rfl, rfl, by decide +kernel, rfl, by decide +kernel, by decide +kernel⟩
theorem ok_joined : FnR P w K mg base (L2.CX P w) 1 (He.ga K "joined") (sp_joined) := by
  refine mkF (k := 0) G.f_joined sc_joined (fun _ _ _ _ _ _ us hl => match us, hl with | [_, _], _ => rfl) (fun vs H Q E h => by repeat (first | (obtain ⟨e, _⟩ := h; cases e; rfl; done) | obtain ⟨_, h⟩ := h)) (fun cdv A outer s H vs Q E hr h => ?_)
  have S := sc_joined
  obtain ⟨a, b, ps, qs, rfl, ea, eb, hsz, k⟩ := h
  refine ⟨_, (pss_cons (ps_set (i := 2) S.nd rfl (by first | exact Or.inl rfl | exact Or.inr rfl) (pe_callTy call_dictD (by rfl) G.b_dict (by decide +kernel) (pa_cons (pv 0) pa_nil)))
      (pss_cons (ps_lock (ps_for pod rfl (pi_items (pv 1)) (pg_tup rfl (pgs_cons (pg_name (i := 3) S.nd rfl (by first | exact Or.inl rfl | exact Or.inr rfl)) (pgs_cons (pg_name (i := 4) S.nd rfl (by first | exact Or.inl rfl | exact Or.inr rfl)) pgs_nil))) (pss_one (ps_dput (hu_of hr) (pv 2) (pv 3) (pe_op op_or (pe_dget2 (hu_of hr) (pv 2) (pv 3) pe_int ⟨rfl, rfl, rfl, rfl⟩) (pv 4)) rfl))))
      (pss_one (ps_ret (pv 2))))), ?_⟩
  walk_at "w"
  refine ⟨a, mD ps, rfl, ea, fun p hp => ?_⟩
  walk_at "w"
  have nbp : b ≠ p := ne_of_none eb hp
  refine ⟨b, _, (upd_ne nbp).trans eb, trivial, fun od => ?_⟩
  have al0 : Al (L2.upd H b (.frz od (.dK (mD qs)))) (L2.upd (L2.upd H p (.dK (mD ps))) b (.frz od (.dK (mD qs)))) := Al.of fun c o e => by
    by_cases hc : c = b
    · subst hc; rw [upd_same] at e ⊢; exact e
    · rw [upd_ne hc] at e ⊢
      rw [upd_ne (ne_of_none e hp)]; exact e
  have frb : ∀ o, nt o → (L2.upd H b (.frz od (.dK (mD qs)))) p ≠ some o := fun o _ z => by rw [upd_ne nbp.symm, hp] at z; cases z
  have e0b : (L2.upd (L2.upd H p (.dK (mD ps))) b (.frz od (.dK (mD qs)))) b = some (.frz od (.dK (mD qs))) := upd_same
  have e0p : (L2.upd (L2.upd H p (.dK (mD ps))) b (.frz od (.dK (mD qs)))) p = some (.dK (mD ps)) := (upd_ne nbp.symm).trans upd_same
  have ebb : (L2.upd H b (.frz od (.dK (mD qs)))) b = some (.frz od (.dK (mD qs))) := upd_same
  generalize eHb : L2.upd H b (.frz od (.dK (mD qs))) = Hb at *
  generalize L2.upd (L2.upd H p (.dK (mD ps))) b (.frz od (.dK (mD qs))) = H0 at *
  walk_at "w"
  refine ⟨_, _, _, rfl, e0b, ?_⟩
  have hl : (mD qs).length = qs.length := mD_len
  refine for_it walk_items (fun i σ H' => (∃ v3 v4, σ = [some (.ref a), some (.ref b), some (.ref p), v3, v4]) ∧ Al Hb H' ∧ H' p = some (.dK (mD (addAll ps (qs.take i))))) ?_ ?_ ?_ ?_
  · exact ⟨⟨_, _, rfl⟩, al0, e0p⟩
  · rintro i σ H1 hi ⟨_, al, _⟩
    exact al.frz ebb
  · rintro i x σ H1 H2 hi ⟨⟨v3, v4, rfl⟩, al, ep⟩ ⟨T, kx, vx, rfl, hT, rfl, e1, e2⟩
    rw [hl] at hi
    have e1 : Option.map (fun kv : Key × V => kV kv.1) (mD qs)[i]? = some kx := e1
    have e2 : Option.map Prod.snd (mD qs)[i]? = some vx := e2
    have hq : qs[i]? = some qs[i] := List.getElem?_eq_getElem hi
    unfold mD at e1 e2
    rw [List.getElem?_map, hq] at e1 e2
    cases e1; cases e2
    have al2 := al.newT (o := .tup [kV (Sum.inl ((qs[i]).1 : Int)), nV (qs[i]).2]) hT
    have ep2 := (upd_ne (o := .tup [kV (Sum.inl ((qs[i]).1 : Int)), nV (qs[i]).2]) (ne_of_none ep hT)).trans ep
    have eT : (L2.upd H1 T (.tup [kV (Sum.inl ((qs[i]).1 : Int)), nV (qs[i]).2])) T = some (.tup [kV (Sum.inl ((qs[i]).1 : Int)), nV (qs[i]).2]) := upd_same
    generalize L2.upd H1 T (.tup [kV (Sum.inl ((qs[i]).1 : Int)), nV (qs[i]).2]) = H2 at *
    refine tup2 (sqT_at eT) rfl ?_
    have ep2' : IsD H2 p := .inl ⟨_, .inl ep2⟩
    have hlen : (addAll ps (qs.take i)).length ≤ 10000 := Nat.le_trans addAll_len (by rw [List.length_take]; omega)
    walk_at "w"
    refine ⟨ep2', ?_⟩
    walk_at "w"
    refine ⟨_, DGet.k (k := Sum.inl ((qs[i]).1 : Int)) ep2, ?_⟩
    rw [get_mD]
    walk_at "w"
    have eor : V.int (Builtin.bitOr (look (addAll ps (qs.take i)) (qs[i]).1 : Int) ((qs[i]).2 : Int)) = nV (look (addAll ps (qs.take i)) (qs[i]).1 ||| (qs[i]).2) := by rw [bitOr_nat]; rfl
    refine ⟨_, _, rfl, DPut.k (k := Sum.inl ((qs[i]).1 : Int)) ep2 (by rw [mD_len, sizeLine_eq]; omega), ?_⟩
    rw [show (fun i j => V.int (Builtin.bitOr i j)) (look (addAll ps (qs.take i)) (qs[i]).1 : Int) ((qs[i]).2 : Int) = nV (look (addAll ps (qs.take i)) (qs[i]).1 ||| (qs[i]).2) from eor, put_mD]
    refine ⟨⟨_, _, rfl⟩, al2.set0 frb ep2 trivial, ?_⟩
    rw [upd_same, List.take_succ, hq]
    show _ = some (HO.dK (mD (addAll ps (qs.take i ++ [qs[i]]))))
    rw [addAll_snoc]
    rfl
  · rintro σ H1 ⟨⟨v3, v4, rfl⟩, al, ep⟩
    refine ⟨al.frz ebb, ?_⟩
    rw [← eHb] at al
    walk_at "w"
    rw [hl, List.take_length] at ep
    exact k _ p (Al.unlock eb trivial al) hp ((upd_ne nbp.symm).trans ep)
/-- what is gathered of handles -/
def hsOf (m : Mo) (ns : List Nat) : PL := ns.map fun n => ((m.row n).thing, (m.row n).rights)
def sp_gathered (P : Program) (w : World) (K : PySem.W.Frag) (mg : Str → Option Value) (base : Heap) : Sp := fun vs H Q E => ∃ a v m ns us pr, vs = [.ref a, v] ∧ H a = some (.lst us) ∧ Ali (HdR K m H) ns us ∧ CalR P w K mg base H v pr ∧ ns.length ≤ 2000 ∧
  (∀ H' p, Al H H' → H p = none → H' p = some (.dK (mD (addAll [] ((hsOf m ns).filter fun q => pr q.2)))) → Q (.ref p) H')
omit G in
theorem sc_gathered : FnScope ["handles", "fits", "found", "handle"] ["handles", "fits"] (defScope s_gathered) := ⟨rfl, rfl, rfl, by decide +kernel, rfl, by decide +kernel, by decide +kernel⟩
theorem ok_gathered : FnR P w K mg base (L2.CX P w) 5 (He.ga K "gathered") (sp_gathered P w K mg base) := by
  refine mkF (k := 4) G.f_gathered sc_gathered (fun _ _ _ _ _ _ us hl => match us, hl with | [_, _], _ => rfl) (fun vs H Q E h => by repeat (first | (obtain ⟨e, _⟩ := h; cases e; rfl; done) | obtain ⟨_, h⟩ := h)) (fun cdv A outer s H vs Q E hr h => ?_)
  have S := sc_gathered
  obtain ⟨a, v, m, ns, us, pr, rfl, ea, hal, hc, hsz, k⟩ := h
  refine ⟨_, (pss_cons (ps_set (i := 2) S.nd rfl (by first | exact Or.inl rfl | exact Or.inr rfl) pe_dnewK)
      (pss_cons (ps_for pod rfl (pi_list (pv 0)) (pg_name (i := 3) S.nd rfl (by first | exact Or.inl rfl | exact Or.inr rfl)) (pss_one (ps_if (pt_val (pe_l (hr.mono (by omega)) tkd (pv 1) (pa_cons (pv 3) pa_nil))) (pss_one (ps_dput (hu_of hr) (pv 2) (pe_fd (pv 3)) (pe_op op_or (pe_dget2 (hu_of hr) (pv 2) (pe_fd (pv 3)) pe_int ⟨rfl, rfl, rfl, rfl⟩) (pe_fd (pv 3))) rfl)) pss_nil)))
      (pss_one (ps_ret (pv 2))))), ?_⟩
  walk_at "w"
  refine fun p hp => ?_
  have nap : a ≠ p := ne_of_none ea hp
  walk_at "w"
  refine ⟨⟨_, sqL_at ((upd_ne nap).trans ea)⟩, ?_⟩
  refine for_list (xs := us) (fun i σ H' => (∃ v3, σ = [some (.ref a), some v, some (.ref p), v3]) ∧ Al H H' ∧ H' p = some (.dK (mD (addAll [] ((hsOf m (ns.take i)).filter fun q => pr q.2))))) ?_ ?_ ?_ ?_
  · exact ⟨⟨_, rfl⟩, Al.new hp, upd_same⟩
  · rintro i σ H1 hi ⟨_, al, _⟩
    exact sqL_at (al.lst ea)
  · rintro i x σ H1 hx ⟨⟨v3, rfl⟩, al, ep⟩
    obtain ⟨n, hn, xh, rfl, hh⟩ := hal.get hx
    have hh1 := hh.al al
    have hc1 := hc.al al
    have htk : hsOf m (ns.take (i + 1)) = hsOf m (ns.take i) ++ [((m.row n).thing, (m.row n).rights)] := by
      unfold hsOf
      rw [List.take_succ, hn, List.map_append]
      rfl
    walk_at "w"
    refine ⟨v, pr, rfl, hc1, ?_⟩
    walk_at "w"
    refine ⟨fun _ _ l => l, xh, n, m.row n, rfl, hh1, ?_⟩
    by_cases hp1 : pr (m.row n).rights = true
    · rw [hp1]
      have ep' : IsD H1 p := .inl ⟨_, .inl ep⟩
      have hlen : (addAll [] ((hsOf m (ns.take i)).filter fun q => pr q.2)).length ≤ 2000 := Nat.le_trans addAll_len (by
        have h1 := List.length_filter_le (fun q => pr q.2) (hsOf m (ns.take i))
        have h2 : (hsOf m (ns.take i)).length ≤ ns.length := by unfold hsOf; rw [List.length_map, List.length_take]; omega
        simp only [List.length_nil]
        omega)
      walk_at "w"
      refine ⟨ep', ?_⟩
      walk_at "w"
      refine ⟨_, DGet.k (k := Sum.inl ((m.row n).thing : Int)) ep, ?_⟩
      rw [get_mD]
      walk_at "w"
      have eor : V.int (Builtin.bitOr (look (addAll [] ((hsOf m (ns.take i)).filter fun q => pr q.2)) (m.row n).thing : Int) ((m.row n).rights : Int)) = nV (look (addAll [] ((hsOf m (ns.take i)).filter fun q => pr q.2)) (m.row n).thing ||| (m.row n).rights) := by rw [bitOr_nat]; rfl
      refine ⟨_, _, rfl, DPut.k (k := Sum.inl ((m.row n).thing : Int)) ep (by rw [mD_len, sizeLine_eq]; omega), ?_⟩
      rw [show (fun i j => V.int (Builtin.bitOr i j)) (look (addAll [] ((hsOf m (ns.take i)).filter fun q => pr q.2)) (m.row n).thing : Int) ((m.row n).rights : Int) = nV (look (addAll [] ((hsOf m (ns.take i)).filter fun q => pr q.2)) (m.row n).thing ||| (m.row n).rights) from eor, put_mD]
      refine ⟨⟨_, rfl⟩, al.set hp ep trivial, ?_⟩
      rw [upd_same, htk, List.filter_append]
      have e1 : [((m.row n).thing, (m.row n).rights)].filter (fun q => pr q.2) = [((m.row n).thing, (m.row n).rights)] := by simp [hp1]
      rw [e1, addAll_snoc]
      rfl
    · have hp1' : pr (m.row n).rights = false := by simpa using hp1
      rw [hp1']
      walk_at "w"
      refine ⟨⟨_, rfl⟩, al, ?_⟩
      rw [htk, List.filter_append]
      have e1 : [((m.row n).thing, (m.row n).rights)].filter (fun q => pr q.2) = [] := by simp [hp1']
      rw [e1, List.append_nil]
      exact ep
  · rintro σ H1 ⟨⟨v3, rfl⟩, al, ep⟩
    walk_at "w"
    rw [← hal.1, List.take_length] at ep
    exact k _ p al hp ep
end
end Pk
end
/-! PkLam2 -/
section
set_option maxHeartbeats 4000000
namespace Pk
open PySem PySem.Spec PyProof.Rows L2
/-- the tables of the defs that make lambdas -/
def T0 (K : PySem.W.Frag) : List NTab := tf.map fun d => (He.cT K d).2
section
variable {P : Program} {w : World} {K : PySem.W.Frag} {mg : Str → Option Value} {base : Heap}
theorem fn_code {x qual : Str} {st : Stmt} {N ps : List Str} {dvs : List V} {k : Nat} {sp : Sp} {fd : FuncData} (F : FunD K x qual (defArgs st) (defBody st) (defScope st) dvs [] (He.ga K x) fd) (S : FnScope N ps (defScope st)) (len : ∀ vs H Q E, sp vs H Q E → vs.length = ps.length)
    (hbody : ∀ (cdv : Value) (A : Around) (outer : List Env) (s : Shared) (H : Hp) (vs : List V) (Q : VK) (E : XK), cdv = .ref (He.cT K (x, none)).1 → Room k (A.deeper (envOfC qual (defScope st) s.heap.objs.size (He.ga K x) cdv)) → sp vs H Q E →
      ∃ t, PSs (cxOf (L2.CX P w) P w K mg base N qual (defScope st) (He.ga K x) cdv A outer s H E) (defBody st) t ∧ t { nx := fun _ H' => Q .non H', rt := Q } (L2.start N vs) H) : FnOk P w K mg base (L2.CX P w) (k + 1) (He.ga K x) fd ps sp := by
  obtain ⟨oc, od, dV, kV, doc, pm, an, cdv, ct, osl, rfl, lk, hcd, _, _⟩ := F.ex
  obtain ⟨c, rfl⟩ := He.codeIn_ref hcd
  have ec : (He.cT K (x, none)).1 = c := He.codeOf_eq (p := (x, none)) lk rfl
  exact fn_of lk hcd S len fun A outer s H vs Q E hr hsp => hbody (.ref c) A outer s H vs Q E (by rw [ec]) hr hsp
theorem mkFc {x qual : Str} {st : Stmt} {N ps : List Str} {k : Nat} {sp : Sp} (F : ∃ fd, FunD K x qual (defArgs st) (defBody st) (defScope st) [] [] (He.ga K x) fd) (S : FnScope N ps (defScope st))
    (bd : ∀ (kV doc pm : Value) (an : Option Addr) (cdv ct : Value) (us : List Value), us.length = ps.length → bindArgs (PySem.W.fnOf x qual (defArgs st) (defBody st) (defScope st) .none kV doc pm an cdv ct) ⟨us, []⟩ = pure (ps.zip us))
    (len : ∀ vs H Q E, sp vs H Q E → vs.length = ps.length)
    (hbody : ∀ (cdv : Value) (A : Around) (outer : List Env) (s : Shared) (H : Hp) (vs : List V) (Q : VK) (E : XK), cdv = .ref (He.cT K (x, none)).1 → Room k (A.deeper (envOfC qual (defScope st) s.heap.objs.size (He.ga K x) cdv)) → sp vs H Q E →
      ∃ t, PSs (cxOf (L2.CX P w) P w K mg base N qual (defScope st) (He.ga K x) cdv A outer s H E) (defBody st) t ∧ t { nx := fun _ H' => Q .non H', rt := Q } (L2.start N vs) H) : FnR P w K mg base (L2.CX P w) (k + 1) (He.ga K x) sp := by
  obtain ⟨fd, F⟩ := F
  exact ((fn_code F S len hbody).raw (F.bindsN bd) .nil).imp fun vs H Q E h => by rw [List.append_nil]; exact h
theorem mkFdc {x qual : Str} {st : Stmt} {N ps : List Str} {dvs : List V} {k : Nat} {sp : Sp} (n j : Nat) (hd : dvs ≠ []) (F : ∃ fd, FunD K x qual (defArgs st) (defBody st) (defScope st) dvs [] (He.ga K x) fd) (S : FnScope N ps (defScope st)) (hn : n + (dvs.length - j) = ps.length)
    (bd : ∀ (T : Addr) (kV doc pm : Value) (an : Option Addr) (cdv ct : Value) (us its : List Value), us.length = n → its.length = dvs.length →
      ∃ k, bindArgs (PySem.W.fnOf x qual (defArgs st) (defBody st) (defScope st) (.ref T) kV doc pm an cdv ct) ⟨us, []⟩ = seqItems? (.ref T) >>= k ∧ k (some its.toArray) = pure (ps.zip (us ++ its.drop j)))
    (len : ∀ vs H Q E, sp vs H Q E → vs.length = ps.length)
    (hbody : ∀ (cdv : Value) (A : Around) (outer : List Env) (s : Shared) (H : Hp) (vs : List V) (Q : VK) (E : XK), cdv = .ref (He.cT K (x, none)).1 → Room k (A.deeper (envOfC qual (defScope st) s.heap.objs.size (He.ga K x) cdv)) → sp vs H Q E →
      ∃ t, PSs (cxOf (L2.CX P w) P w K mg base N qual (defScope st) (He.ga K x) cdv A outer s H E) (defBody st) t ∧ t { nx := fun _ H' => Q .non H', rt := Q } (L2.start N vs) H) : FnR P w K mg base (L2.CX P w) (k + 1) (He.ga K x) (fun vs H Q E => sp (vs ++ dvs.drop j) H Q E) := by
  obtain ⟨fd, F⟩ := F
  obtain ⟨ds, hv, hb⟩ := F.binds1 n j hd hn bd
  exact (fn_code F S len hbody).raw hb hv
variable (G : Gx K mg base)
include G
theorem pe_lam {x : Str} {N : List Str} {qual : Str} {sc : Scope} {f : Addr} {cdv : Value} {A : Around} {outer : List Env} {s : Shared} {H : Hp} {E : XK} {params : Arguments} {body : Expr} {scope : Scope} {pos : Pos} (hc : cdv = .ref (He.cT K (x, none)).1) (hx : (x, (none : Option Str)) ∈ tf)
    (hn : nmL pos.line pos.col = (qual ++ ".<locals>.") ++ "<lambda>") (ok : LamOk params body scope) (hdef : defaultsOf params (cxOf (L2.CX P w) P w K mg base N qual sc f cdv A outer s H E).env = ([], []) := by rfl) :
    PE (cxOf (L2.CX P w) P w K mg base N qual sc f cdv A outer s H E) (.Lambda params body scope pos) (tLamM (T0 K)) := by
  subst hc
  exact pe_lamT (P := (He.cT K (x, none)).2) (G.tb _ hx) rfl (List.mem_map.mpr ⟨_, hx, rfl⟩) hn ok hdef
end
end Pk
end
/-! PkF23 -/
section
set_option maxHeartbeats 4000000
namespace Pk
open PySem PySem.Spec PyProof.Rows L2
local macro_rules | `(tactic| walk_at "c") => `(tactic| first | assumption | omega | exact rfl | (intro z; cases z; done) | (simp only [nV, V.int.injEq, V.str.injEq]; first | assumption | omega))
local macro_rules | `(tactic| walk_at "fld") => `(tactic| first
  | assumption
  | exact fld_k_tasks (by assumption) (by assumption) | exact fld_k_tree (by assumption) (by assumption) | exact fld_k_things (by assumption) (by assumption) | exact fld_ta_known (by assumption) (by assumption)
  | exact fld_t_rows (by assumption) (by assumption) (by assumption) | exact fld_t_run1 (by assumption) (by assumption) (by assumption) (by assumption) | exact fld_t_runs (by assumption) (by assumption) (by assumption) | exact fld_t_maker (by assumption) (by assumption) (by assumption) | exact fld_tr_rows (by assumption) (by assumption) | exact fld_tr_rb (by assumption) (by assumption) | exact fld_tr_ever (by assumption) (by assumption)
  | exact fld_h_number (by assumption) (by assumption) | exact fld_h_thing (by assumption) (by assumption) | exact fld_h_rights (by assumption) (by assumption) | exact fld_h_giver (by assumption) (by assumption) | exact fld_h_holder (by assumption) (by assumption))
local macro_rules | `(tactic| walk_at "get") => `(tactic| first
  | assumption
  | exact get_kn1 (by assumption) (by assumption) | exact get_kn0 (by assumption) (by assumption) | exact get_rw1 (by assumption) (by assumption) | exact get_rw0 (by assumption) (by assumption)
  | exact get_rb1 (by assumption) (by assumption) | exact get_rb0 (by assumption) (by assumption) | exact get_th1 (by assumption) (by assumption) | exact get_th0 (by assumption) (by assumption))
local macro_rules | `(tactic| walk_at "ins") => `(tactic| first | exact insTa (by assumption) rfl | exact insTr (by assumption) rfl)
local macro_rules | `(tactic| walk_at "s") => `(tactic| first
  | refine ⟨_, rfl, ?_⟩
  | refine ⟨rfl, ?_⟩
  | refine zI fun _ => ?_
  | with_reducible refine iteF ?_ | with_reducible refine iteT ?_
  | ((with_reducible refine iteDy ?_ ?_); focus (walk_at "c"; done)) | ((with_reducible refine iteDn ?_ ?_); focus (walk_at "c"; done)) | ((with_reducible refine iteNy ?_ ?_); focus (walk_at "c"; done)) | ((with_reducible refine iteNn ?_ ?_); focus (walk_at "c"; done))
  | refine fldI (by walk_at "fld") ?_
  | refine getI (by walk_at "get") ?_ | refine getS (by walk_at "get") ?_
  | refine ⟨by walk_at "ins", ?_⟩
  | refine ⟨_, _, _, _, true, rfl, .ty _, .base (.str _), kit_ty (by decide +kernel), ?_⟩
  | refine ⟨_, _, _, _, true, rfl, .ty _, .base (.int _), kit_ty (by decide +kernel), ?_⟩
  | refine ⟨_, _, _, _, false, rfl, .ty _, .base (.int _), kit_ty (by decide +kernel), ?_⟩
  | refine ⟨_, _, rfl, rfl, ?_⟩
  | refine ⟨_, _, rfl, rfl, trivial, ?_⟩)
local macro_rules | `(tactic| walk_at "w") => `(tactic| repeat (walk_at "s"))
/-- all that a task holds -/
def own (m : Mo) (s : Str) : PL := addAll [] (hsOf m (numsOf m s))
theorem filter_true {l : PL} : (l.filter fun q => (fun _ => true : Nat → Bool) q.2) = l := List.filter_eq_self.mpr fun _ _ => rfl
theorem numsOf_len {m : Mo} {s : Str} : (numsOf m s).length ≤ 16 := by
  unfold numsOf slotsOf
  rw [List.length_map]
  refine Nat.le_trans (List.length_filterMap_le _ _) ?_
  rw [List.length_range]; exact Nat.le_refl _
section
variable {P : Program} {w : World} {K : PySem.W.Frag} {mg : Str → Option Value} {base : Heap} (G : Gx K mg base)
include G
def sp_can (K : PySem.W.Frag) : Sp := fun vs H Q E => ∃ tg m t i, vs = [.ref m.k, .str t, nV i] ∧ Kn K H tg m ∧ RunT m t ∧ i < m.nth ∧ TbN (T0 K) H ∧ (∀ H', Al H H' → Q (nV (look (own m t) i)) H')
omit G in
theorem sc_can : FnScope ["kernel", "task", "thing"] ["kernel", "task", "thing"] (defScope s_can) := ⟨rfl, rfl, rfl, by decide +kernel, rfl, by decide +kernel, by decide +kernel⟩
theorem ok_can : FnR P w K mg base (L2.CX P w) 6 (He.ga K "can") (sp_can K) := by
  refine mkFc (k := 5) G.f_can sc_can (fun _ _ _ _ _ _ us hl => match us, hl with | [_, _, _], _ => rfl) (fun vs H Q E h => by repeat (first | (obtain ⟨e, _⟩ := h; cases e; rfl; done) | obtain ⟨_, h⟩ := h)) (fun cdv A outer s H vs Q E hc hr h => ?_)
  have S := sc_can
  obtain ⟨tg, m, t, i, rfl, KN, hq, hi, hT, k⟩ := h
  have R := KN.r
  refine ⟨_, (pss_cons (ps_expr (pe_m (ok_Tasks_need G) (hr.mono (by omega)) G.cl_Tasks G.m_Tasks_need tkd (pe_fd (pv 0)) (pa_cons (pv 1) pa_nil)))
      (pss_cons (ps_expr (pe_f (ok_need_thing G) (hr.mono (by omega)) rfl G.g_need_thing (kp_of G.f_need_thing) tkd (pa_cons (pv 0) (pa_cons (pv 2) pa_nil))))
      (pss_one (ps_ret (pe_dget2 (hu_of hr) (pe_f (ok_gathered G) (hr.mono (by omega)) rfl G.g_gathered (kp_of G.f_gathered) tkd (pa_cons (pe_f (ok_handles_of G) (hr.mono (by omega)) rfl G.g_handles_of (kp_of G.f_handles_of) tkd (pa_cons (pv 0) (pa_cons (pv 1) pa_nil))) (pa_cons (pe_lam G hc (by decide +kernel) (by decide +kernel) ⟨rfl, rfl, rfl, rfl, fun _ _ _ _ _ => rfl, _, rfl⟩) pa_nil))) (pv 2) pe_int ⟨rfl, rfl, rfl, rfl⟩))))), ?_⟩
  walk_at "w"
  refine ⟨tg, m, t, rfl, R, fun h => absurd hq h, fun _ => ?_⟩
  walk_at "w"
  refine ⟨tg, m, i, rfl, R, hi, ?_⟩
  walk_at "w"
  refine ⟨tg, m, t, rfl, R, KN.w, hq, fun H1 p us a1 e1 hal => ?_⟩
  walk_at "w"
  refine ⟨a1.tabs _ hT, fun f H2 a2 l => ?_⟩
  walk_at "w"
  refine ⟨p, .ref f, m, numsOf m t, us, fun _ => true, rfl, a2.lst e1, hal.imp (fun n v ⟨x, e, h⟩ => ⟨x, e, h.al a2⟩), ⟨f, rfl, .inr ⟨l, rfl⟩⟩, by have := numsOf_len (m := m) (s := t); omega, fun H3 p3 a3 hp3 e3 => ?_⟩
  rw [filter_true] at e3
  have i3 : IsD H3 p3 := .inl ⟨_, .inl e3⟩
  walk_at "w"
  refine ⟨i3, ?_⟩
  walk_at "w"
  refine ⟨_, DGet.k (k := Sum.inl (i : Int)) e3, ?_⟩
  rw [get_mD]
  exact k _ (a1.trans (a2.trans a3))
/-- what is heard at a thing -/
def heardAt (m : Mo) (mt : PL) (i : Nat) : List Nat := match m.thg i with
  | .door ls => if look mt i &&& 8 ≠ 0 then ls.flatMap fun l => l.parts.filter fun n => decide (n ∈ m.keys) else []
  | _ => []
def heard (m : Mo) (mt : PL) : List Nat := (List.range m.nth).flatMap (heardAt m mt)
omit G in
theorem flat_len {ls : List Lt} {m : Mo} (h : ls.length ≤ 8) (h4 : ∀ l, l ∈ ls → l.parts.length ≤ 4) : (ls.flatMap fun l => l.parts.filter fun n => decide (n ∈ m.keys)).length ≤ 4 * ls.length := by
  induction ls with
  | nil => exact Nat.zero_le _
  | cons l r ih =>
    rw [List.flatMap_cons, List.length_append, List.length_cons]
    have h1 := ih (by simp only [List.length_cons] at h; omega) (fun l' hl => h4 l' (List.mem_cons_of_mem _ hl))
    have h2 := List.length_filter_le (fun n => decide (n ∈ m.keys)) l.parts
    have h3 := h4 l List.mem_cons_self
    omega
def sp_parts_heard (K : PySem.W.Frag) : Sp := fun vs H Q E => ∃ tg m a mt, vs = [.ref m.k, .ref a] ∧ Kn K H tg m ∧ H a = some (.dK (mD mt)) ∧ a ≠ m.th ∧ (∀ H' p us, Al H H' → H' p = some (.lst us) → Ali (HdR K m H') (heard m mt) us → Q (.ref p) H')
omit G in
theorem sc_parts_heard : FnScope ["kernel", "might", "kept", "numbers", "thing", "letter", "number"] ["kernel", "might"] (defScope s_parts_heard) := ⟨rfl, rfl, rfl, by decide +kernel, rfl, by decide +kernel, by decide +kernel⟩
theorem ok_parts_heard : FnR P w K mg base (L2.CX P w) 13 (He.ga K "parts_heard") (sp_parts_heard K) := by
  refine mkF (k := 12) G.f_parts_heard sc_parts_heard (fun _ _ _ _ _ _ us hl => match us, hl with | [_, _], _ => rfl) (fun vs H Q E h => by repeat (first | (obtain ⟨e, _⟩ := h; cases e; rfl; done) | obtain ⟨_, h⟩ := h)) (fun cdv A outer s H vs Q E hr h => ?_)
  have S := sc_parts_heard
  obtain ⟨tg, m, a, mt, rfl, KN, ea, nath, k⟩ := h
  have R := KN.r
  refine ⟨_, (pss_cons (ps_set (i := 2) S.nd rfl (by first | exact Or.inl rfl | exact Or.inr rfl) (pe_m0 (ok_Tree_kept G) (hr.mono (by omega)) G.cl_Tree G.m_Tree_kept tkd (pe_fd (pv 0))))
      (pss_cons (ps_set (i := 3) S.nd rfl (by first | exact Or.inl rfl | exact Or.inr rfl) (pe_lst pa_nil))
      (pss_cons (ps_lock (ps_for pod rfl (pi_values (pe_fd (pv 0))) (pg_name (i := 4) S.nd rfl (by first | exact Or.inl rfl | exact Or.inr rfl)) (pss_one (ps_if (PW.pt (pw_and (pt_cmpR op_eq (pe_d0 (k := 12) (hr.mono (by omega)) tkd (pv 4)) pe_str (nomark _)) (pw_and1 (pt_truth (pe_op op_and (pe_dget2 (hu_of hr) (pv 1) (pe_fd (pv 4)) pe_int ⟨rfl, rfl, rfl, rfl⟩) (pe_ci rfl G.c_HEAR)) (by intro _; rfl))))) (pss_one (ps_for pod rfl (pi_list (pe_d0 (k := 12) (hr.mono (by omega)) tkd (pv 4))) (pg_name (i := 5) S.nd rfl (by first | exact Or.inl rfl | exact Or.inr rfl)) (pss_one (ps_aug (i := 3) S.nd rfl (by first | exact Or.inl rfl | exact Or.inr rfl) (by exact (pe_lcz (own := [("number", 6)]) rfl S.nd (pi_tup (pe_fd (pv 5))) (blkOk_by (own := [("number", 6)]) (N := ["kernel", "might", "kept", "numbers", "thing", "letter", "number"]) (sc := defScope s_parts_heard) (by decide +kernel)) (fun _ => (pg_name (i := 6) S.nd rfl (by first | exact Or.inl rfl | exact Or.inr rfl))) (fun _ => (pts_one (pt_cmpR op_in_seq (pv 6) (pv 2) rfl))) (fun _ => (pv 6)))) iop_ext)))) pss_nil))))
      (pss_one (ps_ret (by exact (pe_lcz (own := [("number", 6)]) rfl S.nd (pi_list (pv 3)) (blkOk_by (own := [("number", 6)]) (N := ["kernel", "might", "kept", "numbers", "thing", "letter", "number"]) (sc := defScope s_parts_heard) (by decide +kernel)) (fun _ => (pg_name (i := 6) S.nd rfl (by first | exact Or.inl rfl | exact Or.inr rfl))) (fun _ => pts_nil) (fun _ => (pe_m (ok_Tree_handle G) (hr.mono (by omega)) G.cl_Tree G.m_Tree_handle takes0 (pe_fd (pv 0)) (pa_cons (pv 6) pa_nil)))))))))), ?_⟩
  walk_at "w"
  refine ⟨tg, m, rfl, R, KN.w.t.sz, fun H1 p1 ks a1 hp1 e1 perm => ?_⟩
  walk_at "w"
  refine ⟨by rw [sizeLine_eq]; decide, fun q hq => ?_⟩
  have K1 := KN.al a1
  have f5 : FldAt K (L2.upd H1 q (.lst [])) (.ref m.k) "things" (.ref m.th) := fld_k_things (m := m) G (K1.r.al (.new hq))
  walk_at "w"
  have nthq : m.th ≠ q := ne_of_none K1.th hq
  refine ⟨m.th, _, (upd_ne nthq).trans K1.th, trivial, fun od => ?_⟩
  have Rb : Rep K (L2.upd H1 m.th (.frz od (.dK (rowsD (List.range m.nth) m.tha)))) tg m := K1.r.frzt
  have al0 : Al (L2.upd H1 m.th (.frz od (.dK (rowsD (List.range m.nth) m.tha)))) (L2.upd (L2.upd H1 q (.lst [])) m.th (.frz od (.dK (rowsD (List.range m.nth) m.tha)))) := Al.of fun b o e => by
    by_cases hb : b = m.th
    · subst hb; rw [upd_same] at e ⊢; exact e
    · rw [upd_ne hb] at e ⊢
      rw [upd_ne (ne_of_none e hq)]; exact e
  have frb : ∀ o, nt o → (L2.upd H1 m.th (.frz od (.dK (rowsD (List.range m.nth) m.tha)))) q ≠ some o := fun o n z => by rw [upd_ne nthq.symm, hq] at z; cases z
  have e0th : (L2.upd (L2.upd H1 q (.lst [])) m.th (.frz od (.dK (rowsD (List.range m.nth) m.tha)))) m.th = some (.frz od (.dK (rowsD (List.range m.nth) m.tha))) := upd_same
  have e0q : (L2.upd (L2.upd H1 q (.lst [])) m.th (.frz od (.dK (rowsD (List.range m.nth) m.tha)))) q = some (.lst []) := (upd_ne nthq.symm).trans upd_same
  have eab : (L2.upd H1 m.th (.frz od (.dK (rowsD (List.range m.nth) m.tha)))) a = some (.dK (mD mt)) := (upd_ne nath).trans (a1.dK ea)
  have np1 : p1 ≠ m.th := fun z => by have := K1.th; rw [← z, e1] at this; cases this
  have ep1 : (L2.upd H1 m.th (.frz od (.dK (rowsD (List.range m.nth) m.tha)))) p1 = some (.lst (ks.map nV)) := (upd_ne np1).trans e1
  have ethb : (L2.upd H1 m.th (.frz od (.dK (rowsD (List.range m.nth) m.tha)))) m.th = some (.frz od (.dK (rowsD (List.range m.nth) m.tha))) := upd_same
  have fth : FldAt K (L2.upd (L2.upd H1 q (.lst [])) m.th (.frz od (.dK (rowsD (List.range m.nth) m.tha)))) (.ref m.k) "things" (.ref m.th) := fld_k_things (m := m) G (Rb.al al0)
  generalize eHb : L2.upd H1 m.th (.frz od (.dK (rowsD (List.range m.nth) m.tha))) = Hb at *
  generalize L2.upd (L2.upd H1 q (.lst [])) m.th (.frz od (.dK (rowsD (List.range m.nth) m.tha))) = H0 at *
  walk_at "w"
  refine ⟨_, _, _, rfl, e0th, ?_⟩
  have hlr : (rowsD (List.range m.nth) m.tha).length = m.nth := by unfold rowsD; rw [List.length_map, List.length_range]
  have hlen : ∀ i, i < m.nth → (heardAt m mt i).length ≤ 32 := fun i hi => by
    unfold heardAt
    cases ht : m.thg i with
    | door ls =>
      obtain ⟨h8, h4⟩ := KN.w.door i ls hi ht
      show (if look mt i &&& 8 ≠ 0 then ls.flatMap fun l => l.parts.filter fun n => decide (n ∈ m.keys) else []).length ≤ 32
      split
      · have := flat_len (m := m) h8 h4; omega
      · exact Nat.zero_le _
    | _ => exact Nat.zero_le _
  refine for_it walk_values (fun i σ H' => (∃ v4 v5 v6, σ = [some (.ref m.k), some (.ref a), some (.ref p1), some (.ref q), v4, v5, v6]) ∧ Al Hb H' ∧ H' q = some (.lst (((List.range i).flatMap (heardAt m mt)).map nV)) ∧ ((List.range i).flatMap (heardAt m mt)).length ≤ 32 * i) ?_ ?_ ?_ ?_
  · exact ⟨⟨_, _, _, rfl⟩, al0, e0q, Nat.zero_le _⟩
  · rintro i σ H2 hi ⟨_, al, _⟩
    exact al.frz ethb
  · rintro i x σ H2 H3 hi ⟨⟨v4, v5, v6, rfl⟩, al, eq, hsz⟩ ⟨rfl, kk, hx⟩
    rw [hlr] at hi
    obtain rfl : x = .ref (m.tha i) := by
      unfold rowsD at hx
      rw [List.getElem?_map, List.getElem?_range hi] at hx
      cases hx
      rfl
    have h40 := KN.w.nth
    have R3 := Rb.al al
    have hli := hlen i hi
    have snoc : (List.range (i + 1)).flatMap (heardAt m mt) = (List.range i).flatMap (heardAt m mt) ++ heardAt m mt i := by rw [List.range_succ, List.flatMap_append]; simp
    obtain ⟨C, dx, fs, f, ek, lk, clk, mk, Fk⟩ := kind_ex (P := P) (w := w) G R3 (i := i) hi
    walk_at "w"
    refine ⟨_, C, dx, fs, f, _, rfl, ek, lk, clk, mk, Fk, ?_⟩
    walk_at "w"
    cases ht : m.thg i with
    | cell =>
      have e9 : heardAt m mt i = [] := by unfold heardAt; rw [ht]
      rw [show kindS .cell = "cell" from rfl]
      walk_at "w"
      exact ⟨⟨_, _, _, rfl⟩, al, by rw [snoc, e9, List.append_nil]; exact eq, by rw [snoc, e9, List.append_nil]; omega⟩
    | line =>
      have e9 : heardAt m mt i = [] := by unfold heardAt; rw [ht]
      rw [show kindS .line = "line" from rfl]
      walk_at "w"
      exact ⟨⟨_, _, _, rfl⟩, al, by rw [snoc, e9, List.append_nil]; exact eq, by rw [snoc, e9, List.append_nil]; omega⟩
    | post nm r =>
      have e9 : heardAt m mt i = [] := by unfold heardAt; rw [ht]
      rw [show kindS (.post nm r) = "post" from rfl]
      walk_at "w"
      exact ⟨⟨_, _, _, rfl⟩, al, by rw [snoc, e9, List.append_nil]; exact eq, by rw [snoc, e9, List.append_nil]; omega⟩
    | door ls =>
      rw [show kindS (.door ls) = "door" from rfl]
      obtain ⟨dxd, exd⟩ := R3.thg hi
      have fnum := fld_thn G exd
      have eaa := al.dK eab
      walk_at "w"
      refine ⟨.inl ⟨_, .inl eaa⟩, ?_⟩
      walk_at "w"
      refine ⟨_, DGet.k (k := Sum.inl (i : Int)) eaa, ?_⟩
      rw [get_mD]
      walk_at "w"
      have ebt : (Builtin.bitAnd (look mt i : Int) 8 != 0) = decide (look mt i &&& 8 ≠ 0) := by
        have e0 : Builtin.bitAnd (look mt i : Int) 8 = ((look mt i &&& 8 : Nat) : Int) := rfl
        rw [e0]
        by_cases z : look mt i &&& 8 = 0
        · rw [z]; rfl
        · rw [decide_eq_true z, bne_iff_ne]
          omega
      rw [ebt]
      by_cases h8 : look mt i &&& 8 ≠ 0
      · have exd' : H3 (m.tha i) = some (.ins (He.ga K "Door") dxd [(("number" : Str), nV i), (("waiting" : Str), V.ref (m.thb i))]) := by
          have : H3 (m.tha i) = some (.ins (thC K (m.thg i)) dxd (thF i (m.thg i) (m.thb i))) := exd
          rw [ht] at this
          exact this
        have e9 : heardAt m mt i = ls.flatMap fun l => l.parts.filter fun n => decide (n ∈ m.keys) := by unfold heardAt; rw [ht]; exact if_pos h8
        obtain ⟨hd8, hd4⟩ := KN.w.door i ls hi ht
        walk_at "w"
        refine ⟨_, _, dxd, _, _, _, rfl, exd', rfl, G.cl_Door, G.m_Door_letters, FnR.lift (ok_Door_letters G) (by decide), ?_⟩
        walk_at "w"
        refine ⟨_, dxd, i, m.thb i, _, rfl, exd', R3.door hi ht, fun q2 hq2 => ?_⟩
        have nq2 : q2 ≠ q := (ne_of_none eq hq2).symm
        walk_at "w"
        refine ⟨⟨_, sqL_at upd_same⟩, ?_⟩
        refine for_list (xs := ls.map fun l => V.ref l.at_) (fun j σ H' => (∃ v5 v6, σ = [some (.ref m.k), some (.ref a), some (.ref p1), some (.ref q), some (.ref (m.tha i)), v5, v6]) ∧ Al Hb H' ∧ H' q2 = some (.lst (ls.map fun l => V.ref l.at_)) ∧ H' q = some (.lst (((List.range i).flatMap (heardAt m mt) ++ (ls.take j).flatMap fun l => l.parts.filter fun n => decide (n ∈ m.keys)).map nV))) ?_ ?_ ?_ ?_
        · exact ⟨⟨_, _, rfl⟩, al.newT hq2, upd_same, by rw [List.take_zero, List.flatMap_nil, List.append_nil]; exact (upd_ne nq2.symm).trans eq⟩
        · rintro j σ H3 hj ⟨_, _, e, _⟩
          exact sqL_at e
        · rintro j x σ H3 hx ⟨⟨v5, v6, rfl⟩, al3, e3, eq3⟩
          rw [List.getElem?_map] at hx
          cases hc : ls[j]? with
          | none => rw [hc] at hx; cases hx
          | some l =>
            rw [hc] at hx
            cases hx
            have hl := List.mem_of_getElem? hc
            obtain ⟨dx4, ws, pt, el, ept, _, _⟩ := (Rb.al al3).lets i ls hi ht l hl
            have fp : FldAt K H3 (.ref l.at_) "parts" (.ref pt) := ⟨_, _, dx4, _, rfl, el, G.cl_Letter, G.n_Letter_parts, lkS (by decide +kernel) lk0⟩
            have hp4 := hd4 l hl
            have hjl := lt_of_get hc
            have hpl : (l.parts.map nV).length = l.parts.length := List.length_map _
            walk_at "w"
            refine ⟨⟨_, sqT_at ept⟩, ?_⟩
            refine lcR walk_tup (fun i => (l.parts[i]?).bind fun n => if decide (n ∈ m.keys) = true then some (nV n) else none) (by rw [hpl, sizeLine_eq]; omega) (fun H a => sqT_at (a.tup ept)) (fun i2 x2 H4 H5 hi2 a4 y N1 N2 hy hno => ?_) (fun H4 D a4 e4 => ?_)
            · obtain ⟨rfl, hx2⟩ := y
              rw [List.getElem?_map] at hx2
              cases hn : l.parts[i2]? with
              | none => rw [hn] at hx2; cases hx2
              | some n =>
                rw [hn] at hx2 hy hno
                cases hx2
                have ep4 := a4.lst (al3.lst ep1)
                walk_at "w"
                refine ⟨p1, _, rfl, .inl (sqL_at ep4), rfl, flat_nat, ?_⟩
                rw [if_neg (by decide), inV_nat, show decide (n ∈ ks) = decide (n ∈ m.keys) from decide_eq_decide.mpr perm.mem_iff]
                by_cases hk : n ∈ m.keys
                · walk_at "w"
                  exact hy _ _ (by simp [hk]) (Al.refl _)
                · walk_at "w"
                  exact hno _ (by simp [hk]) (Al.refl _)
            · have ef : (List.range (l.parts.map nV).length).filterMap (fun i => (l.parts[i]?).bind fun n => if decide (n ∈ m.keys) = true then some (nV n) else none) = (l.parts.filter fun n => decide (n ∈ m.keys)).map nV := by
                rw [hpl, filterMap_range l.parts _ (fun n => if decide (n ∈ m.keys) = true then some (nV n) else none) (fun i x e => by rw [e]; rfl), filterMap_if]
              rw [ef] at e4
              have eq4 := a4.lst eq3
              have hs1 := flat_len (m := m) (ls := ls.take j) (by rw [List.length_take]; omega) (fun l' h' => hd4 l' (List.mem_of_mem_take h'))
              rw [List.length_take] at hs1
              have hs2 := List.length_filter_le (fun n => decide (n ∈ m.keys)) l.parts
              walk_at "w"
              refine ⟨_, _, _, _, rfl, rfl, eq4, e4, by rw [List.length_map, List.length_map, List.length_append, sizeLine_eq]; omega, ?_⟩
              rw [← List.map_append]
              refine ⟨⟨_, _, rfl⟩, (al3.trans a4).set0 frb eq4 trivial, (upd_ne nq2).trans (a4.lst e3), ?_⟩
              rw [upd_same, List.take_succ, hc, List.flatMap_append, ← List.append_assoc]
              simp
        · rintro σ H3 ⟨⟨v5, v6, rfl⟩, al3, e3, eq3⟩
          rw [List.length_map, List.take_length, ← e9, ← snoc] at eq3
          exact ⟨⟨_, _, _, rfl⟩, al3, eq3, by rw [snoc, List.length_append]; omega⟩
      · have e9 : heardAt m mt i = [] := by unfold heardAt; rw [ht]; exact if_neg h8
        walk_at "w"
        exact ⟨⟨_, _, _, rfl⟩, al, by rw [snoc, e9, List.append_nil]; exact eq, by rw [snoc, e9, List.append_nil]; omega⟩
  · rintro σ H2 ⟨⟨v4, v5, v6, rfl⟩, al, eq, hsz⟩
    refine ⟨al.frz ethb, ?_⟩
    rw [hlr] at eq hsz
    have h40 := KN.w.nth
    rw [← eHb] at al
    have a2 := a1.trans (Al.unlock K1.th trivial al)
    have eq2 := (upd_ne (o := .dK (rowsD (List.range m.nth) m.tha)) nthq.symm).trans eq
    generalize L2.upd H2 m.th (.dK (rowsD (List.range m.nth) m.tha)) = H3 at *
    have eq2 : H3 q = some (.lst ((heard m mt).map nV)) := eq2
    have hnl : ((heard m mt).map nV).length = (heard m mt).length := List.length_map _
    have hsz' : (heard m mt).length ≤ 32 * m.nth := hsz
    have hmem : ∀ n, n ∈ heard m mt → n ∈ m.keys := fun n hn => by
      unfold heard at hn
      obtain ⟨i, _, hn⟩ := List.mem_flatMap.mp hn
      unfold heardAt at hn
      split at hn
      · split at hn
        · obtain ⟨l, _, hn⟩ := List.mem_flatMap.mp hn
          have := (List.mem_filter.mp hn).2
          simpa using this
        · cases hn
      · cases hn
    walk_at "w"
    refine ⟨⟨(heard m mt).map nV, sqL_at eq2⟩, ?_⟩
    refine lcA (walk_list (xs := (heard m mt).map nV)) (fun i => (heard m mt)[i]?) (HdR K m) (fun H H' a v al ⟨x, e, h⟩ => ⟨x, e, h.al al⟩) (fun H D a v o hD o' ⟨x, e, dx, h⟩ => ⟨x, e, dx, by rw [upd_ne (fun z => by rw [z, hD] at h; cases h)]; exact h⟩) (by rw [hnl, sizeLine_eq]; omega) (fun H a => sqL_at (a.lst eq2)) (fun i x H4 H5 hi a4 y N1 N2 hy hno => ?_) (fun H4 D us a4 e4 q4 => ?_)
    · obtain ⟨rfl, hx⟩ := y
      rw [List.getElem?_map] at hx
      cases hc : (heard m mt)[i]? with
      | none => rw [hc] at hx; cases hx
      | some n =>
        rw [hc] at hx hy
        cases hx
        have hk := hmem n (List.mem_of_getElem? hc)
        have R4 := R.al (a2.trans a4)
        walk_at "w"
        refine ⟨tg, m, n, rfl, R4, fun h => absurd hk h, fun _ H6 x6 a6 hx6 => ?_⟩
        exact hy n _ _ rfl ⟨x6, rfl, hx6⟩ a6
    · rw [hnl, filterMap_range (heard m mt) _ (fun n => some n) (fun i x e => e), List.filterMap_some] at q4
      exact k _ _ _ (a2.trans a4) e4 q4
end
end Pk
end
/-! PkMeas -/
section
set_option maxHeartbeats 4000000
namespace Pk
open PySem PySem.Spec PyProof.Rows L2
/-- a dict of rights that stands -/
structure DOk (n : Nat) (ps : PL) : Prop where
  nd : (keysN ps).Nodup
  lt : ∀ t, t ∈ keysN ps → t < n
  le : ∀ t, look ps t ≤ 63
theorem or_le63 {a b : Nat} (ha : a ≤ 63) (hb : b ≤ 63) : a ||| b ≤ 63 := by
  have h := Nat.or_lt_two_pow (n := 6) (x := a) (y := b) (by omega) (by omega)
  omega
theorem DOk.add {n : Nat} {ps qs : PL} (h : DOk n ps) (hq : ∀ q, q ∈ qs → q.1 < n ∧ q.2 ≤ 63) : DOk n (addAll ps qs) := by
  induction qs generalizing ps with
  | nil => exact h
  | cons p r ih =>
    obtain ⟨h1, h2⟩ := hq p List.mem_cons_self
    refine ih ⟨nd_addN h.nd, fun t ht => ?_, fun t => ?_⟩ (fun q hq' => hq q (List.mem_cons_of_mem _ hq'))
    · rcases (keys_addN t).mp ht with h3 | h3
      · exact h.lt t h3
      · rw [h3]; exact h1
    · rw [look_addN]
      split
      · exact or_le63 (h.le t) h2
      · exact h.le t
theorem DOk.nil {n : Nat} : DOk n [] := ⟨.nil, fun t h => (by cases h), fun t => Nat.zero_le _⟩
theorem DOk.len {n : Nat} {ps : PL} (h : DOk n ps) : ps.length ≤ n := by
  have h1 := nodup_le (k := List.range n) h.nd (fun x hx => List.mem_range.mpr (h.lt x hx))
  rw [List.length_range] at h1
  unfold keysN at h1
  rwa [List.length_map] at h1
theorem look_le {ps qs : PL} {t : Nat} : look ps t ≤ look (addAll ps qs) t := by
  induction qs generalizing ps with
  | nil => exact Nat.le_refl _
  | cons p r ih =>
    refine Nat.le_trans ?_ (ih (ps := addN ps p))
    rw [look_addN]
    split
    · exact Nat.left_le_or
    · exact Nat.le_refl _
def mu (ps : PL) (t : Nat) : Nat := if t ∈ keysN ps then 63 - look ps t else 64
def meas (ps : PL) : Nat := ((List.range 40).map (mu ps)).sum
theorem sum_le {f g : Nat → Nat} {l : List Nat} (h : ∀ t, t ∈ l → f t ≤ g t) : (l.map f).sum ≤ (l.map g).sum := by
  induction l with
  | nil => exact Nat.le_refl _
  | cons a r ih =>
    simp only [List.map_cons, List.sum_cons]
    have h1 := h a List.mem_cons_self
    have h2 := ih fun t ht => h t (List.mem_cons_of_mem _ ht)
    omega
theorem sum_eq {f g : Nat → Nat} {l : List Nat} (h : ∀ t, t ∈ l → f t ≤ g t) (e : (l.map g).sum ≤ (l.map f).sum) : ∀ t, t ∈ l → f t = g t := by
  induction l with
  | nil => intro t ht; cases ht
  | cons a r ih =>
    simp only [List.map_cons, List.sum_cons] at e
    have h1 := h a List.mem_cons_self
    have h2 := sum_le fun t ht => h t (List.mem_cons_of_mem _ ht)
    intro t ht
    rcases List.mem_cons.mp ht with rfl | ht
    · omega
    · exact ih (fun t ht => h t (List.mem_cons_of_mem _ ht)) (by omega) t ht
theorem mu_le {ps qs : PL} {t : Nat} : mu (addAll ps qs) t ≤ mu ps t := by
  unfold mu
  have h1 := look_le (ps := ps) (qs := qs) (t := t)
  by_cases h : t ∈ keysN ps
  · rw [if_pos h, if_pos (keys_addAll.mpr (.inl h))]; omega
  · rw [if_neg h]; split <;> omega
theorem look_mem {ps : PL} {p : Nat × Nat} (nd : (keysN ps).Nodup) (h : p ∈ ps) : look ps p.1 = p.2 := by
  induction ps with
  | nil => cases h
  | cons a r ih =>
    unfold keysN at nd
    rw [List.map_cons, List.nodup_cons] at nd
    rw [look_cons]
    rcases List.mem_cons.mp h with e | h
    · subst e; rw [if_pos rfl]
    · rw [if_neg (fun z => nd.1 (by rw [z]; exact List.mem_map.mpr ⟨p, h, rfl⟩))]
      exact ih nd.2 h
/-- nothing new: the dicts are equal -/
theorem same_or {n : Nat} {ps qs : PL} (hn : n ≤ 40) (h : DOk n ps) (h' : DOk n (addAll ps qs)) : meas (addAll ps qs) < meas ps ∨ ((∀ t, look (addAll ps qs) t = look ps t) ∧ ((mD (addAll ps qs)).length == (mD ps).length && subD (mD (addAll ps qs)) (mD ps)) = true) := by
  by_cases hm : meas (addAll ps qs) < meas ps
  · exact .inl hm
  · refine .inr ?_
    have he := sum_eq (l := List.range 40) (f := mu (addAll ps qs)) (g := mu ps) (fun t _ => mu_le) (by unfold meas at hm; omega)
    have key : ∀ t, (t ∈ keysN (addAll ps qs) ↔ t ∈ keysN ps) ∧ look (addAll ps qs) t = look ps t := fun t => by
      by_cases ht : t < 40
      · have e := he t (List.mem_range.mpr ht)
        unfold mu at e
        have l1 := h.le t
        have l2 := h'.le t
        by_cases k1 : t ∈ keysN ps
        · have k2 : t ∈ keysN (addAll ps qs) := keys_addAll.mpr (.inl k1)
          rw [if_pos k1, if_pos k2] at e
          exact ⟨⟨fun _ => k1, fun _ => k2⟩, by omega⟩
        · rw [if_neg k1] at e
          by_cases k2 : t ∈ keysN (addAll ps qs)
          · rw [if_pos k2] at e; omega
          · exact ⟨⟨fun z => absurd z k2, fun z => absurd z k1⟩, by rw [look_none k1, look_none k2]⟩
      · have k1 : t ∉ keysN ps := fun z => ht (Nat.lt_of_lt_of_le (h.lt t z) hn)
        have k2 : t ∉ keysN (addAll ps qs) := fun z => ht (Nat.lt_of_lt_of_le (h'.lt t z) hn)
        exact ⟨⟨fun z => absurd z k2, fun z => absurd z k1⟩, by rw [look_none k1, look_none k2]⟩
    refine ⟨fun t => (key t).2, ?_⟩
    have len : (addAll ps qs).length = ps.length := by
      have h1 := nodup_le h'.nd (fun x hx => (key x).1.mp hx)
      have h2 := nodup_le h.nd (fun x hx => (key x).1.mpr hx)
      unfold keysN at h1 h2
      rw [List.length_map, List.length_map] at h1 h2
      omega
    rw [mD_len, mD_len, len, Bool.and_eq_true]
    refine ⟨beq_self_eq_true _, ?_⟩
    unfold subD
    rw [List.all_eq_true]
    intro kv hkv
    unfold mD at hkv
    obtain ⟨p, hp, rfl⟩ := List.mem_map.mp hkv
    have hk : p.1 ∈ keysN ps := (key p.1).1.mp (List.mem_map.mpr ⟨p, hp, rfl⟩)
    rw [decide_eq_true_iff, val_mD, if_pos hk, ← (key p.1).2, look_mem h'.nd hp]
end Pk
end
/-! PkF24 -/
section
set_option maxHeartbeats 4000000
namespace Pk
open PySem PySem.Spec PyProof.Rows L2
local macro_rules | `(tactic| walk_at "c") => `(tactic| first | assumption | omega | exact rfl | (intro z; cases z; done) | (simp only [nV, V.int.injEq, V.str.injEq]; first | assumption | omega))
local macro_rules | `(tactic| walk_at "fld") => `(tactic| first
  | assumption
  | exact fld_k_tasks (by assumption) (by assumption) | exact fld_k_tree (by assumption) (by assumption) | exact fld_k_things (by assumption) (by assumption) | exact fld_ta_known (by assumption) (by assumption)
  | exact fld_t_rows (by assumption) (by assumption) (by assumption) | exact fld_t_run1 (by assumption) (by assumption) (by assumption) (by assumption) | exact fld_t_runs (by assumption) (by assumption) (by assumption) | exact fld_t_maker (by assumption) (by assumption) (by assumption) | exact fld_tr_rows (by assumption) (by assumption) | exact fld_tr_rb (by assumption) (by assumption) | exact fld_tr_ever (by assumption) (by assumption)
  | exact fld_h_number (by assumption) (by assumption) | exact fld_h_thing (by assumption) (by assumption) | exact fld_h_rights (by assumption) (by assumption) | exact fld_h_giver (by assumption) (by assumption) | exact fld_h_holder (by assumption) (by assumption))
local macro_rules | `(tactic| walk_at "get") => `(tactic| first
  | assumption
  | exact get_kn1 (by assumption) (by assumption) | exact get_kn0 (by assumption) (by assumption) | exact get_rw1 (by assumption) (by assumption) | exact get_rw0 (by assumption) (by assumption)
  | exact get_rb1 (by assumption) (by assumption) | exact get_rb0 (by assumption) (by assumption) | exact get_th1 (by assumption) (by assumption) | exact get_th0 (by assumption) (by assumption))
local macro_rules | `(tactic| walk_at "ins") => `(tactic| first | exact insTa (by assumption) rfl | exact insTr (by assumption) rfl)
local macro_rules | `(tactic| walk_at "s") => `(tactic| first
  | refine ⟨_, rfl, ?_⟩
  | refine ⟨rfl, ?_⟩
  | refine zI fun _ => ?_
  | with_reducible refine iteF ?_ | with_reducible refine iteT ?_
  | ((with_reducible refine iteDy ?_ ?_); focus (walk_at "c"; done)) | ((with_reducible refine iteDn ?_ ?_); focus (walk_at "c"; done)) | ((with_reducible refine iteNy ?_ ?_); focus (walk_at "c"; done)) | ((with_reducible refine iteNn ?_ ?_); focus (walk_at "c"; done))
  | refine fldI (by walk_at "fld") ?_
  | refine getI (by walk_at "get") ?_ | refine getS (by walk_at "get") ?_
  | refine ⟨by walk_at "ins", ?_⟩
  | refine ⟨_, _, _, _, true, rfl, .ty _, .base (.str _), kit_ty (by decide +kernel), ?_⟩
  | refine ⟨_, _, _, _, true, rfl, .ty _, .base (.int _), kit_ty (by decide +kernel), ?_⟩
  | refine ⟨_, _, _, _, false, rfl, .ty _, .base (.int _), kit_ty (by decide +kernel), ?_⟩
  | refine ⟨_, _, rfl, rfl, ?_⟩
  | refine ⟨_, _, rfl, rfl, trivial, ?_⟩)
local macro_rules | `(tactic| walk_at "w") => `(tactic| repeat (walk_at "s"))
theorem numsOf_key {m : Mo} (W : Wf m) {s : Str} (hs : s ∈ m.names) {n : Nat} (h : n ∈ numsOf m s) : n ∈ m.keys := by
  unfold numsOf slotsOf at h
  obtain ⟨p, hp, rfl⟩ := List.mem_map.mp h
  obtain ⟨i, _, e⟩ := List.mem_filterMap.mp hp
  cases eo : (m.task s).rows[i]? with
  | none => rw [eo] at e; cases e
  | some o =>
    rw [eo] at e
    cases o with
    | none => cases e
    | some k => cases e; exact W.slot s _ hs (List.mem_of_getElem? eo)
theorem heard_key {m : Mo} {mt : PL} {n : Nat} (hn : n ∈ heard m mt) : n ∈ m.keys := by
  unfold heard at hn
  obtain ⟨i, _, hn⟩ := List.mem_flatMap.mp hn
  unfold heardAt at hn
  split at hn
  · split at hn
    · obtain ⟨l, _, hn⟩ := List.mem_flatMap.mp hn
      have := (List.mem_filter.mp hn).2
      simpa using this
    · cases hn
  · cases hn
theorem hsOf_ok {m : Mo} (W : Wf m) {ns : List Nat} (h : ∀ n, n ∈ ns → n ∈ m.keys) : ∀ q, q ∈ hsOf m ns → q.1 < m.nth ∧ q.2 ≤ 63 := fun q hq => by
  unfold hsOf at hq
  obtain ⟨n, hn, rfl⟩ := List.mem_map.mp hq
  exact ⟨W.t.th n (h n hn), W.t.rg n (h n hn)⟩
theorem heard_len {m : Mo} (W : Wf m) {mt : PL} : (heard m mt).length ≤ 1280 := by
  have key : ∀ i, i ≤ m.nth → ((List.range i).flatMap (heardAt m mt)).length ≤ 32 * i := by
    intro i
    induction i with
    | zero => intro _; exact Nat.le_refl _
    | succ i ih =>
      intro hi
      rw [List.range_succ, List.flatMap_append, List.length_append]
      have h1 := ih (by omega)
      have h2 : ([i].flatMap (heardAt m mt)).length ≤ 32 := by
        simp only [List.flatMap_cons, List.flatMap_nil, List.append_nil]
        unfold heardAt
        cases ht : m.thg i with
        | door ls =>
          obtain ⟨h8, h4⟩ := W.door i ls (by omega) ht
          show (if look mt i &&& 8 ≠ 0 then ls.flatMap fun l => l.parts.filter fun n => decide (n ∈ m.keys) else []).length ≤ 32
          split
          · have : (ls.flatMap fun l => l.parts.filter fun n => decide (n ∈ m.keys)).length ≤ 4 * ls.length := flat_len h8 h4
            omega
          · exact Nat.zero_le _
        | _ => exact Nat.zero_le _
      omega
  have := key m.nth (Nat.le_refl _)
  have := W.nth
  unfold heard
  omega
/-- what might be had: all that is had or passed, and closed under hearing -/
structure MH (m : Mo) (s : Str) (ps ms : PL) : Prop where
  ok : DOk m.nth ms
  own : ∀ t b, (look (own m s) t).testBit b = true → (look ms t).testBit b = true
  pas : ∀ t b, (look ps t).testBit b = true → (look ms t).testBit b = true
  cl : ∀ n, n ∈ heard m ms → ∀ b, (m.row n).rights.testBit b = true → (look ms (m.row n).thing).testBit b = true
theorem sub_look {ps qs : PL} (nd : (keysN (addAll ps qs)).Nodup) (h : subD (mD (addAll ps qs)) (mD ps) = true) : ∀ t, look (addAll ps qs) t = look ps t := fun t => by
  by_cases hk : t ∈ keysN (addAll ps qs)
  · obtain ⟨q, hq, rfl⟩ := List.mem_map.mp hk
    unfold subD at h
    rw [List.all_eq_true] at h
    have h1 := h ((Sum.inl (q.1 : Int) : Key), nV q.2) (List.mem_map.mpr ⟨q, hq, rfl⟩)
    rw [decide_eq_true_iff, val_mD] at h1
    split at h1
    · rw [look_mem nd hq]
      have h2 := V.int.inj (Option.some.inj h1)
      omega
    · cases h1
  · have hk' : t ∉ keysN ps := fun z => hk (keys_addAll.mpr (.inl z))
    rw [look_none hk, look_none hk']
/-- the measure, kept shut -/
structure Mz (n : Nat) (ms : PL) : Prop where
  e : n = meas ms
/-- one more hearing -/
abbrev later (m : Mo) (ms : PL) : PL := addAll ms (addAll [] (hsOf m (heard m ms)))
theorem later_ok {m : Mo} (W : Wf m) {ms : PL} (h : DOk m.nth ms) : DOk m.nth (later m ms) := by
  refine h.add fun q hq => ?_
  have hd : DOk m.nth (addAll [] (hsOf m (heard m ms))) := DOk.nil.add (hsOf_ok W fun n hn => heard_key hn)
  have h1 : q.1 ∈ keysN (addAll [] (hsOf m (heard m ms))) := List.mem_map.mpr ⟨q, hq, rfl⟩
  exact ⟨hd.lt _ h1, by rw [← look_mem hd.nd hq]; exact hd.le _⟩
theorem later_bit {m : Mo} {ms : PL} {t b : Nat} (W : Wf m) : (look (later m ms) t).testBit b = true ↔ (look ms t).testBit b = true ∨ ∃ n, n ∈ heard m ms ∧ (m.row n).thing = t ∧ (m.row n).rights.testBit b = true := by
  have hd : DOk m.nth (addAll [] (hsOf m (heard m ms))) := DOk.nil.add (hsOf_ok W fun n hn => heard_key hn)
  rw [bit_addAll]
  constructor
  · rintro (h | ⟨q, hq, e, h⟩)
    · exact .inl h
    · rw [← look_mem hd.nd hq, bit_addAll] at h
      rcases h with h | ⟨q2, h1, h2, h3⟩
      · simp [look_nil] at h
      · unfold hsOf at h1
        obtain ⟨n, hn, rfl⟩ := List.mem_map.mp h1
        exact .inr ⟨n, hn, h2.trans e, h3⟩
  · rintro (h | ⟨n, hn, e, h⟩)
    · exact .inl h
    · have hb : (look (addAll [] (hsOf m (heard m ms))) t).testBit b = true := bit_addAll.mpr (.inr ⟨((m.row n).thing, (m.row n).rights), List.mem_map.mpr ⟨n, hn, rfl⟩, e, h⟩)
      by_cases hk : t ∈ keysN (addAll [] (hsOf m (heard m ms)))
      · obtain ⟨q, hq, rfl⟩ := List.mem_map.mp hk
        exact .inr ⟨q, hq, rfl, by rw [← look_mem hd.nd hq]; exact hb⟩
      · rw [look_none hk] at hb; simp at hb
/-- what holds of might all along -/
structure Mi (m : Mo) (s : Str) (ps ms : PL) : Prop where
  ok : DOk m.nth ms
  own : ∀ t b, (look (own m s) t).testBit b = true → (look ms t).testBit b = true
  pas : ∀ t b, (look ps t).testBit b = true → (look ms t).testBit b = true
theorem Mi.later {m : Mo} {s : Str} {ps ms : PL} (W : Wf m) (h : Mi m s ps ms) : Mi m s ps (later m ms) := ⟨later_ok W h.ok, fun t b z => (later_bit W).mpr (.inl (h.own t b z)), fun t b z => (later_bit W).mpr (.inl (h.pas t b z))⟩
theorem own_ok {m : Mo} (W : Wf m) {s : Str} (hs : s ∈ m.names) : DOk m.nth (own m s) := DOk.nil.add (hsOf_ok W fun n hn => numsOf_key W hs hn)
theorem Mi.first {m : Mo} {s : Str} {ps : PL} (W : Wf m) (hs : s ∈ m.names) (h : DOk m.nth ps) : Mi m s ps (addAll (Pk.own m s) ps) :=
  ⟨(own_ok W hs).add fun q hq => ⟨h.lt _ (List.mem_map.mpr ⟨q, hq, rfl⟩), by rw [← look_mem h.nd hq]; exact h.le _⟩, fun t b z => bit_addAll.mpr (.inl z), fun t b z => bit_addAll.mpr (.inr (by
    by_cases hk : t ∈ keysN ps
    · obtain ⟨q, hq, rfl⟩ := List.mem_map.mp hk
      exact ⟨q, hq, rfl, by rw [← look_mem h.nd hq]; exact z⟩
    · rw [look_none hk] at z; simp at z))⟩
theorem mD_int {ps : PL} : ∀ p ∈ mD ps, ∃ i, p.2 = V.int i := fun p hp => by
  unfold mD at hp
  obtain ⟨q, _, rfl⟩ := List.mem_map.mp hp
  exact ⟨_, rfl⟩
def MW (m : Mo) (s1 : Str) (pa : Addr) (ps : PL) (H : Hp) : Nat → L2.St → Hp → Prop := fun n σ H' => ∃ pm pl ms, σ = [some (.ref m.k), some (.str s1), some (.ref pa), some (.ref pm), some (.ref pl)] ∧ Al H H' ∧ (∀ o, nt o → H pm ≠ some o) ∧ (∀ o, nt o → H pl ≠ some o) ∧ H' pm = some (.dK (mD ms)) ∧ H' pl = some (.dK (mD (later m ms))) ∧ Mi m s1 ps ms ∧ Mz n ms
section
variable {P : Program} {w : World} {K : PySem.W.Frag} {mg : Str → Option Value} {base : Heap} (G : Gx K mg base)
include G
def sp_might_have (K : PySem.W.Frag) : Sp := fun vs H Q E => ∃ tg m s pa ps, vs = [.ref m.k, .str s, .ref pa] ∧ Kn K H tg m ∧ RunT m s ∧ H pa = some (.dK (mD ps)) ∧ DOk m.nth ps ∧ TbN (T0 K) H ∧ (∀ H' p ms, Al H H' → (∀ o, nt o → H p ≠ some o) → H' p = some (.dK (mD ms)) → MH m s ps ms → Q (.ref p) H')
omit G in
theorem sc_might_have : FnScope ["kernel", "name", "passed", "might", "later"] ["kernel", "name", "passed"] (defScope s_might_have) := ⟨rfl, rfl, rfl, by decide +kernel, rfl, by decide +kernel, by decide +kernel⟩
theorem ok_might_have : FnR P w K mg base (L2.CX P w) 14 (He.ga K "might_have") (sp_might_have K) := by
  refine mkFc (k := 13) G.f_might_have sc_might_have (fun _ _ _ _ _ _ us hl => match us, hl with | [_, _, _], _ => rfl) (fun vs H Q E h => by repeat (first | (obtain ⟨e, _⟩ := h; cases e; rfl; done) | obtain ⟨_, h⟩ := h)) (fun cdv A outer s H vs Q E hc hr h => ?_)
  have S := sc_might_have
  obtain ⟨tg, m, s1, pa, ps, rfl, KN, hq, epa, hps, hT, k⟩ := h
  have R := KN.r
  refine ⟨_, (pss_cons (ps_set (i := 3) S.nd rfl (by first | exact Or.inl rfl | exact Or.inr rfl) (pe_f (ok_joined G) (hr.mono (by omega)) rfl G.g_joined (kp_of G.f_joined) tkd (pa_cons (pe_f (ok_gathered G) (hr.mono (by omega)) rfl G.g_gathered (kp_of G.f_gathered) tkd (pa_cons (pe_f (ok_handles_of G) (hr.mono (by omega)) rfl G.g_handles_of (kp_of G.f_handles_of) tkd (pa_cons (pv 0) (pa_cons (pv 1) pa_nil))) (pa_cons (pe_lam G hc (by decide +kernel) (by decide +kernel) ⟨rfl, rfl, rfl, rfl, fun _ _ _ _ _ => rfl, _, rfl⟩) pa_nil))) (pa_cons (pv 2) pa_nil))))
      (pss_cons (ps_set (i := 4) S.nd rfl (by first | exact Or.inl rfl | exact Or.inr rfl) (pe_f (ok_joined G) (hr.mono (by omega)) rfl G.g_joined (kp_of G.f_joined) tkd (pa_cons (pv 3) (pa_cons (pe_f (ok_gathered G) (hr.mono (by omega)) rfl G.g_gathered (kp_of G.f_gathered) tkd (pa_cons (pe_f (ok_parts_heard G) (hr.mono (by omega)) rfl G.g_parts_heard (kp_of G.f_parts_heard) tkd (pa_cons (pv 0) (pa_cons (pv 3) pa_nil))) (pa_cons (pe_lam G hc (by decide +kernel) (by decide +kernel) ⟨rfl, rfl, rfl, rfl, fun _ _ _ _ _ => rfl, _, rfl⟩) pa_nil))) pa_nil))))
      (pss_cons (ps_while pod (pt_cmpR (op_neDI (Nat.lt_of_succ_lt (hu_of hr))) (pv 4) (pv 3) (nomark _)) (pss_cons (ps_set (i := 3) S.nd rfl (by first | exact Or.inl rfl | exact Or.inr rfl) (pv 4))
      (pss_one (ps_set (i := 4) S.nd rfl (by first | exact Or.inl rfl | exact Or.inr rfl) (pe_f (ok_joined G) (hr.mono (by omega)) rfl G.g_joined (kp_of G.f_joined) tkd (pa_cons (pv 3) (pa_cons (pe_f (ok_gathered G) (hr.mono (by omega)) rfl G.g_gathered (kp_of G.f_gathered) tkd (pa_cons (pe_f (ok_parts_heard G) (hr.mono (by omega)) rfl G.g_parts_heard (kp_of G.f_parts_heard) tkd (pa_cons (pv 0) (pa_cons (pv 3) pa_nil))) (pa_cons (pe_lam G hc (by decide +kernel) (by decide +kernel) ⟨rfl, rfl, rfl, rfl, fun _ _ _ _ _ => rfl, _, rfl⟩) pa_nil))) pa_nil)))))))
      (pss_one (ps_ret (pv 3)))))), ?_⟩
  walk_at "w"
  refine ⟨tg, m, s1, rfl, R, KN.w, hq, fun H1 p1 us a1 e1 hal => ?_⟩
  walk_at "w"
  refine ⟨a1.tabs _ hT, fun f H2 a2 l => ?_⟩
  walk_at "w"
  refine ⟨p1, .ref f, m, numsOf m s1, us, fun _ => true, rfl, a2.lst e1, hal.imp (fun n v ⟨x, e, h⟩ => ⟨x, e, h.al a2⟩), ⟨f, rfl, .inr ⟨l, rfl⟩⟩, by have := numsOf_len (m := m) (s := s1); omega, fun H3 p3 a3 hp3 e3 => ?_⟩
  rw [filter_true] at e3
  have a13 := a1.trans (a2.trans a3)
  have hoo := own_ok KN.w hq.1
  walk_at "w"
  refine ⟨p3, pa, own m s1, ps, rfl, .inl e3, a13.dK epa, by have := hoo.len; have := hps.len; have := KN.w.nth; omega, fun H4 p4 a4 hp4 e4 => ?_⟩
  have hp4H : ∀ o, nt o → H p4 ≠ some o := a13.free hp4
  have a14 := a13.trans a4
  have mi0 := Mi.first KN.w hq.1 hps
  generalize addAll (own m s1) ps = ms0 at *
  have nth4 : p4 ≠ m.th := fun z => hp4H _ (Pl.nt (o := .dK _) trivial) (by rw [z]; exact KN.th)
  walk_at "w"
  refine ⟨tg, m, p4, ms0, rfl, KN.al a14, e4, nth4, fun H5 p5 us5 a5 e5 hal5 => ?_⟩
  walk_at "w"
  refine ⟨(a14.trans a5).tabs _ hT, fun f5 H6 a6 l6 => ?_⟩
  walk_at "w"
  refine ⟨p5, .ref f5, m, heard m ms0, us5, fun _ => true, rfl, a6.lst e5, hal5.imp (fun n v ⟨x, e, h⟩ => ⟨x, e, h.al a6⟩), ⟨f5, rfl, .inr ⟨l6, rfl⟩⟩, by have := heard_len KN.w (mt := ms0); omega, fun H7 p7 a7 hp7 e7 => ?_⟩
  rw [filter_true] at e7
  have a47 := a5.trans (a6.trans a7)
  have hd7 : DOk m.nth (addAll [] (hsOf m (heard m ms0))) := DOk.nil.add (hsOf_ok KN.w fun n hn => heard_key hn)
  walk_at "w"
  refine ⟨p4, p7, ms0, _, rfl, .inl (a47.dK e4), e7, by have := mi0.ok.len; have := hd7.len; have := KN.w.nth; omega, fun H8 p8 a8 hp8 e8 => ?_⟩
  have a18 := a14.trans (a47.trans a8)
  have e48 := (a47.trans a8).dK e4
  have fr8 : ∀ o, nt o → H p8 ≠ some o := (a14.trans a47).free hp8
  refine ⟨MW m s1 pa ps H, ⟨meas ms0, p4, p8, ms0, rfl, a18, hp4H, fr8, e48, e8, mi0, ⟨rfl⟩⟩, ?_⟩
  rintro n σ H9 ⟨pm, pl, ms, rfl, a9, frm, frl, em, el, mi, ⟨hmz⟩⟩
  have KN9 := KN.al a9
  have hlo := later_ok KN.w mi.ok
  have nthl : pl ≠ m.th := fun z => frl _ (Pl.nt (o := .dK _) trivial) (by rw [z]; exact KN.th)
  walk_at "w"
  refine ⟨pl, pm, _, _, rfl, rfl, el, em, mD_int, mD_int, ?_⟩
  cases hb : ((mD (later m ms)).length == (mD ms).length && subD (mD (later m ms)) (mD ms)) with
  | true =>
    rw [Bool.and_eq_true] at hb
    have hl := sub_look hlo.nd hb.2
    walk_at "w"
    refine k H9 pm ms a9 frm em ⟨mi.ok, mi.own, mi.pas, fun n hn b hbit => ?_⟩
    rw [← hl]
    exact (later_bit KN.w).mpr (.inr ⟨n, hn, rfl, hbit⟩)
  | false =>
    have hm : meas (later m ms) < meas ms := by
      rcases same_or KN.w.nth mi.ok hlo with hm | ⟨_, he⟩
      · exact hm
      · rw [he] at hb; cases hb
    have hm2 : meas (later m ms) < n := by rw [hmz]; exact hm
    have mi2 := mi.later KN.w
    have el2 : H9 pl = some (.dK (mD (later m ms))) := el
    refine ⟨_, rfl, ?_⟩
    refine iteT ?_
    refine ⟨fun σ' H' => ∃ n', n' < n ∧ MW m s1 pa ps H n' σ' H', fun σ' H' h => h, ?_⟩
    clear hb hm hmz em mi frm el
    generalize later m ms = lm at *
    clear e8 e7 hal5 hal e1 e3 e4 e5 epa
    walk_at "w"
    refine ⟨tg, m, pl, lm, rfl, KN9, el2, nthl, fun H5 p5 us5 a5 e5 hal5 => ?_⟩
    walk_at "w"
    refine ⟨(a9.trans a5).tabs _ hT, fun f5 H6 a6 l6 => ?_⟩
    walk_at "w"
    refine ⟨p5, .ref f5, m, heard m lm, us5, fun _ => true, rfl, a6.lst e5, hal5.imp (fun n v ⟨x, e, h⟩ => ⟨x, e, h.al a6⟩), ⟨f5, rfl, .inr ⟨l6, rfl⟩⟩, by have := heard_len KN.w (mt := lm); omega, fun H7 p7 a7 hp7 e7 => ?_⟩
    rw [filter_true] at e7
    have a47 := a5.trans (a6.trans a7)
    have hd7 : DOk m.nth (addAll [] (hsOf m (heard m lm))) := DOk.nil.add (hsOf_ok KN.w fun n hn => heard_key hn)
    walk_at "w"
    refine ⟨pl, p7, lm, _, rfl, .inl (a47.dK el2), e7, by have := hlo.len; have := hd7.len; have := KN.w.nth; omega, fun H8 p8 a8 hp8 e8 => ?_⟩
    exact ⟨meas lm, hm2, pl, p8, lm, rfl, a9.trans (a47.trans a8), frl, (a9.trans a47).free hp8, (a47.trans a8).dK el2, e8, mi2, ⟨rfl⟩⟩
end
end Pk
end
/-! PkLim -/
section
set_option maxHeartbeats 4000000
namespace Pk
open PySem PySem.Spec PyProof.Rows L2
/-- the rights of x lie within f -/
def Wi (f : Nat → Nat) (x : Nat × Nat) : Prop := ∀ b, x.2.testBit b = true → (f x.1).testBit b = true
theorem and_p (r i : Nat) : r &&& 2 ^ i = if r.testBit i = true then 2 ^ i else 0 := by
  refine Nat.eq_of_testBit_eq fun j => ?_
  rw [Nat.testBit_and, Nat.testBit_two_pow]
  by_cases e : i = j
  · subst e
    cases h : r.testBit i
    · simp
    · simp [Nat.testBit_two_pow]
  · have e2 : decide (i = j) = false := decide_eq_false e
    rw [e2, Bool.and_false]
    split
    · rw [Nat.testBit_two_pow, e2]
    · simp
theorem bit5 {r : Nat} : 32 &&& r = 32 ↔ r.testBit 5 = true := by
  have e : (32 : Nat) &&& r = if r.testBit 5 = true then 32 else 0 := by rw [Nat.and_comm]; exact and_p r 5
  rw [e]
  cases r.testBit 5 <;> simp
theorem bit3 {r : Nat} : 8 &&& r = 8 ↔ r.testBit 3 = true := by
  have e : (8 : Nat) &&& r = if r.testBit 3 = true then 8 else 0 := by rw [Nat.and_comm]; exact and_p r 3
  rw [e]
  cases r.testBit 3 <;> simp
theorem bit3n {r : Nat} : r &&& 8 ≠ 0 ↔ r.testBit 3 = true := by
  have e : r &&& 8 = if r.testBit 3 = true then 8 else 0 := and_p r 3
  rw [e]
  cases r.testBit 3 <;> simp
theorem hasP_bit {r : Nat} : hasP r = true ↔ r.testBit 5 = true := by
  unfold hasP
  have e : r &&& 32 = if r.testBit 5 = true then 32 else 0 := and_p r 5
  rw [decide_eq_true_iff, e]
  cases r.testBit 5 <;> simp
theorem SubR.bit {x y : Nat × Nat} (h : SubR x y) {b : Nat} (hb : x.2.testBit b = true) : y.2.testBit b = true := by
  have e := h.2
  rw [← e, Nat.testBit_and, Bool.and_eq_true] at hb
  exact hb.2
theorem SubR.wi {f : Nat → Nat} {x y : Nat × Nat} (h : SubR x y) (w : Wi f y) : Wi f x := fun b hb => by
  rw [h.1]; exact w b (h.bit hb)
/-- what is known of all that can come -/
structure Lim (S : List Str) (T : Str) (n0 : Nat) (F R : Nat → Nat) (Op : Nat → Prop) (m : Mo) : Prop where
  n : n0 ≤ m.nth
  f1 : ∀ d, (F d).testBit 3 = true → Op d
  f2 : ∀ d b, (F d).testBit b = true → (R d).testBit b = true
  ac : ∀ s x, RunT m s → s ∉ S → Sl m s x → x.1 < n0 → (x.2.testBit 5 = true → Wi F x) ∧ (x.2.testBit 3 = true → Op x.1) ∧ (s = T → Wi R x)
  st : T ∈ S → ∀ x, RunT m T → Sl m T x → x.1 < n0 → Wi R x
  dp : ∀ i x, Dp m i x → x.1 < n0 → (i < n0 → Op i → (x.2.testBit 5 = true → Wi F x) ∧ (x.2.testBit 3 = true → Op x.1) ∧ (T ∉ S → (R i).testBit 3 = true → Wi R x)) ∧ (n0 ≤ i → Wi F x)
section
variable {S : List Str} {T : Str} {n0 : Nat} {F R : Nat → Nat} {Op : Nat → Prop} {m m' : Mo} {t : Str}
theorem Lim.fx (h : Lim S T n0 F R Op m) {x : Nat × Nat} (w : Wi F x) : (x.2.testBit 3 = true → Op x.1) ∧ Wi R x :=
  ⟨fun hb => h.f1 _ (w 3 hb), fun b hb => h.f2 _ _ (w b hb)⟩
theorem Lim.step (h : Lim S T n0 F R Op m) (s : Step m m' t) (ht : RunT m t) (hS : t ∉ S) : Lim S T n0 F R Op m' := by
  refine ⟨Nat.le_trans h.n s.nth, h.f1, h.f2, fun a x hr ha hx hn => ?_, fun hT x hr hx hn => ?_, fun i x hx hn => ?_⟩
  · rcases s.sl a x hx with h1 | ⟨_, h2, _⟩ | ⟨y, h1, h2, h3⟩ | ⟨h0, e, h1, h2, h3⟩
    · rcases s.rn a hr with h2 | h2
      · exact h.ac a x h2 ha h1 hn
      · exact absurd h1.1 h2
    · have := h.n; omega
    · have hy : y.1 < n0 := by rw [← h2.1]; exact hn
      obtain ⟨p1, p2, p3⟩ := h.ac t y ht hS h1 hy
      rcases h3 with rfl | h3
      · exact ⟨fun hb => h2.wi (p1 (h2.bit hb)), fun hb => by rw [h2.1]; exact p2 (h2.bit hb), fun e => h2.wi (p3 e)⟩
      · have w := h2.wi (p1 (bit5.mp h3))
        exact ⟨fun _ => w, (h.fx w).1, fun _ => (h.fx w).2⟩
    · subst h0
      obtain ⟨d1, d2⟩ := h.dp e.1 x h3 hn
      by_cases he : e.1 < n0
      · obtain ⟨p1, p2, p3⟩ := h.ac a e ht hS h1 he
        obtain ⟨q1, q2, q3⟩ := d1 he (p2 (bit3.mp h2))
        exact ⟨q1, q2, fun z => q3 (by rw [← z]; exact hS) (p3 z 3 (bit3.mp h2))⟩
      · have w := d2 (by omega)
        exact ⟨fun _ => w, (h.fx w).1, fun _ => (h.fx w).2⟩
  · have nt : T ≠ t := fun z => hS (z ▸ hT)
    rcases s.sl T x hx with h1 | ⟨h2, _⟩ | ⟨y, h1, h2, h3⟩ | ⟨h0, _⟩
    · rcases s.rn T hr with h2 | h2
      · exact h.st hT x h2 h1 hn
      · exact absurd h1.1 h2
    · exact absurd h2 nt
    · have hy : y.1 < n0 := by rw [← h2.1]; exact hn
      rcases h3 with h3 | h3
      · exact absurd h3 nt
      · exact (h.fx (h2.wi ((h.ac t y ht hS h1 hy).1 (bit5.mp h3)))).2
    · exact absurd h0 nt
  · rcases s.dp i x hx with h1 | ⟨y, h1, h2, h3⟩
    · exact h.dp i x h1 hn
    · have hy : y.1 < n0 := by rw [← h3.1]; exact hn
      have w := h3.wi ((h.ac t y ht hS h1 hy).1 (bit5.mp h2))
      exact ⟨fun _ _ => ⟨fun _ => w, (h.fx w).1, fun _ _ => (h.fx w).2⟩, fun _ => w⟩
end
/-- what passed_on finds: for each acting task what it might have -/
structure PO (m : Mo) (acting : List Str) (p0 fs : PL) (ML : List (Str × PL)) : Prop where
  ok : DOk m.nth fs
  pa : ∀ Y, Y ∈ acting → ∀ n, n ∈ numsOf m Y → hasP (m.row n).rights = true → Wi (look p0) ((m.row n).thing, (m.row n).rights)
  ne : ∀ t b, (look p0 t).testBit b = true → ∃ Y, Y ∈ acting
  sub : ∀ t b, (look p0 t).testBit b = true → (look fs t).testBit b = true
  al : ∀ Y, Y ∈ acting → ∃ ms, (Y, ms) ∈ ML
  ml : ∀ Y ms, (Y, ms) ∈ ML → MH m Y p0 ms ∧ ∀ n, n ∈ heard m ms → hasP (m.row n).rights = true → Wi (look fs) ((m.row n).thing, (m.row n).rights)
  ex : ∀ t b, (look fs t).testBit b = true → (look p0 t).testBit b = true ∨ ∃ Y ms n, (Y, ms) ∈ ML ∧ n ∈ heard m ms ∧ (m.row n).thing = t ∧ (m.row n).rights.testBit b = true
/-- what could answers -/
def CouldR (m : Mo) (S : List Str) (T : Str) (R : PL) : Prop := ∃ p0 fs ML, PO m ((runL m).filter fun s => decide (s ∉ S)) p0 fs ML ∧ (∀ t b, (look (own m T) t).testBit b = true → (look R t).testBit b = true) ∧ (∀ t b, (look fs t).testBit b = true → (look R t).testBit b = true) ∧
  (T ∉ S → ∀ n, n ∈ heard m R → ∀ b, (m.row n).rights.testBit b = true → (look R (m.row n).thing).testBit b = true)
theorem mem_nums {m : Mo} {s : Str} {n : Nat} (hl : (m.task s).rows.length = 16) (h : some n ∈ (m.task s).rows) : n ∈ numsOf m s := by
  obtain ⟨i, hi, e⟩ := List.getElem_of_mem h
  unfold numsOf slotsOf
  refine List.mem_map.mpr ⟨(i, n), List.mem_filterMap.mpr ⟨i, List.mem_range.mpr (by omega), ?_⟩, rfl⟩
  rw [List.getElem?_eq_getElem hi, e]
  rfl
theorem nums_mem {m : Mo} {s : Str} {n : Nat} (h : n ∈ numsOf m s) : some n ∈ (m.task s).rows := by
  unfold numsOf slotsOf at h
  obtain ⟨p, hp, rfl⟩ := List.mem_map.mp h
  obtain ⟨i, _, e⟩ := List.mem_filterMap.mp hp
  cases eo : (m.task s).rows[i]? with
  | none => rw [eo] at e; cases e
  | some o =>
    rw [eo] at e
    cases o with
    | none => cases e
    | some k => cases e; exact List.mem_of_getElem? eo
theorem own_bit {m : Mo} {s : Str} {t b : Nat} : (look (own m s) t).testBit b = true ↔ ∃ n, n ∈ numsOf m s ∧ (m.row n).thing = t ∧ (m.row n).rights.testBit b = true := by
  unfold own
  rw [bit_addAll]
  constructor
  · rintro (h | ⟨q, hq, e, h⟩)
    · simp [look_nil] at h
    · unfold hsOf at hq
      obtain ⟨n, hn, rfl⟩ := List.mem_map.mp hq
      exact ⟨n, hn, e, h⟩
  · rintro ⟨n, hn, e, h⟩
    exact .inr ⟨((m.row n).thing, (m.row n).rights), List.mem_map.mpr ⟨n, hn, rfl⟩, e, h⟩
theorem sl_own {m : Mo} (W : Wf m) {s : Str} {x : Nat × Nat} (h : Sl m s x) : ∃ n, n ∈ numsOf m s ∧ (m.row n).thing = x.1 ∧ (m.row n).rights = x.2 := by
  obtain ⟨hs, n, hn, e1, e2⟩ := h
  exact ⟨n, mem_nums (W.bd.rws s hs) hn, e1, e2⟩
theorem dp_heard {m : Mo} {i : Nat} {x : Nat × Nat} {ms : PL} (h : Dp m i x) (hb : (look ms i).testBit 3 = true) : ∃ n, n ∈ heard m ms ∧ (m.row n).thing = x.1 ∧ (m.row n).rights = x.2 := by
  obtain ⟨hi, ls, l, n, h1, h2, h3, h4, h5, h6⟩ := h
  refine ⟨n, ?_, h5, h6⟩
  unfold heard
  refine List.mem_flatMap.mpr ⟨i, List.mem_range.mpr hi, ?_⟩
  unfold heardAt
  rw [h1]
  show n ∈ (if look ms i &&& 8 ≠ 0 then ls.flatMap fun l => l.parts.filter fun n => decide (n ∈ m.keys) else [])
  rw [if_pos (bit3n.mpr hb)]
  exact List.mem_flatMap.mpr ⟨l, h2, List.mem_filter.mpr ⟨h3, by simpa using h4⟩⟩
theorem CouldR.lim {m : Mo} {S : List Str} {T : Str} {R : PL} (W : Wf m) (h : CouldR m S T R) : ∃ F Op, Lim S T m.nth F (look R) Op m := by
  obtain ⟨p0, fs, ML, po, h1, h2, h3⟩ := h
  have act : ∀ s, RunT m s → s ∉ S → s ∈ (runL m).filter fun s => decide (s ∉ S) := fun s hr hs => List.mem_filter.mpr ⟨List.mem_filter.mpr ⟨hr.1, hr.2⟩, by simpa using hs⟩
  refine ⟨look fs, fun d => ∃ Y ms, (Y, ms) ∈ ML ∧ (look ms d).testBit 3 = true, Nat.le_refl _, fun d hd => ?_, h2, fun s x hr hs hx hn => ?_, fun hT x hr hx hn => ?_, fun i x hx hn => ⟨fun hi ⟨Y, ms, hml, hb⟩ => ?_, fun hi => ?_⟩⟩
  · rcases po.ex d 3 hd with e | ⟨Y, ms, n, hml, hn, rfl, hb⟩
    · obtain ⟨Y, hY⟩ := po.ne d 3 e
      obtain ⟨ms, hml⟩ := po.al Y hY
      exact ⟨Y, ms, hml, (po.ml Y ms hml).1.pas d 3 e⟩
    · exact ⟨Y, ms, hml, (po.ml Y ms hml).1.cl n hn 3 hb⟩
  · obtain ⟨n, hn', e1, e2⟩ := sl_own W hx
    have ha := act s hr hs
    refine ⟨fun hb b hb' => ?_, fun hb => ?_, fun e b hb => ?_⟩
    · have := po.pa s ha n hn' (hasP_bit.mpr (by rw [e2]; exact hb)) b (by rw [e2]; exact hb')
      rw [← e1]
      exact po.sub _ _ this
    · obtain ⟨ms, hml⟩ := po.al s ha
      exact ⟨s, ms, hml, (po.ml s ms hml).1.own _ _ (own_bit.mpr ⟨n, hn', e1, by rw [e2]; exact hb⟩)⟩
    · subst e
      exact h1 _ _ (own_bit.mpr ⟨n, hn', e1, by rw [e2]; exact hb⟩)
  · obtain ⟨n, hn', e1, e2⟩ := sl_own W hx
    exact fun b hb => h1 _ _ (own_bit.mpr ⟨n, hn', e1, by rw [e2]; exact hb⟩)
  · obtain ⟨n, hn', e1, e2⟩ := dp_heard hx hb
    obtain ⟨mh, hf⟩ := po.ml Y ms hml
    refine ⟨fun h5 b hb' => ?_, fun h8 => ⟨Y, ms, hml, ?_⟩, fun hT hR b hb' => ?_⟩
    · have := hf n hn' (hasP_bit.mpr (by rw [e2]; exact h5)) b (by rw [e2]; exact hb')
      rw [← e1]; exact this
    · rw [← e1]; exact mh.cl n hn' 3 (by rw [e2]; exact h8)
    · obtain ⟨n2, hn2, e3, e4⟩ := dp_heard hx hR
      rw [← e3]; exact h3 hT n2 hn2 b (by rw [e4]; exact hb')
  · have := hx.1; omega
/-- what it can is within what it could -/
theorem Lim.can {S : List Str} {T : Str} {n0 : Nat} {F R : Nat → Nat} {Op : Nat → Prop} {m : Mo} (h : Lim S T n0 F R Op m) (hr : RunT m T) {i : Nat} (hi : i < n0) : look (own m T) i &&& R i = look (own m T) i := by
  refine Nat.eq_of_testBit_eq fun b => ?_
  rw [Nat.testBit_and]
  cases hb : (look (own m T) i).testBit b with
  | false => rfl
  | true =>
    obtain ⟨n, hn, e1, e2⟩ := own_bit.mp hb
    have hx : Sl m T (i, (m.row n).rights) := ⟨hr.1, n, nums_mem hn, e1, rfl⟩
    have w : Wi R (i, (m.row n).rights) := by
      by_cases hT : T ∈ S
      · exact h.st hT _ hr hx hi
      · exact (h.ac T _ hr hT hx hi).2.2 rfl
    rw [w b e2]; rfl
/-- the same at that moment -/
theorem CouldR.can {m : Mo} {S : List Str} {T : Str} {R : PL} (h : CouldR m S T R) {i : Nat} : look (own m T) i &&& look R i = look (own m T) i := by
  obtain ⟨p0, fs, ML, po, h1, h2, h3⟩ := h
  refine Nat.eq_of_testBit_eq fun b => ?_
  rw [Nat.testBit_and]
  cases hb : (look (own m T) i).testBit b with
  | false => rfl
  | true => rw [h1 i b hb]; rfl
end Pk
end
/-! PkLcx -/
section
set_option maxHeartbeats 4000000
namespace Pk
open PySem PySem.Spec PyProof.Rows L2
/-! ### a list or a tuple, walked -/
def iSeq (K : PySem.W.Frag) (tl : TE) : TI := fun σ H R => tl σ H fun x H1 => ∃ a, x = .ref a ∧ ((∃ xs, SqL K H1 a xs ∧ R (Itl K a) H1) ∨ (∃ xs, SqT K H1 a xs ∧ R (Itt K a) H1))
theorem pi_seq {X : Cx} {tg l : Expr} {tl : TE} (hl : PE X l tl) : PI X tg l (iSeq X.K tl) := by
  refine ⟨fun pins s σ H R I h => thn (hl.run pins s σ H _ I h) fun v s1 ⟨x, H1, I1, r1, a, e, q⟩ => ?_⟩
  subst e
  cases r1
  have fp : ∀ b ∈ [s1.heap.objs.size], FpOk X pins H1 b := fun b hb => by
    rw [List.mem_singleton.mp hb]
    exact I1.fpOk (Nat.le_refl _) (I1.hok.fresh (Nat.le_refl _))
  rcases q with ⟨xs, hq, q⟩ | ⟨xs, hq, q⟩
  · obtain ⟨its, _, p, _⟩ := I1.list hq
    exact wpAny_pyIter_list p.isList ⟨_, _, _, _, H1, rfl, I1.kept (t' := s1.toks) fun b o e => Heap.get?_push_of_some _ e, turn_list a _, ⟨_, Heap.get?_push_size _ rfl, rfl, rfl⟩, fp, q⟩
  · obtain ⟨its, _, p, _⟩ := I1.tuple hq
    exact wpAny_pyIter_tuple (show s1.heap.IsTuple a its.toArray from p) ⟨_, _, _, _, H1, rfl, I1.kept (t' := s1.toks) fun b o e => Heap.get?_push_of_some _ e, turn_tuple a _, ⟨_, Heap.get?_push_size _ rfl, rfl, rfl⟩, fp, q⟩
/-! ### an exception out of a comprehension's element -/
theorem traced_but {h h' B : Heap} {e C : Addr} {Z : Obj → Prop} {fl : Value} {m : Str → Option Value} (x : HandSPX.TracedZ h B e Z fl) (hn : h.Ns C m) (hs : Heap.SameBut C h h') : HandSPX.TracedZ h' B e Z fl := by
  obtain ⟨oe, vs, T, oT, ts, he, hz, hd, h1, hnT, hTe, hT, hdT, h3⟩ := x
  obtain ⟨oC, es, ep, hoC, hdC, _⟩ := hn
  have ne : e ≠ C := fun z => by rw [z, hoC] at he; cases he; rw [hdC] at hd; cases hd
  have nT : T ≠ C := fun z => by rw [z, hoC] at hT; cases hT; rw [hdC] at hdT; cases hdT
  exact ⟨oe, vs, T, oT, ts, (hs.2 e ne).trans he, hz, hd, h1, hnT, hTe, (hs.2 T nT).trans hT, hdT, h3⟩
theorem traced_less {h B B' : Heap} {e : Addr} {Z : Obj → Prop} {fl : Value} (k : ∀ b, B.get? b = none → B'.get? b = none) (x : HandSPX.TracedZ h B e Z fl) : HandSPX.TracedZ h B' e Z fl := by
  obtain ⟨oe, vs, T, oT, ts, he, hz, hd, h1, hnT, r⟩ := x
  exact ⟨oe, vs, T, oT, ts, he, hz, hd, h1, k T hnT, r⟩
section
variable {X : Cx} {W : WX} {E : XK} {pins : List (Addr × Obj)} {σ : L2.St} {H : Hp} {s s' : Shared} {u : Value} {cenv : Env}
theorem block_raise (J : Inv X pins σ H s) (c : CX X.prog X.w X.stack H s E u s') (hW : ∀ cls d H', E cls d H' → W cls d σ H') (tk : Takes X W) (hst : X.stack = X.env :: X.outer) (hf : X.env.frame = some X.env.locals) (hcf : cenv.frame = X.env.frame)
    (hfp : FpOk X [] H cenv.locals) (hns : ∃ m, s.heap.Ns cenv.locals m) : notedBy (model X.prog X.w) X.A cenv (CompFails (model X.prog X.w) X.A X.xe cenv) u s' := by
  obtain ⟨C, hC⟩ : ∃ C, C = cenv.locals := ⟨_, rfl⟩
  rw [← hC] at hfp hns
  obtain ⟨f0, f1, f2, f3, f4, f5⟩ := hfp
  have nst : C ∉ frs X.stack := fun z => (List.mem_cons.mp (J.stkSub C z)).elim f1 f2
  -- the block's names behind the call
  obtain ⟨mC, hmC⟩ := hns
  have hns' : s'.heap.Ns C mC ∧ CX X.prog X.w X.stack H s (fun cls d H' => E cls d H' ∧ H' C = none) u s' := by
    obtain ⟨a, B, H', cls, d, e, fl, hok, ub, na, os, ag, hE⟩ := c
    obtain ⟨oC, es, ep, hoC, hdC, r⟩ := hmC
    exact ⟨⟨oC, es, ep, fl.1 _ _ (ub.keep C oC hoC f0 nst), hdC, r⟩, a, B, H', cls, d, e, fl, hok, ub, na, os, ag, hE, ub.free C oC hoC f0⟩
  obtain ⟨hns', c'⟩ := hns'
  obtain ⟨a, B, sI, pins', σ', H', cls, d, rfl, I, nb, up, sky, na, os, ag, w, hnC⟩ := XE.of_call (W := fun cls d σ H => W cls d σ H ∧ H C = none) J (fun cls d H' h => ⟨hW cls d H' h.1, h.2⟩) c'
  have I0 : Inv X [] σ' H' sI := Inv.unpinned (pins := []) (pl := pins') I
  obtain ⟨B1, b1, b2⟩ := restrict B fun b => decide (b ≠ C)
  obtain ⟨G, g1, g2⟩ := restrict sI.heap fun b => decide (b ≠ C)
  have bs : ∀ b o, B1.get? b = some o → b ≠ C ∧ B.get? b = some o := fun b o e => by
    by_cases z : b = C
    · rw [b2 b (by simp [z])] at e; cases e
    · exact ⟨z, by rw [b1 b (by simp [z])] at e; exact e⟩
  have gs : ∀ b o, G.get? b = some o → b ≠ C ∧ sI.heap.get? b = some o := fun b o e => by
    by_cases z : b = C
    · rw [g2 b (by simp [z])] at e; cases e
    · exact ⟨z, by rw [g1 b (by simp [z])] at e; exact e⟩
  have bn : ∀ b, B.get? b = none → B1.get? b = none := fun b e => by
    cases q : B1.get? b with
    | none => rfl
    | some o => rw [(bs b o q).2] at e; cases e
  have I1 : Inv X [] σ' H' { sI with heap := G, toks := sI.toks } := I0.turned (it := C) (fun b o hb e => by rw [g1 b (by simp [hb])]; exact e) hnC f1 f3 f4 f5
  have hfr : X.A.frames = some (X.env :: X.outer) := by rw [I0.ok.frames, hst]
  have ff : ∀ {h : Heap}, h.FunFrames B X.stack → h.FunFrames B1 X.stack := fun {h} hl => funFrames_none hl fun b hb => bn b (hl.mem hb).1
  rw [hst] at sky ff
  have fin : ∀ h1, HandSPX.HeldZ B1 (X.env :: X.outer) a (Zc cls d) X.env.locals h1 → s'.heap.UpToSlots h1 → CompFails (model X.prog X.w) X.A X.xe cenv (.ref a) { s' with heap := h1 } := fun h1 hh up1 => by
    refine ⟨mC, by rw [← hC]; exact up1.ns hns', fun h2 m2 hn2 sb => ?_⟩
    rw [← hC] at hn2 sb
    obtain ⟨k1, k2, k3, k4⟩ := hh
    have k1' : B1.StaysIn h2 := fun b o e => (sb.2 b (bs b o e).1).trans (k1 b o e)
    have k3' := Heap.FunFrames.sameBut sb hn2 k3
    have k4' := traced_but k4 (up1.ns hns') sb
    obtain ⟨oe, vs, T, oT, ts, he, hz, hd, hv1, r⟩ := id k4'
    unfold PySem.passOn
    refine wpAny_bind (wpAny_field he hd hv1 ?_)
    rw [if_neg (show ¬ ((Value.ref T == Value.none) = true) from by simp), hcf, hf]
    refine wpAny_bind (HandSPX.setFlight_onZ (l := X.env :: X.outer) ⟨k1', k2, k3', k4'⟩ fun h3 hh3 up3 => wpAny_throw (tk _ _ ?_))
    refine ⟨a, B1, { sI with heap := G, toks := sI.toks }, [], σ', H', cls, d, rfl, I1, fun b o e hb => ?_, fun b o e hnf => ?_, .inr (.inr (by rw [hst]; exact hh3)), na, os, ag, w⟩
    · obtain ⟨z, e'⟩ := gs b o e
      rw [b1 b (by simp [z])]
      exact nb b o e' hb
    · obtain ⟨z, e'⟩ := gs b o e
      obtain ⟨sl1, e1⟩ := up b o e' hnf
      obtain ⟨sl2, e2⟩ := up1 b _ e1 hnf
      obtain ⟨sl3, e3⟩ := up3 b _ ((sb.2 b z).trans e2) hnf
      exact ⟨sl3, e3⟩
  show wpAny (model X.prog X.w) X.A (noteFrame (.ref a) cenv) _ _ _
  have hne : noteFrame (.ref a) cenv = noteFrame (.ref a) X.env := by
    unfold noteFrame PySem.frameOf
    rw [hcf]
  rw [hne]
  rcases sky with ⟨hB, hn, hl, oe, vs, he0, hz, hd, hv1⟩ | ⟨k1, k2, k3, k4⟩ | ⟨k1, k2, k3, k4⟩
  · exact HandSPX.look_newZ Zc.steady hfr (ff hl) hf he0 (fun b o e => hB b o (bs b o e).2) (bn a hn) hd hv1 hz fin
  · exact HandSPX.looks_onZ Zc.steady hfr hf ⟨fun b o e => k1 b o (bs b o e).2, bn a k2, ff k3, traced_less bn k4⟩ fin
  · exact HandSPX.againZ hf k4 (fin s'.heap ⟨fun b o e => k1 b o (bs b o e).2, bn a k2, ff k3, traced_less bn k4⟩ (Heap.UpToSlots.refl _))
end
/-! ### the block whose element calls what may raise -/
theorem Cx.Ok.xe {X : Cx} {xe : Value → Shared → Prop} (o : X.Ok) : Cx.Ok { X with xe := xe } :=
  ⟨o.mod, o.kind, o.glob, o.blt, o.above, o.inj, o.has, o.cab, o.hd, o.frames, o.stk, o.exf, o.bs, o.bsz, o.noex, o.exfs, o.funs, o.frf⟩
theorem inv_xe {X : Cx} {xe : Value → Shared → Prop} {pins : List (Addr × Obj)} {σ : L2.St} {H : Hp} {s : Shared} (I : Inv X pins σ H s) : Inv { X with xe := xe } pins σ H s :=
  ⟨Pk.Cx.Ok.xe I.ok, I.os, I.bare, I.base, I.loc, I.cell, I.free, I.freeC, I.pin, I.hok, I.len⟩
theorem inv_xe' {X : Cx} {xe : Value → Shared → Prop} {pins : List (Addr × Obj)} {σ : L2.St} {H : Hp} {s : Shared} (I : Inv { X with xe := xe } pins σ H s) : Inv X pins σ H s :=
  ⟨let o := I.ok; ⟨o.mod, o.kind, o.glob, o.blt, o.above, o.inj, o.has, o.cab, o.hd, o.frames, o.stk, o.exf, o.bs, o.bsz, o.noex, o.exfs, o.funs, o.frf⟩, I.os, I.bare, I.base, I.loc, I.cell, I.free, I.freeC, I.pin, I.hok, I.len⟩
/-- what comes out of a call in the block -/
def outX (X : Cx) (W : WX) (σ0 : L2.St) (B : Cx) : Value → Shared → Prop := fun e s' => ∃ pins σ H s, Inv B pins σ H s ∧ CX X.prog X.w X.stack H s (fun cls d H' => W cls d σ0 H') e s'
def blkX (X : Cx) (W : WX) (σ0 : L2.St) (scope : Scope) (z : Zi) : Cx := { blkZ X scope z with xe := outX X W σ0 (blkZ X scope z) }
/-- a call in the block -/
def tWB (sp : Sp) (W : WX) (σ0 : L2.St) (t : TA) : TE := fun σ H Q => t σ H fun vs H1 => sp vs H1 Q (WE W σ0)
theorem pe_fB {Y X : Cx} {scope : Scope} {z : Zi} {W : WX} {σ0 : L2.St} {k : Nat} {f : Addr} {sp : Sp} {x : Str} {p pos : Pos} {e : Expr} {es : List Expr} {t : TA} (hY : Y = blkX X W σ0 scope z) (F : FnR X.prog X.w X.K X.mg X.base (L2.CX X.prog X.w) k f sp) (hr : Room k X.A) (hg : Gl Y x) (hm : X.mg x = some (.ref f)) (hk : PySem.W.keepIn X.K (.ref f) = true)
    (ha : PA Y (e :: es) t) (hdb : (x == ("__debug__" : Str)) = false := by decide) (he : starEach (e :: es) Y.env = (false, eval e Y.env) :: starEach es Y.env := by rfl)
    (hpl : (backTo pos (starEach es Y.env)).any (·.1) = false := by rfl) : PE Y (.Call (.Name x p) (e :: es) [] pos) (tWB sp W σ0 t) := by
  subst hY
  refine ⟨fun pins s σ H Q I h => wpAny_Call_Name_kw (ld_glob I hg hm (PySem.W.callWith_K (h₀ := X.base) I.ok.mod.kin hk
    (thn (ha.run pos pins s σ H _ I h) fun us s1 ⟨vs, H1, I1, r, q⟩ => ⟨I1.kIn, ?_⟩) he hpl) hdb)⟩
  refine wpAny_call (codeAny_mono (F X.A X.stack s1 H1 us vs Q (WE W σ0) hr I1.env0 r q) fun res s' hq => ?_)
  match res, hq with
  | .error e, hq => exact ⟨pins, σ, H1, s1, inv_xe' I1, hq⟩
  | .ok (.ret u), hq => exact I1.after hq
  | .ok .next, hq => exact False.elim hq
  | .ok .brk, hq => exact False.elim hq
  | .ok .cont, hq => exact False.elim hq
def tLcX (wi : TI) (g : Zi → TG) (tt : Zi → TT) (te : Zi → L2.St → TE) (vs : List Nat) : TE := fun σ H Q => wi σ H fun J H1 => LcB J g tt (fun z => te z σ) vs σ H1 Q
section
variable {X : Cx} {W : WX}
theorem lcx_core {pins : List (Addr × Obj)} {s : Shared} {σ : L2.St} {H : Hp} {Q : VK} {elt tg iter : Expr} {ifs : List Expr} {scope : Scope} {own : List (Str × Nat)} {pos pos' : Pos} {wi : TI} {g : Zi → TG} {tt : Zi → TT} {te : Zi → L2.St → TE} {use : Option (Value → Sem Unit)} {Qf : Value → Shared → Prop}
    (tk : Takes X W) (hst : X.stack = X.env :: X.outer) (hf : X.env.frame = some X.env.locals) (hc : X.calm = true) (hN : X.N.Nodup) (I : Inv X pins σ H s) (hi : PI X tg iter wi) (ok : BlkOk X.N X.env.scope scope own)
    (hg : ∀ z : Zi, PG (blkZ X scope z) tg (g z)) (ht : ∀ z : Zi, PTs (blkZ X scope z) ifs (tt z)) (he : ∀ z : Zi, PE (blkX X W σ scope z) elt (te z σ)) (hs : ∀ x, foldedSetIterable iter X.env x = pure x) (h : tLcX wi g tt te (own.map (·.2)) σ H Q)
    (hRR : ∀ D s' m H' (ce : Env), Inv X pins σ H' s' → Q (.ref D) H' → s'.heap.Ns ce.locals m → FpOk X pins H' ce.locals → compEnds (model X.prog X.w) X.A X.xe use Qf (.ref D) ce (.ok .next) s') :
    wpAny (model X.prog X.w) X.A (comprehension (.ListComp elt [⟨tg, iter, ifs, 0⟩] scope pos) scope X.env pos' (newList []) false (eval iter X.env) use) Qf X.xe s := by
  have hfree : ∀ y ∈ scope.names, y.2 = .free → ∃ c, X.env.cells.lookup y.1 = some c := fun y hy e => (ok.free y hy e).elim (fun k => I.ok.has _ (.inl k)) fun k => I.ok.has _ (.inr k)
  refine comprehension_at (use := use) rfl hs (closure_ok hfree) ok.kind (fun y hy e => by rw [ok.uniq y hy, e]) (thn (hi.run pins s σ H _ I h) fun xv s1 hx => thn hx fun itv s2 h2 => ?_)
  obtain ⟨it, fp, tn, J, H2, e, I2, T, st2, f2, q⟩ := h2
  subst e
  refine wpAny_newObj_type (newEnv_comp ?_) (Nat.zero_le sizeLine)
  obtain ⟨D, hD⟩ : ∃ D, D = s2.heap.objs.size := ⟨_, rfl⟩
  rw [← hD]
  obtain ⟨wW, ⟨m0, w0⟩, turn⟩ := q D (I2.hok.fresh (Nat.le_of_eq hD.symm))
  obtain ⟨s3, e3⟩ : ∃ s3 : Shared, s3 = { s2 with heap := s2.heap.push { cls := .type "list", data := .seq ([] : List Value).toArray } } := ⟨_, rfl⟩
  rw [← e3]
  have I3 : Inv X pins σ (upd H2 D (.lst [])) s3 := by
    rw [e3]
    exact I2.laid (t' := s2.toks) (fun b o z => Heap.get?_push_of_some _ z) (Nat.le_of_eq hD.symm) ⟨Nat.zero_le _, [], 0, .nil, by rw [hD]; exact Heap.get?_push_size _ rfl⟩
  have h3 : s3.heap = s2.heap.push { cls := .type "list", data := .seq ([] : List Value).toArray } := by rw [e3]
  have sz : ∀ b ∈ fp, b < s2.heap.objs.size := fun b hb => let ⟨o, z, _⟩ := T.obj _ _ st2 b hb; Heap.lt_size z
  have f3 : ∀ b ∈ fp, FpOk X pins (upd H2 D (.lst [])) b ∧ b < s3.heap.objs.size := fun b hb => by
    have hlt := sz b hb
    exact ⟨⟨by rw [upd_ne (by rw [hD]; exact Nat.ne_of_lt hlt)]; exact (f2 b hb).1, (f2 b hb).2⟩, by rw [h3, Heap.size_push]; exact Nat.lt_succ_of_lt hlt⟩
  have st3 : tn 0 s3.heap := T.keep _ _ _ st2 fun b _ o z => by rw [h3]; exact Heap.get?_push_of_some _ z
  have I4 := block_start I3 ok hN f3
  obtain ⟨z, ez⟩ : ∃ z : Zi, z = ⟨s3, upd H2 D (.lst []), s3.heap.objs.size, cellsFrom (s3.heap.objs.size + 1) scope.names (cloFrom X.env.cells scope.names []), fp⟩ := ⟨_, rfl⟩
  obtain ⟨ce, hce⟩ : ∃ ce, ce = compEnvC scope z.cl z.C X.env := ⟨_, rfl⟩
  obtain ⟨s4, e4⟩ : ∃ s4 : Shared, s4 = { s3 with heap := pushCells (s3.heap.push { cls := .type "dict", data := .dict #[] }) scope.names } := ⟨_, rfl⟩
  have cL : ce.locals = s3.heap.objs.size := by rw [hce, ez]; rfl
  have cF : ce.frame = X.env.frame := by rw [hce]; rfl
  have I5 : Inv (blkZ X scope z) [] (wipe σ (own.map (·.2))) (upd H2 D (.lst [])) s4 := by rw [ez, e4]; exact I4
  have bE : (blkZ X scope z).env = ce := hce.symm
  have bF : (blkZ X scope z).ex = fp := by rw [ez]; rfl
  have st4 : tn 0 s4.heap := T.keep _ _ _ st3 fun b _ o q => by rw [e4]; exact pushCells_keeps _ _ _ _ (Heap.get?_push_of_some _ q)
  have nfp : ∀ b ∈ fp, (upd H2 D (.lst [])) b = none := fun b hb => (f3 b hb).1.1
  -- the def's own state behind the block's
  have back : ∀ {pins' : List (Addr × Obj)} {σ' : L2.St} {H' : Hp} {s' : Shared}, Inv (blkZ X scope z) pins' σ' H' s' → Inv X pins σ H' s' ∧ FpOk X pins H' ce.locals ∧ ∃ m, s'.heap.Ns ce.locals m := fun {pins' σ' H' s'} I6 => by
    have nC : H' ce.locals = none := by rw [← bE]; exact I6.free
    obtain ⟨m, hn, _⟩ := I6.loc
    refine ⟨?_, by rw [cL] at nC ⊢; exact I3.fpOk (Nat.le_refl _) nC, m, by rw [← bE]; exact hn⟩
    have i1 := I6.os; have i2 := I6.base; have i3 := I6.hok; have i4 := I6.bare
    rw [ez] at i1 i2 i3
    exact I3.call' (ch := fp) i1 i2 i3 i4 fun b hb => ⟨(f3 b hb).1.2.2.2.1, (f3 b hb).1.2.1, (f3 b hb).1.2.2.2.2.1, (f3 b hb).1.2.2.2.2.2⟩
  have stat : ∀ {σ' : L2.St} {H' : Hp} {s' : Shared}, Inv (blkZ X scope z) [] σ' H' s' → (∀ b ∈ fp, H' b = none) → ∀ b ∈ fp, FpOk (blkZ X scope z) [] H' b := fun {σ' H' s'} I' hn b hb =>
    have hb' : b ∈ (blkZ X scope z).ex := by rw [bF]; exact hb
    ⟨hn b hb, (I'.ok.exf b hb').1, I'.ok.exfs b hb', .inl hb', fun x c q => (I'.ok.exf b hb').2 x c q, fun p hp => absurd (show p ∈ ([] : List (Addr × Obj)) ++ [] from hp) (by simp)⟩
  have loop : codeAny (model X.prog X.w) X.A (.compLoop (.ListComp elt [⟨tg, iter, ifs, 0⟩] scope pos) 0 (.ref it) (.ref D) ce) (compEnds (model X.prog X.w) X.A X.xe use Qf (.ref D) ce) s4 := by
    refine compLoop_any (fun n s' => ∃ i H', Inv (blkZ X scope z) [] (wipe σ (own.map (·.2))) H' s' ∧ tn i s'.heap ∧ (∀ b ∈ fp, H' b = none) ∧ wW i n H') ?_ m0 ⟨0, _, I5, st4, nfp, w0⟩
    rintro n s5 ⟨i, H5, I5, st5, n5, w5⟩
    rcases turn i n H5 w5 with ⟨stop, qq⟩ | ⟨go, Nx, hNx, step⟩
    · refine thnF (T.done (blkZ X scope z) rfl rfl rfl hc i [] s5 _ H5 (fun _ _ => False) I5 (stat I5 n5) st5 stop) fun r s6 ⟨hr, I6⟩ => ?_
      subst hr
      obtain ⟨I7, f7, m, hn⟩ := back I6
      exact hRR D s6 m H5 ce I7 qq hn f7
    · refine thnF (T.item (blkZ X scope z) rfl rfl rfl hc i [] s5 _ H5 (fun _ _ => False) I5 (stat I5 n5) st5 go) fun r s6 ⟨u, hr, h6⟩ => ?_
      subst hr
      refine thnF h6 fun _ s7 ⟨x, H7, I7, r7, y7, st7, n7⟩ => ?_
      have I7' := I7.pinned (stat I7 n7) (T.obj _ _ st7)
      have gr := (hg z).run _ s7 _ H7 x u _ I7' r7 (step x H7 y7 z)
      rw [bE] at gr
      refine thnF gr fun _ s8 ⟨σ8, H8, I8, hw8, q8⟩ => ?_
      have tr := (ht z).run _ s8 σ8 H8 _ I8 (q8 z)
      rw [bE] at tr
      refine thnF tr fun b s9 ⟨H9, I9, q9⟩ => ?_
      have fin : ∀ {s' : Shared} {H' : Hp}, Inv (blkZ X scope z) ([] ++ pinsAt fp s7.heap) σ8 H' s' → Nx H' → ∃ m, m < n ∧ ∃ i H', Inv (blkZ X scope z) [] (wipe σ (own.map (·.2))) H' s' ∧ tn i s'.heap ∧ (∀ b ∈ fp, H' b = none) ∧ wW i m H' := fun {s' H'} I' nx => by
        obtain ⟨m', hm, w'⟩ := hNx H' nx
        have pin' : ∀ b ∈ fp, ∀ o, s7.heap.get? b = some o → s'.heap.get? b = some o ∧ H' b = none := fun b hb o q =>
          let y := I'.pin (b, o) (List.mem_append_right _ (List.mem_append_right _ (mem_pinsAt hb q)))
          ⟨y.1, y.2.1⟩
        have hl : (wipe σ (own.map (·.2))).length = σ8.length := by rw [← hw8, wipe_length]
        refine ⟨m', hm, i + 1, H', (I'.unpinned (pins := [])).weak hl (fun j v q => ?_), T.keep _ _ _ st7 fun b hb o q => (pin' b hb o q).1, fun b hb => ?_, w'⟩
        · rw [← hw8] at q
          exact (wipe_some q).1
        · obtain ⟨o, q, _⟩ := T.obj _ _ st7 b hb
          exact (pin' b hb o q).2
      cases b with
      | false =>
        simp only [Bool.false_eq_true, if_false] at q9 ⊢
        exact fin I9 q9
      | true =>
        simp only [if_true] at q9 ⊢
        have er := (he z).run _ s9 σ8 H9 _ (inv_xe I9) (q9 z)
        have ee : (blkX X W σ scope z).env = ce := bE
        rw [ee] at er
        refine wpAny_mono er (fun v s10 ⟨yv, H10, I10, r10, acc, hD10, hz10, nx⟩ => ?_) fun e s' hx => ?_
        · exact wpAny_mono (app_ok (X := blkX X W σ scope z) (E := fun _ _ => False) I10 hD10 hz10 r10 fun s11 I11 => fin (inv_xe' I11) nx) (fun _ _ y => y) fun _ _ y => False.elim y
        · obtain ⟨pins', σ', H', sc, IB, c⟩ := hx
          obtain ⟨J1, ⟨j0, j1, j2, j3, j4, j5⟩, hns⟩ := back IB
          have kk := block_raise (cenv := ce) (W := W) J1 c (fun _ _ _ _ => ?_) tk hst hf cF ⟨j0, j1, j2, j3, j4, fun p hp => j5 p (by simp at hp; exact List.mem_append_left _ hp)⟩ hns
          · exact kk
          · assumption
  have goal := codeAny_compStart_list loop (T.self X.A 0 _ _ _ st4 loop)
  rw [hce, ez, e4] at goal
  exact goal
theorem ps_setLcX {i : Nat} {y : Str} {py : Pos} {elt tg iter : Expr} {ifs : List Expr} {scope : Scope} {own : List (Str × Nat)} {pos spos : Pos} {wi : TI} {g : Zi → TG} {tt : Zi → TT} {te : Zi → L2.St → TE} (tk : Takes X W) (hst : X.stack = X.env :: X.outer) (hf : X.env.frame = some X.env.locals) (hc : X.calm = true) (hN : X.N.Nodup) (hy : X.N[i]? = some y) (hyl : X.env.scope.names.lookup y = some .local)
    (hsw : swapsWith (.ListComp elt [⟨tg, iter, ifs, 0⟩] scope pos) (some (.Name y py)) spos.line X.env = pure true) (hi : PI X tg iter wi) (ok : BlkOk X.N X.env.scope scope own)
    (hg : ∀ z : Zi, PG (blkZ X scope z) tg (g z)) (ht : ∀ z : Zi, PTs (blkZ X scope z) ifs (tt z)) (he : ∀ (σ0 : L2.St) (z : Zi), PE (blkX X W σ0 scope z) elt (te z σ0)) (hs : ∀ x, foldedSetIterable iter X.env x = pure x := by intro _; rfl) :
    PS X (.Assign [.Name y py] (.ListComp elt [⟨tg, iter, ifs, 0⟩] scope pos) spos) (tAsg (tLcX wi g tt te (own.map (·.2))) (gName i)) := by
  refine ⟨fun pins s σ H D I h => ?_⟩
  rw [exec_Assign_Name_used _ _ _ _ hsw]
  refine wpAny_bind (wpAny_standAt (wpAny_bind ?_))
  show wpAny _ X.A (do let _ ← comprehension (.ListComp elt [⟨tg, iter, ifs, 0⟩] scope pos) scope X.env (firstIterPos [⟨tg, iter, ifs, 0⟩] pos) (newList []) false (eval iter X.env) (some (assign (.Name y py) X.env))) _ _ s
  have h : tLcX wi g tt te (own.map (·.2)) σ H (fun x H1 => gName i x σ H1 D.nx) := h
  refine wpAny_bind (thn (lcx_core (Qf := fun _ s' => SP X pins D .next s') tk hst hf hc hN I hi ok hg ht (he σ) hs h fun L s' m H' ce I' q hn f => ?_) fun _ s' hq => wpAny_pure (wpAny_pure hq))
  show wpAny _ _ (assign (.Name y py) X.env (.ref L)) _ _ _
  refine wpAny_assign_Name (store_ok2 (v := V.ref L) I' hN hy (.inl hyl) rfl (fun s2 I2 ⟨a, sb, ha⟩ => ?_) (.inr hyl))
  obtain ⟨f0, f1, f2, f3, f4, f5⟩ := f
  have haC : ce.locals ≠ a := ha.elim (fun z => by rw [z]; exact f1) fun z e => f4 y a z e.symm
  exact ⟨m, hn.sameBut sb haC, fun h3 sb3 => ⟨_, H', I2.turned (t' := s2.toks) (fun b o hb e => (sb3.2 b hb).trans e) f0 f1 f3 f4 f5, q⟩⟩
end
end Pk
end
/-! PkSeq -/
section
set_option maxHeartbeats 4000000
namespace Pk
open PySem PySem.Spec PyProof.Rows L2
theorem rd_al {H H' : Hp} {a : Addr} {o : HO} (n : nt o) (h : Rd H a o) (l : Al H H') : Rd H' a o := h.elim (fun e => .inl (l.keep _ _ e n)) fun ⟨ob, e⟩ => .inr ⟨ob, l.keep _ _ e (fun ps z => by cases z)⟩
/-- a list or a tuple -/
def SqA (K : PySem.W.Frag) (H : Hp) (a : Addr) (xs : List V) : Prop := SqL K H a xs ∨ SqT K H a xs
section
variable {K : PySem.W.Frag} {H H' : Hp} {a : Addr} {xs : List V}
theorem sqL_al (h : SqL K H a xs) (l : Al H H') : SqL K H' a xs := h.imp (fun r => rd_al (Pl.nt (o := .lst xs) trivial) r l) id
theorem sqT_al (h : SqT K H a xs) (l : Al H H') : SqT K H' a xs := h.imp (fun r => rd_al (Pl.nt (o := .tup xs) trivial) r l) id
theorem SqA.al (h : SqA K H a xs) (l : Al H H') : SqA K H' a xs := h.imp (fun r => sqL_al r l) fun r => sqT_al r l
/-- a loop over either -/
theorem for_seq {g : TG} {tb : TS} {D : Ends} {σ : L2.St} (hq : SqA K H a xs) (Pv : Nat → L2.St → Hp → Prop) (h0 : Pv 0 σ H) (hG : ∀ i σ H', i ≤ xs.length → Pv i σ H' → Al H H')
    (hs : ∀ i x σ H', xs[i]? = some x → Pv i σ H' → g x σ H' fun σ2 H2 => tb { D with nx := Pv (i + 1), ct := Pv (i + 1), bk := D.nx } σ2 H2) (hd : ∀ σ H, Pv xs.length σ H → D.nx σ H) {R : It → Hp → Prop}
    (hR : ∀ J H1, (∃ W : Nat → Nat → L2.St → Hp → Prop, (∃ m, W 0 m σ H1) ∧ ∀ i m σ H, W i m σ H →
      (J.stop i H ∧ D.nx σ H) ∨ (J.go i H ∧ ∃ N : L2.St → Hp → Prop, (∀ σ' H', N σ' H' → ∃ m', m' < m ∧ W (i + 1) m' σ' H') ∧ ∀ x H', J.yld i H x H' → g x σ H' fun σ2 H2 => tb { D with nx := N, ct := N, bk := D.nx } σ2 H2)) → R J H1) :
    (∃ xs, SqL K H a xs ∧ R (Itl K a) H) ∨ (∃ xs, SqT K H a xs ∧ R (Itt K a) H) := by
  rcases hq with hq | hq
  · exact .inl ⟨xs, hq, hR _ _ (for_it walk_list Pv h0 (fun i σ H' hi p => sqL_al hq (hG i σ H' hi p)) (fun i x σ H1 H2 hi p y => by obtain ⟨rfl, hx⟩ := y; exact hs i x σ _ hx p) hd)⟩
  · exact .inr ⟨xs, hq, hR _ _ (for_it walk_tup Pv h0 (fun i σ H' hi p => sqT_al hq (hG i σ H' hi p)) (fun i x σ H1 H2 hi p y => by obtain ⟨rfl, hx⟩ := y; exact hs i x σ _ hx p) hd)⟩
end
theorem lenA {K : PySem.W.Frag} {H : Hp} {a : Addr} {xs : List V} (h : SqA K H a xs) : LenV K (.ref a) H xs.length := h.imp (fun q => ⟨xs, q, rfl⟩) fun q => ⟨xs, q, rfl⟩
theorem seq_walk {K : PySem.W.Frag} {H : Hp} {a : Addr} {xs : List V} {R : It → Hp → Prop} (hq : SqA K H a xs) (h : ∀ (J : It) (G : Hp → Prop) (Y : Nat → Hp → V → Hp → Prop), Walk J xs.length G Y → (∀ H', Al H H' → G H') → (∀ i x H1 H2, Y i H1 x H2 → H2 = H1 ∧ xs[i]? = some x) → R J H) :
    (∃ xs, SqL K H a xs ∧ R (Itl K a) H) ∨ (∃ xs, SqT K H a xs ∧ R (Itt K a) H) := by
  rcases hq with hq | hq
  · exact .inl ⟨xs, hq, h _ _ _ walk_list (fun H' l => sqL_al hq l) fun i x H1 H2 y => y⟩
  · exact .inr ⟨xs, hq, h _ _ _ walk_tup (fun H' l => sqT_al hq l) fun i x H1 H2 y => y⟩
theorem seq_lc {K : PySem.W.Frag} {H : Hp} {a : Addr} {xs : List V} {g : Zi → TG} {tt : Zi → TT} {te : Zi → TE} {vs : List Nat} {σ : L2.St} {Q : VK} (hq : SqA K H a xs) (h : ∀ (J : It) (G : Hp → Prop) (Y : Nat → Hp → V → Hp → Prop), Walk J xs.length G Y → (∀ H', Al H H' → G H') → (∀ i x H1 H2, Y i H1 x H2 → H2 = H1 ∧ xs[i]? = some x) → LcB J g tt te vs σ H Q) :
    (∃ xs, SqL K H a xs ∧ LcB (Itl K a) g tt te vs σ H Q) ∨ (∃ xs, SqT K H a xs ∧ LcB (Itt K a) g tt te vs σ H Q) := seq_walk (R := fun J H1 => LcB J g tt te vs σ H1 Q) hq h
theorem LcB.weak {J : It} {g : Zi → TG} {tt : Zi → TT} {te : Zi → TE} {vs : List Nat} {σ : L2.St} {H1 : Hp} {Q Q' : VK} (h : LcB J g tt te vs σ H1 Q') (hq : ∀ D H, H1 D = none → Q' (.ref D) H → Q (.ref D) H) : LcB J g tt te vs σ H1 Q := fun D hD =>
  let ⟨W, w0, hw⟩ := h D hD
  ⟨W, w0, fun i m H w => (hw i m H w).imp (fun ⟨s, q⟩ => ⟨s, hq D H hD q⟩) id⟩
theorem LcB.fr {J : It} {g : Zi → TG} {tt : Zi → TT} {te : Zi → TE} {vs : List Nat} {σ : L2.St} {H1 : Hp} {Q : VK} (h : LcB J g tt te vs σ H1 fun v H => ∀ D, v = .ref D → H1 D = none → Q (.ref D) H) : LcB J g tt te vs σ H1 Q := h.weak fun D H hD q => q D rfl hD
/-- a comprehension that changes what stands -/
theorem lcM {J : It} {n : Nat} {G : Hp → Prop} {Y : Nat → Hp → V → Hp → Prop} (wk : Walk J n G Y) {g : Zi → TG} {tt : Zi → TT} {te : Zi → TE} {vs : List Nat} {σ : L2.St} {H1 : Hp} {Q : VK} (Pv : Addr → Nat → List V → Hp → Prop) (hn : n ≤ sizeLine)
    (h0 : ∀ D, H1 D = none → Pv D 0 [] (upd H1 D (.lst []))) (hG : ∀ D i acc H, Pv D i acc H → G H)
    (hs : ∀ D i acc x H H', H1 D = none → i < n → Pv D i acc H → H D = some (.lst acc) → acc.length = i → Y i H x H' → ∀ (R : V → Hp → Prop) (N : Hp → Prop), (∀ y H4, H4 D = some (.lst acc) → Pv D (i + 1) (acc ++ [y]) (upd H4 D (.lst (acc ++ [y]))) → R y H4) →
      ∀ z, g z x (wipe σ vs) H' fun σ2 H2 => wipe σ2 vs = wipe σ vs ∧ ∀ z, tt z σ2 H2 fun b H3 => if b = true then ∀ z, te z σ2 H3 R else N H3)
    (hd : ∀ D acc H, H1 D = none → Pv D n acc H → H D = some (.lst acc) → acc.length = n → Q (.ref D) H) : LcB J g tt te vs σ H1 Q := by
  intro D hD
  refine lc_it (g := fun v σ H Q => ∀ z, g z v σ H Q) (tt := fun σ H Q => ∀ z, tt z σ H Q) (te := fun σ H Q => ∀ z, te z σ H Q) wk (fun i H => ∃ acc, Pv D i acc H ∧ H D = some (.lst acc) ∧ acc.length = i) ⟨[], h0 D hD, upd_same, rfl⟩ (fun i H _ ⟨acc, p, _⟩ => hG D i acc H p) (fun i x H H' hi h y => ?_) (fun H ⟨acc, p, e, l⟩ => hd D acc H hD p e l)
  obtain ⟨acc, p, e, l⟩ := h
  exact hs D i acc x H H' hD hi p e l y _ _ fun y H4 e4 p4 => ⟨acc, e4, by omega, acc ++ [y], p4, upd_same, by rw [List.length_append, List.length_singleton, l]⟩
/-- a comprehension that changes what stands, or passes over -/
theorem lcM2 {J : It} {n : Nat} {G : Hp → Prop} {Y : Nat → Hp → V → Hp → Prop} (wk : Walk J n G Y) {g : Zi → TG} {tt : Zi → TT} {te : Zi → TE} {vs : List Nat} {σ : L2.St} {H1 : Hp} {Q : VK} (Pv : Addr → Nat → List V → Hp → Prop) (hn : n ≤ sizeLine)
    (h0 : ∀ D, H1 D = none → Pv D 0 [] (upd H1 D (.lst []))) (hG : ∀ D i acc H, Pv D i acc H → G H)
    (hs : ∀ D i acc x H H', H1 D = none → i < n → Pv D i acc H → H D = some (.lst acc) → Y i H x H' → ∀ (R : V → Hp → Prop) (N : Hp → Prop), (∀ y H4, H4 D = some (.lst acc) → Pv D (i + 1) (acc ++ [y]) (upd H4 D (.lst (acc ++ [y]))) → R y H4) → (∀ H3, H3 D = some (.lst acc) → Pv D (i + 1) acc H3 → N H3) →
      ∀ z, g z x (wipe σ vs) H' fun σ2 H2 => wipe σ2 vs = wipe σ vs ∧ ∀ z, tt z σ2 H2 fun b H3 => if b = true then ∀ z, te z σ2 H3 R else N H3)
    (hd : ∀ D acc H, H1 D = none → Pv D n acc H → H D = some (.lst acc) → acc.length ≤ n → Q (.ref D) H) : LcB J g tt te vs σ H1 Q := by
  intro D hD
  refine lc_it (g := fun v σ H Q => ∀ z, g z v σ H Q) (tt := fun σ H Q => ∀ z, tt z σ H Q) (te := fun σ H Q => ∀ z, te z σ H Q) wk (fun i H => ∃ acc, Pv D i acc H ∧ H D = some (.lst acc) ∧ acc.length ≤ i) ⟨[], h0 D hD, upd_same, Nat.le_refl _⟩ (fun i H _ ⟨acc, p, _⟩ => hG D i acc H p) (fun i x H H' hi h y => ?_) (fun H ⟨acc, p, e, l⟩ => hd D acc H hD p e l)
  obtain ⟨acc, p, e, l⟩ := h
  exact hs D i acc x H H' hD hi p e y _ _ (fun y H4 e4 p4 => ⟨acc, e4, by omega, acc ++ [y], p4, upd_same, by rw [List.length_append, List.length_singleton]; omega⟩) fun H3 e3 p3 => ⟨acc, p3, e3, by omega⟩
end Pk
end
/-! PkF25 -/
section
set_option maxHeartbeats 4000000
namespace Pk
open PySem PySem.Spec PyProof.Rows L2
local macro_rules | `(tactic| walk_at "c") => `(tactic| first | assumption | omega | exact rfl | (intro z; cases z; done) | (simp only [nV, V.int.injEq, V.str.injEq]; first | assumption | omega))
local macro_rules | `(tactic| walk_at "fld") => `(tactic| first
  | assumption
  | exact fld_k_tasks (by assumption) (by assumption) | exact fld_k_tree (by assumption) (by assumption) | exact fld_k_things (by assumption) (by assumption) | exact fld_ta_known (by assumption) (by assumption)
  | exact fld_t_rows (by assumption) (by assumption) (by assumption) | exact fld_t_run1 (by assumption) (by assumption) (by assumption) (by assumption) | exact fld_t_runs (by assumption) (by assumption) (by assumption) | exact fld_t_maker (by assumption) (by assumption) (by assumption) | exact fld_tr_rows (by assumption) (by assumption) | exact fld_tr_rb (by assumption) (by assumption) | exact fld_tr_ever (by assumption) (by assumption)
  | exact fld_h_number (by assumption) (by assumption) | exact fld_h_thing (by assumption) (by assumption) | exact fld_h_rights (by assumption) (by assumption) | exact fld_h_giver (by assumption) (by assumption) | exact fld_h_holder (by assumption) (by assumption))
local macro_rules | `(tactic| walk_at "get") => `(tactic| first
  | assumption
  | exact get_kn1 (by assumption) (by assumption) | exact get_kn0 (by assumption) (by assumption) | exact get_rw1 (by assumption) (by assumption) | exact get_rw0 (by assumption) (by assumption)
  | exact get_rb1 (by assumption) (by assumption) | exact get_rb0 (by assumption) (by assumption) | exact get_th1 (by assumption) (by assumption) | exact get_th0 (by assumption) (by assumption))
local macro_rules | `(tactic| walk_at "ins") => `(tactic| first | exact insTa (by assumption) rfl | exact insTr (by assumption) rfl)
local macro_rules | `(tactic| walk_at "s") => `(tactic| first
  | refine ⟨_, rfl, ?_⟩
  | refine ⟨rfl, ?_⟩
  | refine zI fun _ => ?_
  | with_reducible refine iteF ?_ | with_reducible refine iteT ?_
  | ((with_reducible refine iteDy ?_ ?_); focus (walk_at "c"; done)) | ((with_reducible refine iteDn ?_ ?_); focus (walk_at "c"; done)) | ((with_reducible refine iteNy ?_ ?_); focus (walk_at "c"; done)) | ((with_reducible refine iteNn ?_ ?_); focus (walk_at "c"; done))
  | refine fldI (by walk_at "fld") ?_
  | refine getI (by walk_at "get") ?_ | refine getS (by walk_at "get") ?_
  | refine ⟨by walk_at "ins", ?_⟩
  | refine ⟨_, _, _, _, true, rfl, .ty _, .base (.str _), kit_ty (by decide +kernel), ?_⟩
  | refine ⟨_, _, _, _, true, rfl, .ty _, .base (.int _), kit_ty (by decide +kernel), ?_⟩
  | refine ⟨_, _, _, _, false, rfl, .ty _, .base (.int _), kit_ty (by decide +kernel), ?_⟩
  | refine ⟨_, _, rfl, rfl, ?_⟩
  | refine ⟨_, _, rfl, rfl, trivial, ?_⟩)
local macro_rules | `(tactic| walk_at "w") => `(tactic| repeat (walk_at "s"))
/-- one more lot joined -/
abbrev jn (m : Mo) (ps : PL) (ns : List Nat) (pr : Nat → Bool) : PL := addAll ps (addAll [] ((hsOf m ns).filter fun q => pr q.2))
theorem jn_hd {m : Mo} (W : Wf m) {ns : List Nat} {pr : Nat → Bool} (h : ∀ n, n ∈ ns → n ∈ m.keys) : DOk m.nth (addAll [] ((hsOf m ns).filter fun q => pr q.2)) := DOk.nil.add fun q hq => hsOf_ok W h q (List.mem_filter.mp hq).1
theorem jn_ok {m : Mo} (W : Wf m) {ps : PL} {ns : List Nat} {pr : Nat → Bool} (h : ∀ n, n ∈ ns → n ∈ m.keys) (hp : DOk m.nth ps) : DOk m.nth (jn m ps ns pr) := by
  have hd := jn_hd (pr := pr) W h
  exact hp.add fun q hq => ⟨hd.lt _ (List.mem_map.mpr ⟨q, hq, rfl⟩), by rw [← look_mem hd.nd hq]; exact hd.le _⟩
theorem jn_bit {m : Mo} (W : Wf m) {ps : PL} {ns : List Nat} {pr : Nat → Bool} (hk : ∀ n, n ∈ ns → n ∈ m.keys) {t b : Nat} : (look (jn m ps ns pr) t).testBit b = true ↔ (look ps t).testBit b = true ∨ ∃ n, n ∈ ns ∧ pr (m.row n).rights = true ∧ (m.row n).thing = t ∧ (m.row n).rights.testBit b = true := by
  have hd := jn_hd (pr := pr) W hk
  rw [bit_addAll]
  constructor
  · rintro (h | ⟨q, hq, e, h⟩)
    · exact .inl h
    · rw [← look_mem hd.nd hq, bit_addAll] at h
      rcases h with h | ⟨q2, h1, h2, h3⟩
      · simp [look_nil] at h
      · obtain ⟨h1, h4⟩ := List.mem_filter.mp h1
        unfold hsOf at h1
        obtain ⟨n, hn, rfl⟩ := List.mem_map.mp h1
        exact .inr ⟨n, hn, h4, h2.trans e, h3⟩
  · rintro (h | ⟨n, hn, hpr, e, h⟩)
    · exact .inl h
    · have hb : (look (addAll [] ((hsOf m ns).filter fun q => pr q.2)) t).testBit b = true := bit_addAll.mpr (.inr ⟨((m.row n).thing, (m.row n).rights), List.mem_filter.mpr ⟨List.mem_map.mpr ⟨n, hn, rfl⟩, hpr⟩, e, h⟩)
      by_cases hk : t ∈ keysN (addAll [] ((hsOf m ns).filter fun q => pr q.2))
      · obtain ⟨q, hq, rfl⟩ := List.mem_map.mp hk
        exact .inr ⟨q, hq, rfl, by rw [← look_mem hd.nd hq]; exact hb⟩
      · rw [look_none hk] at hb; simp at hb
/-- what holds after some tasks' passing -/
structure PA (m : Mo) (ac : List Str) (L : List Str) (p0 : PL) : Prop where
  ok : DOk m.nth p0
  pa : ∀ Y, Y ∈ L → ∀ n, n ∈ numsOf m Y → hasP (m.row n).rights = true → Wi (look p0) ((m.row n).thing, (m.row n).rights)
  ne : ∀ t b, (look p0 t).testBit b = true → ∃ Y, Y ∈ ac
theorem PA.nil {m : Mo} {ac : List Str} : PA m ac [] [] := ⟨DOk.nil, fun Y h => (by cases h), fun t b h => by simp [look_nil] at h⟩
theorem PA.snoc {m : Mo} (W : Wf m) {ac L : List Str} {p0 : PL} {Y : Str} (h : PA m ac L p0) (hy : Y ∈ ac) (hn : Y ∈ m.names) : PA m ac (L ++ [Y]) (jn m p0 (numsOf m Y) hasP) := by
  have hk : ∀ n, n ∈ numsOf m Y → n ∈ m.keys := fun n hn' => numsOf_key W hn hn'
  refine ⟨jn_ok W hk h.ok, fun Z hZ n hn' hp b hb => (jn_bit W hk).mpr ?_, fun t b hb => ?_⟩
  · rcases List.mem_append.mp hZ with hZ | hZ
    · exact .inl (h.pa Z hZ n hn' hp b hb)
    · rw [List.mem_singleton.mp hZ] at hn'
      exact .inr ⟨n, hn', hp, rfl, hb⟩
  · exact ⟨Y, hy⟩
/-- what holds after some tasks' hearing -/
structure PB (m : Mo) (p0 : PL) (L : List Str) (fs : PL) (ML : List (Str × PL)) : Prop where
  ok : DOk m.nth fs
  sub : ∀ t b, (look p0 t).testBit b = true → (look fs t).testBit b = true
  al : ∀ Y, Y ∈ L → ∃ ms, (Y, ms) ∈ ML
  ml : ∀ Y ms, (Y, ms) ∈ ML → MH m Y p0 ms ∧ ∀ n, n ∈ heard m ms → hasP (m.row n).rights = true → Wi (look fs) ((m.row n).thing, (m.row n).rights)
  ex : ∀ t b, (look fs t).testBit b = true → (look p0 t).testBit b = true ∨ ∃ Y ms n, (Y, ms) ∈ ML ∧ n ∈ heard m ms ∧ (m.row n).thing = t ∧ (m.row n).rights.testBit b = true
theorem PB.nil {m : Mo} {p0 : PL} (h : DOk m.nth p0) : PB m p0 [] p0 [] := ⟨h, fun _ _ z => z, fun Y h => (by cases h), fun Y ms h => (by cases h), fun t b z => .inl z⟩
theorem PB.snoc {m : Mo} (W : Wf m) {p0 fs ms : PL} {L : List Str} {ML : List (Str × PL)} {Y : Str} (h : PB m p0 L fs ML) (hm : MH m Y p0 ms) : PB m p0 (L ++ [Y]) (jn m fs (heard m ms) hasP) (ML ++ [(Y, ms)]) := by
  have hk : ∀ n, n ∈ heard m ms → n ∈ m.keys := fun n hn' => heard_key hn'
  refine ⟨jn_ok W hk h.ok, fun t b z => (jn_bit W hk).mpr (.inl (h.sub t b z)), fun Z hZ => ?_, fun Z ms' hZ => ?_, fun t b z => ?_⟩
  · rcases List.mem_append.mp hZ with hZ | hZ
    · obtain ⟨ms', h'⟩ := h.al Z hZ
      exact ⟨ms', List.mem_append_left _ h'⟩
    · rw [List.mem_singleton.mp hZ]
      exact ⟨ms, List.mem_append_right _ (List.mem_singleton.mpr rfl)⟩
  · rcases List.mem_append.mp hZ with hZ | hZ
    · obtain ⟨h1, h2⟩ := h.ml Z ms' hZ
      exact ⟨h1, fun n hn hp b hb => (jn_bit W hk).mpr (.inl (h2 n hn hp b hb))⟩
    · obtain ⟨rfl, rfl⟩ := Prod.mk.inj (List.mem_singleton.mp hZ)
      exact ⟨hm, fun n hn hp b hb => (jn_bit W hk).mpr (.inr ⟨n, hn, hp, rfl, hb⟩)⟩
  · rcases (jn_bit W hk).mp z with z | ⟨n, hn, hp, e, hb⟩
    · rcases h.ex t b z with z | ⟨Z, ms', n, h1, h2⟩
      · exact .inl z
      · exact .inr ⟨Z, ms', n, List.mem_append_left _ h1, h2⟩
    · exact .inr ⟨Y, ms, n, List.mem_append_right _ (List.mem_singleton.mpr rfl), hn, e, hb⟩
theorem take_snoc {α : Type} {l : List α} {i : Nat} {x : α} (h : l[i]? = some x) : l.take (i + 1) = l.take i ++ [x] := by rw [List.take_succ, h]; rfl
section
variable {P : Program} {w : World} {K : PySem.W.Frag} {mg : Str → Option Value} {base : Heap} (G : Gx K mg base)
include G
def sp_passed_on (K : PySem.W.Frag) : Sp := fun vs H Q E => ∃ tg m a ac, vs = [.ref m.k, .ref a] ∧ Kn K H tg m ∧ H a = some (.lst (ac.map V.str)) ∧ (∀ Y, Y ∈ ac → RunT m Y) ∧ TbN (T0 K) H ∧ (∀ H' p p0 fs ML, Al H H' → H' p = some (.dK (mD fs)) → PO m ac p0 fs ML → Q (.ref p) H')
omit G in
theorem sc_passed_on : FnScope ["kernel", "acting", "passed", "name", "found", "might"] ["kernel", "acting"] (defScope s_passed_on) := ⟨rfl, rfl, rfl, by decide +kernel, rfl, by decide +kernel, by decide +kernel⟩
theorem ok_passed_on : FnR P w K mg base (L2.CX P w) 15 (He.ga K "passed_on") (sp_passed_on K) := by
  refine mkF (k := 14) G.f_passed_on sc_passed_on (fun _ _ _ _ _ _ us hl => match us, hl with | [_, _], _ => rfl) (fun vs H Q E h => by repeat (first | (obtain ⟨e, _⟩ := h; cases e; rfl; done) | obtain ⟨_, h⟩ := h)) (fun cdv A outer s H vs Q E hr h => ?_)
  have S := sc_passed_on
  obtain ⟨tg, m, a, ac, rfl, KN, ea, hac, hT, k⟩ := h
  have R := KN.r
  refine ⟨_, (pss_cons (ps_set (i := 2) S.nd rfl (by first | exact Or.inl rfl | exact Or.inr rfl) pe_dnewK)
      (pss_cons (ps_for pod rfl (pi_list (pv 1)) (pg_name (i := 3) S.nd rfl (by first | exact Or.inl rfl | exact Or.inr rfl)) (pss_one (ps_set (i := 2) S.nd rfl (by first | exact Or.inl rfl | exact Or.inr rfl) (pe_f (ok_joined G) (hr.mono (by omega)) rfl G.g_joined (kp_of G.f_joined) tkd (pa_cons (pv 2) (pa_cons (pe_f (ok_gathered G) (hr.mono (by omega)) rfl G.g_gathered (kp_of G.f_gathered) tkd (pa_cons (pe_f (ok_handles_of G) (hr.mono (by omega)) rfl G.g_handles_of (kp_of G.f_handles_of) tkd (pa_cons (pv 0) (pa_cons (pv 3) pa_nil))) (pa_cons (pe_cf rfl G.g_passes) pa_nil))) pa_nil))))))
      (pss_cons (ps_set (i := 4) S.nd rfl (by first | exact Or.inl rfl | exact Or.inr rfl) (pv 2))
      (pss_cons (ps_for pod rfl (pi_list (pv 1)) (pg_name (i := 3) S.nd rfl (by first | exact Or.inl rfl | exact Or.inr rfl)) (pss_cons (ps_set (i := 5) S.nd rfl (by first | exact Or.inl rfl | exact Or.inr rfl) (pe_f (ok_might_have G) (hr.mono (by omega)) rfl G.g_might_have (kp_of G.f_might_have) tkd (pa_cons (pv 0) (pa_cons (pv 3) (pa_cons (pv 2) pa_nil)))))
      (pss_one (ps_set (i := 4) S.nd rfl (by first | exact Or.inl rfl | exact Or.inr rfl) (pe_f (ok_joined G) (hr.mono (by omega)) rfl G.g_joined (kp_of G.f_joined) tkd (pa_cons (pv 4) (pa_cons (pe_f (ok_gathered G) (hr.mono (by omega)) rfl G.g_gathered (kp_of G.f_gathered) tkd (pa_cons (pe_f (ok_parts_heard G) (hr.mono (by omega)) rfl G.g_parts_heard (kp_of G.f_parts_heard) tkd (pa_cons (pv 0) (pa_cons (pv 5) pa_nil))) (pa_cons (pe_cf rfl G.g_passes) pa_nil))) pa_nil)))))))
      (pss_one (ps_ret (pv 4))))))), ?_⟩
  walk_at "w"
  refine fun p hp => ?_
  have a1 := Al.new (o := .dK (mD [])) hp
  have ea1 := a1.lst ea
  have ep1 : (L2.upd H p (.dK (mD []))) p = some (.dK (mD [])) := upd_same
  have enil : (HO.dK [] : HO) = .dK (mD []) := rfl
  rw [enil]
  generalize L2.upd H p (.dK (mD [])) = H1 at *
  walk_at "w"
  refine ⟨⟨_, sqL_at ea1⟩, ?_⟩
  refine for_list (xs := ac.map V.str) (fun i σ H' => (∃ pd v3 v4 v5, σ = [some (.ref m.k), some (.ref a), some (.ref pd), v3, v4, v5] ∧ ∃ p0, H' pd = some (.dK (mD p0)) ∧ PA m ac (ac.take i) p0) ∧ Al H H') ?_ ?_ ?_ ?_
  · exact ⟨⟨p, _, _, _, rfl, [], ep1, PA.nil⟩, a1⟩
  · rintro i σ H2 hi ⟨_, al⟩
    exact sqL_at (al.lst ea)
  · rintro i x σ H2 hx ⟨⟨pd, v3, v4, v5, rfl, p0, epd, pa⟩, al⟩
    rw [List.getElem?_map] at hx
    cases hc : ac[i]? with
    | none => rw [hc] at hx; cases hx
    | some Y =>
      rw [hc] at hx
      cases hx
      have hYa := List.mem_of_getElem? hc
      have hY := hac Y hYa
      have K2 := KN.al al
      have pa2 := pa.snoc KN.w hYa hY.1
      rw [← take_snoc hc] at pa2
      walk_at "w"
      refine ⟨tg, m, Y, rfl, K2.r, KN.w, hY, fun H3 p3 us a3 e3 hal => ?_⟩
      walk_at "w"
      refine ⟨p3, _, m, numsOf m Y, us, hasP, rfl, e3, hal, ⟨_, rfl, .inl ⟨kp_of G.f_passes, ok_passes G⟩⟩, by have := numsOf_len (m := m) (s := Y); omega, fun H4 p4 a4 hp4 e4 => ?_⟩
      have hd4 := jn_hd (pr := hasP) KN.w (ns := numsOf m Y) (fun n hn' => numsOf_key KN.w hY.1 hn')
      walk_at "w"
      refine ⟨pd, p4, p0, _, rfl, .inl ((a3.trans a4).dK epd), e4, by have := pa.ok.len; have := hd4.len; have := KN.w.nth; omega, fun H5 p5 a5 hp5 e5 => ?_⟩
      exact ⟨⟨p5, _, _, _, rfl, _, e5, pa2⟩, al.trans (a3.trans (a4.trans a5))⟩
  · rintro σ H2 ⟨⟨pd, v3, v4, v5, rfl, p0, epd, pa⟩, al⟩
    rw [List.length_map, List.take_length] at pa
    walk_at "w"
    refine ⟨⟨_, sqL_at (al.lst ea)⟩, ?_⟩
    refine for_list (xs := ac.map V.str) (fun i σ H' => (∃ fd v3 v5, σ = [some (.ref m.k), some (.ref a), some (.ref pd), v3, some (.ref fd), v5] ∧ ∃ fs ML, H' fd = some (.dK (mD fs)) ∧ PB m p0 (ac.take i) fs ML) ∧ Al H2 H') ?_ ?_ ?_ ?_
    · exact ⟨⟨pd, _, _, rfl, p0, [], epd, PB.nil pa.ok⟩, Al.refl _⟩
    · rintro i σ H3 hi ⟨_, al3⟩
      exact sqL_at (al3.lst (al.lst ea))
    · rintro i x σ H3 hx ⟨⟨fd, v3, v5, rfl, fs, ML, efd, pb⟩, al3⟩
      rw [List.getElem?_map] at hx
      cases hc : ac[i]? with
      | none => rw [hc] at hx; cases hx
      | some Y =>
        rw [hc] at hx
        cases hx
        have hY := hac Y (List.mem_of_getElem? hc)
        have a23 := al.trans al3
        have K3 := KN.al a23
        walk_at "w"
        refine ⟨tg, m, Y, pd, p0, rfl, K3, hY, al3.dK epd, pa.ok, a23.tabs _ hT, fun H4 p4 ms a4 fr4 e4 mh => ?_⟩
        have pb2 := pb.snoc KN.w mh
        rw [← take_snoc hc] at pb2
        have K4 := K3.al a4
        have nth4 : p4 ≠ m.th := fun z => fr4 _ (Pl.nt (o := .dK _) trivial) (by rw [z]; exact K3.th)
        walk_at "w"
        refine ⟨tg, m, p4, ms, rfl, K4, e4, nth4, fun H5 p5 us a5 e5 hal => ?_⟩
        walk_at "w"
        refine ⟨p5, _, m, heard m ms, us, hasP, rfl, e5, hal, ⟨_, rfl, .inl ⟨kp_of G.f_passes, ok_passes G⟩⟩, by have := heard_len KN.w (mt := ms); omega, fun H6 p6 a6 hp6 e6 => ?_⟩
        have hd6 := jn_hd (pr := hasP) KN.w (ns := heard m ms) (fun n hn' => heard_key hn')
        walk_at "w"
        refine ⟨fd, p6, fs, _, rfl, .inl ((a4.trans (a5.trans a6)).dK efd), e6, by have := pb.ok.len; have := hd6.len; have := KN.w.nth; omega, fun H7 p7 a7 hp7 e7 => ?_⟩
        exact ⟨⟨p7, _, _, rfl, _, _, e7, pb2⟩, al3.trans (a4.trans (a5.trans (a6.trans a7)))⟩
    · rintro σ H3 ⟨⟨fd, v3, v5, rfl, fs, ML, efd, pb⟩, al3⟩
      rw [List.length_map, List.take_length] at pb
      walk_at "w"
      exact k H3 fd p0 fs ML (al.trans al3) efd ⟨pb.ok, pa.pa, pa.ne, pb.sub, pb.al, pb.ml, pb.ex⟩
end
end Pk
end
/-! PkF26 -/
section
set_option maxHeartbeats 4000000
namespace Pk
open PySem PySem.Spec PyProof.Rows L2
local macro_rules | `(tactic| walk_at "c") => `(tactic| first | assumption | omega | exact rfl | (intro z; cases z; done) | (simp only [nV, V.int.injEq, V.str.injEq]; first | assumption | omega))
local macro_rules | `(tactic| walk_at "fld") => `(tactic| first
  | assumption
  | exact fld_k_tasks (by assumption) (by assumption) | exact fld_k_tree (by assumption) (by assumption) | exact fld_k_things (by assumption) (by assumption) | exact fld_ta_known (by assumption) (by assumption)
  | exact fld_t_rows (by assumption) (by assumption) (by assumption) | exact fld_t_run1 (by assumption) (by assumption) (by assumption) (by assumption) | exact fld_t_runs (by assumption) (by assumption) (by assumption) | exact fld_t_maker (by assumption) (by assumption) (by assumption) | exact fld_tr_rows (by assumption) (by assumption) | exact fld_tr_rb (by assumption) (by assumption) | exact fld_tr_ever (by assumption) (by assumption)
  | exact fld_h_number (by assumption) (by assumption) | exact fld_h_thing (by assumption) (by assumption) | exact fld_h_rights (by assumption) (by assumption) | exact fld_h_giver (by assumption) (by assumption) | exact fld_h_holder (by assumption) (by assumption))
local macro_rules | `(tactic| walk_at "get") => `(tactic| first
  | assumption
  | exact get_kn1 (by assumption) (by assumption) | exact get_kn0 (by assumption) (by assumption) | exact get_rw1 (by assumption) (by assumption) | exact get_rw0 (by assumption) (by assumption)
  | exact get_rb1 (by assumption) (by assumption) | exact get_rb0 (by assumption) (by assumption) | exact get_th1 (by assumption) (by assumption) | exact get_th0 (by assumption) (by assumption))
local macro_rules | `(tactic| walk_at "ins") => `(tactic| first | exact insTa (by assumption) rfl | exact insTr (by assumption) rfl)
local macro_rules | `(tactic| walk_at "s") => `(tactic| first
  | refine ⟨_, rfl, ?_⟩
  | refine ⟨rfl, ?_⟩
  | refine zI fun _ => ?_
  | with_reducible refine iteF ?_ | with_reducible refine iteT ?_
  | ((with_reducible refine iteDy ?_ ?_); focus (walk_at "c"; done)) | ((with_reducible refine iteDn ?_ ?_); focus (walk_at "c"; done)) | ((with_reducible refine iteNy ?_ ?_); focus (walk_at "c"; done)) | ((with_reducible refine iteNn ?_ ?_); focus (walk_at "c"; done))
  | refine fldI (by walk_at "fld") ?_
  | refine getI (by walk_at "get") ?_ | refine getS (by walk_at "get") ?_
  | refine ⟨by walk_at "ins", ?_⟩
  | refine ⟨_, _, _, _, true, rfl, .ty _, .base (.str _), kit_ty (by decide +kernel), ?_⟩
  | refine ⟨_, _, _, _, true, rfl, .ty _, .base (.int _), kit_ty (by decide +kernel), ?_⟩
  | refine ⟨_, _, _, _, false, rfl, .ty _, .base (.int _), kit_ty (by decide +kernel), ?_⟩
  | refine ⟨_, _, rfl, rfl, ?_⟩
  | refine ⟨_, _, rfl, rfl, trivial, ?_⟩)
local macro_rules | `(tactic| walk_at "w") => `(tactic| repeat (walk_at "s"))
theorem runL_run {m : Mo} {s : Str} : s ∈ runL m ↔ RunT m s := by
  unfold runL RunT
  rw [List.mem_filter]
theorem runL_len {m : Mo} (B : Bd m) : (runL m).length ≤ 200 := Nat.le_trans (List.length_filter_le _ _) B.nms
theorem flat_one {s : Str} : flatV (.str s) = true := rfl
section
variable {P : Program} {w : World} {K : PySem.W.Frag} {mg : Str → Option Value} {base : Heap} (G : Gx K mg base)
include G
def sp_could (K : PySem.W.Frag) : Sp := fun vs H Q E => ∃ tg m T i sa S, vs = [.ref m.k, .str T, nV i, .ref sa] ∧ Kn K H tg m ∧ RunT m T ∧ i < m.nth ∧ TbN (T0 K) H ∧ SqA K H sa (S.map V.str) ∧ (∀ s, s ∈ S → RunT m s) ∧ (∀ H' R, Al H H' → CouldR m S T R → Q (nV (look R i)) H')
omit G in
theorem sc_could : FnScope ["kernel", "task", "thing", "still", "name", "acting", "passed"] ["kernel", "task", "thing", "still"] (defScope s_could) := ⟨rfl, rfl, rfl, by decide +kernel, rfl, by decide +kernel, by decide +kernel⟩
theorem could_body (cdv : Value) (A : Around) (outer : List Env) (s : Shared) (H : Hp) (vs : List V) (Q : VK) (E : XK) (hc : cdv = .ref (He.cT K ("could", none)).1) (hr : Room 15 (A.deeper (envOfC "could" (defScope s_could) s.heap.objs.size (He.ga K "could") cdv))) (h : sp_could K vs H Q E) :
    ∃ t, PSs (cxOf (L2.CX P w) P w K mg base ["kernel", "task", "thing", "still", "name", "acting", "passed"] "could" (defScope s_could) (He.ga K "could") cdv A outer s H E) (defBody s_could) t ∧ t { nx := fun _ H' => Q .non H', rt := Q } (L2.start ["kernel", "task", "thing", "still", "name", "acting", "passed"] vs) H := by
  have S := sc_could
  obtain ⟨tg, m, T, i0, sa, ss, rfl, KN, hq, hi, hT, hsq, hss, k⟩ := h
  have R := KN.r
  refine ⟨_, (pss_cons (ps_expr (pe_m (ok_Tasks_need G) (hr.mono (by omega)) G.cl_Tasks G.m_Tasks_need tkd (pe_fd (pv 0)) (pa_cons (pv 1) pa_nil)))
      (pss_cons (ps_expr (pe_f (ok_need_thing G) (hr.mono (by omega)) rfl G.g_need_thing (kp_of G.f_need_thing) tkd (pa_cons (pv 0) (pa_cons (pv 2) pa_nil))))
      (pss_cons (ps_if (pt_cmpR op_isN (pv 3) pe_non (nomark _)) (pss_one (ps_set (i := 3) S.nd rfl (by first | exact Or.inl rfl | exact Or.inr rfl) (pe_tup pa_nil))) pss_nil)
      (pss_cons (ps_for pod rfl (pi_seq (pv 3)) (pg_name (i := 4) S.nd rfl (by first | exact Or.inl rfl | exact Or.inr rfl)) (pss_one (ps_expr (pe_m (ok_Tasks_need G) (hr.mono (by omega)) G.cl_Tasks G.m_Tasks_need tkd (pe_fd (pv 0)) (pa_cons (pv 4) pa_nil)))))
      (pss_cons (by exact (ps_setLcz (i := 5) (own := [("name", 4)]) rfl S.nd rfl rfl (sw_true rfl rfl rfl (by decide +kernel)) (pi_list (pe_m0 (ok_Tasks_running G) (hr.mono (by omega)) G.cl_Tasks G.m_Tasks_running tkd (pe_fd (pv 0)))) (blkOk_by (own := [("name", 4)]) (N := ["kernel", "task", "thing", "still", "name", "acting", "passed"]) (sc := defScope s_could) (by decide +kernel)) (fun _ => (pg_name (i := 4) S.nd rfl (by first | exact Or.inl rfl | exact Or.inr rfl))) (fun _ => (pts_one (pt_cmpR op_notIn_seq (pv 4) (pv 3) rfl))) (fun _ => (pv 4))))
      (pss_cons (ps_set (i := 6) S.nd rfl (by first | exact Or.inl rfl | exact Or.inr rfl) (pe_f (ok_passed_on G) (hr.mono (by omega)) rfl G.g_passed_on (kp_of G.f_passed_on) tkd (pa_cons (pv 0) (pa_cons (pv 5) pa_nil))))
      (pss_cons (ps_if (pt_cmpR op_in_seq (pv 1) (pv 5) rfl) (pss_one (ps_ret (pe_dget2 (hu_of hr) (pe_f (ok_might_have G) (hr.mono (by omega)) rfl G.g_might_have (kp_of G.f_might_have) tkd (pa_cons (pv 0) (pa_cons (pv 1) (pa_cons (pv 6) pa_nil)))) (pv 2) pe_int ⟨rfl, rfl, rfl, rfl⟩))) pss_nil)
      (pss_one (ps_ret (pe_dget2 (hu_of hr) (pe_f (ok_joined G) (hr.mono (by omega)) rfl G.g_joined (kp_of G.f_joined) tkd (pa_cons (pe_f (ok_gathered G) (hr.mono (by omega)) rfl G.g_gathered (kp_of G.f_gathered) tkd (pa_cons (pe_f (ok_handles_of G) (hr.mono (by omega)) rfl G.g_handles_of (kp_of G.f_handles_of) tkd (pa_cons (pv 0) (pa_cons (pv 1) pa_nil))) (pa_cons (pe_lam G hc (by decide +kernel) (by decide +kernel) ⟨rfl, rfl, rfl, rfl, fun _ _ _ _ _ => rfl, _, rfl⟩) pa_nil))) (pa_cons (pv 6) pa_nil))) (pv 2) pe_int ⟨rfl, rfl, rfl, rfl⟩)))))))))), ?_⟩
  walk_at "w"
  refine ⟨tg, m, T, rfl, R, fun h => absurd hq h, fun _ => ?_⟩
  walk_at "w"
  refine ⟨tg, m, i0, rfl, R, hi, ?_⟩
  walk_at "w"
  refine for_seq hsq (fun i σ H' => (∃ v4, σ = [some (.ref m.k), some (.str T), some (nV i0), some (.ref sa), v4, none, none]) ∧ H' = H) ?_ ?_ ?_ ?_ (fun J H1 h => h)
  · exact ⟨⟨_, rfl⟩, rfl⟩
  · rintro i σ H' hi ⟨_, rfl⟩
    exact Al.refl _
  · rintro i x σ H' hx ⟨⟨v4, rfl⟩, rfl⟩
    rw [List.getElem?_map] at hx
    cases hcs : ss[i]? with
    | none => rw [hcs] at hx; cases hx
    | some c =>
      rw [hcs] at hx
      cases hx
      have hqc := hss c (List.mem_of_getElem? hcs)
      walk_at "w"
      refine ⟨tg, m, c, rfl, R, fun h => absurd hqc h, fun _ => ?_⟩
      walk_at "w"
      exact ⟨⟨_, rfl⟩, rfl⟩
  · rintro σ H' ⟨⟨v4, rfl⟩, rfl⟩
    walk_at "w"
    refine ⟨tg, m, rfl, R, KN.w.bd, KN.kn, fun H1 p1 a1 e1 => ?_⟩
    have hl1 := runL_len KN.w.bd
    walk_at "w"
    refine ⟨⟨_, sqL_at e1⟩, ?_⟩
    refine lcR (walk_list (xs := (runL m).map V.str)) (fun i => ((runL m)[i]?).bind fun s => if decide (s ∉ ss) = true then some (V.str s) else none) (by rw [List.length_map, sizeLine_eq]; omega) (fun H a => sqL_at (a.lst e1)) (fun i x H2 H3 hi a y N1 N2 hy hno => ?_) (fun H2 pa a e2 => ?_)
    · obtain ⟨rfl, hx⟩ := y
      rw [List.getElem?_map] at hx
      cases hcs : (runL m)[i]? with
      | none => rw [hcs] at hx; cases hx
      | some c =>
        rw [hcs] at hx hy hno
        cases hx
        have hsq2 := hsq.al (a1.trans a)
        walk_at "w"
        refine ⟨sa, _, rfl, hsq2, flat_one, flat_str, ?_⟩
        rw [if_pos rfl, inV_str]
        by_cases hin : c ∈ ss
        · have e3 : (!decide (c ∈ ss)) = false := by simp [hin]
          rw [e3]
          walk_at "w"
          exact hno _ (by simp [hin]) (Al.refl _)
        · have e3 : (!decide (c ∈ ss)) = true := by simp [hin]
          rw [e3]
          walk_at "w"
          exact hy _ _ (by simp [hin]) (Al.refl _)
    · rw [List.length_map, filterMap_range (runL m) _ (fun s => if decide (s ∉ ss) = true then some (V.str s) else none) (fun i x e => by rw [e]; rfl), filterMap_if] at e2
      have a12 := a1.trans a
      have hac : ∀ Y, Y ∈ (runL m).filter (fun s => decide (s ∉ ss)) → RunT m Y := fun Y hY => runL_run.mp (List.mem_filter.mp hY).1
      walk_at "w"
      refine ⟨tg, m, pa, _, rfl, KN.al a12, e2, hac, a12.tabs _ hT, fun H3 pp p0 fs ML a3 e3 po => ?_⟩
      have a13 := a12.trans a3
      walk_at "w"
      refine ⟨pa, _, rfl, .inl (sqL_at (a3.lst e2)), flat_one, flat_str, ?_⟩
      rw [if_neg (by decide), inV_str]
      by_cases hin : T ∈ ss
      · have hna : T ∉ (runL m).filter (fun s => decide (s ∉ ss)) := fun h => by
          have := (List.mem_filter.mp h).2
          simp [hin] at this
        rw [decide_eq_false hna]
        walk_at "w"
        refine ⟨tg, m, T, rfl, R.al a13, KN.w, hq, fun H4 p4 us a4 e4 hal => ?_⟩
        walk_at "w"
        refine ⟨(a13.trans a4).tabs _ hT, fun f H5 a5 l => ?_⟩
        walk_at "w"
        refine ⟨p4, .ref f, m, numsOf m T, us, fun _ => true, rfl, a5.lst e4, hal.imp (fun n v ⟨x, e, h⟩ => ⟨x, e, h.al a5⟩), ⟨f, rfl, .inr ⟨l, rfl⟩⟩, by have := numsOf_len (m := m) (s := T); omega, fun H6 p6 a6 hp6 e6 => ?_⟩
        rw [filter_true] at e6
        have hoo := own_ok KN.w hq.1
        walk_at "w"
        refine ⟨p6, pp, own m T, fs, rfl, .inl e6, (a4.trans (a5.trans a6)).dK e3, by have := hoo.len; have := po.ok.len; have := KN.w.nth; omega, fun H7 p7 a7 hp7 e7 => ?_⟩
        have cr : CouldR m ss T (addAll (own m T) fs) := ⟨p0, fs, ML, po, fun t b z => bit_addAll.mpr (.inl z), fun t b z => bit_addAll.mpr (.inr (by
          by_cases hk : t ∈ keysN fs
          · obtain ⟨q, hq, rfl⟩ := List.mem_map.mp hk
            exact ⟨q, hq, rfl, by rw [← look_mem po.ok.nd hq]; exact z⟩
          · rw [look_none hk] at z; simp at z)), fun h => absurd hin h⟩
        have kk := k H7 _ (a13.trans (a4.trans (a5.trans (a6.trans a7)))) cr
        clear po cr
        generalize addAll (own m T) fs = R7 at *
        have i7 : IsD H7 p7 := .inl ⟨_, .inl e7⟩
        walk_at "w"
        refine ⟨i7, ?_⟩
        walk_at "w"
        refine ⟨_, DGet.k (k := Sum.inl (i0 : Int)) e7, ?_⟩
        rw [get_mD]
        exact kk
      · have hya : T ∈ (runL m).filter (fun s => decide (s ∉ ss)) := List.mem_filter.mpr ⟨runL_run.mpr hq, by simpa using hin⟩
        rw [decide_eq_true hya]
        walk_at "w"
        refine ⟨tg, m, T, pp, fs, rfl, KN.al a13, hq, e3, po.ok, a13.tabs _ hT, fun H4 p4 ms a4 fr4 e4 mh => ?_⟩
        have cr : CouldR m ss T ms := ⟨p0, fs, ML, po, mh.own, mh.pas, fun _ => mh.cl⟩
        have kk := k H4 _ (a13.trans a4) cr
        have i4 : IsD H4 p4 := .inl ⟨_, .inl e4⟩
        walk_at "w"
        refine ⟨i4, ?_⟩
        walk_at "w"
        refine ⟨_, DGet.k (k := Sum.inl (i0 : Int)) e4, ?_⟩
        rw [get_mD]
        exact kk
theorem ok_could_4 : FnR P w K mg base (L2.CX P w) 16 (He.ga K "could") (sp_could K) := by
  have F := mkFdc (P := P) (w := w) (mg := mg) (base := base) (k := 15) (sp := sp_could K) (dvs := [.non]) 4 1 (by simp) G.f_could sc_could rfl (fun T kV doc pm an cdv ct us its hu hi => match us, hu, its, hi with | [_, _, _, _], _, [_], _ => ⟨_, rfl, rfl⟩) (fun vs H Q E h => by obtain ⟨_, _, _, _, _, _, e, _⟩ := h; cases e; rfl) (fun cdv A outer s H vs Q E hc hr h => could_body G cdv A outer s H vs Q E hc hr h)
  exact F.imp fun vs H Q E h => by simpa using h
end
end Pk
end
/-! PkF27 -/
section
set_option maxHeartbeats 4000000
namespace Pk
open PySem PySem.Spec PyProof.Rows L2
local macro_rules | `(tactic| walk_at "c") => `(tactic| first | assumption | omega | exact rfl | (intro z; cases z; done) | (simp only [nV, V.int.injEq, V.str.injEq]; first | assumption | omega))
local macro_rules | `(tactic| walk_at "fld") => `(tactic| first
  | assumption
  | exact fld_k_tasks (by assumption) (by assumption) | exact fld_k_tree (by assumption) (by assumption) | exact fld_k_things (by assumption) (by assumption) | exact fld_ta_known (by assumption) (by assumption)
  | exact fld_t_rows (by assumption) (by assumption) (by assumption) | exact fld_t_run1 (by assumption) (by assumption) (by assumption) (by assumption) | exact fld_t_runs (by assumption) (by assumption) (by assumption) | exact fld_t_maker (by assumption) (by assumption) (by assumption) | exact fld_tr_rows (by assumption) (by assumption) | exact fld_tr_rb (by assumption) (by assumption) | exact fld_tr_ever (by assumption) (by assumption)
  | exact fld_h_number (by assumption) (by assumption) | exact fld_h_thing (by assumption) (by assumption) | exact fld_h_rights (by assumption) (by assumption) | exact fld_h_giver (by assumption) (by assumption) | exact fld_h_holder (by assumption) (by assumption))
local macro_rules | `(tactic| walk_at "get") => `(tactic| first
  | assumption
  | exact get_kn1 (by assumption) (by assumption) | exact get_kn0 (by assumption) (by assumption) | exact get_rw1 (by assumption) (by assumption) | exact get_rw0 (by assumption) (by assumption)
  | exact get_rb1 (by assumption) (by assumption) | exact get_rb0 (by assumption) (by assumption) | exact get_th1 (by assumption) (by assumption) | exact get_th0 (by assumption) (by assumption))
local macro_rules | `(tactic| walk_at "ins") => `(tactic| first | exact insTa (by assumption) rfl | exact insTr (by assumption) rfl)
local macro_rules | `(tactic| walk_at "s") => `(tactic| first
  | refine ⟨_, rfl, ?_⟩
  | refine ⟨rfl, ?_⟩
  | refine zI fun _ => ?_
  | with_reducible refine iteF ?_ | with_reducible refine iteT ?_
  | ((with_reducible refine iteDy ?_ ?_); focus (walk_at "c"; done)) | ((with_reducible refine iteDn ?_ ?_); focus (walk_at "c"; done)) | ((with_reducible refine iteNy ?_ ?_); focus (walk_at "c"; done)) | ((with_reducible refine iteNn ?_ ?_); focus (walk_at "c"; done))
  | refine fldI (by walk_at "fld") ?_
  | refine getI (by walk_at "get") ?_ | refine getS (by walk_at "get") ?_
  | refine ⟨by walk_at "ins", ?_⟩
  | refine ⟨_, _, _, _, true, rfl, .ty _, .base (.str _), kit_ty (by decide +kernel), ?_⟩
  | refine ⟨_, _, _, _, true, rfl, .ty _, .base (.int _), kit_ty (by decide +kernel), ?_⟩
  | refine ⟨_, _, _, _, false, rfl, .ty _, .base (.int _), kit_ty (by decide +kernel), ?_⟩
  | refine ⟨_, _, rfl, rfl, ?_⟩
  | refine ⟨_, _, rfl, rfl, trivial, ?_⟩)
local macro_rules | `(tactic| walk_at "w") => `(tactic| repeat (walk_at "s"))
/-- the words that the law sends -/
def isW (s : Str) : Prop := s = "hi" ∨ s = "" ∨ s = "in"
theorem isW_ok {s : Str} (h : isW s) : s.length ≤ 2 ∧ ∀ c, c ∈ s.cps.toList → c = 104 ∨ c = 105 ∨ c = 110 := by
  rcases h with rfl | rfl | rfl <;> exact ⟨by decide, by decide⟩
section
variable {P : Program} {w : World} {K : PySem.W.Frag} {mg : Str → Option Value} {base : Heap} (G : Gx K mg base)
include G
def sp_are_words (K : PySem.W.Frag) : Sp := fun vs H Q E => ∃ s, vs = [.str s] ∧ isW s ∧ ∀ H', Al H H' → Q (.bl true) H'
omit G in
theorem sc_are_words : FnScope ["thing", "sign"] ["thing"] (defScope s_are_words) := ⟨rfl, rfl, rfl, by decide +kernel, rfl, by decide +kernel, by decide +kernel⟩
theorem ok_are_words : FnR P w K mg base (L2.CX P w) 1 (He.ga K "are_words") (sp_are_words K) := by
  refine mkF (k := 0) G.f_are_words sc_are_words (fun _ _ _ _ _ _ us hl => match us, hl with | [_], _ => rfl) (fun vs H Q E h => by repeat (first | (obtain ⟨e, _⟩ := h; cases e; rfl; done) | obtain ⟨_, h⟩ := h)) (fun cdv A outer s H vs Q E hr h => ?_)
  have S := sc_are_words
  obtain ⟨z, rfl, hz, k⟩ := h
  refine ⟨_, (pss_cons (ps_if (PW.pt (pw_or (pt_not (pt_val (pe_callB call_isi (by rfl) G.b_isinstance (by decide +kernel) (pa_cons (pv 0) (pa_cons (pe_ty (T := "str") rfl G.b_str (by decide +kernel)) pa_nil))))) (pw_or1 (pt_cmpR op_gt (pe_callB call_len (by rfl) G.b_len PySem.boot_len (pa_cons (pv 0) pa_nil)) (pe_ci rfl G.c_MOST_SIGNS) (nomark _))))) (pss_one (ps_ret pe_bl)) pss_nil)
      (pss_one (ps_ret (pe_callB (cr_all rfl) (by rfl) G.b_all (by decide +kernel) (pa_cons (by exact (pe_lcz (own := [("sign", 1)]) rfl S.nd (pi_str (pv 0)) (blkOk_by (own := [("sign", 1)]) (N := ["thing", "sign"]) (sc := defScope s_are_words) (by decide +kernel)) (fun _ => (pg_name (i := 1) S.nd rfl (by first | exact Or.inl rfl | exact Or.inr rfl))) (fun _ => pts_nil) (fun _ => (pe_and (pe_cmpR op_le_str pe_str (pv 1) (nomark _)) (pe_and (pe_cmpR op_le_str (pv 1) pe_str (nomark _)) (pe_one (pe_cmpR op_ne (pe_callB call_ord (by rfl) G.b_ord (by decide +kernel) (pa_cons (pv 1) pa_nil)) (pe_ci rfl G.c_PERCENT) (nomark _)))))))) pa_nil))))), ?_⟩
  obtain ⟨hz2, hzc⟩ := isW_ok hz
  have hs : z.length ≤ sizeLine := by rw [sizeLine_eq]; omega
  walk_at "w"
  refine ⟨_, _, rfl, ⟨hs, rfl⟩, ?_⟩
  have h20 : ¬ (20 : Int) < (z.length : Int) := by omega
  walk_at "w"
  refine lcR walk_str (fun i => (z.cps[i]?).map fun c => V.bl true) hs (fun _ _ => trivial) (fun i x H2 H3 hi a y N1 N2 hy hn => ?_) (fun H2 D a e => ?_)
  · obtain ⟨rfl, c, hc, rfl⟩ := y
    rw [hc] at hy
    have hcm : c ∈ z.cps.toList := by
      have := Array.mem_of_getElem? hc
      simpa using this
    rcases hzc c hcm with rfl | rfl | rfl
    all_goals
      walk_at "w"
      refine hy _ _ ?_ (Al.refl _)
      first | rfl | (show some (V.bl true) = some (V.bl _); congr 2) | (show some (V.bl true) = some (V.bl _); simp)
  · walk_at "w"
    have e2 : (List.range z.cps.size).filterMap (fun i => (z.cps[i]?).map fun c => V.bl true) = (z.cps.toList.map fun c => true).map V.bl := by
      have e3 := filterMap_range z.cps.toList (fun i => (z.cps[i]?).map fun c => V.bl true) (fun c => some (V.bl true)) (fun i c e => by
        rw [Array.getElem?_toList] at e
        rw [e]; rfl)
      rw [Array.length_toList] at e3
      rw [e3, List.map_map, List.filterMap_eq_map']
      rfl
    rw [e2] at e
    refine ⟨D, _, rfl, sqL_at e, ?_⟩
    have e4 : (z.cps.toList.map fun c => true).all id = true := by rw [List.all_map]; simp
    rw [e4]
    exact k _ a
def sp_Letter_init (K : PySem.W.Frag) : Sp := fun vs H Q E => ∃ x dx ws pt, vs = [.ref x, .str ws, .ref pt] ∧ H x = some (.ins (He.ga K "Letter") dx []) ∧ ∀ H', H' x = some (.ins (He.ga K "Letter") dx (ltF ws pt)) → (∀ b o, b ≠ x → H b = some o → H' b = some o) → Q .non H'
omit G in
theorem sc_Letter_init : FnScope ["self", "words", "parts"] ["self", "words", "parts"] (defScope s_Letter_init) := ⟨rfl, rfl, rfl, by decide +kernel, rfl, by decide +kernel, by decide +kernel⟩
theorem ok_Letter_init : MkR P w K mg base 1 (He.ga K "Letter") (sp_Letter_init K) := by
  refine mkI (k := 0) G.k_Letter G.f_Letter_init sc_Letter_init (fun _ _ _ _ _ _ us hl => match us, hl with | [_, _, _], _ => rfl) (fun vs H Q E h => by repeat (first | (obtain ⟨e, _⟩ := h; cases e; rfl; done) | obtain ⟨_, h⟩ := h)) (fun cdv A outer s H vs Q E hr h => ?_)
  have S := sc_Letter_init
  obtain ⟨x, dx, ws, pt, rfl, hx, k⟩ := h
  refine ⟨_, (pss_cons (ps_fld (pv 0) (pv 1) rfl)
      (pss_one (ps_fld (pv 0) (pv 2) rfl))), ?_⟩
  walk_at "w"
  refine ⟨_, _, _, _, rfl, hx, G.cl_Letter, G.n_Letter_words, by show (0 : Nat) < 1000; decide, ?_⟩
  walk_at "w"
  refine ⟨_, _, _, _, rfl, upd_same, G.cl_Letter, G.n_Letter_parts, by show (1 : Nat) < 1000; decide, ?_⟩
  walk_at "w"
  exact k _ (by rw [upd_same]; rfl) (fun b o hb e => by rw [upd_ne hb, upd_ne hb]; exact e)
def sp_door_at (K : PySem.W.Frag) : Sp := fun vs H Q E => ∃ tg m x n h d, vs = [.ref m.k, .ref x, .str d] ∧ Rep K H tg m ∧ HdAt K H x n h ∧ h.thing < m.nth ∧ Er K H E ∧ (∀ ls, m.thg h.thing = .door ls → Q (.ref (m.tha h.thing)) H)
omit G in
theorem sc_door_at : FnScope ["kernel", "handle", "deed", "thing"] ["kernel", "handle", "deed"] (defScope s_door_at) := ⟨rfl, rfl, rfl, by decide +kernel, rfl, by decide +kernel, by decide +kernel⟩
theorem ok_door_at : FnR P w K mg base (L2.CX P w) 13 (He.ga K "door_at") (sp_door_at K) := by
  refine mkF (k := 12) G.f_door_at sc_door_at (fun _ _ _ _ _ _ us hl => match us, hl with | [_, _, _], _ => rfl) (fun vs H Q E h => by repeat (first | (obtain ⟨e, _⟩ := h; cases e; rfl; done) | obtain ⟨_, h⟩ := h)) (fun cdv A outer s H vs Q E hr h => ?_)
  have S := sc_door_at
  obtain ⟨tg, m, x, n, h, d, rfl, R, hx, hi, er, k⟩ := h
  refine ⟨_, (pss_cons (ps_set (i := 3) S.nd rfl (by first | exact Or.inl rfl | exact Or.inr rfl) (pe_dget (hu_of hr) (pe_fd (pv 0)) (pe_fd (pv 1)) (fun _ _ => rfl)))
      (pss_cons (ps_if (pt_cmpR op_ne (pe_d0 (k := 12) (hr.mono (by omega)) tkd (pv 3)) pe_str (nomark _)) (pss_one (ps_rI (oex_NoDeed G) (ok_NoDeed_init G).choose_spec.1 (ok_NoDeed_init G).choose_spec.2 (hr.mono (by omega)) tkd rfl G.g_NoDeed (pv 2) rfl)) pss_nil)
      (pss_one (ps_ret (pv 3))))), ?_⟩
  walk_at "w"
  obtain ⟨C, dx, fs, f, ek, lk, clk, mk, Fk⟩ := kind_ex (P := P) (w := w) G R (i := h.thing) hi
  refine ⟨_, C, dx, fs, f, _, rfl, ek, lk, clk, mk, Fk, ?_⟩
  walk_at "w"
  by_cases hd : ∃ ls, m.thg h.thing = .door ls
  · obtain ⟨ls, e⟩ := hd
    have ek : kindS (m.thg h.thing) = "door" := by rw [e]; rfl
    rw [ek]
    walk_at "w"
    exact k ls e
  · have ek : ¬ V.str (kindS (m.thg h.thing)) = V.str "door" := fun z => by
      have z := V.str.inj z
      cases e : m.thg h.thing with
      | door ls => exact hd ⟨ls, e⟩
      | cell => rw [e] at z; exact absurd z (by decide)
      | line => rw [e] at z; exact absurd z (by decide)
      | post a b => rw [e] at z; exact absurd z (by show ¬ ("post" : Str) = "door"; decide)
    walk_at "w"
    exact fun d' H' al => er _ _ _ (xc G.e_NoDeed) al
def NpOk (m : Mo) (ns : List Nat) : Prop := ∀ n, n ∈ ns → 32 &&& (m.row n).rights = 32 ∧ m.dep n < 40
def sp_need_passing (K : PySem.W.Frag) : Sp := fun vs H Q E => ∃ tg m a ns us, vs = [.ref m.k, .ref a] ∧ Rep K H tg m ∧ WT m ∧ H a = some (.lst us) ∧ Ali (HdR K m H) ns us ∧ (∀ n, n ∈ ns → n ∈ m.keys) ∧ Er K H E ∧ (NpOk m ns → ∀ H', Al H H' → Q .non H')
omit G in
theorem sc_need_passing : FnScope ["kernel", "handles", "handle"] ["kernel", "handles"] (defScope s_need_passing) := ⟨rfl, rfl, rfl, by decide +kernel, rfl, by decide +kernel, by decide +kernel⟩
theorem ok_need_passing : FnR P w K mg base (L2.CX P w) 51 (He.ga K "need_passing") (sp_need_passing K) := by
  refine mkF (k := 50) G.f_need_passing sc_need_passing (fun _ _ _ _ _ _ us hl => match us, hl with | [_, _], _ => rfl) (fun vs H Q E h => by repeat (first | (obtain ⟨e, _⟩ := h; cases e; rfl; done) | obtain ⟨_, h⟩ := h)) (fun cdv A outer s H vs Q E hr h => ?_)
  have S := sc_need_passing
  obtain ⟨tg, m, a, ns, us, rfl, R, W, ea, hal, hk, er, k⟩ := h
  refine ⟨_, (pss_cons (ps_for pod rfl (pi_list (pv 1)) (pg_name (i := 2) S.nd rfl (by first | exact Or.inl rfl | exact Or.inr rfl)) (pss_one (ps_expr (pe_f (ok_need_rights G) (hr.mono (by omega)) rfl G.g_need_rights (kp_of G.f_need_rights) tkd (pa_cons (pe_ci rfl G.c_PASS) (pa_cons (pe_fd (pv 2)) pa_nil))))))
      (pss_one (ps_for pod rfl (pi_list (pv 1)) (pg_name (i := 2) S.nd rfl (by first | exact Or.inl rfl | exact Or.inr rfl)) (pss_one (ps_if (pt_cmpR op_ge (pe_callB call_len (by rfl) G.b_len PySem.boot_len (pa_cons (pe_m (ok_Tree_chain G) (hr.mono (by omega)) G.cl_Tree G.m_Tree_chain tkd (pe_fd (pv 0)) (pa_cons (pe_fd (pv 2)) pa_nil)) pa_nil)) (pe_ci rfl G.c_MOST_CHAIN_letters) (nomark _)) (pss_one (ps_raise rfl tkd (pmk_own PySem.F.excBase_ValueError G.x_TooMany.1 G.g_TooMany G.x_TooMany.2.1 (raises_own G.x_TooMany.2.2.1 G.x_TooMany.2.2.2) rfl))) pss_nil))))), ?_⟩
  walk_at "w"
  refine ⟨⟨_, sqL_at ea⟩, ?_⟩
  refine for_list (xs := us) (fun i σ H' => (∃ v2, σ = [some (.ref m.k), some (.ref a), v2]) ∧ H' = H ∧ ∀ n, n ∈ ns.take i → 32 &&& (m.row n).rights = 32) ?_ ?_ ?_ ?_
  · exact ⟨⟨_, rfl⟩, rfl, fun n h => by simp at h⟩
  · rintro i σ H' hi ⟨_, rfl, _⟩
    exact sqL_at ea
  · rintro i x σ H' hx ⟨⟨v2, rfl⟩, rfl, hp⟩
    obtain ⟨n, hn, xh, rfl, hh⟩ := hal.get hx
    have hnk := hk n (List.mem_of_getElem? hn)
    walk_at "w"
    refine ⟨32, (m.row n).rights, rfl, by decide, W.rg n hnk, fun _ => er, fun h32 => ?_⟩
    walk_at "w"
    refine ⟨⟨_, rfl⟩, rfl, fun n' hn' => ?_⟩
    rw [List.take_succ, hn, List.mem_append] at hn'
    rcases hn' with hn' | hn'
    · exact hp n' hn'
    · simp at hn'; rw [hn']; exact h32
  · rintro σ H' ⟨⟨v2, rfl⟩, rfl, hp⟩
    rw [← hal.1, List.take_length] at hp
    walk_at "w"
    refine ⟨⟨_, sqL_at ea⟩, ?_⟩
    refine for_list (xs := us) (fun i σ H2 => (∃ v2, σ = [some (.ref m.k), some (.ref a), v2]) ∧ Al H' H2 ∧ ∀ n, n ∈ ns.take i → m.dep n < 40) ?_ ?_ ?_ ?_
    · exact ⟨⟨_, rfl⟩, Al.refl _, fun n h => by simp at h⟩
    · rintro i σ H2 hi ⟨_, al, _⟩
      exact sqL_at (al.lst ea)
    · rintro i x σ H2 hx ⟨⟨v2, rfl⟩, al, hd⟩
      obtain ⟨n, hn, xh, rfl, hh⟩ := hal.get hx
      have hnk := hk n (List.mem_of_getElem? hn)
      have hh2 := hh.al al
      have R2 := R.al al
      walk_at "w"
      refine ⟨tg, m, n, rfl, R2, W, fun h => absurd hnk h, fun _ H3 p xs a3 e3 hl => ?_⟩
      walk_at "w"
      refine ⟨_, _, rfl, .inl ⟨_, sqL_at e3, rfl⟩, ?_⟩
      rw [hl]
      by_cases h40 : m.dep n < 40
      · have h40' : ¬ (40 : Int) ≤ (m.dep n : Int) := by omega
        walk_at "w"
        refine ⟨⟨_, rfl⟩, al.trans a3, fun n' hn' => ?_⟩
        rw [List.take_succ, hn, List.mem_append] at hn'
        rcases hn' with hn' | hn'
        · exact hd n' hn'
        · simp at hn'; rw [hn']; exact h40
      · have h40' : (40 : Int) ≤ (m.dep n : Int) := by omega
        walk_at "w"
        exact er _ _ _ (xc G.e_TooMany) (al.trans a3)
    · rintro σ H2 ⟨⟨v2, rfl⟩, al, hd⟩
      rw [← hal.1, List.take_length] at hd
      walk_at "w"
      exact k (fun n hn => ⟨hp n hn, hd n hn⟩) _ al
end
end Pk
end
/-! PkSend -/
section
set_option maxHeartbeats 4000000
namespace Pk
open PySem PySem.Spec PyProof.Rows L2
/-! ### tags that tell the truth -/
open Classical in
noncomputable def cln (K : PySem.W.Frag) (m : Mo) (tg : Tag) : Tag := fun b => match tg b with
  | none => none
  | some r => if ∃ φ, m.cell K r = some (b, φ) then some r else none
section
variable {K : PySem.W.Frag} {H H' : Hp} {tg tg' : Tag} {m : Mo}
theorem cln_some {b : Addr} {r : Ro} (h : cln K m tg b = some r) : tg b = some r ∧ ∃ φ, m.cell K r = some (b, φ) := by
  unfold cln at h
  split at h
  · cases h
  · rename_i r' e
    split at h
    · rename_i q
      cases h
      exact ⟨e, q⟩
    · cases h
theorem cln_none {b : Addr} (h : tg b = none) : cln K m tg b = none := by
  unfold cln
  rw [h]
theorem cln_free {p : Addr} (hf : ∀ r ψ, m.cell K r ≠ some (p, ψ)) : cln K m tg p = none := by
  cases e : cln K m tg p with
  | none => rfl
  | some r =>
    obtain ⟨_, φ, q⟩ := cln_some e
    exact absurd q (hf r φ)
theorem cln_at {b : Addr} {r : Ro} {φ : HO → Prop} (h : tg b = some r) (e : m.cell K r = some (b, φ)) : cln K m tg b = some r := by
  unfold cln
  rw [h]
  exact if_pos ⟨φ, e⟩
theorem Rep.cln (R : Rep K H tg m) : Rep K H (Pk.cln K m tg) m := by
  refine ⟨fun r a φ e => ?_, fun i ls hi e l hl => ?_⟩
  · obtain ⟨t, q⟩ := R.cell r a φ e
    exact ⟨cln_at t e, q⟩
  · obtain ⟨dx, ws, pt, e1, e2, t1, t2⟩ := R.lets i ls hi e l hl
    exact ⟨dx, ws, pt, e1, e2, cln_none t1, cln_none t2⟩
theorem Stp.cln (s : Stp H tg H' tg') : Stp H tg H' (Pk.cln K m tg') := ⟨s.keep, fun b o e n t => cln_none (s.tag b o e n t), s.tabs⟩
/-- a handle's object is none of the kernel's but a handle -/
theorem cln_hd (R : Rep K H tg m) {x : Addr} {n : Nat} {h : Hd} (hx : HdAt K H x n h) : Pk.cln K m tg x ≠ some .rw ∧ Pk.cln K m tg x ≠ some .rb ∧ Pk.cln K m tg x ≠ some .tr ∧ ∀ k, Pk.cln K m tg x ≠ some (.kid k) := by
  obtain ⟨dx, hx⟩ := hx
  refine ⟨fun z => ?_, fun z => ?_, fun z => ?_, fun k z => ?_⟩
  · obtain ⟨_, φ, q⟩ := cln_some z
    simp only [Mo.cell] at q
    obtain ⟨rfl, _⟩ := Prod.mk.inj (Option.some.inj q)
    rw [R.rw] at hx; cases hx
  · obtain ⟨_, φ, q⟩ := cln_some z
    simp only [Mo.cell] at q
    obtain ⟨rfl, _⟩ := Prod.mk.inj (Option.some.inj q)
    rw [R.rb] at hx; cases hx
  · obtain ⟨_, φ, q⟩ := cln_some z
    simp only [Mo.cell] at q
    obtain ⟨rfl, _⟩ := Prod.mk.inj (Option.some.inj q)
    obtain ⟨d2, e⟩ := R.tr
    rw [e] at hx
    have e2 : trF m.ever m.rw m.rb = hF n h := by injection hx with e3; injection e3
    have e3 : (3 : Nat) = 5 := congrArg List.length e2
    omega
  · obtain ⟨_, φ, q⟩ := cln_some z
    simp only [Mo.cell] at q
    split at q
    · rename_i hk
      obtain ⟨rfl, _⟩ := Prod.mk.inj (Option.some.inj q)
      rw [R.kid hk] at hx; cases hx
    · cases q
/-- the letters of a door -/
theorem Rep.setDoor (R : Rep K H tg m) {i : Nat} {ls ls' : List Lt} (hi : i < m.nth) (hd : m.thg i = .door ls) (hl : ∀ l, l ∈ ls' → LtOk K H tg l) : Rep K (L2.upd H (m.thb i) (.lst (ls'.map fun l => V.ref l.at_))) tg (m.wg (nput m.thg i (.door ls'))) := by
  have h0 : m.cell K (.sub i) = some (m.thb i, fun o => o = .lst (ls.map fun l => V.ref l.at_)) := by simp only [Mo.cell]; rw [if_pos hi, hd]
  have h1 : (m.wg (nput m.thg i (.door ls'))).cell K (.sub i) = some (m.thb i, fun o => o = .lst (ls'.map fun l => V.ref l.at_)) := by
    simp only [Mo.cell, if_pos hi, nput_at]
  have ts := (R.cell _ _ _ h0).1
  refine R.upd h0 h1 rfl (fun r' hr x e => ?_) (fun k l2 hk e l hl2 => ?_)
  · cases r' with
    | sub k =>
      have hk : k ≠ i := fun z => hr (by rw [z])
      simp only [Mo.cell, nput_ne hk] at e ⊢
      exact e
    | thg k =>
      by_cases hk : k = i
      · subst hk
        simp only [Mo.cell, nput_at, if_pos hi] at e
        simp only [Mo.cell, if_pos hi, hd]
        exact e
      · simp only [Mo.cell, nput_ne hk] at e ⊢
        exact e
    | _ => exact e
  · by_cases hki : k = i
    · subst hki
      have e' : nput m.thg k (.door ls') k = .door l2 := e
      rw [nput_at] at e'
      cases e'
      exact (hl l hl2).upd ts
    · have e' : nput m.thg i (.door ls') k = .door l2 := e
      rw [nput_ne hki] at e'
      exact (R.lets k l2 hk e' l hl2).upd ts
end
/-! ### a letter's handles -/
structure Snd (m m' : Mo) (ns : List Nat) (r k : Nat) (ps : List Nat) : Prop where
  wf : Wf m'
  ever : m'.ever = m.ever + k
  keys : ∀ n, n ∈ m.keys → n ∈ m'.keys
  back : ∀ n, n ∈ m'.keys → n ∈ m.keys ∨ m.ever ≤ n
  row : ∀ n, n < m.ever → m'.row n = m.row n
  dep : ∀ n, n < m.ever → m'.dep n = m.dep n
  new : ∀ p, p ∈ ps → p < m'.ever ∧ ∃ n, n ∈ ns ∧ (m'.row p).thing = (m.row n).thing ∧ (m'.row p).rights = (m.row n).rights &&& r
  len : ps.length = k
  adr : m'.k = m.k ∧ m'.tr = m.tr ∧ m'.ta = m.ta ∧ m'.kn = m.kn ∧ m'.th = m.th ∧ m'.rw = m.rw ∧ m'.rb = m.rb
  nms : m'.names = m.names ∧ m'.task = m.task ∧ m'.tka = m.tka ∧ m'.tsa = m.tsa
  ths : m'.nth = m.nth ∧ m'.thg = m.thg ∧ m'.tha = m.tha ∧ m'.thb = m.thb
theorem Snd.refl {m : Mo} {ns : List Nat} {r : Nat} (w : Wf m) : Snd m m ns r 0 [] :=
  ⟨w, rfl, fun _ h => h, fun _ h => .inl h, fun _ _ => rfl, fun _ _ => rfl, fun p h => (by cases h), rfl, ⟨rfl, rfl, rfl, rfl, rfl, rfl, rfl⟩, ⟨rfl, rfl, rfl, rfl⟩, ⟨rfl, rfl, rfl, rfl⟩⟩
theorem and_le63 {a b : Nat} (h : a ≤ 63) : a &&& b ≤ 63 := Nat.le_trans Nat.and_le_left h
theorem Snd.ok {m m' : Mo} {ns ps : List Nat} {r k n : Nat} (s : Snd m m' ns r k ps) (w : Wf m) (hk : n ∈ m.keys) (hd : m.dep n < 40) : DerOk m' n ((m.row n).rights &&& r) := by
  have hlt := w.t.lt n hk
  refine ⟨s.keys n hk, ?_, by rw [s.dep n hlt]; exact hd⟩
  rw [s.row n hlt, Nat.and_assoc, Nat.and_comm r, ← Nat.and_assoc, Nat.and_self]
theorem Snd.step {m m' : Mo} {ns ps : List Nat} {r k n : Nat} {x kx : Addr} (s : Snd m m' ns r k ps) (w : Wf m) (hn : n ∈ ns) (hk : n ∈ m.keys) (hd : m.dep n < 40) (hev : m.ever + k < 1000) : Snd m (m'.derH n ((m.row n).rights &&& r) "" x kx) ns r (k + 1) (ps ++ [m'.ever]) := by
  have hlt := w.t.lt n hk
  have ok := s.ok (r := r) w hk hd
  have he := s.ever
  have rowo : ∀ y, y ≠ m'.ever → (m'.derH n ((m.row n).rights &&& r) "" x kx).row y = m'.row y := fun y hy => nput_ne hy
  have rown : (m'.derH n ((m.row n).rights &&& r) "" x kx).row m'.ever = ⟨(m'.row n).thing, (m.row n).rights &&& r, some n, ""⟩ := nput_at
  refine ⟨s.wf.derH ok (and_le63 (w.t.rg n hk)) (by omega), ?_, fun y hy => ?_, fun y hy => ?_, fun y hy => ?_, fun y hy => ?_, fun p hp => ?_, by rw [List.length_append, s.len]; rfl, s.adr, s.nms, s.ths⟩
  · show m'.ever + 1 = m.ever + (k + 1)
    omega
  · show y ∈ m'.keys ++ [m'.ever]
    exact List.mem_append_left _ (s.keys y hy)
  · have hy' : y ∈ m'.keys ++ [m'.ever] := hy
    rcases List.mem_append.mp hy' with h | h
    · exact s.back y h
    · rw [List.mem_singleton.mp h]; exact .inr (by omega)
  · rw [rowo y (by omega)]; exact s.row y hy
  · show nput m'.dep m'.ever _ y = _
    rw [nput_ne (by omega)]; exact s.dep y hy
  · rcases List.mem_append.mp hp with h | h
    · obtain ⟨h1, n2, h3, h4, h5⟩ := s.new p h
      refine ⟨by show p < m'.ever + 1; omega, n2, h3, ?_, ?_⟩
      · rw [rowo p (by omega)]; exact h4
      · rw [rowo p (by omega)]; exact h5
    · rw [List.mem_singleton.mp h]
      refine ⟨by show m'.ever < m'.ever + 1; omega, n, hn, ?_, ?_⟩
      · rw [rown]; show (m'.row n).thing = _; rw [s.row n hlt]
      · rw [rown]
theorem Snd.ge {m m' : Mo} {ns ps : List Nat} {r k : Nat} (s : Snd m m' ns r k ps) (h : ∀ p, p ∈ ps → m.ever ≤ p) : ∀ p, p ∈ ps → m.ever ≤ p := h
/-- the model with the letters of a door -/
theorem Wf.setDoor {m : Mo} {i : Nat} {ls' : List Lt} (w : Wf m) (h8 : ls'.length ≤ 8) (h4 : ∀ l, l ∈ ls' → l.parts.length ≤ 4) (hp : ∀ l n, l ∈ ls' → n ∈ l.parts → n < m.ever) : Wf (m.wg (nput m.thg i (.door ls'))) := by
  have key : ∀ k (l2 : List Lt), nput m.thg i (.door ls') k = .door l2 → (k = i ∧ l2 = ls') ∨ m.thg k = .door l2 := fun k l2 e => by
    by_cases hk : k = i
    · subst hk; rw [nput_at] at e; cases e; exact .inl ⟨rfl, rfl⟩
    · rw [nput_ne hk] at e; exact .inr e
  refine { w with t := { w.t with }, k1 := w.k1, bd := ⟨w.bd.nms, w.bd.kys, w.bd.rws⟩, prt := fun k l2 l n hk e hl hn => ?_, post := fun k nm r hk e => ?_, door := fun k l2 hk e => ?_ }
  · rcases key k l2 e with ⟨_, rfl⟩ | e'
    · exact hp l n hl hn
    · exact w.prt k l2 l n hk e' hl hn
  · have e' : nput m.thg i (.door ls') k = .post nm r := e
    by_cases hki : k = i
    · subst hki; rw [nput_at] at e'; cases e'
    · rw [nput_ne hki] at e'; exact w.post k nm r hk e'
  · rcases key k l2 e with ⟨_, rfl⟩ | e'
    · exact ⟨h8, h4⟩
    · exact w.door k l2 hk e'
theorem step_send {m m' : Mo} {t : Str} {ns ps : List Nat} {r k i : Nat} {ls : List Lt} {xl : Addr} (w : Wf m) (s : Snd m m' ns r k ps) (ht : t ∈ m.names) (h4 : k ≤ 4) (hns : ∀ n, n ∈ ns → some n ∈ (m.task t).rows ∧ 32 &&& (m.row n).rights = 32) (hi : m.thg i = .door ls) :
    Step m (m'.wg (nput m'.thg i (.door (ls ++ [⟨xl, ps⟩])))) t := by
  obtain ⟨n1, n2, n3, n4⟩ := s.nms
  obtain ⟨t1, t2, t3, t4⟩ := s.ths
  have old : ∀ j (l2 : List Lt) l n x, j < m.nth → m.thg j = .door l2 → l ∈ l2 → n ∈ l.parts → n ∈ m'.keys → (m'.row n).thing = x.1 → (m'.row n).rights = x.2 → Dp m j x := fun j l2 l n x hj e hl hn hk e1 e2 => by
    have hlt := w.prt j l2 l n hj e hl hn
    rw [s.row n hlt] at e1 e2
    exact ⟨hj, l2, l, n, e, hl, hn, (s.back n hk).elim id fun z => absurd z (by omega), e1, e2⟩
  refine ⟨fun a x ⟨ha, n, hn, e1, e2⟩ => .inl ?_, fun j x ⟨hj, l2, l, n, q1, q2, q3, q4, q5, q6⟩ => ?_, fun a h => .inl ⟨?_, ?_⟩, fun a h => ?_, ?_, ?_, ?_, s.adr.1⟩
  · have ha' : a ∈ m'.names := ha
    rw [n1] at ha'
    have hn' : some n ∈ (m'.task a).rows := hn
    rw [n2] at hn'
    have hlt := w.t.lt n (w.slot a n ha' hn')
    have e1' : (m'.row n).thing = x.1 := e1
    have e2' : (m'.row n).rights = x.2 := e2
    rw [s.row n hlt] at e1' e2'
    exact ⟨ha', n, hn', e1', e2'⟩
  · have hj' : j < m'.nth := hj
    rw [t1] at hj'
    have q1' : nput m'.thg i (.door (ls ++ [⟨xl, ps⟩])) j = .door l2 := q1
    by_cases hji : j = i
    · subst hji
      rw [nput_at] at q1'
      cases q1'
      rcases List.mem_append.mp q2 with q2 | q2
      · exact .inl (old j ls l n x hj' hi q2 q3 q4 q5 q6)
      · rw [List.mem_singleton.mp q2] at q3
        obtain ⟨_, n0, h1, h2, h3⟩ := s.new n q3
        obtain ⟨g1, g2⟩ := hns n0 h1
        refine .inr ⟨((m.row n0).thing, (m.row n0).rights), ⟨ht, n0, g1, rfl, rfl⟩, g2, ?_, ?_⟩
        · rw [← q5]; exact h2
        · have q6' : (m'.row n).rights = x.2 := q6
          rw [← q6', h3, Nat.and_assoc, Nat.and_comm r, ← Nat.and_assoc, Nat.and_self]
    · rw [nput_ne hji, t2] at q1'
      exact .inl (old j l2 l n x hj' q1' q2 q3 q4 q5 q6)
  · have h1 : a ∈ m'.names := h.1
    rw [n1] at h1; exact h1
  · have h1 : (m'.task a).runs = true := h.2
    rw [n2] at h1; exact h1
  · show a ∈ m'.names
    rw [n1]; exact h
  · show m.nth ≤ m'.nth
    rw [t1]; exact Nat.le_refl _
  · show m'.ever ≤ m.ever + 5
    rw [s.ever]; omega
  · show m'.names.length ≤ m.names.length + 1
    rw [n1]; omega
/-! ### a letter heard -/
theorem Wf.setHold {m : Mo} {n : Nat} {s : Str} (w : Wf m) : Wf (m.setHold n s) := by
  have hr : ∀ y, ((m.setHold n s).row y).thing = (m.row y).thing ∧ ((m.setHold n s).row y).rights = (m.row y).rights ∧ ((m.setHold n s).row y).giver = (m.row y).giver := fun y => by
    by_cases h : y = n
    · subst h
      have e : (m.setHold y s).row y = { m.row y with holder := s } := nput_at
      rw [e]; exact ⟨rfl, rfl, rfl⟩
    · have e : (m.setHold n s).row y = m.row y := nput_ne h
      rw [e]; exact ⟨rfl, rfl, rfl⟩
  have t := w.t
  have t' : WT (m.setHold n s) := ⟨t.nd, t.lt, fun y hy => by rw [(hr y).2.1]; exact t.rg y hy, fun y hy => by rw [(hr y).1]; exact t.th y hy, fun y g hy e => by rw [(hr y).2.2] at e; exact t.gv y g hy e,
    fun y hy e => by rw [(hr y).2.2] at e; exact t.g0 y hy e, t.dp, t.knd, fun y c hy => by rw [(hr c).2.2]; exact t.kid y c hy, t.sz⟩
  exact { w with t := t', k1 := w.k1, bd := ⟨w.bd.nms, w.bd.kys, w.bd.rws⟩ }
structure Her (m m' : Mo) (t : Str) (qs : List Nat) : Prop where
  wf : Wf m'
  ever : m'.ever = m.ever
  keys : m'.keys = m.keys
  row : ∀ n, (m'.row n).thing = (m.row n).thing ∧ (m'.row n).rights = (m.row n).rights
  names : m'.names = m.names
  runs : ∀ s, (m'.task s).runs = (m.task s).runs
  rows : ∀ s n, some n ∈ (m'.task s).rows → some n ∈ (m.task s).rows ∨ (s = t ∧ n ∈ qs)
  nth : m'.nth = m.nth
  dr : ∀ i ls, m'.thg i = .door ls → ∃ ls0, m.thg i = .door ls0 ∧ ∀ l, l ∈ ls → l ∈ ls0
  fre : (m'.task t).rows.countP (·.isNone) + qs.length = (m.task t).rows.countP (·.isNone)
  adr : m'.k = m.k ∧ m'.tr = m.tr ∧ m'.ta = m.ta ∧ m'.kn = m.kn ∧ m'.th = m.th ∧ m'.tka = m.tka ∧ m'.tha = m.tha
theorem Her.step {m m' : Mo} {t : Str} {qs : List Nat} (h : Her m m' t qs) (w : Wf m) (ht : t ∈ m.names) {i : Nat} {r : Nat} (hr : 8 &&& r = 8) (hs : Sl m t (i, r)) (hq : ∀ n, n ∈ qs → Dp m i ((m.row n).thing, (m.row n).rights)) : Step m m' t := by
  refine ⟨fun a x ⟨ha, n, hn, e1, e2⟩ => ?_, fun j x ⟨hj, l2, l, n, q1, q2, q3, q4, q5, q6⟩ => .inl ?_, fun a q => .inl ⟨by rw [← h.names]; exact q.1, by rw [← h.runs]; exact q.2⟩, fun a q => by rw [h.names]; exact q, by rw [h.nth]; exact Nat.le_refl _, by rw [h.ever]; omega, by rw [h.names]; omega, h.adr.1⟩
  · rw [(h.row n).1] at e1
    rw [(h.row n).2] at e2
    rcases h.rows a n hn with h1 | ⟨rfl, h1⟩
    · exact .inl ⟨by rw [← h.names]; exact ha, n, h1, e1, e2⟩
    · refine .inr (.inr (.inr ⟨rfl, (i, r), hs, hr, ?_⟩))
      have e : x = ((m.row n).thing, (m.row n).rights) := Prod.ext e1.symm e2.symm
      rw [e]; exact hq n h1
  · rw [(h.row n).1] at q5
    rw [(h.row n).2] at q6
    rw [h.keys] at q4
    obtain ⟨ls0, e0, hl0⟩ := h.dr j l2 q1
    exact ⟨by rw [← h.nth]; exact hj, ls0, l, n, e0, hl0 l q2, q3, q4, q5, q6⟩
theorem countP_set {l : List (Option Nat)} {j n : Nat} (h : l[j]? = some none) : (l.set j (some n)).countP (·.isNone) + 1 = l.countP (·.isNone) := by
  induction l generalizing j with
  | nil => cases h
  | cons a r ih =>
    cases j with
    | zero =>
      have : a = none := by simpa using h
      subst this
      simp
    | succ j =>
      have h' : r[j]? = some none := by simpa using h
      have := ih h'
      simp only [List.set_cons_succ, List.countP_cons]
      omega
theorem Her.put {m m' : Mo} {t : Str} {qs : List Nat} {n j : Nat} (h : Her m m' t qs) (ht : t ∈ m.names) (hn : n ∈ m.keys) (hj : freeAt m' t j) : Her m ((m'.setHold n t).setRows t ((m'.task t).rows.set j (some n))) t (qs ++ [n]) := by
  have hr : ∀ y, ((m'.setHold n t).row y).thing = (m'.row y).thing ∧ ((m'.setHold n t).row y).rights = (m'.row y).rights := fun y => by
    by_cases hy : y = n
    · subst hy
      have e : (m'.setHold y t).row y = { m'.row y with holder := t } := nput_at
      rw [e]; exact ⟨rfl, rfl⟩
    · have e : (m'.setHold n t).row y = m'.row y := nput_ne hy
      rw [e]; exact ⟨rfl, rfl⟩
  have ht' : t ∈ m'.names := by rw [h.names]; exact ht
  have w1 : Wf ((m'.setHold n t).setRows t ((m'.task t).rows.set j (some n))) := (h.wf.setHold (n := n) (s := t)).setSlot (nm := t) (j := j) (n := n) ht' (by show n ∈ m'.keys; rw [h.keys]; exact hn)
  refine ⟨w1, h.ever, h.keys, fun y => ⟨(hr y).1.trans (h.row y).1, (hr y).2.trans (h.row y).2⟩, h.names, fun s => ?_, fun s k hk => ?_, h.nth, h.dr, ?_, h.adr⟩
  · rw [setRows_task]
    by_cases e : s = t
    · rw [if_pos e, e]; exact h.runs t
    · rw [if_neg e]; exact h.runs s
  · rcases setRows_mem (m := m'.setHold n t) hk with h1 | ⟨rfl, rfl⟩
    · rcases h.rows s k h1 with h2 | ⟨h2, h3⟩
      · exact .inl h2
      · exact .inr ⟨h2, List.mem_append_left _ h3⟩
    · exact .inr ⟨rfl, List.mem_append_right _ (List.mem_singleton.mpr rfl)⟩
  · rw [setRows_task, if_pos rfl]
    show ((m'.task t).rows.set j (some n)).countP (·.isNone) + (qs ++ [n]).length = _
    have := countP_set (n := n) hj.1
    rw [List.length_append, List.length_singleton]
    have := h.fre
    omega
theorem Her.take {m : Mo} {t : Str} {i : Nat} {l : Lt} {ls : List Lt} (w : Wf m) (hi : i < m.nth) (hd : m.thg i = .door (l :: ls)) : Her m (m.wg (nput m.thg i (.door ls))) t [] := by
  obtain ⟨h8, h4⟩ := w.door i _ hi hd
  refine ⟨w.setDoor (by simp only [List.length_cons] at h8; omega) (fun l' hl => h4 l' (List.mem_cons_of_mem _ hl)) (fun l' n hl hn => w.prt i _ l' n hi hd (List.mem_cons_of_mem _ hl) hn), rfl, rfl, fun _ => ⟨rfl, rfl⟩, rfl, fun _ => rfl, fun s n h => .inl h, rfl, fun j l2 e => ?_, rfl, ⟨rfl, rfl, rfl, rfl, rfl, rfl, rfl⟩⟩
  have e' : nput m.thg i (.door ls) j = .door l2 := e
  by_cases hji : j = i
  · subst hji
    rw [nput_at] at e'
    cases e'
    exact ⟨_, hd, fun l' hl => List.mem_cons_of_mem _ hl⟩
  · rw [nput_ne hji] at e'
    exact ⟨l2, e', fun _ h => h⟩
end Pk
end
/-! PkF28 -/
section
set_option maxHeartbeats 4000000
namespace Pk
open PySem PySem.Spec PyProof.Rows L2
local macro_rules | `(tactic| walk_at "c") => `(tactic| first | assumption | omega | exact rfl | (intro z; cases z; done) | (simp only [nV, V.int.injEq, V.str.injEq]; first | assumption | omega))
local macro_rules | `(tactic| walk_at "fld") => `(tactic| first
  | assumption
  | exact fld_k_tasks (by assumption) (by assumption) | exact fld_k_tree (by assumption) (by assumption) | exact fld_k_things (by assumption) (by assumption) | exact fld_ta_known (by assumption) (by assumption)
  | exact fld_t_rows (by assumption) (by assumption) (by assumption) | exact fld_t_run1 (by assumption) (by assumption) (by assumption) (by assumption) | exact fld_t_runs (by assumption) (by assumption) (by assumption) | exact fld_t_maker (by assumption) (by assumption) (by assumption) | exact fld_tr_rows (by assumption) (by assumption) | exact fld_tr_rb (by assumption) (by assumption) | exact fld_tr_ever (by assumption) (by assumption)
  | exact fld_h_number (by assumption) (by assumption) | exact fld_h_thing (by assumption) (by assumption) | exact fld_h_rights (by assumption) (by assumption) | exact fld_h_giver (by assumption) (by assumption) | exact fld_h_holder (by assumption) (by assumption))
local macro_rules | `(tactic| walk_at "get") => `(tactic| first
  | assumption
  | exact get_kn1 (by assumption) (by assumption) | exact get_kn0 (by assumption) (by assumption) | exact get_rw1 (by assumption) (by assumption) | exact get_rw0 (by assumption) (by assumption)
  | exact get_rb1 (by assumption) (by assumption) | exact get_rb0 (by assumption) (by assumption) | exact get_th1 (by assumption) (by assumption) | exact get_th0 (by assumption) (by assumption))
local macro_rules | `(tactic| walk_at "ins") => `(tactic| first | exact insTa (by assumption) rfl | exact insTr (by assumption) rfl)
local macro_rules | `(tactic| walk_at "s") => `(tactic| first
  | refine ⟨_, rfl, ?_⟩
  | refine ⟨rfl, ?_⟩
  | refine zI fun _ => ?_
  | with_reducible refine iteF ?_ | with_reducible refine iteT ?_
  | ((with_reducible refine iteDy ?_ ?_); focus (walk_at "c"; done)) | ((with_reducible refine iteDn ?_ ?_); focus (walk_at "c"; done)) | ((with_reducible refine iteNy ?_ ?_); focus (walk_at "c"; done)) | ((with_reducible refine iteNn ?_ ?_); focus (walk_at "c"; done))
  | refine fldI (by walk_at "fld") ?_
  | refine getI (by walk_at "get") ?_ | refine getS (by walk_at "get") ?_
  | refine ⟨by walk_at "ins", ?_⟩
  | refine ⟨_, _, _, _, true, rfl, .ty _, .base (.str _), kit_ty (by decide +kernel), ?_⟩
  | refine ⟨_, _, _, _, true, rfl, .ty _, .base (.int _), kit_ty (by decide +kernel), ?_⟩
  | refine ⟨_, _, _, _, false, rfl, .ty _, .base (.int _), kit_ty (by decide +kernel), ?_⟩
  | refine ⟨_, _, rfl, rfl, ?_⟩
  | refine ⟨_, _, rfl, rfl, trivial, ?_⟩)
local macro_rules | `(tactic| walk_at "w") => `(tactic| repeat (walk_at "s"))
theorem slotAt_mem {m : Mo} {t : Str} {z : Int} {n : Nat} (h : slotAt m t z = some n) : some n ∈ (m.task t).rows := by
  unfold slotAt at h
  split at h
  · cases e : (m.task t).rows[z.toNat]? with
    | none => rw [e] at h; cases h
    | some o =>
      rw [e] at h
      have : o = some n := h
      rw [← this]
      exact List.mem_of_getElem? e
  · cases h
section
variable {P : Program} {w : World} {K : PySem.W.Frag} {mg : Str → Option Value} {base : Heap} (G : Gx K mg base)
include G
def sp_send (K : PySem.W.Frag) : Sp := fun vs H Q E => ∃ tg m t z ws sa r, ∃ zs : List Int, vs = [.ref m.k, .str t, .int z, .str ws, .ref sa, nV r] ∧ Kn K H tg m ∧ isW ws ∧ SqA K H sa (zs.map V.int) ∧ zs.length ≤ 1000 ∧ r ≤ 63 ∧ m.ever + 5 < 1000 ∧ Er K H E ∧
  (∀ H' tg' m' v, Stp H tg H' tg' → Kn K H' tg' m' → Step m m' t → m'.task = m.task → Q v H')
omit G in
theorem sc_send : FnScope ["kernel", "task", "slot", "words", "slots", "rights", "handle", "door", "handles", "parts", "one"] ["kernel", "task", "slot", "words", "slots", "rights"] (defScope s_send) := ⟨rfl, rfl, rfl, by decide +kernel, rfl, by decide +kernel, by decide +kernel⟩
theorem send_body (cdv : Value) (A : Around) (outer : List Env) (s : Shared) (H : Hp) (vs : List V) (Q : VK) (E : XK) (hr : Room 51 (A.deeper (envOfC "send" (defScope s_send) s.heap.objs.size (He.ga K "send") cdv))) (h : sp_send K vs H Q E) :
    ∃ t, PSs (cxOf (L2.CX P w) P w K mg base ["kernel", "task", "slot", "words", "slots", "rights", "handle", "door", "handles", "parts", "one"] "send" (defScope s_send) (He.ga K "send") cdv A outer s H E) (defBody s_send) t ∧ t { nx := fun _ H' => Q .non H', rt := Q } (L2.start ["kernel", "task", "slot", "words", "slots", "rights", "handle", "door", "handles", "parts", "one"] vs) H := by
  have S := sc_send
  obtain ⟨tg, m, t, z, ws, sa, r, zs, rfl, KN, hw, hsq, hzs, hr63, hev, er, k⟩ := h
  have R := KN.r
  refine ⟨_, (pss_cons (ps_set (i := 6) S.nd rfl (by first | exact Or.inl rfl | exact Or.inr rfl) (pe_f (ok_handle_at G) (hr.mono (by omega)) rfl G.g_handle_at (kp_of G.f_handle_at) tkd (pa_cons (pv 0) (pa_cons (pv 1) (pa_cons (pv 2) pa_nil)))))
      (pss_cons (ps_set (i := 7) S.nd rfl (by first | exact Or.inl rfl | exact Or.inr rfl) (pe_f (ok_door_at G) (hr.mono (by omega)) rfl G.g_door_at (kp_of G.f_door_at) tkd (pa_cons (pv 0) (pa_cons (pv 6) (pa_cons pe_str pa_nil)))))
      (pss_cons (ps_if (pt_not (pt_val (pe_f (ok_are_words G) (hr.mono (by omega)) rfl G.g_are_words (kp_of G.f_are_words) tkd (pa_cons (pv 3) pa_nil)))) (pss_one (ps_raise rfl tkd (pmk_own PySem.F.excBase_ValueError G.x_NoWords.1 G.g_NoWords G.x_NoWords.2.1 (raises_own G.x_NoWords.2.2.1 G.x_NoWords.2.2.2) rfl))) pss_nil)
      (pss_cons (ps_if (pt_cmpR op_isN (pv 4) pe_non (nomark _)) (pss_one (ps_set (i := 4) S.nd rfl (by first | exact Or.inl rfl | exact Or.inr rfl) (pe_lst pa_nil))) pss_nil)
      (pss_cons (ps_if (pt_cmpR op_gt (pe_callB call_len (by rfl) G.b_len PySem.boot_len (pa_cons (pv 4) pa_nil)) (pe_ci rfl G.c_MOST_PARTS) (nomark _)) (pss_one (ps_raise rfl tkd (pmk_own PySem.F.excBase_ValueError G.x_TooMany.1 G.g_TooMany G.x_TooMany.2.1 (raises_own G.x_TooMany.2.2.1 G.x_TooMany.2.2.2) rfl))) pss_nil)
      (pss_cons (by exact (ps_setLcX (i := 8) (own := [("one", 10)]) tkd rfl rfl rfl S.nd rfl rfl (sw_true rfl rfl rfl (by decide +kernel)) (pi_seq (pv 4)) (blkOk_by (own := [("one", 10)]) (N := ["kernel", "task", "slot", "words", "slots", "rights", "handle", "door", "handles", "parts", "one"]) (sc := defScope s_send) (by decide +kernel)) (fun _ => (pg_name (i := 10) S.nd rfl (by first | exact Or.inl rfl | exact Or.inr rfl))) (fun _ => pts_nil) (fun _ _ => (pe_fB (W := _) (σ0 := _) rfl (ok_handle_at G) (hr.mono (by omega)) rfl G.g_handle_at (kp_of G.f_handle_at) (pa_cons (pv 0) (pa_cons (pv 1) (pa_cons (pv 10) pa_nil)))))))
      (pss_cons (ps_if (pt_not (pt_val (pe_f (ok_is_rights G) (hr.mono (by omega)) rfl G.g_is_rights (kp_of G.f_is_rights) tkd (pa_cons (pv 5) pa_nil)))) (pss_one (ps_raise rfl tkd (pmk_own PySem.F.excBase_ValueError G.x_NoRights.1 G.g_NoRights G.x_NoRights.2.1 (raises_own G.x_NoRights.2.2.1 G.x_NoRights.2.2.2) rfl))) pss_nil)
      (pss_cons (ps_expr (pe_f (ok_need_rights G) (hr.mono (by omega)) rfl G.g_need_rights (kp_of G.f_need_rights) tkd (pa_cons (pe_ci rfl G.c_SEND) (pa_cons (pe_fd (pv 6)) pa_nil))))
      (pss_cons (ps_expr (pe_f (ok_need_passing G) (hr.mono (by omega)) rfl G.g_need_passing (kp_of G.f_need_passing) tkd (pa_cons (pv 0) (pa_cons (pv 8) pa_nil))))
      (pss_cons (ps_if (pt_cmpR op_ge (pe_callB call_len (by rfl) G.b_len PySem.boot_len (pa_cons (pe_m0 (ok_Door_letters G) (hr.mono (by omega)) G.cl_Door G.m_Door_letters tkd (pv 7)) pa_nil)) (pe_ci rfl G.c_MOST_WAITING_letters) (nomark _)) (pss_one (ps_raise rfl tkd (pmk_own PySem.F.excBase_ValueError G.x_Full.1 G.g_Full G.x_Full.2.1 (raises_own G.x_Full.2.2.1 G.x_Full.2.2.2) rfl))) pss_nil)
      (pss_cons (by exact (ps_setLcz (i := 9) (own := [("one", 10)]) rfl S.nd rfl rfl (sw_true rfl rfl rfl (by decide +kernel)) (pi_list (pv 8)) (blkOk_by (own := [("one", 10)]) (N := ["kernel", "task", "slot", "words", "slots", "rights", "handle", "door", "handles", "parts", "one"]) (sc := defScope s_send) (by decide +kernel)) (fun _ => (pg_name (i := 10) S.nd rfl (by first | exact Or.inl rfl | exact Or.inr rfl))) (fun _ => pts_nil) (fun _ => (pe_m (ok_Tree_derived G) (hr.mono (by omega)) G.cl_Tree G.m_Tree_derived takes0 (pe_fd (pv 0)) (pa_cons (pe_fd (pv 10)) (pa_cons (pe_f (ok_narrowed G) (hr.mono (by omega)) rfl G.g_narrowed (kp_of G.f_narrowed) takes0 (pa_cons (pe_fd (pv 10)) (pa_cons (pv 5) pa_nil))) (pa_cons pe_str pa_nil)))))))
      (pss_one (ps_ret (pe_d (k := 12) (hr.mono (by omega)) tkd (pv 7) (pa_cons pe_str (pa_cons (pe_mk (ok_Letter_init G) (hr.mono (by omega)) rfl G.g_Letter (pa_cons (pv 3) (pa_cons (pe_callTy call_tuple_of (by rfl) G.b_tuple (by decide +kernel) (pa_cons (pv 9) pa_nil)) pa_nil))) pa_nil)))))))))))))))), ?_⟩
  walk_at "w"
  refine ⟨tg, m, t, z, rfl, R, KN.w, fun _ => er, fun n hq hs hk H1 x1 a1 hx => ?_⟩
  have K1 := KN.al a1
  have R1 := K1.r
  have hth := KN.w.t.th n hk
  walk_at "w"
  refine ⟨tg, m, x1, n, m.row n, "send", rfl, R1, hx, hth, er.al a1, fun ls hls => ?_⟩
  walk_at "w"
  refine ⟨hw, fun H2 a2 => ?_⟩
  have a12 := a1.trans a2
  have hsq2 := hsq.al a12
  walk_at "w"
  refine ⟨_, _, rfl, lenA hsq2, ?_⟩
  have hrg := KN.w.t.rg n hk
  by_cases h4 : zs.length ≤ 4
  · have h4' : ¬ (4 : Int) < (((zs.map V.int).length : Nat) : Int) := by rw [List.length_map]; omega
    walk_at "w"
    refine seq_lc hsq2 fun J G0 Y wk hG hY => ?_
    refine LcB.fr (lcA wk (fun i => (zs[i]?).bind (slotAt m t)) (HdR K m) (fun H H' a v al ⟨x, e, h⟩ => ⟨x, e, h.al al⟩) (fun H D a v o hD o' ⟨x, e, dx, h⟩ => ⟨x, e, dx, by rw [upd_ne (fun z => by rw [z, hD] at h; cases h)]; exact h⟩) (by rw [List.length_map, sizeLine_eq]; omega) hG (fun i x H3 H4 hi a y N1 N2 hy hno => ?_) (fun H3 D us a3 e3 hal D' hD' hD => ?_))
    · obtain ⟨rfl, hx⟩ := hY _ _ _ _ y
      rw [List.getElem?_map] at hx
      cases hc : zs[i]? with
      | none => rw [hc] at hx; cases hx
      | some zi =>
        rw [hc] at hx hy
        cases hx
        have a14 := a12.trans a
        walk_at "w"
        refine ⟨tg, m, t, zi, rfl, R.al a14, KN.w, fun _ => er.al a14, fun n' hq' hs' hk' H5 x5 a5 hx5 => ?_⟩
        exact hy n' _ _ hs' ⟨x5, rfl, hx5⟩ a5
    · cases hD'
      rw [List.length_map] at hal
      generalize hns : (List.range zs.length).filterMap (fun i => (zs[i]?).bind (slotAt m t)) = ns at hal
      have hnl : ns.length ≤ 4 := by
        rw [← hns]
        exact Nat.le_trans (List.length_filterMap_le _ _) (by rw [List.length_range]; exact h4)
      have hnm : ∀ n', n' ∈ ns → some n' ∈ (m.task t).rows := fun n' hn' => by
        rw [← hns] at hn'
        obtain ⟨i, _, e⟩ := List.mem_filterMap.mp hn'
        cases hc : zs[i]? with
        | none => rw [hc] at e; cases e
        | some zi => rw [hc] at e; exact slotAt_mem e
      have hnk : ∀ n', n' ∈ ns → n' ∈ m.keys := fun n' hn' => KN.w.slot t n' hq.1 (hnm n' hn')
      clear hns
      have a13 := a12.trans a3
      have hx3 : HdAt K H3 x1 n (m.row n) := hx.al (a2.trans a3)
      walk_at "w"
      refine ⟨4, (m.row n).rights, rfl, by decide, hrg, fun _ => er.al a13, fun hs4 => ?_⟩
      walk_at "w"
      refine ⟨tg, m, D, ns, us, rfl, R.al a13, KN.w.t, e3, hal, hnk, er.al a13, fun ok H4 a4 => ?_⟩
      have a14 := a13.trans a4
      have R4 := R.al a14
      obtain ⟨dxd, exd⟩ := R4.thg hth
      rw [hls] at exd
      have exd' : H4 (m.tha (m.row n).thing) = some (.ins (He.ga K "Door") dxd [(("number" : Str), nV (m.row n).thing), (("waiting" : Str), V.ref (m.thb (m.row n).thing))]) := exd
      have ep4 := R4.door hth hls
      have i4 : InsC H4 (.ref (m.tha (m.row n).thing)) (He.ga K "Door") "letters" := ⟨_, dxd, _, rfl, exd', rfl⟩
      have hls8 := (KN.w.door _ ls hth hls).1
      have hls4 := (KN.w.door _ ls hth hls).2
      walk_at "w"
      refine ⟨i4, ?_⟩
      walk_at "w"
      refine ⟨_, dxd, _, m.thb (m.row n).thing, _, rfl, exd', ep4, fun q hqf => ?_⟩
      have aq := Al.new (o := .lst (ls.map fun l => V.ref l.at_)) hqf
      walk_at "w"
      refine ⟨_, _, rfl, .inl ⟨_, sqL_at upd_same, rfl⟩, ?_⟩
      generalize L2.upd H4 q (.lst (ls.map fun l => V.ref l.at_)) = H5 at *
      have a15 := a14.trans aq
      by_cases hl8 : ls.length < 8
      · have hl8' : ¬ (8 : Int) ≤ (((ls.map fun l => V.ref l.at_).length : Nat) : Int) := by rw [List.length_map]; omega
        have e5 := (a4.trans aq).lst e3
        have K5 := KN.al a15
        have R5 := K5.r.cln
        have st5 := (Stp.al (tg := tg) a15).cln (K := K) (m := m)
        have td5 : Pk.cln K m tg D = none := cln_free ((R.al a12).fresh hD)
        generalize Pk.cln K m tg = tg5 at *
        have hal5 : Ali (HdR K m H5) ns us := hal.imp fun n v ⟨x, e, h⟩ => ⟨x, e, h.al (a4.trans aq)⟩
        walk_at "w"
        refine ⟨⟨_, sqL_at e5⟩, ?_⟩
        have hul : us.length = ns.length := hal.1.symm
        refine lcM (walk_list (xs := us)) (fun D2 i acc H' => ∃ tg' m' ps, acc = ps.map nV ∧ Snd m m' ns r i ps ∧ Stp H5 tg5 H' tg' ∧ Rep K H' tg' m' ∧ tg' D2 = none ∧ Ali (HdR K m H') ns us ∧ H' m.kn = some (.dK (knD m.names m.tka)) ∧ H' m.th = some (.dK (rowsD (List.range m.nth) m.tha))) (by rw [sizeLine_eq]; omega) (fun D2 hD2 => ?_) (fun D2 i acc H' ⟨tg', m', ps, _, _, st, _⟩ => sqL_at (st.keep _ _ e5 (Pl.nt (o := .lst _) trivial) td5)) (fun D2 i acc x H' H'' hD2 hi ⟨tg', m', ps, eacc, sn, st, R', td, hal', ek, et⟩ eD hlen y N1 N2 hN => ?_) (fun D2 acc H' hD2 ⟨tg', m', ps, eacc, sn, st, R', td, hal', ek, et⟩ eD hlen => ?_)
        · have an := Al.new (o := .lst []) hD2
          refine ⟨Pk.cln K m tg5, m, [], rfl, Snd.refl KN.w, (Stp.al an).cln, R5.cln.al an, cln_free (R5.fresh hD2), hal5.imp fun n v ⟨x, e, h⟩ => ⟨x, e, h.al an⟩, an.dK K5.kn, an.dK K5.th⟩
        · obtain ⟨rfl, hx1⟩ := y
          obtain ⟨n1, hn1, xh, rfl, hh⟩ := hal'.get hx1
          have hm1 := List.mem_of_getElem? hn1
          have hk1 := hnk n1 hm1
          obtain ⟨q1, q2, q3, q4, q5, q6, q7⟩ := sn.adr
          have Rc := R'.cln
          have hcl : ∀ {x : Addr} {n : Nat} {h : Hd}, HdAt K H'' x n h → Pk.cln K m' tg' x ≠ some .rw ∧ Pk.cln K m' tg' x ≠ some .rb ∧ Pk.cln K m' tg' x ≠ some .tr ∧ ∀ k, Pk.cln K m' tg' x ≠ some (.kid k) := fun h => cln_hd R' h
          have tdc : Pk.cln K m' tg' D2 = none := cln_none td
          have stc := st.cln (K := K) (m := m')
          generalize Pk.cln K m' tg' = tgc at *
          have f1 : FldAt K H'' (.ref m.k) "tree" (.ref m.tr) := by have := fld_k_tree G Rc; rwa [q1, q2] at this
          have i1 : InsC H'' (.ref m.tr) (He.ga K "Tree") "derived" := by have := insTr (x := "derived") Rc rfl; rwa [q2] at this
          have okd := sn.ok (r := r) KN.w hk1 (ok n1 hm1).2
          walk_at "w"
          refine ⟨i1, ?_⟩
          walk_at "w"
          refine ⟨(m.row n1).rights, r, rfl, ?_⟩
          walk_at "w"
          refine ⟨tgc, m', n1, (m.row n1).rights &&& r, "", by rw [q2], Rc, sn.wf.t, sn.wf.t.ev, and_le63 (KN.w.t.rg n1 hk1), fun h => absurd okd h, fun _ H7 tg7 x7 kx7 st7 R7 kp7 => ?_⟩
          have e7 := st7.keep _ _ eD (Pl.nt (o := .lst _) trivial) tdc
          have td7 := st7.tag _ _ eD (Pl.nt (o := .lst _) trivial) tdc
          have tkn : tgc m.kn = some .kn := by have := Rc.kn_tag; rwa [q4] at this
          have tth : tgc m.th = some .th := by have := Rc.th_tag; rwa [q5] at this
          have tkn7 : tg7 m.kn = some .kn := by have : tg7 m'.kn = some .kn := R7.kn_tag; rwa [q4] at this
          have tth7 : tg7 m.th = some .th := by have : tg7 m'.th = some .th := R7.th_tag; rwa [q5] at this
          refine hN _ H7 e7 ⟨tg7, _, ps ++ [m'.ever], by rw [eacc, List.map_append]; rfl, sn.step KN.w hm1 hk1 (ok n1 hm1).2 (by omega), (stc.trans st7).updN (fun o _ z => by rw [hD2] at z; cases z) e7 trivial, R7.other td7 e7, td7, hal'.imp fun n2 v ⟨x, e, h⟩ => ⟨x, e, ?_⟩, ?_, ?_⟩
          · obtain ⟨c1, c2, c3, c4⟩ := hcl h
            obtain ⟨dxh, h⟩ := h
            have h7 := kp7 x _ c1 c2 c3 (c4 n1) h (Pl.nt (o := .ins _ _ _) trivial)
            exact ⟨dxh, by rw [upd_ne (fun z => by rw [z, e7] at h7; cases h7)]; exact h7⟩
          · rw [upd_ne (fun z => by rw [z, td7] at tkn7; cases tkn7)]
            exact kp7 _ _ (by rw [tkn]; simp) (by rw [tkn]; simp) (by rw [tkn]; simp) (by rw [tkn]; simp) ek (Pl.nt (o := .dK _) trivial)
          · rw [upd_ne (fun z => by rw [z, td7] at tth7; cases tth7)]
            exact kp7 _ _ (by rw [tth]; simp) (by rw [tth]; simp) (by rw [tth]; simp) (by rw [tth]; simp) et (Pl.nt (o := .dK _) trivial)
        · obtain ⟨q1, q2, q3, q4, q5, q6, q7⟩ := sn.adr
          obtain ⟨t1, t2, t3, t4⟩ := sn.ths
          have hth' : (m.row n).thing < m'.nth := by rw [t1]; exact hth
          have hls' : m'.thg (m.row n).thing = .door ls := by rw [t2]; exact hls
          obtain ⟨dx6, ex6⟩ := R'.thg hth'
          rw [hls', t3, t4] at ex6
          have ex6' : H' (m.tha (m.row n).thing) = some (.ins (He.ga K "Door") dx6 [(("number" : Str), nV (m.row n).thing), (("waiting" : Str), V.ref (m.thb (m.row n).thing))]) := ex6
          have ep6 := R'.door hth' hls'
          rw [t4] at ep6
          walk_at "w"
          refine ⟨_, _, dx6, _, _, _, rfl, ex6', rfl, G.cl_Door, G.m_Door_did, FnR.lift (ok_Door_did G) (by decide), ?_⟩
          walk_at "w"
          refine ⟨_, _, rfl, .inl ⟨sqL_at eD, fun T hT => ?_⟩⟩
          have aT := Al.new (o := .tup acc) hT
          have eT : (L2.upd H' T (.tup acc)) T = some (.tup acc) := upd_same
          generalize L2.upd H' T (.tup acc) = H7 at *
          walk_at "w"
          refine fun xl dl hxl hdl nxl => ⟨xl, dl, ws, T, rfl, upd_same, fun H9 e9 kp9 => ⟨rfl, ?_⟩⟩
          have a9 : Al H7 H9 := Al.of fun b o e => kp9 b o (ne_of_none e hxl) (by rw [upd_ne (ne_of_none e hxl), upd_ne (ne_of_none e hdl)]; exact e)
          have a69 := aT.trans a9
          walk_at "w"
          refine ⟨_, dx6, _, _, _, "send", _, rfl, a69.ins ex6', a69.lst ep6, .inl ⟨rfl, by rw [List.length_map]; exact hl8, ?_⟩⟩
          have R9 := (R'.al a69).cln
          have st9 := (st.trans (Stp.al (tg := tg') a69)).cln (K := K) (m := m')
          have tT : Pk.cln K m' tg' T = none := cln_free (R'.fresh hT)
          have txl : Pk.cln K m' tg' xl = none := cln_free ((R'.al aT).fresh hxl)
          have e9T := a9.tup eT
          rw [eacc] at e9T
          have lok : LtOk K H9 (Pk.cln K m' tg') ⟨xl, ps⟩ := ⟨dl, ws, T, e9, e9T, txl, tT⟩
          have tb9 : Pk.cln K m' tg' (m'.thb (m.row n).thing) = some (.sub (m.row n).thing) := (R9.cell (.sub (m.row n).thing) (m'.thb (m.row n).thing) (fun o => o = .lst (ls.map fun l => V.ref l.at_)) (by simp only [Mo.cell]; rw [if_pos hth', hls'])).1
          have RD := R9.setDoor (ls' := ls ++ [⟨xl, ps⟩]) hth' hls' (fun l hl => by
            rcases List.mem_append.mp hl with hl | hl
            · exact R9.lets _ ls hth' hls' l hl
            · rw [List.mem_singleton.mp hl]; exact lok)
          have ep9 := a69.lst ep6
          rw [t4] at tb9
          have stD := st5.trans (st9.trans (Stp.upd (o' := .lst ((ls ++ [(⟨xl, ps⟩ : Lt)]).map fun (l : Lt) => V.ref l.at_)) ep9 trivial tb9))
          generalize Pk.cln K m' tg' = tg9 at *
          rw [t4] at RD
          have tkn9 : tg9 m.kn = some .kn := by have := R9.kn_tag; rwa [q4] at this
          have tth9 : tg9 m.th = some .th := by have := R9.th_tag; rwa [q5] at this
          have hlm : (ls.map fun l => V.ref l.at_) ++ [V.ref xl] = (ls ++ [(⟨xl, ps⟩ : Lt)]).map fun l => V.ref l.at_ := by rw [List.map_append]; rfl
          have hpl : ps.length ≤ 4 := by rw [sn.len, hul]; exact hnl
          obtain ⟨n1', n2', n3', n4'⟩ := sn.nms
          rw [hlm]
          refine k _ tg9 _ _ stD ⟨RD, sn.wf.setDoor (by rw [List.length_append, List.length_singleton]; omega) (fun l hl => ?_) (fun l p hl hp => ?_), ?_, ?_⟩ (step_send KN.w sn hq.1 (by omega) (fun n1 h => ⟨hnm n1 h, (ok n1 h).1⟩) hls) n2'
          · rcases List.mem_append.mp hl with hl | hl
            · exact hls4 l hl
            · rw [List.mem_singleton.mp hl]; exact hpl
          · rcases List.mem_append.mp hl with hl | hl
            · have := KN.w.prt _ ls l p hth hls hl hp
              have := sn.ever
              omega
            · rw [List.mem_singleton.mp hl] at hp; exact (sn.new p hp).1
          · show (L2.upd H9 (m.thb (m.row n).thing) _) m'.kn = some (.dK (knD m'.names m'.tka))
            rw [q4, n1', n3', upd_ne (fun z => by rw [z, tb9] at tkn9; cases tkn9)]
            exact a69.dK ek
          · show (L2.upd H9 (m.thb (m.row n).thing) _) m'.th = some (.dK (rowsD (List.range m'.nth) m'.tha))
            rw [q5, t1, t3, upd_ne (fun z => by rw [z, tb9] at tth9; cases tth9)]
            exact a69.dK et
      · have hl8' : (8 : Int) ≤ (((ls.map fun l => V.ref l.at_).length : Nat) : Int) := by rw [List.length_map]; omega
        walk_at "w"
        exact er _ _ _ (xc G.e_Full) a15
  · have h4' : (4 : Int) < (((zs.map V.int).length : Nat) : Int) := by rw [List.length_map]; omega
    walk_at "w"
    exact er _ _ _ (xc G.e_TooMany) a12
theorem ok_send_6 : FnR P w K mg base (L2.CX P w) 52 (He.ga K "send") (sp_send K) := by
  have F := mkFd (P := P) (w := w) (mg := mg) (base := base) (k := 51) (sp := sp_send K) G (dvs := [.non, .int 63]) 6 2 (by simp) G.f_send sc_send rfl (fun T kV doc pm an cdv ct us its hu hi => match us, hu, its, hi with | [_, _, _, _, _, _], _, [_, _], _ => ⟨_, rfl, rfl⟩) (fun vs H Q E h => by obtain ⟨_, _, _, _, _, _, _, _, e, _⟩ := h; cases e; rfl) (fun cdv A outer s H vs Q E hr h => send_body G cdv A outer s H vs Q E hr h)
  exact F.imp fun vs H Q E h => by simpa using h
def sp_send5 (K : PySem.W.Frag) : Sp := fun vs H Q E => sp_send K (vs ++ [.int 63]) H Q E
theorem ok_send_5 : FnR P w K mg base (L2.CX P w) 52 (He.ga K "send") (sp_send5 K) :=
  mkFd (P := P) (w := w) (mg := mg) (base := base) (k := 51) (sp := sp_send K) G (dvs := [.non, .int 63]) 5 1 (by simp) G.f_send sc_send rfl (fun T kV doc pm an cdv ct us its hu hi => match us, hu, its, hi with | [_, _, _, _, _], _, [_, _], _ => ⟨_, rfl, rfl⟩) (fun vs H Q E h => by obtain ⟨_, _, _, _, _, _, _, _, e, _⟩ := h; cases e; rfl) (fun cdv A outer s H vs Q E hr h => send_body G cdv A outer s H vs Q E hr h)
end
end Pk
end
/-! PkF29 -/
section
set_option maxHeartbeats 4000000
namespace Pk
open PySem PySem.Spec PyProof.Rows L2
local macro_rules | `(tactic| walk_at "c") => `(tactic| first | assumption | omega | exact rfl | (intro z; cases z; done) | (simp only [nV, V.int.injEq, V.str.injEq]; first | assumption | omega))
local macro_rules | `(tactic| walk_at "fld") => `(tactic| first
  | assumption
  | exact fld_k_tasks (by assumption) (by assumption) | exact fld_k_tree (by assumption) (by assumption) | exact fld_k_things (by assumption) (by assumption) | exact fld_ta_known (by assumption) (by assumption)
  | exact fld_t_rows (by assumption) (by assumption) (by assumption) | exact fld_t_run1 (by assumption) (by assumption) (by assumption) (by assumption) | exact fld_t_runs (by assumption) (by assumption) (by assumption) | exact fld_t_maker (by assumption) (by assumption) (by assumption) | exact fld_tr_rows (by assumption) (by assumption) | exact fld_tr_rb (by assumption) (by assumption) | exact fld_tr_ever (by assumption) (by assumption)
  | exact fld_h_number (by assumption) (by assumption) | exact fld_h_thing (by assumption) (by assumption) | exact fld_h_rights (by assumption) (by assumption) | exact fld_h_giver (by assumption) (by assumption) | exact fld_h_holder (by assumption) (by assumption))
local macro_rules | `(tactic| walk_at "get") => `(tactic| first
  | assumption
  | exact get_kn1 (by assumption) (by assumption) | exact get_kn0 (by assumption) (by assumption) | exact get_rw1 (by assumption) (by assumption) | exact get_rw0 (by assumption) (by assumption)
  | exact get_rb1 (by assumption) (by assumption) | exact get_rb0 (by assumption) (by assumption) | exact get_th1 (by assumption) (by assumption) | exact get_th0 (by assumption) (by assumption))
local macro_rules | `(tactic| walk_at "ins") => `(tactic| first | exact insTa (by assumption) rfl | exact insTr (by assumption) rfl)
local macro_rules | `(tactic| walk_at "s") => `(tactic| first
  | refine ⟨_, rfl, ?_⟩
  | refine ⟨rfl, ?_⟩
  | refine zI fun _ => ?_
  | with_reducible refine iteF ?_ | with_reducible refine iteT ?_
  | ((with_reducible refine iteDy ?_ ?_); focus (walk_at "c"; done)) | ((with_reducible refine iteDn ?_ ?_); focus (walk_at "c"; done)) | ((with_reducible refine iteNy ?_ ?_); focus (walk_at "c"; done)) | ((with_reducible refine iteNn ?_ ?_); focus (walk_at "c"; done))
  | refine fldI (by walk_at "fld") ?_
  | refine getI (by walk_at "get") ?_ | refine getS (by walk_at "get") ?_
  | refine ⟨by walk_at "ins", ?_⟩
  | refine ⟨_, _, _, _, true, rfl, .ty _, .base (.str _), kit_ty (by decide +kernel), ?_⟩
  | refine ⟨_, _, _, _, true, rfl, .ty _, .base (.int _), kit_ty (by decide +kernel), ?_⟩
  | refine ⟨_, _, _, _, false, rfl, .ty _, .base (.int _), kit_ty (by decide +kernel), ?_⟩
  | refine ⟨_, _, rfl, rfl, ?_⟩
  | refine ⟨_, _, rfl, rfl, trivial, ?_⟩)
local macro_rules | `(tactic| walk_at "w") => `(tactic| repeat (walk_at "s"))
theorem hu64 {k : Nat} {A : Around} (hr : Room k A) : A.units + 64 < cLine := by have := hr.un; omega
def ltD (l : Lt) : V := V.ref l.at_
/-- the parts that are kept, of the first i -/
def kpt (m : Mo) (l : Lt) (i : Nat) : Nat := ((l.parts.take i).filter fun n => decide (n ∈ m.keys)).length
theorem kpt_le {m : Mo} {l : Lt} {i : Nat} : kpt m l i ≤ kpt m l l.parts.length := by
  unfold kpt
  rw [List.take_length]
  exact (List.Sublist.filter _ (List.take_sublist _ _)).length_le
theorem kpt_in {m : Mo} {l : Lt} {i n : Nat} (h : l.parts[i]? = some n) (hk : n ∈ m.keys) : kpt m l (i + 1) = kpt m l i + 1 := by
  unfold kpt
  rw [List.take_succ, h, List.filter_append, List.length_append]
  simp [hk]
theorem kpt_out {m : Mo} {l : Lt} {i n : Nat} (h : l.parts[i]? = some n) (hk : n ∉ m.keys) : kpt m l (i + 1) = kpt m l i := by
  unfold kpt
  rw [List.take_succ, h, List.filter_append, List.length_append]
  simp [hk]
theorem countP_none {l : List (Option Nat)} (h : 0 < l.countP (·.isNone)) : none ∈ l := by
  obtain ⟨a, ha, e⟩ := List.countP_pos_iff.mp h
  cases a with
  | none => exact ha
  | some n => cases e
section
variable {P : Program} {w : World} {K : PySem.W.Frag} {mg : Str → Option Value} {base : Heap} (G : Gx K mg base)
include G
def sp_hear (K : PySem.W.Frag) : Sp := fun vs H Q E => ∃ tg m t z, vs = [.ref m.k, .str t, .int z] ∧ Kn K H tg m ∧ Er K H E ∧
  (∀ H' tg' m' v, Stp H tg H' tg' → Kn K H' tg' m' → Step m m' t → (∀ s, RunT m s → RunT m' s) → Q v H')
omit G in
theorem sc_hear : FnScope ["kernel", "task", "slot", "handle", "door", "waiting", "still", "letter", "found", "one"] ["kernel", "task", "slot"] (defScope s_hear) := ⟨rfl, rfl, rfl, by decide +kernel, rfl, by decide +kernel, by decide +kernel⟩
theorem ok_hear : FnR P w K mg base (L2.CX P w) 14 (He.ga K "hear") (sp_hear K) := by
  refine mkF (k := 13) G.f_hear sc_hear (fun _ _ _ _ _ _ us hl => match us, hl with | [_, _, _], _ => rfl) (fun vs H Q E h => by repeat (first | (obtain ⟨e, _⟩ := h; cases e; rfl; done) | obtain ⟨_, h⟩ := h)) (fun cdv A outer s H vs Q E hr h => ?_)
  have S := sc_hear
  obtain ⟨tg, m, t, z, rfl, KN, er, k⟩ := h
  have R := KN.r
  refine ⟨_, (pss_cons (ps_set (i := 3) S.nd rfl (by first | exact Or.inl rfl | exact Or.inr rfl) (pe_f (ok_handle_at G) (hr.mono (by omega)) rfl G.g_handle_at (kp_of G.f_handle_at) tkd (pa_cons (pv 0) (pa_cons (pv 1) (pa_cons (pv 2) pa_nil)))))
      (pss_cons (ps_set (i := 4) S.nd rfl (by first | exact Or.inl rfl | exact Or.inr rfl) (pe_f (ok_door_at G) (hr.mono (by omega)) rfl G.g_door_at (kp_of G.f_door_at) tkd (pa_cons (pv 0) (pa_cons (pv 3) (pa_cons pe_str pa_nil)))))
      (pss_cons (ps_expr (pe_f (ok_need_rights G) (hr.mono (by omega)) rfl G.g_need_rights (kp_of G.f_need_rights) tkd (pa_cons (pe_ci rfl G.c_HEAR) (pa_cons (pe_fd (pv 3)) pa_nil))))
      (pss_cons (ps_set (i := 5) S.nd rfl (by first | exact Or.inl rfl | exact Or.inr rfl) (pe_m0 (ok_Door_letters G) (hr.mono (by omega)) G.cl_Door G.m_Door_letters tkd (pv 4)))
      (pss_cons (ps_if (pt_cmpR (op_eqE (hu64 hr)) (pv 5) (pe_lst pa_nil) (nomark _)) (pss_one (ps_raise rfl tkd (pmk_own PySem.F.excBase_ValueError G.x_Empty.1 G.g_Empty G.x_Empty.2.1 (raises_own G.x_Empty.2.2.1 G.x_Empty.2.2.2) rfl))) pss_nil)
      (pss_cons (ps_set (i := 6) S.nd rfl (by first | exact Or.inl rfl | exact Or.inr rfl) (pe_m0 (ok_Tree_kept G) (hr.mono (by omega)) G.cl_Tree G.m_Tree_kept tkd (pe_fd (pv 0))))
      (pss_cons (ps_if (pt_cmpR op_lt (pe_m (ok_Tasks_free G) (hr.mono (by omega)) G.cl_Tasks G.m_Tasks_free tkd (pe_fd (pv 0)) (pa_cons (pv 1) pa_nil)) (pe_callB call_len (by rfl) G.b_len PySem.boot_len (pa_cons (by exact (pe_lcz (own := [("one", 9)]) rfl S.nd (pi_tup (pe_fd (pe_ix ix_list (pv 5) pe_int (fun _ _ => rfl)))) (blkOk_by (own := [("one", 9)]) (N := ["kernel", "task", "slot", "handle", "door", "waiting", "still", "letter", "found", "one"]) (sc := defScope s_hear) (by decide +kernel)) (fun _ => (pg_name (i := 9) S.nd rfl (by first | exact Or.inl rfl | exact Or.inr rfl))) (fun _ => (pts_one (pt_cmpR op_in_seq (pv 9) (pv 6) rfl))) (fun _ => (pv 9)))) pa_nil)) (nomark _)) (pss_one (ps_raise rfl tkd (pmk_own PySem.F.excBase_ValueError G.x_TooMany.1 G.g_TooMany G.x_TooMany.2.1 (raises_own G.x_TooMany.2.2.1 G.x_TooMany.2.2.2) rfl))) pss_nil)
      (pss_cons (ps_set (i := 7) S.nd rfl (by first | exact Or.inl rfl | exact Or.inr rfl) (pe_d (k := 12) (hr.mono (by omega)) tkd (pv 4) (pa_cons pe_str (pa_cons pe_int pa_nil))))
      (pss_cons (ps_set (i := 8) S.nd rfl (by first | exact Or.inl rfl | exact Or.inr rfl) (pe_lst pa_nil))
      (pss_cons (ps_for pod rfl (pi_tup (pe_fd (pv 7))) (pg_name (i := 9) S.nd rfl (by first | exact Or.inl rfl | exact Or.inr rfl)) (pss_cons (ps_if (pt_cmpR op_notIn_seq (pv 9) (pv 6) rfl) (pss_cons (ps_expr (pe_bm PySem.F.plainAttrs_list PySem.F.slot_list_append PySem.F.type_list_append mt_append (pv 8) (pa_cons pe_non pa_nil)))
      (pss_one ps_continue)) pss_nil)
      (pss_cons (ps_expr (pe_m (ok_Tree_held G) (hr.mono (by omega)) G.cl_Tree G.m_Tree_held tkd (pe_fd (pv 0)) (pa_cons (pv 9) (pa_cons (pv 1) pa_nil))))
      (pss_one (ps_expr (pe_bm PySem.F.plainAttrs_list PySem.F.slot_list_append PySem.F.type_list_append mt_append (pv 8) (pa_cons (pe_m (ok_Tasks_put G) (hr.mono (by omega)) G.cl_Tasks G.m_Tasks_put tkd (pe_fd (pv 0)) (pa_cons (pv 1) (pa_cons (pv 9) pa_nil))) pa_nil)))))))
      (pss_one (ps_ret (pe_tup (pa_cons (pe_fd (pv 7)) (pa_cons (pv 8) pa_nil))))))))))))))), ?_⟩
  walk_at "w"
  refine ⟨tg, m, t, z, rfl, R, KN.w, fun _ => er, fun n hq hs hk H1 x1 a1 hx => ?_⟩
  have K1 := KN.al a1
  have R1 := K1.r
  have hth := KN.w.t.th n hk
  have hrg := KN.w.t.rg n hk
  walk_at "w"
  refine ⟨tg, m, x1, n, m.row n, "hear", rfl, R1, hx, hth, er.al a1, fun ls hls => ?_⟩
  walk_at "w"
  refine ⟨8, (m.row n).rights, rfl, by decide, hrg, fun _ => er.al a1, fun h8 => ?_⟩
  obtain ⟨dxd, exd⟩ := R1.thg hth
  rw [hls] at exd
  have exd' : H1 (m.tha (m.row n).thing) = some (.ins (He.ga K "Door") dxd [(("number" : Str), nV (m.row n).thing), (("waiting" : Str), V.ref (m.thb (m.row n).thing))]) := exd
  have ep1 := R1.door hth hls
  have i1 : InsC H1 (.ref (m.tha (m.row n).thing)) (He.ga K "Door") "letters" := ⟨_, dxd, _, rfl, exd', rfl⟩
  obtain ⟨hls8, hls4⟩ := KN.w.door _ ls hth hls
  walk_at "w"
  refine ⟨i1, ?_⟩
  walk_at "w"
  refine ⟨_, dxd, _, m.thb (m.row n).thing, _, rfl, exd', ep1, fun q hqf => ?_⟩
  have aq := Al.new (o := .lst (ls.map fun l => V.ref l.at_)) hqf
  have eq2 : (L2.upd H1 q (.lst (ls.map fun l => V.ref l.at_))) q = some (.lst (ls.map fun l => V.ref l.at_)) := upd_same
  generalize L2.upd H1 q (.lst (ls.map fun l => V.ref l.at_)) = H2 at *
  walk_at "w"
  refine ⟨by rw [sizeLine_eq]; decide, fun pe hpe => ?_⟩
  have ae := Al.new (o := .lst []) hpe
  have npe : q ≠ pe := ne_of_none eq2 hpe
  refine ⟨q, pe, _, rfl, rfl, npe, sqL_at (ae.lst eq2), sqL_at upd_same, ?_⟩
  have a13 := a1.trans (aq.trans ae)
  have eq3 := ae.lst eq2
  generalize L2.upd H2 pe (.lst []) = H3 at *
  cases ls with
  | nil =>
    walk_at "w"
    exact er _ _ _ (xc G.e_Empty) a13
  | cons l ls =>
    have K3 := KN.al a13
    have R3 := K3.r
    have i3 : InsC H3 (.ref m.tr) (He.ga K "Tree") "kept" := insTr R3 rfl
    walk_at "w"
    refine ⟨tg, m, rfl, R3, KN.w.t.sz, fun H4 p ks a4 hp e4 perm => ?_⟩
    have a14 := a13.trans a4
    have K4 := KN.al a14
    have R4 := K4.r
    walk_at "w"
    refine ⟨tg, m, t, rfl, R4, fun h => absurd hq h, fun _ => ?_⟩
    have eq4 := a4.lst eq3
    obtain ⟨dxl, wl, pt, el, ept, tl, tpt⟩ := R4.lets _ _ hth hls l List.mem_cons_self
    have fl1 : ∀ {H' : Hp}, Al H4 H' → FldAt K H' (.ref l.at_) "parts" (.ref pt) := fun a => ⟨_, _, dxl, _, rfl, a.ins el, G.cl_Letter, G.n_Letter_parts, lkS (by decide +kernel) lk0⟩
    walk_at "w"
    refine ⟨q, _, 0, .ref l.at_, rfl, rfl, sqL_at eq4, atI_nat (k := 0) rfl, ?_⟩
    have fl4 := fl1 (Al.refl _)
    walk_at "w"
    refine ⟨⟨_, sqT_at ept⟩, ?_⟩
    have hpl : l.parts.length ≤ 4 := hls4 l List.mem_cons_self
    refine lcR walk_tup (fun i => (l.parts[i]?).bind fun n => if decide (n ∈ m.keys) = true then some (nV n) else none) (by rw [List.length_map, sizeLine_eq]; omega) (fun H a => sqT_at (a.tup ept)) (fun i x H5 H6 hi a y N1 N2 hy hno => ?_) (fun H5 D a5 e5 => ?_)
    · obtain ⟨rfl, hx⟩ := y
      rw [List.getElem?_map] at hx
      cases hc : l.parts[i]? with
      | none => rw [hc] at hx; cases hx
      | some c =>
        rw [hc] at hx hy hno
        cases hx
        walk_at "w"
        refine ⟨p, _, rfl, .inl (sqL_at (a.lst e4)), rfl, flat_nat, ?_⟩
        rw [if_neg (by decide), inV_nat]
        by_cases hin : c ∈ ks
        · have hin' := perm.mem_iff.mp hin
          walk_at "w"
          exact hy _ _ (by simp [hin']) (Al.refl _)
        · have hin' : c ∉ m.keys := fun h => hin (perm.mem_iff.mpr h)
          walk_at "w"
          exact hno _ (by simp [hin']) (Al.refl _)
    · rw [List.length_map, filterMap_range l.parts _ (fun n => if decide (n ∈ m.keys) = true then some (nV n) else none) (fun i x e => by rw [e]; rfl), filterMap_if] at e5
      walk_at "w"
      refine ⟨_, _, rfl, .inl ⟨_, sqL_at e5, rfl⟩, ?_⟩
      rw [List.length_map]
      have hkl : kpt m l l.parts.length = (l.parts.filter fun n => decide (n ∈ m.keys)).length := by unfold kpt; rw [List.take_length]
      rw [← hkl]
      by_cases hfr : kpt m l l.parts.length ≤ (m.task t).rows.countP (·.isNone)
      · have hfr' : ¬ ((((m.task t).rows.countP (·.isNone) : Nat) : Int) < ((kpt m l l.parts.length : Nat) : Int)) := by omega
        have a15 := a14.trans a5
        have R6 := (R.al a15).cln
        have st6 := (Stp.al (tg := tg) a15).cln (K := K) (m := m)
        have tp6 : Pk.cln K m tg p = none := cln_free (R3.fresh hp)
        have tl6 : Pk.cln K m tg l.at_ = none := cln_none tl
        have tt6 : Pk.cln K m tg pt = none := cln_none tpt
        have ep5 := (a4.trans a5).lst (aq.trans ae |>.lst ep1)
        have ex5 := (aq.trans (ae.trans (a4.trans a5))).ins exd'
        have hh6 := R6.setDoor (ls' := ls) hth hls (fun l' hl => R6.lets _ _ hth hls l' (List.mem_cons_of_mem _ hl))
        have tb6 : Pk.cln K m tg (m.thb (m.row n).thing) = some (.sub (m.row n).thing) := (R6.cell (.sub (m.row n).thing) (m.thb (m.row n).thing) (fun o => o = .lst ((l :: ls).map fun l => V.ref l.at_)) (by simp only [Mo.cell]; rw [if_pos hth, hls])).1
        have tkn6 := R6.kn_tag
        have tth6 := R6.th_tag
        have stD := Stp.upd (o' := .lst (ls.map fun l => V.ref l.at_)) ep5 trivial tb6
        generalize Pk.cln K m tg = tg6 at *
        have er1 := Her.take (t := t) KN.w hth hls
        have el6 := stD.keep _ _ (a5.ins el) (Pl.nt (o := .ins _ _ _) trivial) tl6
        have ept6 := stD.keep _ _ (a5.tup ept) (Pl.nt (o := .tup _) trivial) tt6
        have e46 := stD.keep _ _ (a5.lst e4) (Pl.nt (o := .lst _) trivial) tp6
        have ekn6 : (L2.upd H5 (m.thb (m.row n).thing) (.lst (ls.map fun l => V.ref l.at_))) m.kn = some (.dK (knD m.names m.tka)) := (upd_ne (fun z => by rw [z, tb6] at tkn6; cases tkn6)).trans (a15.dK KN.kn)
        have eth6 : (L2.upd H5 (m.thb (m.row n).thing) (.lst (ls.map fun l => V.ref l.at_))) m.th = some (.dK (rowsD (List.range m.nth) m.tha)) := (upd_ne (fun z => by rw [z, tb6] at tth6; cases tth6)).trans (a15.dK KN.th)
        walk_at "w"
        refine ⟨_, _, dxd, _, _, _, rfl, ex5, rfl, G.cl_Door, G.m_Door_did, FnR.lift (ok_Door_did G) (by decide), ?_⟩
        walk_at "w"
        refine ⟨_, dxd, _, m.thb (m.row n).thing, _, "hear", _, rfl, ex5, ep5, .inr ⟨rfl, V.ref l.at_, ls.map (fun l => V.ref l.at_), rfl, by rw [List.length_map]; exact hls8, ?_⟩⟩
        have st7 := st6.trans stD
        clear stD R6 st6
        generalize L2.upd H5 (m.thb (m.row n).thing) (.lst (ls.map fun l => V.ref l.at_)) = H7 at *
        walk_at "w"
        refine ⟨by rw [sizeLine_eq]; decide, fun pf hpf => ?_⟩
        have af := Al.new (o := .lst []) hpf
        generalize hm1 : m.wg (nput m.thg (m.row n).thing (.door ls)) = m1 at *
        have R8 := (hh6.cln).al af
        have st8 := (Stp.al (tg := tg6) af).cln (K := K) (m := m1)
        have tf8 : Pk.cln K m1 tg6 pf = none := cln_free (hh6.fresh hpf)
        have ef8 : (L2.upd H7 pf (.lst [])) pf = some (.lst []) := upd_same
        have el8 := af.ins el6
        have ept8 := af.tup ept6
        have ekn8 := af.dK ekn6
        have eth8 := af.dK eth6
        generalize Pk.cln K m1 tg6 = tg8 at *
        generalize L2.upd H7 pf (.lst []) = H8 at *
        have fl8 : FldAt K H8 (.ref l.at_) "parts" (.ref pt) := ⟨_, _, dxl, _, rfl, el8, G.cl_Letter, G.n_Letter_parts, lkS (by decide +kernel) lk0⟩
        walk_at "w"
        refine ⟨⟨_, sqT_at ept8⟩, ?_⟩
        refine for_it (walk_tup (xs := l.parts.map nV)) (fun i σ H' => (∃ v9, σ = [some (.ref m.k), some (.str t), some (.int z), some (.ref x1), some (.ref (m.tha (m.row n).thing)), some (.ref q), some (.ref p), some (.ref l.at_), some (.ref pf), v9]) ∧ ∃ tg' m' qs fl, Her m m' t qs ∧ Stp H7 tg6 H' tg' ∧ Rep K H' tg' m' ∧ H' m.kn = some (.dK (knD m.names m.tka)) ∧ H' m.th = some (.dK (rowsD (List.range m.nth) m.tha)) ∧ H' pf = some (.lst fl) ∧ fl.length = i ∧ tg' pf = none ∧ (∀ n', n' ∈ qs → n' ∈ l.parts ∧ n' ∈ m.keys) ∧ qs.length = kpt m l i) ?_ ?_ ?_ ?_
        · exact ⟨⟨_, rfl⟩, tg8, m1, [], [], er1, st8, R8, ekn8, eth8, ef8, rfl, tf8, fun n' h => (by cases h), rfl⟩
        · rintro i σ H' hi ⟨_, tg', m', qs, fl, _, st, _⟩
          exact sqT_at (st.keep _ _ ept6 (Pl.nt (o := .tup _) trivial) tt6)
        · rintro i x σ H' H'' hi ⟨⟨v9, rfl⟩, tg', m', qs, fl, hm, st, R', ek, et, ef, hfl, tf, hqs, hql⟩ ⟨rfl, hx⟩
          rw [List.getElem?_map] at hx
          cases hc : l.parts[i]? with
          | none => rw [hc] at hx; cases hx
          | some c =>
            rw [hc] at hx
            cases hx
            have e4' := st.keep _ _ e46 (Pl.nt (o := .lst _) trivial) tp6
            obtain ⟨q1, q2, q3, q4, q5, q6, q7⟩ := hm.adr
            walk_at "w"
            refine ⟨p, _, rfl, .inl (sqL_at e4'), rfl, flat_nat, ?_⟩
            rw [if_pos rfl, inV_nat]
            by_cases hin : c ∈ ks
            · have hck := perm.mem_iff.mp hin
              have f1 : FldAt K H'' (.ref m.k) "tree" (.ref m.tr) := by have := fld_k_tree G R'; rwa [q1, q2] at this
              have i1' : InsC H'' (.ref m.tr) (He.ga K "Tree") "held" := by have := insTr (x := "held") R' rfl; rwa [q2] at this
              walk_at "w"
              refine ⟨i1', ?_⟩
              walk_at "w"
              refine ⟨tg', m', c, t, by rw [q2], R', by rw [hm.keys]; exact hck, fun H9 st9 R9 kp9 => ?_⟩
              have ef9 := st9.keep _ _ ef (Pl.nt (o := .lst _) trivial) tf
              have f2 : FldAt K H9 (.ref m.k) "tasks" (.ref m.ta) := by have : FldAt K H9 (.ref m'.k) "tasks" (.ref m'.ta) := fld_k_tasks (m := m'.setHold c t) G R9; rwa [q1, q3] at this
              have i2 : InsC H9 (.ref m.ta) (He.ga K "Tasks") "put" := by have : InsC H9 (.ref m'.ta) (He.ga K "Tasks") "put" := insTa (m := m'.setHold c t) R9 rfl; rwa [q3] at this
              have htn : t ∈ m'.names := by rw [hm.names]; exact hq.1
              have tts : tg' (m'.tsa t) = some (.tsl t) := (R9.cell (.tsl t) _ _ (if_pos htn)).1
              have tkn' : tg' m.kn = some .kn := by have := R'.kn_tag; rwa [q4] at this
              have tth' : tg' m.th = some .th := by have := R'.th_tag; rwa [q5] at this
              have hki := kpt_in (m := m) hc hck
              have hkl := kpt_le (m := m) (l := l) (i := i + 1)
              have hfre := hm.fre
              have hw2 := hm.wf.setHold (n := c) (s := t)
              have hput := fun j => hm.put (n := c) (j := j) hq.1 hck
              have hlen : i < 4 := by rw [List.length_map] at hi; omega
              walk_at "w"
              refine ⟨tyL ef9, ?_⟩
              walk_at "w"
              refine ⟨i2, ?_⟩
              walk_at "w"
              refine ⟨tg', m'.setHold c t, t, c, by show [V.ref m.ta, V.str t, nV c] = [V.ref m'.ta, V.str t, nV c]; rw [q3], R9, hw2.bd, ⟨htn, by show (m'.task t).runs = true; rw [hm.runs]; exact hq.2⟩, countP_none (l := (m'.task t).rows) (by omega), fun j H10 hj st10 R10 kp10 => ?_⟩
              have nts : ∀ {a : Addr} {r : Option Ro}, tg' a = r → r ≠ some (.tsl t) → a ≠ m'.tsa t := fun h n z => n (by rw [← h, z]; exact tts)
              have ef10 := (kp10 pf (nts tf (by simp))).trans ef9
              refine ⟨_, _, _, rfl, rfl, ef10, by rw [hfl, sizeLine_eq]; omega, ?_⟩
              have ntf : ∀ {a : Addr} {r : Ro}, tg' a = some r → a ≠ pf := fun h z => by rw [z, tf] at h; cases h
              refine ⟨⟨_, rfl⟩, tg', _, qs ++ [c], fl ++ [nV j], hput j hj, ((st.trans st9).trans st10).updN (fun o _ z => by rw [hpf] at z; cases z) ef10 trivial, R10.other tf ef10, ?_, ?_, upd_same, by rw [List.length_append, hfl]; rfl, tf, fun n' hn' => ?_, by rw [List.length_append, hql, hki]; rfl⟩
              · exact (upd_ne (ntf tkn')).trans ((kp10 _ (nts tkn' (by simp))).trans (kp9 _ _ (by rw [tkn']; simp) ek))
              · exact (upd_ne (ntf tth')).trans ((kp10 _ (nts tth' (by simp))).trans (kp9 _ _ (by rw [tth']; simp) et))
              · rcases List.mem_append.mp hn' with h | h
                · exact hqs n' h
                · rw [List.mem_singleton.mp h]; exact ⟨List.mem_of_getElem? hc, hck⟩
            · have hck : c ∉ m.keys := fun h => hin (perm.mem_iff.mpr h)
              walk_at "w"
              refine ⟨tyL ef, ?_⟩
              walk_at "w"
              refine ⟨_, _, _, rfl, rfl, ef, by rw [hfl, sizeLine_eq]; rw [List.length_map] at hi; omega, ?_⟩
              walk_at "w"
              have ntf : ∀ {a : Addr} {r : Ro}, tg' a = some r → a ≠ pf := fun h z => by rw [z, tf] at h; cases h
              have tkn' : tg' m.kn = some .kn := by have := R'.kn_tag; rwa [q4] at this
              have tth' : tg' m.th = some .th := by have := R'.th_tag; rwa [q5] at this
              exact ⟨⟨_, rfl⟩, tg', m', qs, fl ++ [.non], hm, st.updN (fun o _ z => by rw [hpf] at z; cases z) ef trivial, R'.other tf ef, (upd_ne (ntf tkn')).trans ek, (upd_ne (ntf tth')).trans et, upd_same, by rw [List.length_append, hfl]; rfl, tf, hqs, by rw [kpt_out hc hck]; exact hql⟩
        · rintro σ H' ⟨⟨v9, rfl⟩, tg', m', qs, fl, hm, st, R', ek, et, ef, hfl, tf, hqs, hql⟩
          have el' := st.keep _ _ el6 (Pl.nt (o := .ins _ _ _) trivial) tl6
          have fw : FldAt K H' (.ref l.at_) "words" (.str wl) := ⟨_, _, dxl, _, rfl, el', G.cl_Letter, G.n_Letter_words, lk0⟩
          obtain ⟨q1, q2, q3, q4, q5, q6, q7⟩ := hm.adr
          walk_at "w"
          refine ⟨by show (2 : Nat) ≤ sizeLine; rw [sizeLine_eq]; decide, fun T hT => ?_⟩
          have aT := Al.new (o := .tup [.str wl, .ref pf]) hT
          refine k _ tg' m' _ (st7.trans (st.trans (Stp.al aT))) ⟨R'.al aT, hm.wf, ?_, ?_⟩ (hm.step KN.w hq.1 h8 ⟨hq.1, n, slotAt_mem hs, rfl, rfl⟩ fun n' hn' => ⟨hth, _, l, n', hls, List.mem_cons_self, (hqs n' hn').1, (hqs n' hn').2, rfl, rfl⟩) (fun s h => ⟨by rw [hm.names]; exact h.1, by rw [hm.runs]; exact h.2⟩)
          · rw [q4, hm.names, q6]; exact aT.dK ek
          · rw [q5, hm.nth, q7]; exact aT.dK et
      · have hfr' : (((m.task t).rows.countP (·.isNone) : Nat) : Int) < ((kpt m l l.parts.length : Nat) : Int) := by omega
        walk_at "w"
        exact er _ _ _ (xc G.e_TooMany) (a14.trans a5)
end
end Pk
end
/-! PkF30 -/
section
set_option maxHeartbeats 4000000
namespace Pk
open PySem PySem.Spec PyProof.Rows L2
local macro_rules | `(tactic| walk_at "c") => `(tactic| first | assumption | omega | exact rfl | (intro z; cases z; done) | (simp only [nV, V.int.injEq, V.str.injEq]; first | assumption | omega))
local macro_rules | `(tactic| walk_at "fld") => `(tactic| first
  | assumption
  | exact fld_k_tasks (by assumption) (by assumption) | exact fld_k_tree (by assumption) (by assumption) | exact fld_k_things (by assumption) (by assumption) | exact fld_ta_known (by assumption) (by assumption)
  | exact fld_t_rows (by assumption) (by assumption) (by assumption) | exact fld_t_run1 (by assumption) (by assumption) (by assumption) (by assumption) | exact fld_t_runs (by assumption) (by assumption) (by assumption) | exact fld_t_maker (by assumption) (by assumption) (by assumption) | exact fld_tr_rows (by assumption) (by assumption) | exact fld_tr_rb (by assumption) (by assumption) | exact fld_tr_ever (by assumption) (by assumption)
  | exact fld_h_number (by assumption) (by assumption) | exact fld_h_thing (by assumption) (by assumption) | exact fld_h_rights (by assumption) (by assumption) | exact fld_h_giver (by assumption) (by assumption) | exact fld_h_holder (by assumption) (by assumption))
local macro_rules | `(tactic| walk_at "get") => `(tactic| first
  | assumption
  | exact get_kn1 (by assumption) (by assumption) | exact get_kn0 (by assumption) (by assumption) | exact get_rw1 (by assumption) (by assumption) | exact get_rw0 (by assumption) (by assumption)
  | exact get_rb1 (by assumption) (by assumption) | exact get_rb0 (by assumption) (by assumption) | exact get_th1 (by assumption) (by assumption) | exact get_th0 (by assumption) (by assumption))
local macro_rules | `(tactic| walk_at "ins") => `(tactic| first | exact insTa (by assumption) rfl | exact insTr (by assumption) rfl)
local macro_rules | `(tactic| walk_at "s") => `(tactic| first
  | refine ⟨_, rfl, ?_⟩
  | refine ⟨rfl, ?_⟩
  | refine zI fun _ => ?_
  | with_reducible refine iteF ?_ | with_reducible refine iteT ?_
  | ((with_reducible refine iteDy ?_ ?_); focus (walk_at "c"; done)) | ((with_reducible refine iteDn ?_ ?_); focus (walk_at "c"; done)) | ((with_reducible refine iteNy ?_ ?_); focus (walk_at "c"; done)) | ((with_reducible refine iteNn ?_ ?_); focus (walk_at "c"; done))
  | refine fldI (by walk_at "fld") ?_
  | refine getI (by walk_at "get") ?_ | refine getS (by walk_at "get") ?_
  | refine ⟨by walk_at "ins", ?_⟩
  | refine ⟨_, _, _, _, true, rfl, .ty _, .base (.str _), kit_ty (by decide +kernel), ?_⟩
  | refine ⟨_, _, _, _, true, rfl, .ty _, .base (.int _), kit_ty (by decide +kernel), ?_⟩
  | refine ⟨_, _, _, _, false, rfl, .ty _, .base (.int _), kit_ty (by decide +kernel), ?_⟩
  | refine ⟨_, _, rfl, rfl, ?_⟩
  | refine ⟨_, _, rfl, rfl, trivial, ?_⟩)
local macro_rules | `(tactic| walk_at "w") => `(tactic| repeat (walk_at "s"))
/-- a kernel just begun -/
structure New (m : Mo) : Prop where
  names : m.names = [rootN]
  ever : m.ever = 0
  nth : m.nth = 0
  keys : m.keys = []
  rows : (m.task rootN).rows = List.replicate 16 none
def mo0 (x tr rw rb ta kn th : Addr) : Mo := ⟨x, tr, rw, rb, ta, kn, th, 0, [], fun _ => ⟨0, 0, none, ""⟩, fun _ => 0, fun _ => 0, fun _ => [], fun _ => 0, [], fun _ => ⟨"", false, []⟩, fun _ => 0, fun _ => 0, 0, fun _ => .cell, fun _ => 0, fun _ => 0⟩
theorem new_wf {x tr rw rb ta kn th xa sa : Addr} : Wf ((mo0 x tr rw rb ta kn th).addTask rootN "" xa sa) ∧ New ((mo0 x tr rw rb ta kn th).addTask rootN "" xa sa) := by
  have hn : ((mo0 x tr rw rb ta kn th).addTask rootN "" xa sa).names = [rootN] := rfl
  have ht : ((mo0 x tr rw rb ta kn th).addTask rootN "" xa sa).task rootN = ⟨"", true, List.replicate 16 none⟩ := by simp [Mo.addTask]
  have mem : ∀ s, s ∈ ((mo0 x tr rw rb ta kn th).addTask rootN "" xa sa).names → s = rootN := fun s h => by rw [hn] at h; exact List.mem_singleton.mp h
  have nk : ∀ n, n ∉ ((mo0 x tr rw rb ta kn th).addTask rootN "" xa sa).keys := fun n h => by cases h
  have n0 : ∀ i, ¬ i < ((mo0 x tr rw rb ta kn th).addTask rootN "" xa sa).nth := fun i h => Nat.not_lt_zero _ h
  refine ⟨⟨⟨.nil, fun n h => absurd h (nk n), fun n h => absurd h (nk n), fun n h => absurd h (nk n), fun n g h => absurd h (nk n), fun n h => absurd h (nk n), fun n h => absurd h (nk n), fun n h => absurd h (nk n), fun n c h => absurd h (nk n), Nat.zero_le _⟩, ⟨?_, ?_⟩, ⟨?_, Nat.zero_le _, ?_⟩, Nat.zero_le _, ?_, ?_, ⟨?_, ?_⟩, ?_, ?_, ?_, ?_, ?_, ?_, ?_, ?_⟩, ⟨hn, rfl, rfl, rfl, by rw [ht]⟩⟩
  · rw [hn]; simp
  · intro i s hi hr j hj
    have hs := mem s (List.mem_of_getElem? hi)
    rw [hs, ht] at hj
    have := mem _ (List.mem_of_getElem? hj)
    exact absurd this (by decide)
  · rw [hn]; decide
  · intro s hs; rw [mem s hs, ht]; rfl
  · unfold runL
    refine Nat.le_trans (List.length_filter_le _ _) ?_
    rw [hn]; decide
  · intro s n hs h
    rw [mem s hs, ht] at h
    have := List.eq_of_mem_replicate h
    cases this
  · rw [hn]; exact List.mem_singleton.mpr rfl
  · rw [ht]
  · intro s hs _; exact mem s hs
  · rw [ht]
  · intro s hs; rw [mem s hs, ht]; exact .inl rfl
  · intro i ls l n h; exact absurd h (n0 i)
  · rw [hn]; decide
  · intro s hs; rw [mem s hs]; decide
  · intro i nm r h; exact absurd h (n0 i)
  · intro i ls h; exact absurd h (n0 i)
section
variable {K : PySem.W.Frag} {H : Hp}
open Classical in
noncomputable def tg0 (x tr rw rb ta kn th : Addr) : Tag := fun b => if b = x then some .k else if b = tr then some .tr else if b = ta then some .ta else if b = rw then some .rw else if b = rb then some .rb else if b = kn then some .kn else if b = th then some .th else none
theorem rep0 {x tr rw rb ta kn th d1 d2 d3 : Addr} (h1 : H x = some (.ins (He.ga K "Kernel") d1 (kF tr ta th))) (h2 : H tr = some (.ins (He.ga K "Tree") d2 (trF 0 rw rb))) (h3 : H ta = some (.ins (He.ga K "Tasks") d3 (taF kn)))
    (e1 : H rw = some (.dK [])) (e2 : H rb = some (.dK [])) (e3 : H kn = some (.dK [])) (e4 : H th = some (.dK [])) (n1 : rw ≠ rb) (n2 : rw ≠ kn) (n3 : rb ≠ kn) (n4 : rw ≠ th) (n5 : rb ≠ th) (n6 : kn ≠ th) : Rep K H (tg0 x tr rw rb ta kn th) (mo0 x tr rw rb ta kn th) := by
  have d : ∀ {a b : Addr} {C dx : Addr} {fs : List (Str × V)}, H a = some (.ins C dx fs) → H b = some (.dK []) → b ≠ a := fun p q z => by rw [z, p] at q; cases q
  have x1 : tr ≠ x := fun z => by
    rw [z, h1] at h2
    have e : kF tr ta th = trF 0 rw rb := by injection h2 with e; injection e
    have e' : ("tree" : Str) = "ever" := congrArg (fun l : List (Str × V) => (l.head?.map Prod.fst).getD "") e
    exact absurd e' (by decide)
  have x2 : ta ≠ x := fun z => by
    rw [z, h1] at h3
    have e : kF tr ta th = taF kn := by injection h3 with e; injection e
    have e' : (3 : Nat) = 1 := congrArg List.length e
    omega
  have x3 : ta ≠ tr := fun z => by
    rw [z, h2] at h3
    have e : trF 0 rw rb = taF kn := by injection h3 with e; injection e
    have e' : (3 : Nat) = 1 := congrArg List.length e
    omega
  refine ⟨fun r a φ e => ?_, fun i ls h => absurd h (Nat.not_lt_zero _)⟩
  cases r with
  | k =>
    simp only [Mo.cell, mo0] at e
    cases e
    exact ⟨by simp [tg0], _, h1, d1, rfl⟩
  | tr =>
    simp only [Mo.cell, mo0] at e
    cases e
    exact ⟨by simp [tg0, x1], _, h2, d2, rfl⟩
  | ta =>
    simp only [Mo.cell, mo0] at e
    cases e
    exact ⟨by simp [tg0, x2, x3], _, h3, d3, rfl⟩
  | rw =>
    simp only [Mo.cell, mo0] at e
    cases e
    exact ⟨by simp [tg0, d h1 e1, d h2 e1, d h3 e1], _, e1, rfl⟩
  | rb =>
    simp only [Mo.cell, mo0] at e
    cases e
    exact ⟨by simp [tg0, d h1 e2, d h2 e2, d h3 e2, n1.symm], _, e2, rfl⟩
  | kn =>
    simp only [Mo.cell, mo0] at e
    cases e
    exact ⟨by simp [tg0, d h1 e3, d h2 e3, d h3 e3, n2.symm, n3.symm], _, e3, .inl rfl⟩
  | th =>
    simp only [Mo.cell, mo0] at e
    cases e
    exact ⟨by simp [tg0, d h1 e4, d h2 e4, d h3 e4, n4.symm, n5.symm, n6.symm], _, e4, .inl rfl⟩
  | hnd n => simp [Mo.cell, mo0] at e
  | kid n => simp [Mo.cell, mo0] at e
  | tsk s => simp [Mo.cell, mo0] at e
  | tsl s => simp [Mo.cell, mo0] at e
  | thg n => simp [Mo.cell, mo0] at e
  | sub n => simp [Mo.cell, mo0] at e
theorem tg0_none {x tr rw rb ta kn th b : Addr} (h1 : b ≠ x) (h2 : b ≠ tr) (h3 : b ≠ ta) (h4 : b ≠ rw) (h5 : b ≠ rb) (h6 : b ≠ kn) (h7 : b ≠ th) : tg0 x tr rw rb ta kn th b = none := by
  simp [tg0, h1, h2, h3, h4, h5, h6, h7]
end
section
variable {P : Program} {w : World} {K : PySem.W.Frag} {mg : Str → Option Value} {base : Heap} (G : Gx K mg base)
include G
def sp_Kernel_init (K : PySem.W.Frag) : Sp := fun vs H Q E => ∃ x dx, vs = [.ref x, .str rootN] ∧ H x = some (.ins (He.ga K "Kernel") dx []) ∧
  (∀ H' tg m, m.k = x → Kn K H' tg m → New m → (∀ b o, b ≠ x → H b = some o → nt o → H' b = some o) → (∀ T, TbN T H → TbN T H') → Q .non H')
omit G in
theorem sc_Kernel_init : FnScope ["self", "name"] ["self", "name"] (defScope s_Kernel_init) := ⟨rfl, rfl, rfl, by decide +kernel, rfl, by decide +kernel, by decide +kernel⟩
theorem ok_Kernel_init : MkR P w K mg base 4 (He.ga K "Kernel") (sp_Kernel_init K) := by
  refine mkI (k := 3) G.k_Kernel G.f_Kernel_init sc_Kernel_init (fun _ _ _ _ _ _ us hl => match us, hl with | [_, _], _ => rfl) (fun vs H Q E h => by repeat (first | (obtain ⟨e, _⟩ := h; cases e; rfl; done) | obtain ⟨_, h⟩ := h)) (fun cdv A outer s H vs Q E hr h => ?_)
  have S := sc_Kernel_init
  obtain ⟨x, dx, rfl, hx, k⟩ := h
  refine ⟨_, (pss_cons (ps_fld (pv 0) (pe_mk0 (ok_Tree_init G) (hr.mono (by omega)) rfl G.g_Tree) rfl)
      (pss_cons (ps_fld (pv 0) (pe_mk0 (ok_Tasks_init G) (hr.mono (by omega)) rfl G.g_Tasks) rfl)
      (pss_cons (ps_fld (pv 0) pe_dnewK rfl)
      (pss_one (ps_expr (pe_m (ok_Tasks_added G) (hr.mono (by omega)) G.cl_Tasks G.m_Tasks_added tkd (pe_fd (pv 0)) (pa_cons (pv 1) (pa_cons pe_str pa_nil)))))))), ?_⟩
  walk_at "w"
  have up : ∀ {H0 H1 : Hp} {y d : Addr} {o : HO}, H0 y = none → H0 d = none → (∀ b o1, b ≠ y → (L2.upd (L2.upd H0 d (.own y)) y o) b = some o1 → H1 b = some o1) → ∀ b o1, H0 b = some o1 → H1 b = some o1 := fun hy hd kp b o1 e => kp b o1 (ne_of_none e hy) (by rw [upd_ne (ne_of_none e hy), upd_ne (ne_of_none e hd)]; exact e)
  have dn : ∀ {H0 : Hp} {y d p : Addr} {o : HO}, (L2.upd (L2.upd H0 d (.own y)) y o) p = none → H0 p = none ∧ p ≠ y := fun {H0 y d p o} h => by
    have n1 : p ≠ y := fun z => by rw [z, upd_same] at h; cases h
    rw [upd_ne n1] at h
    have n2 : p ≠ d := fun z => by rw [z, upd_same] at h; cases h
    rw [upd_ne n2] at h
    exact ⟨h, n1⟩
  have hx' : H x = some (.ins (He.ga K "Kernel") dx []) := hx
  refine fun x1 d1 hx1 hd1 n1 => ⟨x1, d1, rfl, upd_same, fun H1 aw ab hrw hrb nwb e1 ew eb kp1 => ⟨rfl, ?_⟩⟩
  have k1 := up hx1 hd1 kp1
  have aw0 := dn hrw
  have ab0 := dn hrb
  have a1 := Al.of k1
  have nx1 : x ≠ x1 := ne_of_none hx' hx1
  walk_at "w"
  refine ⟨_, _, _, _, rfl, k1 _ _ hx', G.cl_Kernel, G.n_Kernel_tree, by show (0 : Nat) < 1000; decide, ?_⟩
  have g1 : ∀ b o, b ≠ x → H1 b = some o → (L2.upd H1 x (.ins (He.ga K "Kernel") dx (putF "tree" (.ref x1) []))) b = some o := fun b o n e => (upd_ne n).trans e
  have ex1 : (L2.upd H1 x (.ins (He.ga K "Kernel") dx (putF "tree" (.ref x1) []))) x = some (.ins (He.ga K "Kernel") dx [(("tree" : Str), V.ref x1)]) := by rw [upd_same]; rfl
  have fr1 : ∀ p, (L2.upd H1 x (.ins (He.ga K "Kernel") dx (putF "tree" (.ref x1) []))) p = none → H1 p = none ∧ p ≠ x := fun p h => by
    have n : p ≠ x := fun z => by rw [z, ex1] at h; cases h
    rw [upd_ne n] at h
    exact ⟨h, n⟩
  have t1 : ∀ T, TbN T H → TbN T (L2.upd H1 x (.ins (He.ga K "Kernel") dx (putF "tree" (.ref x1) []))) := fun T h => tabsN_upd (a1.tabs T h) (k1 _ _ hx') trivial
  generalize L2.upd H1 x (.ins (He.ga K "Kernel") dx (putF "tree" (.ref x1) [])) = H2 at *
  walk_at "w"
  refine fun x2 d2 hx2 hd2 n2 => ⟨x2, d2, rfl, upd_same, fun H3 kn hkn e3 ekn kp3 => ⟨rfl, ?_⟩⟩
  have k3 := up hx2 hd2 kp3
  have kn0 := dn hkn
  have a3 := Al.of k3
  have nx2 : x ≠ x2 := ne_of_none ex1 hx2
  walk_at "w"
  refine ⟨_, _, _, _, rfl, k3 _ _ ex1, G.cl_Kernel, G.n_Kernel_tasks, by show (1 : Nat) < 1000; decide, ?_⟩
  have g3 : ∀ b o, b ≠ x → H3 b = some o → (L2.upd H3 x (.ins (He.ga K "Kernel") dx (putF "tasks" (.ref x2) [(("tree" : Str), V.ref x1)]))) b = some o := fun b o n e => (upd_ne n).trans e
  have ex3 : (L2.upd H3 x (.ins (He.ga K "Kernel") dx (putF "tasks" (.ref x2) [(("tree" : Str), V.ref x1)]))) x = some (.ins (He.ga K "Kernel") dx [(("tree" : Str), V.ref x1), (("tasks" : Str), V.ref x2)]) := by rw [upd_same]; rfl
  have t3 : ∀ T, TbN T H2 → TbN T (L2.upd H3 x (.ins (He.ga K "Kernel") dx (putF "tasks" (.ref x2) [(("tree" : Str), V.ref x1)]))) := fun T h => tabsN_upd (a3.tabs T h) (k3 _ _ ex1) trivial
  generalize L2.upd H3 x (.ins (He.ga K "Kernel") dx (putF "tasks" (.ref x2) [(("tree" : Str), V.ref x1)])) = H4 at *
  walk_at "w"
  refine fun p hp => ?_
  have a5 := Al.new (o := .dK []) hp
  have k5 : ∀ b o, H4 b = some o → (L2.upd H4 p (.dK [])) b = some o := fun b o e => (upd_ne (ne_of_none e hp)).trans e
  have ep5 : (L2.upd H4 p (.dK [])) p = some (.dK []) := upd_same
  generalize L2.upd H4 p (.dK []) = H5 at *
  walk_at "w"
  refine ⟨_, _, _, _, rfl, k5 _ _ ex3, G.cl_Kernel, G.n_Kernel_things, by show (2 : Nat) < 1000; decide, ?_⟩
  have g5 : ∀ b o, b ≠ x → H5 b = some o → (L2.upd H5 x (.ins (He.ga K "Kernel") dx (putF "things" (.ref p) [(("tree" : Str), V.ref x1), (("tasks" : Str), V.ref x2)]))) b = some o := fun b o n e => (upd_ne n).trans e
  have ex5 : (L2.upd H5 x (.ins (He.ga K "Kernel") dx (putF "things" (.ref p) [(("tree" : Str), V.ref x1), (("tasks" : Str), V.ref x2)]))) x = some (.ins (He.ga K "Kernel") dx (kF x1 x2 p)) := by rw [upd_same]; rfl
  have t5 : ∀ T, TbN T H4 → TbN T (L2.upd H5 x (.ins (He.ga K "Kernel") dx (putF "things" (.ref p) [(("tree" : Str), V.ref x1), (("tasks" : Str), V.ref x2)]))) := fun T h => tabsN_upd (a5.tabs T h) (k5 _ _ ex3) trivial
  generalize L2.upd H5 x (.ins (He.ga K "Kernel") dx (putF "things" (.ref p) [(("tree" : Str), V.ref x1), (("tasks" : Str), V.ref x2)])) = H6 at *
  have nawx : aw ≠ x := fun z => by rw [z, hx'] at aw0; cases aw0.1
  have nabx : ab ≠ x := fun z => by rw [z, hx'] at ab0; cases ab0.1
  have knx : kn ≠ x := fun z => by rw [z, ex1] at kn0; cases kn0.1
  have h26 : ∀ b o, b ≠ x → H2 b = some o → H6 b = some o := fun b o n e => g5 b o n (k5 b o (g3 b o n (k3 b o e)))
  have h46 : ∀ b o, b ≠ x → H4 b = some o → H6 b = some o := fun b o n e => g5 b o n (k5 b o e)
  have h06 : ∀ b o, b ≠ x → H b = some o → H6 b = some o := fun b o n e => h26 b o n (g1 b o n (k1 b o e))
  have e12 := g1 _ _ nx1.symm e1
  have ew2 := g1 _ _ nawx ew
  have eb2 := g1 _ _ nabx eb
  have e34 := g3 _ _ nx2.symm e3
  have ekn4 := g3 _ _ knx ekn
  have npx : p ≠ x := fun z => by rw [z, ex3] at hp; cases hp
  have R6 : Rep K H6 (tg0 x x1 aw ab x2 kn p) (mo0 x x1 aw ab x2 kn p) := rep0 ex5 (h26 _ _ nx1.symm e12) (h46 _ _ nx2.symm e34) (h26 _ _ nawx ew2) (h26 _ _ nabx eb2) (h46 _ _ knx ekn4) (g5 _ _ npx ep5) nwb
    (fun z => by rw [← z, ew2] at kn0; cases kn0.1) (fun z => by rw [← z, eb2] at kn0; cases kn0.1)
    (fun z => by have := g3 _ _ nawx (k3 _ _ ew2); rw [z, hp] at this; cases this) (fun z => by have := g3 _ _ nabx (k3 _ _ eb2); rw [z, hp] at this; cases this) (fun z => by rw [z, hp] at ekn4; cases ekn4)
  have fx6 : FldAt K H6 (.ref x) "tasks" (.ref x2) := fld_k_tasks (m := mo0 x x1 aw ab x2 kn p) G R6
  have ix6 : InsC H6 (.ref x2) (He.ga K "Tasks") "added" := insTa (m := mo0 x x1 aw ab x2 kn p) R6 rfl
  walk_at "w"
  refine ⟨ix6, ?_⟩
  walk_at "w"
  have hok : AddOk (mo0 x x1 aw ab x2 kn p) rootN "" := ⟨by decide +kernel, fun h => (by cases h), fun h => absurd rfl h, by show (0 : Nat) < 12; decide⟩
  refine ⟨_, mo0 x x1 aw ab x2 kn p, rootN, "", rfl, R6, ⟨Nat.zero_le _, Nat.zero_le _, fun s h => by cases h⟩, h46 _ _ knx ekn4, by decide, by decide, fun h => absurd hok h, fun _ H7 tg7 xa sa st7 R7 kn7 th7 => ?_⟩
  walk_at "w"
  obtain ⟨w7, nw7⟩ := new_wf (x := x) (tr := x1) (rw := aw) (rb := ab) (ta := x2) (kn := kn) (th := p) (xa := xa) (sa := sa)
  have e7 : H7 p = some (.dK []) := th7 _ (g5 _ _ npx ep5) (Pl.nt (o := .dK _) trivial)
  refine k H7 tg7 _ rfl ⟨R7, w7, kn7, e7⟩ nw7 (fun b o n e nto => ?_) (fun T hT => st7.tabs T (t5 T (t3 T (t1 T hT))))
  refine st7.keep b o (h06 b o n e) nto (tg0_none n (ne_of_none e hx1) (fun z => ?_) (fun z => by rw [z, aw0.1] at e; cases e) (fun z => by rw [z, ab0.1] at e; cases e) (fun z => ?_) (fun z => ?_))
  · have := g1 b o n (k1 b o e)
    rw [z, hx2] at this; cases this
  · have := g1 b o n (k1 b o e)
    rw [z, kn0.1] at this; cases this
  · have := g3 b o n (k3 b o (g1 b o n (k1 b o e)))
    rw [z, hp] at this; cases this
def sp_begun (K : PySem.W.Frag) : Sp := fun vs H Q E => vs = [.str rootN] ∧ (∀ H' tg m, Al H H' → Kn K H' tg m → New m → Q (.ref m.k) H')
omit G in
theorem sc_begun : FnScope ["name"] ["name"] (defScope s_begun) := ⟨rfl, rfl, rfl, by decide +kernel, rfl, by decide +kernel, by decide +kernel⟩
theorem ok_begun : FnR P w K mg base (L2.CX P w) 6 (He.ga K "begun") (sp_begun K) := by
  refine mkF (k := 5) G.f_begun sc_begun (fun _ _ _ _ _ _ us hl => match us, hl with | [_], _ => rfl) (fun vs H Q E h => by repeat (first | (obtain ⟨e, _⟩ := h; cases e; rfl; done) | obtain ⟨_, h⟩ := h)) (fun cdv A outer s H vs Q E hr h => ?_)
  have S := sc_begun
  obtain ⟨rfl, k⟩ := h
  refine ⟨_, (pss_one (ps_ret (pe_mk (ok_Kernel_init G) (hr.mono (by omega)) rfl G.g_Kernel (pa_cons (pv 0) pa_nil)))), ?_⟩
  walk_at "w"
  refine fun x dx hx hdx nx => ⟨x, dx, rfl, upd_same, fun H' tg m hk KN nw kp tb => ⟨rfl, ?_⟩⟩
  walk_at "w"
  have a : Al H H' := ⟨fun b o e n => kp b o (ne_of_none e hx) (by rw [upd_ne (ne_of_none e hx), upd_ne (ne_of_none e hdx)]; exact e) n, fun T hT => tb T (((Al.new hdx).newT (by rw [upd_ne nx.symm]; exact hx)).tabs T hT)⟩
  rw [← hk]
  exact k H' tg m a KN nw
end
end Pk
end
/-! PkReach -/
section
set_option maxHeartbeats 4000000
namespace Pk
open PySem PySem.Spec PyProof.Rows L2
/-- what tasks not in S can come to, in n deeds at most -/
inductive Reach (S : List Str) : Nat → Mo → Mo → Prop
  | refl {n : Nat} {m : Mo} : Reach S n m m
  | step {n : Nat} {m m1 m2 : Mo} {t : Str} (h : Reach S n m m1) (hr : RunT m1 t) (hs : t ∉ S) (s : Step m1 m2 t) : Reach S (n + 1) m m2
theorem Reach.ev {S : List Str} {n : Nat} {m m' : Mo} (h : Reach S n m m') : m'.ever ≤ m.ever + 5 * n := by
  induction h with
  | refl => omega
  | step h hr hs s ih => have := s.ev; omega
theorem Reach.nl {S : List Str} {n : Nat} {m m' : Mo} (h : Reach S n m m') : m'.names.length ≤ m.names.length + n := by
  induction h with
  | refl => omega
  | step h hr hs s ih => have := s.nl; omega
theorem Reach.k {S : List Str} {n : Nat} {m m' : Mo} (h : Reach S n m m') : m'.k = m.k := by
  induction h with
  | refl => rfl
  | step h hr hs s ih => rw [s.k, ih]
theorem Reach.nth {S : List Str} {n : Nat} {m m' : Mo} (h : Reach S n m m') : m.nth ≤ m'.nth := by
  induction h with
  | refl => exact Nat.le_refl _
  | step h hr hs s ih => exact Nat.le_trans ih s.nth
theorem Reach.mono {S : List Str} {n n' : Nat} {m m' : Mo} (h : Reach S n m m') (hn : n ≤ n') : Reach S n' m m' := by
  induction h generalizing n' with
  | refl => exact .refl
  | step h hr hs s ih =>
    obtain ⟨k, rfl⟩ : ∃ k, n' = k + 1 := ⟨n' - 1, by omega⟩
    exact .step (ih (by omega)) hr hs s
theorem Reach.trans {S : List Str} {n n' : Nat} {m m1 m2 : Mo} (h : Reach S n m m1) (g : Reach S n' m1 m2) : Reach S (n + n') m m2 := by
  induction g with
  | refl => exact h.mono (by omega)
  | step g hr hs s ih => exact .step (ih h) hr hs s
theorem Lim.reach {S : List Str} {T : Str} {n0 n : Nat} {F R : Nat → Nat} {Op : Nat → Prop} {m m' : Mo} (h : Lim S T n0 F R Op m) (r : Reach S n m m') : Lim S T n0 F R Op m' := by
  induction r with
  | refl => exact h
  | step r hr hs s ih => exact (ih h).step s hr hs
/-- a list or tuple of names that the kernel leaves alone -/
def StS (K : PySem.W.Frag) (H : Hp) (tg : Tag) (a : Addr) (xs : List V) : Prop := (∃ o, H a = some o ∧ nt o ∧ tg a = none ∧ ∀ H', H' a = some o → SqA K H' a xs) ∨ ∀ H', SqA K H' a xs
theorem StS.sq {K : PySem.W.Frag} {H : Hp} {tg : Tag} {a : Addr} {xs : List V} (h : StS K H tg a xs) : SqA K H a xs := h.elim (fun ⟨o, e, _, _, g⟩ => g H e) fun g => g H
theorem StS.stp {K : PySem.W.Frag} {H H' : Hp} {tg tg' : Tag} {a : Addr} {xs : List V} (h : StS K H tg a xs) (s : Stp H tg H' tg') : StS K H' tg' a xs :=
  h.imp (fun ⟨o, e, n, t, g⟩ => ⟨o, s.keep _ _ e n t, n, s.tag _ _ e n t, g⟩) id
theorem cut_map {ys : List Int} {lo hi : Option Int} : ∃ zs : List Int, cutV (ys.map V.int) lo hi = zs.map V.int ∧ zs.length ≤ ys.length := by
  unfold cutV
  rw [← List.map_drop, ← List.map_take]
  refine ⟨_, rfl, ?_⟩
  rw [List.length_take, List.length_drop]
  omega
theorem tup3 {K : PySem.W.Frag} {H : Hp} {σ : L2.St} {n i j l : Nat} {T : Addr} {x y z : V} {Q : L2.St → Hp → Prop} (h : SqT K H T [x, y, z]) (hn : n = 3) (q : Q (((σ.set i (some x)).set j (some y)).set l (some z)) H) : gTup K n (gCons (gName i) (gCons (gName j) (gCons (gName l) gNil))) (.ref T) σ H Q :=
  ⟨T, _, rfl, h, hn.symm ▸ rfl, _, _, rfl, _, _, rfl, _, _, rfl, rfl, q⟩
/-- a list with a tuple in it is none of the kernel's -/
theorem lst_clean {K : PySem.W.Frag} {H : Hp} {tg : Tag} {m : Mo} (R : Rep K H tg m) {p T : Addr} {us xs : List V} (e : H p = some (.lst us)) (hT : V.ref T ∈ us) (eT : H T = some (.tup xs)) : cln K m tg p = none := by
  cases ec : cln K m tg p with
  | none => rfl
  | some r =>
    exfalso
    obtain ⟨_, φ, q⟩ := cln_some ec
    obtain ⟨_, o, ho, hφ⟩ := R.cell r p φ q
    rw [e] at ho
    cases ho
    cases r with
    | k => simp only [Mo.cell] at q; cases q; obtain ⟨dx, z⟩ := hφ; cases z
    | tr => simp only [Mo.cell] at q; cases q; obtain ⟨dx, z⟩ := hφ; cases z
    | ta => simp only [Mo.cell] at q; cases q; obtain ⟨dx, z⟩ := hφ; cases z
    | rw => simp only [Mo.cell] at q; cases q; cases hφ
    | rb => simp only [Mo.cell] at q; cases q; cases hφ
    | kn => simp only [Mo.cell] at q; cases q; rcases hφ with z | ⟨_, z⟩ <;> cases z
    | th => simp only [Mo.cell] at q; cases q; rcases hφ with z | ⟨_, z⟩ <;> cases z
    | hnd n => simp only [Mo.cell] at q; split at q <;> cases q; obtain ⟨dx, z⟩ := hφ; cases z
    | kid n =>
      simp only [Mo.cell] at q; split at q <;> cases q
      have z : us = _ := HO.lst.inj hφ
      rw [z] at hT
      obtain ⟨k, _, z⟩ := List.mem_map.mp hT
      cases z
    | tsk s => simp only [Mo.cell] at q; split at q <;> cases q; obtain ⟨dx, z⟩ := hφ; cases z
    | tsl s =>
      simp only [Mo.cell] at q; split at q <;> cases q
      have z : us = _ := HO.lst.inj hφ
      rw [z] at hT
      obtain ⟨k, _, z⟩ := List.mem_map.mp hT
      cases k <;> cases z
    | thg n => simp only [Mo.cell] at q; split at q <;> cases q; obtain ⟨dx, z⟩ := hφ; cases z
    | sub n =>
      simp only [Mo.cell] at q
      split at q
      · rename_i hn
        split at q
        · cases q
          have z : us = _ := HO.lst.inj hφ
          rw [z] at hT; cases hT
        · rename_i ls hd
          cases q
          have z : us = _ := HO.lst.inj hφ
          rw [z] at hT
          obtain ⟨l, hl, z⟩ := List.mem_map.mp hT
          cases z
          obtain ⟨dx, ws, pt, e1, _⟩ := R.lets n ls hn hd l hl
          rw [eT] at e1; cases e1
        · cases q
      · cases q
/-- a tuple is none of the kernel's -/
theorem tup_clean {K : PySem.W.Frag} {H : Hp} {tg : Tag} {m : Mo} (R : Rep K H tg m) {T : Addr} {xs : List V} (eT : H T = some (.tup xs)) : cln K m tg T = none := by
  cases ec : cln K m tg T with
  | none => rfl
  | some r =>
    exfalso
    obtain ⟨_, φ, q⟩ := cln_some ec
    obtain ⟨_, o, ho, hφ⟩ := R.cell r T φ q
    rw [eT] at ho
    cases ho
    cases r with
    | k => simp only [Mo.cell] at q; cases q; obtain ⟨dx, z⟩ := hφ; cases z
    | tr => simp only [Mo.cell] at q; cases q; obtain ⟨dx, z⟩ := hφ; cases z
    | ta => simp only [Mo.cell] at q; cases q; obtain ⟨dx, z⟩ := hφ; cases z
    | rw => simp only [Mo.cell] at q; cases q; cases hφ
    | rb => simp only [Mo.cell] at q; cases q; cases hφ
    | kn => simp only [Mo.cell] at q; cases q; rcases hφ with z | ⟨_, z⟩ <;> cases z
    | th => simp only [Mo.cell] at q; cases q; rcases hφ with z | ⟨_, z⟩ <;> cases z
    | hnd n => simp only [Mo.cell] at q; split at q <;> cases q; obtain ⟨dx, z⟩ := hφ; cases z
    | kid n => simp only [Mo.cell] at q; split at q <;> cases q; cases hφ
    | tsk s => simp only [Mo.cell] at q; split at q <;> cases q; obtain ⟨dx, z⟩ := hφ; cases z
    | tsl s => simp only [Mo.cell] at q; split at q <;> cases q; cases hφ
    | thg n => simp only [Mo.cell] at q; split at q <;> cases q; obtain ⟨dx, z⟩ := hφ; cases z
    | sub n =>
      simp only [Mo.cell] at q
      split at q
      · split at q
        · cases q; cases hφ
        · cases q; cases hφ
        · cases q
      · cases q
/-! rules whose K is named (within a try) -/
theorem ix_listK {X : Cx} {K : PySem.W.Frag} (h : X.K = K) : IxR X (rIxL K) := by subst h; exact ix_list
theorem sl_listK {X : Cx} {K : PySem.W.Frag} (h : X.K = K) : L2.SlR X (rSlL K) := by subst h; exact sl_list
theorem call_lenK {X : Cx} {K : PySem.W.Frag} (h : X.K = K) : CallR X (.builtin "len") (fun xs H Q => ∃ x n, xs = [x] ∧ LenV K x H n ∧ Q (.int n) H) := by subst h; exact call_len
theorem pe_bmK {X : Cx} {K : PySem.W.Frag} {T : String} {r : V → List V → Hp → VK → Prop} {ta : TE} {t : TA} {e : Expr} (hK : X.K = K) (h : PE X e (tBM X.K T r ta t)) : PE X e (tBM K T r ta t) := by subst hK; exact h
theorem Kn.other {K : PySem.W.Frag} {H : Hp} {tg : Tag} {m : Mo} {p : Addr} {xs ys : List V} (k : Kn K H tg m) (t : tg p = none) (e : H p = some (.lst xs)) : Kn K (L2.upd H p (.lst ys)) tg m :=
  ⟨k.r.other t e, k.w, (upd_ne (fun z => by have := k.r.kn_tag; rw [z, t] at this; cases this)).trans k.kn, (upd_ne (fun z => by have := k.r.th_tag; rw [z, t] at this; cases this)).trans k.th⟩
theorem Kn.cln {K : PySem.W.Frag} {H : Hp} {tg : Tag} {m : Mo} (k : Kn K H tg m) : Kn K H (Pk.cln K m tg) m := ⟨k.r.cln, k.w, k.kn, k.th⟩
end Pk
end
/-! PkTryId -/
section
set_option maxHeartbeats 4000000
namespace Pk
open PySem PySem.Spec PyProof.Rows L2
def tId (t : TS) : TS := fun D σ H => t D σ H
theorem ps_id {X : Cx} {st : Stmt} {t : TS} (h : PS X st t) : PS X st (tId t) := h
end Pk
end
/-! PkF31 -/
section
set_option maxHeartbeats 4000000
namespace Pk
open PySem PySem.Spec PyProof.Rows L2
local macro_rules | `(tactic| walk_at "c") => `(tactic| first | assumption | omega | exact rfl | (intro z; cases z; done) | (simp only [nV, V.int.injEq, V.str.injEq]; first | assumption | omega))
local macro_rules | `(tactic| walk_at "fld") => `(tactic| first
  | assumption
  | exact fld_k_tasks (by assumption) (by assumption) | exact fld_k_tree (by assumption) (by assumption) | exact fld_k_things (by assumption) (by assumption) | exact fld_ta_known (by assumption) (by assumption)
  | exact fld_t_rows (by assumption) (by assumption) (by assumption) | exact fld_t_run1 (by assumption) (by assumption) (by assumption) (by assumption) | exact fld_t_runs (by assumption) (by assumption) (by assumption) | exact fld_t_maker (by assumption) (by assumption) (by assumption) | exact fld_tr_rows (by assumption) (by assumption) | exact fld_tr_rb (by assumption) (by assumption) | exact fld_tr_ever (by assumption) (by assumption)
  | exact fld_h_number (by assumption) (by assumption) | exact fld_h_thing (by assumption) (by assumption) | exact fld_h_rights (by assumption) (by assumption) | exact fld_h_giver (by assumption) (by assumption) | exact fld_h_holder (by assumption) (by assumption))
local macro_rules | `(tactic| walk_at "get") => `(tactic| first
  | assumption
  | exact get_kn1 (by assumption) (by assumption) | exact get_kn0 (by assumption) (by assumption) | exact get_rw1 (by assumption) (by assumption) | exact get_rw0 (by assumption) (by assumption)
  | exact get_rb1 (by assumption) (by assumption) | exact get_rb0 (by assumption) (by assumption) | exact get_th1 (by assumption) (by assumption) | exact get_th0 (by assumption) (by assumption))
local macro_rules | `(tactic| walk_at "ins") => `(tactic| first | exact insTa (by assumption) rfl | exact insTr (by assumption) rfl)
local macro_rules | `(tactic| walk_at "s") => `(tactic| first
  | refine ⟨_, rfl, ?_⟩
  | refine ⟨rfl, ?_⟩
  | refine zI fun _ => ?_
  | with_reducible refine iteF ?_ | with_reducible refine iteT ?_
  | ((with_reducible refine iteDy ?_ ?_); focus (walk_at "c"; done)) | ((with_reducible refine iteDn ?_ ?_); focus (walk_at "c"; done)) | ((with_reducible refine iteNy ?_ ?_); focus (walk_at "c"; done)) | ((with_reducible refine iteNn ?_ ?_); focus (walk_at "c"; done))
  | refine fldI (by walk_at "fld") ?_
  | refine getI (by walk_at "get") ?_ | refine getS (by walk_at "get") ?_
  | refine ⟨by walk_at "ins", ?_⟩
  | refine ⟨_, _, _, _, true, rfl, .ty _, .base (.str _), kit_ty (by decide +kernel), ?_⟩
  | refine ⟨_, _, _, _, true, rfl, .ty _, .base (.int _), kit_ty (by decide +kernel), ?_⟩
  | refine ⟨_, _, _, _, false, rfl, .ty _, .base (.int _), kit_ty (by decide +kernel), ?_⟩
  | refine ⟨_, _, rfl, rfl, ?_⟩
  | refine ⟨_, _, rfl, rfl, trivial, ?_⟩)
local macro_rules | `(tactic| walk_at "w") => `(tactic| repeat (walk_at "s"))
theorem op_mul_s1 {X : Cx} : OpR X (binaryOp .Mult) (fun x y H Q => ∃ (i : Str) (k : Bool), x = .str i ∧ y = .int (if k = true then 1 else 0) ∧ Q (.str (if k = true then i else Str.empty)) H) := by
  intro pins s σ H x y v u Q I rx ry h
  obtain ⟨i, k, rfl, rfl, q⟩ := h
  obtain ⟨t, rfl⟩ := rx
  obtain ⟨t', rfl⟩ := ry
  cases k with
  | true =>
    refine SB.mul (n := 1) ⟨by decide, fun _ h => ?_, fun _ h => ?_⟩ fun t2 k2 => ⟨.str i, H, I.tok _, ⟨t2, rfl⟩, q⟩
    · simp at h
    · simp at h
  | false =>
    exact SB.mul (n := 0) ⟨by decide, fun h => absurd (by decide) h, fun h => absurd (by decide) h⟩ fun t2 k2 => ⟨.str Str.empty, H, I.tok _, ⟨t2, rfl⟩, q⟩
theorem pick {xs : List V} {i : Int} (h0 : 0 ≤ i) (h1 : i < (xs.length : Nat)) : ∃ v, v ∈ xs ∧ atI xs i = some v := by
  obtain ⟨n, rfl⟩ := Int.eq_ofNat_of_zero_le h0
  have hk : n < xs.length := by omega
  exact ⟨xs[n], List.getElem_mem hk, atI_nat (by simp [hk])⟩
section
variable {P : Program} {w : World} {K : PySem.W.Frag} {mg : Str → Option Value} {base : Heap} (G : Gx K mg base)
include G
def sp_cell_at (K : PySem.W.Frag) : Sp := fun vs H Q E => ∃ a k, ∃ sc : List Int, vs = [.ref a, nV k] ∧ SqL K H a (sc.map V.int) ∧ (∀ z : Int, Q (.int z) H)
omit G in
theorem sc_l_cell_at : FnScope ["_law_script", "_law_k"] ["_law_script", "_law_k"] (defScope s_l_cell_at) := ⟨rfl, rfl, rfl, by decide +kernel, rfl, by decide +kernel, by decide +kernel⟩
theorem ok_l_cell_at : FnR P w K mg base (L2.CX P w) 1 (He.ga K "_law_cell_at") (sp_cell_at K) := by
  refine mkF (k := 0) G.f_l_cell_at sc_l_cell_at (fun _ _ _ _ _ _ us hl => match us, hl with | [_, _], _ => rfl) (fun vs H Q E h => by repeat (first | (obtain ⟨e, _⟩ := h; cases e; rfl; done) | obtain ⟨_, h⟩ := h)) (fun cdv A outer s H vs Q E hr h => ?_)
  have S := sc_l_cell_at
  obtain ⟨a, k, sc, rfl, hs, q⟩ := h
  refine ⟨_, (pss_cons (ps_if (pt_cmpR op_lt (pv 1) (pe_callB call_len (by rfl) G.b_len PySem.boot_len (pa_cons (pv 0) pa_nil)) (nomark _)) (pss_one (ps_ret (pe_ix ix_list (pv 0) (pv 1) (fun _ _ => rfl)))) pss_nil)
      (pss_one (ps_ret pe_int))), ?_⟩
  walk_at "w"
  refine ⟨_, _, rfl, .inl ⟨_, hs, rfl⟩, ?_⟩
  rw [List.length_map]
  by_cases hk : k < sc.length
  · walk_at "w"
    refine ⟨a, _, k, .int sc[k], rfl, rfl, hs, atI_nat (by simp [hk]), ?_⟩
    walk_at "w"
    exact q _
  · walk_at "w"
    exact q 0
def sp_drawn (K : PySem.W.Frag) : Sp := fun vs H Q E => ∃ c k wy : Int, vs = [.int c, .int k, .int wy] ∧ 0 ≤ k ∧ k ≤ 1000 ∧ 0 ≤ wy ∧ wy ≤ 1000 ∧ (∀ H' d, Al H H' → d < 1000003 → Q (nV d) H')
omit G in
theorem sc_l_drawn : FnScope ["_law_cell", "_law_k", "_law_way", "_law_prime", "_law_one", "_law_other"] ["_law_cell", "_law_k", "_law_way"] (defScope s_l_drawn) := ⟨rfl, rfl, rfl, by decide +kernel, rfl, by decide +kernel, by decide +kernel⟩
theorem ok_l_drawn : FnR P w K mg base (L2.CX P w) 1 (He.ga K "_law_drawn") (sp_drawn K) := by
  refine mkF (k := 0) G.f_l_drawn sc_l_drawn (fun _ _ _ _ _ _ us hl => match us, hl with | [_, _, _], _ => rfl) (fun vs H Q E h => by repeat (first | (obtain ⟨e, _⟩ := h; cases e; rfl; done) | obtain ⟨_, h⟩ := h)) (fun cdv A outer s H vs Q E hr h => ?_)
  have S := sc_l_drawn
  obtain ⟨c, k, wy, rfl, hk0, hk1, hw0, hw1, q⟩ := h
  refine ⟨_, (pss_cons (ps_set (i := 3) S.nd rfl (by first | exact Or.inl rfl | exact Or.inr rfl) (pe_ix ix_list (pe_lst (pa_cons pe_int (pa_cons pe_int (pa_cons pe_int (pa_cons pe_int (pa_cons pe_int (pa_cons pe_int (pa_cons pe_int (pa_cons pe_int pa_nil))))))))) (pe_op op_mod (pv 2) pe_int) (fun _ _ => rfl)))
      (pss_cons (ps_set (i := 4) S.nd rfl (by first | exact Or.inl rfl | exact Or.inr rfl) (pe_op op_mod (pe_op op_mul (pe_op op_add (pe_op op_mod (pv 0) (pv 3)) pe_int) (pe_op op_add (pe_op op_add (pe_op op_mul (pv 1) pe_int) (pe_op op_mul (pv 2) pe_int)) pe_int)) (pv 3)))
      (pss_cons (ps_set (i := 5) S.nd rfl (by first | exact Or.inl rfl | exact Or.inr rfl) (pe_op op_mod (pe_op op_add (pe_op op_add (pe_op op_add (pe_op op_mul (pv 4) (pv 4)) (pe_op op_mul (pv 1) pe_int)) (pe_op op_mul (pv 2) pe_int)) (pe_op op_fdiv (pv 0) (pv 3))) (pv 3)))
      (pss_one (ps_ret (pe_op op_fdiv (pe_op op_mod (pe_op op_mul (pv 5) (pv 5)) (pv 3)) pe_int)))))), ?_⟩
  walk_at "w"
  refine ⟨by rw [sizeLine_eq]; decide, fun p hp => ?_⟩
  have a1 := Al.new (o := .lst [.int 1000003, .int 999983, .int 999979, .int 999961, .int 999959, .int 999953, .int 999931, .int 999917]) hp
  have e1 : (L2.upd H p (.lst [.int 1000003, .int 999983, .int 999979, .int 999961, .int 999959, .int 999953, .int 999931, .int 999917])) p = some (.lst [.int 1000003, .int 999983, .int 999979, .int 999961, .int 999959, .int 999953, .int 999931, .int 999917]) := upd_same
  generalize L2.upd H p (.lst [.int 1000003, .int 999983, .int 999979, .int 999961, .int 999959, .int 999953, .int 999931, .int 999917]) = H1 at *
  walk_at "w"
  obtain ⟨v, hv, ev⟩ := pick (xs := [V.int 1000003, .int 999983, .int 999979, .int 999961, .int 999959, .int 999953, .int 999931, .int 999917]) (i := wy % 8) (by omega) (by show wy % 8 < 8; omega)
  have hv' : ∃ pr : Int, v = .int pr ∧ 999917 ≤ pr ∧ pr ≤ 1000003 := by
    simp only [List.mem_cons, List.not_mem_nil, or_false] at hv
    rcases hv with rfl | rfl | rfl | rfl | rfl | rfl | rfl | rfl <;> exact ⟨_, rfl, by decide, by decide⟩
  obtain ⟨pr, rfl, hp1, hp2⟩ := hv'
  have hp0 : (0 : Int) < pr := by omega
  refine ⟨by show (0 : Int) < 8; decide, ?_⟩
  refine ⟨p, _, wy % 8, .int pr, rfl, rfl, sqL_at e1, ev, ?_⟩
  walk_at "w"
  refine ⟨hp0, ?_⟩
  have c1 := Int.emod_nonneg c (Int.ne_of_gt hp0)
  have c2 := Int.emod_lt_of_pos c hp0
  walk_at "w"
  refine ⟨.inl ⟨by omega, by omega⟩, ?_⟩
  walk_at "w"
  refine ⟨.inl ⟨by omega, by omega⟩, ?_⟩
  walk_at "w"
  refine ⟨.inl ⟨by omega, by omega⟩, ?_⟩
  walk_at "w"
  refine ⟨hp0, ?_⟩
  show gName 4 (.int (((c % pr + 1) * (k * 48271 + wy * 104729 + 11)) % pr)) _ _ _
  have o1 := Int.emod_nonneg ((c % pr + 1) * (k * 48271 + wy * 104729 + 11)) (Int.ne_of_gt hp0)
  have o2 := Int.emod_lt_of_pos ((c % pr + 1) * (k * 48271 + wy * 104729 + 11)) hp0
  generalize ((c % pr + 1) * (k * 48271 + wy * 104729 + 11)) % pr = one at *
  walk_at "w"
  refine ⟨.inl ⟨by omega, by omega⟩, ?_⟩
  walk_at "w"
  refine ⟨.inl ⟨by omega, by omega⟩, ?_⟩
  walk_at "w"
  refine ⟨.inl ⟨by omega, by omega⟩, ?_⟩
  walk_at "w"
  refine ⟨⟨hp0, by omega⟩, ?_⟩
  walk_at "w"
  refine ⟨hp0, ?_⟩
  show gName 5 (.int ((one * one + k * 7919 + wy * 131 + c / pr) % pr)) _ _ _
  have t1 := Int.emod_nonneg (one * one + k * 7919 + wy * 131 + c / pr) (Int.ne_of_gt hp0)
  have t2 := Int.emod_lt_of_pos (one * one + k * 7919 + wy * 131 + c / pr) hp0
  generalize (one * one + k * 7919 + wy * 131 + c / pr) % pr = oth at *
  walk_at "w"
  refine ⟨.inl ⟨by omega, by omega⟩, ?_⟩
  walk_at "w"
  refine ⟨hp0, ?_⟩
  walk_at "w"
  refine ⟨⟨by decide, by decide⟩, ?_⟩
  have u1 := Int.emod_nonneg (oth * oth) (Int.ne_of_gt hp0)
  have u2 := Int.emod_lt_of_pos (oth * oth) hp0
  show Q (.int (oth * oth % pr / 3)) H1
  generalize oth * oth % pr = r at *
  obtain ⟨n, rfl⟩ := Int.eq_ofNat_of_zero_le u1
  have e3 : ((n : Nat) : Int) / 3 = ((n / 3 : Nat) : Int) := rfl
  rw [e3]
  exact q H1 (n / 3) a1 (by omega)
end
end Pk
end
/-! PkPick -/
section
set_option maxHeartbeats 4000000
namespace Pk
open PySem PySem.Spec PyProof.Rows L2
theorem pickS {l : List Str} {i : Int} (h0 : 0 ≤ i) (h1 : i < (l.length : Nat)) : ∃ s, s ∈ l ∧ atI (l.map V.str) i = some (.str s) := by
  obtain ⟨v, hv, e⟩ := pick (xs := l.map V.str) h0 (by rw [List.length_map]; exact h1)
  obtain ⟨s, hs, rfl⟩ := List.mem_map.mp hv
  exact ⟨s, hs, e⟩
end Pk
end
/-! PkF32 -/
section
set_option maxHeartbeats 4000000
namespace Pk
open PySem PySem.Spec PyProof.Rows L2
local macro_rules | `(tactic| walk_at "c") => `(tactic| first | assumption | omega | exact rfl | (intro z; cases z; done) | (simp only [nV, V.int.injEq, V.str.injEq]; first | assumption | omega))
local macro_rules | `(tactic| walk_at "fld") => `(tactic| first
  | assumption
  | exact fld_k_tasks (by assumption) (by assumption) | exact fld_k_tree (by assumption) (by assumption) | exact fld_k_things (by assumption) (by assumption) | exact fld_ta_known (by assumption) (by assumption)
  | exact fld_t_rows (by assumption) (by assumption) (by assumption) | exact fld_t_run1 (by assumption) (by assumption) (by assumption) (by assumption) | exact fld_t_runs (by assumption) (by assumption) (by assumption) | exact fld_t_maker (by assumption) (by assumption) (by assumption) | exact fld_tr_rows (by assumption) (by assumption) | exact fld_tr_rb (by assumption) (by assumption) | exact fld_tr_ever (by assumption) (by assumption)
  | exact fld_h_number (by assumption) (by assumption) | exact fld_h_thing (by assumption) (by assumption) | exact fld_h_rights (by assumption) (by assumption) | exact fld_h_giver (by assumption) (by assumption) | exact fld_h_holder (by assumption) (by assumption))
local macro_rules | `(tactic| walk_at "get") => `(tactic| first
  | assumption
  | exact get_kn1 (by assumption) (by assumption) | exact get_kn0 (by assumption) (by assumption) | exact get_rw1 (by assumption) (by assumption) | exact get_rw0 (by assumption) (by assumption)
  | exact get_rb1 (by assumption) (by assumption) | exact get_rb0 (by assumption) (by assumption) | exact get_th1 (by assumption) (by assumption) | exact get_th0 (by assumption) (by assumption))
local macro_rules | `(tactic| walk_at "ins") => `(tactic| first | exact insTa (by assumption) rfl | exact insTr (by assumption) rfl)
local macro_rules | `(tactic| walk_at "s") => `(tactic| first
  | refine ⟨_, rfl, ?_⟩
  | refine ⟨rfl, ?_⟩
  | refine zI fun _ => ?_
  | with_reducible refine iteF ?_ | with_reducible refine iteT ?_
  | ((with_reducible refine iteDy ?_ ?_); focus (walk_at "c"; done)) | ((with_reducible refine iteDn ?_ ?_); focus (walk_at "c"; done)) | ((with_reducible refine iteNy ?_ ?_); focus (walk_at "c"; done)) | ((with_reducible refine iteNn ?_ ?_); focus (walk_at "c"; done))
  | refine fldI (by walk_at "fld") ?_
  | refine getI (by walk_at "get") ?_ | refine getS (by walk_at "get") ?_
  | refine ⟨by walk_at "ins", ?_⟩
  | refine ⟨_, _, _, _, true, rfl, .ty _, .base (.str _), kit_ty (by decide +kernel), ?_⟩
  | refine ⟨_, _, _, _, true, rfl, .ty _, .base (.int _), kit_ty (by decide +kernel), ?_⟩
  | refine ⟨_, _, _, _, false, rfl, .ty _, .base (.int _), kit_ty (by decide +kernel), ?_⟩
  | refine ⟨_, _, rfl, rfl, ?_⟩
  | refine ⟨_, _, rfl, rfl, trivial, ?_⟩)
local macro_rules | `(tactic| walk_at "w") => `(tactic| repeat (walk_at "s"))
section
variable {P : Program} {w : World} {K : PySem.W.Frag} {mg : Str → Option Value} {base : Heap} (G : Gx K mg base)
include G
def sp_lnames (K : PySem.W.Frag) : Sp := fun vs H Q E => ∃ k : Int, vs = [.int k] ∧ 0 ≤ k ∧ (∀ (H' : Hp) (nm : Str), Al H H' → nm.length ≤ 100 → nm ≠ "" → Q (.str nm) H')
omit G in
theorem sc_l_names : FnScope ["_law_k"] ["_law_k"] (defScope s_l_names) := ⟨rfl, rfl, rfl, by decide +kernel, rfl, by decide +kernel, by decide +kernel⟩
theorem ok_l_names : FnR P w K mg base (L2.CX P w) 1 (He.ga K "_law_names") (sp_lnames K) := by
  refine mkF (k := 0) G.f_l_names sc_l_names (fun _ _ _ _ _ _ us hl => match us, hl with | [_], _ => rfl) (fun vs H Q E h => by repeat (first | (obtain ⟨e, _⟩ := h; cases e; rfl; done) | obtain ⟨_, h⟩ := h)) (fun cdv A outer s H vs Q E hr h => ?_)
  have S := sc_l_names
  obtain ⟨k, rfl, hk0, q⟩ := h
  refine ⟨_, (pss_one (ps_ret (pe_op op_add_str (pe_ix ix_list (pe_lst (pa_cons pe_str (pa_cons pe_str (pa_cons pe_str (pa_cons pe_str (pa_cons pe_str (pa_cons pe_str (pa_cons pe_str pa_nil)))))))) (pe_op op_mod (pv 0) pe_int) (fun _ _ => rfl)) (pe_op op_mul_s1 (pe_ix ix_str pe_str (pe_op op_mod (pe_op op_fdiv (pv 0) pe_int) pe_int) (fun _ _ => rfl)) (pe_callTy call_int1 (by rfl) G.b_int (by decide +kernel) (pa_cons (pe_cmpR op_gt (pv 0) pe_int (nomark _)) pa_nil)))))), ?_⟩
  walk_at "w"
  refine ⟨by rw [sizeLine_eq]; decide, fun p hp => ?_⟩
  walk_at "w"
  obtain ⟨v, hv, ev⟩ := pick (xs := [V.str "abc", .str "b", .str "cc", .str "dora", .str "eeeeeee", .str "can", .str "who"]) (i := k % 7) (by omega) (by show k % 7 < 7; omega)
  have hv' : ∃ nm : Str, v = .str nm ∧ nm.length ≤ 7 ∧ 1 ≤ nm.length := by
    simp only [List.mem_cons, List.not_mem_nil, or_false] at hv
    rcases hv with rfl | rfl | rfl | rfl | rfl | rfl | rfl <;> exact ⟨_, rfl, by decide, by decide⟩
  obtain ⟨nm, rfl, hn1, hn2⟩ := hv'
  refine ⟨by show (0 : Int) < 7; decide, ?_⟩
  refine ⟨p, _, k % 7, .str nm, rfl, rfl, sqL_at upd_same, ev, ?_⟩
  have a1 := Al.new (o := .lst [V.str "abc", .str "b", .str "cc", .str "dora", .str "eeeeeee", .str "can", .str "who"]) hp
  generalize L2.upd H p (.lst [V.str "abc", .str "b", .str "cc", .str "dora", .str "eeeeeee", .str "can", .str "who"]) = H1 at *
  walk_at "w"
  refine ⟨⟨by decide, by decide⟩, ?_⟩
  walk_at "w"
  have hsl : ("abcdefghij" : Str).length ≤ sizeLine := by rw [sizeLine_eq]; decide
  have h10 : ("abcdefghij" : Str).cps.toList.length = 10 := by decide
  refine ⟨by show (0 : Int) < 10; decide, ?_⟩
  have hi0 : 0 ≤ k / 7 % 10 := by omega
  have hi1 : k / 7 % 10 < 10 := by omega
  obtain ⟨c, hc⟩ : ∃ c, atI ("abcdefghij" : Str).cps.toList (k / 7 % 10) = some c := by
    generalize k / 7 % 10 = i at *
    obtain ⟨n, rfl⟩ := Int.eq_ofNat_of_zero_le hi0
    exact ⟨_, atI_nat (List.getElem?_eq_getElem (by rw [h10]; omega))⟩
  refine ⟨_, _, c, rfl, rfl, hsl, hc, ?_⟩
  walk_at "w"
  refine .inr ⟨_, rfl, ?_⟩
  refine ⟨_, decide (6 < k), rfl, rfl, ?_⟩
  have l1 : (if decide (6 < k) = true then (⟨#[c]⟩ : Str) else Str.empty).length ≤ 1 := by
    split
    · exact Nat.le_refl 1
    · exact Nat.zero_le 1
  generalize (if decide (6 < k) = true then (⟨#[c]⟩ : Str) else Str.empty) = sfx at *
  refine ⟨_, _, rfl, rfl, by rw [sizeLine_eq]; omega, ?_⟩
  have hl : (nm ++ sfx).length = nm.length + sfx.length := Array.size_append
  exact q H1 _ a1 (by omega) (fun z => by rw [z] at hl; have : (0 : Nat) = nm.length + sfx.length := hl; omega)
def sp_lslot (K : PySem.W.Frag) : Sp := fun vs H Q E => ∃ tg m t kd, ∃ c : Int, vs = [.ref m.k, .str t, .int c, .str kd] ∧ Kn K H tg m ∧ RunT m t ∧ (∀ H' z, Al H H' → Q (.int z) H')
omit G in
theorem sc_l_slot : FnScope ["_law_kernel_here", "_law_task", "_law_cell", "_law_kind", "_law_some", "_law_pair"] ["_law_kernel_here", "_law_task", "_law_cell", "_law_kind"] (defScope s_l_slot) := ⟨rfl, rfl, rfl, by decide +kernel, rfl, by decide +kernel, by decide +kernel⟩
theorem ok_l_slot : FnR P w K mg base (L2.CX P w) 13 (He.ga K "_law_slot") (sp_lslot K) := by
  refine mkF (k := 12) G.f_l_slot sc_l_slot (fun _ _ _ _ _ _ us hl => match us, hl with | [_, _, _, _], _ => rfl) (fun vs H Q E h => by repeat (first | (obtain ⟨e, _⟩ := h; cases e; rfl; done) | obtain ⟨_, h⟩ := h)) (fun cdv A outer s H vs Q E hr h => ?_)
  have S := sc_l_slot
  obtain ⟨tg, m, t, kd, c, rfl, KN, hq, k⟩ := h
  have R := KN.r
  refine ⟨_, (pss_cons (ps_set (i := 4) S.nd rfl (by first | exact Or.inl rfl | exact Or.inr rfl) (pe_m (ok_Tasks_slots G) (hr.mono (by omega)) G.cl_Tasks G.m_Tasks_slots tkd (pe_fd (pv 0)) (pa_cons (pv 1) pa_nil)))
      (C8.pss_cut (ps_if (pt_cmpR op_ne (pv 3) pe_str (nomark _)) (pss_one (by exact (ps_setLcz (i := 4) (own := [("_law_pair", 5)]) rfl S.nd rfl rfl (sw_true rfl rfl rfl (by decide +kernel)) (pi_list (pv 4)) (blkOk_by (own := [("_law_pair", 5)]) (N := ["_law_kernel_here", "_law_task", "_law_cell", "_law_kind", "_law_some", "_law_pair"]) (sc := defScope s_l_slot) (by decide +kernel)) (fun _ => (pg_name (i := 5) S.nd rfl (by first | exact Or.inl rfl | exact Or.inr rfl))) (fun _ => (pts_one (pt_cmpR op_eq (pe_d0 (k := 12) (hr.mono (by omega)) takes0 (pe_dget (hu_of hr) (pe_fd (pv 0)) (pe_fd (pe_m (ok_Tree_handle G) (hr.mono (by omega)) G.cl_Tree G.m_Tree_handle takes0 (pe_fd (pv 0)) (pa_cons (pe_ix ix_tup (pv 5) pe_int (fun _ _ => rfl)) pa_nil))) (fun _ _ => rfl))) (pv 3) (nomark _)))) (fun _ => (pv 5))))) pss_nil)
      (pss_cons (ps_if (PW.pt (pw_or (pt_cmpR op_eq (pe_op op_mod (pv 2) pe_int) pe_int (nomark _)) (pw_or1 (pt_cmpR op_eq (pe_callB call_len (by rfl) G.b_len PySem.boot_len (pa_cons (pv 4) pa_nil)) pe_int (nomark _))))) (pss_one (ps_ret (pe_op op_sub (pe_op op_mod (pe_op op_fdiv (pv 2) pe_int) pe_int) pe_int))) pss_nil)
      (pss_one (ps_ret (pe_ix ix_tup (pe_ix ix_list (pv 4) (pe_op op_mod (pe_op op_fdiv (pv 2) pe_int) (pe_callB call_len (by rfl) G.b_len PySem.boot_len (pa_cons (pv 4) pa_nil))) (fun _ _ => rfl)) pe_int (fun _ _ => rfl))))))), ?_⟩
  walk_at "w"
  refine ⟨tg, m, t, rfl, R, KN.w.bd, fun h => absurd hq h, fun _ H1 p us a1 e1 hal => ?_⟩
  have hul : us.length ≤ 16 := by rw [← hal.1]; exact slotsOf_len
  have hus : ∀ u, u ∈ us → ∃ T sn, u = .ref T ∧ H1 T = some (.tup [nV sn.1, nV sn.2]) ∧ sn ∈ slotsOf m t := fun u hu => by
    obtain ⟨i, hi, e⟩ := List.getElem_of_mem hu
    obtain ⟨sn, h1, T, h2, h3⟩ := hal.get (i := i) (v := u) (by rw [List.getElem?_eq_getElem hi, e])
    exact ⟨T, sn, h2, h3, List.mem_of_getElem? h1⟩
  walk_at "w"
  refine ⟨fun σ' H' => ∃ v5 p' us', σ' = [some (.ref m.k), some (.str t), some (.int c), some (.str kd), some (.ref p'), v5] ∧ Al H1 H' ∧ H' p' = some (.lst us') ∧ us'.length ≤ 16 ∧ ∀ u, u ∈ us' → u ∈ us, ?_, ?_⟩
  · by_cases hkd : kd = ""
    · subst hkd
      walk_at "w"
      exact ⟨_, p, us, rfl, Al.refl _, e1, hul, fun u h => h⟩
    · walk_at "w"
      refine ⟨⟨_, sqL_at e1⟩, ?_⟩
      refine lcR walk_list (fun i => ((slotsOf m t)[i]?).bind fun sn => if kindS (m.thg (m.row sn.2).thing) = kd then us[i]? else none) (by rw [sizeLine_eq]; omega) (fun H a => sqL_at (a.lst e1)) (fun i x H2 H3 hi a y N1 N2 hy hno => ?_) (fun H2 D a e => ?_)
      · obtain ⟨rfl, hx⟩ := y
        obtain ⟨sn, hsn, T, rfl, eT⟩ := hal.get hx
        rw [hsn] at hy hno
        rw [hx] at hy
        have hkk : sn.2 ∈ m.keys := KN.w.slot t _ hq.1 (nums_mem (List.mem_map.mpr ⟨sn, List.mem_of_getElem? hsn, rfl⟩))
        have hth := KN.w.t.th _ hkk
        have R3 := R.al (a1.trans a)
        walk_at "w"
        refine ⟨T, _, 1, nV sn.2, rfl, rfl, sqT_at (a.tup eT), atI_nat (k := 1) rfl, ?_⟩
        walk_at "w"
        refine ⟨tg, m, sn.2, rfl, R3, fun h => absurd hkk h, fun _ H4 x4 a4 hx4 => ?_⟩
        have R4 := R3.al a4
        walk_at "w"
        obtain ⟨C, dx, fs, f, ek, lk, clk, mk, Fk⟩ := kind_ex (P := P) (w := w) G R4 (i := (m.row sn.2).thing) hth
        refine ⟨_, C, dx, fs, f, _, rfl, ek, lk, clk, mk, Fk, ?_⟩
        walk_at "w"
        by_cases hke : kindS (m.thg (m.row sn.2).thing) = kd
        · walk_at "w"
          exact hy _ _ (by simp [hke]) a4
        · have hke' : ¬ V.str (kindS (m.thg (m.row sn.2).thing)) = V.str kd := fun z => hke (V.str.inj z)
          walk_at "w"
          exact hno _ (by simp [hke]) a4
      · refine ⟨_, D, _, rfl, a, e, Nat.le_trans (List.length_filterMap_le _ _) (by rw [List.length_range]; exact hul), fun u hu => ?_⟩
        obtain ⟨i, _, e3⟩ := List.mem_filterMap.mp hu
        cases hsn : (slotsOf m t)[i]? with
        | none => rw [hsn] at e3; cases e3
        | some sn =>
          rw [hsn] at e3
          have e4 : (if kindS (m.thg (m.row sn.2).thing) = kd then us[i]? else none) = some u := e3
          split at e4
          · exact List.mem_of_getElem? e4
          · cases e4
  · rintro σ' H' ⟨v5, p', us', rfl, a2, e2, hl2, hsub⟩
    walk_at "w"
    refine ⟨by show (0 : Int) < 11; decide, ?_⟩
    have done : ∀ z, Q (.int z) H' := fun z => k H' z (a1.trans a2)
    by_cases h3 : c % 11 = 3
    · walk_at "w"
      refine ⟨⟨by decide, by decide⟩, ?_⟩
      walk_at "w"
      refine ⟨by show (0 : Int) < 18; decide, ?_⟩
      walk_at "w"
      exact done _
    · have h3' : ¬ V.int (c % 11) = V.int 3 := fun z => h3 (V.int.inj z)
      walk_at "w"
      refine ⟨_, _, rfl, .inl ⟨_, sqL_at e2, rfl⟩, ?_⟩
      by_cases h0 : us'.length = 0
      · have h0' : V.int ((us'.length : Nat) : Int) = V.int 0 := by rw [h0]; rfl
        walk_at "w"
        refine ⟨⟨by decide, by decide⟩, ?_⟩
        walk_at "w"
        refine ⟨by show (0 : Int) < 18; decide, ?_⟩
        walk_at "w"
        exact done _
      · have h0' : ¬ V.int ((us'.length : Nat) : Int) = V.int 0 := fun z => h0 (by have := V.int.inj z; omega)
        walk_at "w"
        refine ⟨⟨by decide, by decide⟩, ?_⟩
        walk_at "w"
        refine ⟨_, _, rfl, .inl ⟨_, sqL_at e2, rfl⟩, ?_⟩
        have hl0 : (0 : Int) < ((us'.length : Nat) : Int) := by omega
        walk_at "w"
        refine ⟨hl0, ?_⟩
        obtain ⟨v, hv, ev⟩ := pick (xs := us') (i := c / 11 % ((us'.length : Nat) : Int)) (Int.emod_nonneg _ (Int.ne_of_gt hl0)) (Int.emod_lt_of_pos _ hl0)
        obtain ⟨T, sn, rfl, eT, _⟩ := hus v (hsub v hv)
        refine ⟨p', _, _, _, rfl, rfl, sqL_at e2, ev, ?_⟩
        walk_at "w"
        refine ⟨T, _, 0, nV sn.1, rfl, rfl, sqT_at (a2.tup eT), atI_nat (k := 0) rfl, ?_⟩
        exact done _
end
end Pk
end
/-! PkF33 -/
section
set_option maxHeartbeats 4000000
namespace Pk
open PySem PySem.Spec PyProof.Rows L2
local macro_rules | `(tactic| walk_at "c") => `(tactic| first | assumption | omega | exact rfl | (intro z; cases z; done) | (simp only [nV, V.int.injEq, V.str.injEq]; first | assumption | omega))
local macro_rules | `(tactic| walk_at "fld") => `(tactic| first
  | assumption
  | exact fld_k_tasks (by assumption) (by assumption) | exact fld_k_tree (by assumption) (by assumption) | exact fld_k_things (by assumption) (by assumption) | exact fld_ta_known (by assumption) (by assumption)
  | exact fld_t_rows (by assumption) (by assumption) (by assumption) | exact fld_t_run1 (by assumption) (by assumption) (by assumption) (by assumption) | exact fld_t_runs (by assumption) (by assumption) (by assumption) | exact fld_t_maker (by assumption) (by assumption) (by assumption) | exact fld_tr_rows (by assumption) (by assumption) | exact fld_tr_rb (by assumption) (by assumption) | exact fld_tr_ever (by assumption) (by assumption)
  | exact fld_h_number (by assumption) (by assumption) | exact fld_h_thing (by assumption) (by assumption) | exact fld_h_rights (by assumption) (by assumption) | exact fld_h_giver (by assumption) (by assumption) | exact fld_h_holder (by assumption) (by assumption))
local macro_rules | `(tactic| walk_at "get") => `(tactic| first
  | assumption
  | exact get_kn1 (by assumption) (by assumption) | exact get_kn0 (by assumption) (by assumption) | exact get_rw1 (by assumption) (by assumption) | exact get_rw0 (by assumption) (by assumption)
  | exact get_rb1 (by assumption) (by assumption) | exact get_rb0 (by assumption) (by assumption) | exact get_th1 (by assumption) (by assumption) | exact get_th0 (by assumption) (by assumption))
local macro_rules | `(tactic| walk_at "ins") => `(tactic| first | exact insTa (by assumption) rfl | exact insTr (by assumption) rfl)
local macro_rules | `(tactic| walk_at "s") => `(tactic| first
  | refine ⟨_, rfl, ?_⟩
  | refine ⟨rfl, ?_⟩
  | refine zI fun _ => ?_
  | with_reducible refine iteF ?_ | with_reducible refine iteT ?_
  | ((with_reducible refine iteDy ?_ ?_); focus (walk_at "c"; done)) | ((with_reducible refine iteDn ?_ ?_); focus (walk_at "c"; done)) | ((with_reducible refine iteNy ?_ ?_); focus (walk_at "c"; done)) | ((with_reducible refine iteNn ?_ ?_); focus (walk_at "c"; done))
  | refine fldI (by walk_at "fld") ?_
  | refine getI (by walk_at "get") ?_ | refine getS (by walk_at "get") ?_
  | refine ⟨by walk_at "ins", ?_⟩
  | refine ⟨_, _, _, _, true, rfl, .ty _, .base (.str _), kit_ty (by decide +kernel), ?_⟩
  | refine ⟨_, _, _, _, true, rfl, .ty _, .base (.int _), kit_ty (by decide +kernel), ?_⟩
  | refine ⟨_, _, _, _, false, rfl, .ty _, .base (.int _), kit_ty (by decide +kernel), ?_⟩
  | refine ⟨_, _, rfl, rfl, ?_⟩
  | refine ⟨_, _, rfl, rfl, trivial, ?_⟩)
local macro_rules | `(tactic| walk_at "w") => `(tactic| repeat (walk_at "s"))
section
variable {P : Program} {w : World} {K : PySem.W.Frag} {mg : Str → Option Value} {base : Heap} (G : Gx K mg base)
include G
def sp_lhad (K : PySem.W.Frag) : Sp := fun vs H Q E => ∃ tg m t z, vs = [.ref m.k, .str t, .int z] ∧ Kn K H tg m ∧ RunT m t ∧ (∀ H' r, Al H H' → r ≤ 63 → Q (nV r) H')
omit G in
theorem sc_l_had : FnScope ["_law_kernel_here", "_law_task", "_law_slot_here", "_law_pair"] ["_law_kernel_here", "_law_task", "_law_slot_here"] (defScope s_l_had) := ⟨rfl, rfl, rfl, by decide +kernel, rfl, by decide +kernel, by decide +kernel⟩
theorem ok_l_had : FnR P w K mg base (L2.CX P w) 4 (He.ga K "_law_had") (sp_lhad K) := by
  refine mkF (k := 3) G.f_l_had sc_l_had (fun _ _ _ _ _ _ us hl => match us, hl with | [_, _, _], _ => rfl) (fun vs H Q E h => by repeat (first | (obtain ⟨e, _⟩ := h; cases e; rfl; done) | obtain ⟨_, h⟩ := h)) (fun cdv A outer s H vs Q E hr h => ?_)
  have S := sc_l_had
  obtain ⟨tg, m, t, z, rfl, KN, hq, k⟩ := h
  have R := KN.r
  refine ⟨_, (pss_cons (ps_for pod rfl (pi_list (pe_m (ok_Tasks_slots G) (hr.mono (by omega)) G.cl_Tasks G.m_Tasks_slots tkd (pe_fd (pv 0)) (pa_cons (pv 1) pa_nil))) (pg_name (i := 3) S.nd rfl (by first | exact Or.inl rfl | exact Or.inr rfl)) (pss_one (ps_if (pt_cmpR op_eq (pe_ix ix_tup (pv 3) pe_int (fun _ _ => rfl)) (pv 2) (nomark _)) (pss_one (ps_ret (pe_fd (pe_m (ok_Tree_handle G) (hr.mono (by omega)) G.cl_Tree G.m_Tree_handle tkd (pe_fd (pv 0)) (pa_cons (pe_ix ix_tup (pv 3) pe_int (fun _ _ => rfl)) pa_nil))))) pss_nil)))
      (pss_one (ps_ret pe_int))), ?_⟩
  walk_at "w"
  refine ⟨tg, m, t, rfl, R, KN.w.bd, fun h => absurd hq h, fun _ H1 p us a1 e1 hal => ?_⟩
  walk_at "w"
  refine ⟨⟨_, sqL_at e1⟩, ?_⟩
  refine for_list (xs := us) (fun i σ H' => (∃ v3, σ = [some (.ref m.k), some (.str t), some (.int z), v3]) ∧ H' = H1) ?_ ?_ ?_ ?_
  · exact ⟨⟨_, rfl⟩, rfl⟩
  · rintro i σ H' hi ⟨_, rfl⟩
    exact sqL_at e1
  · rintro i x σ H' hx ⟨⟨v3, rfl⟩, rfl⟩
    obtain ⟨sn, hsn, T, rfl, eT⟩ := hal.get hx
    have hkk : sn.2 ∈ m.keys := KN.w.slot t _ hq.1 (nums_mem (List.mem_map.mpr ⟨sn, List.mem_of_getElem? hsn, rfl⟩))
    have R1 := R.al a1
    walk_at "w"
    refine ⟨T, _, 0, nV sn.1, rfl, rfl, sqT_at eT, atI_nat (k := 0) rfl, ?_⟩
    walk_at "w"
    by_cases he : (sn.1 : Int) = z
    · walk_at "w"
      refine ⟨T, _, 1, nV sn.2, rfl, rfl, sqT_at eT, atI_nat (k := 1) rfl, ?_⟩
      walk_at "w"
      refine ⟨tg, m, sn.2, rfl, R1, fun h => absurd hkk h, fun _ H4 x4 a4 hx4 => ?_⟩
      walk_at "w"
      exact k H4 _ (a1.trans a4) (KN.w.t.rg _ hkk)
    · have he' : ¬ V.int (sn.1 : Int) = V.int z := fun q => he (V.int.inj q)
      walk_at "w"
      exact ⟨⟨_, rfl⟩, rfl⟩
  · rintro σ H' ⟨⟨v3, rfl⟩, rfl⟩
    walk_at "w"
    exact k H' 63 a1 (Nat.le_refl _)
def sp_lletter (K : PySem.W.Frag) : Sp := fun vs H Q E => ∃ tg m t, ∃ c : Int, ∃ mo : Nat, vs = [.ref m.k, .str t, .int c, nV mo] ∧ Kn K H tg m ∧ RunT m t ∧ mo ≤ 1000003 ∧ m.ever + 5 < 1000 ∧ Er K H E ∧ (∀ H' tg' m' v, Stp H tg H' tg' → Kn K H' tg' m' → Step m m' t → Q v H')
omit G in
theorem sc_l_letter : FnScope ["_law_kernel_here", "_law_task", "_law_cell", "_law_more", "_law_slot_here", "_law_some", "_law_k"] ["_law_kernel_here", "_law_task", "_law_cell", "_law_more"] (defScope s_l_letter) := ⟨rfl, rfl, rfl, by decide +kernel, rfl, by decide +kernel, by decide +kernel⟩
theorem ok_l_letter : FnR P w K mg base (L2.CX P w) 53 (He.ga K "_law_letter") (sp_lletter K) := by
  refine mkF (k := 52) G.f_l_letter sc_l_letter (fun _ _ _ _ _ _ us hl => match us, hl with | [_, _, _, _], _ => rfl) (fun vs H Q E h => by repeat (first | (obtain ⟨e, _⟩ := h; cases e; rfl; done) | obtain ⟨_, h⟩ := h)) (fun cdv A outer s H vs Q E hr h => ?_)
  have S := sc_l_letter
  obtain ⟨tg, m, t, c, mo, rfl, KN, hq, hmo, hev, er, k⟩ := h
  have R := KN.r
  refine ⟨_, (pss_cons (ps_set (i := 4) S.nd rfl (by first | exact Or.inl rfl | exact Or.inr rfl) (pe_f (ok_l_slot G) (hr.mono (by omega)) rfl G.g_l_slot (kp_of G.f_l_slot) tkd (pa_cons (pv 0) (pa_cons (pv 1) (pa_cons (pv 2) (pa_cons pe_str pa_nil))))))
      (pss_cons (ps_if (pt_cmpR op_eq (pe_op op_mod (pv 3) pe_int) pe_int (nomark _)) (pss_one (ps_ret (pe_f (ok_hear G) (hr.mono (by omega)) rfl G.g_hear (kp_of G.f_hear) tkd (pa_cons (pv 0) (pa_cons (pv 1) (pa_cons (pv 4) pa_nil)))))) pss_nil)
      (pss_cons (by exact (ps_setLcz (i := 5) (own := [("_law_k", 6)]) rfl S.nd rfl rfl (sw_true rfl rfl rfl (by decide +kernel)) (pi_range1 rfl G.b_range (pa_cons (pe_op op_mod (pe_op op_fdiv (pv 3) pe_int) pe_int) pa_nil)) (blkOk_by (own := [("_law_k", 6)]) (N := ["_law_kernel_here", "_law_task", "_law_cell", "_law_more", "_law_slot_here", "_law_some", "_law_k"]) (sc := defScope s_l_letter) (by decide +kernel)) (fun _ => (pg_name (i := 6) S.nd rfl (by first | exact Or.inl rfl | exact Or.inr rfl))) (fun _ => pts_nil) (fun _ => (pe_f (ok_l_slot G) (hr.mono (by omega)) rfl G.g_l_slot (kp_of G.f_l_slot) takes0 (pa_cons (pv 0) (pa_cons (pv 1) (pa_cons (pe_op op_add (pe_op op_fdiv (pv 3) pe_int) (pe_op op_mul pe_int (pv 6))) (pa_cons pe_str pa_nil))))))))
      (pss_cons (ps_if (pt_cmpR op_eq (pe_op op_mod (pe_op op_fdiv (pv 3) pe_int) pe_int) pe_int (nomark _)) (pss_one (ps_ret (pe_f (ok_send_6 G) (hr.mono (by omega)) rfl G.g_send (kp_of G.f_send) tkd (pa_cons (pv 0) (pa_cons (pv 1) (pa_cons (pv 4) (pa_cons pe_str (pa_cons (pv 5) (pa_cons (pe_ix ix_list (pe_lst (pa_cons pe_int (pa_cons pe_int (pa_cons pe_int (pa_cons pe_int pa_nil))))) (pe_op op_mod (pe_op op_fdiv (pv 3) pe_int) pe_int) (fun _ _ => rfl)) pa_nil))))))))) pss_nil)
      (pss_one (ps_ret (pe_f (ok_send_5 G) (hr.mono (by omega)) rfl G.g_send (kp_of G.f_send) tkd (pa_cons (pv 0) (pa_cons (pv 1) (pa_cons (pv 4) (pa_cons pe_str (pa_cons (pe_callTy call_tuple_of (by rfl) G.b_tuple (by decide +kernel) (pa_cons (pv 5) pa_nil)) pa_nil)))))))))))), ?_⟩
  walk_at "w"
  refine ⟨tg, m, t, "door", c, rfl, KN, hq, fun H1 z a1 => ?_⟩
  have K1 := KN.al a1
  walk_at "w"
  refine ⟨by show (0 : Int) < 3; decide, ?_⟩
  have fin : ∀ {Hx : Hp}, Al H Hx → ∀ H' tg' m' v, Stp Hx tg H' tg' → Kn K H' tg' m' → Step m m' t → Q v H' := fun a H' tg' m' v st KN' s => k H' tg' m' v ((Stp.al a).trans st) KN' s
  by_cases h3 : (mo : Int) % 3 = 1
  · walk_at "w"
    refine ⟨tg, m, t, z, rfl, K1, er.al a1, fun H' tg' m' v st KN' s _ => fin a1 H' tg' m' v st KN' s⟩
  · have h3' : ¬ V.int ((mo : Int) % 3) = V.int 1 := fun q => h3 (V.int.inj q)
    walk_at "w"
    refine ⟨⟨by decide, by decide⟩, ?_⟩
    walk_at "w"
    refine ⟨by show (0 : Int) < 3; decide, ?_⟩
    have hj : ((mo : Int) / 3 % 3).toNat ≤ 2 := by omega
    refine ⟨_, rfl, by omega, by omega, ?_⟩
    generalize ((mo : Int) / 3 % 3).toNat = nj at *
    refine lcM walk_range (fun D i acc H' => Al H1 H' ∧ ∃ zs : List Int, acc = zs.map V.int) (by rw [sizeLine_eq]; omega) (fun D hD => ⟨Al.new hD, [], rfl⟩) (fun _ _ _ _ _ => trivial) (fun D i acc x H' H'' hD hi ⟨al, zs, ez⟩ eD hlen y N1 N2 hN => ?_) (fun D acc H' hD ⟨al, zs, ez⟩ eD hlen => ?_)
    · obtain ⟨rfl, rfl⟩ := y
      walk_at "w"
      refine ⟨⟨by decide, by decide⟩, ?_⟩
      walk_at "w"
      refine ⟨.inl ⟨by decide, by decide⟩, ?_⟩
      walk_at "w"
      refine ⟨tg, m, t, "", _, rfl, K1.al al, hq, fun H5 z5 a5 => ?_⟩
      exact hN _ H5 (a5.lst eD) ⟨(al.trans a5).set hD (a5.lst eD) trivial, zs ++ [z5], by rw [ez, List.map_append]; rfl⟩
    · have a2 := a1.trans al
      have hzl : zs.length ≤ 2 := by rw [ez, List.length_map] at hlen; omega
      rw [ez] at eD
      walk_at "w"
      refine ⟨⟨by decide, by decide⟩, ?_⟩
      walk_at "w"
      refine ⟨by show (0 : Int) < 2; decide, ?_⟩
      by_cases h1 : (mo : Int) / 9 % 2 = 1
      · walk_at "w"
        refine ⟨by rw [sizeLine_eq]; decide, fun p hp => ?_⟩
        have a3 := Al.new (o := .lst [V.int 63, .int 62, .int 33, .int 1]) hp
        walk_at "w"
        refine ⟨⟨by decide, by decide⟩, ?_⟩
        walk_at "w"
        refine ⟨by show (0 : Int) < 4; decide, ?_⟩
        obtain ⟨v, hv, ev⟩ := pick (xs := [V.int 63, .int 62, .int 33, .int 1]) (i := (mo : Int) / 18 % 4) (by omega) (by show (mo : Int) / 18 % 4 < 4; omega)
        have hv' : ∃ r : Nat, v = nV r ∧ r ≤ 63 := by
          simp only [List.mem_cons, List.not_mem_nil, or_false] at hv
          rcases hv with rfl | rfl | rfl | rfl
          · exact ⟨63, rfl, by decide⟩
          · exact ⟨62, rfl, by decide⟩
          · exact ⟨33, rfl, by decide⟩
          · exact ⟨1, rfl, by decide⟩
        obtain ⟨r, rfl, hr⟩ := hv'
        refine ⟨p, _, _, _, rfl, rfl, sqL_at upd_same, ev, ?_⟩
        generalize L2.upd H' p (.lst [V.int 63, .int 62, .int 33, .int 1]) = H3 at *
        have a13 := a2.trans a3
        refine ⟨tg, m, t, z, "hi", D, r, zs, rfl, KN.al a13, .inl rfl, .inl (sqL_at (a3.lst eD)), by omega, hr, hev, er.al a13, fun H' tg' m' v st KN' s _ => fin a13 H' tg' m' v st KN' s⟩
      · have h1' : ¬ V.int ((mo : Int) / 9 % 2) = V.int 1 := fun q => h1 (V.int.inj q)
        walk_at "w"
        refine ⟨_, _, rfl, .inl ⟨sqL_at eD, fun T hT => ?_⟩⟩
        have a3 := Al.new (o := .tup (zs.map V.int)) hT
        have eT : (L2.upd H' T (.tup (zs.map V.int))) T = some (.tup (zs.map V.int)) := upd_same
        generalize L2.upd H' T (.tup (zs.map V.int)) = H3 at *
        have a13 := a2.trans a3
        refine ⟨tg, m, t, z, "", T, 63, zs, rfl, KN.al a13, .inr (.inl rfl), .inr (sqT_at eT), by omega, by decide, hev, er.al a13, fun H' tg' m' v st KN' s _ => fin a13 H' tg' m' v st KN' s⟩
end
end Pk
end
/-! PkF34 -/
section
set_option maxHeartbeats 8000000
namespace Pk
open PySem PySem.Spec PyProof.Rows L2
local macro_rules | `(tactic| walk_at "c") => `(tactic| first | assumption | omega | exact rfl | (intro z; cases z; done) | (simp only [nV, V.int.injEq, V.str.injEq]; first | assumption | omega))
local macro_rules | `(tactic| walk_at "fld") => `(tactic| first
  | assumption
  | exact fld_k_tasks (by assumption) (by assumption) | exact fld_k_tree (by assumption) (by assumption) | exact fld_k_things (by assumption) (by assumption) | exact fld_ta_known (by assumption) (by assumption)
  | exact fld_t_rows (by assumption) (by assumption) (by assumption) | exact fld_t_run1 (by assumption) (by assumption) (by assumption) (by assumption) | exact fld_t_runs (by assumption) (by assumption) (by assumption) | exact fld_t_maker (by assumption) (by assumption) (by assumption) | exact fld_tr_rows (by assumption) (by assumption) | exact fld_tr_rb (by assumption) (by assumption) | exact fld_tr_ever (by assumption) (by assumption)
  | exact fld_h_number (by assumption) (by assumption) | exact fld_h_thing (by assumption) (by assumption) | exact fld_h_rights (by assumption) (by assumption) | exact fld_h_giver (by assumption) (by assumption) | exact fld_h_holder (by assumption) (by assumption))
local macro_rules | `(tactic| walk_at "get") => `(tactic| first
  | assumption
  | exact get_kn1 (by assumption) (by assumption) | exact get_kn0 (by assumption) (by assumption) | exact get_rw1 (by assumption) (by assumption) | exact get_rw0 (by assumption) (by assumption)
  | exact get_rb1 (by assumption) (by assumption) | exact get_rb0 (by assumption) (by assumption) | exact get_th1 (by assumption) (by assumption) | exact get_th0 (by assumption) (by assumption))
local macro_rules | `(tactic| walk_at "ins") => `(tactic| first | exact insTa (by assumption) rfl | exact insTr (by assumption) rfl)
local macro_rules | `(tactic| walk_at "s") => `(tactic| first
  | refine ⟨_, rfl, ?_⟩
  | refine ⟨rfl, ?_⟩
  | refine zI fun _ => ?_
  | with_reducible refine iteF ?_ | with_reducible refine iteT ?_
  | ((with_reducible refine iteDy ?_ ?_); focus (walk_at "c"; done)) | ((with_reducible refine iteDn ?_ ?_); focus (walk_at "c"; done)) | ((with_reducible refine iteNy ?_ ?_); focus (walk_at "c"; done)) | ((with_reducible refine iteNn ?_ ?_); focus (walk_at "c"; done))
  | refine fldI (by walk_at "fld") ?_
  | refine getI (by walk_at "get") ?_ | refine getS (by walk_at "get") ?_
  | refine ⟨by walk_at "ins", ?_⟩
  | refine ⟨_, _, _, _, true, rfl, .ty _, .base (.str _), kit_ty (by decide +kernel), ?_⟩
  | refine ⟨_, _, _, _, true, rfl, .ty _, .base (.int _), kit_ty (by decide +kernel), ?_⟩
  | refine ⟨_, _, _, _, false, rfl, .ty _, .base (.int _), kit_ty (by decide +kernel), ?_⟩
  | refine ⟨_, _, rfl, rfl, ?_⟩
  | refine ⟨_, _, rfl, rfl, trivial, ?_⟩)
local macro_rules | `(tactic| walk_at "w") => `(tactic| repeat (walk_at "s"))
section
variable {P : Program} {w : World} {K : PySem.W.Frag} {mg : Str → Option Value} {base : Heap} (G : Gx K mg base)
include G
def sp_ldeed (K : PySem.W.Frag) : Sp := fun vs H Q E => ∃ tg m a ac, ∃ c kk : Int, vs = [.ref m.k, .ref a, .int c, .int kk] ∧ Kn K H tg m ∧ H a = some (.lst (ac.map V.str)) ∧ ac ≠ [] ∧ (∀ Y, Y ∈ ac → RunT m Y) ∧ 0 ≤ kk ∧ kk ≤ 200 ∧ m.ever + 5 < 1000 ∧ m.names.length < 199 ∧ Er K H E ∧
  (∀ H' tg' m' v t, t ∈ ac → Stp H tg H' tg' → Kn K H' tg' m' → Step m m' t → Q v H')
omit G in
theorem sc_l_deed : FnScope ["_law_kernel_here", "_law_acting", "_law_cell", "_law_k", "_law_names_here", "_law_task", "_law_way", "_law_more", "_law_other", "_law_slot_here", "_law_rights"] ["_law_kernel_here", "_law_acting", "_law_cell", "_law_k"] (defScope s_l_deed) := ⟨rfl, rfl, rfl, by decide +kernel, rfl, by decide +kernel, by decide +kernel⟩
theorem ok_l_deed : FnR P w K mg base (L2.CX P w) 55 (He.ga K "_law_deed") (sp_ldeed K) := by
  refine mkF (k := 54) G.f_l_deed sc_l_deed (fun _ _ _ _ _ _ us hl => match us, hl with | [_, _, _, _], _ => rfl) (fun vs H Q E h => by repeat (first | (obtain ⟨e, _⟩ := h; cases e; rfl; done) | obtain ⟨_, h⟩ := h)) (fun cdv A outer s H vs Q E hr h => ?_)
  have S := sc_l_deed
  obtain ⟨tg, m, a, ac, c, kk, rfl, KN, ea, hne, hac, hk0, hk1, hev, hnl, er, k⟩ := h
  have R := KN.r
  have hal : 0 < ac.length := List.length_pos_iff.mpr hne
  have hrl : 0 < (runL m).length := by
    obtain ⟨Y, hY⟩ := List.exists_mem_of_ne_nil ac hne
    exact List.length_pos_of_mem (runL_run.mpr (hac Y hY))
  refine ⟨_, (pss_cons (ps_set (i := 4) S.nd rfl (by first | exact Or.inl rfl | exact Or.inr rfl) (pe_m0 (ok_Tasks_running G) (hr.mono (by omega)) G.cl_Tasks G.m_Tasks_running tkd (pe_fd (pv 0))))
      (pss_cons (ps_set (i := 5) S.nd rfl (by first | exact Or.inl rfl | exact Or.inr rfl) (pe_ix ix_list (pv 1) (pe_op op_mod (pe_f (ok_l_drawn G) (hr.mono (by omega)) rfl G.g_l_drawn (kp_of G.f_l_drawn) tkd (pa_cons (pv 2) (pa_cons (pv 3) (pa_cons pe_int pa_nil)))) (pe_callB call_len (by rfl) G.b_len PySem.boot_len (pa_cons (pv 1) pa_nil))) (fun _ _ => rfl)))
      (pss_cons (ps_set (i := 6) S.nd rfl (by first | exact Or.inl rfl | exact Or.inr rfl) (pe_op op_mod (pe_f (ok_l_drawn G) (hr.mono (by omega)) rfl G.g_l_drawn (kp_of G.f_l_drawn) tkd (pa_cons (pv 2) (pa_cons (pv 3) (pa_cons pe_int pa_nil)))) pe_int))
      (pss_cons (ps_set (i := 7) S.nd rfl (by first | exact Or.inl rfl | exact Or.inr rfl) (pe_f (ok_l_drawn G) (hr.mono (by omega)) rfl G.g_l_drawn (kp_of G.f_l_drawn) tkd (pa_cons (pv 2) (pa_cons (pv 3) (pa_cons pe_int pa_nil)))))
      (pss_cons (ps_set (i := 8) S.nd rfl (by first | exact Or.inl rfl | exact Or.inr rfl) (pe_ix ix_list (pv 4) (pe_op op_mod (pe_f (ok_l_drawn G) (hr.mono (by omega)) rfl G.g_l_drawn (kp_of G.f_l_drawn) tkd (pa_cons (pv 2) (pa_cons (pv 3) (pa_cons pe_int pa_nil)))) (pe_callB call_len (by rfl) G.b_len PySem.boot_len (pa_cons (pv 4) pa_nil))) (fun _ _ => rfl)))
      (pss_cons (ps_set (i := 9) S.nd rfl (by first | exact Or.inl rfl | exact Or.inr rfl) (pe_f (ok_l_slot G) (hr.mono (by omega)) rfl G.g_l_slot (kp_of G.f_l_slot) tkd (pa_cons (pv 0) (pa_cons (pv 5) (pa_cons (pe_f (ok_l_drawn G) (hr.mono (by omega)) rfl G.g_l_drawn (kp_of G.f_l_drawn) tkd (pa_cons (pv 2) (pa_cons (pv 3) (pa_cons pe_int pa_nil)))) (pa_cons pe_str pa_nil))))))
      (pss_cons (ps_set (i := 10) S.nd rfl (by first | exact Or.inl rfl | exact Or.inr rfl) (pe_op op_mod (pe_f (ok_l_drawn G) (hr.mono (by omega)) rfl G.g_l_drawn (kp_of G.f_l_drawn) tkd (pa_cons (pv 2) (pa_cons (pv 3) (pa_cons pe_int pa_nil)))) pe_int))
      (pss_cons (ps_if (pt_cmpR op_lt (pv 6) pe_int (nomark _)) (pss_one (ps_ret (pe_f (ok_make G) (hr.mono (by omega)) rfl G.g_make (kp_of G.f_make) tkd (pa_cons (pv 0) (pa_cons (pv 5) (pa_cons (pe_ix ix_list (pe_lst (pa_cons pe_str (pa_cons pe_str (pa_cons pe_str (pa_cons pe_str pa_nil))))) (pe_op op_mod (pv 7) pe_int) (fun _ _ => rfl)) pa_nil)))))) pss_nil)
      (pss_cons (ps_if (pt_cmpR op_eq (pv 6) pe_int (nomark _)) (pss_one (ps_ret (pe_f (ok_start G) (hr.mono (by omega)) rfl G.g_start (kp_of G.f_start) tkd (pa_cons (pv 0) (pa_cons (pv 5) (pa_cons (pe_f (ok_l_names G) (hr.mono (by omega)) rfl G.g_l_names (kp_of G.f_l_names) tkd (pa_cons (pv 3) pa_nil)) pa_nil)))))) pss_nil)
      (pss_cons (ps_if (pt_cmpR op_lt (pv 6) pe_int (nomark _)) (pss_one (ps_ret (pe_f (ok_narrow G) (hr.mono (by omega)) rfl G.g_narrow (kp_of G.f_narrow) tkd (pa_cons (pv 0) (pa_cons (pv 5) (pa_cons (pv 9) (pa_cons (pe_op op_and (pv 10) (pe_f (ok_l_had G) (hr.mono (by omega)) rfl G.g_l_had (kp_of G.f_l_had) tkd (pa_cons (pv 0) (pa_cons (pv 5) (pa_cons (pv 9) pa_nil))))) pa_nil))))))) pss_nil)
      (pss_cons (ps_if (pt_cmpR op_lt (pv 6) pe_int (nomark _)) (pss_one (ps_ret (pe_f (ok_hand_4 G) (hr.mono (by omega)) rfl G.g_hand (kp_of G.f_hand) tkd (pa_cons (pv 0) (pa_cons (pv 5) (pa_cons (pv 9) (pa_cons (pv 8) pa_nil))))))) pss_nil)
      (pss_cons (ps_if (pt_cmpR op_lt (pv 6) pe_int (nomark _)) (pss_one (ps_ret (pe_f (ok_hand_5 G) (hr.mono (by omega)) rfl G.g_hand (kp_of G.f_hand) tkd (pa_cons (pv 0) (pa_cons (pv 5) (pa_cons (pv 9) (pa_cons (pv 8) (pa_cons (pe_op op_and (pe_op op_or (pv 10) (pe_op op_mul pe_int (pe_op op_mod (pv 7) pe_int))) (pe_f (ok_l_had G) (hr.mono (by omega)) rfl G.g_l_had (kp_of G.f_l_had) tkd (pa_cons (pv 0) (pa_cons (pv 5) (pa_cons (pv 9) pa_nil))))) pa_nil)))))))) pss_nil)
      (pss_cons (ps_if (pt_cmpR op_lt (pv 6) pe_int (nomark _)) (pss_one (ps_ret (pe_f (ok_l_letter G) (hr.mono (by omega)) rfl G.g_l_letter (kp_of G.f_l_letter) tkd (pa_cons (pv 0) (pa_cons (pv 5) (pa_cons (pe_f (ok_l_drawn G) (hr.mono (by omega)) rfl G.g_l_drawn (kp_of G.f_l_drawn) tkd (pa_cons (pv 2) (pa_cons (pv 3) (pa_cons pe_int pa_nil)))) (pa_cons (pv 7) pa_nil))))))) pss_nil)
      (pss_cons (ps_if (pt_cmpR op_eq (pv 6) pe_int (nomark _)) (pss_one (ps_ret (pe_v (k := 53) (hr.mono (by omega)) tkd (pe_ix ix_list (pe_lst (pa_cons (pe_cf rfl G.g_call_back) (pa_cons (pe_cf rfl G.g_give_up) pa_nil))) (pe_op op_mod (pv 7) pe_int) (fun _ _ => rfl)) (pa_cons (pv 0) (pa_cons (pv 5) (pa_cons (pv 9) pa_nil)))))) pss_nil)
      (pss_one (ps_ret (pe_f (ok_do_4 G) (hr.mono (by omega)) rfl G.g_do (kp_of G.f_do) tkd (pa_cons (pv 0) (pa_cons (pv 5) (pa_cons (pe_f (ok_l_slot G) (hr.mono (by omega)) rfl G.g_l_slot (kp_of G.f_l_slot) tkd (pa_cons (pv 0) (pa_cons (pv 5) (pa_cons (pe_op op_fdiv (pv 7) pe_int) (pa_cons pe_str pa_nil))))) (pa_cons (pe_ix ix_list (pe_lst (pa_cons pe_str (pa_cons pe_str pa_nil))) (pe_op op_mod (pv 7) pe_int) (fun _ _ => rfl)) pa_nil))))))))))))))))))))), ?_⟩
  walk_at "w"
  refine ⟨tg, m, rfl, R, KN.w.bd, KN.kn, fun H1 p1 a1 e1 => ?_⟩
  walk_at "w"
  refine ⟨c, kk, 1, rfl, hk0, by omega, by decide, by decide, fun H2 d1 a2 hd1 => ?_⟩
  walk_at "w"
  refine ⟨_, _, rfl, .inl ⟨_, sqL_at ((a1.trans a2).lst ea), rfl⟩, ?_⟩
  rw [List.length_map]
  walk_at "w"
  have hal0 : (0 : Int) < (ac.length : Nat) := by omega
  refine ⟨hal0, ?_⟩
  obtain ⟨t, ht, et⟩ := pickS (l := ac) (i := (d1 : Int) % (ac.length : Nat)) (Int.emod_nonneg _ (Int.ne_of_gt hal0)) (Int.emod_lt_of_pos _ hal0)
  refine ⟨a, _, _, _, rfl, rfl, sqL_at ((a1.trans a2).lst ea), et, ?_⟩
  have hq := hac t ht
  have a12 := a1.trans a2
  have e2 := a2.lst e1
  clear a1 a2 e1 et ea
  walk_at "w"
  refine ⟨c, kk, 2, rfl, hk0, by omega, by decide, by decide, fun H3 d2 a3 hd2 => ?_⟩
  have a13 := a12.trans a3
  have e3 := a3.lst e2
  clear a12 a3 e2
  walk_at "w"
  refine ⟨by show (0 : Int) < 18; decide, ?_⟩
  walk_at "w"
  refine ⟨c, kk, 3, rfl, hk0, by omega, by decide, by decide, fun H4 mo a4 hmo => ?_⟩
  have a14 := a13.trans a4
  have e4 := a4.lst e3
  clear a13 a4 e3
  walk_at "w"
  refine ⟨c, kk, 4, rfl, hk0, by omega, by decide, by decide, fun H5 d4 a5 hd4 => ?_⟩
  have a15 := a14.trans a5
  have e5 := a5.lst e4
  clear a14 a5 e4
  walk_at "w"
  refine ⟨_, _, rfl, .inl ⟨_, sqL_at e5, rfl⟩, ?_⟩
  rw [List.length_map]
  walk_at "w"
  have hrl0 : (0 : Int) < ((runL m).length : Nat) := by omega
  refine ⟨hrl0, ?_⟩
  obtain ⟨o, ho, eo⟩ := pickS (l := runL m) (i := (d4 : Int) % ((runL m).length : Nat)) (Int.emod_nonneg _ (Int.ne_of_gt hrl0)) (Int.emod_lt_of_pos _ hrl0)
  refine ⟨p1, _, _, _, rfl, rfl, sqL_at e5, eo, ?_⟩
  clear eo e5
  walk_at "w"
  refine ⟨c, kk, 5, rfl, hk0, by omega, by decide, by decide, fun H6 d5 a6 hd5 => ?_⟩
  have a16 := a15.trans a6
  clear a15 a6
  walk_at "w"
  refine ⟨tg, m, t, "", _, rfl, KN.al a16, hq, fun H7 z a7 => ?_⟩
  have a17 := a16.trans a7
  clear a16 a7
  walk_at "w"
  refine ⟨c, kk, 6, rfl, hk0, by omega, by decide, by decide, fun H8 d6 a8 hd6 => ?_⟩
  have a18 := a17.trans a8
  clear a17 a8
  walk_at "w"
  refine ⟨by show (0 : Int) < 64; decide, ?_⟩
  show gName 10 (nV (d6 % 64)) [some (.ref m.k), some (.ref a), some (.int c), some (.int kk), some (.ref p1), some (.str t), some (V.int ((d2 : Int) % 18)), some (nV mo), some (.str o), some (.int z), none] H8 _
  have hrg : d6 % 64 ≤ 63 := by omega
  generalize d6 % 64 = rg at *
  have fin : ∀ {Hx : Hp}, Al H Hx → ∀ H' tg' m' v, Stp Hx tg H' tg' → Kn K H' tg' m' → Step m m' t → Q v H' := fun a H' tg' m' v st KN' s => k H' tg' m' v t ht ((Stp.al a).trans st) KN' s
  have tne : t ≠ "" := fun q => KN.w.ne (q ▸ hq.1)
  have tlen := KN.w.len t hq.1
  clear k hac ho ht hd1 hd2 hd4 hd5 hd6 hne hal hrl hrl0 hal0
  dsimp only [gName, List.set_cons_zero, List.set_cons_succ]
  by_cases w3 : (d2 : Int) % 18 < 3
  · walk_at "w"
    refine ⟨by rw [sizeLine_eq]; decide, fun p hp => ?_⟩
    have a9 := Al.new (o := .lst [V.str "cell", .str "line", .str "door", .str "door"]) hp
    walk_at "w"
    refine ⟨by show (0 : Int) < 4; decide, ?_⟩
    obtain ⟨v, hv, ev⟩ := pick (xs := [V.str "cell", .str "line", .str "door", .str "door"]) (i := (mo : Int) % 4) (by omega) (by show (mo : Int) % 4 < 4; omega)
    have hv' : ∃ kd : Str, v = .str kd ∧ (kd = "cell" ∨ kd = "line" ∨ kd = "door") := by
      simp only [List.mem_cons, List.not_mem_nil, or_false] at hv
      rcases hv with rfl | rfl | rfl | rfl
      · exact ⟨_, rfl, .inl rfl⟩
      · exact ⟨_, rfl, .inr (.inl rfl)⟩
      · exact ⟨_, rfl, .inr (.inr rfl)⟩
      · exact ⟨_, rfl, .inr (.inr rfl)⟩
    obtain ⟨kd, rfl, hkd⟩ := hv'
    refine ⟨p, _, _, _, rfl, rfl, sqL_at upd_same, ev, ?_⟩
    generalize L2.upd H8 p (.lst [V.str "cell", .str "line", .str "door", .str "door"]) = H9 at *
    have a19 := a18.trans a9
    refine ⟨tg, m, t, kd, rfl, KN.al a19, by omega, hkd, fun _ => er.al a19, fun ok H' tg' x b hx kx j hj st KN' => fin a19 H' tg' _ _ st KN' (step_new KN.w fun ls e => ?_)⟩
    unfold thOf at e
    split at e
    · cases e
    · split at e
      · cases e
      · cases e; rfl
  by_cases we3 : (d2 : Int) % 18 = 3
  · walk_at "w"
    refine ⟨hk0, fun H9 nm a9 hnm1 hnm2 => ?_⟩
    have a19 := a18.trans a9
    refine ⟨tg, m, t, nm, rfl, KN.al a19, by omega, by omega, hnm1, hnm2, tne, by omega, fun _ => er.al a19, fun ok H' tg' x sa x2 b hx kx j hj st KN' => fin a19 H' tg' _ _ st KN' ?_⟩
    have wT := KN.w.addTask (x := x) (sa := sa) (nm := nm) (mk := t) ⟨ok.2.1, ok.2.2.1, fun _ => hq, ok.2.2.2.2.2⟩ tne hnm2 hnm1 (by omega)
    exact step_start KN.w ok.2.2.1 hq.1 (step_new wT fun ls e => by cases e) (by show (m.names ++ [nm]).length ≤ _; rw [List.length_append]; exact Nat.le_refl _)
  have we3' : ¬ V.int ((d2 : Int) % 18) = V.int 3 := fun q => we3 (V.int.inj q)
  by_cases w6 : (d2 : Int) % 18 < 6
  · walk_at "w"
    refine ⟨tg, m, t, z, rfl, KN.al a18, hq, fun H9 r a9 hr => ?_⟩
    have a19 := a18.trans a9
    walk_at "w"
    refine ⟨tg, m, t, z, rg &&& r, rfl, KN.al a19, and_le63 hrg, by omega, fun _ => er.al a19, fun n hq hs ok H' tg' x kx j hj st KN' => fin a19 H' tg' _ _ st KN' (step_der KN.w hq.1 (slotAt_mem hs) ok (.inl rfl))⟩
  by_cases w9 : (d2 : Int) % 18 < 9
  · walk_at "w"
    refine ⟨tg, m, t, z, o, .non, rfl, KN.al a18, .inl rfl, by omega, fun _ => er.al a18, fun n hq hs h32 ok H' tg' x kx j hj st KN' => fin a18 H' tg' _ _ st KN' (step_der KN.w hq.1 (slotAt_mem hs) ok (.inr h32))⟩
  by_cases w12 : (d2 : Int) % 18 < 12
  · walk_at "w"
    refine ⟨by show (0 : Int) < 2; decide, ?_⟩
    walk_at "w"
    refine ⟨.inl ⟨by decide, by decide⟩, ?_⟩
    walk_at "w"
    refine ⟨tg, m, t, z, rfl, KN.al a18, hq, fun H9 r a9 hr => ?_⟩
    have a19 := a18.trans a9
    walk_at "w"
    refine ⟨tg, m, t, z, o, nV ((rg ||| 32 * (mo % 2)) &&& r), by
      show [V.ref m.k, V.str t, V.int z, V.str o, V.int (Builtin.bitAnd (Builtin.bitOr (rg : Int) (32 * ((mo : Int) % 2))) (r : Int))] = _
      rw [show (32 * ((mo : Int) % 2)) = ((32 * (mo % 2) : Nat) : Int) by omega, bitOr_nat]
      rfl, KN.al a19, .inr ⟨_, rfl, Nat.le_trans Nat.and_le_right hr⟩, by omega, fun _ => er.al a19, fun n hq hs h32 ok H' tg' x kx j hj st KN' => fin a19 H' tg' _ _ st KN' (step_der KN.w hq.1 (slotAt_mem hs) ok (.inr h32))⟩
  by_cases w16 : (d2 : Int) % 18 < 16
  · walk_at "w"
    refine ⟨c, kk, 5, rfl, hk0, by omega, by decide, by decide, fun H9 d9 a9 hd9 => ?_⟩
    have a19 := a18.trans a9
    walk_at "w"
    refine ⟨tg, m, t, d9, mo, rfl, KN.al a19, hq, by omega, hev, er.al a19, fun H' tg' m' v st KN' s => fin a19 H' tg' m' v st KN' s⟩
  by_cases we16 : (d2 : Int) % 18 = 16
  · walk_at "w"
    refine ⟨by show (2 : Nat) ≤ sizeLine; rw [sizeLine_eq]; decide, fun p hp => ?_⟩
    have a9 := Al.new (o := .lst [V.ref (He.ga K "call_back"), V.ref (He.ga K "give_up")]) hp
    walk_at "w"
    refine ⟨by show (0 : Int) < 2; decide, ?_⟩
    obtain ⟨v, hv, ev⟩ := pick (xs := [V.ref (He.ga K "call_back"), V.ref (He.ga K "give_up")]) (i := (mo : Int) % 2) (by omega) (by show (mo : Int) % 2 < 2; omega)
    refine ⟨p, _, _, _, rfl, rfl, sqL_at upd_same, ev, ?_⟩
    generalize L2.upd H8 p (.lst [V.ref (He.ga K "call_back"), V.ref (He.ga K "give_up")]) = H9 at *
    have a19 := a18.trans a9
    simp only [List.mem_cons, List.not_mem_nil, or_false] at hv
    rcases hv with rfl | rfl
    · refine ⟨_, _, rfl, kp_of G.f_call_back, FnR.lift (ok_call_back G) (by decide), ?_⟩
      walk_at "w"
      refine ⟨tg, m, t, z, rfl, KN.al a19, er.al a19, fun H' tg' m' v st KN' sh => fin a19 H' tg' m' v st KN' (sh.step t)⟩
    · refine ⟨_, _, rfl, kp_of G.f_give_up, FnR.lift (ok_give_up G) (by decide), ?_⟩
      walk_at "w"
      refine ⟨tg, m, t, z, rfl, KN.al a19, er.al a19, fun H' tg' m' v st KN' sh => fin a19 H' tg' m' v st KN' (sh.step t)⟩
  have we16' : ¬ V.int ((d2 : Int) % 18) = V.int 16 := fun q => we16 (V.int.inj q)
  walk_at "w"
  refine ⟨⟨by decide, by decide⟩, ?_⟩
  walk_at "w"
  refine ⟨tg, m, t, "post", _, rfl, KN.al a18, hq, fun H9 z9 a9 => ?_⟩
  have a19 := a18.trans a9
  walk_at "w"
  refine ⟨by rw [sizeLine_eq]; decide, fun p hp => ?_⟩
  have a10 := Al.new (o := .lst [V.str "end", .str "state"]) hp
  walk_at "w"
  refine ⟨by show (0 : Int) < 2; decide, ?_⟩
  obtain ⟨v, hv, ev⟩ := pick (xs := [V.str "end", .str "state"]) (i := (mo : Int) % 2) (by omega) (by show (mo : Int) % 2 < 2; omega)
  have hv' : ∃ d : Str, v = .str d ∧ isD d := by
    simp only [List.mem_cons, List.not_mem_nil, or_false] at hv
    rcases hv with rfl | rfl
    · exact ⟨_, rfl, .inl rfl⟩
    · exact ⟨_, rfl, .inr rfl⟩
  obtain ⟨d, rfl, hd⟩ := hv'
  refine ⟨p, _, _, _, rfl, rfl, sqL_at upd_same, ev, ?_⟩
  generalize L2.upd H9 p (.lst [V.str "end", .str "state"]) = H10 at *
  have a20 := a19.trans a10
  exact ⟨tg, m, t, z9, d, rfl, KN.al a20, hd, er.al a20, fun H' tg' m' v st KN' sh => fin a20 H' tg' m' v st KN' (sh.step t)⟩
end
end Pk
end
/-! PkF35 -/
section
set_option maxHeartbeats 8000000
namespace Pk
open PySem PySem.Spec PyProof.Rows L2
local macro_rules | `(tactic| walk_at "c") => `(tactic| first | assumption | omega | exact rfl | (intro z; cases z; done) | (simp only [nV, V.int.injEq, V.str.injEq]; first | assumption | omega))
local macro_rules | `(tactic| walk_at "fld") => `(tactic| first
  | assumption
  | exact fld_k_tasks (by assumption) (by assumption) | exact fld_k_tree (by assumption) (by assumption) | exact fld_k_things (by assumption) (by assumption) | exact fld_ta_known (by assumption) (by assumption)
  | exact fld_t_rows (by assumption) (by assumption) (by assumption) | exact fld_t_run1 (by assumption) (by assumption) (by assumption) (by assumption) | exact fld_t_runs (by assumption) (by assumption) (by assumption) | exact fld_t_maker (by assumption) (by assumption) (by assumption) | exact fld_tr_rows (by assumption) (by assumption) | exact fld_tr_rb (by assumption) (by assumption) | exact fld_tr_ever (by assumption) (by assumption)
  | exact fld_h_number (by assumption) (by assumption) | exact fld_h_thing (by assumption) (by assumption) | exact fld_h_rights (by assumption) (by assumption) | exact fld_h_giver (by assumption) (by assumption) | exact fld_h_holder (by assumption) (by assumption))
local macro_rules | `(tactic| walk_at "get") => `(tactic| first
  | assumption
  | exact get_kn1 (by assumption) (by assumption) | exact get_kn0 (by assumption) (by assumption) | exact get_rw1 (by assumption) (by assumption) | exact get_rw0 (by assumption) (by assumption)
  | exact get_rb1 (by assumption) (by assumption) | exact get_rb0 (by assumption) (by assumption) | exact get_th1 (by assumption) (by assumption) | exact get_th0 (by assumption) (by assumption))
local macro_rules | `(tactic| walk_at "ins") => `(tactic| first | exact insTa (by assumption) rfl | exact insTr (by assumption) rfl)
local macro_rules | `(tactic| walk_at "s") => `(tactic| first
  | refine ⟨_, rfl, ?_⟩
  | refine ⟨rfl, ?_⟩
  | refine zI fun _ => ?_
  | with_reducible refine iteF ?_ | with_reducible refine iteT ?_
  | ((with_reducible refine iteDy ?_ ?_); focus (walk_at "c"; done)) | ((with_reducible refine iteDn ?_ ?_); focus (walk_at "c"; done)) | ((with_reducible refine iteNy ?_ ?_); focus (walk_at "c"; done)) | ((with_reducible refine iteNn ?_ ?_); focus (walk_at "c"; done))
  | refine fldI (by walk_at "fld") ?_
  | refine getI (by walk_at "get") ?_ | refine getS (by walk_at "get") ?_
  | refine ⟨by walk_at "ins", ?_⟩
  | refine ⟨_, _, _, _, true, rfl, .ty _, .base (.str _), kit_ty (by decide +kernel), ?_⟩
  | refine ⟨_, _, _, _, true, rfl, .ty _, .base (.int _), kit_ty (by decide +kernel), ?_⟩
  | refine ⟨_, _, _, _, false, rfl, .ty _, .base (.int _), kit_ty (by decide +kernel), ?_⟩
  | refine ⟨_, _, rfl, rfl, ?_⟩
  | refine ⟨_, _, rfl, rfl, trivial, ?_⟩)
local macro_rules | `(tactic| walk_at "w") => `(tactic| repeat (walk_at "s"))
section
variable {P : Program} {w : World} {K : PySem.W.Frag} {mg : Str → Option Value} {base : Heap} (G : Gx K mg base)
include G
def sp_ldone (K : PySem.W.Frag) : Sp := fun vs H Q E => ∃ tg m sa S, ∃ c : Int, ∃ f n : Nat, vs = [.ref m.k, .ref sa, .int c, nV f, nV n] ∧ Kn K H tg m ∧ StS K H tg sa (S.map V.str) ∧ f + n ≤ 200 ∧ m.ever + 5 * n + 5 < 1000 ∧ m.names.length + n < 199 ∧
  (∀ H' tg' m', Stp H tg H' tg' → Kn K H' tg' m' → Reach S n m m' → StS K H' tg' sa (S.map V.str) → Q .non H')
omit G in
theorem sc_l_done : FnScope ["_law_kernel_here", "_law_still_here", "_law_cell", "_law_first", "_law_count", "_law_k", "_law_acting", "_law_name"] ["_law_kernel_here", "_law_still_here", "_law_cell", "_law_first", "_law_count"] (defScope s_l_done) := ⟨rfl, rfl, rfl, by decide +kernel, rfl, by decide +kernel, by decide +kernel⟩
theorem ok_l_done : FnR P w K mg base (L2.CX P w) 56 (He.ga K "_law_done") (sp_ldone K) := by
  refine mkF (k := 55) G.f_l_done sc_l_done (fun _ _ _ _ _ _ us hl => match us, hl with | [_, _, _, _, _], _ => rfl) (fun vs H Q E h => by repeat (first | (obtain ⟨e, _⟩ := h; cases e; rfl; done) | obtain ⟨_, h⟩ := h)) (fun cdv A outer s H vs Q E hr h => ?_)
  have S := sc_l_done
  obtain ⟨tg, m, sa, ss, c, f, n, rfl, KN, hsq, hfn, hev, hnl, k⟩ := h
  have R := KN.r
  refine ⟨_, (pss_one (ps_for pod rfl (pi_range2 rfl G.b_range (pa_cons (pv 3) (pa_cons (pe_op op_add (pv 3) (pv 4)) pa_nil))) (pg_name (i := 5) S.nd rfl (by first | exact Or.inl rfl | exact Or.inr rfl)) (pss_cons (by exact (ps_setLcz (i := 6) (own := [("_law_name", 7)]) rfl S.nd rfl rfl (sw_true rfl rfl rfl (by decide +kernel)) (pi_list (pe_m0 (ok_Tasks_running G) (hr.mono (by omega)) G.cl_Tasks G.m_Tasks_running tkd (pe_fd (pv 0)))) (blkOk_by (own := [("_law_name", 7)]) (N := ["_law_kernel_here", "_law_still_here", "_law_cell", "_law_first", "_law_count", "_law_k", "_law_acting", "_law_name"]) (sc := defScope s_l_done) (by decide +kernel)) (fun _ => (pg_name (i := 7) S.nd rfl (by first | exact Or.inl rfl | exact Or.inr rfl))) (fun _ => (pts_one (pt_cmpR op_notIn_seq (pv 7) (pv 1) rfl))) (fun _ => (pv 7))))
      (pss_cons (ps_if (pt_cmpR (op_eqE (hu64 hr)) (pv 6) (pe_lst pa_nil) (nomark _)) (pss_one ps_break) pss_nil)
      (pss_one (ps_try_only (Wout := fun _ _ _ _ => False) rfl rfl ⟨rfl, by decide, .inl G.g_PassError⟩ takes0 (fun W pn xe tk po => (pss_one (ps_expr (pe_f (ok_l_deed G) (hr.mono (by omega)) rfl G.g_l_deed (kp_of G.f_l_deed) tk (pa_cons (pv 0) (pa_cons (pv 6) (pa_cons (pv 2) (pa_cons (pv 5) pa_nil)))))))) (fun _ _ _ _ _ _ _ => (pss_one ps_continue)))))))), ?_⟩
  walk_at "w"
  refine ⟨(f : Int), ((f + n : Nat) : Int), ?_, ⟨by omega, by omega, by omega, by omega⟩, ?_⟩
  · show [nV f, V.int ((f : Int) + (n : Int))] = _
    rw [Int.natCast_add]
    rfl
  have hrn : ((((f + n : Nat) : Int) - (f : Int)).toNat) = n := by omega
  rw [hrn]
  refine for_it walk_range (fun i σ H' => (∃ v5 v6 v7, σ = [some (.ref m.k), some (.ref sa), some (.int c), some (nV f), some (nV n), v5, v6, v7]) ∧ ∃ tg' m', Stp H tg H' tg' ∧ Kn K H' tg' m' ∧ Reach ss i m m') ?_ ?_ ?_ ?_
  · exact ⟨⟨_, _, _, rfl⟩, tg, m, .refl, KN, .refl⟩
  · exact fun _ _ _ _ _ => trivial
  · rintro i x σ H1 H1' hi ⟨⟨v5, v6, v7, rfl⟩, tg1, m1, st1, K1, rc⟩ ⟨rfl, rfl⟩
    have R1 := K1.r
    have hk1 := rc.k
    have hev1 := rc.ev
    have hnl1 := rc.nl
    have hsq1 := hsq.stp st1
    have f1 : FldAt K H1' (.ref m.k) "tasks" (.ref m1.ta) := by have := fld_k_tasks G R1; rwa [hk1] at this
    have i1 : InsC H1' (.ref m1.ta) (He.ga K "Tasks") "running" := insTa R1 rfl
    walk_at "w"
    refine ⟨tg1, m1, rfl, R1, K1.w.bd, K1.kn, fun H2 p1 a1 e1 => ?_⟩
    have hl1 := runL_len K1.w.bd
    walk_at "w"
    refine ⟨⟨_, sqL_at e1⟩, ?_⟩
    refine lcR (walk_list (xs := (runL m1).map V.str)) (fun i => ((runL m1)[i]?).bind fun s => if decide (s ∉ ss) = true then some (V.str s) else none) (by rw [List.length_map, sizeLine_eq]; omega) (fun H a => sqL_at (a.lst e1)) (fun i x H2 H3 hi a y N1 N2 hy hno => ?_) (fun H3 pa a e2 => ?_)
    · obtain ⟨rfl, hx⟩ := y
      rw [List.getElem?_map] at hx
      cases hcs : (runL m1)[i]? with
      | none => rw [hcs] at hx; cases hx
      | some c =>
        rw [hcs] at hx hy hno
        cases hx
        have hsq2 := hsq1.sq.al (a1.trans a)
        walk_at "w"
        refine ⟨sa, _, rfl, hsq2, flat_one, flat_str, ?_⟩
        rw [if_pos rfl, inV_str]
        by_cases hin : c ∈ ss
        · have e3 : (!decide (c ∈ ss)) = false := by simp [hin]
          rw [e3]
          walk_at "w"
          exact hno _ (by simp [hin]) (Al.refl _)
        · have e3 : (!decide (c ∈ ss)) = true := by simp [hin]
          rw [e3]
          walk_at "w"
          exact hy _ _ (by simp [hin]) (Al.refl _)
    · rw [List.length_map, filterMap_range (runL m1) _ (fun s => if decide (s ∉ ss) = true then some (V.str s) else none) (fun i x e => by rw [e]; rfl), filterMap_if] at e2
      have hac : ∀ Y, Y ∈ (runL m1).filter (fun s => decide (s ∉ ss)) → RunT m1 Y ∧ Y ∉ ss := fun Y hY => ⟨runL_run.mp (List.mem_filter.mp hY).1, by have := (List.mem_filter.mp hY).2; simpa using this⟩
      have a12 := a1.trans a
      generalize (runL m1).filter (fun s => decide (s ∉ ss)) = ac at *
      clear hl1 a1 a e1 i1
      walk_at "w"
      refine ⟨by rw [sizeLine_eq]; decide, fun pe hpe => ?_⟩
      have ae := Al.new (o := .lst []) hpe
      have npe : pa ≠ pe := ne_of_none e2 hpe
      refine ⟨pa, pe, _, rfl, rfl, npe, sqL_at (ae.lst e2), sqL_at upd_same, ?_⟩
      have a13 := a12.trans ae
      have e3 := ae.lst e2
      generalize L2.upd H3 pe (.lst []) = H4 at *
      clear a12 ae e2
      have st4 := st1.trans (Stp.al (tg := tg1) a13)
      cases ac with
      | nil =>
        walk_at "w"
        exact k H4 tg1 m1 st4 (K1.al a13) (rc.mono (by omega)) (hsq1.stp (Stp.al a13))
      | cons Y ac =>
        walk_at "w"
        refine ⟨tg1, m1, pa, Y :: ac, c, (f : Int) + i, by rw [hk1], K1.al a13, e3, by simp, fun Z hZ => (hac Z hZ).1, by omega, by omega, by omega, by omega, fun cls d H9 hx a9 => ⟨true, hx, fun _ aa haa => ?_, fun h => by cases h⟩, fun H' tg' m' v t ht st KN' s => ?_⟩
        · walk_at "w"
          exact ⟨⟨_, _, _, rfl⟩, tg1, m1, st4.trans (Stp.al a9), (K1.al a13).al a9, rc.mono (by omega)⟩
        · walk_at "w"
          exact ⟨⟨_, _, _, rfl⟩, tg', m', st4.trans st, KN', rc.step (hac t ht).1 (hac t ht).2 s⟩
  · rintro σ H1 ⟨⟨v5, v6, v7, rfl⟩, tg1, m1, st1, K1, rc⟩
    walk_at "w"
    exact k H1 tg1 m1 st1 K1 rc (hsq.stp st1)
end
end Pk
end
/-! PkF36 -/
section
set_option maxHeartbeats 8000000
namespace Pk
open PySem PySem.Spec PyProof.Rows L2
local macro_rules | `(tactic| walk_at "c") => `(tactic| first | assumption | omega | exact rfl | (intro z; cases z; done) | (simp only [nV, V.int.injEq, V.str.injEq]; first | assumption | omega))
local macro_rules | `(tactic| walk_at "fld") => `(tactic| first
  | assumption
  | exact fld_k_tasks (by assumption) (by assumption) | exact fld_k_tree (by assumption) (by assumption) | exact fld_k_things (by assumption) (by assumption) | exact fld_ta_known (by assumption) (by assumption)
  | exact fld_t_rows (by assumption) (by assumption) (by assumption) | exact fld_t_run1 (by assumption) (by assumption) (by assumption) (by assumption) | exact fld_t_runs (by assumption) (by assumption) (by assumption) | exact fld_t_maker (by assumption) (by assumption) (by assumption) | exact fld_tr_rows (by assumption) (by assumption) | exact fld_tr_rb (by assumption) (by assumption) | exact fld_tr_ever (by assumption) (by assumption)
  | exact fld_h_number (by assumption) (by assumption) | exact fld_h_thing (by assumption) (by assumption) | exact fld_h_rights (by assumption) (by assumption) | exact fld_h_giver (by assumption) (by assumption) | exact fld_h_holder (by assumption) (by assumption))
local macro_rules | `(tactic| walk_at "get") => `(tactic| first
  | assumption
  | exact get_kn1 (by assumption) (by assumption) | exact get_kn0 (by assumption) (by assumption) | exact get_rw1 (by assumption) (by assumption) | exact get_rw0 (by assumption) (by assumption)
  | exact get_rb1 (by assumption) (by assumption) | exact get_rb0 (by assumption) (by assumption) | exact get_th1 (by assumption) (by assumption) | exact get_th0 (by assumption) (by assumption))
local macro_rules | `(tactic| walk_at "ins") => `(tactic| first | exact insTa (by assumption) rfl | exact insTr (by assumption) rfl)
local macro_rules | `(tactic| walk_at "s") => `(tactic| first
  | refine ⟨_, rfl, ?_⟩
  | refine ⟨rfl, ?_⟩
  | refine zI fun _ => ?_
  | with_reducible refine iteF ?_ | with_reducible refine iteT ?_
  | ((with_reducible refine iteDy ?_ ?_); focus (walk_at "c"; done)) | ((with_reducible refine iteDn ?_ ?_); focus (walk_at "c"; done)) | ((with_reducible refine iteNy ?_ ?_); focus (walk_at "c"; done)) | ((with_reducible refine iteNn ?_ ?_); focus (walk_at "c"; done))
  | refine fldI (by walk_at "fld") ?_
  | refine getI (by walk_at "get") ?_ | refine getS (by walk_at "get") ?_
  | refine ⟨by walk_at "ins", ?_⟩
  | refine ⟨_, _, _, _, true, rfl, .ty _, .base (.str _), kit_ty (by decide +kernel), ?_⟩
  | refine ⟨_, _, _, _, true, rfl, .ty _, .base (.int _), kit_ty (by decide +kernel), ?_⟩
  | refine ⟨_, _, _, _, false, rfl, .ty _, .base (.int _), kit_ty (by decide +kernel), ?_⟩
  | refine ⟨_, _, rfl, rfl, ?_⟩
  | refine ⟨_, _, rfl, rfl, trivial, ?_⟩)
local macro_rules | `(tactic| walk_at "w") => `(tactic| repeat (walk_at "s"))
theorem pickI {xs : List V} {ns : List Int} {i : Int} (e : xs = ns.map V.int) (h0 : 0 ≤ i) (h1 : i < (ns.length : Nat)) : ∃ r, r ∈ ns ∧ atI xs i = some (.int r) := by
  subst e
  obtain ⟨n, rfl⟩ := Int.eq_ofNat_of_zero_le h0
  have hk : n < ns.length := by omega
  exact ⟨ns[n], List.getElem_mem hk, atI_nat (by simp [hk])⟩
theorem doorT : ∀ ls, thOf "door" = .door ls → ls = [] := fun ls e => by cases e; rfl
theorem cellT : ∀ ls, thOf "cell" = .door ls → ls = [] := fun ls e => by cases e
section
variable {P : Program} {w : World} {K : PySem.W.Frag} {mg : Str → Option Value} {base : Heap} (G : Gx K mg base)
include G
def sp_lplanted (K : PySem.W.Frag) : Sp := fun vs H Q E => ∃ tg m, ∃ c : Int, vs = [.ref m.k, .int c] ∧ Kn K H tg m ∧ m.ever + 25 < 1000 ∧
  (∀ H' tg' m' v, Stp H tg H' tg' → Kn K H' tg' m' → Reach [] 4 m m' → Q v H')
omit G in
theorem sc_l_planted : FnScope ["_law_kernel_here", "_law_cell", "_law_door", "_law_cells"] ["_law_kernel_here", "_law_cell"] (defScope s_l_planted) := ⟨rfl, rfl, rfl, by decide +kernel, rfl, by decide +kernel, by decide +kernel⟩
theorem ok_l_planted : FnR P w K mg base (L2.CX P w) 54 (He.ga K "_law_planted") (sp_lplanted K) := by
  refine mkF (k := 53) G.f_l_planted sc_l_planted (fun _ _ _ _ _ _ us hl => match us, hl with | [_, _], _ => rfl) (fun vs H Q E h => by repeat (first | (obtain ⟨e, _⟩ := h; cases e; rfl; done) | obtain ⟨_, h⟩ := h)) (fun cdv A outer s H vs Q E hr h => ?_)
  have S := sc_l_planted
  obtain ⟨tg, m, c, rfl, KN, hev, k⟩ := h
  have R := KN.r
  refine ⟨_, (pss_cons (ps_try_only (Wout := fun _ _ _ _ => False) rfl rfl ⟨rfl, by decide, .inl G.g_PassError⟩ takes0 (fun W pn xe tk po => (pss_cons (ps_set (i := 2) S.nd rfl (by first | exact Or.inl rfl | exact Or.inr rfl) (pe_f (ok_make G) (hr.mono (by omega)) rfl G.g_make (kp_of G.f_make) tk (pa_cons (pv 0) (pa_cons pe_str (pa_cons pe_str pa_nil)))))
      (pss_cons (ps_set (i := 3) S.nd rfl (by first | exact Or.inl rfl | exact Or.inr rfl) (pe_f (ok_make G) (hr.mono (by omega)) rfl G.g_make (kp_of G.f_make) tk (pa_cons (pv 0) (pa_cons pe_str (pa_cons pe_str pa_nil)))))
      (pss_cons (ps_expr (pe_f (ok_hand_5 G) (hr.mono (by omega)) rfl G.g_hand (kp_of G.f_hand) tk (pa_cons (pv 0) (pa_cons pe_str (pa_cons (pv 2) (pa_cons pe_str (pa_cons (pe_ix (ix_listK (K := K) rfl) (pe_lst (pa_cons pe_int (pa_cons pe_int pa_nil))) (pe_op op_mod (pv 1) pe_int) (fun _ _ => rfl)) pa_nil)))))))
      (pss_one (ps_expr (pe_f (ok_send_6 G) (hr.mono (by omega)) rfl G.g_send (kp_of G.f_send) tk (pa_cons (pv 0) (pa_cons pe_str (pa_cons (pv 2) (pa_cons pe_str (pa_cons (pe_slice (sl_listK (K := K) rfl) (pe_lst (pa_cons (pv 3) (pa_cons (pv 2) pa_nil))) po_none (po_some (pe_op op_add pe_int (pe_op op_mod (pe_op op_fdiv (pv 1) pe_int) pe_int)))) (pa_cons (pe_ix (ix_listK (K := K) rfl) (pe_lst (pa_cons pe_int (pa_cons pe_int (pa_cons pe_int pa_nil)))) (pe_op op_mod (pe_op op_fdiv (pv 1) pe_int) pe_int) (fun _ _ => rfl)) pa_nil))))))))))))) (fun _ _ _ _ _ _ _ => (pss_one (ps_ret pe_bl))))
      (pss_one (ps_ret pe_bl))), ?_⟩
  walk_at "w"
  have ex : ∀ {Hx : Hp} {tgx : Tag} {mx : Mo}, Stp H tg Hx tgx → Kn K Hx tgx mx → Reach [] 4 m mx → ∀ H9, Al Hx H9 → Q (.bl false) H9 := fun st kx rx H9 a9 => k H9 _ _ _ (st.trans (Stp.al a9)) (kx.al a9) rx
  have hr0 : rootN ∉ ([] : List Str) := fun h => by cases h
  refine ⟨tg, m, rootN, "door", rfl, KN, by omega, .inr (.inr rfl), fun _ cls d H9 hx a9 => ⟨true, hx, fun _ aa haa => ?_, fun h => by cases h⟩, fun ok H1 tg1 x1 b1 hx1 kx1 j1 hj1 st1 K1 => ?_⟩
  · walk_at "w"
    exact ex .refl KN .refl _ a9
  have r1 : Reach [] 1 m (m.newT (thOf "door") rootN x1 b1 hx1 kx1 j1) := Reach.refl.step KN.w.root hr0 (step_new KN.w doorT)
  generalize m.newT (thOf "door") rootN x1 b1 hx1 kx1 j1 = m1 at *
  have k1 := r1.k
  have v1 := r1.ev
  walk_at "w"
  refine ⟨tg1, m1, rootN, "cell", by rw [k1]; rfl, K1, by omega, .inl rfl, fun _ cls d H9 hx a9 => ⟨true, hx, fun _ aa haa => ?_, fun h => by cases h⟩, fun ok H2 tg2 x2 b2 hx2 kx2 j2 hj2 st2 K2 => ?_⟩
  · walk_at "w"
    exact ex st1 K1 (r1.mono (by omega)) _ a9
  have r2 := r1.step K1.w.root hr0 (step_new (j := j2) (x := x2) (b := b2) (hx := hx2) (kx := kx2) K1.w cellT)
  have s2 := st1.trans st2
  generalize m1.newT (thOf "cell") rootN x2 b2 hx2 kx2 j2 = m2 at *
  have k2 := r2.k
  have v2 := r2.ev
  clear st1 st2 K1 r1
  walk_at "w"
  refine ⟨by rw [sizeLine_eq]; decide, fun p hp => ?_⟩
  have a3 := Al.new (o := .lst [V.int 8, .int 40]) hp
  walk_at "w"
  refine ⟨by show (0 : Int) < 2; decide, ?_⟩
  obtain ⟨r, hr, er⟩ := pickI (xs := [V.int 8, .int 40]) (ns := [8, 40]) (i := c % 2) rfl (by omega) (by show c % 2 < 2; omega)
  have hr' : rvOk (.int r) := by
    simp only [List.mem_cons, List.not_mem_nil, or_false] at hr
    rcases hr with rfl | rfl
    · exact .inr ⟨8, rfl, by decide⟩
    · exact .inr ⟨40, rfl, by decide⟩
  refine ⟨p, _, _, _, rfl, rfl, sqL_at upd_same, er, ?_⟩
  generalize L2.upd H2 p (.lst [V.int 8, .int 40]) = H3 at *
  have s3 := s2.trans (Stp.al (tg := tg2) a3)
  have K3 := K2.al a3
  refine ⟨tg2, m2, rootN, j1, "aa", .int r, by rw [k2]; rfl, K3, hr', by omega, fun _ cls d H9 hx a9 => ⟨true, hx, fun _ aa haa => ?_, fun h => by cases h⟩, fun n hq hs h32 ok H4 tg4 x4 kx4 j4 hj4 st4 K4 => ?_⟩
  · walk_at "w"
    exact ex s3 K3 (r2.mono (by omega)) _ a9
  have r4 := r2.step K3.w.root hr0 (step_der (x := x4) (kx := kx4) (j := j4) K3.w hq.1 (slotAt_mem hs) ok (.inr h32))
  have s4 := s3.trans st4
  have K4' : Kn K H4 tg4 ((m2.derH n (rgOf (.int r) (m2.row n).rights) "aa" x4 kx4).setRows "aa" ((m2.task "aa").rows.set j4 (some m2.ever))) := K4
  generalize (m2.derH n (rgOf (.int r) (m2.row n).rights) "aa" x4 kx4).setRows "aa" ((m2.task "aa").rows.set j4 (some m2.ever)) = m4 at *
  have k4 := r4.k
  have v4 := r4.ev
  clear st4 K4 K3 K2 s2 s3 r2 hp a3
  walk_at "w"
  refine ⟨by show (2 : Nat) ≤ sizeLine; rw [sizeLine_eq]; decide, fun p hp => ?_⟩
  have a5 := Al.new (o := .lst [nV j2, nV j1]) hp
  have e5 : (L2.upd H4 p (.lst [nV j2, nV j1])) p = some (.lst [nV j2, nV j1]) := upd_same
  generalize L2.upd H4 p (.lst [nV j2, nV j1]) = H5 at *
  walk_at "w"
  refine ⟨⟨by decide, by decide⟩, ?_⟩
  walk_at "w"
  refine ⟨by show (0 : Int) < 2; decide, ?_⟩
  walk_at "w"
  obtain ⟨zs, ez, hzl⟩ := cut_map (ys := [(j2 : Int), (j1 : Int)]) (lo := none) (hi := some (1 + c / 2 % 2))
  refine ⟨p, _, rfl, sqL_at e5, fun p2 hp2 => ?_⟩
  have e6' : cutV [nV j2, nV j1] none (some (1 + c / 2 % 2)) = zs.map V.int := ez
  have a6 := Al.new (o := .lst (cutV [nV j2, nV j1] none (some (1 + c / 2 % 2)))) hp2
  have e6 : (L2.upd H5 p2 (.lst (cutV [nV j2, nV j1] none (some (1 + c / 2 % 2))))) p2 = some (.lst (zs.map V.int)) := by rw [upd_same, e6']
  generalize L2.upd H5 p2 (.lst (cutV [nV j2, nV j1] none (some (1 + c / 2 % 2)))) = H6 at *
  walk_at "w"
  refine ⟨by rw [sizeLine_eq]; decide, fun p3 hp3 => ?_⟩
  have a7 := Al.new (o := .lst [V.int 3, .int 35, .int 63]) hp3
  walk_at "w"
  refine ⟨⟨by decide, by decide⟩, ?_⟩
  walk_at "w"
  refine ⟨by show (0 : Int) < 3; decide, ?_⟩
  obtain ⟨r2, hr2, er2⟩ := pickI (xs := [V.int 3, .int 35, .int 63]) (ns := [3, 35, 63]) (i := c / 4 % 3) rfl (by omega) (by show c / 4 % 3 < 3; omega)
  have hr2' : ∃ rn : Nat, r2 = (rn : Int) ∧ rn ≤ 63 := by
    simp only [List.mem_cons, List.not_mem_nil, or_false] at hr2
    rcases hr2 with rfl | rfl | rfl
    · exact ⟨3, rfl, by decide⟩
    · exact ⟨35, rfl, by decide⟩
    · exact ⟨63, rfl, by decide⟩
  obtain ⟨rn, rfl, hrn⟩ := hr2'
  refine ⟨p3, _, _, _, rfl, rfl, sqL_at upd_same, er2, ?_⟩
  generalize L2.upd H6 p3 (.lst [V.int 3, .int 35, .int 63]) = H7 at *
  have a47 := a5.trans (a6.trans a7)
  refine ⟨tg4, m4, rootN, (j1 : Int), "in", p2, rn, zs, by rw [k4]; rfl, K4'.al a47, .inr (.inr rfl), .inl (sqL_at (a7.lst e6)), by have : zs.length ≤ 2 := hzl; omega, hrn, by omega, fun cls d H9 hx a9 => ⟨true, hx, fun _ aa haa => ?_, fun h => by cases h⟩, fun H8 tg8 m8 v8 st8 K8 stp _ => ?_⟩
  · walk_at "w"
    exact ex (s4.trans (Stp.al a47)) (K4'.al a47) (r4.mono (by omega)) _ a9
  · walk_at "w"
    exact k H8 tg8 m8 _ ((s4.trans (Stp.al a47)).trans st8) K8 (r4.step K4'.w.root hr0 stp)
end
end Pk
end
/-! PkF37 -/
section
set_option maxHeartbeats 8000000
namespace Pk
open PySem PySem.Spec PyProof.Rows L2
local macro_rules | `(tactic| walk_at "c") => `(tactic| first | assumption | omega | exact rfl | (intro z; cases z; done) | (simp only [nV, V.int.injEq, V.str.injEq]; first | assumption | omega))
local macro_rules | `(tactic| walk_at "fld") => `(tactic| first
  | assumption
  | exact fld_k_tasks (by assumption) (by assumption) | exact fld_k_tree (by assumption) (by assumption) | exact fld_k_things (by assumption) (by assumption) | exact fld_ta_known (by assumption) (by assumption)
  | exact fld_t_rows (by assumption) (by assumption) (by assumption) | exact fld_t_run1 (by assumption) (by assumption) (by assumption) (by assumption) | exact fld_t_runs (by assumption) (by assumption) (by assumption) | exact fld_t_maker (by assumption) (by assumption) (by assumption) | exact fld_tr_rows (by assumption) (by assumption) | exact fld_tr_rb (by assumption) (by assumption) | exact fld_tr_ever (by assumption) (by assumption)
  | exact fld_h_number (by assumption) (by assumption) | exact fld_h_thing (by assumption) (by assumption) | exact fld_h_rights (by assumption) (by assumption) | exact fld_h_giver (by assumption) (by assumption) | exact fld_h_holder (by assumption) (by assumption))
local macro_rules | `(tactic| walk_at "get") => `(tactic| first
  | assumption
  | exact get_kn1 (by assumption) (by assumption) | exact get_kn0 (by assumption) (by assumption) | exact get_rw1 (by assumption) (by assumption) | exact get_rw0 (by assumption) (by assumption)
  | exact get_rb1 (by assumption) (by assumption) | exact get_rb0 (by assumption) (by assumption) | exact get_th1 (by assumption) (by assumption) | exact get_th0 (by assumption) (by assumption))
local macro_rules | `(tactic| walk_at "ins") => `(tactic| first | exact insTa (by assumption) rfl | exact insTr (by assumption) rfl)
local macro_rules | `(tactic| walk_at "s") => `(tactic| first
  | refine ⟨_, rfl, ?_⟩
  | refine ⟨rfl, ?_⟩
  | refine zI fun _ => ?_
  | with_reducible refine iteF ?_ | with_reducible refine iteT ?_
  | ((with_reducible refine iteDy ?_ ?_); focus (walk_at "c"; done)) | ((with_reducible refine iteDn ?_ ?_); focus (walk_at "c"; done)) | ((with_reducible refine iteNy ?_ ?_); focus (walk_at "c"; done)) | ((with_reducible refine iteNn ?_ ?_); focus (walk_at "c"; done))
  | refine fldI (by walk_at "fld") ?_
  | refine getI (by walk_at "get") ?_ | refine getS (by walk_at "get") ?_
  | refine ⟨by walk_at "ins", ?_⟩
  | refine ⟨_, _, _, _, true, rfl, .ty _, .base (.str _), kit_ty (by decide +kernel), ?_⟩
  | refine ⟨_, _, _, _, true, rfl, .ty _, .base (.int _), kit_ty (by decide +kernel), ?_⟩
  | refine ⟨_, _, _, _, false, rfl, .ty _, .base (.int _), kit_ty (by decide +kernel), ?_⟩
  | refine ⟨_, _, rfl, rfl, ?_⟩
  | refine ⟨_, _, rfl, rfl, trivial, ?_⟩)
local macro_rules | `(tactic| walk_at "w") => `(tactic| repeat (walk_at "s"))
theorem cut_tail {ds : List Nat} (h : 1 ≤ ds.length) : cutV (ds.map nV) (some 1) none = (ds.drop 1).map nV := by
  unfold cutV
  have e1 : HT.sIx (ds.map nV).length 0 (some 1) = 1 := by
    rw [List.length_map]
    unfold HT.sIx
    simp
    omega
  have e2 : HT.sIx (ds.map nV).length (ds.map nV).length none = ds.length := by
    rw [List.length_map]
    exact HT.sIx_none _ _
  rw [e1, e2, List.map_drop, List.take_of_length_le]
  rw [List.length_drop, List.length_map]
  omega
section
variable {P : Program} {w : World} {K : PySem.W.Frag} {mg : Str → Option Value} {base : Heap} (G : Gx K mg base)
include G
def sp_lchained (K : PySem.W.Frag) : Sp := fun vs H Q E => ∃ tg m, ∃ c : Int, vs = [.ref m.k, .int c] ∧ Kn K H tg m ∧ m.ever + 60 < 1000 ∧
  (∀ H' tg' m' z, Stp H tg H' tg' → Kn K H' tg' m' → Reach [] 9 m m' → (z < 0 ∨ ∃ i : Nat, z = (i : Int) ∧ i < m'.nth) → Q (.int z) H')
omit G in
theorem sc_l_chained : FnScope ["_law_kernel_here", "_law_cell", "_law_doors", "_law_k", "_law_last", "_law_some", "_law_most"] ["_law_kernel_here", "_law_cell"] (defScope s_l_chained) := ⟨rfl, rfl, rfl, by decide +kernel, rfl, by decide +kernel, by decide +kernel⟩
theorem ok_l_chained : FnR P w K mg base (L2.CX P w) 54 (He.ga K "_law_chained") (sp_lchained K) := by
  refine mkF (k := 53) G.f_l_chained sc_l_chained (fun _ _ _ _ _ _ us hl => match us, hl with | [_, _], _ => rfl) (fun vs H Q E h => by repeat (first | (obtain ⟨e, _⟩ := h; cases e; rfl; done) | obtain ⟨_, h⟩ := h)) (fun cdv A outer s H vs Q E hr h => ?_)
  have S := sc_l_chained
  obtain ⟨tg, m, c, rfl, KN, hev, k⟩ := h
  have R := KN.r
  refine ⟨_, (pss_cons (ps_set (i := 2) S.nd rfl (by first | exact Or.inl rfl | exact Or.inr rfl) (pe_lst pa_nil))
      (pss_cons (ps_try_only (Wout := fun _ _ _ _ => False) rfl rfl ⟨rfl, by decide, .inl G.g_PassError⟩ takes0 (fun W pn xe tk po => (pss_cons (ps_for po rfl (pi_range1 rfl G.b_range (pa_cons (pe_op op_add pe_int (pe_op op_mod (pv 1) pe_int)) pa_nil)) (pg_name (i := 3) S.nd rfl (by first | exact Or.inl rfl | exact Or.inr rfl)) (pss_one (ps_expr (pe_bmK (K := K) rfl (pe_bm PySem.F.plainAttrs_list PySem.F.slot_list_append PySem.F.type_list_append mt_append (pv 2) (pa_cons (pe_f (ok_make G) (hr.mono (by omega)) rfl G.g_make (kp_of G.f_make) tk (pa_cons (pv 0) (pa_cons pe_str (pa_cons pe_str pa_nil)))) pa_nil))))))
      (pss_cons (ps_set (i := 4) S.nd rfl (by first | exact Or.inl rfl | exact Or.inr rfl) (pe_f (ok_make G) (hr.mono (by omega)) rfl G.g_make (kp_of G.f_make) tk (pa_cons (pv 0) (pa_cons pe_str (pa_cons pe_str pa_nil)))))
      (pss_cons (ps_expr (pe_f (ok_hand_5 G) (hr.mono (by omega)) rfl G.g_hand (kp_of G.f_hand) tk (pa_cons (pv 0) (pa_cons pe_str (pa_cons (pe_ix (ix_listK (K := K) rfl) (pv 2) pe_int (fun _ _ => rfl)) (pa_cons pe_str (pa_cons pe_int pa_nil)))))))
      (pss_cons (ps_set (i := 5) S.nd rfl (by first | exact Or.inl rfl | exact Or.inr rfl) (pe_op op_cat (pe_slice (sl_listK (K := K) rfl) (pv 2) (po_some pe_int) po_none) (pe_lst (pa_cons (pv 4) pa_nil))))
      (pss_one (ps_for po rfl (pi_range1 rfl G.b_range (pa_cons (pe_callB (call_lenK (K := K) rfl) (by rfl) G.b_len PySem.boot_len (pa_cons (pv 2) pa_nil)) pa_nil)) (pg_name (i := 3) S.nd rfl (by first | exact Or.inl rfl | exact Or.inr rfl)) (pss_cons (ps_set (i := 6) S.nd rfl (by first | exact Or.inl rfl | exact Or.inr rfl) (pe_ix (ix_listK (K := K) rfl) (pe_lst (pa_cons pe_int (pa_cons pe_int pa_nil))) (pe_op op_mod (pe_op op_fdiv (pv 1) (pe_op op_add pe_int (pe_op op_mul pe_int (pv 3)))) pe_int) (fun _ _ => rfl)))
      (C8.pss_cut (ps_if (pt_cmpR op_eq (pv 3) (pe_op op_sub (pe_callB (call_lenK (K := K) rfl) (by rfl) G.b_len PySem.boot_len (pa_cons (pv 2) pa_nil)) pe_int) (nomark _)) (pss_one (ps_set (i := 6) S.nd rfl (by first | exact Or.inl rfl | exact Or.inr rfl) (pe_ix (ix_listK (K := K) rfl) (pe_lst (pa_cons pe_int (pa_cons pe_int (pa_cons pe_int pa_nil)))) (pe_op op_mod (pe_op op_fdiv (pv 1) pe_int) pe_int) (fun _ _ => rfl)))) pss_nil)
      (pss_one (ps_expr (pe_f (ok_send_6 G) (hr.mono (by omega)) rfl G.g_send (kp_of G.f_send) tk (pa_cons (pv 0) (pa_cons pe_str (pa_cons (pe_ix (ix_listK (K := K) rfl) (pv 2) (pv 3) (fun _ _ => rfl)) (pa_cons pe_str (pa_cons (pe_lst (pa_cons (pe_ix (ix_listK (K := K) rfl) (pv 5) (pv 3) (fun _ _ => rfl)) pa_nil)) (pa_cons (pv 6) pa_nil)))))))))))))))))) (fun _ _ _ _ _ _ _ => (pss_one (ps_ret (pe_un un_neg pe_int)))))
      (pss_one (ps_ret (pe_fd (pe_m (ok_Tree_handle G) (hr.mono (by omega)) G.cl_Tree G.m_Tree_handle tkd (pe_fd (pv 0)) (pa_cons (pe_m (ok_Tasks_at G) (hr.mono (by omega)) G.cl_Tasks G.m_Tasks_at tkd (pe_fd (pv 0)) (pa_cons pe_str (pa_cons (pv 4) pa_nil))) pa_nil))))))), ?_⟩
  walk_at "w"
  refine ⟨by rw [sizeLine_eq]; decide, fun pd hpd => ?_⟩
  have ad := Al.new (o := .lst []) hpd
  have Kd := KN.cln.al ad
  have sd := (Stp.al (tg := tg) ad).cln (K := K) (m := m)
  have td : Pk.cln K m tg pd = none := cln_free (R.fresh hpd)
  have ed : (L2.upd H pd (.lst [])) pd = some (.lst []) := upd_same
  generalize L2.upd H pd (.lst []) = H1 at *
  generalize Pk.cln K m tg = tg1 at *
  have ex : ∀ {Hx : Hp} {tgx : Tag} {mx : Mo}, Stp H tg Hx tgx → Kn K Hx tgx mx → Reach [] 9 m mx → ∀ H9, Al Hx H9 → Q (.int (-1)) H9 := fun st kx rx H9 a9 => k H9 _ _ _ (st.trans (Stp.al a9)) (kx.al a9) rx (.inl (by decide))
  have hr0 : rootN ∉ ([] : List Str) := fun h => by cases h
  walk_at "w"
  refine ⟨by show (0 : Int) < 2; decide, ?_⟩
  walk_at "w"
  refine ⟨by omega, by omega, ?_⟩
  obtain ⟨nd, hnd, hnd2, hnd3⟩ : ∃ nd : Nat, (2 + c % 2).toNat = nd ∧ 2 ≤ nd ∧ nd ≤ 3 := ⟨_, rfl, by omega, by omega⟩
  rw [hnd]
  refine for_it walk_range (fun i σ H' => (∃ v3, σ = [some (.ref m.k), some (.int c), some (.ref pd), v3, none, none, none]) ∧ ∃ tg' m', ∃ ds : List Nat, Stp H tg H' tg' ∧ Kn K H' tg' m' ∧ Reach [] i m m' ∧ H' pd = some (.lst (ds.map nV)) ∧ ds.length = i ∧ tg' pd = none) ?_ ?_ ?_ ?_
  · exact ⟨⟨_, rfl⟩, tg1, m, [], sd, Kd, .refl, ed, rfl, td⟩
  · exact fun _ _ _ _ _ => trivial
  · rintro i x σ H2 H2' hi ⟨⟨v3, rfl⟩, tg2, m2, ds, s2, K2, r2, e2, hl2, t2⟩ ⟨rfl, rfl⟩
    have k2 := r2.k
    have v2 := r2.ev
    walk_at "w"
    refine ⟨tyL e2, ?_⟩
    walk_at "w"
    refine ⟨tg2, m2, rootN, "door", by rw [k2]; rfl, K2, by omega, .inr (.inr rfl), fun _ cls d H9 hx a9 => ⟨true, hx, fun _ aa haa => ?_, fun h => by cases h⟩, fun ok H3 tg3 x3 b3 hx3 kx3 j3 hj3 st3 K3 => ?_⟩
    · walk_at "w"
      exact ex s2 K2 (r2.mono (by omega)) _ a9
    have e3 := st3.keep _ _ e2 (Pl.nt (o := .lst _) trivial) t2
    have t3 := st3.tag _ _ e2 (Pl.nt (o := .lst _) trivial) t2
    have r3 := r2.step K2.w.root hr0 (step_new (j := j3) (x := x3) (b := b3) (hx := hx3) (kx := kx3) K2.w doorT)
    refine ⟨_, _, _, rfl, rfl, e3, by rw [List.length_map, sizeLine_eq]; omega, ?_⟩
    exact ⟨⟨_, rfl⟩, tg3, _, ds ++ [j3], (s2.trans st3).updN (fun o _ z => by rw [hpd] at z; cases z) e3 trivial, K3.other t3 e3, r3, by rw [upd_same, List.map_append]; rfl, by rw [List.length_append, hl2]; rfl, t3⟩
  · rintro σ H2 ⟨⟨v3, rfl⟩, tg2, m2, ds, s2, K2, r2, e2, hl2, t2⟩
    have k2 := r2.k
    have v2 := r2.ev
    walk_at "w"
    refine ⟨tg2, m2, rootN, "cell", by rw [k2]; rfl, K2, by omega, .inl rfl, fun _ cls d H9 hx a9 => ⟨true, hx, fun _ aa haa => ?_, fun h => by cases h⟩, fun ok H3 tg3 x3 b3 hx3 kx3 j3 hj3 st3 K3 => ?_⟩
    · walk_at "w"
      exact ex s2 K2 (r2.mono (by omega)) _ a9
    have e3 := st3.keep _ _ e2 (Pl.nt (o := .lst _) trivial) t2
    have t3 := st3.tag _ _ e2 (Pl.nt (o := .lst _) trivial) t2
    have r3 := r2.step K2.w.root hr0 (step_new (j := j3) (x := x3) (b := b3) (hx := hx3) (kx := kx3) K2.w cellT)
    have j16 : j3 < 16 := by have := lt_of_get hj3.1; rw [K2.w.bd.rws _ K2.w.root.1] at this; exact this
    have row3 : ((m2.newT (thOf "cell") rootN x3 b3 hx3 kx3 j3).task rootN).rows[j3]? = some (some m2.ever) := by
      unfold Mo.newT
      rw [setRows_task, if_pos rfl]
      show ((m2.task rootN).rows.set j3 (some m2.ever))[j3]? = _
      rw [List.getElem?_set_self (by rw [K2.w.bd.rws _ K2.w.root.1]; exact j16)]
    have s3 := s2.trans st3
    generalize m2.newT (thOf "cell") rootN x3 b3 hx3 kx3 j3 = m3 at *
    have k3 := r3.k
    have v3 := r3.ev
    clear st3 K2 s2 r2 e2 t2 hj3
    obtain ⟨d0, hd0⟩ : ∃ d0, ds[0]? = some d0 := ⟨_, List.getElem?_eq_getElem (by omega)⟩
    have hd0' : (ds.map nV)[0]? = some (nV d0) := by rw [List.getElem?_map, hd0]; rfl
    walk_at "w"
    refine ⟨pd, _, 0, nV d0, rfl, rfl, sqL_at e3, atI_nat (k := 0) hd0', ?_⟩
    walk_at "w"
    refine ⟨tg3, m3, rootN, (d0 : Int), "aa", nV 8, by rw [k3]; rfl, K3, .inr ⟨8, rfl, by decide⟩, by omega, fun _ cls d H9 hx a9 => ⟨true, hx, fun _ aa haa => ?_, fun h => by cases h⟩, fun n hq hs h32 okp H4 tg4 x4 kx4 j4 hj4 st4 K4 => ?_⟩
    · walk_at "w"
      exact ex s3 K3 (r3.mono (by omega)) _ a9
    have e4 := st4.keep _ _ e3 (Pl.nt (o := .lst _) trivial) t3
    have t4 := st4.tag _ _ e3 (Pl.nt (o := .lst _) trivial) t3
    have r4 := r3.step K3.w.root hr0 (step_der (x := x4) (kx := kx4) (j := j4) K3.w hq.1 (slotAt_mem hs) okp (.inr h32))
    have s4 := s3.trans st4
    have row4 : (((m3.derH n (rgOf (nV 8) (m3.row n).rights) "aa" x4 kx4).setRows "aa" ((m3.task "aa").rows.set j4 (some m3.ever))).task rootN).rows[j3]? = some (some m2.ever) := by
      rw [setRows_task, if_neg (by decide)]
      exact row3
    have K4' : Kn K H4 tg4 ((m3.derH n (rgOf (nV 8) (m3.row n).rights) "aa" x4 kx4).setRows "aa" ((m3.task "aa").rows.set j4 (some m3.ever))) := K4
    generalize (m3.derH n (rgOf (nV 8) (m3.row n).rights) "aa" x4 kx4).setRows "aa" ((m3.task "aa").rows.set j4 (some m3.ever)) = m4 at *
    have k4 := r4.k
    have v4 := r4.ev
    clear st4 K4 K3 s3 r3 e3 t3 hj4 row3 hs
    walk_at "w"
    refine ⟨pd, _, rfl, sqL_at e4, fun p hp => ?_⟩
    rw [cut_tail (ds := ds) (by omega)]
    have a5 := Al.new (o := .lst ((ds.drop 1).map nV)) hp
    have e5 : (L2.upd H4 p (.lst ((ds.drop 1).map nV))) p = some (.lst ((ds.drop 1).map nV)) := upd_same
    generalize L2.upd H4 p (.lst ((ds.drop 1).map nV)) = H5 at *
    walk_at "w"
    refine ⟨by show (1 : Nat) ≤ sizeLine; rw [sizeLine_eq]; decide, fun p2 hp2 => ?_⟩
    have a6 := Al.new (o := .lst [nV j3]) hp2
    have e6 : (L2.upd H5 p2 (.lst [nV j3])) p2 = some (.lst [nV j3]) := upd_same
    generalize L2.upd H5 p2 (.lst [nV j3]) = H6 at *
    refine ⟨p, p2, _, _, rfl, rfl, a6.lst e5, e6, by rw [List.length_map, List.length_drop, sizeLine_eq]; show ds.length - 1 + 1 ≤ _; omega, fun p3 hp3 => ?_⟩
    have ess : (ds.drop 1).map nV ++ [nV j3] = (ds.drop 1 ++ [j3]).map nV := by rw [List.map_append]; rfl
    have hssl : (ds.drop 1 ++ [j3]).length = nd := by rw [List.length_append, List.length_drop, hl2]; show nd - 1 + 1 = nd; omega
    rw [ess]
    generalize ds.drop 1 ++ [j3] = sl at *
    have a7 := Al.new (o := .lst (sl.map nV)) hp3
    have e7 : (L2.upd H6 p3 (.lst (sl.map nV))) p3 = some (.lst (sl.map nV)) := upd_same
    have a47 := a5.trans (a6.trans a7)
    have K7 := (K4'.al a47).cln
    have s7 := (s4.trans (Stp.al (tg := tg4) a47)).cln (K := K) (m := m4)
    have t7 : Pk.cln K m4 tg4 p3 = none := cln_free ((K4'.r.al (a5.trans a6)).fresh hp3)
    have t7d : Pk.cln K m4 tg4 pd = none := cln_none t4
    have e7d := a47.lst e4
    generalize L2.upd H6 p3 (.lst (sl.map nV)) = H7 at *
    generalize Pk.cln K m4 tg4 = tg7 at *
    clear a5 a6 a7 e5 e6 e4 t4 K4' s4 a47 hd0' hd0 hp hp2 hp3
    walk_at "w"
    refine ⟨_, _, rfl, .inl ⟨_, sqL_at e7d, rfl⟩, ?_⟩
    refine ⟨_, rfl, by omega, by rw [List.length_map]; omega, ?_⟩
    have hnl : (((ds.map nV).length : Nat) : Int).toNat = nd := by rw [List.length_map, hl2]; rfl
    rw [hnl]
    refine for_it walk_range (fun i σ H' => (∃ v3 v6, σ = [some (.ref m.k), some (.int c), some (.ref pd), v3, some (nV j3), some (.ref p3), v6]) ∧ ∃ tg' m', Stp H7 tg7 H' tg' ∧ Kn K H' tg' m' ∧ Reach [] (nd + 1 + 1 + i) m m' ∧ m'.task = m4.task) ?_ ?_ ?_ ?_
    · exact ⟨⟨_, _, rfl⟩, tg7, m4, .refl, K7, r4, rfl⟩
    · exact fun _ _ _ _ _ => trivial
    · rintro i x σ H8 H8' hi ⟨⟨v3, v6, rfl⟩, tg8, m8, s8, K8, r8, et8⟩ ⟨rfl, rfl⟩
      have k8 := r8.k
      have v8 := r8.ev
      have e8 := s8.keep _ _ e7 (Pl.nt (o := .lst _) trivial) t7
      have e8d := s8.keep _ _ e7d (Pl.nt (o := .lst _) trivial) t7d
      have s78 := s7.trans s8
      walk_at "w"
      refine ⟨by rw [sizeLine_eq]; decide, fun q hqf => ?_⟩
      have aq := Al.new (o := .lst [V.int 8, .int 40]) hqf
      have eq : (L2.upd H8' q (.lst [V.int 8, .int 40])) q = some (.lst [V.int 8, .int 40]) := upd_same
      generalize L2.upd H8' q (.lst [V.int 8, .int 40]) = H9 at *
      walk_at "w"
      refine ⟨.inl ⟨by decide, by decide⟩, ?_⟩
      walk_at "w"
      refine ⟨⟨by omega, by omega⟩, ?_⟩
      walk_at "w"
      refine ⟨by show (0 : Int) < 2; decide, ?_⟩
      obtain ⟨r, hr, er⟩ := pickI (xs := [V.int 8, .int 40]) (ns := [8, 40]) (i := c / (2 + 2 * (0 + (i : Int))) % 2) rfl (by omega) (by show c / (2 + 2 * (0 + (i : Int))) % 2 < 2; omega)
      have hr' : ∃ rn : Nat, r = (rn : Int) ∧ rn ≤ 63 := by
        simp only [List.mem_cons, List.not_mem_nil, or_false] at hr
        rcases hr with rfl | rfl
        · exact ⟨8, rfl, by decide⟩
        · exact ⟨40, rfl, by decide⟩
      obtain ⟨rn, rfl, hrn⟩ := hr'
      refine ⟨q, _, _, _, rfl, rfl, sqL_at eq, er, ?_⟩
      walk_at "w"
      refine ⟨fun σ' H' => ∃ r2 : Nat, r2 ≤ 63 ∧ σ' = [some (.ref m.k), some (.int c), some (.ref pd), some (.int (0 + (i : Int))), some (nV j3), some (.ref p3), some (nV r2)] ∧ Al H9 H', ?_, ?_⟩
      · walk_at "w"
        refine ⟨_, _, rfl, .inl ⟨_, sqL_at (aq.lst e8d), rfl⟩, ?_⟩
        walk_at "w"
        by_cases hlast : (0 + (i : Int)) = (((ds.map nV).length : Nat) : Int) - 1
        · walk_at "w"
          refine ⟨by rw [sizeLine_eq]; decide, fun q2 hq2 => ?_⟩
          have aq2 := Al.new (o := .lst [V.int 3, .int 35, .int 1]) hq2
          walk_at "w"
          refine ⟨⟨by decide, by decide⟩, ?_⟩
          walk_at "w"
          refine ⟨by show (0 : Int) < 3; decide, ?_⟩
          obtain ⟨r2, hr2, er2⟩ := pickI (xs := [V.int 3, .int 35, .int 1]) (ns := [3, 35, 1]) (i := c / 7 % 3) rfl (by omega) (by show c / 7 % 3 < 3; omega)
          have hr2' : ∃ rn : Nat, r2 = (rn : Int) ∧ rn ≤ 63 := by
            simp only [List.mem_cons, List.not_mem_nil, or_false] at hr2
            rcases hr2 with rfl | rfl | rfl
            · exact ⟨3, rfl, by decide⟩
            · exact ⟨35, rfl, by decide⟩
            · exact ⟨1, rfl, by decide⟩
          obtain ⟨rn2, rfl, hrn2⟩ := hr2'
          refine ⟨q2, _, _, _, rfl, rfl, sqL_at upd_same, er2, ?_⟩
          exact ⟨rn2, hrn2, rfl, aq2⟩
        · have hlast' : ¬ V.int (0 + (i : Int)) = V.int ((((ds.map nV).length : Nat) : Int) - 1) := fun z => hlast (V.int.inj z)
          walk_at "w"
          exact ⟨rn, hrn, rfl, Al.refl _⟩
      · rintro σ' H' ⟨r2, hr2, rfl, a10⟩
        have a11 := aq.trans a10
        have e11 := a11.lst e8
        have e11d := a11.lst e8d
        have K11 := K8.al a11
        clear er eq a10 aq hqf e8 e8d hrn
        obtain ⟨di, hdi⟩ : ∃ di, ds[i]? = some di := ⟨_, List.getElem?_eq_getElem (by omega)⟩
        obtain ⟨si, hsi⟩ : ∃ si, sl[i]? = some si := ⟨_, List.getElem?_eq_getElem (by omega)⟩
        have hdi' : atI (ds.map nV) (0 + (i : Int)) = some (nV di) := by rw [Int.zero_add]; exact atI_nat (by rw [List.getElem?_map, hdi]; rfl)
        have hsi' : atI (sl.map nV) (0 + (i : Int)) = some (nV si) := by rw [Int.zero_add]; exact atI_nat (by rw [List.getElem?_map, hsi]; rfl)
        walk_at "w"
        refine ⟨pd, _, _, nV di, rfl, rfl, sqL_at e11d, hdi', ?_⟩
        walk_at "w"
        refine ⟨p3, _, _, nV si, rfl, rfl, sqL_at e11, hsi', ?_⟩
        walk_at "w"
        refine ⟨by show (1 : Nat) ≤ sizeLine; rw [sizeLine_eq]; decide, fun q3 hq3 => ?_⟩
        have a12 := Al.new (o := .lst [nV si]) hq3
        have e12 : (L2.upd H' q3 (.lst [nV si])) q3 = some (.lst [nV si]) := upd_same
        generalize L2.upd H' q3 (.lst [nV si]) = H12 at *
        have s12 := s78.trans (Stp.al (tg := tg8) (a11.trans a12))
        walk_at "w"
        refine ⟨tg8, m8, rootN, (di : Int), "", q3, r2, [(si : Int)], by rw [k8]; rfl, K11.al a12, .inr (.inl rfl), .inl (sqL_at e12), by simp, hr2, by omega, fun cls d H13 hx a13 => ⟨true, hx, fun _ aa haa => ?_, fun h => by cases h⟩, fun H13 tg13 m13 v13 st13 K13 stp etk => ?_⟩
        · walk_at "w"
          exact ex s12 (K11.al a12) (r8.mono (by omega)) _ a13
        · exact ⟨⟨_, _, rfl⟩, tg13, m13, (s8.trans (Stp.al (a11.trans a12))).trans st13, K13, r8.step K8.w.root hr0 stp, etk.trans et8⟩
    · rintro σ H8 ⟨⟨v3, v6, rfl⟩, tg8, m8, s8, K8, r8, et8⟩
      have k8 := r8.k
      have R8 := K8.r
      have hat : slotAt m8 rootN j3 = some m2.ever := by
        unfold slotAt
        rw [if_pos (by omega), et8, Int.toNat_natCast, row4]
        rfl
      have f1 : FldAt K H8 (.ref m.k) "tree" (.ref m8.tr) := by have := fld_k_tree G R8; rwa [k8] at this
      have f2 : FldAt K H8 (.ref m.k) "tasks" (.ref m8.ta) := by have := fld_k_tasks G R8; rwa [k8] at this
      have hk8 := K8.w.slot rootN _ K8.w.root.1 (slotAt_mem hat)
      walk_at "w"
      refine ⟨tg8, m8, rootN, (j3 : Int), rfl, R8, K8.w.bd, fun h => absurd ⟨K8.w.root, by rw [hat]; rfl⟩ h, fun n hq hs => ?_⟩
      rw [hat] at hs
      cases hs
      walk_at "w"
      refine ⟨tg8, m8, m2.ever, rfl, R8, fun h => absurd hk8 h, fun _ H9 x9 a9 hx9 => ?_⟩
      walk_at "w"
      exact k H9 tg8 m8 _ (s7.trans (s8.trans (Stp.al a9))) (K8.al a9) (r8.mono (by omega)) (.inr ⟨_, rfl, K8.w.t.th _ hk8⟩)
end
end Pk
end
/-! PkF38 -/
section
set_option maxHeartbeats 8000000
namespace Pk
open PySem PySem.Spec PyProof.Rows L2
local macro_rules | `(tactic| walk_at "c") => `(tactic| first | assumption | omega | exact rfl | (intro z; cases z; done) | (simp only [nV, V.int.injEq, V.str.injEq]; first | assumption | omega))
local macro_rules | `(tactic| walk_at "fld") => `(tactic| first
  | assumption
  | exact fld_k_tasks (by assumption) (by assumption) | exact fld_k_tree (by assumption) (by assumption) | exact fld_k_things (by assumption) (by assumption) | exact fld_ta_known (by assumption) (by assumption)
  | exact fld_t_rows (by assumption) (by assumption) (by assumption) | exact fld_t_run1 (by assumption) (by assumption) (by assumption) (by assumption) | exact fld_t_runs (by assumption) (by assumption) (by assumption) | exact fld_t_maker (by assumption) (by assumption) (by assumption) | exact fld_tr_rows (by assumption) (by assumption) | exact fld_tr_rb (by assumption) (by assumption) | exact fld_tr_ever (by assumption) (by assumption)
  | exact fld_h_number (by assumption) (by assumption) | exact fld_h_thing (by assumption) (by assumption) | exact fld_h_rights (by assumption) (by assumption) | exact fld_h_giver (by assumption) (by assumption) | exact fld_h_holder (by assumption) (by assumption))
local macro_rules | `(tactic| walk_at "get") => `(tactic| first
  | assumption
  | exact get_kn1 (by assumption) (by assumption) | exact get_kn0 (by assumption) (by assumption) | exact get_rw1 (by assumption) (by assumption) | exact get_rw0 (by assumption) (by assumption)
  | exact get_rb1 (by assumption) (by assumption) | exact get_rb0 (by assumption) (by assumption) | exact get_th1 (by assumption) (by assumption) | exact get_th0 (by assumption) (by assumption))
local macro_rules | `(tactic| walk_at "ins") => `(tactic| first | exact insTa (by assumption) rfl | exact insTr (by assumption) rfl)
local macro_rules | `(tactic| walk_at "s") => `(tactic| first
  | refine ⟨_, rfl, ?_⟩
  | refine ⟨rfl, ?_⟩
  | refine zI fun _ => ?_
  | with_reducible refine iteF ?_ | with_reducible refine iteT ?_
  | ((with_reducible refine iteDy ?_ ?_); focus (walk_at "c"; done)) | ((with_reducible refine iteDn ?_ ?_); focus (walk_at "c"; done)) | ((with_reducible refine iteNy ?_ ?_); focus (walk_at "c"; done)) | ((with_reducible refine iteNn ?_ ?_); focus (walk_at "c"; done))
  | refine fldI (by walk_at "fld") ?_
  | refine getI (by walk_at "get") ?_ | refine getS (by walk_at "get") ?_
  | refine ⟨by walk_at "ins", ?_⟩
  | refine ⟨_, _, _, _, true, rfl, .ty _, .base (.str _), kit_ty (by decide +kernel), ?_⟩
  | refine ⟨_, _, _, _, true, rfl, .ty _, .base (.int _), kit_ty (by decide +kernel), ?_⟩
  | refine ⟨_, _, _, _, false, rfl, .ty _, .base (.int _), kit_ty (by decide +kernel), ?_⟩
  | refine ⟨_, _, rfl, rfl, ?_⟩
  | refine ⟨_, _, rfl, rfl, trivial, ?_⟩)
local macro_rules | `(tactic| walk_at "w") => `(tactic| repeat (walk_at "s"))
section
variable {P : Program} {w : World} {K : PySem.W.Frag} {mg : Str → Option Value} {base : Heap} (G : Gx K mg base)
include G
def sp_lheard (K : PySem.W.Frag) : Sp := fun vs H Q E => ∃ tg m nm S, vs = [.ref m.k, .str nm] ∧ Kn K H tg m ∧ RunT m nm ∧ nm ∉ S ∧ (∀ H' tg' m', Stp H tg H' tg' → Kn K H' tg' m' → Reach S 64 m m' → Q .non H')
omit G in
theorem sc_l_heard : FnScope ["_law_kernel_here", "_law_name", "_law_k", "_law_slot_here", "_law_number"] ["_law_kernel_here", "_law_name"] (defScope s_l_heard) := ⟨rfl, rfl, rfl, by decide +kernel, rfl, by decide +kernel, by decide +kernel⟩
theorem ok_l_heard : FnR P w K mg base (L2.CX P w) 15 (He.ga K "_law_heard") (sp_lheard K) := by
  refine mkF (k := 14) G.f_l_heard sc_l_heard (fun _ _ _ _ _ _ us hl => match us, hl with | [_, _], _ => rfl) (fun vs H Q E h => by repeat (first | (obtain ⟨e, _⟩ := h; cases e; rfl; done) | obtain ⟨_, h⟩ := h)) (fun cdv A outer s H vs Q E hr h => ?_)
  have S := sc_l_heard
  obtain ⟨tg, m, nm, ss, rfl, KN, hq, hns, k⟩ := h
  refine ⟨_, (pss_one (ps_for pod rfl (pi_range1 rfl G.b_range (pa_cons pe_int pa_nil)) (pg_name (i := 2) S.nd rfl (by first | exact Or.inl rfl | exact Or.inr rfl)) (pss_cons (ps_if (pt_cmpR op_notIn_seq (pv 1) (pe_m0 (ok_Tasks_running G) (hr.mono (by omega)) G.cl_Tasks G.m_Tasks_running tkd (pe_fd (pv 0))) rfl) (pss_one ps_break) pss_nil)
      (pss_one (ps_for pod rfl (pi_list (pe_m (ok_Tasks_slots G) (hr.mono (by omega)) G.cl_Tasks G.m_Tasks_slots tkd (pe_fd (pv 0)) (pa_cons (pv 1) pa_nil))) (pg_tup rfl (pgs_cons (pg_name (i := 3) S.nd rfl (by first | exact Or.inl rfl | exact Or.inr rfl)) (pgs_cons (pg_name (i := 4) S.nd rfl (by first | exact Or.inl rfl | exact Or.inr rfl)) pgs_nil))) (pss_one (ps_id (ps_try_only (Wout := fun _ _ _ _ => False) rfl rfl ⟨rfl, by decide, .inl G.g_PassError⟩ takes0 (fun W pn xe tk po => (pss_one (ps_expr (pe_f (ok_hear G) (hr.mono (by omega)) rfl G.g_hear (kp_of G.f_hear) tk (pa_cons (pv 0) (pa_cons (pv 1) (pa_cons (pv 3) pa_nil))))))) (fun _ _ _ _ _ _ _ => (pss_one ps_continue)))))))))), ?_⟩
  walk_at "w"
  refine ⟨by decide, by decide, ?_⟩
  refine for_it walk_range (fun i σ H' => (∃ v2 v3 v4, σ = [some (.ref m.k), some (.str nm), v2, v3, v4]) ∧ ∃ tg' m', Stp H tg H' tg' ∧ Kn K H' tg' m' ∧ Reach ss (16 * i) m m' ∧ RunT m' nm) ?_ ?_ ?_ ?_
  · exact ⟨⟨_, _, _, rfl⟩, tg, m, .refl, KN, .refl, hq⟩
  · exact fun _ _ _ _ _ => trivial
  · rintro i x σ H1 H1' hi ⟨⟨v2, v3, v4, rfl⟩, tg1, m1, s1, K1, r1, hq1⟩ ⟨rfl, rfl⟩
    have k1 := r1.k
    have R1 := K1.r
    have f1 : FldAt K H1' (.ref m.k) "tasks" (.ref m1.ta) := by have := fld_k_tasks G R1; rwa [k1] at this
    walk_at "w"
    refine ⟨tg1, m1, rfl, R1, K1.w.bd, K1.kn, fun H2 p2 a2 e2 => ?_⟩
    walk_at "w"
    refine ⟨p2, _, rfl, .inl (sqL_at e2), flat_one, flat_str, ?_⟩
    rw [if_pos rfl, inV_str, decide_eq_true (runL_run.mpr hq1)]
    have K2 := K1.al a2
    have R2 := K2.r
    have f2 : FldAt K H2 (.ref m.k) "tasks" (.ref m1.ta) := by have := fld_k_tasks G R2; rwa [k1] at this
    walk_at "w"
    refine ⟨tg1, m1, nm, rfl, R2, K1.w.bd, fun h => absurd hq1 h, fun _ H3 p3 us a3 e3 hal => ?_⟩
    have hul : us.length ≤ 16 := by rw [← hal.1]; exact slotsOf_len
    walk_at "w"
    refine ⟨⟨_, sqL_at e3⟩, ?_⟩
    have K3 := (K2.al a3)
    have s3 := s1.trans (Stp.al (tg := tg1) (a2.trans a3))
    cases us with
    | nil =>
      refine for_list (xs := []) (fun j σ H' => (∃ v3 v4, σ = [some (.ref m.k), some (.str nm), some (.int (0 + (i : Int))), v3, v4]) ∧ H' = H3) ?_ ?_ ?_ ?_
      · exact ⟨⟨_, _, rfl⟩, rfl⟩
      · rintro j σ H' hj ⟨_, rfl⟩
        exact sqL_at e3
      · rintro j x σ H' hx
        cases hx
      · rintro σ H' ⟨⟨v3, v4, rfl⟩, rfl⟩
        exact ⟨⟨_, _, _, rfl⟩, tg1, m1, s3, K3, r1.mono (by omega), hq1⟩
    | cons u0 us =>
      obtain ⟨sn0, _, T0', rfl, eT0⟩ := hal.get (i := 0) (v := u0) rfl
      have Kc := K3.cln
      have sc := s3.cln (K := K) (m := m1)
      have tp3 : Pk.cln K m1 tg1 p3 = none := lst_clean K3.r e3 List.mem_cons_self eT0
      have tT : ∀ {T : Addr} {xs : List V}, H3 T = some (.tup xs) → Pk.cln K m1 tg1 T = none := fun e => tup_clean K3.r e
      generalize Pk.cln K m1 tg1 = tg3 at *
      clear eT0
      refine for_list (xs := V.ref T0' :: us) (fun j σ H' => (∃ v3 v4, σ = [some (.ref m.k), some (.str nm), some (.int (0 + (i : Int))), v3, v4]) ∧ ∃ tg' m', Stp H3 tg3 H' tg' ∧ Kn K H' tg' m' ∧ Reach ss (16 * i + j) m m' ∧ RunT m' nm) ?_ ?_ ?_ ?_
      · exact ⟨⟨_, _, rfl⟩, tg3, m1, .refl, Kc, r1, hq1⟩
      · rintro j σ H' hj ⟨_, tg', m', st, _⟩
        exact sqL_at (st.keep _ _ e3 (Pl.nt (o := .lst _) trivial) tp3)
      · rintro j x σ H4 hx ⟨⟨v3, v4, rfl⟩, tg4, m4, s4, K4, r4, hq4⟩
        have k4 := r4.k
        obtain ⟨sn, hsn, T, rfl, eT⟩ := hal.get hx
        have eT4 := s4.keep _ _ eT (Pl.nt (o := .tup _) trivial) (tT eT)
        walk_at "w"
        refine tup2 (sqT_at eT4) rfl ?_
        walk_at "w"
        refine ⟨tg4, m4, nm, (sn.1 : Int), by rw [k4]; rfl, K4, fun cls d H9 hx9 a9 => ⟨true, hx9, fun _ aa haa => ?_, fun h => by cases h⟩, fun H' tg' m' v st KN' stp hrn => ?_⟩
        · walk_at "w"
          exact ⟨⟨_, _, rfl⟩, tg4, m4, s4.trans (Stp.al a9), K4.al a9, r4.mono (by omega), hq4⟩
        · walk_at "w"
          exact ⟨⟨_, _, rfl⟩, tg', m', s4.trans st, KN', r4.step hq4 hns stp, hrn _ hq4⟩
      · rintro σ H4 ⟨⟨v3, v4, rfl⟩, tg4, m4, s4, K4, r4, hq4⟩
        exact ⟨⟨_, _, _, rfl⟩, tg4, m4, sc.trans s4, K4, r4.mono (by omega), hq4⟩
  · rintro σ H1 ⟨⟨v2, v3, v4, rfl⟩, tg1, m1, s1, K1, r1, hq1⟩
    walk_at "w"
    exact k H1 tg1 m1 s1 K1 r1
end
end Pk
end
/-! PkF39 -/
section
set_option maxHeartbeats 8000000
namespace Pk
open PySem PySem.Spec PyProof.Rows L2
local macro_rules | `(tactic| walk_at "c") => `(tactic| first | assumption | omega | exact rfl | (intro z; cases z; done) | (simp only [nV, V.int.injEq, V.str.injEq]; first | assumption | omega))
local macro_rules | `(tactic| walk_at "fld") => `(tactic| first
  | assumption
  | exact fld_k_tasks (by assumption) (by assumption) | exact fld_k_tree (by assumption) (by assumption) | exact fld_k_things (by assumption) (by assumption) | exact fld_ta_known (by assumption) (by assumption)
  | exact fld_t_rows (by assumption) (by assumption) (by assumption) | exact fld_t_run1 (by assumption) (by assumption) (by assumption) (by assumption) | exact fld_t_runs (by assumption) (by assumption) (by assumption) | exact fld_t_maker (by assumption) (by assumption) (by assumption) | exact fld_tr_rows (by assumption) (by assumption) | exact fld_tr_rb (by assumption) (by assumption) | exact fld_tr_ever (by assumption) (by assumption)
  | exact fld_h_number (by assumption) (by assumption) | exact fld_h_thing (by assumption) (by assumption) | exact fld_h_rights (by assumption) (by assumption) | exact fld_h_giver (by assumption) (by assumption) | exact fld_h_holder (by assumption) (by assumption))
local macro_rules | `(tactic| walk_at "get") => `(tactic| first
  | assumption
  | exact get_kn1 (by assumption) (by assumption) | exact get_kn0 (by assumption) (by assumption) | exact get_rw1 (by assumption) (by assumption) | exact get_rw0 (by assumption) (by assumption)
  | exact get_rb1 (by assumption) (by assumption) | exact get_rb0 (by assumption) (by assumption) | exact get_th1 (by assumption) (by assumption) | exact get_th0 (by assumption) (by assumption))
local macro_rules | `(tactic| walk_at "ins") => `(tactic| first | exact insTa (by assumption) rfl | exact insTr (by assumption) rfl)
local macro_rules | `(tactic| walk_at "s") => `(tactic| first
  | refine ⟨_, rfl, ?_⟩
  | refine ⟨rfl, ?_⟩
  | refine zI fun _ => ?_
  | with_reducible refine iteF ?_ | with_reducible refine iteT ?_
  | ((with_reducible refine iteDy ?_ ?_); focus (walk_at "c"; done)) | ((with_reducible refine iteDn ?_ ?_); focus (walk_at "c"; done)) | ((with_reducible refine iteNy ?_ ?_); focus (walk_at "c"; done)) | ((with_reducible refine iteNn ?_ ?_); focus (walk_at "c"; done))
  | refine fldI (by walk_at "fld") ?_
  | refine getI (by walk_at "get") ?_ | refine getS (by walk_at "get") ?_
  | refine ⟨by walk_at "ins", ?_⟩
  | refine ⟨_, _, _, _, true, rfl, .ty _, .base (.str _), kit_ty (by decide +kernel), ?_⟩
  | refine ⟨_, _, _, _, true, rfl, .ty _, .base (.int _), kit_ty (by decide +kernel), ?_⟩
  | refine ⟨_, _, _, _, false, rfl, .ty _, .base (.int _), kit_ty (by decide +kernel), ?_⟩
  | refine ⟨_, _, rfl, rfl, ?_⟩
  | refine ⟨_, _, rfl, rfl, trivial, ?_⟩)
local macro_rules | `(tactic| walk_at "w") => `(tactic| repeat (walk_at "s"))
/-- a list that the kernel leaves alone -/
def StL (K : PySem.W.Frag) (H : Hp) (tg : Tag) (a : Addr) (xs : List V) : Prop := (∃ o, H a = some o ∧ nt o ∧ tg a = none ∧ ∀ H', H' a = some o → SqL K H' a xs) ∨ ∀ H', SqL K H' a xs
theorem StL.sq {K : PySem.W.Frag} {H : Hp} {tg : Tag} {a : Addr} {xs : List V} (h : StL K H tg a xs) : SqL K H a xs := h.elim (fun ⟨o, e, _, _, g⟩ => g H e) fun g => g H
theorem StL.stp {K : PySem.W.Frag} {H H' : Hp} {tg tg' : Tag} {a : Addr} {xs : List V} (h : StL K H tg a xs) (s : Stp H tg H' tg') : StL K H' tg' a xs :=
  h.imp (fun ⟨o, e, n, t, g⟩ => ⟨o, s.keep _ _ e n t, n, s.tag _ _ e n t, g⟩) id
theorem StL.new {K : PySem.W.Frag} {H : Hp} {tg : Tag} {m : Mo} {a : Addr} {ns : List Int} (R : Rep K H tg m) (nw : New m) (h : SqL K H a (ns.map V.int)) : StL K H (Pk.cln K m tg) a (ns.map V.int) := by
  have ft : ∀ o, (o = .lst (ns.map V.int) ∨ ∃ ob, o = .frz ob (.lst (ns.map V.int))) → H a = some o → Pk.cln K m tg a = none := fun o ho e => by
    cases ec : Pk.cln K m tg a with
    | none => rfl
    | some r =>
      exfalso
      obtain ⟨_, φ, q⟩ := cln_some ec
      obtain ⟨_, o2, ho2, hφ⟩ := R.cell r a φ q
      rw [e] at ho2
      cases ho2
      have hI : ∀ {C fs}, isI C fs o → False := fun ⟨dx, z⟩ => by rcases ho with y | ⟨ob, y⟩ <;> (rw [y] at z; cases z)
      have hD : ∀ {kv}, o = .dK kv → False := fun z => by rcases ho with y | ⟨ob, y⟩ <;> (rw [y] at z; cases z)
      have hF : ∀ {ob kv}, o = .frz ob (.dK kv) → False := fun z => by rcases ho with y | ⟨ob, y⟩ <;> (rw [y] at z; cases z)
      cases r with
      | k => simp only [Mo.cell] at q; cases q; exact hI hφ
      | tr => simp only [Mo.cell] at q; cases q; exact hI hφ
      | ta => simp only [Mo.cell] at q; cases q; exact hI hφ
      | rw => simp only [Mo.cell] at q; cases q; exact hD hφ
      | rb => simp only [Mo.cell] at q; cases q; exact hD hφ
      | kn => simp only [Mo.cell] at q; cases q; exact hφ.elim hD fun ⟨_, z⟩ => hF z
      | th => simp only [Mo.cell] at q; cases q; exact hφ.elim hD fun ⟨_, z⟩ => hF z
      | hnd n => simp only [Mo.cell] at q; rw [nw.keys] at q; simp at q
      | kid n => simp only [Mo.cell] at q; rw [nw.keys] at q; simp at q
      | tsk s => simp only [Mo.cell] at q; split at q <;> cases q; exact hI hφ
      | tsl s =>
        simp only [Mo.cell] at q
        split at q
        · rename_i hs
          cases q
          rw [nw.names] at hs
          have hs' := List.mem_singleton.mp hs
          subst hs'
          rw [nw.rows] at hφ
          have hφ' : o = .lst ((List.replicate 16 (none : Option Nat)).map oV) := hφ
          rcases ho with y | ⟨ob, y⟩
          · rw [y] at hφ'
            have z := HO.lst.inj hφ'
            cases ns with
            | nil => exact absurd (congrArg List.length z) (by decide)
            | cons n r => exact absurd (congrArg (fun l => l.head?) z) (by intro w; cases w)
          · rw [y] at hφ'; cases hφ'
        · cases q
      | thg n => simp only [Mo.cell] at q; rw [nw.nth] at q; simp at q
      | sub n => simp only [Mo.cell] at q; rw [nw.nth] at q; simp at q
  rcases h with (e | ⟨ob, e⟩) | h
  · exact .inl ⟨_, e, Pl.nt (o := .lst _) trivial, ft _ (.inl rfl) e, fun H' e' => .inl (.inl e')⟩
  · exact .inl ⟨_, e, (fun ps z => by cases z), ft _ (.inr ⟨ob, rfl⟩) e, fun H' e' => .inl (.inr ⟨ob, e'⟩)⟩
  · exact .inr fun H' => .inr h
theorem free_at {m : Mo} {s : Str} {j i : Nat} {L : List (Option Nat)} (hf : freeAt m s j) (hL : (m.task s).rows = L) (hi : L[i]? = some none) (hlt : ∀ k, k < i → L[k]? ≠ some none) : j = i := by
  obtain ⟨h1, h2⟩ := hf
  rw [hL] at h1
  rcases Nat.lt_trichotomy j i with h | h | h
  · exact absurd h1 (hlt j h)
  · exact h
  · exact absurd (by rw [hL]; exact hi) (h2 i h)
theorem newT_task {m : Mo} {th : Th} {t : Str} {x b hx kx : Addr} {j : Nat} {s : Str} : ((m.newT th t x b hx kx j).task s) = if s = t then { m.task t with rows := (m.task t).rows.set j (some m.ever) } else m.task s := by
  unfold Mo.newT
  rw [setRows_task]
  rfl
/-- the first three things -/
structure Fst (m : Mo) (ns : List Str) (n : Nat) (L : List (Option Nat)) : Prop where
  names : m.names = ns
  ever : m.ever = n
  nth : m.nth = n
  rows : (m.task rootN).rows = L
  aa : ("aa" : Str) ∈ ns → RunT m "aa" ∧ (m.task "aa").rows = List.replicate 16 none
theorem Fst.newT {m : Mo} {ns : List Str} {n i j : Nat} {L : List (Option Nat)} {th : Th} {x b hx kx : Addr} (h : Fst m ns n L) (hf : freeAt m rootN j) (hi : L[i]? = some none) (hlt : ∀ k, k < i → L[k]? ≠ some none) : Fst (m.newT th rootN x b hx kx j) ns (n + 1) (L.set i (some n)) := by
  have e := free_at hf h.rows hi hlt
  refine ⟨h.names, ?_, ?_, ?_, fun ha => ?_⟩
  · show m.ever + 1 = n + 1
    rw [h.ever]
  · show m.nth + 1 = n + 1
    rw [h.nth]
  · rw [newT_task, if_pos rfl]
    show (m.task rootN).rows.set j (some m.ever) = _
    rw [h.rows, e, h.ever]
  · obtain ⟨h1, h2⟩ := h.aa ha
    have e2 : ((m.newT th rootN x b hx kx j).task "aa") = m.task "aa" := by rw [newT_task, if_neg (by decide)]
    exact ⟨⟨h1.1, by rw [e2]; exact h1.2⟩, by rw [e2]; exact h2⟩
theorem Fst.add {m : Mo} {ns : List Str} {n : Nat} {L : List (Option Nat)} {nm mk : Str} {x sa : Addr} (h : Fst m ns n L) (hn : nm ≠ rootN) : Fst (m.addTask nm mk x sa) (ns ++ [nm]) n L := by
  refine ⟨?_, h.ever, h.nth, ?_, fun ha => ?_⟩
  · show m.names ++ [nm] = _
    rw [h.names]
  · show (if rootN = nm then (⟨mk, true, List.replicate 16 none⟩ : Tk) else m.task rootN).rows = L
    rw [if_neg hn.symm]; exact h.rows
  · by_cases e : nm = "aa"
    · subst e
      have e2 : (m.addTask "aa" mk x sa).task "aa" = ⟨mk, true, List.replicate 16 none⟩ := by simp [Mo.addTask]
      exact ⟨⟨List.mem_append_right _ (List.mem_singleton.mpr rfl), by rw [e2]⟩, by rw [e2]⟩
    · have e2 : (m.addTask nm mk x sa).task "aa" = m.task "aa" := if_neg (fun z => e z.symm)
      obtain ⟨h1, h2⟩ := h.aa (by
        rcases List.mem_append.mp ha with h | h
        · exact h
        · exact absurd (List.mem_singleton.mp h).symm e)
      exact ⟨⟨List.mem_append_left _ h1.1, by rw [e2]; exact h1.2⟩, by rw [e2]; exact h2⟩
theorem Fst.start {m : Mo} {ns : List Str} {n i j : Nat} {L : List (Option Nat)} {nm : Str} {x sa x2 b hx kx : Addr} (h : Fst m ns n L) (hn : nm ≠ rootN) (hf : freeAt m rootN j) (hi : L[i]? = some none) (hlt : ∀ k, k < i → L[k]? ≠ some none) :
    Fst ((m.addTask nm rootN x sa).newT (.post nm true) rootN x2 b hx kx j) (ns ++ [nm]) (n + 1) (L.set i (some n)) := by
  refine (h.add hn).newT ?_ hi hlt
  have e : (m.addTask nm rootN x sa).task rootN = m.task rootN := if_neg hn.symm
  unfold freeAt
  rw [e]
  exact hf
section
variable {P : Program} {w : World} {K : PySem.W.Frag} {mg : Str → Option Value} {base : Heap} (G : Gx K mg base)
include G
def sp_lkernel (K : PySem.W.Frag) : Sp := fun vs H Q E => ∃ a, ∃ sc : List Int, vs = [.ref a] ∧ SqL K H a (sc.map V.int) ∧ (∀ H' tg' m', Kn K H' tg' m' → StL K H' tg' a (sc.map V.int) → (∀ T, TbN T H → TbN T H') → m'.ever ≤ 200 → m'.names.length ≤ 50 → 3 ≤ m'.nth → Q (.ref m'.k) H')
omit G in
theorem sc_l_kernel : FnScope ["_law_script", "_law_kernel_here"] ["_law_script"] (defScope s_l_kernel) := ⟨rfl, rfl, rfl, by decide +kernel, rfl, by decide +kernel, by decide +kernel⟩
theorem ok_l_kernel : FnR P w K mg base (L2.CX P w) 57 (He.ga K "_law_kernel") (sp_lkernel K) := by
  refine mkF (k := 56) G.f_l_kernel sc_l_kernel (fun _ _ _ _ _ _ us hl => match us, hl with | [_], _ => rfl) (fun vs H Q E h => by repeat (first | (obtain ⟨e, _⟩ := h; cases e; rfl; done) | obtain ⟨_, h⟩ := h)) (fun cdv A outer s H vs Q E hr h => ?_)
  have S := sc_l_kernel
  obtain ⟨a, sc, rfl, hsc, k⟩ := h
  refine ⟨_, (pss_cons (ps_set (i := 1) S.nd rfl (by first | exact Or.inl rfl | exact Or.inr rfl) (pe_f (ok_begun G) (hr.mono (by omega)) rfl G.g_begun (kp_of G.f_begun) tkd (pa_cons pe_str pa_nil)))
      (pss_cons (ps_expr (pe_f (ok_start G) (hr.mono (by omega)) rfl G.g_start (kp_of G.f_start) tkd (pa_cons (pv 1) (pa_cons pe_str (pa_cons pe_str pa_nil)))))
      (pss_cons (ps_expr (pe_f (ok_start G) (hr.mono (by omega)) rfl G.g_start (kp_of G.f_start) tkd (pa_cons (pv 1) (pa_cons pe_str (pa_cons pe_str pa_nil)))))
      (pss_cons (ps_expr (pe_f (ok_make G) (hr.mono (by omega)) rfl G.g_make (kp_of G.f_make) tkd (pa_cons (pv 1) (pa_cons pe_str (pa_cons pe_str pa_nil)))))
      (pss_cons (ps_expr (pe_f (ok_hand_4 G) (hr.mono (by omega)) rfl G.g_hand (kp_of G.f_hand) tkd (pa_cons (pv 1) (pa_cons pe_str (pa_cons pe_int (pa_cons pe_str pa_nil))))))
      (pss_cons (ps_expr (pe_f (ok_l_done G) (hr.mono (by omega)) rfl G.g_l_done (kp_of G.f_l_done) tkd (pa_cons (pv 1) (pa_cons (pe_tup pa_nil) (pa_cons (pe_f (ok_l_cell_at G) (hr.mono (by omega)) rfl G.g_l_cell_at (kp_of G.f_l_cell_at) tkd (pa_cons (pv 0) (pa_cons pe_int pa_nil))) (pa_cons pe_int (pa_cons (pe_op op_add pe_int (pe_op op_mod (pe_f (ok_l_cell_at G) (hr.mono (by omega)) rfl G.g_l_cell_at (kp_of G.f_l_cell_at) tkd (pa_cons (pv 0) (pa_cons pe_int pa_nil))) pe_int)) pa_nil)))))))
      (pss_cons (ps_if (pt_cmpR op_eq (pe_op op_mod (pe_f (ok_l_cell_at G) (hr.mono (by omega)) rfl G.g_l_cell_at (kp_of G.f_l_cell_at) tkd (pa_cons (pv 0) (pa_cons pe_int pa_nil))) pe_int) pe_int (nomark _)) (pss_one (ps_expr (pe_f (ok_l_planted G) (hr.mono (by omega)) rfl G.g_l_planted (kp_of G.f_l_planted) tkd (pa_cons (pv 1) (pa_cons (pe_op op_fdiv (pe_f (ok_l_cell_at G) (hr.mono (by omega)) rfl G.g_l_cell_at (kp_of G.f_l_cell_at) tkd (pa_cons (pv 0) (pa_cons pe_int pa_nil))) pe_int) pa_nil))))) pss_nil)
      (pss_one (ps_ret (pv 1)))))))))), ?_⟩
  walk_at "w"
  refine fun H1 tg0 m0 a0 K0 nw => ?_
  have F0 : Fst m0 [rootN] 0 (List.replicate 16 none) := ⟨nw.names, nw.ever, nw.nth, nw.rows, fun h => absurd h (by decide)⟩
  have S0 : StL K H1 (Pk.cln K m0 tg0) a (sc.map V.int) := StL.new K0.r nw (sqL_al hsc a0)
  have K0 : Kn K H1 (Pk.cln K m0 tg0) m0 := K0.cln
  generalize Pk.cln K m0 tg0 = tg0 at *
  walk_at "w"
  have ok0 : StOk m0 rootN "aa" := ⟨K0.w.root, by decide +kernel, by rw [F0.names]; decide, by rw [F0.rows]; decide, by rw [F0.nth]; decide, by have := K0.w.run; unfold runL; exact Nat.lt_of_le_of_lt (List.length_filter_le _ _) (by rw [F0.names]; decide)⟩
  refine ⟨tg0, m0, rootN, "aa", rfl, K0, by rw [F0.ever]; decide, by rw [F0.names]; decide, by decide, by decide, by decide, by decide, fun h => absurd ok0 h, fun _ H2 tg2 x2 sa2 y2 b2 hx2 kx2 j2 hj2 st2 K2 => ?_⟩
  have F1 := F0.start (nm := "aa") (x := x2) (sa := sa2) (x2 := y2) (b := b2) (hx := hx2) (kx := kx2) (i := 0) (by decide) hj2 (by decide) (fun k hk => absurd hk (by omega))
  have k1 : ((m0.addTask "aa" rootN x2 sa2).newT (.post "aa" true) rootN y2 b2 hx2 kx2 j2).k = m0.k := rfl
  generalize (m0.addTask "aa" rootN x2 sa2).newT (.post "aa" true) rootN y2 b2 hx2 kx2 j2 = m1 at *
  have L1 : (List.replicate 16 (none : Option Nat)).set 0 (some 0) = some 0 :: List.replicate 15 none := rfl
  rw [L1] at F1
  walk_at "w"
  have ok1 : StOk m1 rootN "ab" := ⟨K2.w.root, by decide +kernel, by rw [F1.names]; decide, by rw [F1.rows]; decide, by rw [F1.nth]; decide, by unfold runL; exact Nat.lt_of_le_of_lt (List.length_filter_le _ _) (by rw [F1.names]; decide)⟩
  refine ⟨tg2, m1, rootN, "ab", by rw [k1]; rfl, K2, by rw [F1.ever]; decide, by rw [F1.names]; decide, by decide, by decide, by decide, by decide, fun h => absurd ok1 h, fun _ H3 tg3 x3 sa3 y3 b3 hx3 kx3 j3 hj3 st3 K3 => ?_⟩
  have F2 := F1.start (nm := "ab") (x := x3) (sa := sa3) (x2 := y3) (b := b3) (hx := hx3) (kx := kx3) (i := 1) (by decide) hj3 (by decide) (by decide)
  have k2 : ((m1.addTask "ab" rootN x3 sa3).newT (.post "ab" true) rootN y3 b3 hx3 kx3 j3).k = m0.k := k1
  generalize (m1.addTask "ab" rootN x3 sa3).newT (.post "ab" true) rootN y3 b3 hx3 kx3 j3 = m2 at *
  walk_at "w"
  have ok2 : MkOk m2 rootN := ⟨K3.w.root, by rw [F2.rows]; decide, by rw [F2.nth]; decide⟩
  refine ⟨tg3, m2, rootN, "door", by rw [k2]; rfl, K3, by rw [F2.ever]; decide, .inr (.inr rfl), fun h => absurd ok2 h, fun _ H4 tg4 x4 b4 hx4 kx4 j4 hj4 st4 K4 => ?_⟩
  have F3 := F2.newT (th := thOf "door") (x := x4) (b := b4) (hx := hx4) (kx := kx4) (i := 2) hj4 (by decide) (by decide)
  have hr4 : (m2.newT (thOf "door") rootN x4 b4 hx4 kx4 j4).row m2.ever = ⟨m2.nth, fitsN (thOf "door") ||| 32, none, rootN⟩ := nput_at
  have hd4 : (m2.newT (thOf "door") rootN x4 b4 hx4 kx4 j4).dep m2.ever = 1 := nput_at
  have hk4 : m2.ever ∈ (m2.newT (thOf "door") rootN x4 b4 hx4 kx4 j4).keys := by
    show m2.ever ∈ m2.keys ++ [m2.ever]
    simp
  rw [F2.ever] at hr4 hd4 hk4
  have k4 : (m2.newT (thOf "door") rootN x4 b4 hx4 kx4 j4).k = m0.k := k2
  generalize m2.newT (thOf "door") rootN x4 b4 hx4 kx4 j4 = m3 at *
  have hrt : (m3.row 2).rights = 45 := by rw [hr4]; rfl
  have hsl : slotAt m3 rootN 2 = some 2 := by
    unfold slotAt
    rw [if_pos (by decide), F3.rows]
    rfl
  obtain ⟨hqa, hra⟩ := F3.aa (by decide)
  have ok3 : HaOk m3 rootN 2 "aa" .non := ⟨2, K4.w.root, hsl, by rw [hrt]; decide, hqa, by rw [hra]; decide, hk4, by rw [hrt]; decide, by rw [hd4]; decide⟩
  walk_at "w"
  refine ⟨tg4, m3, rootN, 2, "aa", .non, by rw [k4]; rfl, K4, .inl rfl, by rw [F3.ever]; decide, fun h => absurd ok3 h, fun n hq hs h32 okp H5 tg5 x5 kx5 j5 hj5 st5 K5 => ?_⟩
  have K5' : Kn K H5 tg5 (m3.newP n (rgOf .non (m3.row n).rights) "aa" x5 kx5 j5) := K5
  have k5 : (m3.newP n (rgOf .non (m3.row n).rights) "aa" x5 kx5 j5).k = m0.k := k4
  have v5 : (m3.newP n (rgOf .non (m3.row n).rights) "aa" x5 kx5 j5).ever = 4 := by
    show m3.ever + 1 = 4
    rw [F3.ever]
  have n5 : (m3.newP n (rgOf .non (m3.row n).rights) "aa" x5 kx5 j5).names.length = 3 := by
    show m3.names.length = 3
    rw [F3.names]; decide
  have t5 : (m3.newP n (rgOf .non (m3.row n).rights) "aa" x5 kx5 j5).nth = 3 := F3.nth
  have s05 := st2.trans (st3.trans (st4.trans st5))
  generalize m3.newP n (rgOf .non (m3.row n).rights) "aa" x5 kx5 j5 = m5 at *
  have S5 := S0.stp s05
  have tb5 : ∀ T, TbN T H → TbN T H5 := fun T h => s05.tabs T (a0.tabs T h)
  clear K5 st2 st3 st4 st5 s05 S0 K0 K2 K3 K4 F0 F1 F2 F3 hr4 hd4 hk4 hj2 hj3 hj4 hj5 hra hqa ok0 ok1 ok2 ok3 hsl hrt okp h32 hs hq
  walk_at "w"
  refine ⟨by show (0 : Nat) ≤ sizeLine; rw [sizeLine_eq]; decide, fun p hp => ?_⟩
  have ap := Al.new (o := .tup []) hp
  have ep : (L2.upd H5 p (.tup [])) p = some (.tup []) := upd_same
  have K6 : Kn K (L2.upd H5 p (.tup [])) (Pk.cln K m5 tg5) m5 := (K5'.cln).al ap
  have S6 := S5.stp ((Stp.al (tg := tg5) ap).cln (K := K) (m := m5))
  have tp : Pk.cln K m5 tg5 p = none := cln_free (K5'.r.fresh hp)
  have tb6 : ∀ T, TbN T H → TbN T (L2.upd H5 p (.tup [])) := fun T h => ap.tabs T (tb5 T h)
  generalize L2.upd H5 p (.tup []) = H6 at *
  generalize Pk.cln K m5 tg5 = tg6 at *
  clear S5 K5' tb5 hp ap
  walk_at "w"
  refine ⟨a, 0, sc, rfl, S6.sq, fun z0 => ?_⟩
  walk_at "w"
  refine ⟨a, 1, sc, rfl, S6.sq, fun z1 => ?_⟩
  walk_at "w"
  refine ⟨by show (0 : Int) < 19; decide, ?_⟩
  walk_at "w"
  obtain ⟨nd, hnd, hnd2⟩ : ∃ nd : Nat, 6 + z1 % 19 = (nd : Int) ∧ nd ≤ 24 := ⟨(6 + z1 % 19).toNat, by omega, by omega⟩
  have st : StS K H6 tg6 p (([] : List Str).map V.str) := .inl ⟨_, ep, Pl.nt (o := .tup _) trivial, tp, fun H' e => .inr (sqT_at e)⟩
  refine ⟨tg6, m5, p, [], z0, 0, nd, ?_, K6, st, by omega, by omega, by omega, fun H7 tg7 m7 st7 K7 r7 _ => ?_⟩
  · show [V.ref m0.k, V.ref p, V.int z0, V.int 0, V.int (6 + z1 % 19)] = _
    rw [hnd, k5]
    rfl
  have S7 := S6.stp st7
  have k7 := r7.k
  have v7 := r7.ev
  have n7 := r7.nl
  have t7 := r7.nth
  have tb7 : ∀ T, TbN T H → TbN T H7 := fun T h => st7.tabs T (tb6 T h)
  walk_at "w"
  refine ⟨a, 10, sc, rfl, S7.sq, fun z10 => ?_⟩
  walk_at "w"
  refine ⟨by show (0 : Int) < 3; decide, ?_⟩
  by_cases h1 : z10 % 3 = 1
  · walk_at "w"
    refine ⟨a, 10, sc, rfl, S7.sq, fun zz => ?_⟩
    walk_at "w"
    refine ⟨⟨by decide, by decide⟩, ?_⟩
    walk_at "w"
    refine ⟨tg7, m7, _, by rw [k7, k5], K7, by omega, fun H8 tg8 m8 v8 st8 K8 r8 => ?_⟩
    have k8 := r8.k
    have e8 := r8.ev
    have n8 := r8.nl
    have t8 := r8.nth
    walk_at "w"
    have kk := k H8 tg8 m8 K8 (S7.stp st8) (fun T h => st8.tabs T (tb7 T h)) (by omega) (by omega) (by omega)
    rw [k8, k7, k5] at kk
    exact kk
  · have h1' : ¬ V.int (z10 % 3) = V.int 1 := fun z => h1 (V.int.inj z)
    walk_at "w"
    have kk := k H7 tg7 m7 K7 S7 tb7 (by omega) (by omega) (by omega)
    rw [k7, k5] at kk
    exact kk
end
end Pk
end
/-! PkF40 -/
section
set_option maxHeartbeats 8000000
namespace Pk
open PySem PySem.Spec PyProof.Rows L2
local macro_rules | `(tactic| walk_at "c") => `(tactic| first | assumption | omega | exact rfl | (intro z; cases z; done) | (simp only [nV, V.int.injEq, V.str.injEq]; first | assumption | omega))
local macro_rules | `(tactic| walk_at "fld") => `(tactic| first
  | assumption
  | exact fld_k_tasks (by assumption) (by assumption) | exact fld_k_tree (by assumption) (by assumption) | exact fld_k_things (by assumption) (by assumption) | exact fld_ta_known (by assumption) (by assumption)
  | exact fld_t_rows (by assumption) (by assumption) (by assumption) | exact fld_t_run1 (by assumption) (by assumption) (by assumption) (by assumption) | exact fld_t_runs (by assumption) (by assumption) (by assumption) | exact fld_t_maker (by assumption) (by assumption) (by assumption) | exact fld_tr_rows (by assumption) (by assumption) | exact fld_tr_rb (by assumption) (by assumption) | exact fld_tr_ever (by assumption) (by assumption)
  | exact fld_h_number (by assumption) (by assumption) | exact fld_h_thing (by assumption) (by assumption) | exact fld_h_rights (by assumption) (by assumption) | exact fld_h_giver (by assumption) (by assumption) | exact fld_h_holder (by assumption) (by assumption))
local macro_rules | `(tactic| walk_at "get") => `(tactic| first
  | assumption
  | exact get_kn1 (by assumption) (by assumption) | exact get_kn0 (by assumption) (by assumption) | exact get_rw1 (by assumption) (by assumption) | exact get_rw0 (by assumption) (by assumption)
  | exact get_rb1 (by assumption) (by assumption) | exact get_rb0 (by assumption) (by assumption) | exact get_th1 (by assumption) (by assumption) | exact get_th0 (by assumption) (by assumption))
local macro_rules | `(tactic| walk_at "ins") => `(tactic| first | exact insTa (by assumption) rfl | exact insTr (by assumption) rfl)
local macro_rules | `(tactic| walk_at "s") => `(tactic| first
  | refine ⟨_, rfl, ?_⟩
  | refine ⟨rfl, ?_⟩
  | refine zI fun _ => ?_
  | with_reducible refine iteF ?_ | with_reducible refine iteT ?_
  | ((with_reducible refine iteDy ?_ ?_); focus (walk_at "c"; done)) | ((with_reducible refine iteDn ?_ ?_); focus (walk_at "c"; done)) | ((with_reducible refine iteNy ?_ ?_); focus (walk_at "c"; done)) | ((with_reducible refine iteNn ?_ ?_); focus (walk_at "c"; done))
  | refine fldI (by walk_at "fld") ?_
  | refine getI (by walk_at "get") ?_ | refine getS (by walk_at "get") ?_
  | refine ⟨by walk_at "ins", ?_⟩
  | refine ⟨_, _, _, _, true, rfl, .ty _, .base (.str _), kit_ty (by decide +kernel), ?_⟩
  | refine ⟨_, _, _, _, true, rfl, .ty _, .base (.int _), kit_ty (by decide +kernel), ?_⟩
  | refine ⟨_, _, _, _, false, rfl, .ty _, .base (.int _), kit_ty (by decide +kernel), ?_⟩
  | refine ⟨_, _, rfl, rfl, ?_⟩
  | refine ⟨_, _, rfl, rfl, trivial, ?_⟩)
local macro_rules | `(tactic| walk_at "w") => `(tactic| repeat (walk_at "s"))
section
variable {P : Program} {w : World} {K : PySem.W.Frag} {mg : Str → Option Value} {base : Heap} (G : Gx K mg base)
include G
/-- a list or a tuple just made -/
def LT (H : Hp) (p : Addr) (xs : List V) : Prop := H p = some (.lst xs) ∨ H p = some (.tup xs)
def sp_lstill (K : PySem.W.Frag) : Sp := fun vs H Q E => ∃ tg m, ∃ d : Int, vs = [.ref m.k, .int d] ∧ Kn K H tg m ∧ d % 7 = 0 ∧ (∀ (H' : Hp) (p : Addr) (S : List Str), Al H H' → (∀ o, nt o → H p ≠ some o) → LT H' p (S.map V.str) → (∀ s, s ∈ S → RunT m s) → S.length ≤ 200 → Q (.ref p) H')
omit G in
theorem sc_l_still : FnScope ["_law_kernel_here", "_law_cell", "_law_names_here", "_law_found", "_law_k"] ["_law_kernel_here", "_law_cell"] (defScope s_l_still) := ⟨rfl, rfl, rfl, by decide +kernel, rfl, by decide +kernel, by decide +kernel⟩
theorem ok_l_still : FnR P w K mg base (L2.CX P w) 2 (He.ga K "_law_still") (sp_lstill K) := by
  refine mkF (k := 1) G.f_l_still sc_l_still (fun _ _ _ _ _ _ us hl => match us, hl with | [_, _], _ => rfl) (fun vs H Q E h => by repeat (first | (obtain ⟨e, _⟩ := h; cases e; rfl; done) | obtain ⟨_, h⟩ := h)) (fun cdv A outer s H vs Q E hr h => ?_)
  have S := sc_l_still
  obtain ⟨tg, m, d, rfl, KN, hd, k⟩ := h
  have R := KN.r
  refine ⟨_, (pss_cons (ps_set (i := 2) S.nd rfl (by first | exact Or.inl rfl | exact Or.inr rfl) (pe_m0 (ok_Tasks_running G) (hr.mono (by omega)) G.cl_Tasks G.m_Tasks_running tkd (pe_fd (pv 0))))
      (pss_cons (by exact (ps_setLcz (i := 3) (own := [("_law_k", 4)]) rfl S.nd rfl rfl (sw_true rfl rfl rfl (by decide +kernel)) (pi_range1 rfl G.b_range (pa_cons (pe_callB call_len (by rfl) G.b_len PySem.boot_len (pa_cons (pv 2) pa_nil)) pa_nil)) (blkOk_by (own := [("_law_k", 4)]) (N := ["_law_kernel_here", "_law_cell", "_law_names_here", "_law_found", "_law_k"]) (sc := defScope s_l_still) (by decide +kernel)) (fun _ => (pg_name (i := 4) S.nd rfl (by first | exact Or.inl rfl | exact Or.inr rfl))) (fun _ => (pts_one (pt_cmpR op_eq (pe_op op_mod (pe_f (ok_l_drawn G) (hr.mono (by omega)) rfl G.g_l_drawn (kp_of G.f_l_drawn) takes0 (pa_cons (pe_op op_fdiv (pv 1) pe_int) (pa_cons (pv 4) (pa_cons pe_int pa_nil)))) pe_int) pe_int (nomark _)))) (fun _ => (pe_ix ix_list (pv 2) (pv 4) (fun _ _ => rfl)))))
      (pss_cons (ps_if (pt_cmpR op_eq (pe_op op_mod (pv 1) pe_int) pe_int (nomark _)) (pss_one (ps_expr (pe_bm PySem.F.plainAttrs_list PySem.F.slot_list_insert PySem.F.type_list_insert mt_insert (pv 3) (pa_cons (pe_op op_mod (pe_op op_fdiv (pv 1) pe_int) (pe_op op_add (pe_callB call_len (by rfl) G.b_len PySem.boot_len (pa_cons (pv 3) pa_nil)) pe_int)) (pa_cons (pe_ix ix_list (pe_lst (pa_cons pe_str (pa_cons pe_str (pa_cons pe_non (pa_cons pe_int (pa_cons (pe_op op_add_str (pe_ix ix_list (pv 2) pe_int (fun _ _ => rfl)) pe_str) (pa_cons (pe_lst (pa_cons pe_str pa_nil)) pa_nil))))))) (pe_op op_mod (pe_op op_fdiv (pv 1) pe_int) pe_int) (fun _ _ => rfl)) pa_nil))))) pss_nil)
      (pss_cons (ps_if (pt_cmpR op_eq (pe_op op_mod (pv 1) pe_int) pe_int (nomark _)) (pss_one (ps_set (i := 3) S.nd rfl (by first | exact Or.inl rfl | exact Or.inr rfl) (pe_op op_cat (pv 3) (pe_slice sl_list (pv 3) po_none (po_some pe_int))))) pss_nil)
      (pss_one (ps_ret (pe_ix ix_list (pe_lst (pa_cons (pv 3) (pa_cons (pe_callTy call_tuple_of (by rfl) G.b_tuple (by decide +kernel) (pa_cons (pv 3) pa_nil)) pa_nil))) (pe_op op_mod (pe_op op_fdiv (pv 1) pe_int) pe_int) (fun _ _ => rfl)))))))), ?_⟩
  walk_at "w"
  refine ⟨tg, m, rfl, R, KN.w.bd, KN.kn, fun H1 p1 a1 e1 => ?_⟩
  have hl1 := runL_len KN.w.bd
  walk_at "w"
  refine ⟨_, _, rfl, .inl ⟨_, sqL_at e1, rfl⟩, ?_⟩
  refine ⟨_, rfl, by omega, by rw [List.length_map]; omega, ?_⟩
  have hln : ((((runL m).map V.str).length : Nat) : Int).toNat = (runL m).length := by rw [List.length_map]; rfl
  rw [hln]
  refine lcM2 walk_range (fun D i acc H' => Al H1 H' ∧ ∃ S : List Str, acc = S.map V.str ∧ ∀ s, s ∈ S → RunT m s) (by rw [sizeLine_eq]; omega) (fun D hD => ⟨Al.new hD, [], rfl, fun s h => by cases h⟩) (fun _ _ _ _ _ => trivial) (fun D i acc x H' H'' hD hi ⟨al, S, eS, hS⟩ eD y N1 N2 hN hN2 => ?_) (fun D acc H' hD ⟨al, S, eS, hS⟩ eD hlen => ?_)
  · obtain ⟨rfl, rfl⟩ := y
    walk_at "w"
    refine ⟨⟨by decide, by decide⟩, ?_⟩
    walk_at "w"
    refine ⟨d / 7, 0 + (i : Int), 2, rfl, by omega, by omega, by decide, by decide, fun H3 dd a3 hdd => ?_⟩
    walk_at "w"
    refine ⟨by show (0 : Int) < 3; decide, ?_⟩
    have hs : (runL m)[i]? = some (runL m)[i] := List.getElem?_eq_getElem hi
    by_cases h1 : (dd : Int) % 3 = 1
    · walk_at "w"
      refine ⟨p1, _, 0 + (i : Int), .str (runL m)[i], rfl, rfl, sqL_at ((al.trans a3).lst e1), by rw [Int.zero_add]; exact atI_nat (by rw [List.getElem?_map, hs]; rfl), ?_⟩
      exact hN _ H3 (a3.lst eD) ⟨(al.trans a3).set hD (a3.lst eD) trivial, S ++ [(runL m)[i]], by rw [eS, List.map_append]; rfl, fun s hs' => by
        rcases List.mem_append.mp hs' with h | h
        · exact hS s h
        · rw [List.mem_singleton.mp h]; exact runL_run.mp (List.getElem_mem hi)⟩
    · have h1' : ¬ V.int ((dd : Int) % 3) = V.int 1 := fun z => h1 (V.int.inj z)
      walk_at "w"
      exact hN2 H3 (a3.lst eD) ⟨al.trans a3, S, eS, hS⟩
  · have a2 := a1.trans al
    have hSl : S.length ≤ 200 := by rw [eS, List.length_map] at hlen; omega
    rw [eS] at eD
    have hD0 := a1.free hD
    walk_at "w"
    refine ⟨by show (0 : Int) < 7; decide, ?_⟩
    have h1' : ¬ V.int (d % 7) = V.int 1 := fun z => by have := V.int.inj z; omega
    have h2' : ¬ V.int (d % 7) = V.int 2 := fun z => by have := V.int.inj z; omega
    walk_at "w"
    refine ⟨by show (0 : Int) < 7; decide, ?_⟩
    walk_at "w"
    refine ⟨_, _, rfl, .inl ⟨sqL_at eD, fun T hT => ?_⟩⟩
    have aT := Al.new (o := .tup (S.map V.str)) hT
    have eT : (L2.upd H' T (.tup (S.map V.str))) T = some (.tup (S.map V.str)) := upd_same
    generalize L2.upd H' T (.tup (S.map V.str)) = H3 at *
    walk_at "w"
    refine ⟨by show (2 : Nat) ≤ sizeLine; rw [sizeLine_eq]; decide, fun p hp => ?_⟩
    have a4 := Al.new (o := .lst [V.ref D, V.ref T]) hp
    have e4 : (L2.upd H3 p (.lst [V.ref D, V.ref T])) p = some (.lst [V.ref D, V.ref T]) := upd_same
    generalize L2.upd H3 p (.lst [V.ref D, V.ref T]) = H4 at *
    walk_at "w"
    refine ⟨⟨by decide, by decide⟩, ?_⟩
    walk_at "w"
    refine ⟨by show (0 : Int) < 2; decide, ?_⟩
    obtain ⟨v, hv, ev⟩ := pick (xs := [V.ref D, V.ref T]) (i := d / 13 % 2) (by omega) (by show d / 13 % 2 < 2; omega)
    refine ⟨p, _, _, v, rfl, rfl, sqL_at e4, ev, ?_⟩
    simp only [List.mem_cons, List.not_mem_nil, or_false] at hv
    rcases hv with rfl | rfl
    · exact k H4 D S (a2.trans (aT.trans a4)) hD0 (.inl ((aT.trans a4).lst eD)) hS hSl
    · exact k H4 T S (a2.trans (aT.trans a4)) (a2.free hT) (.inr (a4.tup eT)) hS hSl
end
end Pk
end
/-! PkF42 -/
section
set_option maxHeartbeats 8000000
namespace Pk
open PySem PySem.Spec PyProof.Rows L2
local macro_rules | `(tactic| walk_at "c") => `(tactic| first | assumption | omega | exact rfl | (intro z; cases z; done) | (simp only [nV, V.int.injEq, V.str.injEq]; first | assumption | omega))
local macro_rules | `(tactic| walk_at "fld") => `(tactic| first
  | assumption
  | exact fld_k_tasks (by assumption) (by assumption) | exact fld_k_tree (by assumption) (by assumption) | exact fld_k_things (by assumption) (by assumption) | exact fld_ta_known (by assumption) (by assumption)
  | exact fld_t_rows (by assumption) (by assumption) (by assumption) | exact fld_t_run1 (by assumption) (by assumption) (by assumption) (by assumption) | exact fld_t_runs (by assumption) (by assumption) (by assumption) | exact fld_t_maker (by assumption) (by assumption) (by assumption) | exact fld_tr_rows (by assumption) (by assumption) | exact fld_tr_rb (by assumption) (by assumption) | exact fld_tr_ever (by assumption) (by assumption)
  | exact fld_h_number (by assumption) (by assumption) | exact fld_h_thing (by assumption) (by assumption) | exact fld_h_rights (by assumption) (by assumption) | exact fld_h_giver (by assumption) (by assumption) | exact fld_h_holder (by assumption) (by assumption))
local macro_rules | `(tactic| walk_at "get") => `(tactic| first
  | assumption
  | exact get_kn1 (by assumption) (by assumption) | exact get_kn0 (by assumption) (by assumption) | exact get_rw1 (by assumption) (by assumption) | exact get_rw0 (by assumption) (by assumption)
  | exact get_rb1 (by assumption) (by assumption) | exact get_rb0 (by assumption) (by assumption) | exact get_th1 (by assumption) (by assumption) | exact get_th0 (by assumption) (by assumption))
local macro_rules | `(tactic| walk_at "ins") => `(tactic| first | exact insTa (by assumption) rfl | exact insTr (by assumption) rfl)
local macro_rules | `(tactic| walk_at "s") => `(tactic| first
  | refine ⟨_, rfl, ?_⟩
  | refine ⟨rfl, ?_⟩
  | refine zI fun _ => ?_
  | with_reducible refine iteF ?_ | with_reducible refine iteT ?_
  | ((with_reducible refine iteDy ?_ ?_); focus (walk_at "c"; done)) | ((with_reducible refine iteDn ?_ ?_); focus (walk_at "c"; done)) | ((with_reducible refine iteNy ?_ ?_); focus (walk_at "c"; done)) | ((with_reducible refine iteNn ?_ ?_); focus (walk_at "c"; done))
  | refine fldI (by walk_at "fld") ?_
  | refine getI (by walk_at "get") ?_ | refine getS (by walk_at "get") ?_
  | refine ⟨by walk_at "ins", ?_⟩
  | refine ⟨_, _, _, _, true, rfl, .ty _, .base (.str _), kit_ty (by decide +kernel), ?_⟩
  | refine ⟨_, _, _, _, true, rfl, .ty _, .base (.int _), kit_ty (by decide +kernel), ?_⟩
  | refine ⟨_, _, _, _, false, rfl, .ty _, .base (.int _), kit_ty (by decide +kernel), ?_⟩
  | refine ⟨_, _, rfl, rfl, ?_⟩
  | refine ⟨_, _, rfl, rfl, trivial, ?_⟩)
local macro_rules | `(tactic| walk_at "w") => `(tactic| repeat (walk_at "s"))
/-- a pair asked: name, thing, what it could -/
structure Pq where
  nm : Str
  th : Nat
  mo : Nat
def PqR (H : Hp) (p : Pq) (v : V) : Prop := ∃ T, v = .ref T ∧ H T = some (.tup [.str p.nm, nV p.th, nV p.mo])
theorem PqR.al {H H' : Hp} {p : Pq} {v : V} (h : PqR H p v) (a : Al H H') : PqR H' p v := let ⟨T, e, q⟩ := h; ⟨T, e, a.tup q⟩
section
variable {P : Program} {w : World} {K : PySem.W.Frag} {mg : Str → Option Value} {base : Heap} (G : Gx K mg base)
include G
def sp_lwithin (K : PySem.W.Frag) : Sp := fun vs H Q E => ∃ tg m a us ps, vs = [.ref m.k, .ref a] ∧ Kn K H tg m ∧ H a = some (.lst us) ∧ Ali (PqR H) ps us ∧ TbN (T0 K) H ∧ (∀ p, p ∈ ps → p.th < m.nth ∧ (RunT m p.nm → look (own m p.nm) p.th &&& p.mo = look (own m p.nm) p.th)) ∧ (∀ H', Al H H' → Q (.bl true) H')
omit G in
theorem sc_l_within : FnScope ["_law_kernel_here", "_law_pairs_here", "_law_running", "_law_name", "_law_thing", "_law_most", "_law_had_here"] ["_law_kernel_here", "_law_pairs_here"] (defScope s_l_within) := ⟨rfl, rfl, rfl, by decide +kernel, rfl, by decide +kernel, by decide +kernel⟩
theorem ok_l_within : FnR P w K mg base (L2.CX P w) 7 (He.ga K "_law_within") (sp_lwithin K) := by
  refine mkF (k := 6) G.f_l_within sc_l_within (fun _ _ _ _ _ _ us hl => match us, hl with | [_, _], _ => rfl) (fun vs H Q E h => by repeat (first | (obtain ⟨e, _⟩ := h; cases e; rfl; done) | obtain ⟨_, h⟩ := h)) (fun cdv A outer s H vs Q E hr h => ?_)
  have S := sc_l_within
  obtain ⟨tg, m, a, us, ps, rfl, KN, ea, hal, hT, hps, k⟩ := h
  have R := KN.r
  refine ⟨_, (pss_cons (ps_set (i := 2) S.nd rfl (by first | exact Or.inl rfl | exact Or.inr rfl) (pe_m0 (ok_Tasks_running G) (hr.mono (by omega)) G.cl_Tasks G.m_Tasks_running tkd (pe_fd (pv 0))))
      (pss_cons (ps_for pod rfl (pi_list (pv 1)) (pg_tup rfl (pgs_cons (pg_name (i := 3) S.nd rfl (by first | exact Or.inl rfl | exact Or.inr rfl)) (pgs_cons (pg_name (i := 4) S.nd rfl (by first | exact Or.inl rfl | exact Or.inr rfl)) (pgs_cons (pg_name (i := 5) S.nd rfl (by first | exact Or.inl rfl | exact Or.inr rfl)) pgs_nil)))) (pss_one (ps_if (pt_cmpR op_in_seq (pv 3) (pv 2) rfl) (pss_cons (ps_set (i := 6) S.nd rfl (by first | exact Or.inl rfl | exact Or.inr rfl) (pe_f (ok_can G) (hr.mono (by omega)) rfl G.g_can (kp_of G.f_can) tkd (pa_cons (pv 0) (pa_cons (pv 3) (pa_cons (pv 4) pa_nil)))))
      (pss_one (ps_if (pt_cmpR op_ne (pe_op op_and (pv 6) (pv 5)) (pv 6) (nomark _)) (pss_one (ps_ret pe_bl)) pss_nil))) pss_nil)))
      (pss_one (ps_ret pe_bl)))), ?_⟩
  walk_at "w"
  refine ⟨tg, m, rfl, R, KN.w.bd, KN.kn, fun H1 p1 a1 e1 => ?_⟩
  walk_at "w"
  refine ⟨⟨_, sqL_at (a1.lst ea)⟩, ?_⟩
  refine for_list (xs := us) (fun i σ H' => (∃ v3 v4 v5 v6, σ = [some (.ref m.k), some (.ref a), some (.ref p1), v3, v4, v5, v6]) ∧ Al H1 H') ?_ ?_ ?_ ?_
  · exact ⟨⟨_, _, _, _, rfl⟩, Al.refl _⟩
  · rintro i σ H' hi ⟨_, al⟩
    exact sqL_at ((a1.trans al).lst ea)
  · rintro i x σ H2 hx ⟨⟨v3, v4, v5, v6, rfl⟩, al⟩
    obtain ⟨p, hp, T, rfl, eT⟩ := hal.get hx
    obtain ⟨hth, hsub⟩ := hps p (List.mem_of_getElem? hp)
    have a2 := a1.trans al
    walk_at "w"
    refine tup3 (sqT_at (a2.tup eT)) rfl ?_
    walk_at "w"
    refine ⟨p1, _, rfl, .inl (sqL_at (al.lst e1)), flat_one, flat_str, ?_⟩
    rw [if_neg (by decide), inV_str]
    by_cases hr : RunT m p.nm
    · rw [decide_eq_true (runL_run.mpr hr)]
      walk_at "w"
      refine ⟨tg, m, p.nm, p.th, rfl, KN.al a2, hr, hth, a2.tabs _ hT, fun H3 a3 => ?_⟩
      walk_at "w"
      have e : Builtin.bitAnd (look (own m p.nm) p.th : Int) (p.mo : Int) = ((look (own m p.nm) p.th &&& p.mo : Nat) : Int) := rfl
      have e2 : V.int (Builtin.bitAnd (look (own m p.nm) p.th : Int) (p.mo : Int)) = nV (look (own m p.nm) p.th) := by rw [e, hsub hr]; rfl
      walk_at "w"
      exact ⟨⟨_, _, _, _, rfl⟩, al.trans a3⟩
    · rw [decide_eq_false (fun h => hr (runL_run.mp h))]
      walk_at "w"
      exact ⟨⟨_, _, _, _, rfl⟩, al⟩
  · rintro σ H2 ⟨⟨v3, v4, v5, v6, rfl⟩, al⟩
    walk_at "w"
    exact k H2 (a1.trans al)
end
end Pk
end
/-! PkF41 -/
section
set_option maxHeartbeats 8000000
namespace Pk
open PySem PySem.Spec PyProof.Rows L2
local macro_rules | `(tactic| walk_at "c") => `(tactic| first | assumption | omega | exact rfl | (intro z; cases z; done) | (simp only [nV, V.int.injEq, V.str.injEq]; first | assumption | omega))
local macro_rules | `(tactic| walk_at "fld") => `(tactic| first
  | assumption
  | exact fld_k_tasks (by assumption) (by assumption) | exact fld_k_tree (by assumption) (by assumption) | exact fld_k_things (by assumption) (by assumption) | exact fld_ta_known (by assumption) (by assumption)
  | exact fld_t_rows (by assumption) (by assumption) (by assumption) | exact fld_t_run1 (by assumption) (by assumption) (by assumption) (by assumption) | exact fld_t_runs (by assumption) (by assumption) (by assumption) | exact fld_t_maker (by assumption) (by assumption) (by assumption) | exact fld_tr_rows (by assumption) (by assumption) | exact fld_tr_rb (by assumption) (by assumption) | exact fld_tr_ever (by assumption) (by assumption)
  | exact fld_h_number (by assumption) (by assumption) | exact fld_h_thing (by assumption) (by assumption) | exact fld_h_rights (by assumption) (by assumption) | exact fld_h_giver (by assumption) (by assumption) | exact fld_h_holder (by assumption) (by assumption))
local macro_rules | `(tactic| walk_at "get") => `(tactic| first
  | assumption
  | exact get_kn1 (by assumption) (by assumption) | exact get_kn0 (by assumption) (by assumption) | exact get_rw1 (by assumption) (by assumption) | exact get_rw0 (by assumption) (by assumption)
  | exact get_rb1 (by assumption) (by assumption) | exact get_rb0 (by assumption) (by assumption) | exact get_th1 (by assumption) (by assumption) | exact get_th0 (by assumption) (by assumption))
local macro_rules | `(tactic| walk_at "ins") => `(tactic| first | exact insTa (by assumption) rfl | exact insTr (by assumption) rfl)
local macro_rules | `(tactic| walk_at "s") => `(tactic| first
  | refine ⟨_, rfl, ?_⟩
  | refine ⟨rfl, ?_⟩
  | refine zI fun _ => ?_
  | with_reducible refine iteF ?_ | with_reducible refine iteT ?_
  | ((with_reducible refine iteDy ?_ ?_); focus (walk_at "c"; done)) | ((with_reducible refine iteDn ?_ ?_); focus (walk_at "c"; done)) | ((with_reducible refine iteNy ?_ ?_); focus (walk_at "c"; done)) | ((with_reducible refine iteNn ?_ ?_); focus (walk_at "c"; done))
  | refine fldI (by walk_at "fld") ?_
  | refine getI (by walk_at "get") ?_ | refine getS (by walk_at "get") ?_
  | refine ⟨by walk_at "ins", ?_⟩
  | refine ⟨_, _, _, _, true, rfl, .ty _, .base (.str _), kit_ty (by decide +kernel), ?_⟩
  | refine ⟨_, _, _, _, true, rfl, .ty _, .base (.int _), kit_ty (by decide +kernel), ?_⟩
  | refine ⟨_, _, _, _, false, rfl, .ty _, .base (.int _), kit_ty (by decide +kernel), ?_⟩
  | refine ⟨_, _, rfl, rfl, ?_⟩
  | refine ⟨_, _, rfl, rfl, trivial, ?_⟩)
local macro_rules | `(tactic| walk_at "w") => `(tactic| repeat (walk_at "s"))
/-- a pair asked of the kernel m with S still -/
def PqOk (m : Mo) (S : List Str) (p : Pq) : Prop := RunT m p.nm ∧ p.th < m.nth ∧ ∃ R, CouldR m S p.nm R ∧ p.mo = look R p.th
/-- a pair's tuple, made since -/
def PqF (H0 H : Hp) (p : Pq) (v : V) : Prop := ∃ T, v = .ref T ∧ H T = some (.tup [.str p.nm, nV p.th, nV p.mo]) ∧ ∀ o, nt o → H0 T ≠ some o
theorem PqF.al {H0 H H' : Hp} {p : Pq} {v : V} (h : PqF H0 H p v) (a : Al H H') : PqF H0 H' p v := let ⟨T, e, q, f⟩ := h; ⟨T, e, a.tup q, f⟩
section
variable {P : Program} {w : World} {K : PySem.W.Frag} {mg : Str → Option Value} {base : Heap} (G : Gx K mg base)
include G
def sp_lpairs (K : PySem.W.Frag) : Sp := fun vs H Q E => ∃ tg m sa S a, ∃ sc : List Int, vs = [.ref m.k, .ref sa, .ref a] ∧ Kn K H tg m ∧ 0 < m.nth ∧ SqA K H sa (S.map V.str) ∧ (∀ s, s ∈ S → RunT m s) ∧ SqL K H a (sc.map V.int) ∧ TbN (T0 K) H ∧
  (∀ H' pf us ps, Al H H' → (∀ o, nt o → H pf ≠ some o) → H' pf = some (.lst us) → Ali (PqF H H') ps us → ps ≠ [] → ps.length ≤ 6 → (∀ p, p ∈ ps → PqOk m S p) → Q (.ref pf) H')
omit G in
theorem sc_l_pairs : FnScope ["_law_kernel_here", "_law_still_here", "_law_script", "_law_names_here", "_law_found", "_law_k", "_law_cell", "_law_name", "_law_thing"] ["_law_kernel_here", "_law_still_here", "_law_script"] (defScope s_l_pairs) := ⟨rfl, rfl, rfl, by decide +kernel, rfl, by decide +kernel, by decide +kernel⟩
theorem ok_l_pairs : FnR P w K mg base (L2.CX P w) 17 (He.ga K "_law_pairs") (sp_lpairs K) := by
  refine mkF (k := 16) G.f_l_pairs sc_l_pairs (fun _ _ _ _ _ _ us hl => match us, hl with | [_, _, _], _ => rfl) (fun vs H Q E h => by repeat (first | (obtain ⟨e, _⟩ := h; cases e; rfl; done) | obtain ⟨_, h⟩ := h)) (fun cdv A outer s H vs Q E hr h => ?_)
  have S := sc_l_pairs
  obtain ⟨tg, m, sa, ss, a, sc, rfl, KN, hth0, hsq, hss, hsc, hT, k⟩ := h
  have R := KN.r
  have hrl : 0 < (runL m).length := List.length_pos_of_mem (runL_run.mpr KN.w.root)
  refine ⟨_, (pss_cons (ps_set (i := 3) S.nd rfl (by first | exact Or.inl rfl | exact Or.inr rfl) (pe_m0 (ok_Tasks_running G) (hr.mono (by omega)) G.cl_Tasks G.m_Tasks_running tkd (pe_fd (pv 0))))
      (pss_cons (ps_set (i := 4) S.nd rfl (by first | exact Or.inl rfl | exact Or.inr rfl) (pe_lst pa_nil))
      (pss_cons (ps_for pod rfl (pi_range1 rfl G.b_range (pa_cons (pe_op op_add pe_int (pe_op op_mod (pe_f (ok_l_cell_at G) (hr.mono (by omega)) rfl G.g_l_cell_at (kp_of G.f_l_cell_at) tkd (pa_cons (pv 2) (pa_cons pe_int pa_nil))) pe_int)) pa_nil)) (pg_name (i := 5) S.nd rfl (by first | exact Or.inl rfl | exact Or.inr rfl)) (pss_cons (ps_set (i := 6) S.nd rfl (by first | exact Or.inl rfl | exact Or.inr rfl) (pe_f (ok_l_drawn G) (hr.mono (by omega)) rfl G.g_l_drawn (kp_of G.f_l_drawn) tkd (pa_cons (pe_f (ok_l_cell_at G) (hr.mono (by omega)) rfl G.g_l_cell_at (kp_of G.f_l_cell_at) tkd (pa_cons (pv 2) (pa_cons pe_int pa_nil))) (pa_cons (pv 5) (pa_cons pe_int pa_nil)))))
      (pss_cons (ps_set (i := 7) S.nd rfl (by first | exact Or.inl rfl | exact Or.inr rfl) (pe_ix ix_list (pv 3) (pe_op op_mod (pv 6) (pe_callB call_len (by rfl) G.b_len PySem.boot_len (pa_cons (pv 3) pa_nil))) (fun _ _ => rfl)))
      (pss_cons (ps_set (i := 8) S.nd rfl (by first | exact Or.inl rfl | exact Or.inr rfl) (pe_op op_mod (pe_f (ok_l_drawn G) (hr.mono (by omega)) rfl G.g_l_drawn (kp_of G.f_l_drawn) tkd (pa_cons (pe_f (ok_l_cell_at G) (hr.mono (by omega)) rfl G.g_l_cell_at (kp_of G.f_l_cell_at) tkd (pa_cons (pv 2) (pa_cons pe_int pa_nil))) (pa_cons (pv 5) (pa_cons pe_int pa_nil)))) (pe_callB call_lenD (by rfl) G.b_len PySem.boot_len (pa_cons (pe_fd (pv 0)) pa_nil))))
      (pss_one (ps_expr (pe_bm PySem.F.plainAttrs_list PySem.F.slot_list_append PySem.F.type_list_append mt_append (pv 4) (pa_cons (pe_tup (pa_cons (pv 7) (pa_cons (pv 8) (pa_cons (pe_f (ok_could_4 G) (hr.mono (by omega)) rfl G.g_could (kp_of G.f_could) tkd (pa_cons (pv 0) (pa_cons (pv 7) (pa_cons (pv 8) (pa_cons (pv 1) pa_nil))))) pa_nil)))) pa_nil))))))))
      (pss_one (ps_ret (pv 4)))))), ?_⟩
  walk_at "w"
  refine ⟨tg, m, rfl, R, KN.w.bd, KN.kn, fun H1 p1 a1 e1 => ?_⟩
  walk_at "w"
  refine ⟨by rw [sizeLine_eq]; decide, fun pf hpf => ?_⟩
  have af := Al.new (o := .lst []) hpf
  have ef : (L2.upd H1 pf (.lst [])) pf = some (.lst []) := upd_same
  have frf := a1.free hpf
  have a2 := a1.trans af
  generalize L2.upd H1 pf (.lst []) = H2 at *
  walk_at "w"
  refine ⟨a, 2, sc, rfl, sqL_al hsc a2, fun z2 => ?_⟩
  walk_at "w"
  refine ⟨by show (0 : Int) < 6; decide, ?_⟩
  walk_at "w"
  refine ⟨by omega, by omega, ?_⟩
  obtain ⟨nd, hnd, hnd1, hnd2⟩ : ∃ nd : Nat, (1 + z2 % 6).toNat = nd ∧ 1 ≤ nd ∧ nd ≤ 6 := ⟨_, rfl, by omega, by omega⟩
  rw [hnd]
  refine for_it walk_range (fun i σ H' => (∃ v5 v6 v7 v8, σ = [some (.ref m.k), some (.ref sa), some (.ref a), some (.ref p1), some (.ref pf), v5, v6, v7, v8]) ∧ Al H1 H' ∧ ∃ us ps, H' pf = some (.lst us) ∧ Ali (PqF H H') ps us ∧ ps.length = i ∧ ∀ p, p ∈ ps → PqOk m ss p) ?_ ?_ ?_ ?_
  · exact ⟨⟨_, _, _, _, rfl⟩, af, [], [], ef, .nil, rfl, fun p h => by cases h⟩
  · exact fun _ _ _ _ _ => trivial
  · rintro i x σ H3 H3' hi ⟨⟨v5, v6, v7, v8, rfl⟩, al, us, ps, ef3, hal, hpl, hpo⟩ ⟨rfl, rfl⟩
    walk_at "w"
    refine ⟨a, 3, sc, rfl, sqL_al hsc (a1.trans al), fun z3 => ?_⟩
    walk_at "w"
    refine ⟨z3, 0 + (i : Int), 6, rfl, by omega, by omega, by decide, by decide, fun H4 d a4 hd => ?_⟩
    have al4 := al.trans a4
    have ef4 := a4.lst ef3
    walk_at "w"
    refine ⟨_, _, rfl, .inl ⟨_, sqL_at (al4.lst e1), rfl⟩, ?_⟩
    rw [List.length_map]
    walk_at "w"
    have hrl0 : (0 : Int) < ((runL m).length : Nat) := by omega
    refine ⟨hrl0, ?_⟩
    obtain ⟨nm, hnm, enm⟩ := pickS (l := runL m) (i := (d : Int) % ((runL m).length : Nat)) (Int.emod_nonneg _ (Int.ne_of_gt hrl0)) (Int.emod_lt_of_pos _ hrl0)
    refine ⟨p1, _, _, _, rfl, rfl, sqL_at (al4.lst e1), enm, ?_⟩
    have hqn := runL_run.mp hnm
    clear enm
    walk_at "w"
    refine ⟨a, 4, sc, rfl, sqL_al hsc (a1.trans al4), fun z4 => ?_⟩
    walk_at "w"
    refine ⟨z4, 0 + (i : Int), 7, rfl, by omega, by omega, by decide, by decide, fun H5 d5 a5 hd5 => ?_⟩
    have al5 := al4.trans a5
    have ef5 := a5.lst ef4
    have K5 := KN.al (a1.trans al5)
    have R5 := K5.r
    have hl : (rowsD (List.range m.nth) m.tha).length = m.nth := by unfold rowsD; rw [List.length_map, List.length_range]
    walk_at "w"
    refine ⟨m.th, _, rfl, K5.th, ?_⟩
    rw [hl]
    walk_at "w"
    refine ⟨by omega, ?_⟩
    show gName 8 (nV (d5 % m.nth)) _ H5 _
    have hth5 : d5 % m.nth < m.nth := Nat.mod_lt _ hth0
    generalize d5 % m.nth = th at *
    walk_at "w"
    refine ⟨tyL ef5, ?_⟩
    walk_at "w"
    refine ⟨tg, m, nm, th, sa, ss, rfl, K5, hqn, hth5, (a1.trans al5).tabs _ hT, hsq.al (a1.trans al5), hss, fun H6 R6 a6 cr => ?_⟩
    walk_at "w"
    refine ⟨by show (3 : Nat) ≤ sizeLine; rw [sizeLine_eq]; decide, fun T hT' => ?_⟩
    have aT := Al.new (o := .tup [V.str nm, nV th, nV (look R6 th)]) hT'
    have eT : (L2.upd H6 T (.tup [V.str nm, nV th, nV (look R6 th)])) T = some (.tup [V.str nm, nV th, nV (look R6 th)]) := upd_same
    have frT := ((a1.trans al5).trans a6).free hT'
    generalize L2.upd H6 T (.tup [V.str nm, nV th, nV (look R6 th)]) = H7 at *
    have ef7 := (a6.trans aT).lst ef5
    have hul : us.length ≤ 6 := by rw [← hal.1]; omega
    refine ⟨_, _, _, rfl, rfl, ef7, by rw [sizeLine_eq]; omega, ?_⟩
    have al7 := al5.trans (a6.trans aT)
    have a37 := a4.trans (a5.trans (a6.trans aT))
    have nTp : T ≠ pf := fun z => by rw [z, ef7] at eT; cases eT
    refine ⟨⟨_, _, _, _, rfl⟩, al7.set hpf ef7 trivial, us ++ [V.ref T], ps ++ [⟨nm, th, look R6 th⟩], upd_same, Ali.snoc (hal.imp fun p v ⟨T2, e2, q2, f2⟩ => ⟨T2, e2, ?_, f2⟩) ⟨T, rfl, (upd_ne nTp).trans eT, frT⟩, by rw [List.length_append, hpl]; rfl, fun p hp => ?_⟩
    · have q3 := a37.tup q2
      exact (upd_ne (fun z => by rw [z, ef7] at q3; cases q3)).trans q3
    · rcases List.mem_append.mp hp with h | h
      · exact hpo p h
      · rw [List.mem_singleton.mp h]; exact ⟨hqn, hth5, R6, cr, rfl⟩
  · rintro σ H3 ⟨⟨v5, v6, v7, v8, rfl⟩, al, us, ps, ef3, hal, hpl, hpo⟩
    walk_at "w"
    exact k H3 pf us ps (a1.trans al) frf ef3 hal (fun z => by rw [z] at hpl; simp at hpl; omega) (by omega) hpo
end
end Pk
end
/-! PkF43 -/
section
set_option maxHeartbeats 8000000
namespace Pk
open PySem PySem.Spec PyProof.Rows L2
local macro_rules | `(tactic| walk_at "c") => `(tactic| first | assumption | omega | exact rfl | (intro z; cases z; done) | (simp only [nV, V.int.injEq, V.str.injEq]; first | assumption | omega))
local macro_rules | `(tactic| walk_at "fld") => `(tactic| first
  | assumption
  | exact fld_k_tasks (by assumption) (by assumption) | exact fld_k_tree (by assumption) (by assumption) | exact fld_k_things (by assumption) (by assumption) | exact fld_ta_known (by assumption) (by assumption)
  | exact fld_t_rows (by assumption) (by assumption) (by assumption) | exact fld_t_run1 (by assumption) (by assumption) (by assumption) (by assumption) | exact fld_t_runs (by assumption) (by assumption) (by assumption) | exact fld_t_maker (by assumption) (by assumption) (by assumption) | exact fld_tr_rows (by assumption) (by assumption) | exact fld_tr_rb (by assumption) (by assumption) | exact fld_tr_ever (by assumption) (by assumption)
  | exact fld_h_number (by assumption) (by assumption) | exact fld_h_thing (by assumption) (by assumption) | exact fld_h_rights (by assumption) (by assumption) | exact fld_h_giver (by assumption) (by assumption) | exact fld_h_holder (by assumption) (by assumption))
local macro_rules | `(tactic| walk_at "get") => `(tactic| first
  | assumption
  | exact get_kn1 (by assumption) (by assumption) | exact get_kn0 (by assumption) (by assumption) | exact get_rw1 (by assumption) (by assumption) | exact get_rw0 (by assumption) (by assumption)
  | exact get_rb1 (by assumption) (by assumption) | exact get_rb0 (by assumption) (by assumption) | exact get_th1 (by assumption) (by assumption) | exact get_th0 (by assumption) (by assumption))
local macro_rules | `(tactic| walk_at "ins") => `(tactic| first | exact insTa (by assumption) rfl | exact insTr (by assumption) rfl)
local macro_rules | `(tactic| walk_at "s") => `(tactic| first
  | refine ⟨_, rfl, ?_⟩
  | refine ⟨rfl, ?_⟩
  | refine zI fun _ => ?_
  | with_reducible refine iteF ?_ | with_reducible refine iteT ?_
  | ((with_reducible refine iteDy ?_ ?_); focus (walk_at "c"; done)) | ((with_reducible refine iteDn ?_ ?_); focus (walk_at "c"; done)) | ((with_reducible refine iteNy ?_ ?_); focus (walk_at "c"; done)) | ((with_reducible refine iteNn ?_ ?_); focus (walk_at "c"; done))
  | refine fldI (by walk_at "fld") ?_
  | refine getI (by walk_at "get") ?_ | refine getS (by walk_at "get") ?_
  | refine ⟨by walk_at "ins", ?_⟩
  | refine ⟨_, _, _, _, true, rfl, .ty _, .base (.str _), kit_ty (by decide +kernel), ?_⟩
  | refine ⟨_, _, _, _, true, rfl, .ty _, .base (.int _), kit_ty (by decide +kernel), ?_⟩
  | refine ⟨_, _, _, _, false, rfl, .ty _, .base (.int _), kit_ty (by decide +kernel), ?_⟩
  | refine ⟨_, _, rfl, rfl, ?_⟩
  | refine ⟨_, _, rfl, rfl, trivial, ?_⟩)
local macro_rules | `(tactic| walk_at "w") => `(tactic| repeat (walk_at "s"))
theorem StS.of {K : PySem.W.Frag} {Hx H' : Hp} {tg : Tag} {m : Mo} {p : Addr} {xs : List V} (R : Rep K Hx tg m) (fr : ∀ o, nt o → Hx p ≠ some o) (lt : LT H' p xs) : StS K H' (Pk.cln K m tg) p xs := by
  have t : Pk.cln K m tg p = none := cln_free (R.fresh1 fr)
  rcases lt with e | e
  · exact .inl ⟨_, e, Pl.nt (o := .lst _) trivial, t, fun H2 e2 => .inl (sqL_at e2)⟩
  · exact .inl ⟨_, e, Pl.nt (o := .tup _) trivial, t, fun H2 e2 => .inr (sqT_at e2)⟩
/-- the pairs' tuples stand, the kernel leaves them alone -/
def PqT (H : Hp) (tg : Tag) (p : Pq) (v : V) : Prop := ∃ T, v = .ref T ∧ H T = some (.tup [.str p.nm, nV p.th, nV p.mo]) ∧ tg T = none
theorem PqT.stp {H H' : Hp} {tg tg' : Tag} {p : Pq} {v : V} (h : PqT H tg p v) (s : Stp H tg H' tg') : PqT H' tg' p v := let ⟨T, e, q, t⟩ := h; ⟨T, e, s.keep _ _ q (Pl.nt (o := .tup _) trivial) t, s.tag _ _ q (Pl.nt (o := .tup _) trivial) t⟩
/-- a pair's bound holds on -/
def PqL (S : List Str) (n0 : Nat) (m : Mo) (p : Pq) : Prop := p.th < n0 ∧ ∃ F R Op, Lim S p.nm n0 F R Op m ∧ p.mo = R p.th
theorem PqL.of {S : List Str} {m : Mo} {p : Pq} (W : Wf m) (h : PqOk m S p) : PqL S m.nth m p := by
  obtain ⟨_, h2, R, h3, h4⟩ := h
  obtain ⟨F, Op, l⟩ := h3.lim W
  exact ⟨h2, F, look R, Op, l, h4⟩
theorem PqL.reach {S : List Str} {n0 n : Nat} {m m' : Mo} {p : Pq} (h : PqL S n0 m p) (r : Reach S n m m') : PqL S n0 m' p := let ⟨h1, F, R, Op, l, e⟩ := h; ⟨h1, F, R, Op, l.reach r, e⟩
theorem PqL.can {S : List Str} {n0 : Nat} {m : Mo} {p : Pq} (h : PqL S n0 m p) : p.th < m.nth ∧ (RunT m p.nm → look (own m p.nm) p.th &&& p.mo = look (own m p.nm) p.th) := by
  obtain ⟨h1, F, R, Op, l, e⟩ := h
  exact ⟨Nat.lt_of_lt_of_le h1 l.n, fun hr => by rw [e]; exact l.can hr h1⟩
section
variable {P : Program} {w : World} {K : PySem.W.Frag} {mg : Str → Option Value} {base : Heap} (G : Gx K mg base)
include G
def sp_law (K : PySem.W.Frag) : Sp := fun vs H Q E => ∃ a, ∃ sc : List Int, vs = [.ref a] ∧ SqL K H a (sc.map V.int) ∧ TbN (T0 K) H ∧ (∀ H', Q (.bl true) H')
omit G in
theorem sc_law : FnScope ["_law_script", "_law_kernel_here", "_law_still_here", "_law_thing", "_law_pairs_here", "_law_k", "_law_had_here", "_law_name", "_law_most", "_law_one"] ["_law_script"] (defScope s_law) := ⟨rfl, rfl, rfl, by decide +kernel, rfl, by decide +kernel, by decide +kernel⟩
theorem ok_law {fd : FuncData} (F : FunD K "law" "law" (defArgs s_law) (defBody s_law) (defScope s_law) [] [] (He.ga K "law") fd) : FnOk P w K mg base (L2.CX P w) 58 (He.ga K "law") fd ["_law_script"] (sp_law K) := by
  refine F.ok (k := 57) sc_law (fun vs H Q E h => by repeat (first | (obtain ⟨e, _⟩ := h; cases e; rfl; done) | obtain ⟨_, h⟩ := h)) (fun cdv A outer s H vs Q E hr h => ?_)
  have S := sc_law
  obtain ⟨a, sc, rfl, hsc, hT, k⟩ := h
  refine ⟨_, (pss_cons (ps_set (i := 1) S.nd rfl (by first | exact Or.inl rfl | exact Or.inr rfl) (pe_f (ok_l_kernel G) (hr.mono (by omega)) rfl G.g_l_kernel (kp_of G.f_l_kernel) tkd (pa_cons (pv 0) pa_nil)))
      (pss_cons (ps_set (i := 2) S.nd rfl (by first | exact Or.inl rfl | exact Or.inr rfl) (pe_f (ok_l_still G) (hr.mono (by omega)) rfl G.g_l_still (kp_of G.f_l_still) tkd (pa_cons (pv 1) (pa_cons (pe_op op_mul pe_int (pe_f (ok_l_drawn G) (hr.mono (by omega)) rfl G.g_l_drawn (kp_of G.f_l_drawn) tkd (pa_cons (pe_f (ok_l_cell_at G) (hr.mono (by omega)) rfl G.g_l_cell_at (kp_of G.f_l_cell_at) tkd (pa_cons (pv 0) (pa_cons pe_int pa_nil))) (pa_cons pe_int (pa_cons pe_int pa_nil))))) pa_nil))))
      (C8.pss_cut (ps_if (pt_cmpR op_eq (pe_op op_mod (pe_f (ok_l_cell_at G) (hr.mono (by omega)) rfl G.g_l_cell_at (kp_of G.f_l_cell_at) tkd (pa_cons (pv 0) (pa_cons pe_int pa_nil))) pe_int) pe_int (nomark _)) (pss_one (by exact (ps_setLcz (i := 2) (own := [("_law_name", 7)]) rfl S.nd rfl rfl (sw_true rfl rfl rfl (by decide +kernel)) (pi_list (pe_m0 (ok_Tasks_running G) (hr.mono (by omega)) G.cl_Tasks G.m_Tasks_running tkd (pe_fd (pv 1)))) (blkOk_by (own := [("_law_name", 7)]) (N := ["_law_script", "_law_kernel_here", "_law_still_here", "_law_thing", "_law_pairs_here", "_law_k", "_law_had_here", "_law_name", "_law_most", "_law_one"]) (sc := defScope s_law) (by decide +kernel)) (fun _ => (pg_name (i := 7) S.nd rfl (by first | exact Or.inl rfl | exact Or.inr rfl))) (fun _ => (pts_one (pt_cmpR op_ne (pv 7) pe_str (nomark _)))) (fun _ => (pv 7))))) pss_nil)
      (pss_cons (ps_set (i := 3) S.nd rfl (by first | exact Or.inl rfl | exact Or.inr rfl) (pe_un un_neg pe_int))
      (C8.pss_cut (ps_if (pt_cmpR op_eq (pe_op op_mod (pe_f (ok_l_cell_at G) (hr.mono (by omega)) rfl G.g_l_cell_at (kp_of G.f_l_cell_at) tkd (pa_cons (pv 0) (pa_cons pe_int pa_nil))) pe_int) pe_int (nomark _)) (pss_cons (ps_set (i := 3) S.nd rfl (by first | exact Or.inl rfl | exact Or.inr rfl) (pe_f (ok_l_chained G) (hr.mono (by omega)) rfl G.g_l_chained (kp_of G.f_l_chained) tkd (pa_cons (pv 1) (pa_cons (pe_op op_fdiv (pe_f (ok_l_cell_at G) (hr.mono (by omega)) rfl G.g_l_cell_at (kp_of G.f_l_cell_at) tkd (pa_cons (pv 0) (pa_cons pe_int pa_nil))) pe_int) pa_nil))))
      (pss_one (by exact (ps_setLcz (i := 2) (own := [("_law_name", 7)]) rfl S.nd rfl rfl (sw_true rfl rfl rfl (by decide +kernel)) (pi_list (pe_m0 (ok_Tasks_running G) (hr.mono (by omega)) G.cl_Tasks G.m_Tasks_running tkd (pe_fd (pv 1)))) (blkOk_by (own := [("_law_name", 7)]) (N := ["_law_script", "_law_kernel_here", "_law_still_here", "_law_thing", "_law_pairs_here", "_law_k", "_law_had_here", "_law_name", "_law_most", "_law_one"]) (sc := defScope s_law) (by decide +kernel)) (fun _ => (pg_name (i := 7) S.nd rfl (by first | exact Or.inl rfl | exact Or.inr rfl))) (fun _ => (pts_one (pt_cmpR op_ne (pv 7) pe_str (nomark _)))) (fun _ => (pv 7)))))) pss_nil)
      (pss_cons (ps_set (i := 4) S.nd rfl (by first | exact Or.inl rfl | exact Or.inr rfl) (pe_f (ok_l_pairs G) (hr.mono (by omega)) rfl G.g_l_pairs (kp_of G.f_l_pairs) tkd (pa_cons (pv 1) (pa_cons (pv 2) (pa_cons (pv 0) pa_nil)))))
      (C8.pss_cut (ps_if (PW.pt (pw_and (pt_cmpR op_ge (pv 3) pe_int (nomark _)) (pw_and1 (pt_cmpR op_in_seq pe_str (pe_m0 (ok_Tasks_running G) (hr.mono (by omega)) G.cl_Tasks G.m_Tasks_running tkd (pe_fd (pv 1))) rfl)))) (pss_cons (ps_expr (pe_bm PySem.F.plainAttrs_list PySem.F.slot_list_append PySem.F.type_list_append mt_append (pv 4) (pa_cons (pe_tup (pa_cons pe_str (pa_cons (pv 3) (pa_cons (pe_f (ok_could_4 G) (hr.mono (by omega)) rfl G.g_could (kp_of G.f_could) tkd (pa_cons (pv 1) (pa_cons pe_str (pa_cons (pv 3) (pa_cons (pv 2) pa_nil))))) pa_nil)))) pa_nil)))
      (pss_one (ps_expr (pe_f (ok_l_heard G) (hr.mono (by omega)) rfl G.g_l_heard (kp_of G.f_l_heard) tkd (pa_cons (pv 1) (pa_cons pe_str pa_nil)))))) pss_nil)
      (pss_cons (ps_if (pt_not (pt_val (pe_f (ok_l_within G) (hr.mono (by omega)) rfl G.g_l_within (kp_of G.f_l_within) tkd (pa_cons (pv 1) (pa_cons (pv 4) pa_nil))))) (pss_one (ps_ret pe_bl)) pss_nil)
      (pss_cons (ps_for pod rfl (pi_range1 rfl G.b_range (pa_cons (pe_op op_mod (pe_f (ok_l_cell_at G) (hr.mono (by omega)) rfl G.g_l_cell_at (kp_of G.f_l_cell_at) tkd (pa_cons (pv 0) (pa_cons pe_int pa_nil))) pe_int) pa_nil)) (pg_name (i := 5) S.nd rfl (by first | exact Or.inl rfl | exact Or.inr rfl)) (pss_cons (ps_expr (pe_f (ok_l_done G) (hr.mono (by omega)) rfl G.g_l_done (kp_of G.f_l_done) tkd (pa_cons (pv 1) (pa_cons (pv 2) (pa_cons (pe_f (ok_l_cell_at G) (hr.mono (by omega)) rfl G.g_l_cell_at (kp_of G.f_l_cell_at) tkd (pa_cons (pv 0) (pa_cons pe_int pa_nil))) (pa_cons (pe_op op_add pe_int (pe_op op_mul pe_int (pv 5))) (pa_cons pe_int pa_nil)))))))
      (pss_one (ps_if (pt_not (pt_val (pe_f (ok_l_within G) (hr.mono (by omega)) rfl G.g_l_within (kp_of G.f_l_within) tkd (pa_cons (pv 1) (pa_cons (pv 4) pa_nil))))) (pss_one (ps_ret pe_bl)) pss_nil))))
      (pss_cons (ps_asg (pe_ix ix_list (pv 4) pe_int (fun _ _ => rfl)) (pg_tup rfl (pgs_cons (pg_name (i := 7) S.nd rfl (by first | exact Or.inl rfl | exact Or.inr rfl)) (pgs_cons (pg_name (i := 3) S.nd rfl (by first | exact Or.inl rfl | exact Or.inr rfl)) (pgs_cons (pg_name (i := 8) S.nd rfl (by first | exact Or.inl rfl | exact Or.inr rfl)) pgs_nil)))))
      (pss_cons (ps_if (pt_cmpR op_notIn_seq (pv 7) (pe_m0 (ok_Tasks_running G) (hr.mono (by omega)) G.cl_Tasks G.m_Tasks_running tkd (pe_fd (pv 1))) rfl) (pss_one (ps_ret pe_bl)) pss_nil)
      (pss_cons (ps_set (i := 6) S.nd rfl (by first | exact Or.inl rfl | exact Or.inr rfl) (pe_f (ok_can G) (hr.mono (by omega)) rfl G.g_can (kp_of G.f_can) tkd (pa_cons (pv 1) (pa_cons (pv 7) (pa_cons (pv 3) pa_nil)))))
      (pss_one (ps_ret (pe_cmpR op_eq (pe_op op_and (pv 6) (pe_f (ok_could_4 G) (hr.mono (by omega)) rfl G.g_could (kp_of G.f_could) tkd (pa_cons (pv 1) (pa_cons (pv 7) (pa_cons (pv 3) (pa_cons (by exact (pe_lcz (own := [("_law_one", 9)]) rfl S.nd (pi_seq (pv 2)) (blkOk_by (own := [("_law_one", 9)]) (N := ["_law_script", "_law_kernel_here", "_law_still_here", "_law_thing", "_law_pairs_here", "_law_k", "_law_had_here", "_law_name", "_law_most", "_law_one"]) (sc := defScope s_law) (by decide +kernel)) (fun _ => (pg_name (i := 9) S.nd rfl (by first | exact Or.inl rfl | exact Or.inr rfl))) (fun _ => (pts_one (pt_cmpR op_in_seq (pv 9) (pe_m0 (ok_Tasks_running G) (hr.mono (by omega)) G.cl_Tasks G.m_Tasks_running takes0 (pe_fd (pv 1))) rfl))) (fun _ => (pv 9)))) pa_nil)))))) (pv 6) (nomark _)))))))))))))))), ?_⟩
  walk_at "w"
  refine ⟨a, sc, rfl, hsc, fun H1 tg1 m1 K1 S1 tb hev hnl hnt => ?_⟩
  have hT1 := tb _ hT
  clear tb hsc hT
  walk_at "w"
  refine ⟨a, 9, sc, rfl, S1.sq, fun z9 => ?_⟩
  walk_at "w"
  refine ⟨z9, 0, 0, rfl, by decide, by decide, by decide, by decide, fun H2 d a2 hd => ?_⟩
  walk_at "w"
  refine ⟨.inl ⟨by decide, by decide⟩, ?_⟩
  walk_at "w"
  have K2 := K1.al a2
  refine ⟨tg1, m1, 7 * (d : Int), rfl, K2, by omega, fun H3 p S a3 fr lt hS hSl => ?_⟩
  have K3 : Kn K H3 (Pk.cln K m1 tg1) m1 := (K2.cln).al a3
  have s3 : Stp H1 tg1 H3 (Pk.cln K m1 tg1) := (Stp.al (a2.trans a3)).cln
  have st3 : StS K H3 (Pk.cln K m1 tg1) p (S.map V.str) := StS.of K2.r fr lt
  have S3 := S1.stp s3
  generalize Pk.cln K m1 tg1 = tg3 at *
  clear fr lt K2 a2 a3
  walk_at "w"
  refine ⟨fun σ' H' => ∃ (p : Addr) (S : List Str), σ' = [some (.ref a), some (.ref m1.k), some (.ref p), none, none, none, none, none, none, none] ∧ ∃ tg', Stp H1 tg1 H' tg' ∧ Kn K H' tg' m1 ∧ StS K H' tg' p (S.map V.str) ∧ S.length ≤ 200 ∧ ∀ s, s ∈ S → RunT m1 s, ?_, ?_⟩
  · walk_at "w"
    refine ⟨a, 9, sc, rfl, S3.sq, fun z => ?_⟩
    walk_at "w"
    refine ⟨by show (0 : Int) < 5; decide, ?_⟩
    by_cases h1 : z % 5 = 1
    · have RR : Rep K H3 tg3 m1 := K3.r
      walk_at "w"
      refine ⟨tg3, m1, rfl, K3.r, K3.w.bd, K3.kn, fun Ha1 pa1 aa1 ea1 => ?_⟩
      have hl1 := runL_len K3.w.bd
      walk_at "w"
      refine ⟨⟨_, sqL_at ea1⟩, ?_⟩
      refine LcB.fr (lcR (walk_list (xs := (runL m1).map V.str)) (fun i => ((runL m1)[i]?).bind fun (s : Str) => if decide (s ≠ ("aa" : Str)) = true then some (V.str s) else none) (by rw [List.length_map, sizeLine_eq]; omega) (fun H a => sqL_at (a.lst ea1)) (fun i x Hb Hc hi ab y N1 N2 hy hno => ?_) (fun Hd D ad ed D' hD' hD => ?_))
      · obtain ⟨rfl, hx⟩ := y
        rw [List.getElem?_map] at hx
        cases hcs : (runL m1)[i]? with
        | none => rw [hcs] at hx; cases hx
        | some c =>
          rw [hcs] at hx hy hno
          cases hx
          by_cases hin : c = "aa"
          · walk_at "w"
            exact hno _ (by simp [hin]) (Al.refl _)
          · have hin' : ¬ V.str c = V.str "aa" := fun z => hin (V.str.inj z)
            walk_at "w"
            exact hy _ _ (by simp [hin]) (Al.refl _)
      cases hD'
      rw [List.length_map, filterMap_range (runL m1) _ (fun (s : Str) => if decide (s ≠ ("aa" : Str)) = true then some (V.str s) else none) (fun i x e => by rw [e]; rfl), filterMap_if] at ed
      have hSal : ((runL m1).filter fun (s : Str) => decide (s ≠ ("aa" : Str))).length ≤ 200 := Nat.le_trans (List.length_filter_le _ _) hl1
      have hSa : ∀ s, s ∈ (runL m1).filter (fun (s : Str) => decide (s ≠ ("aa" : Str))) → RunT m1 s := fun s h => runL_run.mp (List.mem_filter.mp h).1
      have hSn : ("aa" : Str) ∉ (runL m1).filter (fun (s : Str) => decide (s ≠ ("aa" : Str))) := fun h => by
        have := (List.mem_filter.mp h).2
        simp at this
      have Ke : Kn K Hd (Pk.cln K m1 tg3) m1 := (K3.cln).al (aa1.trans ad)
      have se : Stp H3 tg3 Hd (Pk.cln K m1 tg3) := (Stp.al (aa1.trans ad)).cln
      have ste : StS K Hd (Pk.cln K m1 tg3) D (((runL m1).filter fun (s : Str) => decide (s ≠ ("aa" : Str))).map V.str) := StS.of K3.r (aa1.free hD) (.inl ed)
      generalize (runL m1).filter (fun (s : Str) => decide (s ≠ ("aa" : Str))) = Sa at *
      generalize Pk.cln K m1 tg3 = tge at *
      exact ⟨D, Sa, rfl, tge, s3.trans se, Ke, ste, hSal, hSa⟩
    · have h1' : ¬ V.int (z % 5) = V.int 1 := fun q => h1 (V.int.inj q)
      walk_at "w"
      exact ⟨p, S, rfl, tg3, s3, K3, st3, hSl, hS⟩
  clear st3 S3 s3 K3 hS
  rintro σ' H4 ⟨p4, S4, rfl, tg4, s4, K4, st4, hSl4, hS4⟩
  have L4 := S1.stp s4
  walk_at "w"
  refine ⟨fun σ' H' => ∃ (p : Addr) (S : List Str) (z : Int), σ' = [some (.ref a), some (.ref m1.k), some (.ref p), some (.int z), none, none, none, none, none, none] ∧ ∃ tg' m', Stp H1 tg1 H' tg' ∧ Kn K H' tg' m' ∧ Reach [] 9 m1 m' ∧ StS K H' tg' p (S.map V.str) ∧ S.length ≤ 200 ∧ (∀ s, s ∈ S → RunT m' s) ∧ (z < 0 ∨ ∃ i : Nat, z = (i : Int) ∧ i < m'.nth ∧ ("aa" : Str) ∉ S), ?_, ?_⟩
  · walk_at "w"
    refine ⟨a, 12, sc, rfl, L4.sq, fun z => ?_⟩
    walk_at "w"
    refine ⟨by show (0 : Int) < 4; decide, ?_⟩
    by_cases h1 : z % 4 = 1
    · walk_at "w"
      refine ⟨a, 12, sc, rfl, L4.sq, fun zz => ?_⟩
      walk_at "w"
      refine ⟨⟨by decide, by decide⟩, ?_⟩
      walk_at "w"
      refine ⟨tg4, m1, _, rfl, K4, by omega, fun H5 tg5 m5 zc st5 K5 r5 hzc => ?_⟩
      have k5 := r5.k
      have f5 : FldAt K H5 (.ref m1.k) "tasks" (.ref m5.ta) := by have := fld_k_tasks G K5.r; rwa [k5] at this
      have RR : Rep K H5 tg5 m5 := K5.r
      walk_at "w"
      refine ⟨tg5, m5, rfl, K5.r, K5.w.bd, K5.kn, fun Ha2 pa2 aa2 ea2 => ?_⟩
      have hl2 := runL_len K5.w.bd
      walk_at "w"
      refine ⟨⟨_, sqL_at ea2⟩, ?_⟩
      refine LcB.fr (lcR (walk_list (xs := (runL m5).map V.str)) (fun i => ((runL m5)[i]?).bind fun (s : Str) => if decide (s ≠ ("aa" : Str)) = true then some (V.str s) else none) (by rw [List.length_map, sizeLine_eq]; omega) (fun H a => sqL_at (a.lst ea2)) (fun i x Hb Hc hi ab y N1 N2 hy hno => ?_) (fun Hd D ad ed D' hD' hD => ?_))
      · obtain ⟨rfl, hx⟩ := y
        rw [List.getElem?_map] at hx
        cases hcs : (runL m5)[i]? with
        | none => rw [hcs] at hx; cases hx
        | some c =>
          rw [hcs] at hx hy hno
          cases hx
          by_cases hin : c = "aa"
          · walk_at "w"
            exact hno _ (by simp [hin]) (Al.refl _)
          · have hin' : ¬ V.str c = V.str "aa" := fun z => hin (V.str.inj z)
            walk_at "w"
            exact hy _ _ (by simp [hin]) (Al.refl _)
      cases hD'
      rw [List.length_map, filterMap_range (runL m5) _ (fun (s : Str) => if decide (s ≠ ("aa" : Str)) = true then some (V.str s) else none) (fun i x e => by rw [e]; rfl), filterMap_if] at ed
      have hSal : ((runL m5).filter fun (s : Str) => decide (s ≠ ("aa" : Str))).length ≤ 200 := Nat.le_trans (List.length_filter_le _ _) hl2
      have hSa : ∀ s, s ∈ (runL m5).filter (fun (s : Str) => decide (s ≠ ("aa" : Str))) → RunT m5 s := fun s h => runL_run.mp (List.mem_filter.mp h).1
      have hSn : ("aa" : Str) ∉ (runL m5).filter (fun (s : Str) => decide (s ≠ ("aa" : Str))) := fun h => by
        have := (List.mem_filter.mp h).2
        simp at this
      have Ke : Kn K Hd (Pk.cln K m5 tg5) m5 := (K5.cln).al (aa2.trans ad)
      have se : Stp H5 tg5 Hd (Pk.cln K m5 tg5) := (Stp.al (aa2.trans ad)).cln
      have ste : StS K Hd (Pk.cln K m5 tg5) D (((runL m5).filter fun (s : Str) => decide (s ≠ ("aa" : Str))).map V.str) := StS.of K5.r (aa2.free hD) (.inl ed)
      generalize (runL m5).filter (fun (s : Str) => decide (s ≠ ("aa" : Str))) = Sa at *
      generalize Pk.cln K m5 tg5 = tge at *
      exact ⟨D, Sa, zc, rfl, tge, m5, (s4.trans st5).trans se, Ke, r5, ste, hSal, hSa, hzc.imp id fun ⟨i, e1, e2⟩ => ⟨i, e1, e2, hSn⟩⟩
    · have h1' : ¬ V.int (z % 4) = V.int 1 := fun q => h1 (V.int.inj q)
      walk_at "w"
      exact ⟨p4, S4, -1, rfl, tg4, m1, s4, K4, .refl, st4, hSl4, hS4, .inl (by decide)⟩
  clear L4 s4 K4 st4 hS4
  rintro σ' H2 ⟨p, S, z, rfl, tg2, m2, s2, K2, r2, st2, hSl2, hS2, hz⟩
  have LL2 := S1.stp s2
  have hT2 := s2.tabs _ hT1
  have k2 := r2.k
  have v2 := r2.ev
  have n2 := r2.nl
  have t2 := r2.nth
  rw [← k2]
  clear s2 S1 hT1 K1 k2 r2
  walk_at "w"
  refine ⟨tg2, m2, p, S, a, sc, rfl, K2, by omega, st2.sq, hS2, LL2.sq, hT2, fun H3 pf us ps a3 frf ef hal hne h6 hpo => ?_⟩
  have K3 : Kn K H3 (Pk.cln K m2 tg2) m2 := K2.cln.al a3
  have s3 : Stp H2 tg2 H3 (Pk.cln K m2 tg2) := (Stp.al a3).cln
  have tf : Pk.cln K m2 tg2 pf = none := cln_free (K2.r.fresh1 frf)
  have hal3 : Ali (PqT H3 (Pk.cln K m2 tg2)) ps us := hal.imp fun p v ⟨T, e, q, f⟩ => ⟨T, e, q, cln_free (K2.r.fresh1 f)⟩
  have hpl : ∀ q, q ∈ ps → PqL S m2.nth m2 q := fun q h => PqL.of K2.w (hpo q h)
  generalize Pk.cln K m2 tg2 = tg3 at *
  clear hpo hal a3
  walk_at "w"
  refine ⟨fun σ' H' => σ' = [some (.ref a), some (.ref m2.k), some (.ref p), some (.int z), some (.ref pf), none, none, none, none, none] ∧ ∃ tg' m' us' ps', Stp H2 tg2 H' tg' ∧ Kn K H' tg' m' ∧ Reach S 64 m2 m' ∧ H' pf = some (.lst us') ∧ tg' pf = none ∧ Ali (PqT H' tg') ps' us' ∧ ps' ≠ [] ∧ ps'.length ≤ 7 ∧ ∀ q, q ∈ ps' → PqL S m2.nth m' q, ?_, ?_⟩
  · by_cases hz0 : z < 0
    · have hz1 : ¬ 0 ≤ z := by omega
      walk_at "w"
      exact ⟨tg3, m2, us, ps, s3, K3, .refl, ef, tf, hal3, hne, by omega, hpl⟩
    · obtain ⟨i, rfl, hi, hns⟩ := hz.resolve_left hz0
      have RR : Rep K H3 tg3 m2 := K3.r
      walk_at "w"
      refine ⟨tg3, m2, rfl, K3.r, K3.w.bd, K3.kn, fun H4 p4 a4 e4 => ?_⟩
      walk_at "w"
      refine ⟨p4, _, rfl, .inl (sqL_at e4), flat_one, flat_str, ?_⟩
      rw [if_neg (by decide), inV_str]
      by_cases hr : RunT m2 "aa"
      · rw [decide_eq_true (runL_run.mpr hr)]
        have ef4 := a4.lst ef
        walk_at "w"
        refine ⟨tyL ef4, ?_⟩
        walk_at "w"
        refine ⟨tg3, m2, "aa", i, p, S, rfl, K3.al a4, hr, hi, (s3.trans (Stp.al (tg := tg3) a4)).tabs _ hT2, (st2.stp s3).sq.al a4, hS2, fun H5 R5 a5 cr => ?_⟩
        have hq5 : PqOk m2 S (Pq.mk "aa" i (look R5 i)) := ⟨hr, hi, R5, cr, rfl⟩
        have hl5 := PqL.of K2.w hq5
        clear hq5 cr
        generalize look R5 i = mo5 at *
        walk_at "w"
        refine ⟨by show (3 : Nat) ≤ sizeLine; rw [sizeLine_eq]; decide, fun T hT' => ?_⟩
        have aT := Al.new (o := .tup [V.str "aa", V.int (i : Int), nV mo5]) hT'
        have eT : (L2.upd H5 T (.tup [V.str "aa", V.int (i : Int), nV mo5])) T = some (.tup [V.str "aa", V.int (i : Int), nV mo5]) := upd_same
        generalize L2.upd H5 T (.tup [V.str "aa", V.int (i : Int), nV mo5]) = H7 at *
        have a47 := a4.trans (a5.trans aT)
        have ef7 := a47.lst ef
        have hul : us.length ≤ 6 := by rw [← hal3.1]; exact h6
        refine ⟨_, _, _, rfl, rfl, ef7, by rw [sizeLine_eq]; omega, ?_⟩
        have K7 : Kn K H7 (Pk.cln K m2 tg3) m2 := K3.cln.al a47
        have tfc : Pk.cln K m2 tg3 pf = none := cln_none tf
        have tTc : Pk.cln K m2 tg3 T = none := cln_free ((K3.r.al (a4.trans a5)).fresh hT')
        have K8 := K7.other (ys := us ++ [V.ref T]) tfc ef7
        have s7 : Stp H2 tg2 H7 (Pk.cln K m2 tg3) := (s3.trans (Stp.al (tg := tg3) a47)).cln
        have s8 := s7.updN (o' := .lst (us ++ [V.ref T])) frf ef7 trivial
        have nTp : T ≠ pf := fun z => by rw [z, ef7] at eT; cases eT
        have hal8 : Ali (PqT (L2.upd H7 pf (.lst (us ++ [V.ref T]))) (Pk.cln K m2 tg3)) (ps ++ [⟨"aa", i, mo5⟩]) (us ++ [V.ref T]) := Ali.snoc (hal3.imp fun q v ⟨T2, e2, q2, t2⟩ => ⟨T2, e2, by
          have q3 := a47.tup q2
          exact (upd_ne (fun z => by rw [z, ef7] at q3; cases q3)).trans q3, cln_none t2⟩) ⟨T, rfl, (upd_ne nTp).trans eT, tTc⟩
        have ef8 : (L2.upd H7 pf (.lst (us ++ [V.ref T]))) pf = some (.lst (us ++ [V.ref T])) := upd_same
        generalize Pk.cln K m2 tg3 = tg8 at *
        generalize L2.upd H7 pf (.lst (us ++ [V.ref T])) = H8 at *
        walk_at "w"
        refine ⟨tg8, m2, "aa", S, rfl, K8, hr, hns, fun H9 tg9 m9 st9 K9 r9 => ?_⟩
        walk_at "w"
        refine ⟨tg9, m9, _, _, s8.trans st9, K9, r9, st9.keep _ _ ef8 (Pl.nt (o := .lst _) trivial) tfc, st9.tag _ _ ef8 (Pl.nt (o := .lst _) trivial) tfc, hal8.imp fun q v h => h.stp st9, by simp, by rw [List.length_append, List.length_singleton]; omega, fun q hq => ?_⟩
        rcases List.mem_append.mp hq with h | h
        · exact (hpl q h).reach r9
        · rw [List.mem_singleton.mp h]
          exact hl5.reach r9
      · rw [decide_eq_false (fun h => hr (runL_run.mp h))]
        walk_at "w"
        exact ⟨tg3, m2, us, ps, s3.trans (Stp.al a4), K3.al a4, .refl, a4.lst ef, tf, hal3.imp fun q v h => h.stp (Stp.al a4), hne, by omega, hpl⟩
  clear K3 s3 tf hal3 hpl ef hne h6 hz K2
  rintro σ' H3 ⟨rfl, tg3, m3, us, ps, s3, K3, r3, ef, tf, hal, hne, h7, hpl⟩
  have k3 := r3.k
  have v3 := r3.ev
  have n3 := r3.nl
  have toR : ∀ {Hx : Hp} {tgx : Tag} {ps : List Pq} {us : List V}, Ali (PqT Hx tgx) ps us → Ali (PqR Hx) ps us := fun h => h.imp fun q v ⟨T, e, q2, _⟩ => ⟨T, e, q2⟩
  walk_at "w"
  refine ⟨tg3, m3, pf, us, ps, by rw [k3], K3, ef, toR hal, s3.tabs _ hT2, fun q hq => (hpl q hq).can, fun H4 a4 => ?_⟩
  have s4 := s3.trans (Stp.al (tg := tg3) a4)
  have L4 := LL2.stp s4
  walk_at "w"
  clear toR
  have toR : ∀ {Hx : Hp} {tgx : Tag} {ps : List Pq} {us : List V}, Ali (PqT Hx tgx) ps us → Ali (PqR Hx) ps us := fun h => h.imp fun q v ⟨T, e, q2, _⟩ => ⟨T, e, q2⟩
  refine ⟨a, 5, sc, rfl, L4.sq, fun z5 => ?_⟩
  walk_at "w"
  refine ⟨by show (0 : Int) < 13; decide, ?_⟩
  refine ⟨_, rfl, by omega, by omega, ?_⟩
  have hnd : (z5 % 13).toNat ≤ 12 := by omega
  generalize (z5 % 13).toNat = nd at *
  refine for_it walk_range (fun i σ H' => (∃ v5, σ = [some (.ref a), some (.ref m2.k), some (.ref p), some (.int z), some (.ref pf), v5, none, none, none, none]) ∧ ∃ tg' m', Stp H2 tg2 H' tg' ∧ Kn K H' tg' m' ∧ Reach S (64 + 2 * i) m2 m' ∧ H' pf = some (.lst us) ∧ tg' pf = none ∧ Ali (PqT H' tg') ps us ∧ ∀ q, q ∈ ps → PqL S m2.nth m' q) ?_ ?_ ?_ ?_
  · exact ⟨⟨_, rfl⟩, tg3, m3, s4, K3.al a4, r3, a4.lst ef, tf, hal.imp fun q v h => h.stp (Stp.al a4), hpl⟩
  · exact fun _ _ _ _ _ => trivial
  · rintro i x σ H5 H5' hi ⟨⟨v5, rfl⟩, tg5, m5, s5, K5, r5, ef5, tf5, hal5, hpl5⟩ ⟨rfl, rfl⟩
    have k5 := r5.k
    have v5' := r5.ev
    have n5 := r5.nl
    have L5 := LL2.stp s5
    walk_at "w"
    refine ⟨a, 6, sc, rfl, L5.sq, fun z6 => ?_⟩
    walk_at "w"
    refine ⟨.inl ⟨by decide, by decide⟩, ?_⟩
    walk_at "w"
    refine ⟨tg5, m5, p, S, z6, 30 + 2 * i, 2, ?_, K5, st2.stp s5, by omega, by omega, by omega, fun H6 tg6 m6 st6 K6 r6 _ => ?_⟩
    · show [V.ref m2.k, V.ref p, V.int z6, V.int (30 + 2 * (0 + (i : Int))), V.int 2] = _
      rw [k5, show (30 + 2 * (0 + (i : Int))) = ((30 + 2 * i : Nat) : Int) by omega]
      rfl
    have r56 := r5.trans r6
    have k6 := r56.k
    have s6 := s5.trans st6
    have ef6 := st6.keep _ _ ef5 (Pl.nt (o := .lst _) trivial) tf5
    have tf6 := st6.tag _ _ ef5 (Pl.nt (o := .lst _) trivial) tf5
    have hal6 := hal5.imp fun q v h => h.stp st6
    have hpl6 : ∀ q, q ∈ ps → PqL S m2.nth m6 q := fun q h => (hpl5 q h).reach r6
    clear hpl5 hal5 ef5 tf5 s5 K5 L5
    walk_at "w"
    refine ⟨tg6, m6, pf, us, ps, by rw [k6], K6, ef6, toR hal6, s6.tabs _ hT2, fun q hq => (hpl6 q hq).can, fun H7 a7 => ?_⟩
    walk_at "w"
    exact ⟨⟨_, rfl⟩, tg6, m6, s6.trans (Stp.al a7), K6.al a7, r56.mono (by omega), a7.lst ef6, tf6, hal6.imp fun q v h => h.stp (Stp.al a7), hpl6⟩
  · rintro σ H5 ⟨⟨v5, rfl⟩, tg5, m5, s5, K5, r5, ef5, tf5, hal5, hpl5⟩
    have k5 := r5.k
    obtain ⟨q0, hq0⟩ : ∃ q0, ps[0]? = some q0 := ⟨_, List.getElem?_eq_getElem (List.length_pos_iff.mpr hne)⟩
    obtain ⟨u0, hu0⟩ : ∃ u0, us[0]? = some u0 := ⟨_, List.getElem?_eq_getElem (by rw [← hal5.1]; exact List.length_pos_iff.mpr hne)⟩
    obtain ⟨T, rfl, eT, _⟩ := hal5.2 0 q0 u0 hq0 hu0
    obtain ⟨hth, hcan⟩ := (hpl5 q0 (List.mem_of_getElem? hq0)).can
    have st5 := st2.stp s5
    have hT5 := s5.tabs _ hT2
    clear hpl5 hal5 hpl hal r5 s5 hq0
    walk_at "w"
    refine ⟨pf, _, 0, _, rfl, rfl, sqL_at ef5, atI_nat (k := 0) hu0, ?_⟩
    refine tup3 (sqT_at eT) rfl ?_
    have f5 : FldAt K H5 (.ref m2.k) "tasks" (.ref m5.ta) := by have := fld_k_tasks G K5.r; rwa [k5] at this
    have RR : Rep K H5 tg5 m5 := K5.r
    walk_at "w"
    refine ⟨tg5, m5, rfl, K5.r, K5.w.bd, K5.kn, fun H6 p6 a6 e6 => ?_⟩
    walk_at "w"
    refine ⟨p6, _, rfl, .inl (sqL_at e6), flat_one, flat_str, ?_⟩
    rw [if_pos rfl, inV_str]
    by_cases hr : RunT m5 q0.nm
    · rw [decide_eq_true (runL_run.mpr hr)]
      walk_at "w"
      refine ⟨tg5, m5, q0.nm, q0.th, by rw [k5], K5.al a6, hr, hth, a6.tabs _ hT5, fun H7 a7 => ?_⟩
      have a67 := a6.trans a7
      have K7 := K5.al a67
      have sq7 := st5.sq.al a67
      walk_at "w"
      have f7 : FldAt K H7 (.ref m2.k) "tasks" (.ref m5.ta) := by have := fld_k_tasks G K7.r; rwa [k5] at this
      refine seq_lc sq7 fun J G0 Y wk hG hY => ?_
      have hSl : (S.map V.str).length ≤ sizeLine := by
        rw [List.length_map, sizeLine_eq]
        omega
      refine lcR wk (fun i => (S[i]?).bind fun s => if decide (s ∈ runL m5) = true then some (V.str s) else none) hSl hG (fun i x H8 H9 hi ab y N1 N2 hy hno => ?_) (fun H8 D ad ed => ?_)
      · obtain ⟨rfl, hx⟩ := hY _ _ _ _ y
        rw [List.getElem?_map] at hx
        cases hcs : S[i]? with
        | none => rw [hcs] at hx; cases hx
        | some c =>
          rw [hcs] at hx hy hno
          cases hx
          have K8 := K7.al ab
          have f8 : FldAt K H9 (.ref m2.k) "tasks" (.ref m5.ta) := by have := fld_k_tasks G K8.r; rwa [k5] at this
          have R8 : Rep K H9 tg5 m5 := K8.r
          walk_at "w"
          refine ⟨tg5, m5, rfl, R8, K8.w.bd, K8.kn, fun H10 p10 a10 e10 => ?_⟩
          walk_at "w"
          refine ⟨p10, _, rfl, .inl (sqL_at e10), flat_one, flat_str, ?_⟩
          rw [if_neg (by decide), inV_str]
          by_cases hin : c ∈ runL m5
          · rw [decide_eq_true hin]
            walk_at "w"
            exact hy _ _ (by simp [hin]) a10
          · rw [decide_eq_false hin]
            walk_at "w"
            exact hno _ (by simp [hin]) a10
      · rw [List.length_map, filterMap_range S _ (fun s => if decide (s ∈ runL m5) = true then some (V.str s) else none) (fun i x e => by rw [e]; rfl), filterMap_if] at ed
        have hS' : ∀ s, s ∈ S.filter (fun s => decide (s ∈ runL m5)) → RunT m5 s := fun s h => runL_run.mp (by have := (List.mem_filter.mp h).2; simpa using this)
        generalize S.filter (fun s => decide (s ∈ runL m5)) = S' at *
        have K8 := K7.al ad
        walk_at "w"
        refine ⟨tg5, m5, q0.nm, q0.th, D, S', by rw [k5], K8, hr, hth, (a67.trans ad).tabs _ hT5, .inl (sqL_at ed), hS', fun H9 R9 a9 cr => ?_⟩
        have e9 : Builtin.bitAnd (look (own m5 q0.nm) q0.th : Int) (look R9 q0.th : Int) = ((look (own m5 q0.nm) q0.th &&& look R9 q0.th : Nat) : Int) := rfl
        have e10 : V.int (Builtin.bitAnd (look (own m5 q0.nm) q0.th : Int) (look R9 q0.th : Int)) = nV (look (own m5 q0.nm) q0.th) := by rw [e9, cr.can]; rfl
        walk_at "w"
        show Q (V.bl (decide (V.int (Builtin.bitAnd (look (own m5 q0.nm) q0.th : Int) (look R9 q0.th : Int)) = nV (look (own m5 q0.nm) q0.th)))) H9
        rw [decide_eq_true e10]
        exact k _
    · rw [decide_eq_false (fun h => hr (runL_run.mp h))]
      walk_at "w"
      exact k _
end
end Pk
end
/-! PkFinal -/
section
set_option maxHeartbeats 0
namespace Pk
open PySem PySem.Spec PyProof.Rows L2
theorem law_at (w : World) (mg : Str → Option Value) (fa : Addr) (h : Heap) (Y : ∃ K : PySem.W.Frag, K.In h ∧ Says h K) (N : h.Ns mainGlobals mg) (hm : mg ("law" : Str) = some (.ref fa)) :
    ∃ K : PySem.W.Frag, K.In h ∧ LamX.LawAtS PySem.Challenge.rw_passkeep_k75_whole_nothing_beyond w K (L2.CX R.prog w) 58 63 "_law_script" mg fa h := by
  obtain ⟨K, KX, c⟩ := Y
  obtain ⟨fd, F⟩ := c.d.def_ 116 (d := d_law) rfl
  have e := hm.symm.trans (He.glo_ok KX N (c.d.fact 53 (f := .glo "law") rfl))
  cases e
  have b := FunD.bindsA (ps := ["_law_script"]) F fun _ _ _ _ _ _ us hl => match us, hl with | [_], _ => rfl
  refine ⟨K, KX, fd, tf.map (He.cT K), sp_law K, fun p hp => ?_, fun p hp => ?_, fun p hp => ?_, fun s v => b s [v] rfl, fun H a ns _ _ hT hS => ⟨a, ns, rfl, hS, fun p hp => ?_, fun _ => rfl⟩, fun base X N' hT => ?_⟩
  · obtain ⟨d, hd, rfl⟩ := List.mem_map.mp hp
    exact c.empty d hd
  · obtain ⟨d, hd, rfl⟩ := List.mem_map.mp hp
    exact c.out d hd
  · obtain ⟨d, hd, rfl⟩ := List.mem_map.mp hp
    exact PySem.W.codeHd_of_K KX (c.hd d hd)
  · obtain ⟨d, hd, rfl⟩ := List.mem_map.mp hp
    exact NdefX.TabN.nil (hT _ (List.mem_map.mpr ⟨d, hd, rfl⟩))
  · exact ok_law (P := R.prog) (w := w) ⟨c.d, c.ex, ⟨h, KX, N⟩, fun d hd => hT _ (List.mem_map.mpr ⟨d, hd, rfl⟩)⟩ F
end Pk
open PySem PySem.W PySem.Calls PyProof.Rows
theorem PySem.Challenge.cw_passkeep_k75_whole_nothing_beyond_holds : PySem.Challenge.rw_passkeep_k75_whole_nothing_beyond.Holds := by
  exact Pk.headP (by
    refine LamX.walk_ofTsE (l := PySem.Challenge.rw_passkeep_k75_whole_nothing_beyond) (n := 63) (k := 58) (x := "_law_script") (CX := fun w => L2.CX Pk.R.prog w) rfl (by decide) (by kernel_rfl) ⟨rfl, by decide, by decide⟩ ?F ?hCX
    case F =>
      intro w mg fa h Y N hm0
      have e : (HandSHeadRun.topDef (OpenLaw.row PySem.Challenge.rw_passkeep_k75_whole_nothing_beyond).prog 111).name = ("law" : PySem.Str) := by kernel_rfl
      rw [e] at hm0
      exact Pk.law_at w mg fa h Y N hm0
    case hCX =>
      intro w H s e s' z
      obtain ⟨_, _, _, _, _, _, _, _, _, _, _, _, z⟩ := z
      exact z)
end
