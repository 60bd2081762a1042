import PyProof.Rows.All
import Wide.All
import OpenK.AllK
import Wide.FinOn
import PyProof.EqAt
import PyProof.EqKinds
import PyProof.TupleCall
import KE.KStateDown
import HandS.ForMost
import HandS.Exc
import HandS.TryOnly
import HandS.TryMany
import HandS.ExcOwn
import HandS.ExcInit
import HandS.ExcIs
import HandS.ExcField
import HandS.IsInst
import HandS.More
import HandS.Conv
import HandS.Deep
import HandS.Wide
import HandS.Walk
import HandS.Zip
import HandS.Defaults
import HandS.WordsExc
import HandS.CallSlots
import HandS.Head0
import HandS.Head1
import HandS.Head2
import HandS.HeadEnd
import HandS.HeadHook1
import HandS.HeadHook2
import PyProof.EnumMake
import PyProof.WalksEnum
import PyProof.Draws
import KE.GoesMore
import HandS.Evl
import PyProof.P3Eq
import KE.KExcIs
import PySem.Challenge.RW_cutrestore_k42_whole_parts_played
set_option Elab.async false
set_option linter.all false
set_option maxRecDepth 100000
set_option maxHeartbeats 4000000
namespace Cr
open PySem PySem.Spec PyProof.Rows L2 He
def top (i : Nat) : Stmt := PySem.Challenge.pw_cutrestore_k42_whole_parts_played.main.body.getD i (.Pass ⟨0, 0, 0, 0⟩)
abbrev s_Orphaned_new : Stmt := inClass (top 9) 0
abbrev s_want_cut : Stmt := top 12
abbrev s_is_within : Stmt := top 13
abbrev s_is_there : Stmt := top 14
abbrev s_orphans_of : Stmt := top 15
abbrev s_parts_of_cut : Stmt := top 16
abbrev s_is_whole : Stmt := top 19
abbrev s_is_place : Stmt := top 20
abbrev s_is_value : Stmt := top 21
abbrev s_worth_of : Stmt := top 22
abbrev s_is_deed : Stmt := top 26
abbrev s_Bench_new : Stmt := inClass (top 27) 0
abbrev s_Bench_weighed : Stmt := inClass (top 27) 1
abbrev s_Bench_change_number : Stmt := inClass (top 27) 2
abbrev s_Bench_do_deed : Stmt := inClass (top 27) 3
abbrev s_Bench_left_state : Stmt := inClass (top 27) 4
abbrev s_is_row : Stmt := top 32
abbrev s_check_deeds : Stmt := top 33
abbrev s_Machine_new : Stmt := inClass (top 34) 0
abbrev s_Machine_first_state : Stmt := inClass (top 34) 2
abbrev s_Machine_worked : Stmt := inClass (top 34) 4
abbrev s_is_one_of : Stmt := top 40
abbrev s_is_way : Stmt := top 41
abbrev s_is_first_letter : Stmt := top 42
abbrev s_Net_new : Stmt := inClass (top 43) 0
abbrev s_Net_machines : Stmt := inClass (top 43) 1
abbrev s_Net_ways : Stmt := inClass (top 43) 2
abbrev s_Net_letters : Stmt := inClass (top 43) 3
abbrev s_Net_want_machine : Stmt := inClass (top 43) 4
abbrev s_Net_ways_out : Stmt := inClass (top 43) 5
abbrev s_Net_ways_in : Stmt := inClass (top 43) 6
abbrev s_Heap_new : Stmt := inClass (top 45) 0
abbrev s_Heap_put : Stmt := inClass (top 45) 1
abbrev s_Heap_open_numbers : Stmt := inClass (top 45) 2
abbrev s_Run_new : Stmt := inClass (top 46) 0
abbrev s_Run_net : Stmt := inClass (top 46) 1
abbrev s_Run_want_way : Stmt := inClass (top 46) 2
abbrev s_Run_want_put : Stmt := inClass (top 46) 3
abbrev s_Run_pick : Stmt := inClass (top 46) 4
abbrev s_Run_send : Stmt := inClass (top 46) 5
abbrev s_Run_count : Stmt := inClass (top 46) 6
abbrev s_Run_state : Stmt := inClass (top 46) 7
abbrev s_Run_put_many : Stmt := inClass (top 46) 10
abbrev s_Run_schedule : Stmt := inClass (top 46) 11
abbrev s_Run_sent_by : Stmt := inClass (top 46) 13
abbrev s_Run_worked_by : Stmt := inClass (top 46) 14
abbrev s_played_run : Stmt := top 47
abbrev s_Lat : Stmt := top 49
abbrev s_Lpot : Stmt := top 50
abbrev s_Ldigit : Stmt := top 51
abbrev s_Lvalue : Stmt := top 52
abbrev s_Ldeed : Stmt := top 53
abbrev s_Lmachine : Stmt := top 54
abbrev s_Lnet : Stmt := top 55
abbrev s_Lworth : Stmt := top 56
abbrev s_Lworked : Stmt := top 57
abbrev s_Lbegun : Stmt := top 58
abbrev s_Llying : Stmt := top 59
abbrev s_Lfree : Stmt := top 60
abbrev s_Lpick : Stmt := top 61
abbrev s_Lran : Stmt := top 62
abbrev s_Lplayed : Stmt := top 63
abbrev s_Lorphans : Stmt := top 64
abbrev s_Lnet_made : Stmt := top 65
abbrev s_Lany_cut : Stmt := top 66
abbrev s_Lheard_cut : Stmt := top 67
abbrev s_Lcuts : Stmt := top 68
abbrev s_Lrefused : Stmt := top 69
abbrev s_Lare_picks : Stmt := top 70
abbrev s_Lleads : Stmt := top 71
abbrev s_Lparts : Stmt := top 72
abbrev s_Ltold : Stmt := top 73
abbrev s_Lasked : Stmt := top 74
abbrev s_law : Stmt := top 75
def d_Orphaned_new : DefD := ⟨("Orphaned", some "__init__"), "__init__", "Orphaned.__init__", defArgs s_Orphaned_new, defBody s_Orphaned_new, defScope s_Orphaned_new, [], []⟩
def d_want_cut : DefD := ⟨("want_cut", none), "want_cut", "want_cut", defArgs s_want_cut, defBody s_want_cut, defScope s_want_cut, [], []⟩
def d_is_within : DefD := ⟨("is_within", none), "is_within", "is_within", defArgs s_is_within, defBody s_is_within, defScope s_is_within, [], []⟩
def d_is_there : DefD := ⟨("is_there", none), "is_there", "is_there", defArgs s_is_there, defBody s_is_there, defScope s_is_there, [], []⟩
def d_orphans_of : DefD := ⟨("orphans_of", none), "orphans_of", "orphans_of", defArgs s_orphans_of, defBody s_orphans_of, defScope s_orphans_of, [], []⟩
def d_parts_of_cut : DefD := ⟨("parts_of_cut", none), "parts_of_cut", "parts_of_cut", defArgs s_parts_of_cut, defBody s_parts_of_cut, defScope s_parts_of_cut, [], []⟩
def d_is_whole : DefD := ⟨("is_whole", none), "is_whole", "is_whole", defArgs s_is_whole, defBody s_is_whole, defScope s_is_whole, [], []⟩
def d_is_place : DefD := ⟨("is_place", none), "is_place", "is_place", defArgs s_is_place, defBody s_is_place, defScope s_is_place, [], []⟩
def d_is_value : DefD := ⟨("is_value", none), "is_value", "is_value", defArgs s_is_value, defBody s_is_value, defScope s_is_value, [], []⟩
def d_worth_of : DefD := ⟨("worth_of", none), "worth_of", "worth_of", defArgs s_worth_of, defBody s_worth_of, defScope s_worth_of, [], []⟩
def d_is_deed : DefD := ⟨("is_deed", none), "is_deed", "is_deed", defArgs s_is_deed, defBody s_is_deed, defScope s_is_deed, [], []⟩
def d_Bench_new : DefD := ⟨("Bench", some "__init__"), "__init__", "Bench.__init__", defArgs s_Bench_new, defBody s_Bench_new, defScope s_Bench_new, [], []⟩
def d_Bench_weighed : DefD := ⟨("Bench", some "weighed"), "weighed", "Bench.weighed", defArgs s_Bench_weighed, defBody s_Bench_weighed, defScope s_Bench_weighed, [], []⟩
def d_Bench_change_number : DefD := ⟨("Bench", some "change_number"), "change_number", "Bench.change_number", defArgs s_Bench_change_number, defBody s_Bench_change_number, defScope s_Bench_change_number, [], []⟩
def d_Bench_do_deed : DefD := ⟨("Bench", some "do_deed"), "do_deed", "Bench.do_deed", defArgs s_Bench_do_deed, defBody s_Bench_do_deed, defScope s_Bench_do_deed, [], []⟩
def d_Bench_left_state : DefD := ⟨("Bench", some "left_state"), "left_state", "Bench.left_state", defArgs s_Bench_left_state, defBody s_Bench_left_state, defScope s_Bench_left_state, [], []⟩
def d_is_row : DefD := ⟨("is_row", none), "is_row", "is_row", defArgs s_is_row, defBody s_is_row, defScope s_is_row, [], []⟩
def d_check_deeds : DefD := ⟨("check_deeds", none), "check_deeds", "check_deeds", defArgs s_check_deeds, defBody s_check_deeds, defScope s_check_deeds, [], []⟩
def d_Machine_new : DefD := ⟨("Machine", some "__init__"), "__init__", "Machine.__init__", defArgs s_Machine_new, defBody s_Machine_new, defScope s_Machine_new, [], []⟩
def d_Machine_first_state : DefD := ⟨("Machine", some "first_state"), "first_state", "Machine.first_state", defArgs s_Machine_first_state, defBody s_Machine_first_state, defScope s_Machine_first_state, [], []⟩
def d_Machine_worked : DefD := ⟨("Machine", some "worked"), "worked", "Machine.worked", defArgs s_Machine_worked, defBody s_Machine_worked, defScope s_Machine_worked, [], []⟩
def d_is_one_of : DefD := ⟨("is_one_of", none), "is_one_of", "is_one_of", defArgs s_is_one_of, defBody s_is_one_of, defScope s_is_one_of, [], []⟩
def d_is_way : DefD := ⟨("is_way", none), "is_way", "is_way", defArgs s_is_way, defBody s_is_way, defScope s_is_way, [], []⟩
def d_is_first_letter : DefD := ⟨("is_first_letter", none), "is_first_letter", "is_first_letter", defArgs s_is_first_letter, defBody s_is_first_letter, defScope s_is_first_letter, [], []⟩
def d_Net_new : DefD := ⟨("Net", some "__init__"), "__init__", "Net.__init__", defArgs s_Net_new, defBody s_Net_new, defScope s_Net_new, [], []⟩
def d_Net_machines : DefD := ⟨("Net", some "machines"), "machines", "Net.machines", defArgs s_Net_machines, defBody s_Net_machines, defScope s_Net_machines, [], []⟩
def d_Net_ways : DefD := ⟨("Net", some "ways"), "ways", "Net.ways", defArgs s_Net_ways, defBody s_Net_ways, defScope s_Net_ways, [], []⟩
def d_Net_letters : DefD := ⟨("Net", some "letters"), "letters", "Net.letters", defArgs s_Net_letters, defBody s_Net_letters, defScope s_Net_letters, [], []⟩
def d_Net_want_machine : DefD := ⟨("Net", some "want_machine"), "want_machine", "Net.want_machine", defArgs s_Net_want_machine, defBody s_Net_want_machine, defScope s_Net_want_machine, [], []⟩
def d_Net_ways_out : DefD := ⟨("Net", some "ways_out"), "ways_out", "Net.ways_out", defArgs s_Net_ways_out, defBody s_Net_ways_out, defScope s_Net_ways_out, [], []⟩
def d_Net_ways_in : DefD := ⟨("Net", some "ways_in"), "ways_in", "Net.ways_in", defArgs s_Net_ways_in, defBody s_Net_ways_in, defScope s_Net_ways_in, [], []⟩
def d_Heap_new : DefD := ⟨("Heap", some "__init__"), "__init__", "Heap.__init__", defArgs s_Heap_new, defBody s_Heap_new, defScope s_Heap_new, [], []⟩
def d_Heap_put : DefD := ⟨("Heap", some "put"), "put", "Heap.put", defArgs s_Heap_put, defBody s_Heap_put, defScope s_Heap_put, [], []⟩
def d_Heap_open_numbers : DefD := ⟨("Heap", some "open_numbers"), "open_numbers", "Heap.open_numbers", defArgs s_Heap_open_numbers, defBody s_Heap_open_numbers, defScope s_Heap_open_numbers, [], []⟩
def d_Run_new : DefD := ⟨("Run", some "__init__"), "__init__", "Run.__init__", defArgs s_Run_new, defBody s_Run_new, defScope s_Run_new, [], []⟩
def d_Run_net : DefD := ⟨("Run", some "net"), "net", "Run.net", defArgs s_Run_net, defBody s_Run_net, defScope s_Run_net, [], []⟩
def d_Run_want_way : DefD := ⟨("Run", some "want_way"), "want_way", "Run.want_way", defArgs s_Run_want_way, defBody s_Run_want_way, defScope s_Run_want_way, [], []⟩
def d_Run_want_put : DefD := ⟨("Run", some "want_put"), "want_put", "Run.want_put", defArgs s_Run_want_put, defBody s_Run_want_put, defScope s_Run_want_put, [], []⟩
def d_Run_pick : DefD := ⟨("Run", some "pick"), "pick", "Run.pick", defArgs s_Run_pick, defBody s_Run_pick, defScope s_Run_pick, [], []⟩
def d_Run_send : DefD := ⟨("Run", some "send"), "send", "Run.send", defArgs s_Run_send, defBody s_Run_send, defScope s_Run_send, [], []⟩
def d_Run_count : DefD := ⟨("Run", some "count"), "count", "Run.count", defArgs s_Run_count, defBody s_Run_count, defScope s_Run_count, [], []⟩
def d_Run_state : DefD := ⟨("Run", some "state"), "state", "Run.state", defArgs s_Run_state, defBody s_Run_state, defScope s_Run_state, [], []⟩
def d_Run_put_many : DefD := ⟨("Run", some "put_many"), "put_many", "Run.put_many", defArgs s_Run_put_many, defBody s_Run_put_many, defScope s_Run_put_many, [], []⟩
def d_Run_schedule : DefD := ⟨("Run", some "schedule"), "schedule", "Run.schedule", defArgs s_Run_schedule, defBody s_Run_schedule, defScope s_Run_schedule, [], []⟩
def d_Run_sent_by : DefD := ⟨("Run", some "sent_by"), "sent_by", "Run.sent_by", defArgs s_Run_sent_by, defBody s_Run_sent_by, defScope s_Run_sent_by, [], []⟩
def d_Run_worked_by : DefD := ⟨("Run", some "worked_by"), "worked_by", "Run.worked_by", defArgs s_Run_worked_by, defBody s_Run_worked_by, defScope s_Run_worked_by, [], []⟩
def d_played_run : DefD := ⟨("played_run", none), "played_run", "played_run", defArgs s_played_run, defBody s_played_run, defScope s_played_run, [], []⟩
def d_Lat : DefD := ⟨("_law_at", none), "_law_at", "_law_at", defArgs s_Lat, defBody s_Lat, defScope s_Lat, [], []⟩
def d_Lpot : DefD := ⟨("_law_pot", none), "_law_pot", "_law_pot", defArgs s_Lpot, defBody s_Lpot, defScope s_Lpot, [], []⟩
def d_Ldigit : DefD := ⟨("_law_digit", none), "_law_digit", "_law_digit", defArgs s_Ldigit, defBody s_Ldigit, defScope s_Ldigit, [], []⟩
def d_Lvalue : DefD := ⟨("_law_value", none), "_law_value", "_law_value", defArgs s_Lvalue, defBody s_Lvalue, defScope s_Lvalue, [], []⟩
def d_Ldeed : DefD := ⟨("_law_deed", none), "_law_deed", "_law_deed", defArgs s_Ldeed, defBody s_Ldeed, defScope s_Ldeed, [], []⟩
def d_Lmachine : DefD := ⟨("_law_machine", none), "_law_machine", "_law_machine", defArgs s_Lmachine, defBody s_Lmachine, defScope s_Lmachine, [], []⟩
def d_Lnet : DefD := ⟨("_law_net", none), "_law_net", "_law_net", defArgs s_Lnet, defBody s_Lnet, defScope s_Lnet, [], []⟩
def d_Lworth : DefD := ⟨("_law_worth", none), "_law_worth", "_law_worth", defArgs s_Lworth, defBody s_Lworth, defScope s_Lworth, [], []⟩
def d_Lworked : DefD := ⟨("_law_worked", none), "_law_worked", "_law_worked", defArgs s_Lworked, defBody s_Lworked, defScope s_Lworked, [], []⟩
def d_Lbegun : DefD := ⟨("_law_begun", none), "_law_begun", "_law_begun", defArgs s_Lbegun, defBody s_Lbegun, defScope s_Lbegun, [], []⟩
def d_Llying : DefD := ⟨("_law_lying", none), "_law_lying", "_law_lying", defArgs s_Llying, defBody s_Llying, defScope s_Llying, [], []⟩
def d_Lfree : DefD := ⟨("_law_free", none), "_law_free", "_law_free", defArgs s_Lfree, defBody s_Lfree, defScope s_Lfree, [], []⟩
def d_Lpick : DefD := ⟨("_law_pick", none), "_law_pick", "_law_pick", defArgs s_Lpick, defBody s_Lpick, defScope s_Lpick, [], []⟩
def d_Lran : DefD := ⟨("_law_ran", none), "_law_ran", "_law_ran", defArgs s_Lran, defBody s_Lran, defScope s_Lran, [], []⟩
def d_Lplayed : DefD := ⟨("_law_played", none), "_law_played", "_law_played", defArgs s_Lplayed, defBody s_Lplayed, defScope s_Lplayed, [], []⟩
def d_Lorphans : DefD := ⟨("_law_orphans", none), "_law_orphans", "_law_orphans", defArgs s_Lorphans, defBody s_Lorphans, defScope s_Lorphans, [], []⟩
def d_Lnet_made : DefD := ⟨("_law_net_made", none), "_law_net_made", "_law_net_made", defArgs s_Lnet_made, defBody s_Lnet_made, defScope s_Lnet_made, [], []⟩
def d_Lany_cut : DefD := ⟨("_law_any_cut", none), "_law_any_cut", "_law_any_cut", defArgs s_Lany_cut, defBody s_Lany_cut, defScope s_Lany_cut, [], []⟩
def d_Lheard_cut : DefD := ⟨("_law_heard_cut", none), "_law_heard_cut", "_law_heard_cut", defArgs s_Lheard_cut, defBody s_Lheard_cut, defScope s_Lheard_cut, [], []⟩
def d_Lcuts : DefD := ⟨("_law_cuts", none), "_law_cuts", "_law_cuts", defArgs s_Lcuts, defBody s_Lcuts, defScope s_Lcuts, [], []⟩
def d_Lrefused : DefD := ⟨("_law_refused", none), "_law_refused", "_law_refused", defArgs s_Lrefused, defBody s_Lrefused, defScope s_Lrefused, [], []⟩
def d_Lare_picks : DefD := ⟨("_law_are_picks", none), "_law_are_picks", "_law_are_picks", defArgs s_Lare_picks, defBody s_Lare_picks, defScope s_Lare_picks, [], []⟩
def d_Lleads : DefD := ⟨("_law_leads", none), "_law_leads", "_law_leads", defArgs s_Lleads, defBody s_Lleads, defScope s_Lleads, [], []⟩
def d_Lparts : DefD := ⟨("_law_parts", none), "_law_parts", "_law_parts", defArgs s_Lparts, defBody s_Lparts, defScope s_Lparts, [], []⟩
def d_Ltold : DefD := ⟨("_law_told", none), "_law_told", "_law_told", defArgs s_Ltold, defBody s_Ltold, defScope s_Ltold, [], []⟩
def d_Lasked : DefD := ⟨("_law_asked", none), "_law_asked", "_law_asked", defArgs s_Lasked, defBody s_Lasked, defScope s_Lasked, [], []⟩
def d_law : DefD := ⟨("law", none), "law", "law", defArgs s_law, defBody s_law, defScope s_law, [], []⟩
def fn : List DefD := [d_Orphaned_new, d_want_cut, d_is_within, d_is_there, d_orphans_of, d_parts_of_cut, d_is_whole, d_is_place, d_is_value, d_worth_of, d_is_deed, d_Bench_new, d_Bench_weighed, d_Bench_change_number, d_Bench_do_deed, d_Bench_left_state, d_is_row, d_check_deeds, d_Machine_new, d_Machine_first_state, d_Machine_worked, d_is_one_of, d_is_way, d_is_first_letter, d_Net_new, d_Net_machines, d_Net_ways, d_Net_letters, d_Net_want_machine, d_Net_ways_out, d_Net_ways_in, d_Heap_new, d_Heap_put, d_Heap_open_numbers, d_Run_new, d_Run_net, d_Run_want_way, d_Run_want_put, d_Run_pick, d_Run_send, d_Run_count, d_Run_state, d_Run_put_many, d_Run_schedule, d_Run_sent_by, d_Run_worked_by, d_played_run, d_Lat, d_Lpot, d_Ldigit, d_Lvalue, d_Ldeed, d_Lmachine, d_Lnet, d_Lworth, d_Lworked, d_Lbegun, d_Llying, d_Lfree, d_Lpick, d_Lran, d_Lplayed, d_Lorphans, d_Lnet_made, d_Lany_cut, d_Lheard_cut, d_Lcuts, d_Lrefused, d_Lare_picks, d_Lleads, d_Lparts, d_Ltold, d_Lasked, d_law]
def fa : List Fa := [.glo "want_cut", .glo "is_within", .glo "is_there", .glo "orphans_of", .glo "parts_of_cut", .glo "is_whole", .glo "is_place", .glo "is_value", .glo "worth_of", .glo "is_deed", .glo "is_row", .glo "check_deeds", .glo "is_one_of", .glo "is_way", .glo "is_first_letter", .glo "played_run", .glo "_law_at", .glo "_law_pot", .glo "_law_digit", .glo "_law_value", .glo "_law_deed", .glo "_law_machine", .glo "_law_net", .glo "_law_worth", .glo "_law_worked", .glo "_law_begun", .glo "_law_lying", .glo "_law_free", .glo "_law_pick", .glo "_law_ran", .glo "_law_played", .glo "_law_orphans", .glo "_law_net_made", .glo "_law_any_cut", .glo "_law_heard_cut", .glo "_law_cuts", .glo "_law_refused", .glo "_law_are_picks", .glo "_law_leads", .glo "_law_parts", .glo "_law_told", .glo "_law_asked", .glo "law", .glo "Bench", .glo "Machine", .glo "Net", .glo "Heap", .glo "Run", .glo "NetError", .glo "NoLetter", .glo "NotFirst", .glo "Orphaned", .free "len", .free "range", .free "enumerate", .free "isinstance", .free "int", .free "bool", .free "tuple", .free "list", .free "str", .free "all", .free "max", .free "zip", .free "sorted", .free "ValueError", .int "LONGEST_ROW" 12, .int "MOST_SKIPPED" 24, .int "GREATEST_MODULUS" 1000000000000, .int "MOST_NUMBERS" 4, .int "MOST_DEEDS" 24, .int "MOST_MACHINES" 5, .int "MOST_WAYS" 10, .int "MOST_LETTERS" 20, .int "FAR" 1000000000000000000000000000000000000000000000000000000000000, .glo "PLAIN", .cls "Bench", .mkr "Bench", .noat "Bench" "held_numbers", .noat "Bench" "held_row", .noat "Bench" "by_way", .noat "Bench" "heard_said", .noat "Bench" "base", .noat "Bench" "sent", .noat "Bench" "said_words", .noat "Bench" "left_out", .cls "Machine", .mkr "Machine", .noat "Machine" "base", .noat "Machine" "begun", .noat "Machine" "todo", .cls "Net", .mkr "Net", .noat "Net" "workers", .noat "Net" "joints", .noat "Net" "begun", .cls "Heap", .mkr "Heap", .noat "Heap" "tells", .noat "Heap" "sender", .noat "Heap" "worker", .cls "Run", .mkr "Run", .noat "Run" "base", .noat "Run" "heaps", .noat "Run" "states", .noat "Run" "word_rows", .noat "Run" "picks", .meth "Bench" "weighed", .meth "Bench" "change_number", .meth "Bench" "do_deed", .meth "Bench" "left_state", .meth "Machine" "first_state", .meth "Machine" "worked", .meth "Net" "machines", .meth "Net" "ways", .meth "Net" "letters", .meth "Net" "want_machine", .meth "Net" "ways_out", .meth "Net" "ways_in", .meth "Heap" "put", .meth "Heap" "open_numbers", .meth "Run" "net", .meth "Run" "want_way", .meth "Run" "want_put", .meth "Run" "pick", .meth "Run" "send", .meth "Run" "count", .meth "Run" "state", .meth "Run" "put_many", .meth "Run" "schedule", .meth "Run" "sent_by", .meth "Run" "worked_by"]
/-! ### further facts of the top -/
def oexB (K : PySem.W.Frag) (C : Addr) : Bool := match K.lookup C with
  | some ⟨.type "type", _, .cls cd, sl⟩ => (match cd.mro, sl.toList with
    | .ref C' :: bm, [_, _, _, _, some (.builtin n), _] => C' == C && (n == "ValueError.__new__" && (!cd.hasDel && (cd.hasDict && PySem.HandSPX.refsVE bm)))
    | _, _ => false)
  | _ => false
theorem oexB_ok {K : PySem.W.Frag} {C : Addr} (q : oexB K C = true) : ∃ nm q N bs bm sn sub ab col dd k0 k1 k2 k3 k5, K.lookup C = some (excClassObj nm q C N bs bm true sn sub ab col dd k0 k1 k2 k3 k5 "ValueError.__new__") ∧ PySem.HandSPX.refsVE bm = true := by
  unfold oexB at q
  split at q
  · rename_i dd cd sl ho
    split at q
    · rename_i C' bm k0 k1 k2 k3 n k5 hm hs
      simp only [Bool.and_eq_true, beq_iff_eq, Bool.not_eq_true'] at q
      obtain ⟨rfl, rfl, hdel, hdic, ht⟩ := q
      obtain ⟨nm, bs, mro, ns, qn, hd, sn, sub, ab, col, del⟩ := cd
      dsimp only at hm hdel hdic
      subst hm hdel hdic
      have hsl : sl = #[k0, k1, k2, k3, some (.builtin "ValueError.__new__"), k5] := by
        obtain ⟨l⟩ := sl
        simp only at hs
        rw [hs]
      subst hsl
      exact ⟨nm, qn, ns, bs, bm, sn, sub, ab, col, dd, k0, k1, k2, k3, k5, ho, ht⟩
    · cases q
  · cases q
abbrev aOr (K : PySem.W.Frag) : Addr := ga K "Orphaned"
abbrev aMa (K : PySem.W.Frag) : Addr := ga K "Machine"
def dz {p : Prop} [Decidable p] : Bool := decide p
/-- what is asked of the top besides -/
def exl (K : PySem.W.Frag) : List Bool := [
  tupB K "PLAIN" [.str "letter", .str "way", .str "first"],
  decide (PySem.W.findIn K (.ref (aMa K)) "__class__" = some (some (.builtin "object.__class__"))),
  decide (PySem.W.specialIn K (.builtin "object.__class__") "__get__" = some (some (.builtin "getset_descriptor.__get__"))),
  decide (PySem.W.takesIn K (.builtin "object.__class__") = some true),
  decide (PySem.W.mroIn K (aMa K) (.type "object") = some true),
  oexB K (aOr K),
  decide (PySem.W.findIn K (.ref (aOr K)) "__setattr__" = some (some (.builtin "object.__setattr__"))),
  decide (PySem.W.subIn K (.ref (aOr K)) (.type "BaseException") = some true),
  decide (PySem.W.typeIn K (.ref (aOr K)) = some (.type "type")),
  PySem.W.keepIn K (.ref (aOr K)),
  decide (PySem.W.findIn K (.ref (aOr K)) "__init__" = some (some (.ref (ma K (aOr K) "__init__")))),
  decide (PySem.W.typeIn K (.ref (ma K (aOr K) "__init__")) = some (.type "function")),
  decide (PySem.W.findIn K (.ref (aOr K)) "letter" = some none),
  decide (PySem.W.findIn K (.ref (aOr K)) "__getattribute__" = some (some (.builtin "BaseException.__getattribute__"))),
  decide (PySem.W.findIn K (.ref (aOr K)) "__getattr__" = some none),
  PySem.W.hasDictIn K (aOr K),
  decide (PySem.W.findIn K (.ref (aOr K)) "__class__" = some (some (.builtin "object.__class__"))),
  decide (PySem.W.mroIn K (aOr K) (.type "object") = some true),
  decide (PySem.W.exmOne K (.ref (aOr K)) (.ref (ga K "NetError")) = some true),
  decide (PySem.W.kitOne K (.ref (aOr K)) (.type "ValueError") = some true)]
def ex (K : PySem.W.Frag) : Bool := (exl K).all id
abbrev AlM : Type := AlD × Bool
def obsM (K : PySem.W.Frag) : AlM := (obsD fa fn K, ex K)
def addrs : List Addr := List.range 761
def hookM : PySem.W.Hook where
  α := AlM
  obs := fun s => obsM (frG s.heap.get? addrs)
  val := fun _ => (valD fn, true)
  says := fun _ h => ∃ K : PySem.W.Frag, K.In h ∧ obsM K = (valD fn, true)
  of := fun _ _ e => ⟨_, frG_in, e⟩
  keeps := fun _ _ _ ⟨K, hK, c⟩ k => ⟨K, PySem.W.Frag.In.keeps hK k, c⟩
/-- all that the walk asks of the top -/
structure Txt (K : PySem.W.Frag) (mg : Str → Option Value) : Prop where
  c : SaysD fa fn K
  e : ex K = true
  h : ∃ h : Heap, K.In h ∧ h.Ns mainGlobals mg
theorem Txt.glo {K : PySem.W.Frag} {mg : Str → Option Value} (T : Txt K mg) {x : Str} (c : (Fa.glo x).ok K = true) : mg x = some (.ref (ga K x)) := let ⟨_, X, G⟩ := T.h; glo_ok X G c
theorem Txt.free {K : PySem.W.Frag} {mg : Str → Option Value} (T : Txt K mg) {x : Str} (c : (Fa.free x).ok K = true) : mg x = none := let ⟨_, X, G⟩ := T.h; free_ok X G c
theorem Txt.int {K : PySem.W.Frag} {mg : Str → Option Value} (T : Txt K mg) {x : Str} {i : Int} (c : (Fa.int x i).ok K = true) : ∃ t, mg x = some (.int i t) := let ⟨_, X, G⟩ := T.h; int_ok X G c
theorem Txt.x {K : PySem.W.Frag} {mg : Str → Option Value} (T : Txt K mg) (i : Nat) {b : Bool} (h : (exl K)[i]? = some b := by rfl) : b = true := List.all_eq_true.mp T.e b (List.mem_of_getElem? h)

section
variable {K : PySem.W.Frag} {mg : Str → Option Value}
theorem Txt.g_want_cut (T : Txt K mg) : mg "want_cut" = some (.ref (ga K "want_cut")) := T.glo (T.c.fact 0 (f := .glo "want_cut") rfl)
theorem Txt.g_is_within (T : Txt K mg) : mg "is_within" = some (.ref (ga K "is_within")) := T.glo (T.c.fact 1 (f := .glo "is_within") rfl)
theorem Txt.g_is_there (T : Txt K mg) : mg "is_there" = some (.ref (ga K "is_there")) := T.glo (T.c.fact 2 (f := .glo "is_there") rfl)
theorem Txt.g_orphans_of (T : Txt K mg) : mg "orphans_of" = some (.ref (ga K "orphans_of")) := T.glo (T.c.fact 3 (f := .glo "orphans_of") rfl)
theorem Txt.g_parts_of_cut (T : Txt K mg) : mg "parts_of_cut" = some (.ref (ga K "parts_of_cut")) := T.glo (T.c.fact 4 (f := .glo "parts_of_cut") rfl)
theorem Txt.g_is_whole (T : Txt K mg) : mg "is_whole" = some (.ref (ga K "is_whole")) := T.glo (T.c.fact 5 (f := .glo "is_whole") rfl)
theorem Txt.g_is_place (T : Txt K mg) : mg "is_place" = some (.ref (ga K "is_place")) := T.glo (T.c.fact 6 (f := .glo "is_place") rfl)
theorem Txt.g_is_value (T : Txt K mg) : mg "is_value" = some (.ref (ga K "is_value")) := T.glo (T.c.fact 7 (f := .glo "is_value") rfl)
theorem Txt.g_worth_of (T : Txt K mg) : mg "worth_of" = some (.ref (ga K "worth_of")) := T.glo (T.c.fact 8 (f := .glo "worth_of") rfl)
theorem Txt.g_is_deed (T : Txt K mg) : mg "is_deed" = some (.ref (ga K "is_deed")) := T.glo (T.c.fact 9 (f := .glo "is_deed") rfl)
theorem Txt.g_is_row (T : Txt K mg) : mg "is_row" = some (.ref (ga K "is_row")) := T.glo (T.c.fact 10 (f := .glo "is_row") rfl)
theorem Txt.g_check_deeds (T : Txt K mg) : mg "check_deeds" = some (.ref (ga K "check_deeds")) := T.glo (T.c.fact 11 (f := .glo "check_deeds") rfl)
theorem Txt.g_is_one_of (T : Txt K mg) : mg "is_one_of" = some (.ref (ga K "is_one_of")) := T.glo (T.c.fact 12 (f := .glo "is_one_of") rfl)
theorem Txt.g_is_way (T : Txt K mg) : mg "is_way" = some (.ref (ga K "is_way")) := T.glo (T.c.fact 13 (f := .glo "is_way") rfl)
theorem Txt.g_is_first_letter (T : Txt K mg) : mg "is_first_letter" = some (.ref (ga K "is_first_letter")) := T.glo (T.c.fact 14 (f := .glo "is_first_letter") rfl)
theorem Txt.g_played_run (T : Txt K mg) : mg "played_run" = some (.ref (ga K "played_run")) := T.glo (T.c.fact 15 (f := .glo "played_run") rfl)
theorem Txt.g_Lat (T : Txt K mg) : mg "_law_at" = some (.ref (ga K "_law_at")) := T.glo (T.c.fact 16 (f := .glo "_law_at") rfl)
theorem Txt.g_Lpot (T : Txt K mg) : mg "_law_pot" = some (.ref (ga K "_law_pot")) := T.glo (T.c.fact 17 (f := .glo "_law_pot") rfl)
theorem Txt.g_Ldigit (T : Txt K mg) : mg "_law_digit" = some (.ref (ga K "_law_digit")) := T.glo (T.c.fact 18 (f := .glo "_law_digit") rfl)
theorem Txt.g_Lvalue (T : Txt K mg) : mg "_law_value" = some (.ref (ga K "_law_value")) := T.glo (T.c.fact 19 (f := .glo "_law_value") rfl)
theorem Txt.g_Ldeed (T : Txt K mg) : mg "_law_deed" = some (.ref (ga K "_law_deed")) := T.glo (T.c.fact 20 (f := .glo "_law_deed") rfl)
theorem Txt.g_Lmachine (T : Txt K mg) : mg "_law_machine" = some (.ref (ga K "_law_machine")) := T.glo (T.c.fact 21 (f := .glo "_law_machine") rfl)
theorem Txt.g_Lnet (T : Txt K mg) : mg "_law_net" = some (.ref (ga K "_law_net")) := T.glo (T.c.fact 22 (f := .glo "_law_net") rfl)
theorem Txt.g_Lworth (T : Txt K mg) : mg "_law_worth" = some (.ref (ga K "_law_worth")) := T.glo (T.c.fact 23 (f := .glo "_law_worth") rfl)
theorem Txt.g_Lworked (T : Txt K mg) : mg "_law_worked" = some (.ref (ga K "_law_worked")) := T.glo (T.c.fact 24 (f := .glo "_law_worked") rfl)
theorem Txt.g_Lbegun (T : Txt K mg) : mg "_law_begun" = some (.ref (ga K "_law_begun")) := T.glo (T.c.fact 25 (f := .glo "_law_begun") rfl)
theorem Txt.g_Llying (T : Txt K mg) : mg "_law_lying" = some (.ref (ga K "_law_lying")) := T.glo (T.c.fact 26 (f := .glo "_law_lying") rfl)
theorem Txt.g_Lfree (T : Txt K mg) : mg "_law_free" = some (.ref (ga K "_law_free")) := T.glo (T.c.fact 27 (f := .glo "_law_free") rfl)
theorem Txt.g_Lpick (T : Txt K mg) : mg "_law_pick" = some (.ref (ga K "_law_pick")) := T.glo (T.c.fact 28 (f := .glo "_law_pick") rfl)
theorem Txt.g_Lran (T : Txt K mg) : mg "_law_ran" = some (.ref (ga K "_law_ran")) := T.glo (T.c.fact 29 (f := .glo "_law_ran") rfl)
theorem Txt.g_Lplayed (T : Txt K mg) : mg "_law_played" = some (.ref (ga K "_law_played")) := T.glo (T.c.fact 30 (f := .glo "_law_played") rfl)
theorem Txt.g_Lorphans (T : Txt K mg) : mg "_law_orphans" = some (.ref (ga K "_law_orphans")) := T.glo (T.c.fact 31 (f := .glo "_law_orphans") rfl)
theorem Txt.g_Lnet_made (T : Txt K mg) : mg "_law_net_made" = some (.ref (ga K "_law_net_made")) := T.glo (T.c.fact 32 (f := .glo "_law_net_made") rfl)
theorem Txt.g_Lany_cut (T : Txt K mg) : mg "_law_any_cut" = some (.ref (ga K "_law_any_cut")) := T.glo (T.c.fact 33 (f := .glo "_law_any_cut") rfl)
theorem Txt.g_Lheard_cut (T : Txt K mg) : mg "_law_heard_cut" = some (.ref (ga K "_law_heard_cut")) := T.glo (T.c.fact 34 (f := .glo "_law_heard_cut") rfl)
theorem Txt.g_Lcuts (T : Txt K mg) : mg "_law_cuts" = some (.ref (ga K "_law_cuts")) := T.glo (T.c.fact 35 (f := .glo "_law_cuts") rfl)
theorem Txt.g_Lrefused (T : Txt K mg) : mg "_law_refused" = some (.ref (ga K "_law_refused")) := T.glo (T.c.fact 36 (f := .glo "_law_refused") rfl)
theorem Txt.g_Lare_picks (T : Txt K mg) : mg "_law_are_picks" = some (.ref (ga K "_law_are_picks")) := T.glo (T.c.fact 37 (f := .glo "_law_are_picks") rfl)
theorem Txt.g_Lleads (T : Txt K mg) : mg "_law_leads" = some (.ref (ga K "_law_leads")) := T.glo (T.c.fact 38 (f := .glo "_law_leads") rfl)
theorem Txt.g_Lparts (T : Txt K mg) : mg "_law_parts" = some (.ref (ga K "_law_parts")) := T.glo (T.c.fact 39 (f := .glo "_law_parts") rfl)
theorem Txt.g_Ltold (T : Txt K mg) : mg "_law_told" = some (.ref (ga K "_law_told")) := T.glo (T.c.fact 40 (f := .glo "_law_told") rfl)
theorem Txt.g_Lasked (T : Txt K mg) : mg "_law_asked" = some (.ref (ga K "_law_asked")) := T.glo (T.c.fact 41 (f := .glo "_law_asked") rfl)
theorem Txt.g_law (T : Txt K mg) : mg "law" = some (.ref (ga K "law")) := T.glo (T.c.fact 42 (f := .glo "law") rfl)
theorem Txt.g_Bench (T : Txt K mg) : mg "Bench" = some (.ref (ga K "Bench")) := T.glo (T.c.fact 43 (f := .glo "Bench") rfl)
theorem Txt.g_Machine (T : Txt K mg) : mg "Machine" = some (.ref (ga K "Machine")) := T.glo (T.c.fact 44 (f := .glo "Machine") rfl)
theorem Txt.g_Net (T : Txt K mg) : mg "Net" = some (.ref (ga K "Net")) := T.glo (T.c.fact 45 (f := .glo "Net") rfl)
theorem Txt.g_Heap (T : Txt K mg) : mg "Heap" = some (.ref (ga K "Heap")) := T.glo (T.c.fact 46 (f := .glo "Heap") rfl)
theorem Txt.g_Run (T : Txt K mg) : mg "Run" = some (.ref (ga K "Run")) := T.glo (T.c.fact 47 (f := .glo "Run") rfl)
theorem Txt.g_NetError (T : Txt K mg) : mg "NetError" = some (.ref (ga K "NetError")) := T.glo (T.c.fact 48 (f := .glo "NetError") rfl)
theorem Txt.g_NoLetter (T : Txt K mg) : mg "NoLetter" = some (.ref (ga K "NoLetter")) := T.glo (T.c.fact 49 (f := .glo "NoLetter") rfl)
theorem Txt.g_NotFirst (T : Txt K mg) : mg "NotFirst" = some (.ref (ga K "NotFirst")) := T.glo (T.c.fact 50 (f := .glo "NotFirst") rfl)
theorem Txt.g_Orphaned (T : Txt K mg) : mg "Orphaned" = some (.ref (ga K "Orphaned")) := T.glo (T.c.fact 51 (f := .glo "Orphaned") rfl)
theorem Txt.f_len (T : Txt K mg) : mg "len" = none := T.free (T.c.fact 52 (f := .free "len") rfl)
theorem Txt.f_range (T : Txt K mg) : mg "range" = none := T.free (T.c.fact 53 (f := .free "range") rfl)
theorem Txt.f_enumerate (T : Txt K mg) : mg "enumerate" = none := T.free (T.c.fact 54 (f := .free "enumerate") rfl)
theorem Txt.f_isinstance (T : Txt K mg) : mg "isinstance" = none := T.free (T.c.fact 55 (f := .free "isinstance") rfl)
theorem Txt.f_int (T : Txt K mg) : mg "int" = none := T.free (T.c.fact 56 (f := .free "int") rfl)
theorem Txt.f_bool (T : Txt K mg) : mg "bool" = none := T.free (T.c.fact 57 (f := .free "bool") rfl)
theorem Txt.f_tuple (T : Txt K mg) : mg "tuple" = none := T.free (T.c.fact 58 (f := .free "tuple") rfl)
theorem Txt.f_list (T : Txt K mg) : mg "list" = none := T.free (T.c.fact 59 (f := .free "list") rfl)
theorem Txt.f_str (T : Txt K mg) : mg "str" = none := T.free (T.c.fact 60 (f := .free "str") rfl)
theorem Txt.f_all (T : Txt K mg) : mg "all" = none := T.free (T.c.fact 61 (f := .free "all") rfl)
theorem Txt.f_max (T : Txt K mg) : mg "max" = none := T.free (T.c.fact 62 (f := .free "max") rfl)
theorem Txt.f_zip (T : Txt K mg) : mg "zip" = none := T.free (T.c.fact 63 (f := .free "zip") rfl)
theorem Txt.f_sorted (T : Txt K mg) : mg "sorted" = none := T.free (T.c.fact 64 (f := .free "sorted") rfl)
theorem Txt.f_ValueError (T : Txt K mg) : mg "ValueError" = none := T.free (T.c.fact 65 (f := .free "ValueError") rfl)
theorem Txt.i_LONGEST_ROW (T : Txt K mg) : ∃ t, mg "LONGEST_ROW" = some (.int 12 t) := T.int (T.c.fact 66 (f := .int "LONGEST_ROW" 12) rfl)
theorem Txt.i_MOST_SKIPPED (T : Txt K mg) : ∃ t, mg "MOST_SKIPPED" = some (.int 24 t) := T.int (T.c.fact 67 (f := .int "MOST_SKIPPED" 24) rfl)
theorem Txt.i_GREATEST_MODULUS (T : Txt K mg) : ∃ t, mg "GREATEST_MODULUS" = some (.int 1000000000000 t) := T.int (T.c.fact 68 (f := .int "GREATEST_MODULUS" 1000000000000) rfl)
theorem Txt.i_MOST_NUMBERS (T : Txt K mg) : ∃ t, mg "MOST_NUMBERS" = some (.int 4 t) := T.int (T.c.fact 69 (f := .int "MOST_NUMBERS" 4) rfl)
theorem Txt.i_MOST_DEEDS (T : Txt K mg) : ∃ t, mg "MOST_DEEDS" = some (.int 24 t) := T.int (T.c.fact 70 (f := .int "MOST_DEEDS" 24) rfl)
theorem Txt.i_MOST_MACHINES (T : Txt K mg) : ∃ t, mg "MOST_MACHINES" = some (.int 5 t) := T.int (T.c.fact 71 (f := .int "MOST_MACHINES" 5) rfl)
theorem Txt.i_MOST_WAYS (T : Txt K mg) : ∃ t, mg "MOST_WAYS" = some (.int 10 t) := T.int (T.c.fact 72 (f := .int "MOST_WAYS" 10) rfl)
theorem Txt.i_MOST_LETTERS (T : Txt K mg) : ∃ t, mg "MOST_LETTERS" = some (.int 20 t) := T.int (T.c.fact 73 (f := .int "MOST_LETTERS" 20) rfl)
theorem Txt.i_FAR (T : Txt K mg) : ∃ t, mg "FAR" = some (.int 1000000000000000000000000000000000000000000000000000000000000 t) := T.int (T.c.fact 74 (f := .int "FAR" 1000000000000000000000000000000000000000000000000000000000000) rfl)
theorem Txt.g_PLAIN (T : Txt K mg) : mg "PLAIN" = some (.ref (ga K "PLAIN")) := T.glo (T.c.fact 75 (f := .glo "PLAIN") rfl)
theorem Txt.c_Bench (T : Txt K mg) : Cls K (ga K "Bench") := He.cls_ok (T.c.fact 76 (f := .cls "Bench") rfl)
theorem Txt.mk_Bench (T : Txt K mg) : Mk K (ga K "Bench") (ma K (ga K "Bench") "__init__") := He.mkr_ok (T.c.fact 77 (f := .mkr "Bench") rfl)
theorem Txt.n_Bench_held_numbers (T : Txt K mg) : NoAttr K (ga K "Bench") "held_numbers" := He.noat_ok (T.c.fact 78 (f := .noat "Bench" "held_numbers") rfl)
theorem Txt.n_Bench_held_row (T : Txt K mg) : NoAttr K (ga K "Bench") "held_row" := He.noat_ok (T.c.fact 79 (f := .noat "Bench" "held_row") rfl)
theorem Txt.n_Bench_by_way (T : Txt K mg) : NoAttr K (ga K "Bench") "by_way" := He.noat_ok (T.c.fact 80 (f := .noat "Bench" "by_way") rfl)
theorem Txt.n_Bench_heard_said (T : Txt K mg) : NoAttr K (ga K "Bench") "heard_said" := He.noat_ok (T.c.fact 81 (f := .noat "Bench" "heard_said") rfl)
theorem Txt.n_Bench_base (T : Txt K mg) : NoAttr K (ga K "Bench") "base" := He.noat_ok (T.c.fact 82 (f := .noat "Bench" "base") rfl)
theorem Txt.n_Bench_sent (T : Txt K mg) : NoAttr K (ga K "Bench") "sent" := He.noat_ok (T.c.fact 83 (f := .noat "Bench" "sent") rfl)
theorem Txt.n_Bench_said_words (T : Txt K mg) : NoAttr K (ga K "Bench") "said_words" := He.noat_ok (T.c.fact 84 (f := .noat "Bench" "said_words") rfl)
theorem Txt.n_Bench_left_out (T : Txt K mg) : NoAttr K (ga K "Bench") "left_out" := He.noat_ok (T.c.fact 85 (f := .noat "Bench" "left_out") rfl)
theorem Txt.c_Machine (T : Txt K mg) : Cls K (ga K "Machine") := He.cls_ok (T.c.fact 86 (f := .cls "Machine") rfl)
theorem Txt.mk_Machine (T : Txt K mg) : Mk K (ga K "Machine") (ma K (ga K "Machine") "__init__") := He.mkr_ok (T.c.fact 87 (f := .mkr "Machine") rfl)
theorem Txt.n_Machine_base (T : Txt K mg) : NoAttr K (ga K "Machine") "base" := He.noat_ok (T.c.fact 88 (f := .noat "Machine" "base") rfl)
theorem Txt.n_Machine_begun (T : Txt K mg) : NoAttr K (ga K "Machine") "begun" := He.noat_ok (T.c.fact 89 (f := .noat "Machine" "begun") rfl)
theorem Txt.n_Machine_todo (T : Txt K mg) : NoAttr K (ga K "Machine") "todo" := He.noat_ok (T.c.fact 90 (f := .noat "Machine" "todo") rfl)
theorem Txt.c_Net (T : Txt K mg) : Cls K (ga K "Net") := He.cls_ok (T.c.fact 91 (f := .cls "Net") rfl)
theorem Txt.mk_Net (T : Txt K mg) : Mk K (ga K "Net") (ma K (ga K "Net") "__init__") := He.mkr_ok (T.c.fact 92 (f := .mkr "Net") rfl)
theorem Txt.n_Net_workers (T : Txt K mg) : NoAttr K (ga K "Net") "workers" := He.noat_ok (T.c.fact 93 (f := .noat "Net" "workers") rfl)
theorem Txt.n_Net_joints (T : Txt K mg) : NoAttr K (ga K "Net") "joints" := He.noat_ok (T.c.fact 94 (f := .noat "Net" "joints") rfl)
theorem Txt.n_Net_begun (T : Txt K mg) : NoAttr K (ga K "Net") "begun" := He.noat_ok (T.c.fact 95 (f := .noat "Net" "begun") rfl)
theorem Txt.c_Heap (T : Txt K mg) : Cls K (ga K "Heap") := He.cls_ok (T.c.fact 96 (f := .cls "Heap") rfl)
theorem Txt.mk_Heap (T : Txt K mg) : Mk K (ga K "Heap") (ma K (ga K "Heap") "__init__") := He.mkr_ok (T.c.fact 97 (f := .mkr "Heap") rfl)
theorem Txt.n_Heap_tells (T : Txt K mg) : NoAttr K (ga K "Heap") "tells" := He.noat_ok (T.c.fact 98 (f := .noat "Heap" "tells") rfl)
theorem Txt.n_Heap_sender (T : Txt K mg) : NoAttr K (ga K "Heap") "sender" := He.noat_ok (T.c.fact 99 (f := .noat "Heap" "sender") rfl)
theorem Txt.n_Heap_worker (T : Txt K mg) : NoAttr K (ga K "Heap") "worker" := He.noat_ok (T.c.fact 100 (f := .noat "Heap" "worker") rfl)
theorem Txt.c_Run (T : Txt K mg) : Cls K (ga K "Run") := He.cls_ok (T.c.fact 101 (f := .cls "Run") rfl)
theorem Txt.mk_Run (T : Txt K mg) : Mk K (ga K "Run") (ma K (ga K "Run") "__init__") := He.mkr_ok (T.c.fact 102 (f := .mkr "Run") rfl)
theorem Txt.n_Run_base (T : Txt K mg) : NoAttr K (ga K "Run") "base" := He.noat_ok (T.c.fact 103 (f := .noat "Run" "base") rfl)
theorem Txt.n_Run_heaps (T : Txt K mg) : NoAttr K (ga K "Run") "heaps" := He.noat_ok (T.c.fact 104 (f := .noat "Run" "heaps") rfl)
theorem Txt.n_Run_states (T : Txt K mg) : NoAttr K (ga K "Run") "states" := He.noat_ok (T.c.fact 105 (f := .noat "Run" "states") rfl)
theorem Txt.n_Run_word_rows (T : Txt K mg) : NoAttr K (ga K "Run") "word_rows" := He.noat_ok (T.c.fact 106 (f := .noat "Run" "word_rows") rfl)
theorem Txt.n_Run_picks (T : Txt K mg) : NoAttr K (ga K "Run") "picks" := He.noat_ok (T.c.fact 107 (f := .noat "Run" "picks") rfl)
theorem Txt.m_Bench_weighed (T : Txt K mg) : Meth K (ga K "Bench") "weighed" (ma K (ga K "Bench") "weighed") := He.meth_ok (T.c.fact 108 (f := .meth "Bench" "weighed") rfl)
theorem Txt.m_Bench_change_number (T : Txt K mg) : Meth K (ga K "Bench") "change_number" (ma K (ga K "Bench") "change_number") := He.meth_ok (T.c.fact 109 (f := .meth "Bench" "change_number") rfl)
theorem Txt.m_Bench_do_deed (T : Txt K mg) : Meth K (ga K "Bench") "do_deed" (ma K (ga K "Bench") "do_deed") := He.meth_ok (T.c.fact 110 (f := .meth "Bench" "do_deed") rfl)
theorem Txt.m_Bench_left_state (T : Txt K mg) : Meth K (ga K "Bench") "left_state" (ma K (ga K "Bench") "left_state") := He.meth_ok (T.c.fact 111 (f := .meth "Bench" "left_state") rfl)
theorem Txt.m_Machine_first_state (T : Txt K mg) : Meth K (ga K "Machine") "first_state" (ma K (ga K "Machine") "first_state") := He.meth_ok (T.c.fact 112 (f := .meth "Machine" "first_state") rfl)
theorem Txt.m_Machine_worked (T : Txt K mg) : Meth K (ga K "Machine") "worked" (ma K (ga K "Machine") "worked") := He.meth_ok (T.c.fact 113 (f := .meth "Machine" "worked") rfl)
theorem Txt.m_Net_machines (T : Txt K mg) : Meth K (ga K "Net") "machines" (ma K (ga K "Net") "machines") := He.meth_ok (T.c.fact 114 (f := .meth "Net" "machines") rfl)
theorem Txt.m_Net_ways (T : Txt K mg) : Meth K (ga K "Net") "ways" (ma K (ga K "Net") "ways") := He.meth_ok (T.c.fact 115 (f := .meth "Net" "ways") rfl)
theorem Txt.m_Net_letters (T : Txt K mg) : Meth K (ga K "Net") "letters" (ma K (ga K "Net") "letters") := He.meth_ok (T.c.fact 116 (f := .meth "Net" "letters") rfl)
theorem Txt.m_Net_want_machine (T : Txt K mg) : Meth K (ga K "Net") "want_machine" (ma K (ga K "Net") "want_machine") := He.meth_ok (T.c.fact 117 (f := .meth "Net" "want_machine") rfl)
theorem Txt.m_Net_ways_out (T : Txt K mg) : Meth K (ga K "Net") "ways_out" (ma K (ga K "Net") "ways_out") := He.meth_ok (T.c.fact 118 (f := .meth "Net" "ways_out") rfl)
theorem Txt.m_Net_ways_in (T : Txt K mg) : Meth K (ga K "Net") "ways_in" (ma K (ga K "Net") "ways_in") := He.meth_ok (T.c.fact 119 (f := .meth "Net" "ways_in") rfl)
theorem Txt.m_Heap_put (T : Txt K mg) : Meth K (ga K "Heap") "put" (ma K (ga K "Heap") "put") := He.meth_ok (T.c.fact 120 (f := .meth "Heap" "put") rfl)
theorem Txt.m_Heap_open_numbers (T : Txt K mg) : Meth K (ga K "Heap") "open_numbers" (ma K (ga K "Heap") "open_numbers") := He.meth_ok (T.c.fact 121 (f := .meth "Heap" "open_numbers") rfl)
theorem Txt.m_Run_net (T : Txt K mg) : Meth K (ga K "Run") "net" (ma K (ga K "Run") "net") := He.meth_ok (T.c.fact 122 (f := .meth "Run" "net") rfl)
theorem Txt.m_Run_want_way (T : Txt K mg) : Meth K (ga K "Run") "want_way" (ma K (ga K "Run") "want_way") := He.meth_ok (T.c.fact 123 (f := .meth "Run" "want_way") rfl)
theorem Txt.m_Run_want_put (T : Txt K mg) : Meth K (ga K "Run") "want_put" (ma K (ga K "Run") "want_put") := He.meth_ok (T.c.fact 124 (f := .meth "Run" "want_put") rfl)
theorem Txt.m_Run_pick (T : Txt K mg) : Meth K (ga K "Run") "pick" (ma K (ga K "Run") "pick") := He.meth_ok (T.c.fact 125 (f := .meth "Run" "pick") rfl)
theorem Txt.m_Run_send (T : Txt K mg) : Meth K (ga K "Run") "send" (ma K (ga K "Run") "send") := He.meth_ok (T.c.fact 126 (f := .meth "Run" "send") rfl)
theorem Txt.m_Run_count (T : Txt K mg) : Meth K (ga K "Run") "count" (ma K (ga K "Run") "count") := He.meth_ok (T.c.fact 127 (f := .meth "Run" "count") rfl)
theorem Txt.m_Run_state (T : Txt K mg) : Meth K (ga K "Run") "state" (ma K (ga K "Run") "state") := He.meth_ok (T.c.fact 128 (f := .meth "Run" "state") rfl)
theorem Txt.m_Run_put_many (T : Txt K mg) : Meth K (ga K "Run") "put_many" (ma K (ga K "Run") "put_many") := He.meth_ok (T.c.fact 129 (f := .meth "Run" "put_many") rfl)
theorem Txt.m_Run_schedule (T : Txt K mg) : Meth K (ga K "Run") "schedule" (ma K (ga K "Run") "schedule") := He.meth_ok (T.c.fact 130 (f := .meth "Run" "schedule") rfl)
theorem Txt.m_Run_sent_by (T : Txt K mg) : Meth K (ga K "Run") "sent_by" (ma K (ga K "Run") "sent_by") := He.meth_ok (T.c.fact 131 (f := .meth "Run" "sent_by") rfl)
theorem Txt.m_Run_worked_by (T : Txt K mg) : Meth K (ga K "Run") "worked_by" (ma K (ga K "Run") "worked_by") := He.meth_ok (T.c.fact 132 (f := .meth "Run" "worked_by") rfl)
theorem Txt.D_Orphaned_new (T : Txt K mg) : ∃ fd, FunD K "__init__" "Orphaned.__init__" (defArgs s_Orphaned_new) (defBody s_Orphaned_new) (defScope s_Orphaned_new) [] [] (ma K (ga K "Orphaned") "__init__") fd := T.c.def_ 0 (d := d_Orphaned_new) rfl
theorem Txt.D_want_cut (T : Txt K mg) : ∃ fd, FunD K "want_cut" "want_cut" (defArgs s_want_cut) (defBody s_want_cut) (defScope s_want_cut) [] [] (ga K "want_cut") fd := T.c.def_ 1 (d := d_want_cut) rfl
theorem Txt.D_is_within (T : Txt K mg) : ∃ fd, FunD K "is_within" "is_within" (defArgs s_is_within) (defBody s_is_within) (defScope s_is_within) [] [] (ga K "is_within") fd := T.c.def_ 2 (d := d_is_within) rfl
theorem Txt.D_is_there (T : Txt K mg) : ∃ fd, FunD K "is_there" "is_there" (defArgs s_is_there) (defBody s_is_there) (defScope s_is_there) [] [] (ga K "is_there") fd := T.c.def_ 3 (d := d_is_there) rfl
theorem Txt.D_orphans_of (T : Txt K mg) : ∃ fd, FunD K "orphans_of" "orphans_of" (defArgs s_orphans_of) (defBody s_orphans_of) (defScope s_orphans_of) [] [] (ga K "orphans_of") fd := T.c.def_ 4 (d := d_orphans_of) rfl
theorem Txt.D_parts_of_cut (T : Txt K mg) : ∃ fd, FunD K "parts_of_cut" "parts_of_cut" (defArgs s_parts_of_cut) (defBody s_parts_of_cut) (defScope s_parts_of_cut) [] [] (ga K "parts_of_cut") fd := T.c.def_ 5 (d := d_parts_of_cut) rfl
theorem Txt.D_is_whole (T : Txt K mg) : ∃ fd, FunD K "is_whole" "is_whole" (defArgs s_is_whole) (defBody s_is_whole) (defScope s_is_whole) [] [] (ga K "is_whole") fd := T.c.def_ 6 (d := d_is_whole) rfl
theorem Txt.D_is_place (T : Txt K mg) : ∃ fd, FunD K "is_place" "is_place" (defArgs s_is_place) (defBody s_is_place) (defScope s_is_place) [] [] (ga K "is_place") fd := T.c.def_ 7 (d := d_is_place) rfl
theorem Txt.D_is_value (T : Txt K mg) : ∃ fd, FunD K "is_value" "is_value" (defArgs s_is_value) (defBody s_is_value) (defScope s_is_value) [] [] (ga K "is_value") fd := T.c.def_ 8 (d := d_is_value) rfl
theorem Txt.D_worth_of (T : Txt K mg) : ∃ fd, FunD K "worth_of" "worth_of" (defArgs s_worth_of) (defBody s_worth_of) (defScope s_worth_of) [] [] (ga K "worth_of") fd := T.c.def_ 9 (d := d_worth_of) rfl
theorem Txt.D_is_deed (T : Txt K mg) : ∃ fd, FunD K "is_deed" "is_deed" (defArgs s_is_deed) (defBody s_is_deed) (defScope s_is_deed) [] [] (ga K "is_deed") fd := T.c.def_ 10 (d := d_is_deed) rfl
theorem Txt.D_Bench_new (T : Txt K mg) : ∃ fd, FunD K "__init__" "Bench.__init__" (defArgs s_Bench_new) (defBody s_Bench_new) (defScope s_Bench_new) [] [] (ma K (ga K "Bench") "__init__") fd := T.c.def_ 11 (d := d_Bench_new) rfl
theorem Txt.D_Bench_weighed (T : Txt K mg) : ∃ fd, FunD K "weighed" "Bench.weighed" (defArgs s_Bench_weighed) (defBody s_Bench_weighed) (defScope s_Bench_weighed) [] [] (ma K (ga K "Bench") "weighed") fd := T.c.def_ 12 (d := d_Bench_weighed) rfl
theorem Txt.D_Bench_change_number (T : Txt K mg) : ∃ fd, FunD K "change_number" "Bench.change_number" (defArgs s_Bench_change_number) (defBody s_Bench_change_number) (defScope s_Bench_change_number) [] [] (ma K (ga K "Bench") "change_number") fd := T.c.def_ 13 (d := d_Bench_change_number) rfl
theorem Txt.D_Bench_do_deed (T : Txt K mg) : ∃ fd, FunD K "do_deed" "Bench.do_deed" (defArgs s_Bench_do_deed) (defBody s_Bench_do_deed) (defScope s_Bench_do_deed) [] [] (ma K (ga K "Bench") "do_deed") fd := T.c.def_ 14 (d := d_Bench_do_deed) rfl
theorem Txt.D_Bench_left_state (T : Txt K mg) : ∃ fd, FunD K "left_state" "Bench.left_state" (defArgs s_Bench_left_state) (defBody s_Bench_left_state) (defScope s_Bench_left_state) [] [] (ma K (ga K "Bench") "left_state") fd := T.c.def_ 15 (d := d_Bench_left_state) rfl
theorem Txt.D_is_row (T : Txt K mg) : ∃ fd, FunD K "is_row" "is_row" (defArgs s_is_row) (defBody s_is_row) (defScope s_is_row) [] [] (ga K "is_row") fd := T.c.def_ 16 (d := d_is_row) rfl
theorem Txt.D_check_deeds (T : Txt K mg) : ∃ fd, FunD K "check_deeds" "check_deeds" (defArgs s_check_deeds) (defBody s_check_deeds) (defScope s_check_deeds) [] [] (ga K "check_deeds") fd := T.c.def_ 17 (d := d_check_deeds) rfl
theorem Txt.D_Machine_new (T : Txt K mg) : ∃ fd, FunD K "__init__" "Machine.__init__" (defArgs s_Machine_new) (defBody s_Machine_new) (defScope s_Machine_new) [] [] (ma K (ga K "Machine") "__init__") fd := T.c.def_ 18 (d := d_Machine_new) rfl
theorem Txt.D_Machine_first_state (T : Txt K mg) : ∃ fd, FunD K "first_state" "Machine.first_state" (defArgs s_Machine_first_state) (defBody s_Machine_first_state) (defScope s_Machine_first_state) [] [] (ma K (ga K "Machine") "first_state") fd := T.c.def_ 19 (d := d_Machine_first_state) rfl
theorem Txt.D_Machine_worked (T : Txt K mg) : ∃ fd, FunD K "worked" "Machine.worked" (defArgs s_Machine_worked) (defBody s_Machine_worked) (defScope s_Machine_worked) [] [] (ma K (ga K "Machine") "worked") fd := T.c.def_ 20 (d := d_Machine_worked) rfl
theorem Txt.D_is_one_of (T : Txt K mg) : ∃ fd, FunD K "is_one_of" "is_one_of" (defArgs s_is_one_of) (defBody s_is_one_of) (defScope s_is_one_of) [] [] (ga K "is_one_of") fd := T.c.def_ 21 (d := d_is_one_of) rfl
theorem Txt.D_is_way (T : Txt K mg) : ∃ fd, FunD K "is_way" "is_way" (defArgs s_is_way) (defBody s_is_way) (defScope s_is_way) [] [] (ga K "is_way") fd := T.c.def_ 22 (d := d_is_way) rfl
theorem Txt.D_is_first_letter (T : Txt K mg) : ∃ fd, FunD K "is_first_letter" "is_first_letter" (defArgs s_is_first_letter) (defBody s_is_first_letter) (defScope s_is_first_letter) [] [] (ga K "is_first_letter") fd := T.c.def_ 23 (d := d_is_first_letter) rfl
theorem Txt.D_Net_new (T : Txt K mg) : ∃ fd, FunD K "__init__" "Net.__init__" (defArgs s_Net_new) (defBody s_Net_new) (defScope s_Net_new) [] [] (ma K (ga K "Net") "__init__") fd := T.c.def_ 24 (d := d_Net_new) rfl
theorem Txt.D_Net_machines (T : Txt K mg) : ∃ fd, FunD K "machines" "Net.machines" (defArgs s_Net_machines) (defBody s_Net_machines) (defScope s_Net_machines) [] [] (ma K (ga K "Net") "machines") fd := T.c.def_ 25 (d := d_Net_machines) rfl
theorem Txt.D_Net_ways (T : Txt K mg) : ∃ fd, FunD K "ways" "Net.ways" (defArgs s_Net_ways) (defBody s_Net_ways) (defScope s_Net_ways) [] [] (ma K (ga K "Net") "ways") fd := T.c.def_ 26 (d := d_Net_ways) rfl
theorem Txt.D_Net_letters (T : Txt K mg) : ∃ fd, FunD K "letters" "Net.letters" (defArgs s_Net_letters) (defBody s_Net_letters) (defScope s_Net_letters) [] [] (ma K (ga K "Net") "letters") fd := T.c.def_ 27 (d := d_Net_letters) rfl
theorem Txt.D_Net_want_machine (T : Txt K mg) : ∃ fd, FunD K "want_machine" "Net.want_machine" (defArgs s_Net_want_machine) (defBody s_Net_want_machine) (defScope s_Net_want_machine) [] [] (ma K (ga K "Net") "want_machine") fd := T.c.def_ 28 (d := d_Net_want_machine) rfl
theorem Txt.D_Net_ways_out (T : Txt K mg) : ∃ fd, FunD K "ways_out" "Net.ways_out" (defArgs s_Net_ways_out) (defBody s_Net_ways_out) (defScope s_Net_ways_out) [] [] (ma K (ga K "Net") "ways_out") fd := T.c.def_ 29 (d := d_Net_ways_out) rfl
theorem Txt.D_Net_ways_in (T : Txt K mg) : ∃ fd, FunD K "ways_in" "Net.ways_in" (defArgs s_Net_ways_in) (defBody s_Net_ways_in) (defScope s_Net_ways_in) [] [] (ma K (ga K "Net") "ways_in") fd := T.c.def_ 30 (d := d_Net_ways_in) rfl
theorem Txt.D_Heap_new (T : Txt K mg) : ∃ fd, FunD K "__init__" "Heap.__init__" (defArgs s_Heap_new) (defBody s_Heap_new) (defScope s_Heap_new) [] [] (ma K (ga K "Heap") "__init__") fd := T.c.def_ 31 (d := d_Heap_new) rfl
theorem Txt.D_Heap_put (T : Txt K mg) : ∃ fd, FunD K "put" "Heap.put" (defArgs s_Heap_put) (defBody s_Heap_put) (defScope s_Heap_put) [] [] (ma K (ga K "Heap") "put") fd := T.c.def_ 32 (d := d_Heap_put) rfl
theorem Txt.D_Heap_open_numbers (T : Txt K mg) : ∃ fd, FunD K "open_numbers" "Heap.open_numbers" (defArgs s_Heap_open_numbers) (defBody s_Heap_open_numbers) (defScope s_Heap_open_numbers) [] [] (ma K (ga K "Heap") "open_numbers") fd := T.c.def_ 33 (d := d_Heap_open_numbers) rfl
theorem Txt.D_Run_new (T : Txt K mg) : ∃ fd, FunD K "__init__" "Run.__init__" (defArgs s_Run_new) (defBody s_Run_new) (defScope s_Run_new) [] [] (ma K (ga K "Run") "__init__") fd := T.c.def_ 34 (d := d_Run_new) rfl
theorem Txt.D_Run_net (T : Txt K mg) : ∃ fd, FunD K "net" "Run.net" (defArgs s_Run_net) (defBody s_Run_net) (defScope s_Run_net) [] [] (ma K (ga K "Run") "net") fd := T.c.def_ 35 (d := d_Run_net) rfl
theorem Txt.D_Run_want_way (T : Txt K mg) : ∃ fd, FunD K "want_way" "Run.want_way" (defArgs s_Run_want_way) (defBody s_Run_want_way) (defScope s_Run_want_way) [] [] (ma K (ga K "Run") "want_way") fd := T.c.def_ 36 (d := d_Run_want_way) rfl
theorem Txt.D_Run_want_put (T : Txt K mg) : ∃ fd, FunD K "want_put" "Run.want_put" (defArgs s_Run_want_put) (defBody s_Run_want_put) (defScope s_Run_want_put) [] [] (ma K (ga K "Run") "want_put") fd := T.c.def_ 37 (d := d_Run_want_put) rfl
theorem Txt.D_Run_pick (T : Txt K mg) : ∃ fd, FunD K "pick" "Run.pick" (defArgs s_Run_pick) (defBody s_Run_pick) (defScope s_Run_pick) [] [] (ma K (ga K "Run") "pick") fd := T.c.def_ 38 (d := d_Run_pick) rfl
theorem Txt.D_Run_send (T : Txt K mg) : ∃ fd, FunD K "send" "Run.send" (defArgs s_Run_send) (defBody s_Run_send) (defScope s_Run_send) [] [] (ma K (ga K "Run") "send") fd := T.c.def_ 39 (d := d_Run_send) rfl
theorem Txt.D_Run_count (T : Txt K mg) : ∃ fd, FunD K "count" "Run.count" (defArgs s_Run_count) (defBody s_Run_count) (defScope s_Run_count) [] [] (ma K (ga K "Run") "count") fd := T.c.def_ 40 (d := d_Run_count) rfl
theorem Txt.D_Run_state (T : Txt K mg) : ∃ fd, FunD K "state" "Run.state" (defArgs s_Run_state) (defBody s_Run_state) (defScope s_Run_state) [] [] (ma K (ga K "Run") "state") fd := T.c.def_ 41 (d := d_Run_state) rfl
theorem Txt.D_Run_put_many (T : Txt K mg) : ∃ fd, FunD K "put_many" "Run.put_many" (defArgs s_Run_put_many) (defBody s_Run_put_many) (defScope s_Run_put_many) [] [] (ma K (ga K "Run") "put_many") fd := T.c.def_ 42 (d := d_Run_put_many) rfl
theorem Txt.D_Run_schedule (T : Txt K mg) : ∃ fd, FunD K "schedule" "Run.schedule" (defArgs s_Run_schedule) (defBody s_Run_schedule) (defScope s_Run_schedule) [] [] (ma K (ga K "Run") "schedule") fd := T.c.def_ 43 (d := d_Run_schedule) rfl
theorem Txt.D_Run_sent_by (T : Txt K mg) : ∃ fd, FunD K "sent_by" "Run.sent_by" (defArgs s_Run_sent_by) (defBody s_Run_sent_by) (defScope s_Run_sent_by) [] [] (ma K (ga K "Run") "sent_by") fd := T.c.def_ 44 (d := d_Run_sent_by) rfl
theorem Txt.D_Run_worked_by (T : Txt K mg) : ∃ fd, FunD K "worked_by" "Run.worked_by" (defArgs s_Run_worked_by) (defBody s_Run_worked_by) (defScope s_Run_worked_by) [] [] (ma K (ga K "Run") "worked_by") fd := T.c.def_ 45 (d := d_Run_worked_by) rfl
theorem Txt.D_played_run (T : Txt K mg) : ∃ fd, FunD K "played_run" "played_run" (defArgs s_played_run) (defBody s_played_run) (defScope s_played_run) [] [] (ga K "played_run") fd := T.c.def_ 46 (d := d_played_run) rfl
theorem Txt.D_Lat (T : Txt K mg) : ∃ fd, FunD K "_law_at" "_law_at" (defArgs s_Lat) (defBody s_Lat) (defScope s_Lat) [] [] (ga K "_law_at") fd := T.c.def_ 47 (d := d_Lat) rfl
theorem Txt.D_Lpot (T : Txt K mg) : ∃ fd, FunD K "_law_pot" "_law_pot" (defArgs s_Lpot) (defBody s_Lpot) (defScope s_Lpot) [] [] (ga K "_law_pot") fd := T.c.def_ 48 (d := d_Lpot) rfl
theorem Txt.D_Ldigit (T : Txt K mg) : ∃ fd, FunD K "_law_digit" "_law_digit" (defArgs s_Ldigit) (defBody s_Ldigit) (defScope s_Ldigit) [] [] (ga K "_law_digit") fd := T.c.def_ 49 (d := d_Ldigit) rfl
theorem Txt.D_Lvalue (T : Txt K mg) : ∃ fd, FunD K "_law_value" "_law_value" (defArgs s_Lvalue) (defBody s_Lvalue) (defScope s_Lvalue) [] [] (ga K "_law_value") fd := T.c.def_ 50 (d := d_Lvalue) rfl
theorem Txt.D_Ldeed (T : Txt K mg) : ∃ fd, FunD K "_law_deed" "_law_deed" (defArgs s_Ldeed) (defBody s_Ldeed) (defScope s_Ldeed) [] [] (ga K "_law_deed") fd := T.c.def_ 51 (d := d_Ldeed) rfl
theorem Txt.D_Lmachine (T : Txt K mg) : ∃ fd, FunD K "_law_machine" "_law_machine" (defArgs s_Lmachine) (defBody s_Lmachine) (defScope s_Lmachine) [] [] (ga K "_law_machine") fd := T.c.def_ 52 (d := d_Lmachine) rfl
theorem Txt.D_Lnet (T : Txt K mg) : ∃ fd, FunD K "_law_net" "_law_net" (defArgs s_Lnet) (defBody s_Lnet) (defScope s_Lnet) [] [] (ga K "_law_net") fd := T.c.def_ 53 (d := d_Lnet) rfl
theorem Txt.D_Lworth (T : Txt K mg) : ∃ fd, FunD K "_law_worth" "_law_worth" (defArgs s_Lworth) (defBody s_Lworth) (defScope s_Lworth) [] [] (ga K "_law_worth") fd := T.c.def_ 54 (d := d_Lworth) rfl
theorem Txt.D_Lworked (T : Txt K mg) : ∃ fd, FunD K "_law_worked" "_law_worked" (defArgs s_Lworked) (defBody s_Lworked) (defScope s_Lworked) [] [] (ga K "_law_worked") fd := T.c.def_ 55 (d := d_Lworked) rfl
theorem Txt.D_Lbegun (T : Txt K mg) : ∃ fd, FunD K "_law_begun" "_law_begun" (defArgs s_Lbegun) (defBody s_Lbegun) (defScope s_Lbegun) [] [] (ga K "_law_begun") fd := T.c.def_ 56 (d := d_Lbegun) rfl
theorem Txt.D_Llying (T : Txt K mg) : ∃ fd, FunD K "_law_lying" "_law_lying" (defArgs s_Llying) (defBody s_Llying) (defScope s_Llying) [] [] (ga K "_law_lying") fd := T.c.def_ 57 (d := d_Llying) rfl
theorem Txt.D_Lfree (T : Txt K mg) : ∃ fd, FunD K "_law_free" "_law_free" (defArgs s_Lfree) (defBody s_Lfree) (defScope s_Lfree) [] [] (ga K "_law_free") fd := T.c.def_ 58 (d := d_Lfree) rfl
theorem Txt.D_Lpick (T : Txt K mg) : ∃ fd, FunD K "_law_pick" "_law_pick" (defArgs s_Lpick) (defBody s_Lpick) (defScope s_Lpick) [] [] (ga K "_law_pick") fd := T.c.def_ 59 (d := d_Lpick) rfl
theorem Txt.D_Lran (T : Txt K mg) : ∃ fd, FunD K "_law_ran" "_law_ran" (defArgs s_Lran) (defBody s_Lran) (defScope s_Lran) [] [] (ga K "_law_ran") fd := T.c.def_ 60 (d := d_Lran) rfl
theorem Txt.D_Lplayed (T : Txt K mg) : ∃ fd, FunD K "_law_played" "_law_played" (defArgs s_Lplayed) (defBody s_Lplayed) (defScope s_Lplayed) [] [] (ga K "_law_played") fd := T.c.def_ 61 (d := d_Lplayed) rfl
theorem Txt.D_Lorphans (T : Txt K mg) : ∃ fd, FunD K "_law_orphans" "_law_orphans" (defArgs s_Lorphans) (defBody s_Lorphans) (defScope s_Lorphans) [] [] (ga K "_law_orphans") fd := T.c.def_ 62 (d := d_Lorphans) rfl
theorem Txt.D_Lnet_made (T : Txt K mg) : ∃ fd, FunD K "_law_net_made" "_law_net_made" (defArgs s_Lnet_made) (defBody s_Lnet_made) (defScope s_Lnet_made) [] [] (ga K "_law_net_made") fd := T.c.def_ 63 (d := d_Lnet_made) rfl
theorem Txt.D_Lany_cut (T : Txt K mg) : ∃ fd, FunD K "_law_any_cut" "_law_any_cut" (defArgs s_Lany_cut) (defBody s_Lany_cut) (defScope s_Lany_cut) [] [] (ga K "_law_any_cut") fd := T.c.def_ 64 (d := d_Lany_cut) rfl
theorem Txt.D_Lheard_cut (T : Txt K mg) : ∃ fd, FunD K "_law_heard_cut" "_law_heard_cut" (defArgs s_Lheard_cut) (defBody s_Lheard_cut) (defScope s_Lheard_cut) [] [] (ga K "_law_heard_cut") fd := T.c.def_ 65 (d := d_Lheard_cut) rfl
theorem Txt.D_Lcuts (T : Txt K mg) : ∃ fd, FunD K "_law_cuts" "_law_cuts" (defArgs s_Lcuts) (defBody s_Lcuts) (defScope s_Lcuts) [] [] (ga K "_law_cuts") fd := T.c.def_ 66 (d := d_Lcuts) rfl
theorem Txt.D_Lrefused (T : Txt K mg) : ∃ fd, FunD K "_law_refused" "_law_refused" (defArgs s_Lrefused) (defBody s_Lrefused) (defScope s_Lrefused) [] [] (ga K "_law_refused") fd := T.c.def_ 67 (d := d_Lrefused) rfl
theorem Txt.D_Lare_picks (T : Txt K mg) : ∃ fd, FunD K "_law_are_picks" "_law_are_picks" (defArgs s_Lare_picks) (defBody s_Lare_picks) (defScope s_Lare_picks) [] [] (ga K "_law_are_picks") fd := T.c.def_ 68 (d := d_Lare_picks) rfl
theorem Txt.D_Lleads (T : Txt K mg) : ∃ fd, FunD K "_law_leads" "_law_leads" (defArgs s_Lleads) (defBody s_Lleads) (defScope s_Lleads) [] [] (ga K "_law_leads") fd := T.c.def_ 69 (d := d_Lleads) rfl
theorem Txt.D_Lparts (T : Txt K mg) : ∃ fd, FunD K "_law_parts" "_law_parts" (defArgs s_Lparts) (defBody s_Lparts) (defScope s_Lparts) [] [] (ga K "_law_parts") fd := T.c.def_ 70 (d := d_Lparts) rfl
theorem Txt.D_Ltold (T : Txt K mg) : ∃ fd, FunD K "_law_told" "_law_told" (defArgs s_Ltold) (defBody s_Ltold) (defScope s_Ltold) [] [] (ga K "_law_told") fd := T.c.def_ 71 (d := d_Ltold) rfl
theorem Txt.D_Lasked (T : Txt K mg) : ∃ fd, FunD K "_law_asked" "_law_asked" (defArgs s_Lasked) (defBody s_Lasked) (defScope s_Lasked) [] [] (ga K "_law_asked") fd := T.c.def_ 72 (d := d_Lasked) rfl
theorem Txt.D_law (T : Txt K mg) : ∃ fd, FunD K "law" "law" (defArgs s_law) (defBody s_law) (defScope s_law) [] [] (ga K "law") fd := T.c.def_ 73 (d := d_law) rfl
end
end Cr
set_option maxHeartbeats 0

namespace Cr
open PySem PySem.Spec PyProof.Rows L2 He
abbrev hdR : PySem.W.OpenRow := PySem.W.OpenLaw.row PySem.Challenge.rw_cutrestore_k42_whole_parts_played
def hdLoose0 : List PySem.Str := ["_wall", "NetError", "BadMachine", "BadDeed", "BadNet", "NoLetter", "NotFirst", "NoCount", "Orphaned", "NoMachine", "want_cut", "is_within", "is_there", "orphans_of", "parts_of_cut", "PLAIN", "is_whole", "is_place", "is_value", "worth_of"]
def hdLoose1 : List PySem.Str := ["LONGEST_ROW", "MOST_SKIPPED", "is_deed", "Bench", "GREATEST_MODULUS", "MOST_NUMBERS", "MOST_DEEDS", "is_row", "check_deeds", "Machine", "MOST_MACHINES", "MOST_WAYS", "MOST_LETTERS", "FAR", "is_one_of", "is_way", "is_first_letter", "Net", "Heap", "Run"]
def hdLoose2 : List PySem.Str := ["played_run", "_law_at", "_law_pot", "_law_digit", "_law_value", "_law_deed", "_law_machine", "_law_net", "_law_worth", "_law_worked", "_law_begun", "_law_lying", "_law_free", "_law_pick", "_law_ran", "_law_played", "_law_orphans", "_law_net_made", "_law_any_cut", "_law_heard_cut"]
def hdLoose3 : List PySem.Str := ["_law_cuts", "_law_refused", "_law_are_picks", "_law_leads", "_law_parts", "_law_told", "_law_asked"]
def hdLoose : List PySem.Str := hdLoose0 ++ hdLoose1 ++ hdLoose2 ++ hdLoose3
def hdOb (s : PySem.W.SharedT) : AlM := obsM (frG (HandSHeadRun.getT s) addrs)
theorem hdOb_eq (s : PySem.W.SharedT) : hdOb s = hookM.obs s.abs := by
  have e : HandSHeadRun.getT s = s.abs.heap.get? := funext (HandSHeadRun.getT_eq s)
  unfold hdOb
  rw [e]
  rfl
theorem hdRun (w : World) : HandSHeadRun.RunEq hdR (PySem.W.view hdR.prog [75]) hookM hdOb 6500 hdLoose w := by
  intro os
  kernel_rfl
end Cr

set_option maxHeartbeats 4000000
/-! ## The plain part: machines, runs, cuts; no program in sight -/
namespace Cr
inductive Vl where
  | is (c : Int) | num (i : Nat) | letter | way | first
inductive Dd where
  | set (i : Nat) (v : Vl) | add (i : Nat) (v : Vl) | times (i : Nat) (v : Vl) | send (j : Nat) (v : Vl) | say (v : Vl) | put (v : Vl) | drop | skip (v u : Vl) (k : Nat)
abbrev Sta := List Int × List Int
structure Mch where
  md : Int
  ns : List Int
  row : List Int
  ds : List Dd
structure Nt where
  ms : List Mch
  ws : List (Nat × Nat × Bool)
  ls : List (Nat × Int)
def Vl.ok (many : Nat) : Vl → Prop
  | .num i => i < many
  | _ => True
def Dd.ok (many : Nat) : Dd → Prop
  | .set i v => i < many ∧ v.ok many
  | .add i v => i < many ∧ v.ok many
  | .times i v => i < many ∧ v.ok many
  | .send _ v => v.ok many
  | .say v => v.ok many
  | .put v => v.ok many
  | .drop => True
  | .skip v u k => v.ok many ∧ u.ok many ∧ 1 ≤ k ∧ k ≤ 24
structure Mch.ok (M : Mch) : Prop where
  md2 : 2 ≤ M.md
  md12 : M.md ≤ 10 ^ 12
  n1 : 1 ≤ M.ns.length
  n4 : M.ns.length ≤ 4
  nsb : ∀ x ∈ M.ns, 0 ≤ x ∧ x < M.md
  r12 : M.row.length ≤ 12
  rb : ∀ x ∈ M.row, 0 ≤ x ∧ x < M.md
  d12 : M.ds.length ≤ 12
  ds : ∀ d ∈ M.ds, d.ok M.ns.length
structure Nt.ok (N : Nt) : Prop where
  m1 : 1 ≤ N.ms.length
  m5 : N.ms.length ≤ 5
  ms : ∀ M ∈ N.ms, M.ok
  w10 : N.ws.length ≤ 10
  ws : ∀ w ∈ N.ws, w.1 < N.ms.length ∧ w.2.1 < N.ms.length
  l12 : N.ls.length ≤ 12
  ls : ∀ l ∈ N.ls, l.1 < N.ws.length ∧ 0 ≤ l.2 ∧ l.2 < 10 ^ 60

/-! ### a machine's work -/
def worth (md : Int) (way : Nat) (said : Int) (nu row : List Int) : Vl → Int
  | .is c => c % md
  | .num i => nu.getD i 0 % md
  | .letter => said % md
  | .way => (way : Int) % md
  | .first => row.headD 0 % md
structure Wk where
  nu : List Int
  row : List Int
  sent : List (Nat × Int)
  words : List Int
  left : Nat
def wkDo (md : Int) (way : Nat) (said : Int) (k : Wk) : Dd → Wk
  | .set i v => { k with nu := k.nu.set i (worth md way said k.nu k.row v) }
  | .add i v => { k with nu := k.nu.set i ((k.nu.getD i 0 + worth md way said k.nu k.row v) % md) }
  | .times i v => { k with nu := k.nu.set i (k.nu.getD i 0 * worth md way said k.nu k.row v % md) }
  | .send j v => { k with sent := k.sent ++ [(j, worth md way said k.nu k.row v)] }
  | .say v => { k with words := k.words ++ [worth md way said k.nu k.row v] }
  | .put v => if k.row.length < 12 then { k with row := k.row ++ [worth md way said k.nu k.row v] } else k
  | .drop => { k with row := k.row.drop 1 }
  | .skip v u n => if worth md way said k.nu k.row v < worth md way said k.nu k.row u then { k with left := n } else k
def wkStep (md : Int) (way : Nat) (said : Int) (k : Wk) (d : Dd) : Wk :=
  if 0 < k.left then { k with left := k.left - 1 } else wkDo md way said k d
def wk0 (st : Sta) : Wk := ⟨st.1, st.2, [], [], 0⟩
def wkRun (M : Mch) (st : Sta) (way : Nat) (said : Int) (ds : List Dd) : Wk := ds.foldl (wkStep M.md way said) (wk0 st)
def wkEnd (M : Mch) (st : Sta) (way : Nat) (said : Int) : Wk := wkRun M st way said M.ds
/-- what holds of a bench: as many numbers as the machine has, a row of at most twelve, all below the modulus; so many letters and words as deeds were done -/
structure WkOk (M : Mch) (i : Nat) (k : Wk) : Prop where
  nl : k.nu.length = M.ns.length
  nb : ∀ x ∈ k.nu, 0 ≤ x ∧ x < M.md
  rl : k.row.length ≤ 12
  rb : ∀ x ∈ k.row, 0 ≤ x ∧ x < M.md
  sl : k.sent.length ≤ i
  wl : k.words.length ≤ i
  lf : k.left ≤ 24
theorem worth_b {md : Int} {way : Nat} {said : Int} {nu row : List Int} (h : 2 ≤ md) (v : Vl) : 0 ≤ worth md way said nu row v ∧ worth md way said nu row v < md := by
  have h1 : (md : Int) ≠ 0 := by omega
  have h2 : (0 : Int) < md := by omega
  cases v <;> exact ⟨Int.emod_nonneg _ h1, Int.emod_lt_of_pos _ h2⟩
theorem mem_set_b {P : Int → Prop} {l : List Int} {i : Nat} {x : Int} (h : ∀ y ∈ l, P y) (hx : P x) : ∀ y ∈ l.set i x, P y := fun y hy => by
  rcases List.mem_or_eq_of_mem_set hy with h1 | h1
  · exact h y h1
  · rw [h1]; exact hx
theorem mem_snoc_b {P : Int → Prop} {l : List Int} {x : Int} (h : ∀ y ∈ l, P y) (hx : P x) : ∀ y ∈ l ++ [x], P y := fun y hy => by
  rcases List.mem_append.mp hy with h1 | h1
  · exact h y h1
  · rw [List.mem_singleton.mp h1]; exact hx
theorem WkOk.step {M : Mch} {i : Nat} {k : Wk} {way : Nat} {said : Int} {d : Dd} (hM : M.ok) (hd : d.ok M.ns.length) (h : WkOk M i k) : WkOk M (i + 1) (wkStep M.md way said k d) := by
  have h1 : (M.md : Int) ≠ 0 := by have := hM.md2; omega
  have h2 : (0 : Int) < M.md := by have := hM.md2; omega
  have wb := fun v => worth_b (way := way) (said := said) (nu := k.nu) (row := k.row) hM.md2 v
  have mb : ∀ x : Int, 0 ≤ x % M.md ∧ x % M.md < M.md := fun x => ⟨Int.emod_nonneg _ h1, Int.emod_lt_of_pos _ h2⟩
  have sl := h.sl
  have wl := h.wl
  unfold wkStep
  split
  · exact ⟨h.nl, h.nb, h.rl, h.rb, by show k.sent.length ≤ i + 1; omega, by show k.words.length ≤ i + 1; omega, by have := h.lf; show k.left - 1 ≤ 24; omega⟩
  · cases d with
    | set j v => exact ⟨by show (k.nu.set _ _).length = _; rw [List.length_set]; exact h.nl, mem_set_b h.nb (wb v), h.rl, h.rb, by show k.sent.length ≤ i + 1; omega, by show k.words.length ≤ i + 1; omega, h.lf⟩
    | add j v => exact ⟨by show (k.nu.set _ _).length = _; rw [List.length_set]; exact h.nl, mem_set_b h.nb (mb _), h.rl, h.rb, by show k.sent.length ≤ i + 1; omega, by show k.words.length ≤ i + 1; omega, h.lf⟩
    | times j v => exact ⟨by show (k.nu.set _ _).length = _; rw [List.length_set]; exact h.nl, mem_set_b h.nb (mb _), h.rl, h.rb, by show k.sent.length ≤ i + 1; omega, by show k.words.length ≤ i + 1; omega, h.lf⟩
    | send j v => exact ⟨h.nl, h.nb, h.rl, h.rb, by show (k.sent ++ [_]).length ≤ i + 1; rw [List.length_append]; show k.sent.length + 1 ≤ i + 1; omega, by show k.words.length ≤ i + 1; omega, h.lf⟩
    | say v => exact ⟨h.nl, h.nb, h.rl, h.rb, by show k.sent.length ≤ i + 1; omega, by show (k.words ++ [_]).length ≤ i + 1; rw [List.length_append]; show k.words.length + 1 ≤ i + 1; omega, h.lf⟩
    | put v =>
      show WkOk M (i + 1) (if k.row.length < 12 then { k with row := k.row ++ [worth M.md way said k.nu k.row v] } else k)
      split
      · rename_i hr
        exact ⟨h.nl, h.nb, by show (k.row ++ [_]).length ≤ 12; rw [List.length_append]; show k.row.length + 1 ≤ 12; omega, mem_snoc_b h.rb (wb v), by show k.sent.length ≤ i + 1; omega, by show k.words.length ≤ i + 1; omega, h.lf⟩
      · exact ⟨h.nl, h.nb, h.rl, h.rb, by show k.sent.length ≤ i + 1; omega, by show k.words.length ≤ i + 1; omega, h.lf⟩
    | drop => exact ⟨h.nl, h.nb, by show (k.row.drop 1).length ≤ 12; rw [List.length_drop]; have := h.rl; omega, fun y hy => h.rb y (List.mem_of_mem_drop hy), by show k.sent.length ≤ i + 1; omega, by show k.words.length ≤ i + 1; omega, h.lf⟩
    | skip v u n =>
      show WkOk M (i + 1) (if worth M.md way said k.nu k.row v < worth M.md way said k.nu k.row u then { k with left := n } else k)
      split
      · exact ⟨h.nl, h.nb, h.rl, h.rb, by show k.sent.length ≤ i + 1; omega, by show k.words.length ≤ i + 1; omega, hd.2.2.2⟩
      · exact ⟨h.nl, h.nb, h.rl, h.rb, by show k.sent.length ≤ i + 1; omega, by show k.words.length ≤ i + 1; omega, h.lf⟩
/-- a state of the machine -/
structure StaOk (M : Mch) (st : Sta) : Prop where
  nl : st.1.length = M.ns.length
  nb : ∀ x ∈ st.1, 0 ≤ x ∧ x < M.md
  rl : st.2.length ≤ 12
  rb : ∀ x ∈ st.2, 0 ≤ x ∧ x < M.md
theorem wk0_ok {M : Mch} {st : Sta} (h : StaOk M st) : WkOk M 0 (wk0 st) := ⟨h.nl, h.nb, h.rl, h.rb, Nat.le_refl _, Nat.le_refl _, Nat.zero_le _⟩
theorem wkRun_snoc {M : Mch} {st : Sta} {way : Nat} {said : Int} (ds : List Dd) (d : Dd) : wkRun M st way said (ds ++ [d]) = wkStep M.md way said (wkRun M st way said ds) d := by
  unfold wkRun
  rw [List.foldl_append]
  rfl
theorem take_more {α : Type} {l : List α} {i : Nat} {x : α} (h : l[i]? = some x) : l.take (i + 1) = l.take i ++ [x] := by
  rw [List.take_succ, h]
  rfl
theorem wkRun_take {M : Mch} {st : Sta} {way : Nat} {said : Int} {ds : List Dd} {i : Nat} {d : Dd} (h : ds[i]? = some d) : wkRun M st way said (ds.take (i + 1)) = wkStep M.md way said (wkRun M st way said (ds.take i)) d := by
  rw [take_more h, wkRun_snoc]
theorem wkRun_ok {M : Mch} {st : Sta} {way : Nat} {said : Int} (hM : M.ok) (hs : StaOk M st) : ∀ i, i ≤ M.ds.length → WkOk M i (wkRun M st way said (M.ds.take i))
  | 0, _ => wk0_ok hs
  | i + 1, hi => by
    have h : M.ds[i]? = some M.ds[i] := List.getElem?_eq_getElem (by omega)
    rw [wkRun_take h]
    exact (wkRun_ok hM hs i (by omega)).step hM (hM.ds _ (List.getElem_mem _))
theorem wkEnd_ok {M : Mch} {st : Sta} {way : Nat} {said : Int} (hM : M.ok) (hs : StaOk M st) : WkOk M M.ds.length (wkEnd M st way said) := by
  have h := wkRun_ok (way := way) (said := said) hM hs M.ds.length (Nat.le_refl _)
  rw [List.take_length] at h
  exact h
theorem wkEnd_sta {M : Mch} {st : Sta} {way : Nat} {said : Int} (hM : M.ok) (hs : StaOk M st) : StaOk M ((wkEnd M st way said).nu, (wkEnd M st way said).row) :=
  let h := wkEnd_ok (way := way) (said := said) hM hs
  ⟨h.nl, h.nb, h.rl, h.rb⟩
end Cr
/-! ## Runs and cuts, in plain Lean -/
namespace Cr
structure Run where
  put : Nat → List Int
  snd : Nat → List (Option (Nat × Nat))
  wk : Nat → List (Nat × (Nat × Nat))
  sts : Nat → List Sta
  wds : Nat → List (List Int)
  evs : List (Nat × Nat)
def Nt.src (N : Nt) (w : Nat) : Nat := (N.ws.getD w (0, 0, false)).1
def Nt.goal (N : Nt) (w : Nat) : Nat := (N.ws.getD w (0, 0, false)).2.1
def Nt.isRow (N : Nt) (w : Nat) : Bool := (N.ws.getD w (0, 0, false)).2.2
def Nt.outs (N : Nt) (m : Nat) : List Nat := (List.range N.ws.length).filter fun w => decide (N.src w = m)
def Nt.ins (N : Nt) (m : Nat) : List Nat := (List.range N.ws.length).filter fun w => decide (N.goal w = m)
def Nt.place (N : Nt) (w : Nat) : Nat := (N.ins (N.goal w)).idxOf w
def Nt.mch (N : Nt) (m : Nat) : Mch := N.ms.getD m ⟨2, [], [], []⟩
/-- what of the letters sent goes to the way w -/
def sends (outs : List Nat) (sent : List (Nat × Int)) (w : Nat) : List Int := sent.filterMap fun p => if outs[p.1]? = some w then some p.2 else none
def begun (N : Nt) : Run where
  put := fun w => N.ls.filterMap fun l => if l.1 = w then some l.2 else none
  snd := fun w => N.ls.filterMap fun l => if l.1 = w then some none else none
  wk := fun _ => []
  sts := fun m => [((N.mch m).ns, (N.mch m).row)]
  wds := fun _ => []
  evs := []
/-- how many events a machine has -/
def Run.cnt (R : Run) (m : Nat) : Nat := (R.wds m).length
def Run.last (R : Run) (m : Nat) : Sta := (R.sts m).getLastD ([], [])
/-- the work of the goal of w on the letter n -/
def Run.done (N : Nt) (R : Run) (w n : Nat) : Wk := wkEnd (N.mch (N.goal w)) (R.last (N.goal w)) (N.place w) ((R.put w).getD n 0)
def Run.pick (N : Nt) (R : Run) (w n : Nat) : Run where
  put := fun v => R.put v ++ sends (N.outs (N.goal w)) (R.done N w n).sent v
  snd := fun v => R.snd v ++ (sends (N.outs (N.goal w)) (R.done N w n).sent v).map fun _ => some (N.goal w, R.cnt (N.goal w) + 1)
  wk := fun v => if v = w then R.wk v ++ [(n, (N.goal w, R.cnt (N.goal w) + 1))] else R.wk v
  sts := fun m => if m = N.goal w then R.sts m ++ [((R.done N w n).nu, (R.done N w n).row)] else R.sts m
  wds := fun m => if m = N.goal w then R.wds m ++ [(R.done N w n).words] else R.wds m
  evs := R.evs ++ [(w, n)]
def Run.worker (R : Run) (w n : Nat) : Option (Nat × Nat) := (R.wk w).lookup n
def Run.lying (R : Run) (w : Nat) : List Nat := (List.range (R.put w).length).filter fun n => (R.worker w n).isNone
def Run.freeW (N : Nt) (R : Run) (w : Nat) : List (Nat × Nat) := (if N.isRow w then (R.lying w).take 1 else R.lying w).map fun n => (w, n)
def Run.free (N : Nt) (R : Run) : List (Nat × Nat) := (List.range N.ws.length).flatMap (R.freeW N)
/-- may be picked -/
structure Run.May (N : Nt) (R : Run) (w n : Nat) : Prop where
  hw : w < N.ws.length
  hn : n < (R.put w).length
  hno : R.worker w n = none
  hrow : N.isRow w = true → ∀ k, k < n → R.worker w k ≠ none
/-- played from the beginning on, each pick as it may be -/
inductive Ply (N : Nt) : Run → Prop where
  | nil : Ply N (begun N)
  | pick {R : Run} {w n : Nat} : Ply N R → R.May N w n → Ply N (R.pick N w n)

theorem take1_filter {p : Nat → Bool} : ∀ {l : Nat} {n : Nat}, ((List.range l).filter p).take 1 = [n] ↔ (n < l ∧ p n = true ∧ ∀ k, k < n → p k = false)
  | 0, n => by simp
  | l + 1, n => by
    rw [List.range_succ, List.filter_append]
    have ih := @take1_filter p l n
    cases e : (List.range l).filter p with
    | nil =>
      have none : ∀ k, k < l → p k = false := fun k hk => by
        have : k ∉ (List.range l).filter p := by rw [e]; simp
        cases q : p k with
        | false => rfl
        | true => exact absurd (List.mem_filter.mpr ⟨List.mem_range.mpr hk, q⟩) this
      rw [List.nil_append]
      cases q : p l with
      | false =>
        rw [List.filter_cons_of_neg (by simp [q])]
        simp only [List.filter_nil, List.take_nil, List.nil_eq, List.cons_ne_self, reduceCtorEq, false_iff, not_and]
        intro h1 h2
        rcases Nat.lt_succ_iff_lt_or_eq.mp h1 with h | h
        · rw [none n h] at h2; cases h2
        · rw [h, q] at h2; cases h2
      | true =>
        rw [List.filter_cons_of_pos q]
        simp only [List.filter_nil, List.take_succ_cons, List.take_zero, List.cons.injEq, and_true]
        constructor
        · rintro rfl
          exact ⟨Nat.lt_succ_self _, q, none⟩
        · rintro ⟨h1, h2, _⟩
          rcases Nat.lt_succ_iff_lt_or_eq.mp h1 with h | h
          · rw [none n h] at h2; cases h2
          · exact h.symm
    | cons a r =>
      rw [e] at ih
      have e1 : (a :: r ++ [l].filter p).take 1 = (a :: r).take 1 := rfl
      rw [e1, ih]
      constructor
      · rintro ⟨h1, h2, h3⟩
        exact ⟨Nat.lt_succ_of_lt h1, h2, h3⟩
      · rintro ⟨h1, h2, h3⟩
        refine ⟨?_, h2, h3⟩
        rcases Nat.lt_succ_iff_lt_or_eq.mp h1 with h | h
        · exact h
        · subst h
          have ha : a ∈ (List.range n).filter p := by rw [e]; exact List.mem_cons_self
          obtain ⟨ha1, ha2⟩ := List.mem_filter.mp ha
          rw [h3 a (List.mem_range.mp ha1)] at ha2
          cases ha2
theorem mem_take1 {l : List Nat} {n : Nat} : n ∈ l.take 1 ↔ l.take 1 = [n] := by
  cases l with
  | nil => simp
  | cons a r =>
    simp only [List.take_succ_cons, List.take_zero, List.mem_singleton, List.cons.injEq, and_true]
    exact eq_comm
/-- the free letters are those that may be picked -/
theorem Run.mem_free {N : Nt} {R : Run} {w n : Nat} : (w, n) ∈ R.free N ↔ R.May N w n := by
  unfold Run.free
  rw [List.mem_flatMap]
  constructor
  · rintro ⟨v, hv, h⟩
    unfold Run.freeW at h
    obtain ⟨k, hk, e⟩ := List.mem_map.mp h
    injection e with e1 e2
    subst e1 e2
    have hv := List.mem_range.mp hv
    split at hk
    · rename_i hr
      have q := mem_take1.mp hk
      unfold Run.lying at q
      obtain ⟨h1, h2, h3⟩ := take1_filter.mp q
      refine ⟨hv, h1, by simpa using h2, fun _ j hj e => ?_⟩
      have := h3 j hj
      rw [e] at this
      cases this
    · rename_i hr
      unfold Run.lying at hk
      obtain ⟨h1, h2⟩ := List.mem_filter.mp hk
      exact ⟨hv, List.mem_range.mp h1, by simpa using h2, fun h => absurd h hr⟩
  · rintro ⟨h1, h2, h3, h4⟩
    refine ⟨w, List.mem_range.mpr h1, List.mem_map.mpr ⟨n, ?_, rfl⟩⟩
    split
    · rename_i hr
      refine mem_take1.mpr ?_
      unfold Run.lying
      refine take1_filter.mpr ⟨h2, by rw [h3]; rfl, fun k hk => ?_⟩
      have := h4 hr k hk
      cases q : R.worker w k with
      | none => exact absurd q this
      | some e => rfl
    · unfold Run.lying
      exact List.mem_filter.mpr ⟨List.mem_range.mpr h2, by rw [h3]; rfl⟩

/-! ### what is a machine's own -/
/-- R and T are alike in what is the machine m's: its states and words, what was worked on its ways in, what was put on its ways out -/
structure Own (N : Nt) (R T : Run) (m : Nat) : Prop where
  sts : R.sts m = T.sts m
  wds : R.wds m = T.wds m
  wk : ∀ w, N.goal w = m → R.wk w = T.wk w
  put : ∀ w, N.src w = m → R.put w = T.put w
  snd : ∀ w, N.src w = m → R.snd w = T.snd w
theorem Own.refl {N : Nt} {R : Run} {m : Nat} : Own N R R m := ⟨rfl, rfl, fun _ _ => rfl, fun _ _ => rfl, fun _ _ => rfl⟩
theorem Own.symm {N : Nt} {R T : Run} {m : Nat} (h : Own N R T m) : Own N T R m := ⟨h.sts.symm, h.wds.symm, fun w e => (h.wk w e).symm, fun w e => (h.put w e).symm, fun w e => (h.snd w e).symm⟩
theorem Own.trans {N : Nt} {R T U : Run} {m : Nat} (h : Own N R T m) (k : Own N T U m) : Own N R U m :=
  ⟨h.sts.trans k.sts, h.wds.trans k.wds, fun w e => (h.wk w e).trans (k.wk w e), fun w e => (h.put w e).trans (k.put w e), fun w e => (h.snd w e).trans (k.snd w e)⟩
theorem Own.cnt {N : Nt} {R T : Run} {m : Nat} (h : Own N R T m) : R.cnt m = T.cnt m := by unfold Run.cnt; rw [h.wds]
theorem sends_other {N : Nt} {m w : Nat} (sent : List (Nat × Int)) (h : N.src w ≠ m) : sends (N.outs m) sent w = [] := by
  unfold sends
  rw [List.filterMap_eq_nil_iff]
  intro p _
  rw [if_neg]
  intro e
  have := List.mem_of_getElem? e
  unfold Nt.outs at this
  have h2 := (List.mem_filter.mp this).2
  exact h (of_decide_eq_true h2)
theorem pick_cnt {N : Nt} {R : Run} {w n : Nat} (m : Nat) : (R.pick N w n).cnt m = if m = N.goal w then R.cnt m + 1 else R.cnt m := by
  unfold Run.cnt Run.pick
  dsimp only
  split
  · rw [List.length_append]; rfl
  · rfl
/-- a pick leaves the other machines' own -/
theorem pick_own {N : Nt} {R : Run} {w n m : Nat} (h : m ≠ N.goal w) : Own N (R.pick N w n) R m where
  sts := if_neg h
  wds := if_neg h
  wk := fun v e => if_neg fun z => h (by rw [← e, z])
  put := fun v e => by
    show R.put v ++ _ = R.put v
    rw [sends_other _ (by rw [e]; exact h), List.append_nil]
  snd := fun v e => by
    show R.snd v ++ _ = R.snd v
    rw [sends_other _ (by rw [e]; exact h), List.map_nil, List.append_nil]
/-- what a pick does to its machine's own hangs on this and on what the letter says -/
theorem pick_same {N : Nt} {R T : Run} {w n : Nat} (h : Own N R T (N.goal w)) (e : (R.put w).getD n 0 = (T.put w).getD n 0) : Own N (R.pick N w n) (T.pick N w n) (N.goal w) := by
  have d : R.done N w n = T.done N w n := by
    unfold Run.done Run.last
    rw [h.sts, e]
  have c := h.cnt
  refine ⟨?_, ?_, fun v ev => ?_, fun v ev => ?_, fun v ev => ?_⟩
  · show (if _ then _ else _) = (if _ then _ else _)
    rw [h.sts, d]
  · show (if _ then _ else _) = (if _ then _ else _)
    rw [h.wds, d]
  · show (if v = w then _ else _) = (if v = w then _ else _)
    rw [h.wk v ev, c]
  · show R.put v ++ _ = T.put v ++ _
    rw [h.put v ev, d]
  · show R.snd v ++ _ = T.snd v ++ _
    rw [h.snd v ev, d, c]

/-! ### the course of a run -/
/-- from R on to T, by these picks -/
def goOn (N : Nt) (R : Run) (es : List (Nat × Nat)) : Run := es.foldl (fun R e => R.pick N e.1 e.2) R
theorem goOn_nil {N : Nt} {R : Run} : goOn N R [] = R := rfl
theorem goOn_cons {N : Nt} {R : Run} {e : Nat × Nat} {es : List (Nat × Nat)} : goOn N R (e :: es) = goOn N (R.pick N e.1 e.2) es := rfl
theorem goOn_snoc {N : Nt} {R : Run} {e : Nat × Nat} {es : List (Nat × Nat)} : goOn N R (es ++ [e]) = (goOn N R es).pick N e.1 e.2 := by
  unfold goOn; rw [List.foldl_append]; rfl
theorem goOn_append {N : Nt} {R : Run} {es fs : List (Nat × Nat)} : goOn N R (es ++ fs) = goOn N (goOn N R es) fs := by
  unfold goOn; rw [List.foldl_append]
/-- what comes behind R: each way's list goes on; new letters of the way are of later events of its source; new works of later events -/
structure Later (N : Nt) (R T : Run) : Prop where
  cnt : ∀ m, R.cnt m ≤ T.cnt m
  sts : ∀ m, ∃ l, T.sts m = R.sts m ++ l
  wds : ∀ m, ∃ l, T.wds m = R.wds m ++ l
  put : ∀ w, ∃ l, T.put w = R.put w ++ l
  snd : ∀ w, ∃ l, T.snd w = R.snd w ++ l ∧ ∀ x ∈ l, ∃ c, x = some (N.src w, c) ∧ R.cnt (N.src w) < c ∧ c ≤ T.cnt (N.src w)
  wk : ∀ w, ∃ l, T.wk w = R.wk w ++ l ∧ ∀ x ∈ l, ∃ c, x.2 = (N.goal w, c) ∧ R.cnt (N.goal w) < c ∧ c ≤ T.cnt (N.goal w)
  evs : ∃ l, T.evs = R.evs ++ l
  own : ∀ m, R.cnt m = T.cnt m → Own N R T m
theorem Later.refl {N : Nt} {R : Run} : Later N R R :=
  ⟨fun _ => Nat.le_refl _, fun _ => ⟨[], by simp⟩, fun _ => ⟨[], by simp⟩, fun _ => ⟨[], by simp⟩, fun _ => ⟨[], by simp⟩, fun _ => ⟨[], by simp⟩, ⟨[], by simp⟩, fun _ _ => .refl⟩
theorem sends_src {N : Nt} {m w : Nat} {sent : List (Nat × Int)} {x : Int} (h : x ∈ sends (N.outs m) sent w) : N.src w = m := by
  cases q : decide (N.src w = m) with
  | true => exact of_decide_eq_true q
  | false =>
    rw [sends_other sent (of_decide_eq_false q)] at h
    cases h
theorem Later.pick {N : Nt} {R T : Run} {w n : Nat} (h : Later N R T) : Later N R (T.pick N w n) := by
  have up : ∀ m, T.cnt m ≤ (T.pick N w n).cnt m := fun m => by rw [pick_cnt]; split <;> omega
  refine ⟨fun m => Nat.le_trans (h.cnt m) (up m), fun m => ?_, fun m => ?_, fun v => ?_, fun v => ?_, fun v => ?_, ?_, fun m e => ?_⟩
  · obtain ⟨l, q⟩ := h.sts m
    show ∃ l, (if m = N.goal w then T.sts m ++ _ else T.sts m) = _
    split
    · exact ⟨l ++ [_], by rw [q, List.append_assoc]⟩
    · exact ⟨l, q⟩
  · obtain ⟨l, q⟩ := h.wds m
    show ∃ l, (if m = N.goal w then T.wds m ++ _ else T.wds m) = _
    split
    · exact ⟨l ++ [_], by rw [q, List.append_assoc]⟩
    · exact ⟨l, q⟩
  · obtain ⟨l, q⟩ := h.put v
    exact ⟨l ++ _, by show T.put v ++ _ = _; rw [q, List.append_assoc]⟩
  · obtain ⟨l, q, hl⟩ := h.snd v
    refine ⟨l ++ _, by show T.snd v ++ _ = _; rw [q, List.append_assoc], fun x hx => ?_⟩
    rcases List.mem_append.mp hx with hx | hx
    · obtain ⟨c, e, h1, h2⟩ := hl x hx
      exact ⟨c, e, h1, Nat.le_trans h2 (up _)⟩
    · obtain ⟨y, hy, rfl⟩ := List.mem_map.mp hx
      have e := sends_src hy
      refine ⟨T.cnt (N.goal w) + 1, by rw [e], ?_, ?_⟩
      · rw [e]; exact Nat.lt_succ_of_le (h.cnt _)
      · rw [e, pick_cnt, if_pos rfl]; exact Nat.le_refl _
  · obtain ⟨l, q, hl⟩ := h.wk v
    show ∃ l, (if v = w then T.wk v ++ _ else T.wk v) = _ ∧ _
    split
    · rename_i ev
      subst ev
      refine ⟨l ++ [(n, (N.goal v, T.cnt (N.goal v) + 1))], by rw [q, List.append_assoc], fun x hx => ?_⟩
      rcases List.mem_append.mp hx with hx | hx
      · obtain ⟨c, e, h1, h2⟩ := hl x hx
        exact ⟨c, e, h1, Nat.le_trans h2 (up _)⟩
      · rw [List.mem_singleton.mp hx]
        exact ⟨_, rfl, Nat.lt_succ_of_le (h.cnt _), by rw [pick_cnt, if_pos rfl]; exact Nat.le_refl _⟩
    · exact ⟨l, q, fun x hx => by
        obtain ⟨c, e, h1, h2⟩ := hl x hx
        exact ⟨c, e, h1, Nat.le_trans h2 (up _)⟩⟩
  · obtain ⟨l, q⟩ := h.evs
    exact ⟨l ++ [(w, n)], by show T.evs ++ _ = _; rw [q, List.append_assoc]⟩
  · by_cases hm : m = N.goal w
    · exfalso
      rw [pick_cnt, if_pos hm] at e
      have := h.cnt m
      omega
    · rw [pick_cnt, if_neg hm] at e
      exact (h.own m e).trans (pick_own hm).symm
theorem Later.goOn {N : Nt} {R T : Run} (h : Later N R T) : ∀ es, Later N R (goOn N T es) := by
  intro es
  induction es generalizing T with
  | nil => exact h
  | cons e es ih => exact ih h.pick
end Cr
/-! ## A cut without orphans: both parts are schedules -/
namespace Cr
theorem lookup_app {α β : Type} [BEq α] {x : α} {l r : List (α × β)} : (l ++ r).lookup x = (l.lookup x).or (r.lookup x) := by
  induction l with
  | nil => rfl
  | cons p l ih =>
    obtain ⟨a, b⟩ := p
    rw [List.cons_append, List.lookup_cons, List.lookup_cons]
    cases x == a with
    | true => rfl
    | false => exact ih
/-- the run behind its first i picks -/
def At (N : Nt) (R : Run) (i : Nat) : Run := goOn N (begun N) (R.evs.take i)
section
variable {N : Nt} {R : Run}
theorem goOn_evs (R : Run) (es : List (Nat × Nat)) : (goOn N R es).evs = R.evs ++ es := by
  induction es generalizing R with
  | nil => exact (List.append_nil _).symm
  | cons e es ih =>
    rw [goOn_cons, ih]
    show (R.evs ++ [(e.1, e.2)]) ++ es = _
    rw [List.append_assoc]
    rfl
theorem at_zero : At N R 0 = begun N := rfl
theorem at_succ {i : Nat} {e : Nat × Nat} (h : R.evs[i]? = some e) : At N R (i + 1) = (At N R i).pick N e.1 e.2 := by
  unfold At
  rw [take_more h, goOn_snoc]
theorem at_later {i j : Nat} (h : i ≤ j) : Later N (At N R i) (At N R j) := by
  have e : R.evs.take j = R.evs.take i ++ (R.evs.take j).drop i := by
    have := List.take_append_drop i (R.evs.take j)
    rw [List.take_take, Nat.min_eq_left h] at this
    exact this.symm
  have e2 : At N R j = goOn N (At N R i) ((R.evs.take j).drop i) := by
    unfold At
    rw [e, goOn_append, ← e]
  rw [e2]
  exact Later.refl.goOn _
theorem Ply.all (h : Ply N R) : goOn N (begun N) R.evs = R ∧ ∀ i e, R.evs[i]? = some e → (At N R i).May N e.1 e.2 := by
  induction h with
  | nil => exact ⟨rfl, fun i e h => by cases h⟩
  | @pick R w n hp hm ih =>
    obtain ⟨ih1, ih2⟩ := ih
    refine ⟨?_, fun i e h => ?_⟩
    · show goOn N (begun N) (R.evs ++ [(w, n)]) = _
      rw [goOn_snoc, ih1]
    · have h' : (R.evs ++ [(w, n)])[i]? = some e := h
      have hi : i < (R.evs ++ [(w, n)]).length := (List.getElem?_eq_some_iff.mp h').1
      rw [List.length_append] at hi
      have hi2 : i ≤ R.evs.length := Nat.le_of_lt_succ hi
      have ea : At N (R.pick N w n) i = At N R i := by
        unfold At
        show goOn N (begun N) ((R.evs ++ [(w, n)]).take i) = _
        rw [List.take_append_of_le_length hi2]
      rw [ea]
      by_cases hl : i < R.evs.length
      · rw [List.getElem?_append_left hl] at h'
        exact ih2 i e h'
      · have hi3 : i = R.evs.length := by omega
        subst hi3
        rw [List.getElem?_append_right (Nat.le_refl _), Nat.sub_self] at h'
        have he : (w, n) = e := Option.some.inj h'
        subst he
        unfold At
        rw [List.take_length, ih1]
        exact hm
theorem Ply.at_len (h : Ply N R) : At N R R.evs.length = R := by
  unfold At
  rw [List.take_length]
  exact h.all.1
theorem Ply.later (h : Ply N R) {i : Nat} (hi : i ≤ R.evs.length) : Later N (At N R i) R := by
  have := at_later (N := N) (R := R) hi
  rw [h.at_len] at this
  exact this
/-- a list of picks that may be done one after another -/
theorem ply_of : ∀ (es : List (Nat × Nat)) {T : Run}, Ply N T → (∀ j e, es[j]? = some e → (goOn N T (es.take j)).May N e.1 e.2) → Ply N (goOn N T es)
  | [], _, h, _ => h
  | e :: es, T, h, k => ply_of es (.pick h (k 0 e rfl)) fun j f hf => k (j + 1) f hf
/-- the letters are told with their senders -/
theorem Ply.lens (h : Ply N R) (w : Nat) : (R.put w).length = (R.snd w).length := by
  induction h with
  | nil =>
    show (N.ls.filterMap _).length = (N.ls.filterMap _).length
    have : ∀ l : List (Nat × Int), (l.filterMap fun l => if l.1 = w then some l.2 else none).length = (l.filterMap fun l => if l.1 = w then some (none : Option (Nat × Nat)) else none).length := by
      intro l
      induction l with
      | nil => rfl
      | cons a l ih =>
        rw [List.filterMap_cons, List.filterMap_cons]
        by_cases e : a.1 = w
        · rw [if_pos e, if_pos e]
          exact congrArg Nat.succ ih
        · rw [if_neg e, if_neg e]
          exact ih
    exact this N.ls
  | @pick R v n hp hm ih =>
    show (R.put w ++ _).length = (R.snd w ++ _).length
    rw [List.length_append, List.length_append, ih, List.length_map]
theorem begun_snd {w : Nat} {x : Option (Nat × Nat)} (h : x ∈ (begun N).snd w) : x = none := by
  obtain ⟨l, _, e⟩ := List.mem_filterMap.mp h
  split at e
  · exact (Option.some.inj e).symm
  · cases e
/-- senders are events of the way's source that were -/
theorem Ply.snd_ok (h : Ply N R) {w : Nat} {s : Nat × Nat} (hs : some s ∈ R.snd w) : s.1 = N.src w ∧ 1 ≤ s.2 ∧ s.2 ≤ R.cnt (N.src w) := by
  have L := h.later (Nat.zero_le _)
  rw [at_zero] at L
  obtain ⟨l, e, hl⟩ := L.snd w
  rw [e] at hs
  rcases List.mem_append.mp hs with hs | hs
  · cases begun_snd hs
  · obtain ⟨c, q, h1, h2⟩ := hl _ hs
    have q2 : s = (N.src w, c) := Option.some.inj q
    subst q2
    exact ⟨rfl, by show 1 ≤ c; omega, h2⟩
theorem Ply.wk_ok (h : Ply N R) {w : Nat} {x : Nat × (Nat × Nat)} (hs : x ∈ R.wk w) : x.2.1 = N.goal w ∧ 1 ≤ x.2.2 ∧ x.2.2 ≤ R.cnt (N.goal w) := by
  have L := h.later (Nat.zero_le _)
  rw [at_zero] at L
  obtain ⟨l, e, hl⟩ := L.wk w
  rw [e] at hs
  have hs : x ∈ l := by
    rcases List.mem_append.mp hs with hs | hs
    · cases hs
    · exact hs
  obtain ⟨c, q, h1, h2⟩ := hl _ hs
  rw [q]
  exact ⟨rfl, by show 1 ≤ c; omega, h2⟩
theorem mem_lookup' {x : Nat} {e : Nat × Nat} {l : List (Nat × (Nat × Nat))} (h : l.lookup x = some e) : (x, e) ∈ l := by
  induction l with
  | nil => cases h
  | cons p l ih =>
    obtain ⟨a, b⟩ := p
    rw [List.lookup_cons] at h
    cases q : x == a with
    | true =>
      rw [q] at h
      have h1 : b = e := Option.some.inj h
      rw [beq_iff_eq.mp q, h1]
      exact List.mem_cons_self
    | false =>
      rw [q] at h
      exact List.mem_cons_of_mem _ (ih h)
theorem Ply.worker_ok (h : Ply N R) {w n : Nat} {e : Nat × Nat} (hs : R.worker w n = some e) : e.1 = N.goal w ∧ 1 ≤ e.2 ∧ e.2 ≤ R.cnt (N.goal w) := h.wk_ok (mem_lookup' hs)
/-- the event of the i-th pick -/
theorem Ply.event (h : Ply N R) {i : Nat} {e : Nat × Nat} (he : R.evs[i]? = some e) : R.worker e.1 e.2 = some (N.goal e.1, (At N R i).cnt (N.goal e.1) + 1) := by
  have hi : i < R.evs.length := (List.getElem?_eq_some_iff.mp he).1
  have M := h.all.2 i e he
  have L := h.later (i := i + 1) hi
  rw [at_succ he] at L
  obtain ⟨l, q, _⟩ := L.wk e.1
  unfold Run.worker
  rw [q, lookup_app]
  show ((if e.1 = e.1 then (At N R i).wk e.1 ++ [(e.2, _)] else _).lookup e.2).or _ = _
  rw [if_pos rfl, lookup_app]
  have := M.hno
  unfold Run.worker at this
  rw [this]
  simp [List.lookup]
/-- each number of events up to the last one was had at some time -/
theorem Ply.time (h : Ply N R) (m : Nat) {k : Nat} (hk : k ≤ R.cnt m) : ∃ t, t ≤ R.evs.length ∧ (At N R t).cnt m = k := by
  have key : ∀ i, i ≤ R.evs.length → k ≤ (At N R i).cnt m → ∃ t, t ≤ R.evs.length ∧ (At N R t).cnt m = k := by
    intro i
    induction i with
    | zero =>
      intro _ h0
      have : (At N R 0).cnt m = 0 := rfl
      exact ⟨0, Nat.zero_le _, by omega⟩
    | succ i ih =>
      intro hi hk
      have he : R.evs[i]? = some R.evs[i] := List.getElem?_eq_getElem (by omega)
      by_cases q : k ≤ (At N R i).cnt m
      · exact ih (by omega) q
      · refine ⟨i + 1, hi, ?_⟩
        rw [at_succ he, pick_cnt] at hk ⊢
        split at hk <;> split <;> omega
  have e := h.at_len
  exact key R.evs.length (Nat.le_refl _) (by rw [e]; exact hk)
/-- T stands as R's machines did when each had k of its events -/
def Vw (N : Nt) (R : Run) (k : Nat → Nat) (T : Run) : Prop := ∀ i, i ≤ R.evs.length → ∀ m, (At N R i).cnt m = k m → Own N T (At N R i) m
theorem at_own (i j m : Nat) (e : (At N R i).cnt m = (At N R j).cnt m) : Own N (At N R i) (At N R j) m := by
  by_cases h : i ≤ j
  · exact (at_later h).own m e
  · exact ((at_later (by omega : j ≤ i)).own m e.symm).symm
theorem getD_pre {l1 l2 r1 r2 : List Int} {n : Nat} (e : l1 ++ r1 = l2 ++ r2) (h1 : n < l1.length) (h2 : n < l2.length) : l1.getD n 0 = l2.getD n 0 := by
  have a : (l1 ++ r1)[n]? = l1[n]? := List.getElem?_append_left (l₁ := l1) (l₂ := r1) h1
  have b : (l2 ++ r2)[n]? = l2[n]? := List.getElem?_append_left (l₁ := l2) (l₂ := r2) h2
  rw [e, b] at a
  rw [List.getD_eq_getElem?_getD, List.getD_eq_getElem?_getD, a]
theorem vw_step (h : Ply N R) {i : Nat} {e : Nat × Nat} (he : R.evs[i]? = some e) {k : Nat → Nat} {T : Run} (hT : Vw N R k T) (hk : ∀ m, k m ≤ R.cnt m) (hm : k (N.goal e.1) = (At N R i).cnt (N.goal e.1))
    (hs : ∀ s, (R.snd e.1)[e.2]? = some (some s) → s.2 ≤ k (N.src e.1)) (pT : Ply N T) :
    T.May N e.1 e.2 ∧ Vw N R (fun m => if m = N.goal e.1 then k m + 1 else k m) (T.pick N e.1 e.2) := by
  have hi : i < R.evs.length := (List.getElem?_eq_some_iff.mp he).1
  obtain ⟨w, n⟩ := e
  have M : (At N R i).May N w n := h.all.2 i _ he
  have O := hT i (Nat.le_of_lt hi) (N.goal w) hm.symm
  obtain ⟨t, ht, ct⟩ := h.time (N.src w) (hk (N.src w))
  have Ot := hT t ht (N.src w) ct
  have eput := Ot.put w rfl
  have esnd := Ot.snd w rfl
  have Lt := h.later ht
  have Li := h.later (Nat.le_of_lt hi)
  -- the letter is there
  have hn : n < (T.put w).length := by
    rw [pT.lens, esnd]
    obtain ⟨l, q, hl⟩ := Lt.snd w
    obtain ⟨l2, q2⟩ := Li.put w
    have hlen : n < (R.snd w).length := by
      rw [← h.lens, q2, List.length_append]
      have := M.hn
      omega
    rcases Nat.lt_or_ge n ((At N R t).snd w).length with z | z
    · exact z
    · exfalso
      have hg : (R.snd w)[n]? = l[n - ((At N R t).snd w).length]? := by rw [q, List.getElem?_append_right z]
      have hx : (R.snd w)[n]? = some (R.snd w)[n] := List.getElem?_eq_getElem hlen
      rw [hx] at hg
      obtain ⟨c, ec, h1, _⟩ := hl _ (List.mem_of_getElem? hg.symm)
      rw [ec] at hx
      have := hs _ hx
      have c1 : c ≤ k (N.src w) := this
      omega
  have eg : (T.put w).getD n 0 = ((At N R i).put w).getD n 0 := by
    rw [eput] at hn ⊢
    obtain ⟨l, q⟩ := Lt.put w
    obtain ⟨l2, q2⟩ := Li.put w
    exact getD_pre (q.symm.trans q2) hn M.hn
  have ewk : ∀ x, T.worker w x = (At N R i).worker w x := fun x => by unfold Run.worker; rw [O.wk w rfl]
  refine ⟨⟨M.hw, hn, by rw [ewk]; exact M.hno, fun hr x hx => by rw [ewk]; exact M.hrow hr x hx⟩, fun j hj m hc => ?_⟩
  by_cases em : m = N.goal w
  · subst em
    have P := pick_same (n := n) O eg
    have e1 := at_succ (N := N) he
    have hc : (At N R j).cnt (N.goal w) = k (N.goal w) + 1 := by
      have q : (At N R j).cnt (N.goal w) = if N.goal w = N.goal w then k (N.goal w) + 1 else k (N.goal w) := hc
      rw [if_pos rfl] at q
      exact q
    have hm : k (N.goal w) = (At N R i).cnt (N.goal w) := hm
    have e2 : (At N R (i + 1)).cnt (N.goal w) = (At N R j).cnt (N.goal w) := by
      rw [e1, pick_cnt, if_pos rfl, hc, hm]
    have e1' : At N R (i + 1) = (At N R i).pick N w n := e1
    rw [← e1'] at P
    exact P.trans (at_own _ _ _ e2)
  · have hc : (At N R j).cnt m = k m := by
      have q : (At N R j).cnt m = if m = N.goal w then k m + 1 else k m := hc
      rw [if_neg em] at q
      exact q
    exact (pick_own em).trans (hT j hj m hc)
end
/-- a letter is an orphan of the cut c -/
def isOrphan (R : Run) (c : Nat → Nat) (w n : Nat) : Bool := match R.worker w n with
  | some e => decide (e.2 ≤ c e.1) && (match (R.snd w).getD n none with
    | some s => decide (c s.1 < s.2)
    | none => false)
  | none => false
/-- the i-th pick's event is within the cut -/
def within (R : Run) (c : Nat → Nat) (e : Nat × Nat) : Bool := match R.worker e.1 e.2 with
  | some v => decide (v.2 ≤ c v.1)
  | none => false
def firstPart (R : Run) (c : Nat → Nat) : List (Nat × Nat) := R.evs.filter (within R c)
def thenPart (R : Run) (c : Nat → Nat) : List (Nat × Nat) := R.evs.filter fun e => !within R c e
section
variable {N : Nt} {R : Run} {c : Nat → Nat}
theorem vw_congr {k k' : Nat → Nat} {T : Run} (h : Vw N R k T) (e : ∀ m, k' m = k m) : Vw N R k' T := fun i hi m hc => h i hi m (by rw [← e]; exact hc)
theorem Later.cnt_le {R T : Run} (h : Later N R T) (m : Nat) : R.cnt m ≤ T.cnt m := h.cnt m
theorem sender_before (h : Ply N R) {i : Nat} {e s : Nat × Nat} (he : R.evs[i]? = some e) (hs : (R.snd e.1)[e.2]? = some (some s)) : s.1 = N.src e.1 ∧ s.2 ≤ (At N R i).cnt (N.src e.1) := by
  have hi : i < R.evs.length := (List.getElem?_eq_some_iff.mp he).1
  have M := h.all.2 i e he
  have L := h.later (Nat.le_of_lt hi)
  have pi : Ply N (At N R i) := by
    refine ply_of _ .nil fun j f hf => ?_
    have hj : j < (R.evs.take i).length := (List.getElem?_eq_some_iff.mp hf).1
    rw [List.length_take] at hj
    rw [List.getElem?_take_of_lt (by omega)] at hf
    have := h.all.2 j f hf
    unfold At at this
    rw [List.take_take, Nat.min_eq_left (by omega)]
    exact this
  obtain ⟨l, q, _⟩ := L.snd e.1
  have hn : e.2 < ((At N R i).snd e.1).length := by rw [← pi.lens]; exact M.hn
  rw [q, List.getElem?_append_left hn] at hs
  have := pi.snd_ok (List.mem_of_getElem? hs)
  exact ⟨this.1, this.2.2⟩
theorem filter_take {p : Nat × Nat → Bool} {l : List (Nat × Nat)} {i : Nat} {e : Nat × Nat} (h : l[i]? = some e) : (l.take (i + 1)).filter p = (l.take i).filter p ++ (if p e then [e] else []) := by
  rw [take_more h, List.filter_append]
  congr 1
  cases q : p e with
  | true => rw [List.filter_cons_of_pos q]; simp
  | false => rw [List.filter_cons_of_neg (by simp [q])]; simp
theorem within_event (h : Ply N R) {i : Nat} {e : Nat × Nat} (he : R.evs[i]? = some e) : within R c e = decide ((At N R i).cnt (N.goal e.1) + 1 ≤ c (N.goal e.1)) := by
  unfold within
  rw [h.event he]
/-- the first part leads to where the machines stood behind the cut's counts -/
theorem first_at (h : Ply N R) (hc : ∀ m, c m ≤ R.cnt m) (ho : ∀ w n, isOrphan R c w n = false) : ∀ i, i ≤ R.evs.length →
    Ply N (goOn N (begun N) ((R.evs.take i).filter (within R c))) ∧ Vw N R (fun m => min (c m) ((At N R i).cnt m)) (goOn N (begun N) ((R.evs.take i).filter (within R c)))
  | 0, _ => by
    refine ⟨.nil, fun j hj m hcm => ?_⟩
    have e0 : (At N R 0).cnt m = 0 := rfl
    have hcm : (At N R j).cnt m = min (c m) ((At N R 0).cnt m) := hcm
    rw [e0, Nat.min_zero] at hcm
    exact at_own 0 j m (by rw [hcm]; exact e0)
  | i + 1, hi => by
    obtain ⟨ih1, ih2⟩ := first_at h hc ho i (by omega)
    have he : R.evs[i]? = some R.evs[i] := List.getElem?_eq_getElem (by omega)
    generalize R.evs[i] = e at he
    have L := h.later (i := i) (by omega)
    rw [filter_take he]
    have hw := within_event (c := c) h he
    have ev := h.event he
    by_cases hin : (At N R i).cnt (N.goal e.1) + 1 ≤ c (N.goal e.1)
    · rw [hw, decide_eq_true hin, if_pos rfl, goOn_snoc]
      have hsn : ∀ s, (R.snd e.1)[e.2]? = some (some s) → s.2 ≤ min (c (N.src e.1)) ((At N R i).cnt (N.src e.1)) := fun s hs => by
        obtain ⟨s1, s2⟩ := sender_before h he hs
        have no := ho e.1 e.2
        unfold isOrphan at no
        rw [ev] at no
        have gd : (R.snd e.1).getD e.2 none = some s := by rw [List.getD_eq_getElem?_getD, hs]; rfl
        rw [gd] at no
        have no2 : (decide ((At N R i).cnt (N.goal e.1) + 1 ≤ c (N.goal e.1)) && decide (c s.1 < s.2)) = false := no
        rw [decide_eq_true hin, Bool.true_and] at no2
        have := of_decide_eq_false no2
        rw [s1] at this
        omega
      obtain ⟨m1, m2⟩ := vw_step h he ih2 (fun m => Nat.le_trans (Nat.min_le_left _ _) (hc m)) (by show min _ _ = _; omega) hsn ih1
      refine ⟨.pick ih1 m1, vw_congr m2 fun m => ?_⟩
      rw [at_succ he, pick_cnt]
      split
      · rename_i em; subst em; omega
      · rfl
    · rw [hw, decide_eq_false hin]
      simp only [Bool.false_eq_true, if_false, List.append_nil]
      refine ⟨ih1, vw_congr ih2 fun m => ?_⟩
      rw [at_succ he, pick_cnt]
      split
      · rename_i em; subst em; omega
      · rfl
/-- and the second part goes on from there to where the run stands -/
theorem then_at (h : Ply N R) (hc : ∀ m, c m ≤ R.cnt m) (ho : ∀ w n, isOrphan R c w n = false) : ∀ i, i ≤ R.evs.length →
    Ply N (goOn N (goOn N (begun N) (firstPart R c)) ((R.evs.take i).filter fun e => !within R c e)) ∧
      Vw N R (fun m => max (c m) ((At N R i).cnt m)) (goOn N (goOn N (begun N) (firstPart R c)) ((R.evs.take i).filter fun e => !within R c e))
  | 0, _ => by
    have F := first_at h hc ho R.evs.length (Nat.le_refl _)
    rw [List.take_length, h.at_len] at F
    refine ⟨F.1, vw_congr F.2 fun m => ?_⟩
    have e0 : (At N R 0).cnt m = 0 := rfl
    rw [e0]
    have := hc m
    omega
  | i + 1, hi => by
    obtain ⟨ih1, ih2⟩ := then_at h hc ho i (by omega)
    have he : R.evs[i]? = some R.evs[i] := List.getElem?_eq_getElem (by omega)
    generalize R.evs[i] = e at he
    have L := h.later (i := i) (by omega)
    rw [filter_take he]
    have hw := within_event (c := c) h he
    by_cases hin : (At N R i).cnt (N.goal e.1) + 1 ≤ c (N.goal e.1)
    · rw [hw, decide_eq_true hin]
      simp only [Bool.not_true, Bool.false_eq_true, if_false, List.append_nil]
      refine ⟨ih1, vw_congr ih2 fun m => ?_⟩
      rw [at_succ he, pick_cnt]
      split
      · rename_i em; subst em; omega
      · rfl
    · rw [hw, decide_eq_false hin]
      simp only [Bool.not_false, if_true]
      rw [goOn_snoc]
      have hsn : ∀ s, (R.snd e.1)[e.2]? = some (some s) → s.2 ≤ max (c (N.src e.1)) ((At N R i).cnt (N.src e.1)) := fun s hs => by
        obtain ⟨s1, s2⟩ := sender_before h he hs
        omega
      obtain ⟨m1, m2⟩ := vw_step h he ih2 (fun m => Nat.max_le.mpr ⟨hc m, L.cnt m⟩) (by show max _ _ = _; omega) hsn ih1
      refine ⟨.pick ih1 m1, vw_congr m2 fun m => ?_⟩
      rw [at_succ he, pick_cnt]
      split
      · rename_i em; subst em; omega
      · rfl
/-- THE CUT: both parts are schedules; the first one leads to the states and words behind the cut's counts, both together to where the run stands -/
theorem cut_parts (h : Ply N R) (hc : ∀ m, c m ≤ R.cnt m) (ho : ∀ w n, isOrphan R c w n = false) :
    Ply N (goOn N (begun N) (firstPart R c ++ thenPart R c)) ∧ (∀ m, (goOn N (begun N) (firstPart R c ++ thenPart R c)).sts m = R.sts m ∧ (goOn N (begun N) (firstPart R c ++ thenPart R c)).wds m = R.wds m) ∧
      (∀ w, (goOn N (begun N) (firstPart R c ++ thenPart R c)).put w = R.put w ∧ (goOn N (begun N) (firstPart R c ++ thenPart R c)).wk w = R.wk w) ∧
      Ply N (goOn N (begun N) (firstPart R c)) ∧ ∀ m, ∃ l1 l2, R.sts m = (goOn N (begun N) (firstPart R c)).sts m ++ l1 ∧ R.wds m = (goOn N (begun N) (firstPart R c)).wds m ++ l2 ∧ (goOn N (begun N) (firstPart R c)).cnt m = c m := by
  have F := first_at h hc ho R.evs.length (Nat.le_refl _)
  rw [List.take_length, h.at_len] at F
  have T := then_at h hc ho R.evs.length (Nat.le_refl _)
  rw [List.take_length, h.at_len] at T
  have e : goOn N (goOn N (begun N) (firstPart R c)) (R.evs.filter fun e => !within R c e) = goOn N (begun N) (firstPart R c ++ thenPart R c) := by
    rw [goOn_append] <;> rfl
  rw [e] at T
  have O : ∀ m, Own N (goOn N (begun N) (firstPart R c ++ thenPart R c)) R m := fun m => by
    have := T.2 R.evs.length (Nat.le_refl _) m (by rw [h.at_len]; have := hc m; show R.cnt m = max (c m) (R.cnt m); omega)
    rw [h.at_len] at this
    exact this
  refine ⟨T.1, fun m => ⟨(O m).sts, (O m).wds⟩, fun w => ⟨(O (N.src w)).put w rfl, (O (N.goal w)).wk w rfl⟩, F.1, fun m => ?_⟩
  obtain ⟨t, ht, ct⟩ := h.time m (hc m)
  have Q := F.2 t ht m (by rw [ct]; have := hc m; show c m = min (c m) (R.cnt m); omega)
  have L := h.later ht
  obtain ⟨l1, q1⟩ := L.sts m
  obtain ⟨l2, q2⟩ := L.wds m
  exact ⟨l1, l2, by show _ = (goOn N (begun N) (R.evs.filter _)).sts m ++ _; rw [Q.sts]; exact q1, by show _ = (goOn N (begun N) (R.evs.filter _)).wds m ++ _; rw [Q.wds]; exact q2, by
    rw [← ct]
    exact Q.cnt⟩
end
end Cr
namespace Cr
open PySem PySem.Spec PyProof.Rows L2 He
/-! ### defs by their names, with their promises -/
section
variable (P : Program) (w : World) (K : PySem.W.Frag) (mg : Str → Option Value) (base : Heap)
structure Cal (k : Nat) (x : Str) (sp : Sp) : Prop where
  ex : ∃ (f : Addr) (fd : FuncData) (ps : List Str), FnOk P w K mg base CX0 k f fd ps sp ∧ mg x = some (.ref f) ∧ PySem.W.keepIn K (.ref f) = true ∧ Binds K fd ps []
/-- one that may raise -/
structure CalX (k : Nat) (x : Str) (sp : Sp) : Prop where
  ex : ∃ (f : Addr) (fd : FuncData) (ps : List Str), FnOk P w K mg base (L2.CX P w) k f fd ps sp ∧ mg x = some (.ref f) ∧ PySem.W.keepIn K (.ref f) = true ∧ Binds K fd ps []
structure Met (k : Nat) (C : Addr) (m : Str) (sp : Sp) : Prop where
  ex : ∃ (f : Addr) (fd : FuncData) (ps : List Str), Cls K C ∧ Meth K C m f ∧ FnOk P w K mg base CX0 k f fd ps sp ∧ Binds K fd ps []
structure Mak (k : Nat) (x : Str) (C : Addr) (sp : Sp) : Prop where
  ex : ∃ (f : Addr) (fd : FuncData) (ps : List Str), Mk K C f ∧ FnOk P w K mg base CX0 k f fd ps sp ∧ mg x = some (.ref C) ∧ Binds K fd ps []
end
section
variable {P : Program} {w : World} {K : PySem.W.Frag} {mg : Str → Option Value} {base : Heap} {x qual : Str} {st : Stmt} {f C : Addr} {N ps : List Str} {k : Nat} {sp : Sp}
theorem FunD.fn0 {fd : FuncData} (F : FunD K x qual (defArgs st) (defBody st) (defScope st) [] [] f fd) (S : FnScope N ps (defScope st)) (len : ∀ vs H Q E, sp vs H Q E → vs.length = ps.length)
    (hbody : ∀ (cdv : Value) (A : Around) (outer : List Env) (s : Shared) (H : Hp) (vs : List V) (Q : VK) (E : XK), Room k (A.deeper (envOfC qual (defScope st) s.heap.objs.size f cdv)) → sp vs H Q E →
      ∃ t, PSs (cxOf CX0 P w K mg base N qual (defScope st) f cdv A outer s H E).nox (defBody st) t ∧ t { nx := fun _ H' => Q .non H', rt := Q } (start N vs) H) : FnOk P w K mg base CX0 (k + 1) f fd ps sp :=
  F.ok S len fun cdv A outer s H vs Q E hr hsp => by
    obtain ⟨t, h, q⟩ := hbody cdv A outer s H vs Q E hr hsp
    exact ⟨t, h.nox, q⟩
theorem Cal.mk0 (hm : mg x = some (.ref f)) (D : ∃ fd, FunD K x x (defArgs st) (defBody st) (defScope st) [] [] f fd) (S : FnScope N ps (defScope st))
    (hb : ∀ (kV doc pm : Value) (an : Option Addr) (cdv ct : Value) (us : List Value), us.length = ps.length → bindArgs (PySem.W.fnOf x x (defArgs st) (defBody st) (defScope st) .none kV doc pm an cdv ct) ⟨us, []⟩ = pure (ps.zip us))
    (len : ∀ vs H Q E, sp vs H Q E → vs.length = ps.length)
    (hbody : ∀ (cdv : Value) (A : Around) (outer : List Env) (s : Shared) (H : Hp) (vs : List V) (Q : VK) (E : XK), Room k (A.deeper (envOfC x (defScope st) s.heap.objs.size f cdv)) → sp vs H Q E →
      ∃ t, PSs (cxOf CX0 P w K mg base N x (defScope st) f cdv A outer s H E).nox (defBody st) t ∧ t { nx := fun _ H' => Q .non H', rt := Q } (start N vs) H) : Cal P w K mg base (k + 1) x sp := by
  obtain ⟨fd, F⟩ := D
  exact ⟨f, fd, ps, FunD.fn0 F S len hbody, hm, F.kp, F.bindsN hb⟩
theorem CalX.mk0 (hm : mg x = some (.ref f)) (D : ∃ fd, FunD K x x (defArgs st) (defBody st) (defScope st) [] [] f fd) (S : FnScope N ps (defScope st))
    (hb : ∀ (kV doc pm : Value) (an : Option Addr) (cdv ct : Value) (us : List Value), us.length = ps.length → bindArgs (PySem.W.fnOf x x (defArgs st) (defBody st) (defScope st) .none kV doc pm an cdv ct) ⟨us, []⟩ = pure (ps.zip us))
    (len : ∀ vs H Q E, sp vs H Q E → vs.length = ps.length)
    (hbody : ∀ (cdv : Value) (A : Around) (outer : List Env) (s : Shared) (H : Hp) (vs : List V) (Q : VK) (E : XK), Room k (A.deeper (envOfC x (defScope st) s.heap.objs.size f cdv)) → sp vs H Q E →
      ∃ t, PSs (cxOf (L2.CX P w) P w K mg base N x (defScope st) f cdv A outer s H E) (defBody st) t ∧ t { nx := fun _ H' => Q .non H', rt := Q } (start N vs) H) : CalX P w K mg base (k + 1) x sp := by
  obtain ⟨fd, F⟩ := D
  exact ⟨f, fd, ps, F.ok S len hbody, hm, F.kp, F.bindsN hb⟩
theorem Met.mk0 (hc : Cls K C) (hm : Meth K C x f) (D : ∃ fd, FunD K x qual (defArgs st) (defBody st) (defScope st) [] [] f fd) (S : FnScope N ps (defScope st))
    (hb : ∀ (kV doc pm : Value) (an : Option Addr) (cdv ct : Value) (us : List Value), us.length = ps.length → bindArgs (PySem.W.fnOf x qual (defArgs st) (defBody st) (defScope st) .none kV doc pm an cdv ct) ⟨us, []⟩ = pure (ps.zip us))
    (len : ∀ vs H Q E, sp vs H Q E → vs.length = ps.length)
    (hbody : ∀ (cdv : Value) (A : Around) (outer : List Env) (s : Shared) (H : Hp) (vs : List V) (Q : VK) (E : XK), Room k (A.deeper (envOfC qual (defScope st) s.heap.objs.size f cdv)) → sp vs H Q E →
      ∃ t, PSs (cxOf CX0 P w K mg base N qual (defScope st) f cdv A outer s H E).nox (defBody st) t ∧ t { nx := fun _ H' => Q .non H', rt := Q } (start N vs) H) : Met P w K mg base (k + 1) C x sp := by
  obtain ⟨fd, F⟩ := D
  exact ⟨f, fd, ps, hc, hm, FunD.fn0 F S len hbody, F.bindsN hb⟩
theorem Mak.mk0 {y : Str} (hk : Mk K C f) (hm : mg y = some (.ref C)) (D : ∃ fd, FunD K x qual (defArgs st) (defBody st) (defScope st) [] [] f fd) (S : FnScope N ps (defScope st))
    (hb : ∀ (kV doc pm : Value) (an : Option Addr) (cdv ct : Value) (us : List Value), us.length = ps.length → bindArgs (PySem.W.fnOf x qual (defArgs st) (defBody st) (defScope st) .none kV doc pm an cdv ct) ⟨us, []⟩ = pure (ps.zip us))
    (len : ∀ vs H Q E, sp vs H Q E → vs.length = ps.length)
    (hbody : ∀ (cdv : Value) (A : Around) (outer : List Env) (s : Shared) (H : Hp) (vs : List V) (Q : VK) (E : XK), Room k (A.deeper (envOfC qual (defScope st) s.heap.objs.size f cdv)) → sp vs H Q E →
      ∃ t, PSs (cxOf CX0 P w K mg base N qual (defScope st) f cdv A outer s H E).nox (defBody st) t ∧ t { nx := fun _ H' => Q .non H', rt := Q } (start N vs) H) : Mak P w K mg base (k + 1) y C sp := by
  obtain ⟨fd, F⟩ := D
  exact ⟨f, fd, ps, hk, FunD.fn0 F S len hbody, hm, F.bindsN hb⟩
end
section
variable {X : Cx} {k j : Nat} {C : Addr} {x m : Str} {sp : Sp} {p pos apos : Pos} {e o : Expr} {es : List Expr} {ta : TE} {t : TA}
theorem pe_c (c : Cal X.prog X.w X.K X.mg X.base k x sp) (hr : Room j X.A) (hk : k ≤ j) (hg : Gl X x) (ha : PA X (e :: es) t)
    (hdb : (x == ("__debug__" : Str)) = false := by decide) (he : starEach (e :: es) X.env = (false, eval e X.env) :: starEach es X.env := by rfl) (hpl : (backTo pos (starEach es X.env)).any (·.1) = false := by rfl) :
    PE X (.Call (.Name x p) (e :: es) [] pos) (tCall sp [] E0 t) := by
  obtain ⟨f, fd, ps, F, hm, kp, b⟩ := c.ex
  exact pe_call F (hr.mono hk) hg hm kp b .nil pass0 ha hdb he hpl
theorem pe_mk (c : Mak X.prog X.w X.K X.mg X.base k x C sp) (hr : Room j X.A) (hk : k + 1 ≤ j) (hg : Gl X x) (ha : PA X (e :: es) t)
    (hdb : (x == ("__debug__" : Str)) = false := by decide) (he : starEach (e :: es) X.env = (false, eval e X.env) :: starEach es X.env := by rfl) (hpl : (backTo pos (starEach es X.env)).any (·.1) = false := by rfl) :
    PE X (.Call (.Name x p) (e :: es) [] pos) (tMake C sp [] E0 t) := by
  obtain ⟨f, fd, ps, M, F, hm, b⟩ := c.ex
  exact pe_make M F (hr.mono hk) hg hm b .nil pass0 ha hdb he hpl
theorem pe_mk0 (c : Mak X.prog X.w X.K X.mg X.base k x C sp) (hr : Room j X.A) (hk : k + 1 ≤ j) (hg : Gl X x) (hdb : (x == ("__debug__" : Str)) = false := by decide) :
    PE X (.Call (.Name x p) [] [] pos) (tMake C sp [] E0 tNil) := by
  obtain ⟨f, fd, ps, M, F, hm, b⟩ := c.ex
  exact pe_make0 M F (hr.mono hk) hg hm b .nil pass0 hdb
theorem pe_mt {pl : Sem Bool} (c : Met X.prog X.w X.K X.mg X.base k C m sp) (hr : Room j X.A) (hk : k ≤ j) (he : PE X o ta) (ha : PA X (e :: es) t)
    (hst : starEach (e :: es) X.env = (false, eval e X.env) :: starEach es X.env := by rfl) (hpl : (backTo pos (starEach es X.env)).any (·.1) = false := by rfl)
    (ht : eval (.Call (.Attribute o m apos) (e :: es) [] pos) X.env = (do
      let ov ← eval o X.env
      standAt apos.atName
      let (f, first) ← holding [ov] (getMethod ov m pl)
      callWith pos f first (backTo pos (starEach (e :: es) X.env)) (backToKw pos (keywordEach [] X.env))) := by rfl) :
    PE X (.Call (.Attribute o m apos) (e :: es) [] pos) (tMeth C m sp [] E0 ta t) := by
  obtain ⟨f, fd, ps, hc, hm, F, b⟩ := c.ex
  exact pe_meth (pl := pl) he hc hm F (hr.mono hk) b .nil pass0 ha hst hpl ht
theorem pe_mt0 {pl : Sem Bool} (c : Met X.prog X.w X.K X.mg X.base k C m sp) (hr : Room j X.A) (hk : k ≤ j) (he : PE X o ta)
    (ht : eval (.Call (.Attribute o m apos) [] [] pos) X.env = (do
      let ov ← eval o X.env
      standAt apos.atName
      let (f, first) ← holding [ov] (getMethod ov m pl)
      callWith pos f first (backTo pos (starEach [] X.env)) (backToKw pos (keywordEach [] X.env))) := by rfl) :
    PE X (.Call (.Attribute o m apos) [] [] pos) (tMeth C m sp [] E0 ta tNil) := by
  obtain ⟨f, fd, ps, hc, hm, F, b⟩ := c.ex
  exact pe_meth0 (pl := pl) he hc hm F (hr.mono hk) b .nil pass0 ht
theorem u65 {A : Around} (r : Room k A) : A.units + 65 < cLine := by have := r.un; omega
end

/-! ### enumerate(tuple) -/
end Cr
namespace PySem
open Sem (wp)
open AutoSeq1 (wpAny_loadPart')
theorem cr_enumerate_newT (l : Addr) (items : Array Value) (n : Nat) (dct : Option Addr) (sl : Array (Option Value)) :
    Meets (Builtin.«enumerate.__new__» ⟨[.type "enumerate", .ref l], []⟩) (fun _ R s => s.heap.get? l = some { cls := .type "tuple", dict := dct, data := .seq items n, slots := sl } ∧
      R (.ok (.ret (.ref (s.heap.push { cls := .type "tuple_iterator", data := .fields #[.ref l, .int 0 0] }).objs.size)))
        { s with heap := (s.heap.push { cls := .type "tuple_iterator", data := .fields #[.ref l, .int 0 0] }).push { cls := .type "enumerate", data := .fields #[.none, .bool false, .ref s.heap.objs.size, rawInt 0, .none, .none] } }) :=
  .of_wp fun prog w A R s h => by
    obtain ⟨hp, g, d, tk, os⟩ := s; obtain ⟨hl, h⟩ := h
    have hsub := sub_enumerate
    have hL : Heap.IsTuple (Shared.heap ⟨hp, g, d, tk, os⟩) l items := ⟨_, hl, rfl, n, rfl⟩
    wp_walk using wpAny_loadPart' hl
    refine wpAny_stack_any fun st => wpAny_pure ?_
    split
    · rename_i c _ _ _ _ _
      cases (c == Value.type "enumerate")
      · wp_walk using wpAny_loadPart' hl, wpAny_pyIter_tuple hL
        exact ⟨_, rfl, h⟩
      · wp_walk using wpAny_loadPart' hl, wpAny_pyIter_tuple hL
        exact ⟨_, rfl, h⟩
    · wp_walk using wpAny_loadPart' hl, wpAny_pyIter_tuple hL
      exact ⟨_, rfl, h⟩
end PySem
namespace PySem
section
variable {prog : Program} {w : World} {A : Around} {E : Value → Shared → Prop} {s : Shared}
theorem cr_call_enumerate_tuple {l : Addr} {items : Array Value} {Q : Value → Shared → Prop} (hL : s.heap.IsTuple l items)
    (h : ∀ h', IsEnum h' (s.heap.objs.size + 1) s.heap.objs.size 0 .none → h'.IsTupleIter s.heap.objs.size l 0 → h'.objs.size = s.heap.objs.size + 2 →
      (∀ b o, s.heap.get? b = some o → h'.get? b = some o) → Q (.ref (s.heap.objs.size + 1)) { s with heap := h' }) :
    wpAny (model prog w) A (call (.type "enumerate") [.ref l]) Q E s := by
  obtain ⟨⟨c, dct, dt, sl⟩, hl, hc, n, hd⟩ := hL
  replace hc : c = .type "tuple" := hc
  replace hd : dt = .seq items n := hd
  subst hc hd
  refine callType_new F.called_enumerate (by decide) (F.typeCall_enumerate_1 _) (F.newCall_enumerate_1 _) (fun obj => F.args_object_init_2 obj _) F.entry_enumerate_new
    (cr_enumerate_newT l items n dct sl) ⟨hl, ?_⟩
  have hz : (s.heap.push { cls := .type "tuple_iterator", data := .fields #[.ref l, .int 0 0] }).objs.size = s.heap.objs.size + 1 := Heap.size_push ..
  show _ ∧ _
  rw [hz]
  have he : IsEnum ((s.heap.push { cls := .type "tuple_iterator", data := .fields #[.ref l, .int 0 0] }).push
      { cls := .type "enumerate", data := .fields #[.none, .bool false, .ref s.heap.objs.size, rawInt 0, .none, .none] }) (s.heap.objs.size + 1) s.heap.objs.size 0 .none := by
    have := Heap.get?_push_size (s.heap.push { cls := .type "tuple_iterator", data := .fields #[.ref l, .int 0 0] })
      (o := { cls := .type "enumerate", data := .fields #[.none, .bool false, .ref s.heap.objs.size, rawInt 0, .none, .none] }) rfl
    rw [hz] at this; exact this
  refine ⟨⟨_, he, rfl⟩, h _ he ⟨_, Heap.get?_push_of_some _ (Heap.get?_push_size _ rfl), rfl, rfl⟩ (by rw [Heap.size_push, hz]) fun b o x => Heap.get?_push_of_some _ (Heap.get?_push_of_some _ x)⟩
end
end PySem
namespace Cr
open PySem PySem.Spec PyProof.Rows L2 He
/-- the tuple at a, each item in a new pair with its number -/
def IteT (a : Addr) : It :=
  ⟨fun i H => ∃ (xs : List V) (x : V), H a = some (.tup xs) ∧ xs[i]? = some x, fun i H v H' => ∃ T x, v = .ref T ∧ H T = none ∧ H' = upd H T (.tup [.int (i : Nat), x]) ∧ ∀ xs, H a = some (.tup xs) → xs[i]? = some x, fun i H => ∃ xs : List V, H a = some (.tup xs) ∧ xs.length ≤ i⟩
theorem turn_enumT {P : Program} {w : World} {K : PySem.W.Frag} {elts : List Expr} {kk : Nat} {tpos : Pos} (a e it : Addr) :
    Turn P w K (.Tuple elts kk tpos) (IteT a) [e, it] e (fun i h => (∃ old, IsEnum h e it ((i : Nat) : Int) old) ∧ h.IsTupleIter it a i ∧ e ≠ it) where
  mem := by simp
  obj := fun i h st b hb => by
    obtain ⟨⟨old, he⟩, ⟨o, ho, hc, hd⟩, _⟩ := st
    have e' : b = e ∨ b = it := by simpa using hb
    rcases e' with z | z
    · rw [z]; exact ⟨_, he, fun v q => nomatch q⟩
    · rw [z]; exact ⟨o, ho, fun v q => by rw [hd] at q; cases q⟩
  keep := fun i h h' st k => let ⟨⟨old, he⟩, hi, hne⟩ := st; ⟨⟨old, k e (by simp) _ he⟩, hi.at fun o q => k it (by simp) o q, hne⟩
  item := by
    intro X hP hw hK hc i pins s σ H E I hf st hg
    subst hP hw hK
    obtain ⟨⟨old, he⟩, hit, hne⟩ := st
    obtain ⟨xs, x, hq, hx⟩ := hg
    obtain ⟨its, rv, p, hz⟩ := I.tuple (.inl (.inl hq))
    obtain ⟨u, hu, ru⟩ := rv.get hx
    have hel : e < s.heap.objs.size := Heap.lt_size he
    have hil : it < s.heap.objs.size := by obtain ⟨_, q, _⟩ := hit; exact Heap.lt_size q
    have nait : a ≠ it := ne_of_none hq (hf it (by simp)).1
    have nae : a ≠ e := ne_of_none hq (hf e (by simp)).1
    have hlt : i < its.toArray.size := by
      have := (List.getElem?_eq_some_iff.mp hu).1
      simpa using this
    refine wpAny_pyNext_enum_itemD (Draws.tuple (A := X.A.in1) (show X.A.in1.handled = none from I.ok.hd hc) it a nait its.toArray) he ⟨hit, p⟩ hlt hne (by simp [hne, Ne.symm nae]) fun x' h' tk hP ho hst' hT hsz hk => ?_
    have ex : x' = u := by
      have h1 : its.toArray[i]? = some x' := hP
      have h2 : its.toArray[i]? = some u := by simpa using hu
      rw [h2] at h1
      exact (Option.some.inj h1).symm
    subst ex
    refine ⟨_, rfl, wpAny_letOwnedTupleGo_enum (s := { s with heap := h', toks := tk + 1 }) ho fun h'' he' sb => ?_⟩
    have hT2 : h''.get? s.heap.objs.size = some { cls := .type "tuple", data := .seq #[.int i tk, x'] } := (sb.2 _ (Nat.ne_of_gt hel)).trans hT
    have new : ObjOk X.prog X.w (upd H s.heap.objs.size (.tup [.int (i : Nat), x])) h'' s.heap.objs.size (.tup [.int (i : Nat), x]) :=
      ⟨by show 2 ≤ sizeLine; decide, [.int i tk, x'], .cons ⟨_, rfl⟩ (.cons ru .nil), ⟨_, hT2, rfl, _, rfl⟩⟩
    have I1 : Inv X pins σ (upd H s.heap.objs.size (.tup [.int (i : Nat), x])) { s with heap := h'', toks := tk + 1 } :=
      I.turnedNew (ch := [e, it]) (fun b ob hb q => (sb.2 b (fun z => hb (by simp [z]))).trans (hk b ob (fun z => hb (by simp [z])) (fun z => hb (by simp [z])) q)) hf (Nat.le_refl _) new
    refine ⟨.ref s.heap.objs.size, _, I1, rfl, ⟨_, x, rfl, I.hok.fresh (Nat.le_refl _), rfl, fun ys hy => by rw [hq] at hy; cases hy; exact hx⟩, ⟨⟨x', ?_⟩, hst'.1.at fun o q => (sb.2 it (Ne.symm hne)).trans q, hne⟩, fun b hb => ?_⟩
    · have e1 : ((i + 1 : Nat) : Int) = (i : Int) + 1 := by omega
      rw [e1]; exact he'
    · have hb' : b < s.heap.objs.size := by
        have e' : b = e ∨ b = it := by simpa using hb
        rcases e' with z | z
        · rw [z]; exact hel
        · rw [z]; exact hil
      rw [upd_ne (Nat.ne_of_lt hb')]
      exact (hf b hb).1
  done := by
    intro X hP hw hK hc i pins s σ H E I hf st hg
    subst hP hw hK
    obtain ⟨⟨old, he⟩, hit, hne⟩ := st
    obtain ⟨xs, hq, hx⟩ := hg
    obtain ⟨its, rv, p, hz⟩ := I.tuple (.inl (.inl hq))
    obtain ⟨f0, f1, f2, f3, f4, f5⟩ := hf it (by simp)
    have hl := rv.length
    have nait : a ≠ it := ne_of_none hq f0
    obtain ⟨j, ej⟩ : ∃ j, j = its.toArray.size := ⟨_, rfl⟩
    have hh : X.A.handled = none := I.ok.hd hc
    have hT : s.TypeIs (.ref e) "enumerate" := ⟨_, he, rfl⟩
    unfold pyNext
    refine wpAny_bind (wpAny_attempt (wpAny_callSpecial?_slot (name := Str.ofString "__next__") hT F.slot_enumerate_next
      (wpAny_call_entry F.slot_enumerate_next hT F.entry_enumerate_next ?_ (F.args_enumerate_next_1 _))))
    show wpAny _ _ (field (.ref e) 2 >>= _) _ _ _
    refine wpAny_bind (wpAny_field he rfl (x := .ref it) rfl ?_)
    refine wpAny_bind (wpAny_nextOf_tuple_end (A := X.A.in1) hh hit p (by simp; omega) fun h' x he' hx' => ?_)
    obtain ⟨o, ho, hc'⟩ := hx'
    refine wpAny_bind (wpAny_isInstance (T := "StopIteration") (b := true) ⟨o, ho, hc'⟩ isSubtype_stop ?_)
    exact wpAny_pure ⟨rfl, I.turned (t' := s.toks) (fun b o hb q => he' b o hb q) f0 f1 f3 f4 f5⟩
  self := fun A i s Q E st h => let ⟨⟨_, he⟩, _⟩ := st; wpAny_pyIter_enum he h
def iEnumT (ta : TA) : TI := fun σ H R => ta σ H fun vs H1 => ∃ a xs, vs = [.ref a] ∧ H1 a = some (.tup xs) ∧ R (IteT a) H1
theorem pi_enumT {X : Cx} {e : Expr} {ta : TA} {p pos tpos : Pos} {elts : List Expr} {kk : Nat} (hg : Gl X "enumerate") (hm : X.mg "enumerate" = none) (ha : PA X [e] ta) (hs : starEach [e] X.env = [(false, eval e X.env)] := by rfl) :
    PI X (.Tuple elts kk tpos) (.Call (.Name "enumerate" p) [e] [] pos) (iEnumT ta) := by
  refine ⟨fun pins s σ H R I h => ?_⟩
  refine Call_ (ld_blt I hg hm boot_enumerate (PyProof.Rows.callWith_type1 (thn (ha.run pos pins s σ H _ I h) fun us s1 ⟨vs, H1, I1, r1, q1⟩ => ?_) hs rfl))
  obtain ⟨a, xs, ex, hq, q⟩ := q1
  subst ex
  cases r1 with
  | cons r rr =>
    cases rr
    cases r
    obtain ⟨its, rv, p', hz⟩ := I1.tuple (.inl (.inl hq))
    refine cr_call_enumerate_tuple p' fun h' he hit hsz hk => wpAny_pyIter_enum he ?_
    have I2 : Inv X pins σ H1 { s1 with heap := h' } := I1.kept (t' := s1.toks) hk
    refine ⟨s1.heap.objs.size + 1, [s1.heap.objs.size + 1, s1.heap.objs.size], _, _, H1, rfl, I2, turn_enumT a (s1.heap.objs.size + 1) s1.heap.objs.size, ⟨⟨.none, he⟩, hit, Nat.succ_ne_self _⟩, fun b hb => ?_, q⟩
    have e' : b = s1.heap.objs.size + 1 ∨ b = s1.heap.objs.size := by simpa using hb
    have hle : s1.heap.objs.size ≤ b := by
      rcases e' with z | z
      · rw [z]; exact Nat.le_add_right _ _
      · rw [z]; exact Nat.le_refl _
    exact I1.fpOk hle (I1.hok.fresh hle)
theorem walk_enumT {a : Addr} {xs : List V} : Walk (IteT a) xs.length (fun H => H a = some (.tup xs)) (YPair (fun i => some (.int (i : Nat))) (fun i => xs[i]?)) := by
  refine ⟨fun i _ hi q => ⟨xs, xs[i], q, by simp [hi]⟩, fun _ q => ⟨xs, q, Nat.le_refl _⟩, fun i H v H' _ q y => ?_⟩
  obtain ⟨T, x, h1, h2, h3, h4⟩ := y
  exact ⟨T, .int (i : Nat), x, h1, h2, h3, rfl, h4 xs q⟩
end Cr
namespace Cr
open PySem PySem.Spec PyProof.Rows L2 He
/-! ### what stays -/
/-- the tuples stay -/
def Tk (H H' : Hp) : Prop := ∀ b xs, H b = some (.tup xs) → H' b = some (.tup xs)
/-- all stays but at S, and the tuples everywhere -/
def Fr (S : Addr → Prop) (H H' : Hp) : Prop := ∀ b o, H b = some o → (¬ S b ∨ ∃ xs, o = .tup xs) → H' b = some o
abbrev NoA : Addr → Prop := fun _ => False
section
variable {S S' : Addr → Prop} {H H0 H1 H2 : Hp} {p : Addr} {o : HO}
theorem Fr.refl : Fr S H H := fun _ _ h _ => h
theorem Fr.trans (a : Fr S H H1) (b : Fr S H1 H2) : Fr S H H2 := fun c o h k => b c o (a c o h k) k
theorem Fr.mono (a : Fr S H H1) (h : ∀ b, S b → S' b) : Fr S' H H1 := fun c o q k => a c o q (k.imp (fun z y => z (h c y)) id)
theorem Fr.of (h : Same H H1) : Fr S H H1 := fun c o q _ => h c o q
theorem Fr.same0 (h : Fr NoA H H1) : Same H H1 := fun c o q => h c o q (.inl id)
theorem Fr.tk (h : Fr S H H1) : Tk H H1 := fun b xs q => h b _ q (.inr ⟨xs, rfl⟩)
theorem Fr.at (h : Fr S H H1) (q : H p = some o) (n : ¬ S p) : H1 p = some o := h p o q (.inl n)
theorem Fr.same (h : Fr S H H1) (s : Same H0 H) (n : ∀ b, S b → H0 b = none) : Same H0 H1 := fun b o q => h b o (s b o q) (.inl fun z => by rw [n b z] at q; cases q)
theorem Fr.new (h : H p = none) : Fr S H (upd H p o) := fun b u q _ => by rw [upd_ne (ne_of_none q h)]; exact q
theorem Fr.put (h : S p) (n : ∀ xs, H p ≠ some (.tup xs)) : Fr S H (upd H p o) := fun b u q k => by
  have : b ≠ p := by
    rintro rfl
    rcases k with k | ⟨xs, e⟩
    · exact k h
    · rw [e] at q; exact n xs q
  rw [upd_ne this]; exact q
theorem _root_.L2.Same.tk_ (h : Same H H1) : Tk H H1 := fun b xs q => h b _ q
theorem Tk.trans (a : Tk H H1) (b : Tk H1 H2) : Tk H H2 := fun c xs q => b c xs (a c xs q)
theorem _root_.L2.Same.new_ (h : H p = none) : Same H (upd H p o) := fun b u q => by rw [upd_ne (ne_of_none q h)]; exact q
theorem _root_.L2.Same.newT_ (h : H p = none) (s : Same H0 H) : Same H0 (upd H p o) := s.trans (Same.new_ h)
theorem Fr.none (h : Fr S H H1) (q : H1 p = none) (n : ¬ S p) : H p = none := by
  cases e : H p with
  | none => rfl
  | some o => rw [h p o e (.inl n)] at q; cases q
theorem not_tup_lst {a : Addr} {xs : List V} (h : H a = some (.lst xs)) : ∀ ys, H a ≠ some (.tup ys) := fun ys e => by rw [h] at e; cases e
theorem not_tup_dK {a : Addr} {kvs : List (Key × V)} (h : H a = some (.dK kvs)) : ∀ ys, H a ≠ some (.tup ys) := fun ys e => by rw [h] at e; cases e
theorem not_tup_ins {a C dx : Addr} {fs : List (Str × V)} (h : H a = some (.ins C dx fs)) : ∀ ys, H a ≠ some (.tup ys) := fun ys e => by rw [h] at e; cases e
end
end Cr
namespace PySem
/-! ### pairs of lists -/
section
variable {α β : Type} {F G : α → β → Prop}
theorem Paired.cget {l : List α} {m : List β} (h : Paired F l m) {i : Nat} {a : α} (e : l[i]? = some a) : ∃ b, m[i]? = some b ∧ F a b := by
  induction h generalizing i with
  | nil => cases e
  | cons r t ih =>
    cases i with
    | zero => exact ⟨_, rfl, by cases e; exact r⟩
    | succ i => exact ih e
theorem Paired.cget2 {l : List α} {m : List β} (h : Paired F l m) {i : Nat} {b : β} (e : m[i]? = some b) : ∃ a, l[i]? = some a ∧ F a b := by
  induction h generalizing i with
  | nil => cases e
  | cons r t ih =>
    cases i with
    | zero => exact ⟨_, rfl, by cases e; exact r⟩
    | succ i => exact ih e
theorem Paired.capp {l l' : List α} {m m' : List β} (h : Paired F l m) (k : Paired F l' m') : Paired F (l ++ l') (m ++ m') := by
  induction h with
  | nil => exact k
  | cons r t ih => exact .cons r ih
theorem Paired.ctak {l : List α} {m : List β} (h : Paired F l m) : ∀ n, Paired F (l.take n) (m.take n) := by
  induction h with
  | nil => intro n; rw [List.take_nil, List.take_nil]; exact .nil
  | cons r t ih =>
    intro n
    cases n with
    | zero => exact .nil
    | succ n => exact .cons r (ih n)
theorem Paired.cdrp {l : List α} {m : List β} (h : Paired F l m) : ∀ n, Paired F (l.drop n) (m.drop n) := by
  induction h with
  | nil => intro n; rw [List.drop_nil, List.drop_nil]; exact .nil
  | cons r t ih =>
    intro n
    cases n with
    | zero => exact .cons r t
    | succ n => exact ih n
theorem Paired.csnoc2 {l : List α} {m : List β} {a : α} {b : β} (h : Paired F l m) (k : F a b) : Paired F (l ++ [a]) (m ++ [b]) := Paired.capp h (.cons k .nil)
theorem Paired.cimp {l : List α} {m : List β} (h : Paired F l m) (k : ∀ a b, F a b → G a b) : Paired G l m := by
  induction h with
  | nil => exact .nil
  | cons r t ih => exact .cons (k _ _ r) ih
end
end PySem
namespace Cr
open PySem PySem.Spec PyProof.Rows L2 He
/-! ### what stands at an address -/
def IsVl (H : Hp) (v : V) : Vl → Prop
  | .is c => ∃ p, v = .ref p ∧ H p = some (.tup [.str "is", .int c])
  | .num i => ∃ p, v = .ref p ∧ H p = some (.tup [.str "number", .int (i : Nat)])
  | .letter => ∃ p, v = .ref p ∧ H p = some (.tup [.str "letter"])
  | .way => ∃ p, v = .ref p ∧ H p = some (.tup [.str "way"])
  | .first => ∃ p, v = .ref p ∧ H p = some (.tup [.str "first"])
def IsDd (H : Hp) (v : V) : Dd → Prop
  | .set i x => ∃ p u, v = .ref p ∧ H p = some (.tup [.str "set", .int (i : Nat), u]) ∧ IsVl H u x
  | .add i x => ∃ p u, v = .ref p ∧ H p = some (.tup [.str "add", .int (i : Nat), u]) ∧ IsVl H u x
  | .times i x => ∃ p u, v = .ref p ∧ H p = some (.tup [.str "times", .int (i : Nat), u]) ∧ IsVl H u x
  | .send j x => ∃ p u, v = .ref p ∧ H p = some (.tup [.str "send", .int (j : Nat), u]) ∧ IsVl H u x
  | .say x => ∃ p u, v = .ref p ∧ H p = some (.tup [.str "say", u]) ∧ IsVl H u x
  | .put x => ∃ p u, v = .ref p ∧ H p = some (.tup [.str "put", u]) ∧ IsVl H u x
  | .drop => ∃ p, v = .ref p ∧ H p = some (.tup [.str "drop"])
  | .skip x y k => ∃ p u u', v = .ref p ∧ H p = some (.tup [.str "skip", u, u', .int (k : Nat)]) ∧ IsVl H u x ∧ IsVl H u' y
def IsSta (H : Hp) (v : V) (s : Sta) : Prop := ∃ p a b, v = .ref p ∧ H p = some (.tup [.ref a, .ref b]) ∧ H a = some (.tup (s.1.map V.int)) ∧ H b = some (.tup (s.2.map V.int))
def IsPr (H : Hp) (v : V) (e : Nat × Int) : Prop := ∃ p, v = .ref p ∧ H p = some (.tup [.int (e.1 : Nat), .int e.2])
def IsPk (H : Hp) (v : V) (e : Nat × Nat) : Prop := ∃ p, v = .ref p ∧ H p = some (.tup [.int (e.1 : Nat), .int (e.2 : Nat)])
def IsSn (H : Hp) (v : V) : Option (Nat × Nat) → Prop
  | none => v = .non
  | some e => IsPk H v e
def sortT (b : Bool) : Str := if b then "row" else "heap"
def IsWay (H : Hp) (v : V) (w : Nat × Nat × Bool) : Prop := ∃ p, v = .ref p ∧ H p = some (.tup [.int (w.1 : Nat), .int (w.2.1 : Nat), .str (sortT w.2.2)])
structure LMchAt (H : Hp) (n r d : Addr) (vs : List V) (M : Mch) : Prop where
  n : H n = some (.lst (M.ns.map V.int))
  r : H r = some (.lst (M.row.map V.int))
  d : H d = some (.lst vs)
  ds : Paired (IsDd H) vs M.ds
def IsLMch (H : Hp) (v : V) (M : Mch) : Prop := ∃ p n r d vs, v = .ref p ∧ H p = some (.tup [.int M.md, .ref n, .ref r, .ref d]) ∧ LMchAt H n r d vs M
structure LNetAt (H : Hp) (m w l : Addr) (ms ws ls : List V) (N : Nt) : Prop where
  m : H m = some (.lst ms)
  ms : Paired (IsLMch H) ms N.ms
  w : H w = some (.lst ws)
  ws : Paired (IsWay H) ws N.ws
  l : H l = some (.lst ls)
  ls : Paired (IsPr H) ls N.ls
def IsLNet (H : Hp) (v : V) (N : Nt) : Prop := ∃ p m w l ms ws ls, v = .ref p ∧ H p = some (.tup [.ref m, .ref w, .ref l]) ∧ LNetAt H m w l ms ws ls N
section
variable {H H' : Hp} {v : V}
theorem IsVl.tk {x : Vl} (h : IsVl H v x) (t : Tk H H') : IsVl H' v x := by
  cases x <;> (obtain ⟨p, e, q⟩ := h; exact ⟨p, e, t _ _ q⟩)
theorem IsDd.tk {x : Dd} (h : IsDd H v x) (t : Tk H H') : IsDd H' v x := by
  cases x with
  | drop => obtain ⟨p, e, q⟩ := h; exact ⟨p, e, t _ _ q⟩
  | skip => obtain ⟨p, u, u', e, q, k, k'⟩ := h; exact ⟨p, u, u', e, t _ _ q, k.tk t, k'.tk t⟩
  | _ => obtain ⟨p, u, e, q, k⟩ := h; exact ⟨p, u, e, t _ _ q, k.tk t⟩
theorem IsSta.tk {s : Sta} (h : IsSta H v s) (t : Tk H H') : IsSta H' v s := by
  obtain ⟨p, a, b, e, q1, q2, q3⟩ := h; exact ⟨p, a, b, e, t _ _ q1, t _ _ q2, t _ _ q3⟩
theorem IsPr.tk {s : Nat × Int} (h : IsPr H v s) (t : Tk H H') : IsPr H' v s := by
  obtain ⟨p, e, q⟩ := h; exact ⟨p, e, t _ _ q⟩
theorem IsPk.tk {s : Nat × Nat} (h : IsPk H v s) (t : Tk H H') : IsPk H' v s := by
  obtain ⟨p, e, q⟩ := h; exact ⟨p, e, t _ _ q⟩
theorem IsSn.tk {s : Option (Nat × Nat)} (h : IsSn H v s) (t : Tk H H') : IsSn H' v s := by
  cases s with
  | none => exact h
  | some e => exact IsPk.tk h t
theorem IsWay.tk {s : Nat × Nat × Bool} (h : IsWay H v s) (t : Tk H H') : IsWay H' v s := by
  obtain ⟨p, e, q⟩ := h; exact ⟨p, e, t _ _ q⟩
theorem LMchAt.keep {n r d : Addr} {vs : List V} {M : Mch} (h : LMchAt H n r d vs M) (t : Same H H') : LMchAt H' n r d vs M :=
  ⟨t _ _ h.n, t _ _ h.r, t _ _ h.d, h.ds.cimp fun _ _ z => z.tk (Same.tk_ t)⟩
theorem IsLMch.keep {M : Mch} (h : IsLMch H v M) (t : Same H H') : IsLMch H' v M := by
  obtain ⟨p, n, r, d, vs, e, q, k⟩ := h
  exact ⟨p, n, r, d, vs, e, t _ _ q, k.keep t⟩
theorem LNetAt.keep {m w l : Addr} {ms ws ls : List V} {N : Nt} (h : LNetAt H m w l ms ws ls N) (t : Same H H') : LNetAt H' m w l ms ws ls N :=
  ⟨t _ _ h.m, h.ms.cimp fun _ _ z => z.keep t, t _ _ h.w, h.ws.cimp fun _ _ z => z.tk (Same.tk_ t), t _ _ h.l, h.ls.cimp fun _ _ z => z.tk (Same.tk_ t)⟩
theorem IsLNet.keep {N : Nt} (h : IsLNet H v N) (t : Same H H') : IsLNet H' v N := by
  obtain ⟨p, m, w, l, ms, ws, ls, e, q, k⟩ := h
  exact ⟨p, m, w, l, ms, ws, ls, e, t _ _ q, k.keep t⟩
end
/-! ### small words -/
theorem iteD {c A B : Prop} [Decidable c] (h : c) (q : A) : if decide c = true then A else B := by rw [if_pos (decide_eq_true h)]; exact q
theorem iteN {c A B : Prop} [Decidable c] (h : ¬ c) (q : B) : if decide c = true then A else B := by rw [decide_eq_false h, if_neg Bool.false_ne_true]; exact q
theorem iteE {b : Bool} {A B : Prop} (h : b = true) (q : A) : if b = true then A else B := by rw [if_pos h]; exact q
theorem iteG {b : Bool} {A B : Prop} (h : b = false) (q : B) : if b = true then A else B := by rw [h, if_neg Bool.false_ne_true]; exact q
theorem ite2D {c A B : Prop} [Decidable c] (h1 : c → A) (h2 : ¬ c → B) : if decide c = true then A else B := by
  by_cases h : c
  · exact iteD h (h1 h)
  · exact iteN h (h2 h)
theorem bl_e {b c : Bool} (h : b = c) {Q : V → Hp → Prop} {H : Hp} (q : Q (.bl c) H) : Q (.bl b) H := by rw [h]; exact q
theorem bl_true {p : Prop} [Decidable p] (h : p) {Q : V → Hp → Prop} {H : Hp} (q : Q (.bl true) H) : Q (.bl (decide p)) H := by rw [decide_eq_true h]; exact q
theorem line {n : Nat} (h : n ≤ 16777216) : n ≤ sizeLine := by rw [sizeLine_eq]; exact h
theorem line' {n : Nat} (h : n < 16777216) : n < sizeLine := by rw [sizeLine_eq]; exact h
theorem ints_get {ns : List Int} {i : Nat} {z : Int} (h : ns[i]? = some z) : (ns.map V.int)[i]? = some (V.int z) := by rw [List.getElem?_map, h]; rfl
theorem ints_of_get {ns : List Int} {i : Nat} {x : V} (h : (ns.map V.int)[i]? = some x) : ∃ z, ns[i]? = some z ∧ x = .int z := by
  rw [List.getElem?_map] at h
  cases e : ns[i]? with
  | none => rw [e] at h; cases h
  | some z => rw [e] at h; exact ⟨z, rfl, (Option.some.inj h).symm⟩
/-! ### slices -/
theorem drop_min {α : Type} (xs : List α) (k : Nat) : xs.drop (min k xs.length) = xs.drop k := by
  rcases Nat.le_total k xs.length with h | h
  · rw [Nat.min_eq_left h]
  · rw [Nat.min_eq_right h, List.drop_length, List.drop_of_length_le h]
theorem cut_mid (xs : List V) (i j : Nat) : cutV xs (some (i : Int)) (some (j : Int)) = (xs.drop i).take (j - i) := by
  unfold cutV
  rw [HT.sIx_nat, HT.sIx_nat, drop_min]
  rcases Nat.le_total i xs.length with h | h
  · rw [Nat.min_eq_left h]
    rcases Nat.le_total j xs.length with g | g
    · rw [Nat.min_eq_left g]
    · rw [Nat.min_eq_right g, List.take_of_length_le (l := xs.drop i) (i := j - i) (by rw [List.length_drop]; omega), List.take_of_length_le (by rw [List.length_drop]; exact Nat.le_refl _)]
  · rw [List.drop_of_length_le h, List.take_nil, List.take_nil]
theorem cut_from (xs : List V) (i : Nat) : cutV xs (some (i : Int)) none = xs.drop i := by
  unfold cutV
  rw [HT.sIx_nat, HT.sIx_none, drop_min]
  exact List.take_of_length_le (by rw [List.length_drop]; omega)
theorem cut_to (xs : List V) (j : Nat) : cutV xs none (some (j : Int)) = xs.take j := by
  unfold cutV
  rw [HT.sIx_nat, HT.sIx_none, List.drop_zero, Nat.sub_zero]
  rcases Nat.le_total j xs.length with g | g
  · rw [Nat.min_eq_left g]
  · rw [Nat.min_eq_right g, List.take_length, List.take_of_length_le g]
end Cr
namespace Cr
open PySem PySem.Spec PyProof.Rows L2 He
/-! ### fields of instances -/
def lkAt : List Str → Str → Option Nat
  | [], _ => none
  | k :: ks, f => if k = f then some 0 else (lkAt ks f).map (· + 1)
theorem lookup_lk (f : Str) : ∀ fs : List (Str × V), fs.lookup f = (lkAt (fs.map (·.1)) f).bind fun i => fs[i]?.map (·.2)
  | [] => rfl
  | (k, v) :: fs => by
    have ih := lookup_lk f fs
    rw [List.lookup_cons]
    show (match f == k with | true => some v | false => fs.lookup f) = (if k = f then some 0 else (lkAt (fs.map (·.1)) f).map (· + 1)).bind _
    by_cases e : k = f
    · subst e
      rw [if_pos rfl, beq_self_eq_true]
      rfl
    · rw [if_neg e, show (f == k) = false from by simpa using (fun z => e z.symm)]
      show fs.lookup f = _
      rw [ih]
      cases lkAt (fs.map (·.1)) f with
      | none => rfl
      | some i => rfl
theorem lk {fs : List (Str × V)} {f : Str} {v : V} (i : Nat) (ks : List Str) (h : lkAt ks f = some i) (e : fs.map (·.1) = ks := by rfl) (hv : fs[i]?.map (·.2) = some v := by rfl) : fs.lookup f = some v := by
  rw [lookup_lk, e, h]
  exact hv
theorem lkN {fs : List (Str × V)} {f : Str} (ks : List Str) (h : lkAt ks f = none) (e : fs.map (·.1) = ks := by rfl) : fs.lookup f = none := by
  rw [lookup_lk, e, h]
  rfl
theorem putF_lk (f : Str) (v : V) : ∀ fs : List (Str × V), putF f v fs = match lkAt (fs.map (·.1)) f with | some i => fs.set i (f, v) | none => fs ++ [(f, v)]
  | [] => rfl
  | (k, u) :: fs => by
    have ih := putF_lk f v fs
    show (if k = f then _ else _) = (match (if k = f then some 0 else (lkAt (fs.map (·.1)) f).map (· + 1)) with | some i => ((k, u) :: fs).set i (f, v) | none => ((k, u) :: fs) ++ [(f, v)])
    by_cases e : k = f
    · rw [if_pos e, if_pos e, e] <;> rfl
    · rw [if_neg e, if_neg e, ih]
      cases lkAt (fs.map (·.1)) f with
      | none => rfl
      | some i => rfl
/-- a new field; a field stored again -/
theorem putN {fs : List (Str × V)} {f : Str} {v : V} (ks : List Str) (h : lkAt ks f = none) (e : fs.map (·.1) = ks := by rfl) : putF f v fs = fs ++ [(f, v)] := by
  rw [putF_lk, e, h]
theorem putA {fs : List (Str × V)} {f : Str} {v : V} (i : Nat) (ks : List Str) (h : lkAt ks f = some i) (e : fs.map (·.1) = ks := by rfl) : putF f v fs = fs.set i (f, v) := by
  rw [putF_lk, e, h]
/-! ### steps that give the heap a new name -/
section
variable {K : PySem.W.Frag} {σ : L2.St} {H : Hp} {p C dx : Addr} {i : Nat} {f : Str} {y : V} {fs : List (Str × V)} {N : L2.St → Hp → Prop}
/-- self.f = .. : the last part of its reading -/
theorem ab_fld (hp : H p = some (.ins C dx fs)) (c : Cls K C) (n : NoAttr K C f) (l : fs.length < 1000) (k : ∀ H2, Fr (· = p) H H2 → H2 p = some (.ins C dx (putF f y fs)) → N σ H2) (hi : σ[i]? = some (some (.ref p)) := by rfl) :
    tVar i σ H fun x H2 => ∃ a C dx fs, x = .ref a ∧ H2 a = some (.ins C dx fs) ∧ Cls K C ∧ NoAttr K C f ∧ fs.length < 1000 ∧ N σ (upd H2 a (.ins C dx (putF f y fs))) :=
  ⟨_, hi, p, C, dx, fs, rfl, hp, c, n, l, k _ (Fr.put rfl (not_tup_ins hp)) upd_same⟩
end
theorem ab_new {R : Hp → Prop} {H : Hp} {l : Addr} {o : HO} (n : H l = none) (k : ∀ H2, Same H H2 → H2 l = some o → R H2) : R (upd H l o) := k _ (Same.new_ n) upd_same
/-! ### a bench -/
def benchF (nu row : Addr) (way : Nat) (said md : Int) (sent words : Addr) (left : Nat) : List (Str × V) :=
  [("held_numbers", .ref nu), ("held_row", .ref row), ("by_way", .int (way : Nat)), ("heard_said", .int said), ("base", .int md), ("sent", .ref sent), ("said_words", .ref words), ("left_out", .int (left : Nat))]
def benchK : List Str := ["held_numbers", "held_row", "by_way", "heard_said", "base", "sent", "said_words", "left_out"]
/-- a bench at p; its lists -/
structure BenchAt (C : Addr) (H : Hp) (p n r s w : Addr) (way : Nat) (said md : Int) (k : Wk) : Prop where
  ob : ∃ dx, H p = some (.ins C dx (benchF n r way said md s w k.left))
  hn : H n = some (.lst (k.nu.map V.int))
  hr : H r = some (.lst (k.row.map V.int))
  hs : ∃ vs, H s = some (.lst vs) ∧ Paired (IsPr H) vs k.sent
  hw : H w = some (.lst (k.words.map V.int))
  nr : n ≠ r
  ns : n ≠ s
  nw : n ≠ w
  rs : r ≠ s
  rw' : r ≠ w
  sw : s ≠ w
/-! ### a machine -/
def machF (md : Int) (b t : Addr) : List (Str × V) := [("base", .int md), ("begun", .ref b), ("todo", .ref t)]
def machK : List Str := ["base", "begun", "todo"]
def IsPMch (C : Addr) (H : Hp) (v : V) (M : Mch) : Prop := ∃ p dx b t ds, v = .ref p ∧ H p = some (.ins C dx (machF M.md b t)) ∧ IsSta H (.ref b) (M.ns, M.row) ∧ H t = some (.lst ds) ∧ Paired (IsDd H) ds M.ds
theorem IsPMch.keep {C : Addr} {H H' : Hp} {v : V} {M : Mch} (h : IsPMch C H v M) (s : Same H H') : IsPMch C H' v M := by
  obtain ⟨p, dx, b, t, ds, e, q, k, l, m⟩ := h
  exact ⟨p, dx, b, t, ds, e, s _ _ q, k.tk (Same.tk_ s), s _ _ l, m.cimp fun _ _ z => z.tk (Same.tk_ s)⟩
/-! ### a net -/
def netF (w j b : Addr) : List (Str × V) := [("workers", .ref w), ("joints", .ref j), ("begun", .ref b)]
def netK : List Str := ["workers", "joints", "begun"]
structure PNetAt (K : PySem.W.Frag) (H : Hp) (p w j b : Addr) (ms ws ls : List V) (N : Nt) : Prop where
  ob : ∃ dx, H p = some (.ins (ga K "Net") dx (netF w j b))
  w : H w = some (.tup ms)
  ms : Paired (IsPMch (ga K "Machine") H) ms N.ms
  j : H j = some (.tup ws)
  ws : Paired (IsWay H) ws N.ws
  b : H b = some (.tup ls)
  ls : Paired (IsPr H) ls N.ls
def IsPNet (K : PySem.W.Frag) (H : Hp) (v : V) (N : Nt) : Prop := ∃ p w j b ms ws ls, v = .ref p ∧ PNetAt K H p w j b ms ws ls N
theorem PNetAt.keep {K : PySem.W.Frag} {H H' : Hp} {p w j b : Addr} {ms ws ls : List V} {N : Nt} (h : PNetAt K H p w j b ms ws ls N) (s : Same H H') : PNetAt K H' p w j b ms ws ls N :=
  ⟨let ⟨dx, q⟩ := h.ob; ⟨dx, s _ _ q⟩, s _ _ h.w, h.ms.cimp fun _ _ z => z.keep s, s _ _ h.j, h.ws.cimp fun _ _ z => z.tk (Same.tk_ s), s _ _ h.b, h.ls.cimp fun _ _ z => z.tk (Same.tk_ s)⟩
theorem IsPNet.keep {K : PySem.W.Frag} {H H' : Hp} {v : V} {N : Nt} (h : IsPNet K H v N) (s : Same H H') : IsPNet K H' v N := by
  obtain ⟨p, w, j, b, ms, ws, ls, e, q⟩ := h
  exact ⟨p, w, j, b, ms, ws, ls, e, q.keep s⟩
end Cr
namespace Cr
open PySem PySem.Spec PyProof.Rows L2 He
/-! ### comprehensions whose turns touch nothing -/
theorem _root_.L2.Same.putN {H H1 : Hp} {D : Addr} {o : HO} (s : Same H H1) (n : H D = none) : Same H (upd H1 D o) := fun b u e => by rw [upd_ne (ne_of_none e n)]; exact s b u e
theorem rf_t {α : Type} {p : Nat → Bool} {f : Nat → α} {i : Nat} (h : p i = true) : ((List.range (i + 1)).filter p).map f = ((List.range i).filter p).map f ++ [f i] := by
  rw [List.range_succ, List.filter_append, List.filter_cons_of_pos h, List.filter_nil, List.map_append] <;> rfl
theorem rf_f {α : Type} {p : Nat → Bool} {f : Nat → α} {i : Nat} (h : p i = false) : ((List.range (i + 1)).filter p).map f = ((List.range i).filter p).map f := by
  rw [List.range_succ, List.filter_append, List.filter_cons_of_neg (by rw [h]; exact Bool.false_ne_true), List.filter_nil, List.append_nil]
theorem rf_len {α : Type} {p : Nat → Bool} {f : Nat → α} {i : Nat} : (((List.range i).filter p).map f).length ≤ i := by
  rw [List.length_map]
  have := List.length_filter_le p (List.range i)
  rw [List.length_range] at this
  exact this
theorem rm_s {α : Type} {f : Nat → α} {i : Nat} : (List.range (i + 1)).map f = (List.range i).map f ++ [f i] := by
  rw [List.range_succ, List.map_append] <;> rfl
theorem rm_len {α : Type} {f : Nat → α} {i : Nat} : ((List.range i).map f).length = i := by rw [List.length_map, List.length_range]
theorem rm_get {α : Type} {f : Nat → α} {i n : Nat} (h : i < n) : ((List.range n).map f)[i]? = some (f i) := by
  rw [List.getElem?_map, List.getElem?_range h] <;> rfl
theorem all_rep {n : Nat} : (List.replicate n true).all id = true := by
  rw [List.all_eq_true]
  intro b hb
  exact (List.mem_replicate.mp hb).2
theorem nat_int (w : Nat) : (fun w : Nat => V.int (w : Nat)) w = V.int (w : Nat) := rfl
abbrev vN : Nat → V := fun w => V.int (w : Nat)
theorem nt_get {α : Type} [Inhabited α] {l : List α} {i : Nat} (h : i < l.length) (d : α) : l[i]? = some (l.getD i d) := by
  rw [List.getD_eq_getElem?_getD, List.getElem?_eq_getElem h]; rfl
theorem getD_of {α : Type} {l : List α} {i : Nat} {x d : α} (h : l[i]? = some x) : l.getD i d = x := by
  rw [List.getD_eq_getElem?_getD, h]; rfl
theorem atI_end {xs : List V} {v : V} {n : Nat} (h : xs.length = n + 1) (e : xs[n]? = some v) : atI xs (-1) = some v := by
  have hx : xs = xs.take n ++ [v] := by
    have h1 := List.take_append_drop n xs
    have h2 : xs.drop n = [v] := by
      obtain ⟨hl, e1⟩ := List.getElem?_eq_some_iff.mp e
      rw [List.drop_eq_getElem_cons hl, e1, List.drop_eq_nil_of_le (by omega)]
    rw [h2] at h1
    exact h1.symm
  rw [hx]
  exact atI_last _ _
theorem _root_.L2.Walk.mono' {J : It} {n m : Nat} {G : Hp → Prop} {Y : Nat → Hp → V → Hp → Prop} (w : Walk J n G Y) (h : n = m) : Walk J m G Y := h ▸ w
theorem walk_rngN {m : Nat} : Walk (Itr 0 ((m : Nat) : Int).toNat) m (fun _ => True) (fun i H x H' => H' = H ∧ x = V.int (i : Nat)) := by
  rw [Int.toNat_natCast]
  refine walk_range.mono (fun _ h => h) fun i H x H' _ _ y => ⟨y.1, ?_⟩
  have e : (0 : Int) + ((i : Nat) : Int) = ((i : Nat) : Int) := by omega
  rw [y.2]
  show V.int (0 + ((i : Nat) : Int)) = _
  rw [e]
/-- a machine whose list of deeds is not in S -/
def IsPMchS (S : Addr → Prop) (C : Addr) (H : Hp) (v : V) (M : Mch) : Prop := ∃ p dx b t ds, v = .ref p ∧ H p = some (.ins C dx (machF M.md b t)) ∧ IsSta H (.ref b) (M.ns, M.row) ∧ H t = some (.lst ds) ∧ Paired (IsDd H) ds M.ds ∧ ¬ S t
theorem IsPMchS.to {S : Addr → Prop} {C : Addr} {H : Hp} {v : V} {M : Mch} (h : IsPMchS S C H v M) : IsPMch C H v M := by
  obtain ⟨p, dx, b, t, ds, e, q, k, l, m, _⟩ := h
  exact ⟨p, dx, b, t, ds, e, q, k, l, m⟩
theorem IsPMchS.frD {C D : Addr} {H H' : Hp} {v : V} {M : Mch} {xs : List V} (h : IsPMchS (· = D) C H v M) (hD : H D = some (.lst xs)) (f : Fr (· = D) H H') : IsPMchS (· = D) C H' v M := by
  obtain ⟨p, dx, b, t, ds, e, q, k, l, m, n⟩ := h
  exact ⟨p, dx, b, t, ds, e, f.at q (fun z => by rw [z, hD] at q; cases q), k.tk f.tk, f.at l n, m.cimp fun _ _ z => z.tk f.tk, n⟩
theorem IsPMchS.keep {S : Addr → Prop} {C : Addr} {H H' : Hp} {v : V} {M : Mch} (h : IsPMchS S C H v M) (s : Same H H') : IsPMchS S C H' v M := by
  obtain ⟨p, dx, b, t, ds, e, q, k, l, m, n⟩ := h
  exact ⟨p, dx, b, t, ds, e, s _ _ q, k.tk (Same.tk_ s), s _ _ l, m.cimp fun _ _ z => z.tk (Same.tk_ s), n⟩
theorem IsPMchS.mono {S S' : Addr → Prop} {C : Addr} {H : Hp} {v : V} {M : Mch} (h : IsPMchS S C H v M) (f : ∀ b, S' b → S b) : IsPMchS S' C H v M := by
  obtain ⟨p, dx, b, t, ds, e, q, k, l, m, n⟩ := h
  exact ⟨p, dx, b, t, ds, e, q, k, l, m, fun z => n (f _ z)⟩
section
variable {K : PySem.W.Frag} {mg : Str → Option Value}
theorem kit_self {c : Value} : PySem.W.kitOne K c c = some true := by
  unfold PySem.W.kitOne
  rw [if_pos (beq_self_eq_true c)]
theorem call_lenK {X : Cx} (e : X.K = K) : CallR X (.builtin "len") (fun xs H Q => ∃ p ys, xs = [.ref p] ∧ (SqL K H p ys ∨ SqT K H p ys) ∧ Q (.int ys.length) H) := e ▸ call_len_seq
theorem call_isiK' {X : Cx} (e : X.K = K) : CallR X (.builtin "isinstance") (rIsi K) := e ▸ call_isi
theorem ix_listK {X : Cx} (e : X.K = K) : IxR X (rIxL K) := e ▸ ix_list
theorem ix_tupK {X : Cx} (e : X.K = K) : IxR X (rIxT K) := e ▸ ix_tup
theorem pg_tupK {X : Cx} {es : List Expr} {k : Nat} {t : TGs} {n : Nat} {pos : Pos} (e : X.K = K) (hc : X.calm = true) (h : PGs X es t)
    (hn : (assignEach es X.env).length = n := by rfl) (hst : (assignEach es X.env).findIdx? (·.1) = none := by rfl) : PG X (.Tuple es k pos) (gTup K n t) := e ▸ pg_tup hc h hn hst
theorem Txt.isMa {H : Hp} {a dx : Addr} {fs : List (Str × V)} (T : Txt K mg) (h : H a = some (.ins (ga K "Machine") dx fs)) : TyX K H (.ref a) (.ref (ga K "Machine")) :=
  .base (.ins h T.c_Machine (of_decide_eq_true (T.x 1)) (of_decide_eq_true (T.x 2)) (of_decide_eq_true (T.x 3)) (of_decide_eq_true (T.x 4)))
end
end Cr
namespace PySem
theorem Paired.cset {α β : Type} {F : α → β → Prop} {l : List α} {m : List β} (h : Paired F l m) {a : α} {b : β} (k : F a b) : ∀ {n : Nat}, Paired F (l.set n a) (m.set n b) := by
  induction h with
  | nil => intro n; exact .nil
  | cons r t ih =>
    intro n
    cases n with
    | zero => exact .cons k t
    | succ n => exact .cons r ih
end PySem
namespace Cr
open PySem PySem.Spec PyProof.Rows L2 He
/-! ### many objects at once: tags, their addresses, their contents -/
structure Lay {T : Type} (ok : T → Prop) (A : T → Addr) (G : T → HO) (H : Hp) : Prop where
  at_ : ∀ x, ok x → H (A x) = some (G x)
  inj : ∀ x y, ok x → ok y → A x = A y → x = y
  nt : ∀ x, ok x → ∀ ys, G x ≠ .tup ys
def setG {T : Type} [DecidableEq T] {α : Type} (G : T → α) (x : T) (o : α) : T → α := fun y => if y = x then o else G y
section
variable {T : Type} [DecidableEq T] {ok ok' : T → Prop} {A : T → Addr} {G : T → HO} {H H' : Hp} {S : Addr → Prop} {x y : T} {o : HO} {α : Type}
theorem setG_same {G : T → α} {o : α} : setG G x o x = o := if_pos rfl
theorem setG_ne {G : T → α} {o : α} (h : y ≠ x) : setG G x o y = G y := if_neg h
/-- the addresses -/
def Lf (ok : T → Prop) (A : T → Addr) : Addr → Prop := fun b => ∃ t, ok t ∧ A t = b
omit [DecidableEq T] in
theorem Lay.keep (L : Lay ok A G H) (s : Same H H') : Lay ok A G H' := ⟨fun x h => s _ _ (L.at_ x h), L.inj, L.nt⟩
omit [DecidableEq T] in
theorem Lay.fr (L : Lay ok A G H) (f : Fr S H H') (n : ∀ x, ok x → ¬ S (A x)) : Lay ok A G H' := ⟨fun x h => f.at (L.at_ x h) (n x h), L.inj, L.nt⟩
theorem Lay.put (L : Lay ok A G H) (h : ok x) (n : ∀ ys, o ≠ .tup ys) : Lay ok A (setG G x o) (upd H (A x) o) := by
  refine ⟨fun y hy => ?_, L.inj, fun y hy ys => ?_⟩
  · by_cases e : y = x
    · subst e; rw [upd_same, setG_same]
    · rw [setG_ne e, upd_ne (fun z => e (L.inj y x hy h z))]; exact L.at_ y hy
  · by_cases e : y = x
    · subst e; rw [setG_same]; exact n ys
    · rw [setG_ne e]; exact L.nt y hy ys
omit [DecidableEq T] in
theorem Lay.frp (L : Lay ok A G H) (h : ok x) : Fr (Lf ok A) H (upd H (A x) o) := Fr.put ⟨x, h, rfl⟩ fun ys e => L.nt x h ys (Option.some.inj ((L.at_ x h).symm.trans e))
/-- one more -/
theorem Lay.add {a : Addr} (L : Lay ok A G H) (hn : H a = none) (hx : ¬ ok x) (n : ∀ ys, o ≠ .tup ys) (hok : ∀ y, ok' y → ok y ∨ y = x) : Lay ok' (setG A x a) (setG G x o) (upd H a o) := by
  have key : ∀ y, ok' y → (y = x ∧ setG A x a y = a ∧ setG G x o y = o) ∨ (y ≠ x ∧ ok y ∧ setG A x a y = A y ∧ setG G x o y = G y) := fun y hy => by
    by_cases e : y = x
    · exact .inl ⟨e, by rw [e]; exact setG_same, by rw [e]; exact setG_same⟩
    · exact .inr ⟨e, (hok y hy).resolve_right e, setG_ne e, setG_ne e⟩
  refine ⟨fun y hy => ?_, fun y z hy hz e => ?_, fun y hy ys => ?_⟩
  · rcases key y hy with ⟨_, e1, e2⟩ | ⟨_, h, e1, e2⟩
    · rw [e1, e2, upd_same]
    · rw [e1, e2, upd_ne (ne_of_none (L.at_ y h) hn)]; exact L.at_ y h
  · rcases key y hy with ⟨e0, e1, e2⟩ | ⟨_, h, e1, e2⟩ <;> rcases key z hz with ⟨f0, f1, f2⟩ | ⟨_, h', f1, f2⟩
    · rw [e0, f0]
    · rw [e1, f1] at e; exact absurd e.symm (ne_of_none (L.at_ z h') hn)
    · rw [e1, f1] at e; exact absurd e (ne_of_none (L.at_ y h) hn)
    · rw [e1, f1] at e; exact L.inj y z h h' e
  · rcases key y hy with ⟨_, e1, e2⟩ | ⟨_, h, e1, e2⟩
    · rw [e2]; exact n ys
    · rw [e2]; exact L.nt y h ys
omit [DecidableEq T] in
theorem Lay.sub (L : Lay ok A G H) (h : ∀ y, ok' y → ok y) : Lay ok' A G H := ⟨fun x q => L.at_ x (h x q), fun x y q r => L.inj x y (h x q) (h y r), fun x q => L.nt x (h x q)⟩
end
/-- S grows to S' by new addresses only; all else stays -/
structure Up (S : Addr → Prop) (H H' : Hp) (S' : Addr → Prop) : Prop where
  fr : Fr S H H'
  new : ∀ b, S' b → S b ∨ H b = none
theorem Up.trans {S S' S'' : Addr → Prop} {H H' H'' : Hp} (a : Up S H H' S') (b : Up S' H' H'' S'') : Up S H H'' S'' := by
  refine ⟨fun c o q k => ?_, fun c hc => ?_⟩
  · refine b.fr c o (a.fr c o q k) (k.imp (fun n z => ?_) id)
    rcases a.new c z with h | h
    · exact n h
    · rw [h] at q; cases q
  · rcases b.new c hc with h | h
    · exact a.new c h
    · by_cases hS : S c
      · exact .inl hS
      · exact .inr (a.fr.none h hS)
theorem Up.refl {S : Addr → Prop} {H : Hp} : Up S H H S := ⟨Fr.refl, fun _ => .inl⟩
theorem Up.of {S : Addr → Prop} {H H' : Hp} (s : Same H H') : Up S H H' S := ⟨Fr.of s, fun _ => .inl⟩
theorem Up.fr1 {S : Addr → Prop} {H H' : Hp} (s : Fr S H H') : Up S H H' S := ⟨s, fun _ => .inl⟩
theorem Up.fresh {S S' : Addr → Prop} {H0 H H' : Hp} (u : Up S H H' S') (s : Same H0 H) (n : ∀ b, S b → H0 b = none) : ∀ b, S' b → H0 b = none := fun b hb => by
  rcases u.new b hb with h | h
  · exact n b h
  · exact s.free h
/-! ### a run of the program -/
def Run.wks (R : Run) (w : Nat) : List (Option (Nat × Nat)) := (List.range (R.put w).length).map (R.worker w)
inductive PT where
  | hl | sl | wl | pk | t (w : Nat) | s (w : Nat) | k (w : Nat) | st (m : Nat) | wr (m : Nat)
  deriving DecidableEq
def PT.ok (N : Nt) : PT → Prop
  | .t w => w < N.ws.length
  | .s w => w < N.ws.length
  | .k w => w < N.ws.length
  | .st m => m < N.ms.length
  | .wr m => m < N.ms.length
  | _ => True
def runF (net : V) (h s w p : Addr) : List (Str × V) := [("base", net), ("heaps", .ref h), ("states", .ref s), ("word_rows", .ref w), ("picks", .ref p)]
def runK : List Str := ["base", "heaps", "states", "word_rows", "picks"]
def heapF (t s k : Addr) : List (Str × V) := [("tells", .ref t), ("sender", .ref s), ("worker", .ref k)]
def heapK : List Str := ["tells", "sender", "worker"]
structure PRunAt (K : PySem.W.Frag) (H : Hp) (p : Addr) (nv : V) (A : PT → Addr) (hI : Nat → Addr) (G : PT → HO) (N : Nt) (R : Run) : Prop where
  ob : ∃ dx, H p = some (.ins (ga K "Run") dx (runF nv (A .hl) (A .sl) (A .wl) (A .pk)))
  lay : Lay (PT.ok N) A G H
  hp : ∀ w, w < N.ws.length → ∃ dx, H (hI w) = some (.ins (ga K "Heap") dx (heapF (A (.t w)) (A (.s w)) (A (.k w))))
  hl : G .hl = .lst ((List.range N.ws.length).map fun w => .ref (hI w))
  sl : G .sl = .lst ((List.range N.ms.length).map fun m => .ref (A (.st m)))
  wl : G .wl = .lst ((List.range N.ms.length).map fun m => .ref (A (.wr m)))
  pk : ∃ vs, G .pk = .lst vs ∧ Paired (IsPk H) vs R.evs
  t : ∀ w, w < N.ws.length → G (.t w) = .lst ((R.put w).map V.int)
  s : ∀ w, w < N.ws.length → ∃ vs, G (.s w) = .lst vs ∧ Paired (IsSn H) vs (R.snd w)
  k : ∀ w, w < N.ws.length → ∃ vs, G (.k w) = .lst vs ∧ Paired (IsSn H) vs (R.wks w)
  st : ∀ m, m < N.ms.length → ∃ vs, G (.st m) = .lst vs ∧ Paired (IsSta H) vs (R.sts m)
  wr : ∀ m, m < N.ms.length → ∃ vs, G (.wr m) = .lst vs ∧ vs.length = R.cnt m
/-- a run of the program at p; what was before it stands in H0 -/
structure PRun (K : PySem.W.Frag) (H0 H : Hp) (p : Addr) (A : PT → Addr) (hI : Nat → Addr) (N : Nt) (R : Run) : Prop where
  s0 : Same H0 H
  nw : ∀ t, PT.ok N t → H0 (A t) = none
  at_ : ∃ nv G, IsPNet K H0 nv N ∧ PRunAt K H p nv A hI G N R
def PFoot (N : Nt) (A : PT → Addr) : Addr → Prop := Lf (PT.ok N) A
section
variable {K : PySem.W.Frag} {H0 H H' : Hp} {p : Addr} {nv : V} {A : PT → Addr} {hI : Nat → Addr} {G : PT → HO} {N : Nt} {R : Run} {S : Addr → Prop}
theorem PRunAt.keep (P : PRunAt K H p nv A hI G N R) (s : Same H H') : PRunAt K H' p nv A hI G N R :=
  ⟨let ⟨dx, q⟩ := P.ob; ⟨dx, s _ _ q⟩, P.lay.keep s, fun w h => let ⟨dx, q⟩ := P.hp w h; ⟨dx, s _ _ q⟩, P.hl, P.sl, P.wl, let ⟨vs, q, r⟩ := P.pk; ⟨vs, q, r.cimp fun _ _ z => z.tk (Same.tk_ s)⟩, P.t,
    fun w h => let ⟨vs, q, r⟩ := P.s w h; ⟨vs, q, r.cimp fun _ _ z => z.tk (Same.tk_ s)⟩, fun w h => let ⟨vs, q, r⟩ := P.k w h; ⟨vs, q, r.cimp fun _ _ z => z.tk (Same.tk_ s)⟩, fun w h => let ⟨vs, q, r⟩ := P.st w h; ⟨vs, q, r.cimp fun _ _ z => z.tk (Same.tk_ s)⟩, P.wr⟩
theorem PRunAt.fr (P : PRunAt K H p nv A hI G N R) (s : Fr S H H') (n1 : ∀ b, PFoot N A b → ¬ S b) (n2 : ∀ b C dx fs, H b = some (.ins C dx fs) → ¬ S b) : PRunAt K H' p nv A hI G N R :=
  ⟨let ⟨dx, q⟩ := P.ob; ⟨dx, s.at q (n2 _ _ _ _ q)⟩, P.lay.fr s fun x h => n1 _ ⟨x, h, rfl⟩, fun w h => let ⟨dx, q⟩ := P.hp w h; ⟨dx, s.at q (n2 _ _ _ _ q)⟩, P.hl, P.sl, P.wl, let ⟨vs, q, r⟩ := P.pk; ⟨vs, q, r.cimp fun _ _ z => z.tk s.tk⟩, P.t,
    fun w h => let ⟨vs, q, r⟩ := P.s w h; ⟨vs, q, r.cimp fun _ _ z => z.tk s.tk⟩, fun w h => let ⟨vs, q, r⟩ := P.k w h; ⟨vs, q, r.cimp fun _ _ z => z.tk s.tk⟩, fun w h => let ⟨vs, q, r⟩ := P.st w h; ⟨vs, q, r.cimp fun _ _ z => z.tk s.tk⟩, P.wr⟩
theorem PRun.keep (P : PRun K H0 H p A hI N R) (s : Same H H') : PRun K H0 H' p A hI N R :=
  ⟨P.s0.trans s, P.nw, let ⟨nv, G, a, b⟩ := P.at_; ⟨nv, G, a, b.keep s⟩⟩
theorem PRun.fr (P : PRun K H0 H p A hI N R) (s : Fr S H H') (s0 : Same H0 H') (n1 : ∀ b, PFoot N A b → ¬ S b) (n2 : ∀ b C dx fs, H b = some (.ins C dx fs) → ¬ S b) : PRun K H0 H' p A hI N R :=
  ⟨s0, P.nw, let ⟨nv, G, a, b⟩ := P.at_; ⟨nv, G, a, b.fr s n1 n2⟩⟩
theorem PRunAt.noins (P : PRunAt K H p nv A hI G N R) {b C dx : Addr} {fs : List (Str × V)} (h : H b = some (.ins C dx fs)) (hG : ∀ t, PT.ok N t → ∃ xs, G t = .lst xs) : ¬ PFoot N A b := by
  rintro ⟨t, ht, rfl⟩
  obtain ⟨xs, e⟩ := hG t ht
  rw [P.lay.at_ t ht, e] at h
  cases h
theorem PRunAt.lsts (P : PRunAt K H p nv A hI G N R) : ∀ t, PT.ok N t → ∃ xs, G t = .lst xs := fun t ht => by
  cases t with
  | hl => exact ⟨_, P.hl⟩
  | sl => exact ⟨_, P.sl⟩
  | wl => exact ⟨_, P.wl⟩
  | pk => obtain ⟨vs, e, _⟩ := P.pk; exact ⟨_, e⟩
  | t w => exact ⟨_, P.t w ht⟩
  | s w => obtain ⟨vs, e, _⟩ := P.s w ht; exact ⟨_, e⟩
  | k w => obtain ⟨vs, e, _⟩ := P.k w ht; exact ⟨_, e⟩
  | st m => obtain ⟨vs, e, _⟩ := P.st m ht; exact ⟨_, e⟩
  | wr m => obtain ⟨vs, e, _⟩ := P.wr m ht; exact ⟨_, e⟩
theorem PRunAt.notS (P : PRunAt K H p nv A hI G N R) {b C dx : Addr} {fs : List (Str × V)} (h : H b = some (.ins C dx fs)) : ¬ PFoot N A b := P.noins h P.lsts
end
/-! ### a run of the law -/
inductive LT where
  | d | put | snd | wk | sts | wds | hrd | evs | p (w : Nat) | s (w : Nat) | k (w : Nat) | tM (m : Nat) | oM (m : Nat) | hM (m : Nat) | oC (m c : Nat) | hC (m c : Nat)
  deriving DecidableEq
def LT.ok (N : Nt) (cn hn : Nat → Nat) : LT → Prop
  | .p w => w < N.ws.length
  | .s w => w < N.ws.length
  | .k w => w < N.ws.length
  | .tM m => m < N.ms.length
  | .oM m => m < N.ms.length
  | .hM m => m < N.ms.length
  | .oC m c => m < N.ms.length ∧ c ≤ cn m
  | .hC m c => m < N.ms.length ∧ c < hn m
  | _ => True
def runD (nv : V) (A : LT → Addr) : List (Key × V) :=
  [(.inr "net", nv), (.inr "put", .ref (A .put)), (.inr "sender", .ref (A .snd)), (.inr "worker", .ref (A .wk)), (.inr "states", .ref (A .sts)), (.inr "words", .ref (A .wds)), (.inr "heard", .ref (A .hrd)), (.inr "events", .ref (A .evs))]
def IsKv (H : Hp) (kv : Key × V) (e : Nat × (Nat × Nat)) : Prop := kv.1 = .inl (e.1 : Nat) ∧ IsPk H kv.2 e.2
theorem IsKv.tk {H H' : Hp} {kv : Key × V} {e : Nat × (Nat × Nat)} (h : IsKv H kv e) (t : Tk H H') : IsKv H' kv e := ⟨h.1, h.2.tk t⟩
structure LRunAt (H : Hp) (nv : V) (A : LT → Addr) (G : LT → HO) (N : Nt) (R : Run) (hn : Nat → Nat) : Prop where
  lay : Lay (LT.ok N R.cnt hn) A G H
  d : G .d = .dK (runD nv A)
  put : G .put = .lst ((List.range N.ws.length).map fun w => .ref (A (.p w)))
  snd : G .snd = .lst ((List.range N.ws.length).map fun w => .ref (A (.s w)))
  wk : G .wk = .lst ((List.range N.ws.length).map fun w => .ref (A (.k w)))
  sts : G .sts = .lst ((List.range N.ms.length).map fun m => .ref (A (.tM m)))
  wds : G .wds = .lst ((List.range N.ms.length).map fun m => .ref (A (.oM m)))
  hrd : G .hrd = .lst ((List.range N.ms.length).map fun m => .ref (A (.hM m)))
  evs : ∃ vs, G .evs = .lst vs ∧ Paired (IsPk H) vs R.evs
  p : ∀ w, w < N.ws.length → G (.p w) = .lst ((R.put w).map V.int)
  s : ∀ w, w < N.ws.length → ∃ vs, G (.s w) = .lst vs ∧ Paired (IsSn H) vs (R.snd w)
  k : ∀ w, w < N.ws.length → ∃ vs, G (.k w) = .dK vs ∧ Paired (IsKv H) vs (R.wk w)
  tM : ∀ m, m < N.ms.length → ∃ vs, G (.tM m) = .lst vs ∧ Paired (IsSta H) vs (R.sts m)
  oM : ∀ m, m < N.ms.length → G (.oM m) = .lst ((List.range (R.cnt m + 1)).map fun c => .ref (A (.oC m c)))
  hM : ∀ m, m < N.ms.length → G (.hM m) = .lst ((List.range (hn m)).map fun c => .ref (A (.hC m c)))
  oC : ∀ m c, m < N.ms.length → c ≤ R.cnt m → G (.oC m c) = .lst (((R.wds m).take c).flatten.map V.int)
  hC : ∀ m c, m < N.ms.length → c < hn m → ∃ r : List Int, G (.hC m c) = .lst (r.map V.int) ∧ r.length = N.ms.length ∧ ∀ j, 0 ≤ r.getD j 0 ∧ r.getD j 0 ≤ hn j
/-- a run of the law: v; S holds its objects; what was before it stands in H0 -/
structure LRun (H0 H : Hp) (v : V) (N : Nt) (R : Run) (S : Addr → Prop) : Prop where
  s0 : Same H0 H
  nw : ∀ b, S b → H0 b = none
  at_ : ∃ nv A G, v = .ref (A .d) ∧ IsLNet H0 nv N ∧ LRunAt H nv A G N R R.cnt ∧ ∀ b, S b ↔ Lf (LT.ok N R.cnt R.cnt) A b
section
variable {H0 H H' : Hp} {nv v : V} {A : LT → Addr} {G : LT → HO} {N : Nt} {R : Run} {hn : Nat → Nat} {S S2 : Addr → Prop}
theorem LRunAt.tks (P : LRunAt H nv A G N R hn) (L : Lay (LT.ok N R.cnt hn) A G H') (t : Tk H H') : LRunAt H' nv A G N R hn :=
  ⟨L, P.d, P.put, P.snd, P.wk, P.sts, P.wds, P.hrd, let ⟨vs, q, r⟩ := P.evs; ⟨vs, q, r.cimp fun _ _ z => z.tk t⟩, P.p, fun w h => let ⟨vs, q, r⟩ := P.s w h; ⟨vs, q, r.cimp fun _ _ z => z.tk t⟩,
    fun w h => let ⟨vs, q, r⟩ := P.k w h; ⟨vs, q, r.cimp fun _ _ z => z.tk t⟩, fun w h => let ⟨vs, q, r⟩ := P.tM w h; ⟨vs, q, r.cimp fun _ _ z => z.tk t⟩, P.oM, P.hM, P.oC, P.hC⟩
theorem LRunAt.keep (P : LRunAt H nv A G N R hn) (s : Same H H') : LRunAt H' nv A G N R hn := P.tks (P.lay.keep s) (Same.tk_ s)
theorem LRunAt.fr (P : LRunAt H nv A G N R hn) (s : Fr S2 H H') (n : ∀ x, LT.ok N R.cnt hn x → ¬ S2 (A x)) : LRunAt H' nv A G N R hn := P.tks (P.lay.fr s n) s.tk
theorem LRun.keep (P : LRun H0 H v N R S) (s : Same H H') : LRun H0 H' v N R S :=
  ⟨P.s0.trans s, P.nw, let ⟨nv, A, G, a, b, c, d⟩ := P.at_; ⟨nv, A, G, a, b, c.keep s, d⟩⟩
theorem LRun.fr (P : LRun H0 H v N R S) (s : Fr S2 H H') (s0 : Same H0 H') (n : ∀ b, S b → ¬ S2 b) : LRun H0 H' v N R S :=
  ⟨s0, P.nw, let ⟨nv, A, G, a, b, c, d⟩ := P.at_; ⟨nv, A, G, a, b, c.fr s fun x h => n _ ((d _).mpr ⟨x, h, rfl⟩), d⟩⟩
theorem LRunAt.kinds (P : LRunAt H nv A G N R hn) : ∀ t, LT.ok N R.cnt hn t → (∃ xs, G t = .lst xs) ∨ ∃ kvs, G t = .dK kvs := fun t ht => by
  cases t with
  | d => exact .inr ⟨_, P.d⟩
  | put => exact .inl ⟨_, P.put⟩
  | snd => exact .inl ⟨_, P.snd⟩
  | wk => exact .inl ⟨_, P.wk⟩
  | sts => exact .inl ⟨_, P.sts⟩
  | wds => exact .inl ⟨_, P.wds⟩
  | hrd => exact .inl ⟨_, P.hrd⟩
  | evs => obtain ⟨vs, e, _⟩ := P.evs; exact .inl ⟨_, e⟩
  | p w => exact .inl ⟨_, P.p w ht⟩
  | s w => obtain ⟨vs, e, _⟩ := P.s w ht; exact .inl ⟨_, e⟩
  | k w => obtain ⟨vs, e, _⟩ := P.k w ht; exact .inr ⟨_, e⟩
  | tM m => obtain ⟨vs, e, _⟩ := P.tM m ht; exact .inl ⟨_, e⟩
  | oM m => exact .inl ⟨_, P.oM m ht⟩
  | hM m => exact .inl ⟨_, P.hM m ht⟩
  | oC m c => exact .inl ⟨_, P.oC m c ht.1 ht.2⟩
  | hC m c => obtain ⟨r, e, _⟩ := P.hC m c ht.1 ht.2; exact .inl ⟨_, e⟩
theorem LRun.noins (P : LRun H0 H v N R S) : ∀ b C dx fs, H b = some (.ins C dx fs) → ¬ S b := fun b C dx fs h hb => by
  obtain ⟨nv, A, G, _, _, L, d⟩ := P.at_
  obtain ⟨t, ht, rfl⟩ := (d b).mp hb
  rw [L.lay.at_ t ht] at h
  rcases L.kinds t ht with ⟨xs, e⟩ | ⟨xs, e⟩ <;> (rw [e] at h; cases h)
theorem LRun.has (P : LRun H0 H v N R S) : ∀ b, S b → H b ≠ none := fun b hb => by
  obtain ⟨nv, A, G, _, _, L, d⟩ := P.at_
  obtain ⟨t, ht, rfl⟩ := (d b).mp hb
  rw [L.lay.at_ t ht]
  intro z; cases z
end
end Cr
/-! ## Sizes and kinds along a run; a pick in small steps -/
namespace Cr
section
variable {N : Nt} {R : Run} {w n : Nat}
theorem Nt.mch_at {m : Nat} (h : m < N.ms.length) : N.ms[m]? = some (N.mch m) := by
  unfold Nt.mch
  rw [List.getD_eq_getElem?_getD, List.getElem?_eq_getElem h]; rfl
theorem Nt.ok.mch (h : N.ok) {m : Nat} (hm : m < N.ms.length) : (N.mch m).ok := h.ms _ (List.mem_of_getElem? (N.mch_at hm))
theorem Nt.way_at (h : w < N.ws.length) : N.ws[w]? = some (N.src w, N.goal w, N.isRow w) := by
  unfold Nt.src Nt.goal Nt.isRow
  rw [List.getD_eq_getElem?_getD, List.getElem?_eq_getElem h]; rfl
theorem Nt.ok.goal (h : N.ok) (hw : w < N.ws.length) : N.goal w < N.ms.length := (h.ws _ (List.mem_of_getElem? (N.way_at hw))).2
theorem Nt.ok.src (h : N.ok) (hw : w < N.ws.length) : N.src w < N.ms.length := (h.ws _ (List.mem_of_getElem? (N.way_at hw))).1
structure Run.Ok (N : Nt) (R : Run) : Prop where
  sl : ∀ m, (R.sts m).length = R.cnt m + 1
  so : ∀ m, m < N.ms.length → ∀ st ∈ R.sts m, StaOk (N.mch m) st
  pl : ∀ w, (R.put w).length ≤ 12 + 12 * R.evs.length
  ps : ∀ w, (R.put w).length = (R.snd w).length
  wb : ∀ w x, x ∈ R.wk w → x.1 < (R.put w).length
  wl : ∀ w, (R.wk w).length ≤ R.evs.length
  ce : ∀ m, R.cnt m ≤ R.evs.length
  dl : ∀ m, ∀ ws ∈ R.wds m, ws.length ≤ 12
theorem last_mem {m : Nat} (h : (R.sts m).length = R.cnt m + 1) : (R.sts m)[R.cnt m]? = some (R.last m) := by
  unfold Run.last
  have hne : R.sts m ≠ [] := by intro z; rw [z] at h; cases h
  rw [List.getLastD_eq_getLast?, List.getLast?_eq_getElem?, h, Nat.add_sub_cancel]
  have hl : R.cnt m < (R.sts m).length := by omega
  rw [List.getElem?_eq_getElem hl]
  rfl
theorem Run.Ok.done (h : R.Ok N) (hN : N.ok) (hw : w < N.ws.length) : WkOk (N.mch (N.goal w)) (N.mch (N.goal w)).ds.length (R.done N w n) :=
  wkEnd_ok (hN.mch (hN.goal hw)) (h.so _ (hN.goal hw) _ (List.mem_of_getElem? (last_mem (h.sl _))))
theorem sends_len {outs : List Nat} {sent : List (Nat × Int)} {v : Nat} : (sends outs sent v).length ≤ sent.length := List.length_filterMap_le _ _
theorem Run.Ok.pick (h : R.Ok N) (hN : N.ok) (hm : R.May N w n) : (R.pick N w n).Ok N := by
  have D := h.done (n := n) hN hm.hw
  have d12 := (hN.mch (hN.goal hm.hw)).d12
  have sl := D.sl
  have wl := D.wl
  have el : (R.pick N w n).evs.length = R.evs.length + 1 := by show (R.evs ++ [_]).length = _; rw [List.length_append]; rfl
  refine ⟨fun m => ?_, fun m hm' st hst => ?_, fun v => ?_, fun v => ?_, fun v x hx => ?_, fun v => ?_, fun m => ?_, fun m ws hws => ?_⟩
  · rw [pick_cnt]
    show (if m = N.goal w then R.sts m ++ [_] else R.sts m).length = _
    have := h.sl m
    split
    · rw [List.length_append]; show (R.sts m).length + 1 = _; omega
    · exact this
  · have hst' : st ∈ if m = N.goal w then R.sts m ++ [((R.done N w n).nu, (R.done N w n).row)] else R.sts m := hst
    split at hst'
    · rename_i e
      rcases List.mem_append.mp hst' with q | q
      · exact h.so m hm' st q
      · rw [List.mem_singleton.mp q, e]
        exact ⟨D.nl, D.nb, D.rl, D.rb⟩
    · exact h.so m hm' st hst'
  · rw [el]
    show (R.put v ++ sends _ _ v).length ≤ _
    rw [List.length_append]
    have := h.pl v
    have := @sends_len (N.outs (N.goal w)) (R.done N w n).sent v
    omega
  · show (R.put v ++ sends _ _ v).length = (R.snd v ++ (sends _ _ v).map _).length
    rw [List.length_append, List.length_append, List.length_map, h.ps v]
  · show x.1 < (R.put v ++ sends _ _ v).length
    rw [List.length_append]
    have hx' : x ∈ if v = w then R.wk v ++ [(n, (N.goal w, R.cnt (N.goal w) + 1))] else R.wk v := hx
    split at hx'
    · rename_i e
      rcases List.mem_append.mp hx' with q | q
      · have := h.wb v x q; omega
      · have := hm.hn
        rw [List.mem_singleton.mp q, e]
        show n < _
        omega
    · have := h.wb v x hx'; omega
  · rw [el]
    show (if v = w then R.wk v ++ [_] else R.wk v).length ≤ _
    have := h.wl v
    split
    · rw [List.length_append]; show (R.wk v).length + 1 ≤ _; omega
    · omega
  · rw [el, pick_cnt]
    have := h.ce m
    split <;> omega
  · have hws' : ws ∈ if m = N.goal w then R.wds m ++ [(R.done N w n).words] else R.wds m := hws
    split at hws'
    · rcases List.mem_append.mp hws' with q | q
      · exact h.dl m ws q
      · rw [List.mem_singleton.mp q]; omega
    · exact h.dl m ws hws'
theorem begun_ok (hN : N.ok) : (begun N).Ok N := by
  have l12 := hN.l12
  refine ⟨fun m => rfl, fun m hm st hst => ?_, fun v => ?_, fun v => Ply.lens .nil v, fun v x hx => (by cases hx), fun v => Nat.le_refl _, fun m => Nat.le_refl _, fun m ws h => (by cases h)⟩
  · have e : st = ((N.mch m).ns, (N.mch m).row) := List.mem_singleton.mp hst
    have o := hN.mch hm
    rw [e]
    exact ⟨rfl, o.nsb, o.r12, o.rb⟩
  · have : ((begun N).put v).length ≤ N.ls.length := List.length_filterMap_le _ _
    omega
theorem Ply.ok (hN : N.ok) (h : Ply N R) : R.Ok N := by
  induction h with
  | nil => exact begun_ok hN
  | pick _ hm ih => exact ih.pick hN hm
theorem Run.Ok.noWk (h : R.Ok N) {k : Nat} (hk : (R.put w).length ≤ k) : R.worker w k = none := by
  unfold Run.worker
  cases e : (R.wk w).lookup k with
  | none => rfl
  | some x =>
    have := h.wb w _ (mem_lookup' e)
    have q : k < (R.put w).length := this
    omega
/-- one more letter on w -/
def Run.send (R : Run) (w : Nat) (x : Int) (e : Option (Nat × Nat)) : Run :=
  { R with put := fun v => if v = w then R.put v ++ [x] else R.put v, snd := fun v => if v = w then R.snd v ++ [e] else R.snd v }
/-- a pick without its letters -/
def Run.pick0 (N : Nt) (R : Run) (w n : Nat) : Run := { R.pick N w n with put := R.put, snd := R.snd }
def Run.sendS (outs : List Nat) (e : Option (Nat × Nat)) (R : Run) (p : Nat × Int) : Run := match outs[p.1]? with
  | some w => R.send w p.2 e
  | none => R
def Run.sends (R : Run) (outs : List Nat) (e : Option (Nat × Nat)) (l : List (Nat × Int)) : Run := l.foldl (Run.sendS outs e) R
theorem Run.sends_snoc {outs : List Nat} {e : Option (Nat × Nat)} {l : List (Nat × Int)} {p : Nat × Int} : R.sends outs e (l ++ [p]) = Run.sendS outs e (R.sends outs e l) p := by
  unfold Run.sends
  rw [List.foldl_append]
  rfl
theorem Run.ext' {R T : Run} (h1 : R.put = T.put) (h2 : R.snd = T.snd) (h3 : R.wk = T.wk) (h4 : R.sts = T.sts) (h5 : R.wds = T.wds) (h6 : R.evs = T.evs) : R = T := by
  cases R; cases T
  simp only at h1 h2 h3 h4 h5 h6
  subst h1 h2 h3 h4 h5 h6
  rfl
theorem sendS_at {outs : List Nat} {e : Option (Nat × Nat)} {p : Nat × Int} : Run.sendS outs e R p = { R with put := fun v => R.put v ++ Cr.sends outs [p] v, snd := fun v => R.snd v ++ (Cr.sends outs [p] v).map fun _ => e } := by
  unfold Run.sendS
  have key : ∀ v, Cr.sends outs [p] v = if outs[p.1]? = some v then [p.2] else [] := fun v => by
    unfold Cr.sends
    rw [List.filterMap_cons]
    split
    · rename_i h; split at h
      · cases h
      · rename_i hh; rw [if_neg hh]; rfl
    · rename_i b h; split at h
      · rename_i hh; rw [if_pos hh]; cases h; rfl
      · cases h
  cases q : outs[p.1]? with
  | none =>
    refine Run.ext' ?_ ?_ rfl rfl rfl rfl
    · funext v
      show R.put v = R.put v ++ _
      rw [key v, q, if_neg (by intro z; cases z), List.append_nil]
    · funext v
      show R.snd v = R.snd v ++ _
      rw [key v, q, if_neg (by intro z; cases z), List.map_nil, List.append_nil]
  | some w =>
    refine Run.ext' ?_ ?_ rfl rfl rfl rfl
    · funext v
      show (if v = w then R.put v ++ [p.2] else R.put v) = R.put v ++ _
      rw [key v, q]
      by_cases h : v = w
      · rw [if_pos h, if_pos (by rw [h])]
      · rw [if_neg h, if_neg (fun z => h (Option.some.inj z).symm), List.append_nil]
    · funext v
      show (if v = w then R.snd v ++ [e] else R.snd v) = R.snd v ++ _
      rw [key v, q]
      by_cases h : v = w
      · rw [if_pos h, if_pos (by rw [h])]; rfl
      · rw [if_neg h, if_neg (fun z => h (Option.some.inj z).symm), List.map_nil, List.append_nil]
theorem sends_app {outs : List Nat} {l l' : List (Nat × Int)} {v : Nat} : Cr.sends outs (l ++ l') v = Cr.sends outs l v ++ Cr.sends outs l' v := by
  unfold Cr.sends
  rw [List.filterMap_append]
theorem sends_at {outs : List Nat} {e : Option (Nat × Nat)} (l : List (Nat × Int)) : R.sends outs e l = { R with put := fun v => R.put v ++ Cr.sends outs l v, snd := fun v => R.snd v ++ (Cr.sends outs l v).map fun _ => e } := by
  have key : ∀ (l' : List (Nat × Int)) (T : Run), T.sends outs e l' = { T with put := fun v => T.put v ++ Cr.sends outs l' v, snd := fun v => T.snd v ++ (Cr.sends outs l' v).map fun _ => e } := by
    intro l'
    induction l' with
    | nil =>
      intro T
      refine Run.ext' ?_ ?_ rfl rfl rfl rfl
      · funext v; exact (List.append_nil _).symm
      · funext v; exact (List.append_nil _).symm
    | cons p l ih =>
      intro T
      have e1 : T.sends outs e (p :: l) = (Run.sendS outs e T p).sends outs e l := rfl
      rw [e1, ih, sendS_at]
      have e2 : ∀ v, Cr.sends outs (p :: l) v = Cr.sends outs [p] v ++ Cr.sends outs l v := fun v => sends_app (l := [p])
      refine Run.ext' ?_ ?_ rfl rfl rfl rfl
      · funext v
        show (T.put v ++ Cr.sends outs [p] v) ++ Cr.sends outs l v = _ ++ Cr.sends outs (p :: l) v
        rw [e2, List.append_assoc]
      · funext v
        show (T.snd v ++ (Cr.sends outs [p] v).map _) ++ (Cr.sends outs l v).map _ = _ ++ (Cr.sends outs (p :: l) v).map _
        rw [e2, List.map_append, List.append_assoc]
  exact key l R
theorem pick_sends : (R.pick0 N w n).sends (N.outs (N.goal w)) (some (N.goal w, R.cnt (N.goal w) + 1)) (R.done N w n).sent = R.pick N w n := by
  rw [sends_at]
  rfl
/-- the begun run, letter by letter -/
def begun0 (N : Nt) : Run := { begun N with put := fun _ => [], snd := fun _ => [] }
def begunI (N : Nt) (i : Nat) : Run := { begun N with put := fun w => (N.ls.take i).filterMap fun l => if l.1 = w then some l.2 else none, snd := fun w => (N.ls.take i).filterMap fun l => if l.1 = w then some none else none }
theorem begunI_zero : begunI N 0 = begun0 N := rfl
theorem begunI_all : begunI N N.ls.length = begun N := by
  unfold begunI
  rw [List.take_length]
  rfl
theorem begunI_succ {i : Nat} {l : Nat × Int} (h : N.ls[i]? = some l) : begunI N (i + 1) = (begunI N i).send l.1 l.2 none := by
  refine Run.ext' ?_ ?_ rfl rfl rfl rfl
  · funext v
    show (N.ls.take (i + 1)).filterMap _ = if v = l.1 then _ ++ [l.2] else _
    rw [take_more h, List.filterMap_append]
    by_cases e : v = l.1
    · rw [if_pos e, List.filterMap_cons, if_pos e.symm]; rfl
    · rw [if_neg e, List.filterMap_cons, if_neg (fun z => e z.symm)]; exact List.append_nil _
  · funext v
    show (N.ls.take (i + 1)).filterMap _ = if v = l.1 then _ ++ [none] else _
    rw [take_more h, List.filterMap_append]
    by_cases e : v = l.1
    · rw [if_pos e, List.filterMap_cons, if_pos e.symm]; rfl
    · rw [if_neg e, List.filterMap_cons, if_neg (fun z => e z.symm)]; exact List.append_nil _
end
end Cr
namespace Cr
open PySem PySem.Spec PyProof.Rows L2 He
section
variable {T : Type} [DecidableEq T] {ok ok' : T → Prop} {A : T → Addr} {G : T → HO} {H : Hp} {x : T} {o : HO} {a : Addr}
/-- one that stands there joins -/
theorem Lay.addP (L : Lay ok A G H) (e : H a = some o) (na : ∀ y, ok y → A y ≠ a) (n : ∀ ys, o ≠ .tup ys) (hok : ∀ y, ok' y → ok y ∨ y = x) : Lay ok' (setG A x a) (setG G x o) H := by
  have key : ∀ y, ok' y → (y = x ∧ setG A x a y = a ∧ setG G x o y = o) ∨ (y ≠ x ∧ ok y ∧ setG A x a y = A y ∧ setG G x o y = G y) := fun y hy => by
    by_cases e : y = x
    · exact .inl ⟨e, by rw [e]; exact setG_same, by rw [e]; exact setG_same⟩
    · exact .inr ⟨e, (hok y hy).resolve_right e, setG_ne e, setG_ne e⟩
  refine ⟨fun y hy => ?_, fun y z hy hz e => ?_, fun y hy ys => ?_⟩
  · rcases key y hy with ⟨_, e1, e2⟩ | ⟨_, h, e1, e2⟩
    · rw [e1, e2, e]
    · rw [e1, e2]; exact L.at_ y h
  · rcases key y hy with ⟨e0, e1, e2⟩ | ⟨_, h, e1, e2⟩ <;> rcases key z hz with ⟨f0, f1, f2⟩ | ⟨_, h', f1, f2⟩
    · rw [e0, f0]
    · rw [e1, f1] at e; exact absurd e.symm (na z h')
    · rw [e1, f1] at e; exact absurd e (na y h)
    · rw [e1, f1] at e; exact L.inj y z h h' e
  · rcases key y hy with ⟨_, e1, e2⟩ | ⟨_, h, e1, e2⟩
    · rw [e2]; exact n ys
    · rw [e2]; exact L.nt y h ys
/-- the list at o takes in a new object -/
theorem Lay.grow {H2 H3 : Hp} {c : HO} {t : T} {acc : List V} (L : Lay ok A G H2) (s : Same H2 H3) (hx : H2 a = none) (e : H3 a = some c) (ho : ok t) (ne : t ≠ x) (hG : G t = .lst acc) (n : ∀ ys, c ≠ .tup ys) (hok : ∀ y, ok' y → ok y ∨ y = x) (ho' : ok' t) :
    H3 (A t) = some (.lst acc) ∧ Lay ok' (setG A x a) (setG (setG G x c) t (.lst (acc ++ [.ref a]))) (upd H3 (A t) (.lst (acc ++ [.ref a]))) := by
  have L3 := L.keep s
  have h := L3.at_ t ho
  rw [hG] at h
  refine ⟨h, ?_⟩
  have L4 := L3.addP (ok' := ok') (x := x) e (fun y hy => ne_of_none (L.at_ y hy) hx) n hok
  have L5 := L4.put (x := t) (o := .lst (acc ++ [.ref a])) ho' (fun ys z => by cases z)
  rw [setG_ne ne] at L5
  exact L5
omit [DecidableEq T] in
theorem Lay.at' (L : Lay ok A G H) {t : T} (ht : ok t) {o : HO} (e : G t = o) : H (A t) = some o := by rw [L.at_ t ht, e]
theorem nw_set {H0 : Hp} (nw : ∀ y, ok y → H0 (A y) = none) (ha : H0 a = none) (hok : ∀ y, ok' y → ok y ∨ y = x) : ∀ y, ok' y → H0 (setG A x a y) = none := fun y hy => by
  by_cases e : y = x
  · rw [e, setG_same]; exact ha
  · rw [setG_ne e]; exact nw y ((hok y hy).resolve_right e)
end
def okS (h : Nat) (s w : Option Nat) : PT → Prop
  | .hl => True
  | .t v => v < h
  | .s v => v < h
  | .k v => v < h
  | .sl => s ≠ none
  | .st m => ∃ n, s = some n ∧ m < n
  | .wl => w ≠ none
  | .wr m => ∃ n, w = some n ∧ m < n
  | .pk => False
/-! ### a run's small steps -/
def Run.workd (R : Run) (w n : Nat) (e : Nat × Nat) : Run := { R with wk := fun v => if v = w then R.wk v ++ [(n, e)] else R.wk v }
def Run.statd (R : Run) (m : Nat) (s : Sta) : Run := { R with sts := fun v => if v = m then R.sts v ++ [s] else R.sts v }
def Run.wordd (R : Run) (m : Nat) (s : List Int) : Run := { R with wds := fun v => if v = m then R.wds v ++ [s] else R.wds v }
def Run.evd (R : Run) (e : Nat × Nat) : Run := { R with evs := R.evs ++ [e] }
theorem pick0_eq {N : Nt} {R : Run} {w n : Nat} : R.pick0 N w n = (((R.workd w n (N.goal w, R.cnt (N.goal w) + 1)).statd (N.goal w) ((R.done N w n).nu, (R.done N w n).row)).wordd (N.goal w) (R.done N w n).words).evd (w, n) := rfl
theorem workd_worker {R : Run} {w n : Nat} {e : Nat × Nat} (h : R.worker w n = none) (v k : Nat) : (R.workd w n e).worker v k = if v = w ∧ k = n then some e else R.worker v k := by
  unfold Run.worker at *
  show List.lookup k (if v = w then R.wk v ++ [(n, e)] else R.wk v) = _
  by_cases hv : v = w
  · subst hv
    rw [if_pos rfl, lookup_app]
    by_cases hk : k = n
    · subst hk
      rw [h, if_pos ⟨rfl, rfl⟩, List.lookup_cons, beq_self_eq_true]
      rfl
    · rw [if_neg (fun z => hk z.2), List.lookup_cons, show (k == n) = false from by simpa using hk]
      show (List.lookup k (R.wk v)).or none = _
      cases List.lookup k (R.wk v) <;> rfl
  · rw [if_neg hv, if_neg (fun z => hv z.1)]
theorem workd_wks {R : Run} {w n : Nat} {e : Nat × Nat} (h : R.worker w n = none) (v : Nat) : (R.workd w n e).wks v = if v = w then (R.wks v).set n (some e) else R.wks v := by
  unfold Run.wks
  show (List.range (R.put v).length).map ((R.workd w n e).worker v) = _
  by_cases hv : v = w
  · rw [if_pos hv]
    refine List.ext_getElem? fun i => ?_
    rw [List.getElem?_set, List.getElem?_map, List.getElem?_map, List.length_map, List.length_range]
    by_cases hi : i < (R.put v).length
    · rw [List.getElem?_range hi]
      show some ((R.workd w n e).worker v i) = _
      rw [workd_worker h]
      by_cases hin : n = i
      · rw [if_pos hin, if_pos ⟨hv, hin.symm⟩, if_pos (by omega)]
      · rw [if_neg hin, if_neg (fun z => hin z.2.symm)]
        rfl
    · rw [List.getElem?_eq_none (by rw [List.length_range]; omega)]
      show none = if n = i then _ else none
      split
      · rw [if_neg (by omega)]
      · rfl
  · rw [if_neg hv]
    refine List.map_congr_left fun k _ => ?_
    rw [workd_worker h, if_neg (fun z => hv z.1)]
theorem wks_len {R : Run} {w : Nat} : (R.wks w).length = (R.put w).length := by unfold Run.wks; rw [List.length_map, List.length_range]
theorem wks_get {R : Run} {w n : Nat} (h : n < (R.put w).length) : (R.wks w)[n]? = some (R.worker w n) := by unfold Run.wks; rw [List.getElem?_map, List.getElem?_range h]; rfl
theorem send_wks {R : Run} {w : Nat} {x : Int} {e : Option (Nat × Nat)} (h : R.worker w (R.put w).length = none) (v : Nat) : (R.send w x e).wks v = if v = w then R.wks v ++ [none] else R.wks v := by
  unfold Run.wks
  show (List.range (if v = w then R.put v ++ [x] else R.put v).length).map (R.worker v) = _
  by_cases hv : v = w
  · rw [if_pos hv, if_pos hv, List.length_append]
    show (List.range ((R.put v).length + 1)).map _ = _
    rw [List.range_succ, List.map_append, hv]
    show _ ++ [R.worker w (R.put w).length] = _
    rw [h]
  · rw [if_neg hv, if_neg hv]
/-! ### the program's run -/
structure PRel (H : Hp) (G : PT → HO) (N : Nt) (R : Run) : Prop where
  pk : ∃ vs, G .pk = .lst vs ∧ Paired (IsPk H) vs R.evs
  t : ∀ w, w < N.ws.length → G (.t w) = .lst ((R.put w).map V.int)
  s : ∀ w, w < N.ws.length → ∃ vs, G (.s w) = .lst vs ∧ Paired (IsSn H) vs (R.snd w)
  k : ∀ w, w < N.ws.length → ∃ vs, G (.k w) = .lst vs ∧ Paired (IsSn H) vs (R.wks w)
  st : ∀ m, m < N.ms.length → ∃ vs, G (.st m) = .lst vs ∧ Paired (IsSta H) vs (R.sts m)
  wr : ∀ m, m < N.ms.length → ∃ vs, G (.wr m) = .lst vs ∧ vs.length = R.cnt m
section
variable {K : PySem.W.Frag} {H0 H H' : Hp} {p : Addr} {nv : V} {A : PT → Addr} {hI : Nat → Addr} {G G' : PT → HO} {N : Nt} {R R' : Run} {S : Addr → Prop} {w n m : Nat}
theorem PRunAt.rel (P : PRunAt K H p nv A hI G N R) : PRel H G N R := ⟨P.pk, P.t, P.s, P.k, P.st, P.wr⟩
theorem PRel.tk (P : PRel H G N R) (t : Tk H H') : PRel H' G N R :=
  ⟨let ⟨vs, q, r⟩ := P.pk; ⟨vs, q, r.cimp fun _ _ z => z.tk t⟩, P.t, fun w h => let ⟨vs, q, r⟩ := P.s w h; ⟨vs, q, r.cimp fun _ _ z => z.tk t⟩, fun w h => let ⟨vs, q, r⟩ := P.k w h; ⟨vs, q, r.cimp fun _ _ z => z.tk t⟩,
    fun w h => let ⟨vs, q, r⟩ := P.st w h; ⟨vs, q, r.cimp fun _ _ z => z.tk t⟩, P.wr⟩
theorem PRunAt.step (P : PRunAt K H p nv A hI G N R) (L : Lay (PT.ok N) A G' H') (f : Fr (PFoot N A) H H') (e1 : G' .hl = G .hl) (e2 : G' .sl = G .sl) (e3 : G' .wl = G .wl) (rel : PRel H' G' N R') : PRunAt K H' p nv A hI G' N R' :=
  ⟨let ⟨dx, q⟩ := P.ob; ⟨dx, f.at q (P.notS q)⟩, L, fun w h => let ⟨dx, q⟩ := P.hp w h; ⟨dx, f.at q (P.notS q)⟩, e1.trans P.hl, e2.trans P.sl, e3.trans P.wl, rel.pk, rel.t, rel.s, rel.k, rel.st, rel.wr⟩
theorem lst_nt {xs : List V} : ∀ ys, HO.lst xs ≠ .tup ys := fun _ z => by cases z
theorem dK_nt {xs : List (Key × V)} : ∀ ys, HO.dK xs ≠ .tup ys := fun _ z => by cases z
theorem PRunAt.send (P : PRunAt K H p nv A hI G N R) (hw : w < N.ws.length) {x : Int} {e : Option (Nat × Nat)} {ev : V} (he : IsSn H ev e) (hb : R.worker w (R.put w).length = none) {ss ks : List V} (hs : H (A (.s w)) = some (.lst ss)) (hk : H (A (.k w)) = some (.lst ks)) :
    ∃ G', PRunAt K (upd (upd (upd H (A (.t w)) (.lst ((R.put w).map V.int ++ [.int x]))) (A (.s w)) (.lst (ss ++ [ev]))) (A (.k w)) (.lst (ks ++ [.non]))) p nv A hI G' N (R.send w x e) ∧
      Fr (PFoot N A) H (upd (upd (upd H (A (.t w)) (.lst ((R.put w).map V.int ++ [.int x]))) (A (.s w)) (.lst (ss ++ [ev]))) (A (.k w)) (.lst (ks ++ [.non]))) := by
  have L1 := P.lay.put (x := PT.t w) (o := .lst ((R.put w).map V.int ++ [.int x])) hw lst_nt
  have F1 := P.lay.frp (x := PT.t w) (o := .lst ((R.put w).map V.int ++ [.int x])) hw
  have L2 := L1.put (x := PT.s w) (o := .lst (ss ++ [ev])) hw lst_nt
  have F2 := L1.frp (x := PT.s w) (o := .lst (ss ++ [ev])) hw
  have L3 := L2.put (x := PT.k w) (o := .lst (ks ++ [.non])) hw lst_nt
  have F3 := L2.frp (x := PT.k w) (o := .lst (ks ++ [.non])) hw
  have F := F1.trans (F2.trans F3)
  obtain ⟨ss', es, ps⟩ := P.s w hw
  obtain ⟨ks', ek, pk⟩ := P.k w hw
  have e1 : ss' = ss := by have := P.lay.at_ (.s w) hw; rw [es, hs] at this; exact (HO.lst.inj (Option.some.inj this)).symm
  have e2 : ks' = ks := by have := P.lay.at_ (.k w) hw; rw [ek, hk] at this; exact (HO.lst.inj (Option.some.inj this)).symm
  subst e1 e2
  refine ⟨_, P.step L3 F rfl rfl rfl ?_, F⟩
  have T := P.rel.tk F.tk
  refine ⟨T.pk, fun v hv => ?_, fun v hv => ?_, fun v hv => ?_, T.st, T.wr⟩
  · show _ = HO.lst ((if v = w then R.put v ++ [x] else R.put v).map V.int)
    by_cases e : v = w
    · subst e
      simp only [setG, PT.t.injEq, reduceCtorEq, if_false, if_true, List.map_append, List.map_cons, List.map_nil]
    · simp only [setG, PT.t.injEq, reduceCtorEq, if_false, e]
      exact T.t v hv
  · show ∃ vs, _ ∧ Paired _ vs (if v = w then R.snd v ++ [_] else R.snd v)
    by_cases e : v = w
    · subst e
      simp only [setG, PT.s.injEq, reduceCtorEq, if_false, if_true]
      exact ⟨_, rfl, (ps.cimp fun _ _ z => z.tk F.tk).csnoc2 (he.tk F.tk)⟩
    · simp only [setG, PT.s.injEq, reduceCtorEq, if_false, e]
      exact T.s v hv
  · rw [send_wks hb]
    by_cases e : v = w
    · subst e
      simp only [setG, PT.k.injEq, reduceCtorEq, if_false, if_true]
      exact ⟨_, rfl, (pk.cimp fun _ _ z => z.tk F.tk).csnoc2 rfl⟩
    · simp only [setG, PT.k.injEq, reduceCtorEq, if_false, e]
      exact T.k v hv
theorem PRunAt.workd (P : PRunAt K H p nv A hI G N R) (hw : w < N.ws.length) {e : Nat × Nat} {ev : V} (he : IsPk H ev e) (hb : R.worker w n = none) {ks : List V} (hk : H (A (.k w)) = some (.lst ks)) :
    ∃ G', PRunAt K (upd H (A (.k w)) (.lst (ks.set n ev))) p nv A hI G' N (R.workd w n e) ∧ Fr (PFoot N A) H (upd H (A (.k w)) (.lst (ks.set n ev))) := by
  have L := P.lay.put (x := PT.k w) (o := .lst (ks.set n ev)) hw lst_nt
  have F := P.lay.frp (x := PT.k w) (o := .lst (ks.set n ev)) hw
  obtain ⟨ks', ek, pk⟩ := P.k w hw
  have e2 : ks' = ks := by have := P.lay.at_ (.k w) hw; rw [ek, hk] at this; exact (HO.lst.inj (Option.some.inj this)).symm
  subst e2
  refine ⟨_, P.step L F rfl rfl rfl ?_, F⟩
  have T := P.rel.tk F.tk
  refine ⟨T.pk, T.t, T.s, fun v hv => ?_, T.st, T.wr⟩
  rw [workd_wks hb]
  by_cases q : v = w
  · subst q
    simp only [setG, PT.k.injEq, reduceCtorEq, if_false, if_true]
    refine ⟨_, rfl, ?_⟩
    have pk' := pk.cimp fun _ _ z => IsSn.tk z F.tk
    exact PySem.Paired.cset pk' (show IsSn _ ev (some e) from he.tk F.tk)
  · simp only [setG, PT.k.injEq, reduceCtorEq, if_false, q]
    exact T.k v hv
theorem PRunAt.statd (P : PRunAt K H p nv A hI G N R) (hm : m < N.ms.length) {s : Sta} {sv : V} (he : IsSta H sv s) {ks : List V} (hk : H (A (.st m)) = some (.lst ks)) :
    ∃ G', PRunAt K (upd H (A (.st m)) (.lst (ks ++ [sv]))) p nv A hI G' N (R.statd m s) ∧ Fr (PFoot N A) H (upd H (A (.st m)) (.lst (ks ++ [sv]))) := by
  have L := P.lay.put (x := PT.st m) (o := .lst (ks ++ [sv])) hm lst_nt
  have F := P.lay.frp (x := PT.st m) (o := .lst (ks ++ [sv])) hm
  obtain ⟨ks', ek, pk⟩ := P.st m hm
  have e2 : ks' = ks := by have := P.lay.at_ (.st m) hm; rw [ek, hk] at this; exact (HO.lst.inj (Option.some.inj this)).symm
  subst e2
  refine ⟨_, P.step L F rfl rfl rfl ?_, F⟩
  have T := P.rel.tk F.tk
  refine ⟨T.pk, T.t, T.s, T.k, fun v hv => ?_, T.wr⟩
  show ∃ vs, _ ∧ Paired _ vs (if v = m then R.sts v ++ [_] else R.sts v)
  by_cases q : v = m
  · subst q
    simp only [setG, PT.st.injEq, reduceCtorEq, if_false, if_true]
    exact ⟨_, rfl, (pk.cimp fun _ _ z => z.tk F.tk).csnoc2 (he.tk F.tk)⟩
  · simp only [setG, PT.st.injEq, reduceCtorEq, if_false, q]
    exact T.st v hv
theorem PRunAt.wordd (P : PRunAt K H p nv A hI G N R) (hm : m < N.ms.length) {s : List Int} {sv : V} {ks : List V} (hk : H (A (.wr m)) = some (.lst ks)) :
    ∃ G', PRunAt K (upd H (A (.wr m)) (.lst (ks ++ [sv]))) p nv A hI G' N (R.wordd m s) ∧ Fr (PFoot N A) H (upd H (A (.wr m)) (.lst (ks ++ [sv]))) := by
  have L := P.lay.put (x := PT.wr m) (o := .lst (ks ++ [sv])) hm lst_nt
  have F := P.lay.frp (x := PT.wr m) (o := .lst (ks ++ [sv])) hm
  obtain ⟨ks', ek, pk⟩ := P.wr m hm
  have e2 : ks' = ks := by have := P.lay.at_ (.wr m) hm; rw [ek, hk] at this; exact (HO.lst.inj (Option.some.inj this)).symm
  subst e2
  refine ⟨_, P.step L F rfl rfl rfl ?_, F⟩
  have T := P.rel.tk F.tk
  refine ⟨T.pk, T.t, T.s, T.k, T.st, fun v hv => ?_⟩
  unfold Run.cnt
  show ∃ vs : List V, _ ∧ vs.length = (if v = m then R.wds v ++ [_] else R.wds v).length
  by_cases q : v = m
  · subst q
    simp only [setG, PT.wr.injEq, reduceCtorEq, if_false, if_true]
    refine ⟨_, rfl, ?_⟩
    rw [List.length_append, List.length_append, pk]
    rfl
  · simp only [setG, PT.wr.injEq, reduceCtorEq, if_false, q]
    exact T.wr v hv
theorem PRunAt.evd (P : PRunAt K H p nv A hI G N R) {e : Nat × Nat} {ev : V} (he : IsPk H ev e) {ks : List V} (hk : H (A .pk) = some (.lst ks)) :
    ∃ G', PRunAt K (upd H (A .pk) (.lst (ks ++ [ev]))) p nv A hI G' N (R.evd e) ∧ Fr (PFoot N A) H (upd H (A .pk) (.lst (ks ++ [ev]))) := by
  have L := P.lay.put (x := PT.pk) (o := .lst (ks ++ [ev])) trivial lst_nt
  have F := P.lay.frp (x := PT.pk) (o := .lst (ks ++ [ev])) trivial
  obtain ⟨ks', ek, pk⟩ := P.pk
  have e2 : ks' = ks := by have := P.lay.at_ .pk trivial; rw [ek, hk] at this; exact (HO.lst.inj (Option.some.inj this)).symm
  subst e2
  refine ⟨_, P.step L F rfl rfl rfl ?_, F⟩
  have T := P.rel.tk F.tk
  exact ⟨⟨_, rfl, (pk.cimp fun _ _ z => z.tk F.tk).csnoc2 (he.tk F.tk)⟩, T.t, T.s, T.k, T.st, T.wr⟩
end
end Cr
namespace Cr
open PySem PySem.Spec PyProof.Rows L2 He
/-! ### data that are compared -/
structure Sh (n : Nat) (d : PyData) : Prop where
  lay : d.canLay0 = true
  dep : d.depth ≤ n
theorem Sh.mono {n m : Nat} {d : PyData} (h : Sh n d) (k : n ≤ m) : Sh m d := ⟨h.lay, Nat.le_trans h.dep k⟩
theorem sh_all {n : Nat} : ∀ {ds : List PyData}, (∀ d ∈ ds, Sh n d) → PyData.canLayAll0 ds = true ∧ PyData.depthAll ds ≤ n
  | [], _ => ⟨by simp [PyData.canLayAll0], by simp [PyData.depthAll]⟩
  | d :: ds, h => by
    obtain ⟨a, b⟩ := sh_all (n := n) (ds := ds) fun e he => h e (List.mem_cons_of_mem _ he)
    have c := h d List.mem_cons_self
    refine ⟨by simp only [PyData.canLayAll0, c.lay, a, Bool.and_self], ?_⟩
    have := c.dep
    simp only [PyData.depthAll]
    omega
theorem Sh.int {n : Nat} (i : Int) : Sh n (.int i) := ⟨by simp [PyData.canLay0], by simp [PyData.depth]⟩
theorem Sh.list {n : Nat} {ds : List PyData} (h : ∀ d ∈ ds, Sh n d) : Sh (n + 1) (.list ds) := by
  obtain ⟨a, b⟩ := sh_all h
  exact ⟨by simp only [PyData.canLay0]; exact a, by simp only [PyData.depth]; omega⟩
theorem Sh.tup {n : Nat} {ds : List PyData} (h : ∀ d ∈ ds, Sh n d) : Sh (n + 1) (.tuple ds) := by
  obtain ⟨a, b⟩ := sh_all h
  exact ⟨by simp only [PyData.canLay0]; exact a, by simp only [PyData.depth]; omega⟩
theorem Sh.ok {n : Nat} {d : PyData} (h : Sh n d) (k : n ≤ 64) : SeqAt.shaped d = true := by
  show (d.canLay0 && decide (d.depth ≤ 64)) = true
  rw [Bool.and_eq_true]
  exact ⟨h.lay, decide_eq_true (Nat.le_trans h.dep k)⟩
theorem Sh.refl {n : Nat} {d : PyData} (h : Sh n d) : PyData.eqv d d = true := SeqAt.eqv_refl d h.lay
def pD (e : Nat × Nat) : PyData := .tuple [.int (e.1 : Nat), .int (e.2 : Nat)]
def psD (es : List (Nat × Nat)) : PyData := .list (es.map pD)
def insD (ns : List Int) : PyData := .list (ns.map PyData.int)
def intD (ns : List Int) : PyData := .tuple (ns.map PyData.int)
def staD (s : Sta) : PyData := .tuple [intD s.1, intD s.2]
theorem sh_pD (e : Nat × Nat) : Sh 1 (pD e) := Sh.tup (n := 0) fun d hd => by
  rcases List.mem_cons.mp hd with rfl | hd
  · exact .int _
  · rw [List.mem_singleton.mp hd]; exact .int _
theorem sh_psD (es : List (Nat × Nat)) : Sh 2 (psD es) := Sh.list fun d hd => by
  obtain ⟨e, _, rfl⟩ := List.mem_map.mp hd
  exact sh_pD e
theorem sh_insD (es : List Int) : Sh 1 (insD es) := Sh.list (n := 0) fun d hd => by
  obtain ⟨e, _, rfl⟩ := List.mem_map.mp hd
  exact .int _
theorem sh_intD (es : List Int) : Sh 1 (intD es) := Sh.tup (n := 0) fun d hd => by
  obtain ⟨e, _, rfl⟩ := List.mem_map.mp hd
  exact .int _
theorem sh_staD (s : Sta) : Sh 2 (staD s) := Sh.tup fun d hd => by
  rcases List.mem_cons.mp hd with rfl | hd
  · exact sh_intD _
  · rw [List.mem_singleton.mp hd]; exact sh_intD _
section
variable {K : PySem.W.Frag} {H : Hp}
theorem dp_all {α : Type} {R : V → α → Prop} {f : α → PyData} (k : ∀ v a, R v a → Dp K H v (f a)) : ∀ {vs : List V} {as : List α}, Paired R vs as → DpAll K H vs (as.map f)
  | _, _, .nil => .nil
  | _, _, .cons h t => .cons (k _ _ h) (dp_all k t)
theorem dp_ints : ∀ ns : List Int, DpAll K H (ns.map V.int) (ns.map PyData.int)
  | [] => .nil
  | n :: ns => .cons (.int n) (dp_ints ns)
theorem dp_pk {v : V} {e : Nat × Nat} (h : IsPk H v e) : Dp K H v (pD e) := by
  obtain ⟨p, rfl, q⟩ := h
  exact .tup (SqT.of q) (.cons (.int _) (.cons (.int _) .nil))
theorem dp_sta {v : V} {s : Sta} (h : IsSta H v s) : Dp K H v (staD s) := by
  obtain ⟨p, a, b, rfl, q, qa, qb⟩ := h
  exact .tup (SqT.of q) (.cons (.tup (SqT.of qa) (dp_ints _)) (.cons (.tup (SqT.of qb) (dp_ints _)) .nil))
theorem dp_pks {a : Addr} {vs : List V} {es : List (Nat × Nat)} (h : H a = some (.lst vs)) (p : Paired (IsPk H) vs es) : Dp K H (.ref a) (psD es) := .lst (SqL.of h) (dp_all (f := pD) (fun _ _ h => dp_pk h) p)
end
theorem eqv_nil : PyData.eqv (psD []) (psD []) = true := (sh_psD []).refl
theorem eqv_cons {e : Nat × Nat} {es : List (Nat × Nat)} : PyData.eqv (psD (e :: es)) (psD []) = false := by
  simp [psD, PyData.eqv, PyData.eqvAll]
/-! ### cuts and orphans -/
def IsCut (H : Hp) (v : V) (M : Nat) (c : Nat → Nat) : Prop := ∃ a, v = .ref a ∧ H a = some (.tup ((List.range M).map fun m => vN (c m)))
theorem IsCut.tk {H H' : Hp} {v : V} {M : Nat} {c : Nat → Nat} (h : IsCut H v M c) (t : Tk H H') : IsCut H' v M c := by
  obtain ⟨a, e, q⟩ := h; exact ⟨a, e, t _ _ q⟩
def orphW (R : Run) (c : Nat → Nat) (w : Nat) : List (Nat × Nat) := ((List.range (R.put w).length).filter (isOrphan R c w)).map fun n => (w, n)
def orph (N : Nt) (R : Run) (c : Nat → Nat) : List (Nat × Nat) := (List.range N.ws.length).flatMap (orphW R c)
theorem fm_succ {α : Type} {f : Nat → List α} {w : Nat} : (List.range (w + 1)).flatMap f = (List.range w).flatMap f ++ f w := by
  rw [List.range_succ, List.flatMap_append]
  show _ ++ (f w ++ []) = _
  rw [List.append_nil]
theorem fm_len {α : Type} {f : Nat → List α} {B : Nat} (h : ∀ w, (f w).length ≤ B) : ∀ w, ((List.range w).flatMap f).length ≤ w * B
  | 0 => Nat.zero_le _
  | w + 1 => by
    rw [fm_succ, List.length_append, Nat.succ_mul]
    have := fm_len h w
    have := h w
    omega
theorem orphW_len {R : Run} {c : Nat → Nat} {w : Nat} : (orphW R c w).length ≤ (R.put w).length := rf_len
theorem no_orph {N : Nt} {R : Run} {c : Nat → Nat} (hR : R.Ok N) (hP : ∀ w, N.ws.length ≤ w → R.put w = []) (h : orph N R c = []) (w n : Nat) : isOrphan R c w n = false := by
  cases e : isOrphan R c w n with
  | false => rfl
  | true =>
    have hn : n < (R.put w).length := by
      rcases Nat.lt_or_ge n (R.put w).length with z | z
      · exact z
      · unfold isOrphan at e
        rw [hR.noWk z] at e
        cases e
    have hw : w < N.ws.length := by
      rcases Nat.lt_or_ge w N.ws.length with z | z
      · exact z
      · rw [hP w z] at hn; cases hn
    have : (w, n) ∈ orph N R c := List.mem_flatMap.mpr ⟨w, List.mem_range.mpr hw, List.mem_map.mpr ⟨n, List.mem_filter.mpr ⟨List.mem_range.mpr hn, e⟩, rfl⟩⟩
    rw [h] at this
    cases this
end Cr
namespace Cr
open PySem PySem.Spec PyProof.Rows L2 He
theorem Fr.putN {S : Addr → Prop} {H H1 : Hp} {D : Addr} {o : HO} (s : Fr S H H1) (n : H D = Option.none) : Fr S H (upd H1 D o) := fun b u e k => by rw [upd_ne (ne_of_none e n)]; exact s b u e k
theorem one_add {n : Nat} : [V.int (1 + (n : Int))] = [V.int ((n + 1 : Nat) : Int)] := by
  have e : (1 : Int) + (n : Int) = ((n + 1 : Nat) : Int) := by omega
  rw [e]
def wayD (w : Nat × Nat × Bool) : PyData := .tuple [.int (w.1 : Nat), .int (w.2.1 : Nat), .str (sortT w.2.2)]
theorem sh_wayD (w : Nat × Nat × Bool) : Sh 1 (wayD w) := Sh.tup (n := 0) fun d hd => by
  rcases List.mem_cons.mp hd with rfl | hd
  · exact .int _
  · rcases List.mem_cons.mp hd with rfl | hd
    · exact .int _
    · rw [List.mem_singleton.mp hd]; exact ⟨by
        simp only [PyData.canLay0]
        unfold sortT
        cases w.2.2 <;> decide +kernel, by simp [PyData.depth]⟩
theorem sh_waysD (ws : List (Nat × Nat × Bool)) : Sh 2 (.list (ws.map wayD)) := Sh.list fun d hd => by
  obtain ⟨e, _, rfl⟩ := List.mem_map.mp hd
  exact sh_wayD e
theorem dp_way {K : PySem.W.Frag} {H : Hp} {v : V} {w : Nat × Nat × Bool} (h : IsWay H v w) : Dp K H v (wayD w) := by
  obtain ⟨p, rfl, q⟩ := h
  exact .tup (SqT.of q) (.cons (.int _) (.cons (.int _) (.cons (.str _) .nil)))
theorem eqv_lcons {d : PyData} {ds : List PyData} : PyData.eqv (.list (d :: ds)) (.list []) = false := by simp [PyData.eqv, PyData.eqvAll]
theorem eqv_lnil : PyData.eqv (.list []) (.list []) = true := by simp [PyData.eqv, PyData.eqvAll]
/-- .. its lists not in S -/
def IsLMchS (S : Addr → Prop) (H : Hp) (v : V) (M : Mch) : Prop := ∃ p n r d vs, v = .ref p ∧ H p = some (.tup [.int M.md, .ref n, .ref r, .ref d]) ∧ LMchAt H n r d vs M ∧ ¬ S n ∧ ¬ S r ∧ ¬ S d
theorem IsLMchS.fr {S : Addr → Prop} {H H' : Hp} {v : V} {M : Mch} (h : IsLMchS S H v M) (f : Fr S H H') : IsLMchS S H' v M := by
  obtain ⟨p, n, r, d, vs, e, q, L, n1, n2, n3⟩ := h
  exact ⟨p, n, r, d, vs, e, f.tk _ _ q, ⟨f.at L.n n1, f.at L.r n2, f.at L.d n3, L.ds.cimp fun _ _ z => z.tk f.tk⟩, n1, n2, n3⟩
theorem IsLMchS.mono {S S' : Addr → Prop} {H : Hp} {v : V} {M : Mch} (h : IsLMchS S H v M) (f : ∀ b, S' b → S b) : IsLMchS S' H v M := by
  obtain ⟨p, n, r, d, vs, e, q, L, n1, n2, n3⟩ := h
  exact ⟨p, n, r, d, vs, e, q, L, fun z => n1 (f _ z), fun z => n2 (f _ z), fun z => n3 (f _ z)⟩
theorem IsLMchS.keep {S : Addr → Prop} {H H' : Hp} {v : V} {M : Mch} (h : IsLMchS S H v M) (s : Same H H') : IsLMchS S H' v M := h.fr (Fr.of s)
theorem IsLMchS.to {S : Addr → Prop} {H : Hp} {v : V} {M : Mch} (h : IsLMchS S H v M) : IsLMch H v M := by
  obtain ⟨p, n, r, d, vs, e, q, L, _⟩ := h
  exact ⟨p, n, r, d, vs, e, q, L⟩
theorem cdiv_small {m : Int} (h : 0 < m) (h2 : m < 2 ^ 512) : CDivW 0 m := wide_div (b := 512) h (by omega) (by decide) (by decide)
/-! ### pots -/
def IsPot (H : Hp) (p : Addr) : Prop := ∃ (ms : List Int) (z : Int), H p = some (.lst (ms.map V.int ++ [.int z])) ∧ ms.length ≤ 1
theorem IsPot.keep {H H' : Hp} {p : Addr} (h : IsPot H p) (s : Same H H') : IsPot H' p := by
  obtain ⟨ms, z, e, l⟩ := h; exact ⟨ms, z, s _ _ e, l⟩
theorem IsPot.ne {H : Hp} {p : Addr} (h : IsPot H p) : H p ≠ none := by
  obtain ⟨ms, z, e, l⟩ := h; rw [e]; intro z; cases z
theorem ixN_end {n : Nat} : ixN (n + 1) (-1) = some n := by
  unfold ixN
  rw [if_neg (by decide), if_pos (by omega)]
  congr 1
  omega
theorem ixN_last {xs : List V} {v : V} : ixN (xs ++ [v]).length (-1) = some xs.length := by
  rw [List.length_append]
  exact ixN_end
theorem set_last {α : Type} {xs : List α} {v w : α} : (xs ++ [v]).set xs.length w = xs ++ [w] := by
  rw [List.set_append_right _ _ (Nat.le_refl _), Nat.sub_self]
  rfl
theorem pow10 {n : Nat} : (10 : Int) ^ ((n : Nat) : Int).toNat = 10 ^ n := by rw [Int.toNat_natCast]
theorem _root_.L2.SqL.same_ {K : PySem.W.Frag} {H H' : Hp} {a : Addr} {xs : List V} (h : SqL K H a xs) (e : Same H H') : SqL K H' a xs :=
  h.elim (fun h => .inl (h.elim (fun h => .inl (e _ _ h)) fun ⟨o, h⟩ => .inr ⟨o, e _ _ h⟩)) fun h => .inr h
end Cr
namespace Cr
open PySem PySem.Spec PyProof.Rows L2 He
/-! ### dicts by their keys -/
theorem putK_new {kvs : List (Key × V)} {k : Key} {v : V} (ks : List Key) (h : (ks.any fun x => decide (x = k)) = false) (e : kvs.map (·.1) = ks := by rfl) : putK kvs k v = kvs ++ [(k, v)] := by
  unfold putK
  have : (kvs.any fun kv => decide (kv.1 = k)) = (ks.any fun x => decide (x = k)) := by rw [← e, List.any_map]; rfl
  rw [this, h, if_neg Bool.false_ne_true]
def ixK : List Key → Key → Option Nat
  | [], _ => none
  | k :: ks, f => if k = f then some 0 else (ixK ks f).map (· + 1)
theorem valV_ix (f : Key) : ∀ kvs : List (Key × V), valV kvs f = (ixK (kvs.map (·.1)) f).bind fun i => kvs[i]?.map (·.2)
  | [] => rfl
  | (k, v) :: kvs => by
    have ih := valV_ix f kvs
    show _ = (if k = f then some 0 else (ixK (kvs.map (·.1)) f).map (· + 1)).bind _
    by_cases e : k = f
    · rw [valV_pos e, if_pos e]
      rfl
    · rw [valV_neg e, if_neg e, ih]
      cases ixK (kvs.map (·.1)) f with
      | none => rfl
      | some i => rfl
def runKs : List Key := [.inr "net", .inr "put", .inr "sender", .inr "worker", .inr "states", .inr "words", .inr "heard", .inr "events"]
section
variable {H0 H H' : Hp} {nv v : V} {A : LT → Addr} {G G' : LT → HO} {N : Nt} {R R' : Run} {hn hn' : Nat → Nat} {S S2 : Addr → Prop} {w n m c : Nat}
theorem runD_get {f : Str} {x : V} (i : Nat) (h : ixK runKs (.inr f) = some i) (hv : (runD nv A)[i]?.map (·.2) = some x := by rfl) : valV (runD nv A) (.inr f) = some x := by
  rw [valV_ix]
  show (ixK runKs (.inr f)).bind _ = _
  rw [h]
  exact hv
theorem LRunAt.get (P : LRunAt H nv A G N R hn) {f : Str} {x : V} (i : Nat) (h : ixK runKs (.inr f) = some i) (hv : (runD nv A)[i]?.map (·.2) = some x := by rfl) : DGet H (A .d) (.str f) (some x) := by
  rw [← runD_get i h hv]
  show DGet H (A .d) (kV (.inr f)) _
  exact DGet.k (P.lay.at' (t := LT.d) trivial P.d)
theorem LRunAt.g_net (P : LRunAt H nv A G N R hn) : DGet H (A .d) (.str "net") (some nv) := P.get 0 (by decide +kernel)
theorem LRunAt.g_put (P : LRunAt H nv A G N R hn) : DGet H (A .d) (.str "put") (some (.ref (A .put))) := P.get 1 (by decide +kernel)
theorem LRunAt.g_snd (P : LRunAt H nv A G N R hn) : DGet H (A .d) (.str "sender") (some (.ref (A .snd))) := P.get 2 (by decide +kernel)
theorem LRunAt.g_wk (P : LRunAt H nv A G N R hn) : DGet H (A .d) (.str "worker") (some (.ref (A .wk))) := P.get 3 (by decide +kernel)
theorem LRunAt.g_sts (P : LRunAt H nv A G N R hn) : DGet H (A .d) (.str "states") (some (.ref (A .sts))) := P.get 4 (by decide +kernel)
theorem LRunAt.g_wds (P : LRunAt H nv A G N R hn) : DGet H (A .d) (.str "words") (some (.ref (A .wds))) := P.get 5 (by decide +kernel)
theorem LRunAt.g_hrd (P : LRunAt H nv A G N R hn) : DGet H (A .d) (.str "heard") (some (.ref (A .hrd))) := P.get 6 (by decide +kernel)
theorem LRunAt.g_evs (P : LRunAt H nv A G N R hn) : DGet H (A .d) (.str "events") (some (.ref (A .evs))) := P.get 7 (by decide +kernel)
theorem LRunAt.a_put (P : LRunAt H nv A G N R hn) : H (A .put) = some (.lst ((List.range N.ws.length).map fun i => .ref (A (.p i)))) := P.lay.at' (t := LT.put) trivial P.put
theorem LRunAt.a_snd (P : LRunAt H nv A G N R hn) : H (A .snd) = some (.lst ((List.range N.ws.length).map fun i => .ref (A (.s i)))) := P.lay.at' (t := LT.snd) trivial P.snd
theorem LRunAt.a_wk (P : LRunAt H nv A G N R hn) : H (A .wk) = some (.lst ((List.range N.ws.length).map fun i => .ref (A (.k i)))) := P.lay.at' (t := LT.wk) trivial P.wk
theorem LRunAt.a_sts (P : LRunAt H nv A G N R hn) : H (A .sts) = some (.lst ((List.range N.ms.length).map fun i => .ref (A (.tM i)))) := P.lay.at' (t := LT.sts) trivial P.sts
theorem LRunAt.a_wds (P : LRunAt H nv A G N R hn) : H (A .wds) = some (.lst ((List.range N.ms.length).map fun i => .ref (A (.oM i)))) := P.lay.at' (t := LT.wds) trivial P.wds
theorem LRunAt.a_hrd (P : LRunAt H nv A G N R hn) : H (A .hrd) = some (.lst ((List.range N.ms.length).map fun i => .ref (A (.hM i)))) := P.lay.at' (t := LT.hrd) trivial P.hrd
theorem LRunAt.a_p (P : LRunAt H nv A G N R hn) (h : w < N.ws.length) : H (A (.p w)) = some (.lst ((R.put w).map V.int)) := P.lay.at' (t := LT.p w) h (P.p w h)
theorem LRunAt.a_oM (P : LRunAt H nv A G N R hn) (h : m < N.ms.length) : H (A (.oM m)) = some (.lst ((List.range (R.cnt m + 1)).map fun c => .ref (A (.oC m c)))) := P.lay.at' (t := LT.oM m) h (P.oM m h)
theorem LRunAt.a_hM (P : LRunAt H nv A G N R hn) (h : m < N.ms.length) : H (A (.hM m)) = some (.lst ((List.range (hn m)).map fun c => .ref (A (.hC m c)))) := P.lay.at' (t := LT.hM m) h (P.hM m h)
theorem LRunAt.a_s (P : LRunAt H nv A G N R hn) (h : w < N.ws.length) : ∃ vs, H (A (.s w)) = some (.lst vs) ∧ Paired (IsSn H) vs (R.snd w) := let ⟨vs, e, p⟩ := P.s w h; ⟨vs, P.lay.at' (t := LT.s w) h e, p⟩
theorem LRunAt.a_k (P : LRunAt H nv A G N R hn) (h : w < N.ws.length) : ∃ vs, H (A (.k w)) = some (.dK vs) ∧ Paired (IsKv H) vs (R.wk w) := let ⟨vs, e, p⟩ := P.k w h; ⟨vs, P.lay.at' (t := LT.k w) h e, p⟩
theorem LRunAt.a_tM (P : LRunAt H nv A G N R hn) (h : m < N.ms.length) : ∃ vs, H (A (.tM m)) = some (.lst vs) ∧ Paired (IsSta H) vs (R.sts m) := let ⟨vs, e, p⟩ := P.tM m h; ⟨vs, P.lay.at' (t := LT.tM m) h e, p⟩
theorem LRunAt.a_evs (P : LRunAt H nv A G N R hn) : ∃ vs, H (A .evs) = some (.lst vs) ∧ Paired (IsPk H) vs R.evs := let ⟨vs, e, p⟩ := P.evs; ⟨vs, P.lay.at' (t := LT.evs) trivial e, p⟩
theorem LRunAt.a_oC (P : LRunAt H nv A G N R hn) (h : m < N.ms.length) (hc : c ≤ R.cnt m) : H (A (.oC m c)) = some (.lst (((R.wds m).take c).flatten.map V.int)) := P.lay.at' (t := LT.oC m c) ⟨h, hc⟩ (P.oC m c h hc)
theorem LRunAt.a_hC (P : LRunAt H nv A G N R hn) (h : m < N.ms.length) (hc : c < hn m) : ∃ r : List Int, H (A (.hC m c)) = some (.lst (r.map V.int)) ∧ r.length = N.ms.length ∧ ∀ j, 0 ≤ r.getD j 0 ∧ r.getD j 0 ≤ hn j :=
  let ⟨r, e, p⟩ := P.hC m c h hc; ⟨r, P.lay.at' (t := LT.hC m c) ⟨h, hc⟩ e, p⟩
/-! ### a way's dict of works -/
theorem kv_val {kvs : List (Key × V)} {l : List (Nat × (Nat × Nat))} (h : Paired (IsKv H) kvs l) (n : Nat) : match l.lookup n with
    | some e => ∃ v, valV kvs (.inl (n : Nat)) = some v ∧ IsPk H v e
    | none => valV kvs (.inl (n : Nat)) = none := by
  induction h with
  | nil => exact rfl
  | @cons kv e kvs l h t ih =>
    obtain ⟨k, x⟩ := e
    obtain ⟨h1, h2⟩ := h
    rw [List.lookup_cons]
    by_cases q : n = k
    · subst q
      rw [beq_self_eq_true]
      exact ⟨kv.2, valV_pos h1, h2⟩
    · rw [show (n == k) = false from by simpa using q]
      have : ¬ kv.1 = .inl ((n : Nat) : Int) := fun z => q (by rw [h1] at z; have := Sum.inl.inj z; omega)
      rw [valV_neg this]
      exact ih
theorem kv_put {kvs : List (Key × V)} {l : List (Nat × (Nat × Nat))} (h : Paired (IsKv H) kvs l) {n : Nat} (hn : l.lookup n = none) {v : V} : putK kvs (.inl (n : Nat)) v = kvs ++ [(.inl (n : Nat), v)] := by
  unfold putK
  have key : (kvs.any fun kv => decide (kv.1 = .inl ((n : Nat) : Int))) = false := by
    induction h with
    | nil => rfl
    | @cons kv e kvs l h t ih =>
      obtain ⟨k, x⟩ := e
      rw [List.lookup_cons] at hn
      have q : ¬ n = k := fun z => by rw [z, beq_self_eq_true] at hn; cases hn
      rw [show (n == k) = false from by simpa using q] at hn
      rw [List.any_cons, ih hn, Bool.or_false]
      exact decide_eq_false (fun z => q (by rw [h.1] at z; have := Sum.inl.inj z; omega))
  rw [key, if_neg Bool.false_ne_true]
/-! ### a run's small steps -/
structure LRel (H : Hp) (A : LT → Addr) (G : LT → HO) (N : Nt) (R : Run) (hn : Nat → Nat) : Prop where
  evs : ∃ vs, G .evs = .lst vs ∧ Paired (IsPk H) vs R.evs
  p : ∀ w, w < N.ws.length → G (.p w) = .lst ((R.put w).map V.int)
  s : ∀ w, w < N.ws.length → ∃ vs, G (.s w) = .lst vs ∧ Paired (IsSn H) vs (R.snd w)
  k : ∀ w, w < N.ws.length → ∃ vs, G (.k w) = .dK vs ∧ Paired (IsKv H) vs (R.wk w)
  tM : ∀ m, m < N.ms.length → ∃ vs, G (.tM m) = .lst vs ∧ Paired (IsSta H) vs (R.sts m)
  oM : ∀ m, m < N.ms.length → G (.oM m) = .lst ((List.range (R.cnt m + 1)).map fun c => .ref (A (.oC m c)))
  hM : ∀ m, m < N.ms.length → G (.hM m) = .lst ((List.range (hn m)).map fun c => .ref (A (.hC m c)))
  oC : ∀ m c, m < N.ms.length → c ≤ R.cnt m → G (.oC m c) = .lst (((R.wds m).take c).flatten.map V.int)
  hC : ∀ m c, m < N.ms.length → c < hn m → ∃ r : List Int, G (.hC m c) = .lst (r.map V.int) ∧ r.length = N.ms.length ∧ ∀ j, 0 ≤ r.getD j 0 ∧ r.getD j 0 ≤ hn j
theorem LRunAt.rel (P : LRunAt H nv A G N R hn) : LRel H A G N R hn := ⟨P.evs, P.p, P.s, P.k, P.tM, P.oM, P.hM, P.oC, P.hC⟩
theorem LRel.tk (P : LRel H A G N R hn) (t : Tk H H') : LRel H' A G N R hn :=
  ⟨let ⟨vs, q, r⟩ := P.evs; ⟨vs, q, r.cimp fun _ _ z => z.tk t⟩, P.p, fun w h => let ⟨vs, q, r⟩ := P.s w h; ⟨vs, q, r.cimp fun _ _ z => z.tk t⟩,
    fun w h => let ⟨vs, q, r⟩ := P.k w h; ⟨vs, q, r.cimp fun _ _ z => z.tk t⟩, fun w h => let ⟨vs, q, r⟩ := P.tM w h; ⟨vs, q, r.cimp fun _ _ z => z.tk t⟩, P.oM, P.hM, P.oC, P.hC⟩
theorem LRunAt.step (P : LRunAt H nv A G N R hn) {A' : LT → Addr} (L : Lay (LT.ok N R'.cnt hn') A' G' H') (ea : ∀ x, LT.ok N (fun _ => 0) (fun _ => 0) x → A' x = A x) (eg : ∀ x, x ∈ [LT.d, .put, .snd, .wk, .sts, .wds, .hrd] → G' x = G x) (rel : LRel H' A' G' N R' hn') : LRunAt H' nv A' G' N R' hn' := by
  have eA : runD nv A' = runD nv A := by
    unfold runD
    rw [ea .put trivial, ea .snd trivial, ea .wk trivial, ea .sts trivial, ea .wds trivial, ea .hrd trivial, ea .evs trivial]
  have em : ∀ (n : Nat) (f : Nat → LT), (∀ i, i < n → A' (f i) = A (f i)) → (List.range n).map (fun i => V.ref (A' (f i))) = (List.range n).map fun i => V.ref (A (f i)) := fun n f h =>
    List.map_congr_left fun i hi => by rw [h i (List.mem_range.mp hi)]
  refine ⟨L, ?_, ?_, ?_, ?_, ?_, ?_, ?_, rel.evs, rel.p, rel.s, rel.k, rel.tM, rel.oM, rel.hM, rel.oC, rel.hC⟩
  · rw [eg .d (by simp), P.d, eA]
  · rw [eg .put (by simp), P.put, em _ LT.p fun i hi => ea _ hi]
  · rw [eg .snd (by simp), P.snd, em _ LT.s fun i hi => ea _ hi]
  · rw [eg .wk (by simp), P.wk, em _ LT.k fun i hi => ea _ hi]
  · rw [eg .sts (by simp), P.sts, em _ LT.tM fun i hi => ea _ hi]
  · rw [eg .wds (by simp), P.wds, em _ LT.oM fun i hi => ea _ hi]
  · rw [eg .hrd (by simp), P.hrd, em _ LT.hM fun i hi => ea _ hi]
/-- a letter -/
theorem LRunAt.put1 (P : LRunAt H nv A G N R hn) (hw : w < N.ws.length) {x : Int} :
    ∃ G', LRunAt (upd H (A (.p w)) (.lst ((R.put w).map V.int ++ [.int x]))) nv A G' N { R with put := fun v => if v = w then R.put v ++ [x] else R.put v } hn ∧ Fr (Lf (LT.ok N R.cnt hn) A) H (upd H (A (.p w)) (.lst ((R.put w).map V.int ++ [.int x]))) := by
  have L := P.lay.put (x := LT.p w) (o := .lst ((R.put w).map V.int ++ [.int x])) hw lst_nt
  have F := P.lay.frp (x := LT.p w) (o := .lst ((R.put w).map V.int ++ [.int x])) hw
  have T := P.rel.tk F.tk
  refine ⟨_, P.step L (fun _ _ => rfl) (fun y hy => setG_ne (by rintro rfl; simp at hy)) ⟨T.evs, fun v hv => ?_, T.s, T.k, T.tM, T.oM, T.hM, T.oC, T.hC⟩, F⟩
  show _ = HO.lst ((if v = w then R.put v ++ [x] else R.put v).map V.int)
  by_cases e : v = w
  · subst e
    simp only [setG, LT.p.injEq, if_true, List.map_append, List.map_cons, List.map_nil]
  · simp only [setG, LT.p.injEq, if_false, e]
    exact T.p v hv
theorem LRunAt.snd1 (P : LRunAt H nv A G N R hn) (hw : w < N.ws.length) {e : Option (Nat × Nat)} {ev : V} (he : IsSn H ev e) {ss : List V} (hs : H (A (.s w)) = some (.lst ss)) :
    ∃ G', LRunAt (upd H (A (.s w)) (.lst (ss ++ [ev]))) nv A G' N { R with snd := fun v => if v = w then R.snd v ++ [e] else R.snd v } hn ∧ Fr (Lf (LT.ok N R.cnt hn) A) H (upd H (A (.s w)) (.lst (ss ++ [ev]))) := by
  have L := P.lay.put (x := LT.s w) (o := .lst (ss ++ [ev])) hw lst_nt
  have F := P.lay.frp (x := LT.s w) (o := .lst (ss ++ [ev])) hw
  have T := P.rel.tk F.tk
  obtain ⟨ss', es, ps⟩ := P.s w hw
  have e1 : ss' = ss := by have := P.lay.at_ (.s w) hw; rw [es, hs] at this; exact (HO.lst.inj (Option.some.inj this)).symm
  subst e1
  refine ⟨_, P.step L (fun _ _ => rfl) (fun y hy => setG_ne (by rintro rfl; simp at hy)) ⟨T.evs, T.p, fun v hv => ?_, T.k, T.tM, T.oM, T.hM, T.oC, T.hC⟩, F⟩
  show ∃ vs, _ ∧ Paired _ vs (if v = w then R.snd v ++ [_] else R.snd v)
  by_cases q : v = w
  · subst q
    simp only [setG, LT.s.injEq, if_true]
    exact ⟨_, rfl, (ps.cimp fun _ _ z => z.tk F.tk).csnoc2 (he.tk F.tk)⟩
  · simp only [setG, LT.s.injEq, if_false, q]
    exact T.s v hv
theorem LRunAt.workd (P : LRunAt H nv A G N R hn) (hw : w < N.ws.length) {e : Nat × Nat} {ev : V} (he : IsPk H ev e) (hb : R.worker w n = none) {ks : List (Key × V)} (hk : H (A (.k w)) = some (.dK ks)) :
    ∃ G', LRunAt (upd H (A (.k w)) (.dK (putK ks (.inl (n : Nat)) ev))) nv A G' N (R.workd w n e) hn ∧ Fr (Lf (LT.ok N R.cnt hn) A) H (upd H (A (.k w)) (.dK (putK ks (.inl (n : Nat)) ev))) := by
  have L := P.lay.put (x := LT.k w) (o := .dK (putK ks (.inl (n : Nat)) ev)) hw dK_nt
  have F := P.lay.frp (x := LT.k w) (o := .dK (putK ks (.inl (n : Nat)) ev)) hw
  have T := P.rel.tk F.tk
  obtain ⟨ks', es, ps⟩ := P.k w hw
  have e1 : ks' = ks := by have := P.lay.at_ (.k w) hw; rw [es, hk] at this; exact (HO.dK.inj (Option.some.inj this)).symm
  subst e1
  refine ⟨_, P.step L (fun _ _ => rfl) (fun y hy => setG_ne (by rintro rfl; simp at hy)) ⟨T.evs, T.p, T.s, fun v hv => ?_, T.tM, T.oM, T.hM, T.oC, T.hC⟩, F⟩
  show ∃ vs, _ ∧ Paired _ vs (if v = w then R.wk v ++ [_] else R.wk v)
  by_cases q : v = w
  · subst q
    simp only [setG, LT.k.injEq, if_true]
    refine ⟨_, rfl, ?_⟩
    have ek := kv_put (v := ev) ps hb
    rw [ek] at F ⊢
    exact (ps.cimp fun _ _ z => IsKv.tk z F.tk).csnoc2 (show IsKv _ (.inl (n : Nat), ev) (n, e) from ⟨rfl, he.tk F.tk⟩)
  · simp only [setG, LT.k.injEq, if_false, q]
    exact T.k v hv
theorem LRunAt.statd (P : LRunAt H nv A G N R hn) (hm : m < N.ms.length) {s : Sta} {sv : V} (he : IsSta H sv s) {ks : List V} (hk : H (A (.tM m)) = some (.lst ks)) :
    ∃ G', LRunAt (upd H (A (.tM m)) (.lst (ks ++ [sv]))) nv A G' N (R.statd m s) hn ∧ Fr (Lf (LT.ok N R.cnt hn) A) H (upd H (A (.tM m)) (.lst (ks ++ [sv]))) := by
  have L := P.lay.put (x := LT.tM m) (o := .lst (ks ++ [sv])) hm lst_nt
  have F := P.lay.frp (x := LT.tM m) (o := .lst (ks ++ [sv])) hm
  have T := P.rel.tk F.tk
  obtain ⟨ks', es, ps⟩ := P.tM m hm
  have e1 : ks' = ks := by have := P.lay.at_ (.tM m) hm; rw [es, hk] at this; exact (HO.lst.inj (Option.some.inj this)).symm
  subst e1
  refine ⟨_, P.step L (fun _ _ => rfl) (fun y hy => setG_ne (by rintro rfl; simp at hy)) ⟨T.evs, T.p, T.s, T.k, fun v hv => ?_, T.oM, T.hM, T.oC, T.hC⟩, F⟩
  show ∃ vs, _ ∧ Paired _ vs (if v = m then R.sts v ++ [_] else R.sts v)
  by_cases q : v = m
  · subst q
    simp only [setG, LT.tM.injEq, if_true]
    exact ⟨_, rfl, (ps.cimp fun _ _ z => z.tk F.tk).csnoc2 (he.tk F.tk)⟩
  · simp only [setG, LT.tM.injEq, if_false, q]
    exact T.tM v hv
theorem LRunAt.evd (P : LRunAt H nv A G N R hn) {e : Nat × Nat} {ev : V} (he : IsPk H ev e) {ks : List V} (hk : H (A .evs) = some (.lst ks)) :
    ∃ G', LRunAt (upd H (A .evs) (.lst (ks ++ [ev]))) nv A G' N (R.evd e) hn ∧ Fr (Lf (LT.ok N R.cnt hn) A) H (upd H (A .evs) (.lst (ks ++ [ev]))) := by
  have L := P.lay.put (x := LT.evs) (o := .lst (ks ++ [ev])) trivial lst_nt
  have F := P.lay.frp (x := LT.evs) (o := .lst (ks ++ [ev])) trivial
  have T := P.rel.tk F.tk
  obtain ⟨ks', es, ps⟩ := P.evs
  have e1 : ks' = ks := by have := P.lay.at_ .evs trivial; rw [es, hk] at this; exact (HO.lst.inj (Option.some.inj this)).symm
  subst e1
  exact ⟨_, P.step L (fun _ _ => rfl) (fun y hy => setG_ne (by rintro rfl; simp at hy)) ⟨⟨_, rfl, (ps.cimp fun _ _ z => z.tk F.tk).csnoc2 (he.tk F.tk)⟩, T.p, T.s, T.k, T.tM, T.oM, T.hM, T.oC, T.hC⟩, F⟩
theorem take_cum {l : List (List Int)} {s : List Int} {c : Nat} (h : c ≤ l.length) : ((l ++ [s]).take c).flatten = (l.take c).flatten := by rw [List.take_append_of_le_length h]
/-- the words: a new list x, at the end of all that was said -/
theorem LRunAt.wordd (P : LRunAt H nv A G N R hn) (hm : m < N.ms.length) {s : List Int} {x : Addr} (hx : H x = some (.lst (((R.wds m).flatten ++ s).map V.int))) (nx : ∀ y, LT.ok N R.cnt hn y → A y ≠ x) :
    ∃ A' G', (∀ y, LT.ok N R.cnt hn y → A' y = A y) ∧ A' (.oC m (R.cnt m + 1)) = x ∧ (∀ b, Lf (LT.ok N (R.wordd m s).cnt hn) A' b → Lf (LT.ok N R.cnt hn) A b ∨ b = x) ∧
      LRunAt (upd H (A (.oM m)) (.lst ((List.range (R.cnt m + 1)).map (fun c => V.ref (A (.oC m c))) ++ [.ref x]))) nv A' G' N (R.wordd m s) hn ∧ Fr (Lf (LT.ok N R.cnt hn) A) H (upd H (A (.oM m)) (.lst ((List.range (R.cnt m + 1)).map (fun c => V.ref (A (.oC m c))) ++ [.ref x]))) := by
  have ec : ∀ v, (R.wordd m s).cnt v = if v = m then R.cnt v + 1 else R.cnt v := fun v => by
    unfold Run.cnt
    show (if v = m then R.wds v ++ [s] else R.wds v).length = _
    split
    · rw [List.length_append]; rfl
    · rfl
  have hok : ∀ y, LT.ok N (R.wordd m s).cnt hn y → LT.ok N R.cnt hn y ∨ y = .oC m (R.cnt m + 1) := fun y hy => by
    cases y with
    | oC v c =>
      obtain ⟨h1, h2⟩ := hy
      rw [ec] at h2
      split at h2
      · rename_i e
        subst e
        by_cases q : c = R.cnt v + 1
        · exact .inr (by rw [q])
        · exact .inl ⟨h1, by omega⟩
      · exact .inl ⟨h1, h2⟩
    | _ => exact .inl hy
  have hnew : ¬ LT.ok N R.cnt hn (.oC m (R.cnt m + 1)) := fun z => by have := z.2; omega
  have L1 := P.lay.addP (ok' := LT.ok N (R.wordd m s).cnt hn) (x := LT.oC m (R.cnt m + 1)) hx nx lst_nt hok
  have L2 := L1.put (x := LT.oM m) (o := .lst ((List.range (R.cnt m + 1)).map (fun c => V.ref (A (.oC m c))) ++ [.ref x])) hm lst_nt
  have eo : setG A (.oC m (R.cnt m + 1)) x (.oM m) = A (.oM m) := setG_ne (by intro z; cases z)
  rw [eo] at L2
  have F := P.lay.frp (x := LT.oM m) (o := .lst ((List.range (R.cnt m + 1)).map (fun c => V.ref (A (.oC m c))) ++ [.ref x])) hm
  have T := P.rel.tk F.tk
  have keep : ∀ y, LT.ok N R.cnt hn y → setG A (.oC m (R.cnt m + 1)) x y = A y := fun y hy => setG_ne (by rintro rfl; exact hnew hy)
  have inS : ∀ b, Lf (LT.ok N (R.wordd m s).cnt hn) (setG A (.oC m (R.cnt m + 1)) x) b → Lf (LT.ok N R.cnt hn) A b ∨ b = x := by
    rintro b ⟨y, hy, rfl⟩
    rcases hok y hy with h | h
    · exact .inl ⟨y, h, (keep y h).symm⟩
    · exact .inr (by rw [h, setG_same])
  refine ⟨_, _, keep, setG_same, inS, P.step L2 (fun y hy => keep y ?_) (fun y hy => ?_) ⟨T.evs, T.p, T.s, T.k, T.tM, fun v hv => ?_, T.hM, fun v c hv hc => ?_, fun v c hv hc => ?_⟩, F⟩
  · cases y with
    | oC v c => exact ⟨hy.1, by have : c ≤ 0 := hy.2; omega⟩
    | hC v c => exact absurd hy.2 (Nat.not_lt_zero _)
    | _ => exact hy
  · rw [setG_ne (by rintro rfl; simp at hy), setG_ne (by rintro rfl; simp at hy)]
  · rw [ec]
    by_cases q : v = m
    · subst q
      rw [if_pos rfl, setG_same, rm_s (i := R.cnt v + 1), setG_same]
      congr 2
      refine List.map_congr_left fun c hc => ?_
      rw [setG_ne (fun z => by have := List.mem_range.mp hc; cases z; omega)]
    · rw [if_neg q, setG_ne (by intro z; cases z; exact q rfl), setG_ne (by intro z; cases z), T.oM v hv]
      congr 1
      refine List.map_congr_left fun c hc => ?_
      rw [setG_ne (fun z => by cases z; exact q rfl)]
  · show _ = HO.lst ((((if v = m then R.wds v ++ [s] else R.wds v).take c).flatten).map V.int)
    rw [ec] at hc
    rw [setG_ne (by intro z; cases z)]
    by_cases q : v = m
    · subst q
      rw [if_pos rfl] at hc ⊢
      by_cases q2 : c = R.cnt v + 1
      · subst q2
        rw [setG_same, List.take_of_length_le (by rw [List.length_append]; exact Nat.le_refl _), List.flatten_append]
        simp
      · rw [setG_ne (by intro z; cases z; exact q2 rfl), T.oC v c hv (by omega), take_cum (by show c ≤ R.cnt v; omega)]
    · rw [if_neg q] at hc ⊢
      rw [setG_ne (by intro z; cases z; exact q rfl), T.oC v c hv hc]
  · rw [setG_ne (by intro z; cases z), setG_ne (by intro z; cases z)]
    exact T.hC v c hv hc
/-- a row of what was heard: a new list x -/
theorem LRunAt.heardd (P : LRunAt H nv A G N R hn) (hm : m < N.ms.length) {r : List Int} {x : Addr} (hx : H x = some (.lst (r.map V.int))) (nx : ∀ y, LT.ok N R.cnt hn y → A y ≠ x) (lr : r.length = N.ms.length) (br : ∀ j, 0 ≤ r.getD j 0 ∧ r.getD j 0 ≤ ((if j = m then hn j + 1 else hn j : Nat) : Int)) :
    ∃ A' G', (∀ y, LT.ok N R.cnt hn y → A' y = A y) ∧ A' (.hC m (hn m)) = x ∧ (∀ b, Lf (LT.ok N R.cnt (fun v => if v = m then hn v + 1 else hn v)) A' b → Lf (LT.ok N R.cnt hn) A b ∨ b = x) ∧
      LRunAt (upd H (A (.hM m)) (.lst ((List.range (hn m)).map (fun c => V.ref (A (.hC m c))) ++ [.ref x]))) nv A' G' N R (fun v => if v = m then hn v + 1 else hn v) ∧ Fr (Lf (LT.ok N R.cnt hn) A) H (upd H (A (.hM m)) (.lst ((List.range (hn m)).map (fun c => V.ref (A (.hC m c))) ++ [.ref x]))) := by
  have hok : ∀ y, LT.ok N R.cnt (fun v => if v = m then hn v + 1 else hn v) y → LT.ok N R.cnt hn y ∨ y = .hC m (hn m) := fun y hy => by
    cases y with
    | hC v c =>
      obtain ⟨h1, h2⟩ := hy
      dsimp only at h2
      by_cases e : v = m
      · subst e
        rw [if_pos rfl] at h2
        by_cases q : c = hn v
        · exact .inr (by rw [q])
        · exact .inl ⟨h1, by omega⟩
      · rw [if_neg e] at h2
        exact .inl ⟨h1, h2⟩
    | _ => exact .inl hy
  have hnew : ¬ LT.ok N R.cnt hn (.hC m (hn m)) := fun z => by have := z.2; omega
  have L1 := P.lay.addP (ok' := LT.ok N R.cnt (fun v => if v = m then hn v + 1 else hn v)) (x := LT.hC m (hn m)) hx nx lst_nt hok
  have L2 := L1.put (x := LT.hM m) (o := .lst ((List.range (hn m)).map (fun c => V.ref (A (.hC m c))) ++ [.ref x])) hm lst_nt
  have eo : setG A (.hC m (hn m)) x (.hM m) = A (.hM m) := setG_ne (by intro z; cases z)
  rw [eo] at L2
  have F := P.lay.frp (x := LT.hM m) (o := .lst ((List.range (hn m)).map (fun c => V.ref (A (.hC m c))) ++ [.ref x])) hm
  have T := P.rel.tk F.tk
  have keep : ∀ y, LT.ok N R.cnt hn y → setG A (.hC m (hn m)) x y = A y := fun y hy => setG_ne (by rintro rfl; exact hnew hy)
  have inS : ∀ b, Lf (LT.ok N R.cnt (fun v => if v = m then hn v + 1 else hn v)) (setG A (.hC m (hn m)) x) b → Lf (LT.ok N R.cnt hn) A b ∨ b = x := by
    rintro b ⟨y, hy, rfl⟩
    rcases hok y hy with h | h
    · exact .inl ⟨y, h, (keep y h).symm⟩
    · exact .inr (by rw [h, setG_same])
  refine ⟨_, _, keep, setG_same, inS, P.step L2 (fun y hy => keep y ?_) (fun y hy => ?_) ⟨T.evs, T.p, T.s, T.k, T.tM, fun v hv => ?_, fun v hv => ?_, fun v c hv hc => ?_, fun v c hv hc => ?_⟩, F⟩
  · cases y with
    | oC v c => exact ⟨hy.1, by have : c ≤ 0 := hy.2; omega⟩
    | hC v c => exact absurd hy.2 (Nat.not_lt_zero _)
    | _ => exact hy
  · rw [setG_ne (by rintro rfl; simp at hy), setG_ne (by rintro rfl; simp at hy)]
  · rw [setG_ne (by intro z; cases z), setG_ne (by intro z; cases z), T.oM v hv]
    congr 1
  · by_cases q : v = m
    · subst q
      rw [if_pos rfl, setG_same, rm_s (i := hn v), setG_same]
      congr 2
      refine List.map_congr_left fun c hc => ?_
      rw [setG_ne (fun z => by have := List.mem_range.mp hc; cases z; omega)]
    · rw [if_neg q, setG_ne (by intro z; cases z; exact q rfl), setG_ne (by intro z; cases z), T.hM v hv]
      congr 1
      refine List.map_congr_left fun c hc => ?_
      rw [setG_ne (fun z => by cases z; exact q rfl)]
  · rw [setG_ne (by intro z; cases z), setG_ne (by intro z; cases z), T.oC v c hv hc]
  · rw [setG_ne (by intro z; cases z)]
    by_cases q : v = m ∧ c = hn m
    · obtain ⟨rfl, rfl⟩ := q
      rw [setG_same]
      exact ⟨r, rfl, lr, br⟩
    · rw [setG_ne (by intro z; cases z; exact q ⟨rfl, rfl⟩)]
      have up : ∀ {c}, c < hn v → ∃ r : List Int, G (.hC v c) = .lst (r.map V.int) ∧ r.length = N.ms.length ∧ ∀ j, 0 ≤ r.getD j 0 ∧ r.getD j 0 ≤ ((if j = m then hn j + 1 else hn j : Nat) : Int) := fun {c} h => by
        obtain ⟨r, e, l, b⟩ := T.hC v c hv h
        refine ⟨r, e, l, fun j => ⟨(b j).1, Int.le_trans (b j).2 ?_⟩⟩
        split <;> omega
      refine up ?_
      by_cases e : v = m
      · subst e
        rw [if_pos rfl] at hc
        have : c ≠ hn v := fun z => q ⟨rfl, z⟩
        omega
      · rw [if_neg e] at hc
        exact hc
/-- a row stored again -/
theorem LRunAt.hset (P : LRunAt H nv A G N R hn) (hm : m < N.ms.length) (hc : c < hn m) {r : List Int} (lr : r.length = N.ms.length) (br : ∀ j, 0 ≤ r.getD j 0 ∧ r.getD j 0 ≤ hn j) :
    ∃ G', LRunAt (upd H (A (.hC m c)) (.lst (r.map V.int))) nv A G' N R hn ∧ Fr (Lf (LT.ok N R.cnt hn) A) H (upd H (A (.hC m c)) (.lst (r.map V.int))) := by
  have ho : LT.ok N R.cnt hn (.hC m c) := ⟨hm, hc⟩
  have L := P.lay.put (x := LT.hC m c) (o := .lst (r.map V.int)) ho lst_nt
  have F := P.lay.frp (x := LT.hC m c) (o := .lst (r.map V.int)) ho
  have T := P.rel.tk F.tk
  refine ⟨_, P.step L (fun _ _ => rfl) (fun y hy => setG_ne (by rintro rfl; simp at hy)) ⟨T.evs, T.p, T.s, T.k, T.tM, T.oM, T.hM, T.oC, fun v d hv hd => ?_⟩, F⟩
  by_cases q : v = m ∧ d = c
  · obtain ⟨rfl, rfl⟩ := q
    rw [setG_same]
    exact ⟨r, rfl, lr, br⟩
  · rw [setG_ne (by intro z; cases z; exact q ⟨rfl, rfl⟩)]
    exact T.hC v d hv hd
end
end Cr
namespace Cr
open PySem PySem.Spec PyProof.Rows L2 He
/-! ### a comprehension that makes new objects, stage by stage -/
def St (ok : LT → Prop) (o : LT) (f f2 : Nat → LT) (n : Nat) : LT → Prop := fun y => ok y ∨ y = o ∨ ∃ j, j < n ∧ (y = f j ∨ y = f2 j)
abbrev CoT : Type := (LT → Addr) → (LT → HO) → Nat → Hp → Prop
structure Stg (ok : LT → Prop) (A0 : LT → Addr) (G0 : LT → HO) (H0 Hb : Hp) (D : Addr) (o : LT) (f f2 : Nat → LT) (C : CoT) (i : Nat) (A : LT → Addr) (G : LT → HO) (H' : Hp) : Prop where
  lay : Lay (St ok o f f2 i) A G H'
  s : Same H0 H'
  aD : A o = D
  gD : G o = .lst ((List.range i).map fun j => .ref (A (f j)))
  same : ∀ x, ok x → A x = A0 x ∧ G x = G0 x
  co : ∀ j, j < i → C A G j H'
  nw : ∀ x, St ok o f f2 i x → Hb (A x) = none
section
variable {ok : LT → Prop} {A0 A : LT → Addr} {G0 G : LT → HO} {H0 Hb H2 H3 : Hp} {D a a2 : Addr} {o : LT} {f f2 : Nat → LT} {C : CoT} {i : Nat} {c c2 : HO}
theorem Stg.zero (L0 : Lay ok A0 G0 H0) (nw0 : ∀ x, ok x → Hb (A0 x) = none) (sb : Same Hb H0) (hD : H0 D = none) (no : ¬ ok o) : Stg ok A0 G0 H0 Hb D o f f2 C 0 (setG A0 o D) (setG G0 o (.lst [])) (upd H0 D (.lst [])) := by
  have hok : ∀ y, St ok o f f2 0 y → ok y ∨ y = o := fun y hy => by
    rcases hy with h | h | ⟨j, h, _⟩
    · exact .inl h
    · exact .inr h
    · exact absurd h (Nat.not_lt_zero _)
  refine ⟨L0.add hD no lst_nt hok, Same.new_ hD, setG_same, by rw [setG_same]; rfl, fun x hx => ?_, fun j h => absurd h (Nat.not_lt_zero _), nw_set nw0 (sb.free hD) hok⟩
  have : x ≠ o := fun z => no (z ▸ hx)
  exact ⟨setG_ne this, setG_ne this⟩
/-- what C asks: it looks at its own objects alone -/
def CoOk (C : CoT) (f f2 : Nat → LT) : Prop := ∀ A G A' G' j H H', C A G j H → A' (f j) = A (f j) → A' (f2 j) = A (f2 j) → G' (f j) = G (f j) → G' (f2 j) = G (f2 j) → Tk H H' → C A' G' j H'
theorem Stg.one (S : Stg ok A0 G0 H0 Hb D o f f C i A G H2) (sb : Same Hb H0) (hD : H0 D = none) (s : Same H2 H3) (na : H2 a = none) (e : H3 a = some c) (nt : ∀ ys, c ≠ .tup ys) (nof : ¬ ok (f i)) (noo : ¬ ok o) (inj : ∀ j k, f j = f k → j = k) (fo : ∀ j, f j ≠ o) (kC : CoOk C f f)
    (hC : ∀ A G H, A (f i) = a → G (f i) = c → Tk H3 H → C A G i H) :
    ∃ acc, H3 D = some (.lst acc) ∧ acc.length = i ∧ ∃ A' G', Stg ok A0 G0 H0 Hb D o f f C (i + 1) A' G' (upd H3 D (.lst (acc ++ [.ref a]))) := by
  have hok : ∀ y, St ok o f f (i + 1) y → St ok o f f i y ∨ y = f i := fun y hy => by
    rcases hy with h | h | ⟨j, h, q⟩
    · exact .inl (.inl h)
    · exact .inl (.inr (.inl h))
    · by_cases ej : j = i
      · subst ej; exact .inr (q.elim id id)
      · exact .inl (.inr (.inr ⟨j, by omega, q⟩))
  obtain ⟨hacc, L'⟩ := S.lay.grow (x := f i) (ok' := St ok o f f (i + 1)) (t := o) s na e (.inr (.inl rfl)) (fo i).symm S.gD nt hok (.inr (.inl rfl))
  rw [S.aD] at hacc L'
  have tF := (Fr.put (S := (· = D)) (o := .lst ((List.range i).map (fun j => V.ref (A (f j))) ++ [.ref a])) rfl (not_tup_lst hacc)).tk
  refine ⟨_, hacc, rm_len, _, _, L', (S.s.trans s).putN hD, by rw [setG_ne (fo i).symm]; exact S.aD, ?_, fun x hx => ?_, fun j hj => ?_, nw_set S.nw (sb.free (S.s.free na)) hok⟩
  · rw [setG_same, rm_s, setG_same]
    congr 2
    refine List.map_congr_left fun j hj => ?_
    rw [setG_ne (fun z => by have := inj _ _ z; have := List.mem_range.mp hj; omega)]
  · have n1 : x ≠ o := fun z => noo (z ▸ hx)
    have n2 : x ≠ f i := fun z => nof (z ▸ hx)
    rw [setG_ne n2, setG_ne n1, setG_ne n2]
    exact S.same x hx
  · by_cases ej : j = i
    · subst ej
      exact hC _ _ _ setG_same (by rw [setG_ne (fo j), setG_same]) tF
    · have nf : f j ≠ f i := fun z => ej (inj _ _ z)
      exact kC _ _ _ _ j _ _ (S.co j (by omega)) (setG_ne nf) (setG_ne nf) (by rw [setG_ne (fo j), setG_ne nf]) (by rw [setG_ne (fo j), setG_ne nf]) ((Same.tk_ s).trans tF)
theorem Stg.two (S : Stg ok A0 G0 H0 Hb D o f f2 C i A G H2) (sb : Same Hb H0) (hD : H0 D = none) (s : Same H2 H3) (na : H2 a = none) (e : H3 a = some c) (nt : ∀ ys, c ≠ .tup ys) (na2 : H2 a2 = none) (e2 : H3 a2 = some c2) (nt2 : ∀ ys, c2 ≠ .tup ys) (naa : a ≠ a2) (nof : ¬ ok (f i)) (nof2 : ¬ ok (f2 i)) (noo : ¬ ok o)
    (inj : ∀ j k, f j = f k → j = k) (inj2 : ∀ j k, f2 j = f2 k → j = k) (fo : ∀ j, f j ≠ o) (fo2 : ∀ j, f2 j ≠ o) (ff : ∀ j k, f j ≠ f2 k) (kC : CoOk C f f2)
    (hC : ∀ A G H, A (f i) = a → A (f2 i) = a2 → G (f i) = c → G (f2 i) = c2 → Tk H3 H → C A G i H) :
    ∃ acc, H3 D = some (.lst acc) ∧ acc.length = i ∧ ∃ A' G', Stg ok A0 G0 H0 Hb D o f f2 C (i + 1) A' G' (upd H3 D (.lst (acc ++ [.ref a]))) := by
  have hok2 : ∀ y, (St ok o f f2 i y ∨ y = f2 i) → St ok o f f2 i y ∨ y = f2 i := fun y hy => hy
  have hok : ∀ y, St ok o f f2 (i + 1) y → (St ok o f f2 i y ∨ y = f2 i) ∨ y = f i := fun y hy => by
    rcases hy with h | h | ⟨j, h, q⟩
    · exact .inl (.inl (.inl h))
    · exact .inl (.inl (.inr (.inl h)))
    · by_cases ej : j = i
      · subst ej; exact q.elim .inr fun z => .inl (.inr z)
      · exact .inl (.inl (.inr (.inr ⟨j, by omega, q⟩)))
  have L3 := S.lay.keep s
  have hacc := L3.at' (t := o) (.inr (.inl rfl)) S.gD
  have L4 := L3.addP (ok' := fun y => St ok o f f2 i y ∨ y = f2 i) (x := f2 i) e2 (fun y hy => ne_of_none (S.lay.at_ y hy) na2) nt2 hok2
  have L5 := L4.addP (ok' := St ok o f f2 (i + 1)) (x := f i) e (fun y hy => by
    rcases hy with hy | rfl
    · by_cases q : y = f2 i
      · rw [q, setG_same]; exact naa.symm
      · rw [setG_ne q]; exact ne_of_none (S.lay.at_ y hy) na
    · rw [setG_same]; exact naa.symm) nt hok
  have L' := L5.put (x := o) (o := .lst ((List.range i).map (fun j => V.ref (A (f j))) ++ [.ref a])) (.inr (.inl rfl)) lst_nt
  have eo : setG (setG A (f2 i) a2) (f i) a o = D := by rw [setG_ne (fo i).symm, setG_ne (fo2 i).symm]; exact S.aD
  rw [eo] at L'
  rw [S.aD] at hacc
  have tF := (Fr.put (S := (· = D)) (o := .lst ((List.range i).map (fun j => V.ref (A (f j))) ++ [.ref a])) rfl (not_tup_lst hacc)).tk
  refine ⟨_, hacc, rm_len, _, _, L', (S.s.trans s).putN hD, eo, ?_, fun x hx => ?_, fun j hj => ?_, nw_set (nw_set S.nw (sb.free (S.s.free na2)) hok2) (sb.free (S.s.free na)) hok⟩
  · rw [setG_same, rm_s, setG_same]
    congr 2
    refine List.map_congr_left fun j hj => ?_
    rw [setG_ne (fun z => by have := inj _ _ z; have := List.mem_range.mp hj; omega), setG_ne (ff j i)]
  · have n1 : x ≠ o := fun z => noo (z ▸ hx)
    have n2 : x ≠ f i := fun z => nof (z ▸ hx)
    have n3 : x ≠ f2 i := fun z => nof2 (z ▸ hx)
    rw [setG_ne n2, setG_ne n3, setG_ne n1, setG_ne n2, setG_ne n3]
    exact S.same x hx
  · by_cases ej : j = i
    · subst ej
      exact hC _ _ _ setG_same (by rw [setG_ne (ff j j).symm, setG_same]) (by rw [setG_ne (fo j), setG_same]) (by rw [setG_ne (fo2 j), setG_ne (ff j j).symm, setG_same]) tF
    · have nf : f j ≠ f i := fun z => ej (inj _ _ z)
      have nf2 : f2 j ≠ f2 i := fun z => ej (inj2 _ _ z)
      exact kC _ _ _ _ j _ _ (S.co j (by omega)) (by rw [setG_ne nf, setG_ne (ff j i)]) (by rw [setG_ne (ff i j).symm, setG_ne nf2]) (by rw [setG_ne (fo j), setG_ne nf, setG_ne (ff j i)]) (by rw [setG_ne (fo2 j), setG_ne (ff i j).symm, setG_ne nf2]) ((Same.tk_ s).trans tF)
end
theorem pe_cx {X : Cx} {k j : Nat} {x : Str} {sp : Sp} {p pos : Pos} {e : Expr} {es : List Expr} {t : TA} (c : CalX X.prog X.w X.K X.mg X.base k x sp) (hr : Room j X.A) (hk : k ≤ j) (hg : Gl X x) (ha : PA X (e :: es) t)
    (hdb : (x == ("__debug__" : Str)) = false := by decide) (he : starEach (e :: es) X.env = (false, eval e X.env) :: starEach es X.env := by rfl) (hpl : (backTo pos (starEach es X.env)).any (·.1) = false := by rfl) :
    PE X (.Call (.Name x p) (e :: es) [] pos) (tCall sp [] E0 t) := by
  obtain ⟨f, fd, ps, F, hm, kp, b⟩ := c.ex
  exact pe_call F (hr.mono hk) hg hm kp b .nil passL ha hdb he hpl
/-- isinstance(e, c), e an exception with a dict -/
def rIsE2 (K : PySem.W.Frag) (D a : Addr) (cls : Value) (d : Option Addr) : List V → Hp → VK → Prop := fun xs H Q => ∃ (c : V) (cv : Value) (b : Bool) (dd : Addr) (fs : List (Str × V)), xs = [.ref a, c] ∧ cls = .ref D ∧ d = some dd ∧ H dd = some (.xd fs) ∧ (∀ u, RelV c u → u = cv) ∧ PySem.W.kitOne K (.ref D) cv = some b ∧ Q (.bl b) H
theorem call_isE2 {X : Cx} {K : PySem.W.Frag} {a D : Addr} {oe : Obj} {cls : Value} {d : Option Addr} {pn : List (Addr × Obj)} (eK : X.K = K) (C : ExcC X.K D) (hz : Zc cls d oe) (hf : ∃ vs, oe.data = .fields vs) : CallR (X.suite a ((a, oe) :: pn)) (.builtin "isinstance") (rIsE2 K D a cls d) := by
  subst eK
  intro pins s σ H xs us Q I r h
  obtain ⟨c, cv, b, dd, fs, rfl, ec, ed, ea, hcv, e, q⟩ := h
  subst ec ed
  cases r with
  | cons rx rr =>
    cases rr with
    | cons rt rr =>
      cases rr
      cases rx
      have ec := hcv _ rt
      subst ec
      obtain ⟨ha, _⟩ := I.pin (a, oe) (List.mem_append_left _ List.mem_cons_self)
      obtain ⟨vs, hd⟩ := hf
      have hx : ObjOk X.prog X.w H s.heap dd (.xd fs) := I.hok dd _ ea
      obtain ⟨mA, hns, hr⟩ := hx
      obtain ⟨od, ho, hl⟩ := lookIn_ns hns
      have J : PySem.W.InstAt s.heap a oe D (some od) := ⟨ha, hz.1, by unfold PySem.W.notCls; rw [hd] <;> rfl, by rw [hz.2]; exact ho⟩
      have hcl : (PySem.W.clsIn X.K D).isSome = true := by obtain ⟨cd, hc, _⟩ := PySem.W.any_some C.hd; rw [hc]; rfl
      exact PySem.W.kia_one (PySem.W.kitx_exc hcl C.hg C.hk C.hs C.ha C.hn C.ht C.hm) I.kIn J e (fun z => nomatch z) fun tk => ⟨.bl b, H, I.kept (t' := tk) fun _ _ z => z, rfl, q⟩
/-- contents of a fixed kind -/
def coIs (f : Nat → LT) (c : HO) : CoT := fun _ G j _ => G (f j) = c
theorem coIs_ok {f : Nat → LT} {c : HO} : CoOk (coIs f c) f f := fun A G A' G' j H H' h _ _ e _ _ => e.trans h
def coSta (N : Nt) : CoT := fun _ G j H => ∃ v, G (.tM j) = .lst [v] ∧ IsSta H v ((N.mch j).ns, (N.mch j).row)
theorem coSta_ok {N : Nt} : CoOk (coSta N) LT.tM LT.tM := fun A G A' G' j H H' h _ _ e _ t => let ⟨v, a, b⟩ := h; ⟨v, e.trans a, b.tk t⟩
def coWds : CoT := fun A G j _ => G (.oM j) = .lst [.ref (A (.oC j 0))] ∧ G (.oC j 0) = .lst []
theorem coWds_ok : CoOk coWds LT.oM fun j => LT.oC j 0 := fun A G A' G' j H H' h _ e2 e3 e4 _ => ⟨by rw [e3, e2]; exact h.1, e4.trans h.2⟩
section
variable {K : PySem.W.Frag}
theorem call_tuple_ofK {X : Cx} (e : X.K = K) : CallR X (.type "tuple") (fun xs H Q => ∃ p ys, xs = [.ref p] ∧ ((SqL K H p ys ∧ ∀ l, H l = none → Q (.ref l) (upd H l (.tup ys))) ∨ (SqT K H p ys ∧ Q (.ref p) H))) := e ▸ call_tuple_of
theorem call_list_ofK {X : Cx} (e : X.K = K) : CallR X (.type "list") (fun xs H Q => ∃ p ys, xs = [.ref p] ∧ (SqL K H p ys ∨ SqT K H p ys) ∧ ∀ l, H l = none → Q (.ref l) (upd H l (.lst ys))) := e ▸ call_list_of
end
end Cr
namespace Cr
open PySem PySem.Spec PyProof.Rows L2 He
theorem sc_Lat : FnScope ["_law_script", "_law_k"] ["_law_script", "_law_k"] (defScope s_Lat) := ⟨rfl, rfl, rfl, by decide +kernel, rfl, by decide +kernel, by decide +kernel⟩
def sp_Lat (K : PySem.W.Frag) : Sp := fun vs H Q _ => ∃ (a : Addr) (ns : List Int) (k : Nat), vs = [.ref a, .int (k : Nat)] ∧ SqL K H a (ns.map V.int) ∧ ∀ z : Int, Q (.int z) H
theorem ok_Lat {P : Program} {w : World} {K : PySem.W.Frag} {mg : Str → Option Value} {base : Heap} (T : Txt K mg) : Cal P w K mg base 1 "_law_at" (sp_Lat K) := by
  refine Cal.mk0 T.g_Lat T.D_Lat sc_Lat (fun _ _ _ _ _ _ us hl => match us, hl with | [_, _], _ => rfl) (fun vs H Q E h => ?_) (fun cdv A outer s H vs Q E hr h => ?_)
  · obtain ⟨a, ns, k, rfl, _⟩ := h
    rfl
  · obtain ⟨a, ns, k, rfl, ha, q⟩ := h
    refine ⟨_, (pss_cons (ps_if (pt_cmpR op_lt (pv 1) (pe_callB call_len_seq (by rfl) T.f_len (by decide +kernel) (pa_cons (pv 0) pa_nil)) (nomark _)) (pss_one (ps_ret (pe_ix ix_list (pv 0) (pv 1) (fun _ _ => rfl)))) pss_nil)
      (pss_one (ps_ret pe_int))), ?_⟩
    refine ⟨_, rfl, _, rfl, a, _, rfl, .inl ha, _, _, rfl, rfl, _, rfl, ite2D (fun hl => ?_) (fun hl => ?_)⟩
    · rw [List.length_map] at hl
      exact ⟨_, rfl, _, rfl, a, _, _, _, rfl, rfl, ha, atI_nat (ints_get (nt_get (show k < ns.length by omega) 0)), q _⟩
    · exact q 0
end Cr
namespace Cr
open PySem PySem.Spec PyProof.Rows L2 He
theorem sc_Ldigit : FnScope ["_law_pot_here", "_law_many", "_law_digit_here"] ["_law_pot_here", "_law_many"] (defScope s_Ldigit) := ⟨rfl, rfl, rfl, by decide +kernel, rfl, by decide +kernel, by decide +kernel⟩
def sp_Ldigit (K : PySem.W.Frag) : Sp := fun vs H Q _ => ∃ (p : Addr) (many : Int), vs = [.ref p, .int many] ∧ IsPot H p ∧ CDivW 0 many ∧ ∀ H' v, 0 ≤ v → v < many → Fr (· = p) H H' → IsPot H' p → Q (.int v) H'
theorem ok_Ldigit {P : Program} {w : World} {K : PySem.W.Frag} {mg : Str → Option Value} {base : Heap} (T : Txt K mg) : Cal P w K mg base 1 "_law_digit" (sp_Ldigit K) := by
  refine Cal.mk0 T.g_Ldigit T.D_Ldigit sc_Ldigit (fun _ _ _ _ _ _ us hl => match us, hl with | [_, _], _ => rfl) (fun vs H Q E h => ?_) (fun cdv A outer s H vs Q E hr h => ?_)
  · obtain ⟨p, many, rfl, _⟩ := h
    rfl
  · obtain ⟨p, many, rfl, ⟨ms, z, hp, l1⟩, hm, k⟩ := h
    obtain ⟨h0, hm2⟩ := id hm
    have hne : many ≠ 0 := by omega
    have v0 : 0 ≤ z % many := Int.emod_nonneg _ hne
    have v1 : z % many < many := Int.emod_lt_of_pos _ h0
    refine ⟨_, (pss_cons (ps_set (i := 2) sc_Ldigit.nd rfl (Or.inl rfl) (pe_op op_mod (pe_ix ix_list (pv 0) (pe_un un_neg pe_int) (fun _ _ => rfl)) (pv 1)))
      (pss_cons (ps_asg (pe_op op_fdivW (pe_ix ix_list (pv 0) (pe_un un_neg pe_int) (fun _ _ => rfl)) (pv 1)) (pg_sub (pv 0) (pe_un un_neg pe_int) set_list))
      (pss_cons (ps_if (PW.pt (pw_and (pt_cmpR op_eq (pe_ix ix_list (pv 0) (pe_un un_neg pe_int) (fun _ _ => rfl)) pe_int (nomark _)) (pw_and1 (pt_cmpR op_gt (pe_callB call_len_seq (by rfl) T.f_len (by decide +kernel) (pa_cons (pv 0) pa_nil)) pe_int (nomark _))))) (pss_one (ps_expr (pe_bm0 PySem.F.plainAttrs_list PySem.F.slot_list_pop PySem.F.type_list_pop mt_pop (pv 0)))) pss_nil)
      (pss_one (ps_ret (pv 2)))))), ?_⟩
    refine ⟨_, rfl, _, rfl, p, _, _, _, rfl, rfl, SqL.of hp, atI_last _ _, _, rfl, _, _, rfl, rfl, h0, ?_⟩
    refine ⟨_, rfl, _, rfl, p, _, _, _, rfl, rfl, SqL.of hp, atI_last _ _, _, rfl, _, _, rfl, rfl, hm, _, rfl, _, rfl, p, _, _, _, rfl, rfl, hp, ixN_last, ?_⟩
    rw [set_last]
    have F1 := Fr.put (S := (· = p)) (o := .lst (ms.map V.int ++ [.int (z / many)])) rfl (not_tup_lst hp)
    have hp1 : upd H p (.lst (ms.map V.int ++ [.int (z / many)])) p = some (.lst (ms.map V.int ++ [.int (z / many)])) := upd_same
    have keep := k _ (z % many) v0 v1 F1 ⟨ms, z / many, hp1, l1⟩
    refine ⟨_, rfl, _, rfl, p, _, _, _, rfl, rfl, SqL.of hp1, atI_last _ _, rfl, _, rfl, ite2D (fun e => ?_) (fun e => ?_)⟩
    · refine ⟨_, rfl, p, _, rfl, .inl (SqL.of hp1), _, _, rfl, rfl, _, rfl, ite2D (fun e2 => ?_) (fun e2 => ?_)⟩
      · cases ms with
        | nil => exact absurd e2 (by simp)
        | cons y ms =>
          have : ms = [] := List.eq_nil_of_length_eq_zero (by have : ms.length + 1 ≤ 1 := l1; omega)
          subst this
          refine ⟨_, rfl, .inl ⟨rfl, _, SqL.of hp1⟩, p, _, .int (z / many), rfl, rfl, hp1, rfl, ?_⟩
          have F2 := Fr.put (S := (· = p)) (o := .lst ([V.int y])) rfl (not_tup_lst hp1)
          exact ⟨_, rfl, k _ (z % many) v0 v1 (F1.trans F2) ⟨[], y, upd_same, Nat.zero_le _⟩⟩
      · exact ⟨_, rfl, keep⟩
    · exact ⟨_, rfl, keep⟩
end Cr
namespace Cr
open PySem PySem.Spec PyProof.Rows L2 He
theorem sc_Lvalue : FnScope ["_law_pot_here", "_law_many", "_law_kind"] ["_law_pot_here", "_law_many"] (defScope s_Lvalue) := ⟨rfl, rfl, rfl, by decide +kernel, rfl, by decide +kernel, by decide +kernel⟩
def Vl.okI (x : Vl) (many : Int) : Prop := ∀ m : Nat, many = (m : Nat) → x.ok m
def sp_Lvalue (K : PySem.W.Frag) : Sp := fun vs H Q _ => ∃ (p : Addr) (m : Nat), vs = [.ref p, .int (m : Nat)] ∧ IsPot H p ∧ 0 < m ∧ m ≤ 1000 ∧ ∀ H' v x, Fr (· = p) H H' → IsPot H' p → IsVl H' v x → x.ok m → Q v H'
theorem ok_Lvalue {P : Program} {w : World} {K : PySem.W.Frag} {mg : Str → Option Value} {base : Heap} (T : Txt K mg) : Cal P w K mg base 2 "_law_value" (sp_Lvalue K) := by
  have G_Ldigit := ok_Ldigit (P := P) (w := w) (base := base) T
  refine Cal.mk0 T.g_Lvalue T.D_Lvalue sc_Lvalue (fun _ _ _ _ _ _ us hl => match us, hl with | [_, _], _ => rfl) (fun vs H Q E h => ?_) (fun cdv A outer s H vs Q E hr h => ?_)
  · obtain ⟨p, m, rfl, _⟩ := h
    rfl
  · obtain ⟨p, m, rfl, hp, m0, m1, k⟩ := h
    refine ⟨_, (pss_cons (ps_set (i := 2) sc_Lvalue.nd rfl (Or.inl rfl) (pe_c G_Ldigit hr (by decide) (by rfl) (pa_cons (pv 0) (pa_cons pe_int pa_nil))))
      (pss_cons (ps_if (pt_cmpR op_lt (pv 2) pe_int (nomark _)) (pss_one (ps_ret (pe_tup (pa_cons pe_str (pa_cons (pe_ix ix_list (pe_lst (pa_cons (pe_op op_sub (pe_c G_Ldigit hr (by decide) (by rfl) (pa_cons (pv 0) (pa_cons pe_int pa_nil))) pe_int) (pa_cons (pe_op op_sub (pe_c G_Ldigit hr (by decide) (by rfl) (pa_cons (pv 0) (pa_cons (pe_op op_sub (pe_op op_mul pe_int (pe_op op_pow pe_int pe_int)) pe_int) pa_nil))) (pe_op op_sub (pe_op op_pow pe_int pe_int) pe_int)) pa_nil))) (pv 2) (fun _ _ => rfl)) pa_nil))))) pss_nil)
      (pss_cons (ps_if (pt_cmpR op_lt (pv 2) pe_int (nomark _)) (pss_one (ps_ret (pe_tup (pa_cons pe_str (pa_cons (pe_c G_Ldigit hr (by decide) (by rfl) (pa_cons (pv 0) (pa_cons (pv 1) pa_nil))) pa_nil))))) pss_nil)
      (pss_one (ps_ret (pe_ix ix_list (pe_lst (pa_cons (pe_tup (pa_cons pe_str pa_nil)) (pa_cons (pe_tup (pa_cons pe_str pa_nil)) (pa_cons (pe_tup (pa_cons pe_str pa_nil)) (pa_cons (pe_tup (pa_cons pe_str pa_nil)) pa_nil))))) (pe_op op_sub (pv 2) pe_int) (fun _ _ => rfl))))))), ?_⟩
    refine ⟨_, rfl, p, 8, rfl, hp, cdiv_small (by decide) (by decide +kernel), fun H1 kd k0 k1 F1 hp1 => ?_⟩
    refine ⟨_, rfl, _, _, rfl, rfl, _, rfl, ite2D (fun h2 => ?_) (fun h2 => ?_)⟩
    · refine ⟨_, rfl, p, 9, rfl, hp1, cdiv_small (by decide) (by decide +kernel), fun H2 a a0 a1 F2 hp2 => ⟨_, _, rfl, rfl, ?_⟩⟩
      refine ⟨_, rfl, _, _, rfl, rfl, ⟨by decide, by decide, by decide⟩, _, _, rfl, rfl, .inl ⟨by decide, by decide⟩, _, _, rfl, rfl, p, _, rfl, hp2, cdiv_small (by decide +kernel) (by decide +kernel), fun H3 b b0 b1 F3 hp3 => ?_⟩
      refine ⟨_, _, rfl, rfl, ⟨by decide, by decide, by decide⟩, _, _, rfl, rfl, _, _, rfl, rfl, line (by show 2 ≤ 16777216; decide), fun q hq => ?_⟩
      have key : ∀ c : Int, atI [V.int (a - 4), V.int (b - (10 ^ (60 : Int).toNat - 1))] kd = some (V.int c) → ∀ t, (upd H3 q (.lst [V.int (a - 4), V.int (b - (10 ^ (60 : Int).toNat - 1))])) t = none → Q (.ref t) (upd (upd H3 q (.lst [V.int (a - 4), V.int (b - (10 ^ (60 : Int).toNat - 1))])) t (.tup [.str "is", .int c])) := fun c _ t ht => by
        have sq := Same.new_ (o := .lst [V.int (a - 4), V.int (b - (10 ^ (60 : Int).toNat - 1))]) hq
        have st := sq.trans (Same.new_ (o := .tup [.str "is", .int c]) ht)
        exact k _ (.ref t) (.is c) (F1.trans (F2.trans (F3.trans (Fr.of st)))) (hp3.keep st) ⟨t, rfl, upd_same⟩ trivial
      have hk : kd = 0 ∨ kd = 1 := by omega
      rcases hk with rfl | rfl
      · exact ⟨_, rfl, q, _, _, _, rfl, rfl, SqL.of upd_same, rfl, line (by show 2 ≤ 16777216; decide), key _ rfl⟩
      · exact ⟨_, rfl, q, _, _, _, rfl, rfl, SqL.of upd_same, rfl, line (by show 2 ≤ 16777216; decide), key _ rfl⟩
    · refine ⟨_, rfl, _, _, rfl, rfl, _, rfl, ite2D (fun h4 => ?_) (fun h4 => ?_)⟩
      · refine ⟨_, rfl, _, rfl, p, _, rfl, hp1, cdiv_small (by omega) (by omega), fun H2 a a0 a1 F2 hp2 => ?_⟩
        refine ⟨line (by show 2 ≤ 16777216; decide), fun t ht => ?_⟩
        have st := Same.new_ (o := .tup [.str "number", .int a]) ht
        have ea : (a.toNat : Int) = a := Int.toNat_of_nonneg a0
        exact k _ (.ref t) (.num a.toNat) (F1.trans (F2.trans (Fr.of st))) (hp2.keep st) ⟨t, rfl, by rw [ea]; exact upd_same⟩ (show a.toNat < m by omega)
      · refine ⟨line (by show 1 ≤ 16777216; decide), fun t1 h1 => ⟨line (by show 1 ≤ 16777216; decide), fun t2 h2' => ⟨line (by show 1 ≤ 16777216; decide), fun t3 h3 => ⟨line (by show 1 ≤ 16777216; decide), fun t4 h4' => ?_⟩⟩⟩⟩
        refine ⟨line (by show 4 ≤ 16777216; decide), fun q hq => ?_⟩
        have s1 := Same.new_ (o := .tup [.str "letter"]) h1
        have s2 := Same.new_ (o := .tup [.str "letter"]) h2'
        have s3 := Same.new_ (o := .tup [.str "way"]) h3
        have s4 := Same.new_ (o := .tup [.str "first"]) h4'
        have s5 := Same.new_ (o := .lst [.ref t1, .ref t2, .ref t3, .ref t4]) hq
        have sA := s1.trans (s2.trans (s3.trans (s4.trans s5)))
        refine ⟨_, rfl, _, _, rfl, rfl, ?_⟩
        have fin : ∀ t x, IsVl (upd (upd (upd (upd (upd H1 t1 (.tup [.str "letter"])) t2 (.tup [.str "letter"])) t3 (.tup [.str "way"])) t4 (.tup [.str "first"])) q (.lst [.ref t1, .ref t2, .ref t3, .ref t4])) (.ref t) x → x.ok m → Q (.ref t) (upd (upd (upd (upd (upd H1 t1 (.tup [.str "letter"])) t2 (.tup [.str "letter"])) t3 (.tup [.str "way"])) t4 (.tup [.str "first"])) q (.lst [.ref t1, .ref t2, .ref t3, .ref t4])) :=
          fun t x hx ho => k _ _ x (F1.trans (Fr.of sA)) (hp1.keep sA) hx ho
        have hk : kd = 4 ∨ kd = 5 ∨ kd = 6 ∨ kd = 7 := by omega
        rcases hk with rfl | rfl | rfl | rfl
        · exact ⟨q, _, _, .ref t1, rfl, rfl, SqL.of upd_same, rfl, fin t1 .letter ⟨t1, rfl, s5 _ _ (s4 _ _ (s3 _ _ (s2 _ _ upd_same)))⟩ trivial⟩
        · exact ⟨q, _, _, .ref t2, rfl, rfl, SqL.of upd_same, rfl, fin t2 .letter ⟨t2, rfl, s5 _ _ (s4 _ _ (s3 _ _ upd_same))⟩ trivial⟩
        · exact ⟨q, _, _, .ref t3, rfl, rfl, SqL.of upd_same, rfl, fin t3 .way ⟨t3, rfl, s5 _ _ (s4 _ _ upd_same)⟩ trivial⟩
        · exact ⟨q, _, _, .ref t4, rfl, rfl, SqL.of upd_same, rfl, fin t4 .first ⟨t4, rfl, s5 _ _ upd_same⟩ trivial⟩
end Cr
namespace Cr
open PySem PySem.Spec PyProof.Rows L2 He
theorem sc_Ldeed : FnScope ["_law_pot_here", "_law_many", "_law_kind"] ["_law_pot_here", "_law_many"] (defScope s_Ldeed) := ⟨rfl, rfl, rfl, by decide +kernel, rfl, by decide +kernel, by decide +kernel⟩
def sp_Ldeed (K : PySem.W.Frag) : Sp := fun vs H Q _ => ∃ (p : Addr) (m : Nat), vs = [.ref p, .int (m : Nat)] ∧ IsPot H p ∧ 0 < m ∧ m ≤ 1000 ∧ ∀ H' v d, Fr (· = p) H H' → IsPot H' p → IsDd H' v d → d.ok m → Q v H'
theorem ok_Ldeed {P : Program} {w : World} {K : PySem.W.Frag} {mg : Str → Option Value} {base : Heap} (T : Txt K mg) : Cal P w K mg base 3 "_law_deed" (sp_Ldeed K) := by
  have G_Ldigit := ok_Ldigit (P := P) (w := w) (base := base) T
  have G_Lvalue := ok_Lvalue (P := P) (w := w) (base := base) T
  refine Cal.mk0 T.g_Ldeed T.D_Ldeed sc_Ldeed (fun _ _ _ _ _ _ us hl => match us, hl with | [_, _], _ => rfl) (fun vs H Q E h => ?_) (fun cdv A outer s H vs Q E hr h => ?_)
  · obtain ⟨p, m, rfl, _⟩ := h
    rfl
  · obtain ⟨p, m, rfl, hp, m0, m1, k⟩ := h
    refine ⟨_, (pss_cons (ps_set (i := 2) sc_Ldeed.nd rfl (Or.inl rfl) (pe_c G_Ldigit hr (by decide) (by rfl) (pa_cons (pv 0) (pa_cons pe_int pa_nil))))
      (pss_cons (ps_if (pt_cmpR op_lt (pv 2) pe_int (nomark _)) (pss_one (ps_ret (pe_tup (pa_cons (pe_ix ix_list (pe_lst (pa_cons pe_str (pa_cons pe_str (pa_cons pe_str pa_nil)))) (pv 2) (fun _ _ => rfl)) (pa_cons (pe_c G_Ldigit hr (by decide) (by rfl) (pa_cons (pv 0) (pa_cons (pv 1) pa_nil))) (pa_cons (pe_c G_Lvalue hr (by decide) (by rfl) (pa_cons (pv 0) (pa_cons (pv 1) pa_nil))) pa_nil)))))) pss_nil)
      (pss_cons (ps_if (pt_cmpR op_lt (pv 2) pe_int (nomark _)) (pss_one (ps_ret (pe_tup (pa_cons pe_str (pa_cons (pe_c G_Ldigit hr (by decide) (by rfl) (pa_cons (pv 0) (pa_cons pe_int pa_nil))) (pa_cons (pe_c G_Lvalue hr (by decide) (by rfl) (pa_cons (pv 0) (pa_cons (pv 1) pa_nil))) pa_nil)))))) pss_nil)
      (pss_cons (ps_if (pt_cmpR op_eq (pv 2) pe_int (nomark _)) (pss_one (ps_ret (pe_tup (pa_cons pe_str (pa_cons (pe_c G_Lvalue hr (by decide) (by rfl) (pa_cons (pv 0) (pa_cons (pv 1) pa_nil))) pa_nil))))) pss_nil)
      (pss_cons (ps_if (pt_cmpR op_eq (pv 2) pe_int (nomark _)) (pss_one (ps_ret (pe_tup (pa_cons pe_str (pa_cons (pe_c G_Lvalue hr (by decide) (by rfl) (pa_cons (pv 0) (pa_cons (pv 1) pa_nil))) pa_nil))))) pss_nil)
      (pss_cons (ps_if (pt_cmpR op_eq (pv 2) pe_int (nomark _)) (pss_one (ps_ret (pe_tup (pa_cons pe_str pa_nil)))) pss_nil)
      (pss_one (ps_ret (pe_tup (pa_cons pe_str (pa_cons (pe_c G_Lvalue hr (by decide) (by rfl) (pa_cons (pv 0) (pa_cons (pv 1) pa_nil))) (pa_cons (pe_c G_Lvalue hr (by decide) (by rfl) (pa_cons (pv 0) (pa_cons (pv 1) pa_nil))) (pa_cons (pe_op op_add pe_int (pe_c G_Ldigit hr (by decide) (by rfl) (pa_cons (pv 0) (pa_cons pe_int pa_nil)))) pa_nil))))))))))))), ?_⟩
    refine ⟨_, rfl, p, 10, rfl, hp, cdiv_small (by decide) (by decide +kernel), fun H1 kd k0 k1 F1 hp1 => ?_⟩
    refine ⟨_, rfl, _, _, rfl, rfl, _, rfl, ite2D (fun h2 => ?_) (fun h2 => ?_)⟩
    · refine ⟨line (by show 3 ≤ 16777216; decide), fun q hq => ?_⟩
      have sq := Same.new_ (o := .lst [.str "set", .str "add", .str "times"]) hq
      have hk : kd = 0 ∨ kd = 1 ∨ kd = 2 := by omega
      rcases hk with rfl | rfl | rfl
      · refine ⟨_, rfl, q, _, _, .str "set", rfl, rfl, SqL.of upd_same, rfl, ?_⟩
        refine ⟨_, rfl, _, rfl, p, _, rfl, hp1.keep sq, cdiv_small (by omega) (by omega), fun H2 a a0 a1 F2 hp2 => ?_⟩
        refine ⟨_, rfl, _, rfl, p, m, rfl, hp2, m0, m1, fun H3 u x F3 hp3 hu hx => ⟨line (by show 3 ≤ 16777216; decide), fun t ht => ?_⟩⟩
        have st := Same.new_ (o := .tup [.str "set", .int a, u]) ht
        have ea : (a.toNat : Int) = a := Int.toNat_of_nonneg a0
        exact k _ (.ref t) (.set a.toNat x) (F1.trans ((Fr.of sq).trans (F2.trans (F3.trans (Fr.of st))))) (hp3.keep st) ⟨t, u, rfl, by rw [ea]; exact upd_same, hu.tk (Same.tk_ st)⟩ ⟨by omega, hx⟩
      · refine ⟨_, rfl, q, _, _, .str "add", rfl, rfl, SqL.of upd_same, rfl, ?_⟩
        refine ⟨_, rfl, _, rfl, p, _, rfl, hp1.keep sq, cdiv_small (by omega) (by omega), fun H2 a a0 a1 F2 hp2 => ?_⟩
        refine ⟨_, rfl, _, rfl, p, m, rfl, hp2, m0, m1, fun H3 u x F3 hp3 hu hx => ⟨line (by show 3 ≤ 16777216; decide), fun t ht => ?_⟩⟩
        have st := Same.new_ (o := .tup [.str "add", .int a, u]) ht
        have ea : (a.toNat : Int) = a := Int.toNat_of_nonneg a0
        exact k _ (.ref t) (.add a.toNat x) (F1.trans ((Fr.of sq).trans (F2.trans (F3.trans (Fr.of st))))) (hp3.keep st) ⟨t, u, rfl, by rw [ea]; exact upd_same, hu.tk (Same.tk_ st)⟩ ⟨by omega, hx⟩
      · refine ⟨_, rfl, q, _, _, .str "times", rfl, rfl, SqL.of upd_same, rfl, ?_⟩
        refine ⟨_, rfl, _, rfl, p, _, rfl, hp1.keep sq, cdiv_small (by omega) (by omega), fun H2 a a0 a1 F2 hp2 => ?_⟩
        refine ⟨_, rfl, _, rfl, p, m, rfl, hp2, m0, m1, fun H3 u x F3 hp3 hu hx => ⟨line (by show 3 ≤ 16777216; decide), fun t ht => ?_⟩⟩
        have st := Same.new_ (o := .tup [.str "times", .int a, u]) ht
        have ea : (a.toNat : Int) = a := Int.toNat_of_nonneg a0
        exact k _ (.ref t) (.times a.toNat x) (F1.trans ((Fr.of sq).trans (F2.trans (F3.trans (Fr.of st))))) (hp3.keep st) ⟨t, u, rfl, by rw [ea]; exact upd_same, hu.tk (Same.tk_ st)⟩ ⟨by omega, hx⟩
    refine ⟨_, rfl, _, _, rfl, rfl, _, rfl, ite2D (fun h3 => ?_) (fun h3 => ?_)⟩
    · refine ⟨_, rfl, p, _, rfl, hp1, cdiv_small (by decide) (by decide +kernel), fun H2 a a0 a1 F2 hp2 => ?_⟩
      refine ⟨_, rfl, _, rfl, p, m, rfl, hp2, m0, m1, fun H3 u x F3 hp3 hu hx => ⟨line (by show 3 ≤ 16777216; decide), fun t ht => ?_⟩⟩
      have st := Same.new_ (o := .tup [.str "send", .int a, u]) ht
      have ea : (a.toNat : Int) = a := Int.toNat_of_nonneg a0
      exact k _ (.ref t) (.send a.toNat x) (F1.trans (F2.trans (F3.trans (Fr.of st)))) (hp3.keep st) ⟨t, u, rfl, by rw [ea]; exact upd_same, hu.tk (Same.tk_ st)⟩ hx
    refine ⟨_, rfl, rfl, _, rfl, ite2D (fun h4 => ?_) (fun h4 => ?_)⟩
    · skip
      refine ⟨_, rfl, _, rfl, p, m, rfl, hp1, m0, m1, fun H2 u x F2 hp2 hu hx => ⟨line (by show 2 ≤ 16777216; decide), fun t ht => ?_⟩⟩
      have st := Same.new_ (o := .tup [.str "say", u]) ht
      exact k _ (.ref t) (.say x) (F1.trans (F2.trans (Fr.of st))) (hp2.keep st) ⟨t, u, rfl, upd_same, hu.tk (Same.tk_ st)⟩ hx
    refine ⟨_, rfl, rfl, _, rfl, ite2D (fun h5 => ?_) (fun h5 => ?_)⟩
    · skip
      refine ⟨_, rfl, _, rfl, p, m, rfl, hp1, m0, m1, fun H2 u x F2 hp2 hu hx => ⟨line (by show 2 ≤ 16777216; decide), fun t ht => ?_⟩⟩
      have st := Same.new_ (o := .tup [.str "put", u]) ht
      exact k _ (.ref t) (.put x) (F1.trans (F2.trans (Fr.of st))) (hp2.keep st) ⟨t, u, rfl, upd_same, hu.tk (Same.tk_ st)⟩ hx
    refine ⟨_, rfl, rfl, _, rfl, ite2D (fun h6 => ?_) (fun h6 => ?_)⟩
    · refine ⟨line (by show 1 ≤ 16777216; decide), fun t ht => ?_⟩
      have st := Same.new_ (o := .tup [.str "drop"]) ht
      exact k _ (.ref t) .drop (F1.trans (Fr.of st)) (hp1.keep st) ⟨t, rfl, upd_same⟩ trivial
    refine ⟨_, rfl, _, rfl, p, m, rfl, hp1, m0, m1, fun H2 u x F2 hp2 hu hx => ?_⟩
    refine ⟨_, rfl, _, rfl, p, m, rfl, hp2, m0, m1, fun H3 u' y F3 hp3 hu' hy => ?_⟩
    refine ⟨_, rfl, p, _, rfl, hp3, cdiv_small (by decide) (by decide +kernel), fun H4 a a0 a1 F4 hp4 => ⟨_, _, rfl, rfl, line (by show 4 ≤ 16777216; decide), fun t ht => ?_⟩⟩
    have st := Same.new_ (o := .tup [.str "skip", u, u', .int (1 + a)]) ht
    have ea : ((a.toNat + 1 : Nat) : Int) = 1 + a := by omega
    exact k _ (.ref t) (.skip x y (a.toNat + 1)) (F1.trans (F2.trans (F3.trans (F4.trans (Fr.of st))))) (hp4.keep st) ⟨t, u, u', rfl, by rw [ea]; exact upd_same, ((hu.tk F3.tk).tk F4.tk).tk (Same.tk_ st), (hu'.tk F4.tk).tk (Same.tk_ st)⟩ ⟨hx, hy, by omega, by omega⟩
end Cr
namespace Cr
open PySem PySem.Spec PyProof.Rows L2 He
theorem sc_Lmachine : FnScope ["_law_pot_here", "_law_modulus", "_law_many", "_law_numbers", "_law_row", "_law_deeds", "_law_k"] ["_law_pot_here"] (defScope s_Lmachine) := ⟨rfl, rfl, rfl, by decide +kernel, rfl, by decide +kernel, by decide +kernel⟩
def sp_Lmachine (K : PySem.W.Frag) : Sp := fun vs H Q _ => ∃ (p : Addr), vs = [.ref p] ∧ IsPot H p ∧ ∀ H' v M, Fr (· = p) H H' → IsLMchS (fun b => H b ≠ none) H' v M → M.ok → Q v H'
theorem ok_Lmachine {P : Program} {w : World} {K : PySem.W.Frag} {mg : Str → Option Value} {base : Heap} (T : Txt K mg) : Cal P w K mg base 4 "_law_machine" (sp_Lmachine K) := by
  have G_Ldigit := ok_Ldigit (P := P) (w := w) (base := base) T
  have G_Ldeed := ok_Ldeed (P := P) (w := w) (base := base) T
  refine Cal.mk0 T.g_Lmachine T.D_Lmachine sc_Lmachine (fun _ _ _ _ _ _ us hl => match us, hl with | [_], _ => rfl) (fun vs H Q E h => ?_) (fun cdv A outer s H vs Q E hr h => ?_)
  · obtain ⟨p, rfl, _⟩ := h
    rfl
  · obtain ⟨p, rfl, hp, k⟩ := h
    have e12 : (10 : Int) ^ (12 : Int).toNat = 1000000000000 := by decide +kernel
    refine ⟨_, (pss_cons (ps_set (i := 1) sc_Lmachine.nd rfl (Or.inr rfl) (pe_ix ix_list (pe_lst (pa_cons pe_int (pa_cons pe_int (pa_cons pe_int (pa_cons pe_int (pa_cons pe_int (pa_cons (pe_op op_add pe_int (pe_c G_Ldigit hr (by decide) (by rfl) (pa_cons (pv 0) (pa_cons (pe_op op_sub (pe_op op_pow pe_int pe_int) pe_int) pa_nil)))) pa_nil))))))) (pe_c G_Ldigit hr (by decide) (by rfl) (pa_cons (pv 0) (pa_cons pe_int pa_nil))) (fun _ _ => rfl)))
      (pss_cons (ps_set (i := 2) sc_Lmachine.nd rfl (Or.inr rfl) (pe_op op_add pe_int (pe_c G_Ldigit hr (by decide) (by rfl) (pa_cons (pv 0) (pa_cons pe_int pa_nil)))))
      (pss_cons (ps_setLc (i := 3) (own := [("_law_k", 6)]) rfl sc_Lmachine.nd rfl rfl (sw_true rfl rfl rfl (by decide +kernel)) (pi_range1 (by rfl) T.f_range (pa_cons (pv 2) pa_nil)) (blkOk_by (own := [("_law_k", 6)]) (N := ["_law_pot_here", "_law_modulus", "_law_many", "_law_numbers", "_law_row", "_law_deeds", "_law_k"]) (sc := defScope s_Lmachine) (by decide +kernel)) (fun _ _ _ _ _ => (pg_name (i := 6) sc_Lmachine.nd rfl (Or.inl rfl))) (fun _ _ _ _ _ => pts_nil) (fun _ _ _ _ _ => (pe_c G_Ldigit hr (by decide) (by rfl) (pa_cons (pv 0) (pa_cons (pv 1) pa_nil)))))
      (pss_cons (ps_setLc (i := 4) (own := [("_law_k", 6)]) rfl sc_Lmachine.nd rfl rfl (sw_true rfl rfl rfl (by decide +kernel)) (pi_range1 (by rfl) T.f_range (pa_cons (pe_c G_Ldigit hr (by decide) (by rfl) (pa_cons (pv 0) (pa_cons pe_int pa_nil))) pa_nil)) (blkOk_by (own := [("_law_k", 6)]) (N := ["_law_pot_here", "_law_modulus", "_law_many", "_law_numbers", "_law_row", "_law_deeds", "_law_k"]) (sc := defScope s_Lmachine) (by decide +kernel)) (fun _ _ _ _ _ => (pg_name (i := 6) sc_Lmachine.nd rfl (Or.inl rfl))) (fun _ _ _ _ _ => pts_nil) (fun _ _ _ _ _ => (pe_c G_Ldigit hr (by decide) (by rfl) (pa_cons (pv 0) (pa_cons (pv 1) pa_nil)))))
      (pss_cons (ps_setLc (i := 5) (own := [("_law_k", 6)]) rfl sc_Lmachine.nd rfl rfl (sw_true rfl rfl rfl (by decide +kernel)) (pi_range1 (by rfl) T.f_range (pa_cons (pe_c G_Ldigit hr (by decide) (by rfl) (pa_cons (pv 0) (pa_cons pe_int pa_nil))) pa_nil)) (blkOk_by (own := [("_law_k", 6)]) (N := ["_law_pot_here", "_law_modulus", "_law_many", "_law_numbers", "_law_row", "_law_deeds", "_law_k"]) (sc := defScope s_Lmachine) (by decide +kernel)) (fun _ _ _ _ _ => (pg_name (i := 6) sc_Lmachine.nd rfl (Or.inl rfl))) (fun _ _ _ _ _ => pts_nil) (fun _ _ _ _ _ => (pe_c G_Ldeed hr (by decide) (by rfl) (pa_cons (pv 0) (pa_cons (pv 2) pa_nil)))))
      (pss_one (ps_ret (pe_tup (pa_cons (pv 1) (pa_cons (pv 3) (pa_cons (pv 4) (pa_cons (pv 5) pa_nil)))))))))))), ?_⟩
    refine ⟨_, rfl, _, _, rfl, rfl, ⟨by decide, by decide, by decide⟩, _, _, rfl, rfl, p, _, rfl, hp, cdiv_small (by decide +kernel) (by decide +kernel), fun H1 a a0 a1 F1 hp1 => ⟨_, _, rfl, rfl, line (by show 6 ≤ 16777216; decide), fun q hq => ?_⟩⟩
    rw [e12] at a1
    have sq := Same.new_ (o := .lst [.int 2, .int 3, .int 7, .int 10, .int 97, .int (2 + a)]) hq
    have nqp : q ≠ p := fun z => hp1.ne (by rw [← z]; exact hq)
    refine ⟨_, rfl, p, 6, rfl, hp1.keep sq, cdiv_small (by decide) (by decide +kernel), fun H2 j j0 j1 F2 hp2 => ?_⟩
    have hmd : ∃ md : Int, atI [V.int 2, .int 3, .int 7, .int 10, .int 97, .int (2 + a)] j = some (V.int md) ∧ 2 ≤ md ∧ md ≤ 10 ^ 12 := by
      have hj : j = 0 ∨ j = 1 ∨ j = 2 ∨ j = 3 ∨ j = 4 ∨ j = 5 := by omega
      rcases hj with rfl | rfl | rfl | rfl | rfl | rfl
      · exact ⟨_, rfl, by omega, by omega⟩
      · exact ⟨_, rfl, by omega, by omega⟩
      · exact ⟨_, rfl, by omega, by omega⟩
      · exact ⟨_, rfl, by omega, by omega⟩
      · exact ⟨_, rfl, by omega, by omega⟩
      · exact ⟨_, rfl, by omega, by omega⟩
    obtain ⟨md, hat, md2, md12⟩ := hmd
    refine ⟨q, _, _, .int md, rfl, rfl, SqL.of (F2.at upd_same nqp), hat, ?_⟩
    replace F2 := F1.trans ((Fr.of sq).trans F2)
    have cmd : CDivW 0 md := cdiv_small (by omega) (by omega)
    refine ⟨_, rfl, p, 4, rfl, hp2, cdiv_small (by decide) (by decide +kernel), fun H3 b b0 b1 F3 hp3 => ⟨_, _, rfl, rfl, ?_⟩⟩
    replace F3 := F2.trans F3
    obtain ⟨b, rfl⟩ : ∃ n : Nat, b = n := ⟨b.toNat, by omega⟩
    obtain ⟨m, em⟩ : ∃ m, m = b + 1 := ⟨_, rfl⟩
    have hm4 : m ≤ 4 := by omega
    have hm1 : 1 ≤ m := by omega
    have eb : [V.int (1 + (b : Int))] = [V.int (m : Int)] := by rw [em]; exact one_add
    have eb2 : [V.ref p, V.int (1 + (b : Int))] = [V.ref p, V.int (m : Int)] := congrArg (List.cons (V.ref p)) eb
    -- the numbers
    refine ⟨_, rfl, _, eb, by omega, by omega, fun D hD => ?_⟩
    have nDp : D ≠ p := fun z => hp3.ne (by rw [← z]; exact hD)
    refine lc_it (n := m) walk_rngN (fun i H' => Fr (· = p) H3 H' ∧ IsPot H' p ∧ ∃ ns : List Int, H' D = some (.lst (ns.map V.int)) ∧ ns.length = i ∧ ∀ x ∈ ns, 0 ≤ x ∧ x < md) ⟨Fr.of (Same.new_ hD), hp3.keep (Same.new_ hD), [], upd_same, rfl, by simp⟩ (fun _ _ _ _ => trivial) ?_ ?_
    · rintro i x H4 H5 hi ⟨P1, P2, ns, h1, h2, h3⟩ ⟨rfl, rfl⟩
      refine ⟨rfl, ?_⟩
      refine ⟨_, rfl, _, rfl, p, md, rfl, P2, cmd, fun H6 v v0 v1 F6 hp6 => ?_⟩
      have hD6 := F6.at h1 nDp
      refine ⟨_, hD6, line' (by rw [List.length_map]; omega), (P1.trans F6).putN hD, ?_, ns ++ [v], by rw [upd_same, List.map_append] <;> rfl, by rw [List.length_append, h2] <;> rfl, mem_snoc_b h3 ⟨v0, v1⟩⟩
      obtain ⟨ms, z, e, l⟩ := hp6
      exact ⟨ms, z, by rw [upd_ne nDp.symm]; exact e, l⟩
    rintro H4 ⟨F4, hp4, ns, hns, lns, bns⟩
    -- the row
    refine ⟨_, rfl, p, 13, rfl, hp4, cdiv_small (by decide) (by decide +kernel), fun H5 r r0 r1 F5 hp5 => ?_⟩
    obtain ⟨rn, rfl⟩ : ∃ n : Nat, r = n := ⟨r.toNat, by omega⟩
    have hr12 : rn ≤ 12 := by omega
    have hns5 := F5.at hns nDp
    replace F5 := F3.trans (F4.trans F5)
    refine ⟨_, rfl, by omega, by omega, fun D2 hD2 => ?_⟩
    have nD2p : D2 ≠ p := fun z => hp5.ne (by rw [← z]; exact hD2)
    refine lc_it (n := rn) walk_rngN (fun i H' => Fr (· = p) H5 H' ∧ IsPot H' p ∧ ∃ ns : List Int, H' D2 = some (.lst (ns.map V.int)) ∧ ns.length = i ∧ ∀ x ∈ ns, 0 ≤ x ∧ x < md) ⟨Fr.of (Same.new_ hD2), hp5.keep (Same.new_ hD2), [], upd_same, rfl, by simp⟩ (fun _ _ _ _ => trivial) ?_ ?_
    · rintro i x H6 H6' hi ⟨P1, P2, ns, h1, h2, h3⟩ ⟨rfl, rfl⟩
      refine ⟨rfl, ?_⟩
      refine ⟨_, rfl, _, rfl, p, md, rfl, P2, cmd, fun H7 v v0 v1 F7 hp7 => ?_⟩
      have hD7 := F7.at h1 nD2p
      refine ⟨_, hD7, line' (by rw [List.length_map]; omega), (P1.trans F7).putN hD2, ?_, ns ++ [v], by rw [upd_same, List.map_append] <;> rfl, by rw [List.length_append, h2] <;> rfl, mem_snoc_b h3 ⟨v0, v1⟩⟩
      obtain ⟨ms, z, e, l⟩ := hp7
      exact ⟨ms, z, by rw [upd_ne nD2p.symm]; exact e, l⟩
    rintro H6 ⟨F6, hp6, rs, hrs, lrs, brs⟩
    have hns6 := F6.at hns5 nDp
    replace F6 := F5.trans F6
    -- the deeds
    refine ⟨_, rfl, p, 13, rfl, hp6, cdiv_small (by decide) (by decide +kernel), fun H7 r' r0' r1' F7 hp7 => ?_⟩
    obtain ⟨dn, rfl⟩ : ∃ n : Nat, r' = n := ⟨r'.toNat, by omega⟩
    have hr12' : dn ≤ 12 := by omega
    have hns7 := F7.at hns6 nDp
    have hrs7 := F7.at hrs nD2p
    replace F7 := F6.trans F7
    refine ⟨_, rfl, by omega, by omega, fun D3 hD3 => ?_⟩
    have nD3p : D3 ≠ p := fun z => hp7.ne (by rw [← z]; exact hD3)
    refine lc_it (n := dn) walk_rngN (fun i H' => Fr (· = p) H7 H' ∧ IsPot H' p ∧ ∃ (us : List V) (ds : List Dd), H' D3 = some (.lst us) ∧ Paired (IsDd H') us ds ∧ ds.length = i ∧ ∀ d ∈ ds, d.ok m) ⟨Fr.of (Same.new_ hD3), hp7.keep (Same.new_ hD3), [], [], upd_same, .nil, rfl, by simp⟩ (fun _ _ _ _ => trivial) ?_ ?_
    · rintro i x H8 H8' hi ⟨P1, P2, us, ds, h1, h2, h3, h4⟩ ⟨rfl, rfl⟩
      have lus := h2.length
      refine ⟨rfl, ?_⟩
      refine ⟨_, rfl, _, rfl, p, m, eb2, P2, by omega, by omega, fun H9 v d F9 hp9 hv hd => ?_⟩
      have hD9 := F9.at h1 nD3p
      have tF := (Fr.put (S := (· = D3)) (o := .lst (us ++ [v])) rfl (not_tup_lst hD9)).tk
      refine ⟨_, hD9, line' (by omega), (P1.trans F9).putN hD3, ?_, us ++ [v], ds ++ [d], upd_same, (h2.cimp fun _ _ z => z.tk (F9.tk.trans tF)).csnoc2 (hv.tk tF), by rw [List.length_append, h3] <;> rfl, fun y hy => ?_⟩
      · obtain ⟨ms, z, e, l⟩ := hp9
        exact ⟨ms, z, by rw [upd_ne nD3p.symm]; exact e, l⟩
      · rcases List.mem_append.mp hy with hy | hy
        · exact h4 y hy
        · rw [List.mem_singleton.mp hy]; exact hd
    rintro H8 ⟨F8, hp8, us, ds, hus, pus, lds, bds⟩
    have hns8 := F8.at hns7 nDp
    have hrs8 := F8.at hrs7 nD2p
    replace F8 := F7.trans F8
    refine ⟨_, rfl, _, rfl, _, rfl, _, rfl, line (by show 4 ≤ 16777216; decide), fun t ht => ?_⟩
    have st := Same.new_ (o := .tup [.int md, .ref D, .ref D2, .ref D3]) ht
    refine k _ (.ref t) ⟨md, ns, rs, ds⟩ (F8.trans (Fr.of st)) ⟨t, D, D2, D3, us, rfl, upd_same, ⟨st _ _ hns8, st _ _ hrs8, st _ _ hus, pus.cimp fun _ _ z => z.tk (Same.tk_ st)⟩, fun z => z (F3.none hD nDp), fun z => z (F5.none hD2 nD2p), fun z => z (F7.none hD3 nD3p)⟩ ⟨md2, md12, ?_, ?_, bns, ?_, brs, ?_, ?_⟩
    · show 1 ≤ ns.length; omega
    · show ns.length ≤ 4; omega
    · show rs.length ≤ 12; omega
    · show ds.length ≤ 12; omega
    · show ∀ d ∈ ds, d.ok ns.length
      rw [lns]; exact bds
end Cr
namespace Cr
open PySem PySem.Spec PyProof.Rows L2 He
theorem sc_Lpot : FnScope ["_law_cell", "_law_number", "_law_pot_here", "_law_k"] ["_law_cell"] (defScope s_Lpot) := ⟨rfl, rfl, rfl, by decide +kernel, rfl, by decide +kernel, by decide +kernel⟩
def sp_Lpot (K : PySem.W.Frag) : Sp := fun vs H Q _ => ∃ (c : Int), vs = [.int c] ∧ ∀ H' p, Same H H' → H p = none → IsPot H' p → Q (.ref p) H'
theorem ok_Lpot {P : Program} {w : World} {K : PySem.W.Frag} {mg : Str → Option Value} {base : Heap} (T : Txt K mg) : Cal P w K mg base 1 "_law_pot" (sp_Lpot K) := by
  refine Cal.mk0 T.g_Lpot T.D_Lpot sc_Lpot (fun _ _ _ _ _ _ us hl => match us, hl with | [_], _ => rfl) (fun vs H Q E h => ?_) (fun cdv A outer s H vs Q E hr h => ?_)
  · obtain ⟨c, rfl, _⟩ := h
    rfl
  · obtain ⟨c, rfl, k⟩ := h
    refine ⟨_, (pss_cons (ps_set (i := 1) sc_Lpot.nd rfl (Or.inl rfl) (pe_op op_add (pe_op op_mod (pe_op op_fdiv (pv 0) pe_int) pe_int) pe_int))
      (pss_cons (ps_set (i := 2) sc_Lpot.nd rfl (Or.inl rfl) (pe_lst (pa_cons pe_int pa_nil)))
      (pss_cons (ps_for PassesOwn.never rfl (pi_range1 (by rfl) T.f_range (pa_cons pe_int pa_nil)) (pg_name (i := 3) sc_Lpot.nd rfl (Or.inl rfl)) (pss_cons (ps_set (i := 1) sc_Lpot.nd rfl (Or.inl rfl) (pe_op op_mod (pe_op op_add (pe_op op_add (pe_op op_mul (pv 1) (pv 1)) (pe_op op_mul pe_int (pv 1))) (pv 3)) pe_int))
      (pss_one (ps_asg (pe_op op_add (pe_op op_mul (pe_ix ix_list (pv 2) pe_int (fun _ _ => rfl)) pe_int) (pv 1)) (pg_sub (pv 2) pe_int set_list)))))
      (pss_cons (ps_if (PW.pt (pw_and (pt_cmpR op_eq (pe_op op_mod (pv 0) pe_int) pe_int (nomark _)) (pw_and1 (pt_cmpR op_ne (pe_op op_fdiv (pv 0) pe_int) pe_int (nomark _))))) (pss_one (ps_expr (pe_bm PySem.F.plainAttrs_list PySem.F.slot_list_append PySem.F.type_list_append mt_append (pv 2) (pa_cons (pe_op op_fdiv (pv 0) pe_int) pa_nil)))) pss_nil)
      (pss_one (ps_ret (pv 2))))))), ?_⟩
    refine ⟨_, rfl, _, _, rfl, rfl, ⟨by decide, by decide⟩, _, _, rfl, rfl, (show (0 : Int) < 2147483629 by decide), _, _, rfl, rfl, ?_⟩
    refine ⟨line (by show 1 ≤ 16777216; decide), fun p hp => ?_⟩
    have b0 : 0 ≤ c / 2 % 2147483629 := Int.emod_nonneg _ (by decide)
    have b1 : c / 2 % 2147483629 < 2147483629 := Int.emod_lt_of_pos _ (by decide)
    refine ⟨_, rfl, by decide, by decide, ?_⟩
    refine for_it (n := 40) walk_rngN (fun i σ H' => (∃ (x : Int) (v : Option V), σ = [some (.int c), some (.int x), some (.ref p), v] ∧ 0 ≤ x ∧ x < 2147483648) ∧ Same H H' ∧ ∃ z : Int, H' p = some (.lst [.int z])) ⟨⟨_, _, rfl, by omega, by omega⟩, Same.new_ hp, 0, upd_same⟩ (fun _ _ _ _ _ => trivial) ?_ ?_
    · rintro i y σ H1 H2 hi ⟨⟨x, v, rfl, x0, x1⟩, s1, z, hz⟩ ⟨rfl, rfl⟩
      have m0 : 0 ≤ (x * x + 48271 * x + (i : Nat)) % 2147483647 := Int.emod_nonneg _ (by decide)
      have m1 : (x * x + 48271 * x + (i : Nat)) % 2147483647 < 2147483647 := Int.emod_lt_of_pos _ (by decide)
      refine ⟨_, rfl, _, rfl, _, _, rfl, rfl, .inl ⟨by omega, by omega⟩, _, rfl, _, _, rfl, rfl, .inl ⟨by omega, by omega⟩, _, _, rfl, rfl, _, rfl, _, _, rfl, rfl, _, _, rfl, rfl, (show (0 : Int) < 2147483647 by decide), ?_⟩
      refine ⟨_, rfl, p, _, _, _, rfl, rfl, SqL.of hz, atI_nat (j := 0) rfl, _, _, rfl, rfl, .inr ⟨by decide, by decide⟩, _, rfl, _, _, rfl, rfl, _, rfl, p, _, _, 0, rfl, rfl, hz, rfl, ?_⟩
      exact ⟨⟨_, _, rfl, m0, by omega⟩, s1.putN hp, _, upd_same⟩
    · rintro σ H1 ⟨⟨x, v, rfl, x0, x1⟩, s1, z, hz⟩
      have keep := k _ p s1 hp ⟨[], z, hz, Nat.zero_le _⟩
      refine ⟨_, rfl, _, _, rfl, rfl, (show (0 : Int) < 2 by decide), rfl, _, rfl, ite2D (fun e => ?_) (fun e => ?_)⟩
      · refine ⟨_, rfl, _, _, rfl, rfl, ⟨by decide, by decide⟩, rfl, _, rfl, ?_⟩
        by_cases e2 : V.int (c / 2) = V.int 0
        · refine iteG (show (!decide (V.int (c / 2) = V.int 0)) = false by rw [decide_eq_true e2]; rfl) ?_
          exact ⟨_, rfl, keep⟩
        · refine iteE (show (!decide (V.int (c / 2) = V.int 0)) = true by rw [decide_eq_false e2]; rfl) ?_
          refine ⟨_, rfl, .inl ⟨rfl, _, SqL.of hz⟩, _, rfl, _, _, rfl, rfl, ⟨by decide, by decide⟩, p, _, _, rfl, rfl, hz, line' (by show 1 < 16777216; decide), ?_⟩
          exact ⟨_, rfl, k _ p (s1.putN hp) hp ⟨[z], c / 2, upd_same, Nat.le_refl _⟩⟩
      · exact ⟨_, rfl, keep⟩
end Cr
namespace Cr
open PySem PySem.Spec PyProof.Rows L2 He
theorem sc_Lnet : FnScope ["_law_script", "_law_many", "_law_k", "_law_machines", "_law_pot_here", "_law_ways", "_law_letters", "_law_way"] ["_law_script"] (defScope s_Lnet) := ⟨rfl, rfl, rfl, by decide +kernel, rfl, by decide +kernel, by decide +kernel⟩
def sp_Lnet (K : PySem.W.Frag) : Sp := fun vs H Q _ => ∃ (a : Addr) (ns : List Int), vs = [.ref a] ∧ SqL K H a (ns.map V.int) ∧ ∀ H' v N, Same H H' → IsLNet H' v N → N.ok → Q v H'
theorem ok_Lnet {P : Program} {w : World} {K : PySem.W.Frag} {mg : Str → Option Value} {base : Heap} (T : Txt K mg) : Cal P w K mg base 5 "_law_net" (sp_Lnet K) := by
  have G_Lat := ok_Lat (P := P) (w := w) (base := base) T
  have G_Lmachine := ok_Lmachine (P := P) (w := w) (base := base) T
  have G_Lpot := ok_Lpot (P := P) (w := w) (base := base) T
  have G_Ldigit := ok_Ldigit (P := P) (w := w) (base := base) T
  refine Cal.mk0 T.g_Lnet T.D_Lnet sc_Lnet (fun _ _ _ _ _ _ us hl => match us, hl with | [_], _ => rfl) (fun vs H Q E h => ?_) (fun cdv A outer s H vs Q E hr h => ?_)
  · obtain ⟨a, ns, rfl, _⟩ := h
    rfl
  · obtain ⟨a, ns, rfl, ha, k⟩ := h
    refine ⟨_, (pss_cons (ps_set (i := 1) sc_Lnet.nd rfl (Or.inl rfl) (pe_op op_add pe_int (pe_op op_mod (pe_c G_Lat hr (by decide) (by rfl) (pa_cons (pv 0) (pa_cons pe_int pa_nil))) pe_int)))
      (pss_cons (ps_setLc (i := 3) (own := [("_law_k", 2)]) rfl sc_Lnet.nd rfl rfl (sw_true rfl rfl rfl (by decide +kernel)) (pi_range1 (by rfl) T.f_range (pa_cons (pv 1) pa_nil)) (blkOk_by (own := [("_law_k", 2)]) (N := ["_law_script", "_law_many", "_law_k", "_law_machines", "_law_pot_here", "_law_ways", "_law_letters", "_law_way"]) (sc := defScope s_Lnet) (by decide +kernel)) (fun _ _ _ _ _ => (pg_name (i := 2) sc_Lnet.nd rfl (Or.inl rfl))) (fun _ _ _ _ _ => pts_nil) (fun _ _ _ _ _ => (pe_c G_Lmachine hr (by decide) (by rfl) (pa_cons (pe_c G_Lpot hr (by decide) (by rfl) (pa_cons (pe_c G_Lat hr (by decide) (by rfl) (pa_cons (pv 0) (pa_cons (pe_op op_add pe_int (pv 2)) pa_nil))) pa_nil)) pa_nil))))
      (pss_cons (ps_set (i := 4) sc_Lnet.nd rfl (Or.inl rfl) (pe_c G_Lpot hr (by decide) (by rfl) (pa_cons (pe_c G_Lat hr (by decide) (by rfl) (pa_cons (pv 0) (pa_cons pe_int pa_nil))) pa_nil)))
      (pss_cons (ps_set (i := 5) sc_Lnet.nd rfl (Or.inl rfl) (pe_lst pa_nil))
      (pss_cons (ps_for PassesOwn.never rfl (pi_range1 (by rfl) T.f_range (pa_cons (pe_c G_Ldigit hr (by decide) (by rfl) (pa_cons (pv 4) (pa_cons pe_int pa_nil))) pa_nil)) (pg_name (i := 2) sc_Lnet.nd rfl (Or.inl rfl)) (pss_one (ps_expr (pe_bm PySem.F.plainAttrs_list PySem.F.slot_list_append PySem.F.type_list_append mt_append (pv 5) (pa_cons (pe_tup (pa_cons (pe_c G_Ldigit hr (by decide) (by rfl) (pa_cons (pv 4) (pa_cons (pv 1) pa_nil))) (pa_cons (pe_c G_Ldigit hr (by decide) (by rfl) (pa_cons (pv 4) (pa_cons (pv 1) pa_nil))) (pa_cons (pe_ix ix_list (pe_lst (pa_cons pe_str (pa_cons pe_str pa_nil))) (pe_c G_Ldigit hr (by decide) (by rfl) (pa_cons (pv 4) (pa_cons pe_int pa_nil))) (fun _ _ => rfl)) pa_nil)))) pa_nil)))))
      (pss_cons (ps_set (i := 4) sc_Lnet.nd rfl (Or.inl rfl) (pe_c G_Lpot hr (by decide) (by rfl) (pa_cons (pe_c G_Lat hr (by decide) (by rfl) (pa_cons (pv 0) (pa_cons pe_int pa_nil))) pa_nil)))
      (pss_cons (ps_set (i := 6) sc_Lnet.nd rfl (Or.inl rfl) (pe_lst pa_nil))
      (pss_cons (ps_for PassesOwn.never rfl (pi_range1 (by rfl) T.f_range (pa_cons (pe_c G_Ldigit hr (by decide) (by rfl) (pa_cons (pv 4) (pa_cons pe_int pa_nil))) pa_nil)) (pg_name (i := 2) sc_Lnet.nd rfl (Or.inl rfl)) (pss_one (ps_if (pt_cmpR (op_neD hr.units) (pv 5) (pe_lst pa_nil) (nomark _)) (pss_cons (ps_set (i := 7) sc_Lnet.nd rfl (Or.inl rfl) (pe_c G_Ldigit hr (by decide) (by rfl) (pa_cons (pv 4) (pa_cons (pe_callB call_len_seq (by rfl) T.f_len (by decide +kernel) (pa_cons (pv 5) pa_nil)) pa_nil))))
      (pss_one (ps_expr (pe_bm PySem.F.plainAttrs_list PySem.F.slot_list_append PySem.F.type_list_append mt_append (pv 6) (pa_cons (pe_tup (pa_cons (pv 7) (pa_cons (pe_c G_Ldigit hr (by decide) (by rfl) (pa_cons (pv 4) (pa_cons (pe_ix ix_list (pe_lst (pa_cons pe_int (pa_cons (pe_op op_pow pe_int pe_int) pa_nil))) (pe_c G_Ldigit hr (by decide) (by rfl) (pa_cons (pv 4) (pa_cons pe_int pa_nil))) (fun _ _ => rfl)) pa_nil))) pa_nil))) pa_nil))))) pss_nil)))
      (pss_one (ps_ret (pe_tup (pa_cons (pv 3) (pa_cons (pv 5) (pa_cons (pv 6) pa_nil)))))))))))))), ?_⟩
    refine ⟨_, rfl, a, ns, 0, rfl, ha, fun z => ⟨_, _, rfl, rfl, (show (0 : Int) < 5 by decide), _, _, rfl, rfl, ?_⟩⟩
    have z0 : 0 ≤ z % 5 := Int.emod_nonneg _ (by decide)
    have z1 : z % 5 < 5 := Int.emod_lt_of_pos _ (by decide)
    obtain ⟨b, eb⟩ : ∃ n : Nat, z % 5 = n := ⟨(z % 5).toNat, by omega⟩
    obtain ⟨m, em⟩ : ∃ m, m = b + 1 := ⟨_, rfl⟩
    have eb1 : [V.int (1 + z % 5)] = [V.int (m : Int)] := by rw [eb, em]; exact one_add
    have ebm : V.int (1 + z % 5) = V.int (m : Int) := (List.cons.inj eb1).1
    have hm1 : 1 ≤ m := by omega
    have hm5 : m ≤ 5 := by omega
    -- the machines
    refine ⟨_, rfl, _, eb1, by omega, by omega, fun D hD => ?_⟩
    refine lc_it (n := m) walk_rngN (fun i H' => Same H H' ∧ ∃ (us : List V) (Ms : List Mch), H' D = some (.lst us) ∧ Paired (IsLMchS (· = D) H') us Ms ∧ Ms.length = i ∧ ∀ M ∈ Ms, M.ok) ⟨Same.new_ hD, [], [], upd_same, .nil, rfl, by simp⟩ (fun _ _ _ _ => trivial) ?_ ?_
    · rintro i x H1 H1' hi ⟨s1, us, Ms, h1, h2, h3, h4⟩ ⟨rfl, rfl⟩
      have lus := h2.length
      refine ⟨rfl, ?_⟩
      have e1 : [V.ref a, V.int (1 + (i : Int))] = [V.ref a, V.int ((i + 1 : Nat) : Int)] := congrArg (List.cons (V.ref a)) one_add
      refine ⟨_, rfl, _, rfl, _, _, rfl, rfl, a, ns, i + 1, e1, ha.same_ s1, fun z' => ⟨z', rfl, fun H2 p s2 np hp => ?_⟩⟩
      refine ⟨p, rfl, hp, fun H3 v M F3 hM hok => ?_⟩
      have s3 : Same H1' H3 := F3.same s2 fun b hb => by rw [hb]; exact np
      have hD3 := s3 _ _ h1
      have hD2 := s2 _ _ h1
      have F4 := Fr.put (S := (· = D)) (o := .lst (us ++ [v])) rfl (not_tup_lst hD3)
      refine ⟨_, hD3, line' (by omega), (s1.trans s3).putN hD, us ++ [v], Ms ++ [M], upd_same, ?_, by rw [List.length_append, h3] <;> rfl, fun y hy => ?_⟩
      · exact (h2.cimp fun _ _ z => (z.keep s3).fr F4).csnoc2 ((hM.mono fun b hb => by rw [hb, hD2]; intro z; cases z).fr F4)
      · rcases List.mem_append.mp hy with hy | hy
        · exact h4 y hy
        · rw [List.mem_singleton.mp hy]; exact hok
    rintro H1 ⟨s1, mus, Ms, hms, pms, lms, oms⟩
    have pms' : Paired (IsLMch H1) mus Ms := pms.cimp fun _ _ z => z.to
    -- the ways
    refine ⟨_, rfl, a, ns, 6, rfl, ha.same_ s1, fun z6 => ⟨z6, rfl, fun H2 p s2 np hp => ?_⟩⟩
    refine ⟨line (by show 0 ≤ 16777216; decide), fun D2 hD2 => ?_⟩
    have s3 := Same.new_ (o := .lst []) hD2
    have nD2p : D2 ≠ p := fun z => hp.ne (by rw [← z]; exact hD2)
    refine ⟨_, rfl, p, 11, rfl, hp.keep s3, cdiv_small (by decide) (by decide +kernel), fun H3 wn wn0 wn1 F3 hp3 => ?_⟩
    obtain ⟨wn, rfl⟩ : ∃ n : Nat, wn = n := ⟨wn.toNat, by omega⟩
    have wn10 : wn ≤ 10 := by omega
    have s13 : Same H1 H3 := F3.same (s2.trans s3) fun b hb => by rw [hb]; exact np
    have fD2 : H1 D2 = none := s2.free hD2
    have hD23 := F3.at (upd_same (H := H2) (a := D2) (o := .lst [])) nD2p
    refine ⟨_, rfl, by omega, by omega, ?_⟩
    have cm : CDivW 0 (m : Int) := cdiv_small (by omega) (by omega)
    have ebp : [V.ref p, V.int (1 + z % 5)] = [V.ref p, V.int (m : Int)] := congrArg (List.cons (V.ref p)) eb1
    refine for_it (n := wn) walk_rngN (fun i σ H' => (∃ v2 v7, σ = [some (.ref a), some (.int (1 + z % 5)), v2, some (.ref D), some (.ref p), some (.ref D2), none, v7]) ∧ Same H1 H' ∧ IsPot H' p ∧ ∃ (us : List V) (ws : List (Nat × Nat × Bool)), H' D2 = some (.lst us) ∧ Paired (IsWay H') us ws ∧ ws.length = i ∧ ∀ w ∈ ws, w.1 < m ∧ w.2.1 < m)
      ⟨⟨_, _, rfl⟩, s13, hp3, [], [], hD23, .nil, rfl, by simp⟩ (fun _ _ _ _ _ => trivial) ?_ ?_
    · rintro i x σ H4 H4' hi ⟨⟨v2, v7, rfl⟩, sA, hpA, us, ws, h1, h2, h3, h4⟩ ⟨rfl, rfl⟩
      have lus := h2.length
      refine ⟨_, rfl, .inl ⟨rfl, _, SqL.of h1⟩, ?_⟩
      refine ⟨_, rfl, _, rfl, p, m, ebp, hpA, cm, fun H5 x x0 x1 F5 hp5 => ?_⟩
      refine ⟨_, rfl, _, rfl, p, m, ebp, hp5, cm, fun H6 y y0 y1 F6 hp6 => ?_⟩
      obtain ⟨x, rfl⟩ : ∃ n : Nat, x = n := ⟨x.toNat, by omega⟩
      obtain ⟨y, rfl⟩ : ∃ n : Nat, y = n := ⟨y.toNat, by omega⟩
      refine ⟨line (by show 2 ≤ 16777216; decide), fun q hq => ?_⟩
      have sq := Same.new_ (o := .lst [.str "row", .str "heap"]) hq
      have nqp : q ≠ p := fun z => hp6.ne (by rw [← z]; exact hq)
      refine ⟨_, rfl, p, 2, rfl, hp6.keep sq, cdiv_small (by decide) (by decide +kernel), fun H7 j j0 j1 F7 hp7 => ?_⟩
      have hat : ∃ b : Bool, atI [V.str "row", V.str "heap"] j = some (V.str (sortT b)) := by
        have hj : j = 0 ∨ j = 1 := by omega
        rcases hj with rfl | rfl
        · exact ⟨true, rfl⟩
        · exact ⟨false, rfl⟩
      obtain ⟨bb, hat⟩ := hat
      refine ⟨q, _, _, _, rfl, rfl, SqL.of (F7.at upd_same nqp), hat, line (by show 3 ≤ 16777216; decide), fun t ht => ?_⟩
      have F := F5.trans (F6.trans ((Fr.of sq).trans F7))
      have st := Same.new_ (o := .tup [.int (x : Int), .int (y : Int), .str (sortT bb)]) ht
      have h1' := st _ _ (F.at h1 nD2p)
      have sB : Same H1 H7 := F.same sA fun b hb => by rw [hb]; exact np
      refine ⟨D2, us, _, rfl, rfl, h1', line' (by omega), ⟨_, _, rfl⟩, (sB.trans st).putN fD2, ?_, us ++ [.ref t], ws ++ [(x, y, bb)], upd_same, ?_, by rw [List.length_append, h3] <;> rfl, fun w hw => ?_⟩
      · obtain ⟨ms, z, e, l⟩ := hp7.keep st
        exact ⟨ms, z, by rw [upd_ne nD2p.symm]; exact e, l⟩
      · have tF := (Fr.put (S := (· = D2)) (o := .lst (us ++ [.ref t])) rfl (not_tup_lst h1')).tk
        exact (h2.cimp fun _ _ z => z.tk (F.tk.trans ((Same.tk_ st).trans tF))).csnoc2 ⟨t, rfl, tF _ _ upd_same⟩
      · rcases List.mem_append.mp hw with hw | hw
        · exact h4 w hw
        · rw [List.mem_singleton.mp hw]; exact ⟨show x < m by omega, show y < m by omega⟩
    rintro σ H4 ⟨⟨v2, v7, rfl⟩, s14, hp4, wus, Ws, hws, pws, lws, ows⟩
    -- the letters
    refine ⟨_, rfl, a, ns, 7, rfl, ha.same_ (s1.trans s14), fun z7 => ⟨z7, rfl, fun H5 p2 s5 np2 hpp => ?_⟩⟩
    refine ⟨line (by show 0 ≤ 16777216; decide), fun D3 hD3 => ?_⟩
    have s6 := Same.new_ (o := .lst []) hD3
    have nD3p : D3 ≠ p2 := fun z => hpp.ne (by rw [← z]; exact hD3)
    refine ⟨_, rfl, p2, 13, rfl, hpp.keep s6, cdiv_small (by decide) (by decide +kernel), fun H6 ln ln0 ln1 F6 hp6 => ?_⟩
    obtain ⟨ln, rfl⟩ : ∃ n : Nat, ln = n := ⟨ln.toNat, by omega⟩
    have ln12 : ln ≤ 12 := by omega
    have s46 : Same H4 H6 := F6.same (s5.trans s6) fun b hb => by rw [hb]; exact np2
    have fD3 : H4 D3 = none := s5.free hD3
    have hD36 := F6.at (upd_same (H := H5) (a := D3) (o := .lst [])) nD3p
    refine ⟨_, rfl, by omega, by omega, ?_⟩
    refine for_it (n := ln) walk_rngN (fun i σ H' => (∃ v2 v7, σ = [some (.ref a), some (.int (1 + z % 5)), v2, some (.ref D), some (.ref p2), some (.ref D2), some (.ref D3), v7]) ∧ Same H4 H' ∧ IsPot H' p2 ∧ ∃ (us : List V) (ls : List (Nat × Int)), H' D3 = some (.lst us) ∧ Paired (IsPr H') us ls ∧ ls.length ≤ i ∧ ∀ l ∈ ls, l.1 < Ws.length ∧ 0 ≤ l.2 ∧ l.2 < 10 ^ 60)
      ⟨⟨_, _, rfl⟩, s46, hp6, [], [], hD36, .nil, Nat.le_refl _, by simp⟩ (fun _ _ _ _ _ => trivial) ?_ ?_
    · rintro i x σ H7 H7' hi ⟨⟨v2, v7, rfl⟩, sA, hpA, us, ls, h1, h2, h3, h4⟩ ⟨rfl, rfl⟩
      have lus := h2.length
      have lwus := pws.length
      refine ⟨_, rfl, line (by show 0 ≤ 16777216; decide), fun q hq => ?_⟩
      have sq := Same.new_ (o := .lst []) hq
      have sAq := sA.trans sq
      refine ⟨.list (Ws.map wayD), .list [], .lst (SqL.of (sAq _ _ hws)) (dp_all (f := wayD) (fun _ _ h => dp_way h) (pws.cimp fun _ _ z => IsWay.tk z (Same.tk_ sAq))), .lst (SqL.of upd_same) .nil, (sh_waysD Ws).ok (by decide), (sh_waysD []).ok (by decide), _, rfl, ?_⟩
      cases Ws with
      | nil =>
        refine iteG (show (!PyData.eqv (.list []) (.list [])) = false by rw [eqv_lnil]; rfl) ?_
        exact ⟨⟨_, _, rfl⟩, sAq, hpA.keep sq, us, ls, sq _ _ h1, h2.cimp fun _ _ z => z.tk (Same.tk_ sq), by omega, h4⟩
      | cons w0 Ws =>
        refine iteE (show (!PyData.eqv (.list (wayD w0 :: Ws.map wayD)) (.list [])) = true by rw [eqv_lcons]; rfl) ?_
        have hwl : wus.length = (w0 :: Ws).length := lwus
        have hwl0 : 0 < wus.length := by rw [hwl]; exact Nat.succ_pos _
        refine ⟨_, rfl, _, rfl, D2, wus, rfl, .inl (SqL.of (sAq _ _ hws)), p2, _, rfl, hpA.keep sq, cdiv_small (by omega) (by omega), fun H8 x x0 x1 F8 hp8 => ?_⟩
        obtain ⟨x, rfl⟩ : ∃ n : Nat, x = n := ⟨x.toNat, by omega⟩
        have h18 := F8.at (sq _ _ h1) nD3p
        refine ⟨_, rfl, .inl ⟨rfl, _, SqL.of h18⟩, ?_⟩
        refine ⟨_, rfl, _, rfl, _, _, rfl, rfl, ⟨by decide, by decide, by decide⟩, line (by show 2 ≤ 16777216; decide), fun q2 hq2 => ?_⟩
        have sq2 := Same.new_ (o := .lst [.int 3, .int (10 ^ (60 : Int).toNat)]) hq2
        have nqp : q2 ≠ p2 := fun z => hp8.ne (by rw [← z]; exact hq2)
        refine ⟨_, rfl, p2, 2, rfl, hp8.keep sq2, cdiv_small (by decide) (by decide +kernel), fun H9 j j0 j1 F9 hp9 => ?_⟩
        have hat : ∃ b : Int, atI [V.int 3, V.int (10 ^ (60 : Int).toNat)] j = some (V.int b) ∧ 0 < b ∧ b ≤ 10 ^ 60 := by
          have hj : j = 0 ∨ j = 1 := by omega
          rcases hj with rfl | rfl
          · exact ⟨3, rfl, by decide, by decide +kernel⟩
          · exact ⟨_, rfl, by decide +kernel, by decide +kernel⟩
        obtain ⟨bb, hat, b0, b1⟩ := hat
        refine ⟨q2, _, _, _, rfl, rfl, SqL.of (F9.at upd_same nqp), hat, p2, bb, rfl, hp9, cdiv_small b0 (Int.lt_of_le_of_lt b1 (by decide +kernel)), fun H10 y y0 y1 F10 hp10 => ⟨line (by show 2 ≤ 16777216; decide), fun t ht => ?_⟩⟩
        have F := (Fr.of sq).trans (F8.trans ((Fr.of sq2).trans (F9.trans F10)))
        have st := Same.new_ (o := .tup [.int (x : Int), .int y]) ht
        have h1' := st _ _ (F.at h1 nD3p)
        have sB : Same H4 H10 := F.same sA fun b hb => by rw [hb]; exact np2
        refine ⟨D3, us, _, rfl, rfl, h1', line' (by omega), ⟨_, _, rfl⟩, (sB.trans st).putN fD3, ?_, us ++ [.ref t], ls ++ [(x, y)], upd_same, ?_, by rw [List.length_append]; show ls.length + 1 ≤ i + 1; omega, fun w hw => ?_⟩
        · obtain ⟨ms, z, e, l⟩ := hp10.keep st
          exact ⟨ms, z, by rw [upd_ne nD3p.symm]; exact e, l⟩
        · have tF := (Fr.put (S := (· = D3)) (o := .lst (us ++ [.ref t])) rfl (not_tup_lst h1')).tk
          exact (h2.cimp fun _ _ z => z.tk (F.tk.trans ((Same.tk_ st).trans tF))).csnoc2 ⟨t, rfl, tF _ _ upd_same⟩
        · rcases List.mem_append.mp hw with hw | hw
          · exact h4 w hw
          · rw [List.mem_singleton.mp hw]; exact ⟨show x < (w0 :: Ws).length by omega, y0, Int.lt_of_lt_of_le y1 b1⟩
    rintro σ H7 ⟨⟨v2, v7, rfl⟩, s47, hp7, lus, Ls, hls, pls, lls, ols⟩
    refine ⟨_, rfl, _, rfl, _, rfl, line (by show 3 ≤ 16777216; decide), fun t ht => ?_⟩
    have st := Same.new_ (o := .tup [.ref D, .ref D2, .ref D3]) ht
    have s17 := (s14.trans s47).trans st
    have s4t := s47.trans st
    refine k _ (.ref t) ⟨Ms, Ws, Ls⟩ (s1.trans s17) ⟨t, D, D2, D3, mus, wus, lus, rfl, upd_same, s17 _ _ hms, pms'.cimp fun _ _ z => z.keep s17, s4t _ _ hws, pws.cimp fun _ _ z => z.tk (Same.tk_ s4t), st _ _ hls, pls.cimp fun _ _ z => z.tk (Same.tk_ st)⟩ ⟨?_, ?_, oms, ?_, ?_, ?_, ols⟩
    · show 1 ≤ Ms.length; omega
    · show Ms.length ≤ 5; omega
    · show Ws.length ≤ 10; omega
    · intro w hw
      have := ows w hw
      show w.1 < Ms.length ∧ w.2.1 < Ms.length
      rw [lms]; exact this
    · show Ls.length ≤ 12; omega
end Cr
namespace Cr
open PySem PySem.Spec PyProof.Rows L2 He
theorem sc_Lbegun : FnScope ["_law_net_here", "_law_way", "_law_run", "_law_said", "_law_one"] ["_law_net_here"] (defScope s_Lbegun) := ⟨rfl, rfl, rfl, by decide +kernel, rfl, by decide +kernel, by decide +kernel⟩
abbrev kS (s : Str) : Key := .inr s
def okb0 : LT → Prop := fun y => y = .d
def okb1 (N : Nt) := St okb0 .put LT.p LT.p N.ws.length
def okb2 (N : Nt) := St (okb1 N) .snd LT.s LT.s N.ws.length
def okb3 (N : Nt) := St (okb2 N) .wk LT.k LT.k N.ws.length
def okb4 (N : Nt) := St (okb3 N) .sts LT.tM LT.tM N.ms.length
def okb5 (N : Nt) := St (okb4 N) .wds LT.oM (fun j => LT.oC j 0) N.ms.length
def okb6 (N : Nt) := St (okb5 N) .hrd LT.hM LT.hM N.ms.length
theorem okb6_all {N : Nt} (y : LT) (hy : LT.ok N (fun _ => 0) (fun _ => 0) y) : okb6 N y ∨ y = .evs := by
  cases y with
  | evs => exact .inr rfl
  | hC m c => exact absurd hy.2 (Nat.not_lt_zero _)
  | oC m c =>
    have : c = 0 := Nat.le_zero.mp hy.2
    subst this
    exact .inl (.inl (.inr (.inr ⟨m, hy.1, .inr rfl⟩)))
  | d => exact .inl (.inl (.inl (.inl (.inl (.inl (.inl rfl))))))
  | put => exact .inl (.inl (.inl (.inl (.inl (.inl (.inr (.inl rfl)))))))
  | p w => exact .inl (.inl (.inl (.inl (.inl (.inl (.inr (.inr ⟨w, hy, .inl rfl⟩)))))))
  | snd => exact .inl (.inl (.inl (.inl (.inl (.inr (.inl rfl))))))
  | s w => exact .inl (.inl (.inl (.inl (.inl (.inr (.inr ⟨w, hy, .inl rfl⟩))))))
  | wk => exact .inl (.inl (.inl (.inl (.inr (.inl rfl)))))
  | k w => exact .inl (.inl (.inl (.inl (.inr (.inr ⟨w, hy, .inl rfl⟩)))))
  | sts => exact .inl (.inl (.inl (.inr (.inl rfl))))
  | tM w => exact .inl (.inl (.inl (.inr (.inr ⟨w, hy, .inl rfl⟩))))
  | wds => exact .inl (.inl (.inr (.inl rfl)))
  | oM w => exact .inl (.inl (.inr (.inr ⟨w, hy, .inl rfl⟩)))
  | hrd => exact .inl (.inr (.inl rfl))
  | hM w => exact .inl (.inr (.inr ⟨w, hy, .inl rfl⟩))
def sp_Lbegun (K : PySem.W.Frag) : Sp := fun vs H Q _ => ∃ (nv : V) (N : Nt), vs = [nv] ∧ IsLNet H nv N ∧ N.ok ∧ ∀ H' v S, LRun H H' v N (begun N) S → (∀ Hb, Same Hb H → IsLNet Hb nv N → LRun Hb H' v N (begun N) S) → Q v H'
theorem ok_Lbegun {P : Program} {w : World} {K : PySem.W.Frag} {mg : Str → Option Value} {base : Heap} (T : Txt K mg) : Cal P w K mg base 1 "_law_begun" (sp_Lbegun K) := by
  refine Cal.mk0 T.g_Lbegun T.D_Lbegun sc_Lbegun (fun _ _ _ _ _ _ us hl => match us, hl with | [_], _ => rfl) (fun vs H Q E h => ?_) (fun cdv A outer s H vs Q E hr h => ?_)
  · obtain ⟨nv, N, rfl, _⟩ := h
    rfl
  · obtain ⟨nv, N, rfl, hnet, hN, kq⟩ := h
    obtain ⟨pn, m, wl, l, ms, ws, ls, rfl, hpn, Z⟩ := id hnet
    have lm := Z.ms.length
    have lw := Z.ws.length
    have ll := Z.ls.length
    have w10 := hN.w10
    have m5 := hN.m5
    have l12 := hN.l12
    refine ⟨_, (pss_cons (ps_set (i := 2) sc_Lbegun.nd rfl (Or.inl rfl) (pe_disp (pps_cons pe_str (pv 0) (pps_cons pe_str (pe_lc (own := [("_law_way", 1)]) rfl sc_Lbegun.nd (pi_list (pe_ix ix_tup (pv 0) pe_int (fun _ _ => rfl))) (blkOk_by (own := [("_law_way", 1)]) (N := ["_law_net_here", "_law_way", "_law_run", "_law_said", "_law_one"]) (sc := defScope s_Lbegun) (by decide +kernel)) (fun _ _ _ _ _ => (pg_name (i := 1) sc_Lbegun.nd rfl (Or.inl rfl))) (fun _ _ _ _ _ => pts_nil) (fun _ _ _ _ _ => (pe_lst pa_nil))) (pps_cons pe_str (pe_lc (own := [("_law_way", 1)]) rfl sc_Lbegun.nd (pi_list (pe_ix ix_tup (pv 0) pe_int (fun _ _ => rfl))) (blkOk_by (own := [("_law_way", 1)]) (N := ["_law_net_here", "_law_way", "_law_run", "_law_said", "_law_one"]) (sc := defScope s_Lbegun) (by decide +kernel)) (fun _ _ _ _ _ => (pg_name (i := 1) sc_Lbegun.nd rfl (Or.inl rfl))) (fun _ _ _ _ _ => pts_nil) (fun _ _ _ _ _ => (pe_lst pa_nil))) pps_nil))) (by rfl) (by rfl) (fun z => by cases z) (by decide)))
      (pss_cons (ps_dput (hu_of hr) (pv 2) pe_str (pe_lc (own := [("_law_way", 1)]) rfl sc_Lbegun.nd (pi_list (pe_ix ix_tup (pv 0) pe_int (fun _ _ => rfl))) (blkOk_by (own := [("_law_way", 1)]) (N := ["_law_net_here", "_law_way", "_law_run", "_law_said", "_law_one"]) (sc := defScope s_Lbegun) (by decide +kernel)) (fun _ _ _ _ _ => (pg_name (i := 1) sc_Lbegun.nd rfl (Or.inl rfl))) (fun _ _ _ _ _ => pts_nil) (fun _ _ _ _ _ => pe_dnewK)) rfl)
      (pss_cons (ps_dput (hu_of hr) (pv 2) pe_str (pe_lc (own := [("_law_one", 4)]) rfl sc_Lbegun.nd (pi_list (pe_ix ix_tup (pv 0) pe_int (fun _ _ => rfl))) (blkOk_by (own := [("_law_one", 4)]) (N := ["_law_net_here", "_law_way", "_law_run", "_law_said", "_law_one"]) (sc := defScope s_Lbegun) (by decide +kernel)) (fun _ _ _ _ _ => (pg_name (i := 4) sc_Lbegun.nd rfl (Or.inl rfl))) (fun _ _ _ _ _ => pts_nil) (fun _ _ _ _ _ => (pe_lst (pa_cons (pe_tup (pa_cons (pe_callTy (call_tuple_ofK (K := K) rfl) (by rfl) T.f_tuple (by decide +kernel) (pa_cons (pe_ix (ix_tupK (K := K) rfl) (pv 4) pe_int (fun _ _ => rfl)) pa_nil)) (pa_cons (pe_callTy (call_tuple_ofK (K := K) rfl) (by rfl) T.f_tuple (by decide +kernel) (pa_cons (pe_ix (ix_tupK (K := K) rfl) (pv 4) pe_int (fun _ _ => rfl)) pa_nil)) pa_nil))) pa_nil)))) rfl)
      (pss_cons (ps_dput (hu_of hr) (pv 2) pe_str (pe_lc (own := [("_law_one", 4)]) rfl sc_Lbegun.nd (pi_list (pe_ix ix_tup (pv 0) pe_int (fun _ _ => rfl))) (blkOk_by (own := [("_law_one", 4)]) (N := ["_law_net_here", "_law_way", "_law_run", "_law_said", "_law_one"]) (sc := defScope s_Lbegun) (by decide +kernel)) (fun _ _ _ _ _ => (pg_name (i := 4) sc_Lbegun.nd rfl (Or.inl rfl))) (fun _ _ _ _ _ => pts_nil) (fun _ _ _ _ _ => (pe_lst (pa_cons (pe_lst pa_nil) pa_nil)))) rfl)
      (pss_cons (ps_dput (hu_of hr) (pv 2) pe_str (pe_lc (own := [("_law_one", 4)]) rfl sc_Lbegun.nd (pi_list (pe_ix ix_tup (pv 0) pe_int (fun _ _ => rfl))) (blkOk_by (own := [("_law_one", 4)]) (N := ["_law_net_here", "_law_way", "_law_run", "_law_said", "_law_one"]) (sc := defScope s_Lbegun) (by decide +kernel)) (fun _ _ _ _ _ => (pg_name (i := 4) sc_Lbegun.nd rfl (Or.inl rfl))) (fun _ _ _ _ _ => pts_nil) (fun _ _ _ _ _ => (pe_lst pa_nil))) rfl)
      (pss_cons (ps_dput (hu_of hr) (pv 2) pe_str (pe_lst pa_nil) rfl)
      (pss_cons (ps_for PassesOwn.never rfl (pi_list (pe_ix ix_tup (pv 0) pe_int (fun _ _ => rfl))) (pg_tup rfl (pgs_cons (pg_name (i := 1) sc_Lbegun.nd rfl (Or.inl rfl)) (pgs_cons (pg_name (i := 3) sc_Lbegun.nd rfl (Or.inl rfl)) pgs_nil))) (pss_cons (ps_expr (pe_bm PySem.F.plainAttrs_list PySem.F.slot_list_append PySem.F.type_list_append mt_append (pe_ix ix_list (pe_dget (hu_of hr) (pv 2) pe_str (fun _ _ => rfl)) (pv 1) (fun _ _ => rfl)) (pa_cons (pv 3) pa_nil)))
      (pss_one (ps_expr (pe_bm PySem.F.plainAttrs_list PySem.F.slot_list_append PySem.F.type_list_append mt_append (pe_ix ix_list (pe_dget (hu_of hr) (pv 2) pe_str (fun _ _ => rfl)) (pv 1) (fun _ _ => rfl)) (pa_cons pe_non pa_nil))))))
      (pss_one (ps_ret (pv 2)))))))))), ?_⟩
    refine fun p hp => ?_
    have s0 := Same.new_ (o := .dK []) hp
    have L0 : Lay okb0 (fun _ => p) (fun _ => .dK []) (upd H p (.dK [])) := ⟨fun x _ => upd_same, fun x y hx hy _ => by rw [show x = .d from hx, show y = .d from hy], fun _ _ => dK_nt⟩
    -- put
    refine ⟨_, rfl, _, rfl, pn, _, _, _, rfl, rfl, SqT.of (s0 _ _ hpn), atI_nat (j := 1) rfl, wl, rfl, ⟨_, SqL.of (s0 _ _ Z.w)⟩, fun D1 hD1 => ?_⟩
    refine lc_it (n := ws.length) walk_list (fun i H' => ∃ A G, Stg okb0 (fun _ => p) (fun _ => .dK []) (upd H p (.dK [])) H D1 .put LT.p LT.p (coIs LT.p (.lst [])) i A G H') ⟨_, _, Stg.zero L0 (fun _ _ => hp) s0 hD1 (by simp [okb0])⟩ (fun i H' _ P => SqL.of (by obtain ⟨_, _, P⟩ := P; exact P.s _ _ (s0 _ _ Z.w))) ?_ ?_
    · rintro i y H2 H2' hi ⟨A1, G1, S⟩ ⟨rfl, hy⟩
      refine ⟨rfl, line (by show 0 ≤ 16777216; decide), fun a na => ?_⟩
      obtain ⟨acc, h1, h2, h3⟩ := S.one s0 hD1 (Same.new_ na) na upd_same lst_nt (by simp [okb0]) (by simp [okb0]) (fun j k e => LT.p.inj e) (fun j e => by cases e) coIs_ok (fun _ _ _ _ h _ => h)
      exact ⟨acc, h1, line' (by omega), h3⟩
    rintro H1 ⟨A1, G1, S1⟩
    rw [lw] at S1
    have s1 : Same H H1 := s0.trans S1.s
    have S1L : Lay (okb1 N) A1 G1 H1 := S1.lay
    -- sender
    refine ⟨_, rfl, pn, _, _, _, rfl, rfl, SqT.of (s1 _ _ hpn), atI_nat (j := 1) rfl, wl, rfl, ⟨_, SqL.of (s1 _ _ Z.w)⟩, fun D2 hD2 => ?_⟩
    refine lc_it (n := ws.length) walk_list (fun i H' => ∃ A G, Stg (okb1 N) A1 G1 H1 H D2 .snd LT.s LT.s (coIs LT.s (.lst [])) i A G H') ⟨_, _, Stg.zero S1L S1.nw s1 hD2 (by simp [okb0, okb1, St])⟩ (fun i H' _ P => SqL.of (by obtain ⟨_, _, P⟩ := P; exact P.s _ _ (s1 _ _ Z.w))) ?_ ?_
    · rintro i y H2 H2' hi ⟨A2, G2, S⟩ ⟨rfl, hy⟩
      refine ⟨rfl, line (by show 0 ≤ 16777216; decide), fun a na => ?_⟩
      obtain ⟨acc, h1, h2, h3⟩ := S.one s1 hD2 (Same.new_ na) na upd_same lst_nt (by simp [okb0, okb1, St]) (by simp [okb0, okb1, St]) (fun j k e => LT.s.inj e) (fun j e => by cases e) coIs_ok (fun _ _ _ _ h _ => h)
      exact ⟨acc, h1, line' (by omega), h3⟩
    rintro H2 ⟨A2, G2, S2⟩
    rw [lw] at S2
    have S2L : Lay (okb2 N) A2 G2 H2 := S2.lay
    have s2 : Same H H2 := s1.trans S2.s
    have od1 : okb1 N .d := .inl rfl
    have od2 : okb2 N .d := .inl od1
    have a2d : A2 .d = p := (S2.same _ od1).1.trans ((S1.same _ rfl).1)
    have g2d : G2 .d = .dK [] := (S2.same _ od1).2.trans ((S1.same _ rfl).2)
    have hp2 := S2L.at' od2 g2d
    rw [a2d] at hp2
    refine ⟨hp2, [(kS "net", .ref pn), (kS "put", .ref D1), (kS "sender", .ref D2)], rfl, by show 3 ≤ 15; decide, ?_⟩
    have em : mergeK [] [(kS "net", V.ref pn), (kS "put", .ref D1), (kS "sender", .ref D2)] = [(kS "net", .ref pn), (kS "put", .ref D1), (kS "sender", .ref D2)] := by
      show putK (putK (putK [] (kS "net") (.ref pn)) (kS "put") (.ref D1)) (kS "sender") (.ref D2) = _
      have e1 : putK [] (kS "net") (.ref pn) = [(kS "net", .ref pn)] := putK_new [] (by decide +kernel)
      have e2 : putK [(kS "net", .ref pn)] (kS "put") (.ref D1) = [(kS "net", .ref pn), (kS "put", .ref D1)] := putK_new [kS "net"] (by decide +kernel)
      have e3 : putK [(kS "net", .ref pn), (kS "put", .ref D1)] (kS "sender") (.ref D2) = [(kS "net", .ref pn), (kS "put", .ref D1), (kS "sender", .ref D2)] := putK_new [kS "net", kS "put"] (by decide +kernel)
      rw [e1, e2, e3]
    rw [em]
    have L2b := S2L.put (x := LT.d) (o := .dK [(kS "net", .ref pn), (kS "put", .ref D1), (kS "sender", .ref D2)]) od2 dK_nt
    rw [a2d] at L2b
    have s2b := s2.putN (o := .dK [(kS "net", .ref pn), (kS "put", .ref D1), (kS "sender", .ref D2)]) hp
    have S2nw : ∀ x, okb2 N x → H (A2 x) = none := S2.nw
    generalize eG2 : setG G2 LT.d (.dK [(kS "net", V.ref pn), (kS "put", .ref D1), (kS "sender", .ref D2)]) = G2b at L2b
    have g2n : ∀ x, x ≠ .d → G2b x = G2 x := fun x hx => by rw [← eG2]; exact setG_ne hx
    have g2dd : G2b .d = .dK [(kS "net", .ref pn), (kS "put", .ref D1), (kS "sender", .ref D2)] := by rw [← eG2]; exact setG_same
    generalize eH2 : upd H2 p (.dK [(kS "net", V.ref pn), (kS "put", .ref D1), (kS "sender", .ref D2)]) = H2b at L2b s2b
    clear eG2 eH2 em
    -- worker
    refine ⟨_, rfl, pn, _, _, _, rfl, rfl, SqT.of (s2b _ _ hpn), atI_nat (j := 1) rfl, wl, rfl, ⟨_, SqL.of (s2b _ _ Z.w)⟩, fun D3 hD3 => ?_⟩
    refine lc_it (n := ws.length) walk_list (fun i H' => ∃ A G, Stg (okb2 N) A2 G2b H2b H D3 .wk LT.k LT.k (coIs LT.k (.dK [])) i A G H') ⟨_, _, Stg.zero L2b S2nw s2b hD3 (by simp [okb0, okb1, okb2, St])⟩ (fun i H' _ P => SqL.of (by obtain ⟨_, _, P⟩ := P; exact P.s _ _ (s2b _ _ Z.w))) ?_ ?_
    · rintro i y H3 H3' hi ⟨A3, G3, S⟩ ⟨rfl, hy⟩
      refine ⟨rfl, ?_⟩
      refine fun a na => ?_
      obtain ⟨acc, h1, h2, h3⟩ := S.one s2b hD3 (Same.new_ na) na upd_same dK_nt (by simp [okb0, okb1, okb2, St]) (by simp [okb0, okb1, okb2, St]) (fun j k e => LT.k.inj e) (fun j e => by cases e) coIs_ok (fun _ _ _ _ h _ => h)
      exact ⟨acc, h1, line' (by omega), h3⟩
    rintro H3 ⟨A3, G3, S3⟩
    rw [lw] at S3
    have S3L : Lay (okb3 N) A3 G3 H3 := S3.lay
    have s3 : Same H H3 := s2b.trans S3.s
    have od3 : okb3 N .d := .inl od2
    have a3d : A3 .d = p := (S3.same _ od2).1.trans a2d
    have g3d := (S3.same _ od2).2.trans g2dd
    have hp3 := S3L.at' od3 g3d
    rw [a3d] at hp3
    have ek3 : putK [(kS "net", .ref pn), (kS "put", .ref D1), (kS "sender", .ref D2)] (kS "worker") (.ref D3) = [(kS "net", .ref pn), (kS "put", .ref D1), (kS "sender", .ref D2), (kS "worker", .ref D3)] := by
      rw [putK_new [kS "net", kS "put", kS "sender"] (by decide +kernel)]
      rfl
    refine ⟨_, rfl, p, _, rfl, DPut.k (k := kS "worker") hp3 (line' (by show 3 < 16777216; decide)), ?_⟩
    rw [ek3]
    have L3b := S3L.put (x := LT.d) (o := .dK [(kS "net", .ref pn), (kS "put", .ref D1), (kS "sender", .ref D2), (kS "worker", .ref D3)]) od3 dK_nt
    rw [a3d] at L3b
    have s3b := s3.putN (o := .dK [(kS "net", .ref pn), (kS "put", .ref D1), (kS "sender", .ref D2), (kS "worker", .ref D3)]) hp
    have S3nw : ∀ x, okb3 N x → H (A3 x) = none := S3.nw
    generalize eG3 : setG G3 LT.d (.dK [(kS "net", V.ref pn), (kS "put", .ref D1), (kS "sender", .ref D2), (kS "worker", .ref D3)]) = G3b at L3b
    have g3n : ∀ x, x ≠ .d → G3b x = G3 x := fun x hx => by rw [← eG3]; exact setG_ne hx
    have g3dd : G3b .d = .dK [(kS "net", .ref pn), (kS "put", .ref D1), (kS "sender", .ref D2), (kS "worker", .ref D3)] := by rw [← eG3]; exact setG_same
    have t3 : Tk H3 (upd H3 p (.dK [(kS "net", V.ref pn), (kS "put", .ref D1), (kS "sender", .ref D2), (kS "worker", .ref D3)])) := (Fr.put (S := (· = p)) rfl (not_tup_dK hp3)).tk
    generalize eH3 : upd H3 p (.dK [(kS "net", V.ref pn), (kS "put", .ref D1), (kS "sender", .ref D2), (kS "worker", .ref D3)]) = H3b at L3b s3b t3
    clear eG3 eH3 ek3
    -- states
    refine ⟨_, rfl, pn, _, _, _, rfl, rfl, SqT.of (s3b _ _ hpn), atI_nat (j := 0) rfl, m, rfl, ⟨_, SqL.of (s3b _ _ Z.m)⟩, fun D4 hD4 => ?_⟩
    refine lc_it (n := ms.length) walk_list (fun i H' => ∃ A G, Stg (okb3 N) A3 G3b H3b H D4 .sts LT.tM LT.tM (coSta N) i A G H') ⟨_, _, Stg.zero L3b S3nw s3b hD4 (by simp [okb0, okb1, okb2, okb3, St])⟩ (fun i H' _ P => SqL.of (by obtain ⟨_, _, P⟩ := P; exact P.s _ _ (s3b _ _ Z.m))) ?_ ?_
    · rintro i y H4 H4' hi ⟨A4, G4, S⟩ ⟨rfl, hy⟩
      obtain ⟨M, hM, hMv⟩ := Z.ms.cget hy
      have hiM : i < N.ms.length := by omega
      have eM : N.mch i = M := getD_of hM
      have sH : Same H H4' := s3b.trans S.s
      obtain ⟨pm, mn, mr, mdl, dvs, rfl, hpm, LM⟩ := hMv.keep sH
      refine ⟨rfl, ?_⟩
      refine ⟨_, rfl, pm, _, _, _, rfl, rfl, SqT.of hpm, atI_nat (j := 1) rfl, mn, _, rfl, .inl ⟨SqL.of LM.n, fun t1 ht1 => ?_⟩⟩
      have st1 := Same.new_ (o := .tup (M.ns.map V.int)) ht1
      refine ⟨_, rfl, pm, _, _, _, rfl, rfl, SqT.of (st1 _ _ hpm), atI_nat (j := 2) rfl, mr, _, rfl, .inl ⟨SqL.of (st1 _ _ LM.r), fun t2 ht2 => ?_⟩⟩
      have st2 := st1.trans (Same.new_ (o := .tup (M.row.map V.int)) ht2)
      refine ⟨line (by show 2 ≤ 16777216; decide), fun t3 ht3 => ⟨line (by show 1 ≤ 16777216; decide), fun a na => ?_⟩⟩
      have st3 := st2.trans (Same.new_ (o := .tup [.ref t1, .ref t2]) ht3)
      have st4 := st3.trans (Same.new_ (o := .lst [.ref t3]) na)
      have hsta : IsSta (upd (upd (upd (upd H4' t1 (.tup (M.ns.map V.int))) t2 (.tup (M.row.map V.int))) t3 (.tup [.ref t1, .ref t2])) a (.lst [.ref t3])) (.ref t3) ((N.mch i).ns, (N.mch i).row) := by
        rw [eM]
        exact ⟨t3, t1, t2, rfl, (Same.new_ na) _ _ upd_same, (Same.new_ na) _ _ ((Same.new_ ht3) _ _ ((Same.new_ ht2) _ _ upd_same)), (Same.new_ na) _ _ ((Same.new_ ht3) _ _ upd_same)⟩
      obtain ⟨acc, h1, h2, h3⟩ := S.one s3b hD4 st4 (st3.free na) upd_same lst_nt (by simp [okb0, okb1, okb2, okb3, St]) (by simp [okb0, okb1, okb2, okb3, St]) (fun j k e => LT.tM.inj e) (fun j e => by cases e) coSta_ok (fun _ _ _ _ h t => ⟨.ref t3, h, hsta.tk t⟩)
      exact ⟨acc, h1, line' (by omega), h3⟩
    rintro H4 ⟨A4, G4, S4⟩
    rw [lm] at S4
    have S4L : Lay (okb4 N) A4 G4 H4 := S4.lay
    have s4 : Same H H4 := s3b.trans S4.s
    have od4 : okb4 N .d := .inl od3
    have a4d : A4 .d = p := (S4.same _ od3).1.trans a3d
    have g4d := (S4.same _ od3).2.trans g3dd
    have hp4 := S4L.at' od4 g4d
    rw [a4d] at hp4
    have ek4 : putK [(kS "net", .ref pn), (kS "put", .ref D1), (kS "sender", .ref D2), (kS "worker", .ref D3)] (kS "states") (.ref D4) = [(kS "net", .ref pn), (kS "put", .ref D1), (kS "sender", .ref D2), (kS "worker", .ref D3), (kS "states", .ref D4)] := by
      rw [putK_new [kS "net", kS "put", kS "sender", kS "worker"] (by decide +kernel)]
      rfl
    refine ⟨_, rfl, p, _, rfl, DPut.k (k := kS "states") hp4 (line' (by show 4 < 16777216; decide)), ?_⟩
    rw [ek4]
    have L4b := S4L.put (x := LT.d) (o := .dK [(kS "net", .ref pn), (kS "put", .ref D1), (kS "sender", .ref D2), (kS "worker", .ref D3), (kS "states", .ref D4)]) od4 dK_nt
    rw [a4d] at L4b
    have s4b := s4.putN (o := .dK [(kS "net", .ref pn), (kS "put", .ref D1), (kS "sender", .ref D2), (kS "worker", .ref D3), (kS "states", .ref D4)]) hp
    have S4nw : ∀ x, okb4 N x → H (A4 x) = none := S4.nw
    generalize eG4 : setG G4 LT.d (.dK [(kS "net", V.ref pn), (kS "put", .ref D1), (kS "sender", .ref D2), (kS "worker", .ref D3), (kS "states", .ref D4)]) = G4b at L4b
    have g4n : ∀ x, x ≠ .d → G4b x = G4 x := fun x hx => by rw [← eG4]; exact setG_ne hx
    have g4dd : G4b .d = .dK [(kS "net", .ref pn), (kS "put", .ref D1), (kS "sender", .ref D2), (kS "worker", .ref D3), (kS "states", .ref D4)] := by rw [← eG4]; exact setG_same
    have t4 : Tk H4 (upd H4 p (.dK [(kS "net", V.ref pn), (kS "put", .ref D1), (kS "sender", .ref D2), (kS "worker", .ref D3), (kS "states", .ref D4)])) := (Fr.put (S := (· = p)) rfl (not_tup_dK hp4)).tk
    generalize eH4 : upd H4 p (.dK [(kS "net", V.ref pn), (kS "put", .ref D1), (kS "sender", .ref D2), (kS "worker", .ref D3), (kS "states", .ref D4)]) = H4b at L4b s4b t4
    clear eG4 eH4 ek4
    -- words
    refine ⟨_, rfl, pn, _, _, _, rfl, rfl, SqT.of (s4b _ _ hpn), atI_nat (j := 0) rfl, m, rfl, ⟨_, SqL.of (s4b _ _ Z.m)⟩, fun D5 hD5 => ?_⟩
    refine lc_it (n := ms.length) walk_list (fun i H' => ∃ A G, Stg (okb4 N) A4 G4b H4b H D5 .wds LT.oM (fun j => LT.oC j 0) (coWds) i A G H') ⟨_, _, Stg.zero L4b S4nw s4b hD5 (by simp [okb0, okb1, okb2, okb3, okb4, St])⟩ (fun i H' _ P => SqL.of (by obtain ⟨_, _, P⟩ := P; exact P.s _ _ (s4b _ _ Z.m))) ?_ ?_
    · rintro i y H5 H5' hi ⟨A5, G5, S⟩ ⟨rfl, hy⟩
      refine ⟨rfl, ?_⟩
      refine ⟨line (by show 0 ≤ 16777216; decide), fun a2 na2 => ⟨line (by show 1 ≤ 16777216; decide), fun a na => ?_⟩⟩
      have st := (Same.new_ (o := .lst []) na2).trans (Same.new_ (o := .lst [.ref a2]) na)
      have e2 := (Same.new_ (o := .lst [.ref a2]) na) _ _ (upd_same (H := H5') (a := a2) (o := .lst []))
      obtain ⟨acc, h1, h2, h3⟩ := S.two s4b hD5 st ((Same.new_ (o := .lst []) na2).free na) upd_same lst_nt na2 e2 lst_nt (ne_of_none (upd_same (H := H5') (a := a2) (o := .lst [])) na).symm (by simp [okb0, okb1, okb2, okb3, okb4, St]) (by simp [okb0, okb1, okb2, okb3, okb4, St]) (by simp [okb0, okb1, okb2, okb3, okb4, St]) (fun j k e => LT.oM.inj e) (fun j k e => (LT.oC.inj e).1) (fun j e => by cases e) (fun j e => by cases e) (fun j k e => by cases e) coWds_ok
        (fun A G H _ h2 h3 h4 _ => ⟨by rw [h3, h2], h4⟩)
      exact ⟨acc, h1, line' (by omega), h3⟩
    rintro H5 ⟨A5, G5, S5⟩
    rw [lm] at S5
    have S5L : Lay (okb5 N) A5 G5 H5 := S5.lay
    have s5 : Same H H5 := s4b.trans S5.s
    have od5 : okb5 N .d := .inl od4
    have a5d : A5 .d = p := (S5.same _ od4).1.trans a4d
    have g5d := (S5.same _ od4).2.trans g4dd
    have hp5 := S5L.at' od5 g5d
    rw [a5d] at hp5
    have ek5 : putK [(kS "net", .ref pn), (kS "put", .ref D1), (kS "sender", .ref D2), (kS "worker", .ref D3), (kS "states", .ref D4)] (kS "words") (.ref D5) = [(kS "net", .ref pn), (kS "put", .ref D1), (kS "sender", .ref D2), (kS "worker", .ref D3), (kS "states", .ref D4), (kS "words", .ref D5)] := by
      rw [putK_new [kS "net", kS "put", kS "sender", kS "worker", kS "states"] (by decide +kernel)]
      rfl
    refine ⟨_, rfl, p, _, rfl, DPut.k (k := kS "words") hp5 (line' (by show 5 < 16777216; decide)), ?_⟩
    rw [ek5]
    have L5b := S5L.put (x := LT.d) (o := .dK [(kS "net", .ref pn), (kS "put", .ref D1), (kS "sender", .ref D2), (kS "worker", .ref D3), (kS "states", .ref D4), (kS "words", .ref D5)]) od5 dK_nt
    rw [a5d] at L5b
    have s5b := s5.putN (o := .dK [(kS "net", .ref pn), (kS "put", .ref D1), (kS "sender", .ref D2), (kS "worker", .ref D3), (kS "states", .ref D4), (kS "words", .ref D5)]) hp
    have S5nw : ∀ x, okb5 N x → H (A5 x) = none := S5.nw
    generalize eG5 : setG G5 LT.d (.dK [(kS "net", V.ref pn), (kS "put", .ref D1), (kS "sender", .ref D2), (kS "worker", .ref D3), (kS "states", .ref D4), (kS "words", .ref D5)]) = G5b at L5b
    have g5n : ∀ x, x ≠ .d → G5b x = G5 x := fun x hx => by rw [← eG5]; exact setG_ne hx
    have g5dd : G5b .d = .dK [(kS "net", .ref pn), (kS "put", .ref D1), (kS "sender", .ref D2), (kS "worker", .ref D3), (kS "states", .ref D4), (kS "words", .ref D5)] := by rw [← eG5]; exact setG_same
    have t5 : Tk H5 (upd H5 p (.dK [(kS "net", V.ref pn), (kS "put", .ref D1), (kS "sender", .ref D2), (kS "worker", .ref D3), (kS "states", .ref D4), (kS "words", .ref D5)])) := (Fr.put (S := (· = p)) rfl (not_tup_dK hp5)).tk
    generalize eH5 : upd H5 p (.dK [(kS "net", V.ref pn), (kS "put", .ref D1), (kS "sender", .ref D2), (kS "worker", .ref D3), (kS "states", .ref D4), (kS "words", .ref D5)]) = H5b at L5b s5b t5
    clear eG5 eH5 ek5
    -- heard
    refine ⟨_, rfl, pn, _, _, _, rfl, rfl, SqT.of (s5b _ _ hpn), atI_nat (j := 0) rfl, m, rfl, ⟨_, SqL.of (s5b _ _ Z.m)⟩, fun D6 hD6 => ?_⟩
    refine lc_it (n := ms.length) walk_list (fun i H' => ∃ A G, Stg (okb5 N) A5 G5b H5b H D6 .hrd LT.hM LT.hM (coIs LT.hM (.lst [])) i A G H') ⟨_, _, Stg.zero L5b S5nw s5b hD6 (by simp [okb0, okb1, okb2, okb3, okb4, okb5, St])⟩ (fun i H' _ P => SqL.of (by obtain ⟨_, _, P⟩ := P; exact P.s _ _ (s5b _ _ Z.m))) ?_ ?_
    · rintro i y H6 H6' hi ⟨A6, G6, S⟩ ⟨rfl, hy⟩
      refine ⟨rfl, line (by show 0 ≤ 16777216; decide), fun a na => ?_⟩
      obtain ⟨acc, h1, h2, h3⟩ := S.one s5b hD6 (Same.new_ na) na upd_same lst_nt (by simp [okb0, okb1, okb2, okb3, okb4, okb5, St]) (by simp [okb0, okb1, okb2, okb3, okb4, okb5, St]) (fun j k e => LT.hM.inj e) (fun j e => by cases e) coIs_ok (fun _ _ _ _ h _ => h)
      exact ⟨acc, h1, line' (by omega), h3⟩
    rintro H6 ⟨A6, G6, S6⟩
    rw [lm] at S6
    have S6L : Lay (okb6 N) A6 G6 H6 := S6.lay
    have s6 : Same H H6 := s5b.trans S6.s
    have od6 : okb6 N .d := .inl od5
    have a6d : A6 .d = p := (S6.same _ od5).1.trans a5d
    have g6d := (S6.same _ od5).2.trans g5dd
    have hp6 := S6L.at' od6 g6d
    rw [a6d] at hp6
    have ek6 : putK [(kS "net", .ref pn), (kS "put", .ref D1), (kS "sender", .ref D2), (kS "worker", .ref D3), (kS "states", .ref D4), (kS "words", .ref D5)] (kS "heard") (.ref D6) = [(kS "net", .ref pn), (kS "put", .ref D1), (kS "sender", .ref D2), (kS "worker", .ref D3), (kS "states", .ref D4), (kS "words", .ref D5), (kS "heard", .ref D6)] := by
      rw [putK_new [kS "net", kS "put", kS "sender", kS "worker", kS "states", kS "words"] (by decide +kernel)]
      rfl
    refine ⟨_, rfl, p, _, rfl, DPut.k (k := kS "heard") hp6 (line' (by show 6 < 16777216; decide)), ?_⟩
    rw [ek6]
    have L6b := S6L.put (x := LT.d) (o := .dK [(kS "net", .ref pn), (kS "put", .ref D1), (kS "sender", .ref D2), (kS "worker", .ref D3), (kS "states", .ref D4), (kS "words", .ref D5), (kS "heard", .ref D6)]) od6 dK_nt
    rw [a6d] at L6b
    have s6b := s6.putN (o := .dK [(kS "net", .ref pn), (kS "put", .ref D1), (kS "sender", .ref D2), (kS "worker", .ref D3), (kS "states", .ref D4), (kS "words", .ref D5), (kS "heard", .ref D6)]) hp
    have S6nw : ∀ x, okb6 N x → H (A6 x) = none := S6.nw
    generalize eG6 : setG G6 LT.d (.dK [(kS "net", V.ref pn), (kS "put", .ref D1), (kS "sender", .ref D2), (kS "worker", .ref D3), (kS "states", .ref D4), (kS "words", .ref D5), (kS "heard", .ref D6)]) = G6b at L6b
    have g6n : ∀ x, x ≠ .d → G6b x = G6 x := fun x hx => by rw [← eG6]; exact setG_ne hx
    have g6dd : G6b .d = .dK [(kS "net", .ref pn), (kS "put", .ref D1), (kS "sender", .ref D2), (kS "worker", .ref D3), (kS "states", .ref D4), (kS "words", .ref D5), (kS "heard", .ref D6)] := by rw [← eG6]; exact setG_same
    have t6 : Tk H6 (upd H6 p (.dK [(kS "net", V.ref pn), (kS "put", .ref D1), (kS "sender", .ref D2), (kS "worker", .ref D3), (kS "states", .ref D4), (kS "words", .ref D5), (kS "heard", .ref D6)])) := (Fr.put (S := (· = p)) rfl (not_tup_dK hp6)).tk
    generalize eH6 : upd H6 p (.dK [(kS "net", V.ref pn), (kS "put", .ref D1), (kS "sender", .ref D2), (kS "worker", .ref D3), (kS "states", .ref D4), (kS "words", .ref D5), (kS "heard", .ref D6)]) = H6b at L6b s6b t6
    clear eG6 eH6 ek6
    -- events
    refine ⟨line (by show 0 ≤ 16777216; decide), fun De hDe => ?_⟩
    have sE := Same.new_ (o := .lst []) hDe
    have L7 := L6b.add (ok' := LT.ok N (fun _ => 0) (fun _ => 0)) (x := LT.evs) hDe (by simp [okb0, okb1, okb2, okb3, okb4, okb5, okb6, St]) (o := .lst []) lst_nt (fun y hy => okb6_all y hy)
    have nw7 := nw_set (x := LT.evs) (ok' := LT.ok N (fun _ => 0) (fun _ => 0)) S6nw (s6b.free hDe) (fun y hy => okb6_all y hy)
    have a7 : ∀ x, x ≠ .evs → setG A6 .evs De x = A6 x := fun x hx => setG_ne hx
    have g7 : ∀ x, x ≠ .evs → setG G6b .evs (.lst []) x = G6b x := fun x hx => setG_ne hx
    have hp7 := L7.at' (t := LT.d) trivial ((g7 .d (by intro z; cases z)).trans g6dd)
    rw [a7 .d (by intro z; cases z), a6d] at hp7
    have ek7 : putK [(kS "net", .ref pn), (kS "put", .ref D1), (kS "sender", .ref D2), (kS "worker", .ref D3), (kS "states", .ref D4), (kS "words", .ref D5), (kS "heard", .ref D6)] (kS "events") (.ref De) = [(kS "net", .ref pn), (kS "put", .ref D1), (kS "sender", .ref D2), (kS "worker", .ref D3), (kS "states", .ref D4), (kS "words", .ref D5), (kS "heard", .ref D6), (kS "events", .ref De)] := by
      rw [putK_new [kS "net", kS "put", kS "sender", kS "worker", kS "states", kS "words", kS "heard"] (by decide +kernel)]
      rfl
    refine ⟨_, rfl, p, _, rfl, DPut.k (k := kS "events") hp7 (line' (by show 7 < 16777216; decide)), ?_⟩
    rw [ek7]
    have L8 := L7.put (x := LT.d) (o := .dK [(kS "net", .ref pn), (kS "put", .ref D1), (kS "sender", .ref D2), (kS "worker", .ref D3), (kS "states", .ref D4), (kS "words", .ref D5), (kS "heard", .ref D6), (kS "events", .ref De)]) trivial dK_nt
    rw [a7 .d (by intro z; cases z), a6d] at L8
    have s7 := (s6b.trans sE).putN (o := .dK [(kS "net", .ref pn), (kS "put", .ref D1), (kS "sender", .ref D2), (kS "worker", .ref D3), (kS "states", .ref D4), (kS "words", .ref D5), (kS "heard", .ref D6), (kS "events", .ref De)]) hp
    have t7 : Tk H6b (upd (upd H6b De (.lst [])) p (.dK [(kS "net", .ref pn), (kS "put", .ref D1), (kS "sender", .ref D2), (kS "worker", .ref D3), (kS "states", .ref D4), (kS "words", .ref D5), (kS "heard", .ref D6), (kS "events", .ref De)])) := (Same.tk_ sE).trans (Fr.put (S := (· = p)) rfl (not_tup_dK hp7)).tk
    -- what stands where
    have A6e : ∀ x, okb5 N x → A6 x = A5 x := fun x h => (S6.same x h).1
    have G6e : ∀ x, okb5 N x → x ≠ .d → G6 x = G5 x := fun x h n => (S6.same x h).2.trans (g5n x n)
    have A5e : ∀ x, okb4 N x → A6 x = A4 x := fun x h => (A6e x (.inl h)).trans (S5.same x h).1
    have G5e : ∀ x, okb4 N x → x ≠ .d → G6 x = G4 x := fun x h n => (G6e x (.inl h) n).trans ((S5.same x h).2.trans (g4n x n))
    have A4e : ∀ x, okb3 N x → A6 x = A3 x := fun x h => (A5e x (.inl h)).trans (S4.same x h).1
    have G4e : ∀ x, okb3 N x → x ≠ .d → G6 x = G3 x := fun x h n => (G5e x (.inl h) n).trans ((S4.same x h).2.trans (g3n x n))
    have A3e : ∀ x, okb2 N x → A6 x = A2 x := fun x h => (A4e x (.inl h)).trans (S3.same x h).1
    have G3e : ∀ x, okb2 N x → x ≠ .d → G6 x = G2 x := fun x h n => (G4e x (.inl h) n).trans ((S3.same x h).2.trans (g2n x n))
    have A2e : ∀ x, okb1 N x → A6 x = A1 x := fun x h => (A3e x (.inl h)).trans (S2.same x h).1
    have G2e : ∀ x, okb1 N x → x ≠ .d → G6 x = G1 x := fun x h n => (G3e x (.inl h) n).trans (S2.same x h).2
    have GG : ∀ x, x ≠ .d → x ≠ .evs → setG (setG G6b .evs (.lst [])) .d (.dK [(kS "net", .ref pn), (kS "put", .ref D1), (kS "sender", .ref D2), (kS "worker", .ref D3), (kS "states", .ref D4), (kS "words", .ref D5), (kS "heard", .ref D6), (kS "events", .ref De)]) x = G6 x := fun x h1 h2 => by rw [setG_ne h1, setG_ne h2, g6n x h1]
    have mp : ∀ {n : Nat} {f : Nat → LT} {A' : LT → Addr}, (∀ i, i < n → f i ≠ .evs ∧ A6 (f i) = A' (f i)) → (List.range n).map (fun i => V.ref (A' (f i))) = (List.range n).map fun i => V.ref (setG A6 .evs De (f i)) := fun h => List.map_congr_left fun i hi => by
      obtain ⟨h1, h2⟩ := h i (List.mem_range.mp hi)
      rw [a7 _ h1, h2]
    have P0 : LRunAt (upd (upd H6b De (.lst [])) p (.dK [(kS "net", .ref pn), (kS "put", .ref D1), (kS "sender", .ref D2), (kS "worker", .ref D3), (kS "states", .ref D4), (kS "words", .ref D5), (kS "heard", .ref D6), (kS "events", .ref De)])) (.ref pn) (setG A6 .evs De) (setG (setG G6b .evs (.lst [])) .d (.dK [(kS "net", .ref pn), (kS "put", .ref D1), (kS "sender", .ref D2), (kS "worker", .ref D3), (kS "states", .ref D4), (kS "words", .ref D5), (kS "heard", .ref D6), (kS "events", .ref De)])) N (begun0 N) (fun _ => 0) := by
      refine ⟨L8, ?_, ?_, ?_, ?_, ?_, ?_, ?_, ⟨[], ?_, .nil⟩, fun w hw => ?_, fun w hw => ⟨[], ?_, .nil⟩, fun w hw => ⟨[], ?_, .nil⟩, fun j hj => ?_, fun j hj => ?_, fun j hj => ?_, fun j c hj hc => ?_, fun j c hj hc => absurd hc (Nat.not_lt_zero _)⟩
      · rw [setG_same]
        unfold runD
        rw [a7 .put (by intro z; cases z), a7 .snd (by intro z; cases z), a7 .wk (by intro z; cases z), a7 .sts (by intro z; cases z), a7 .wds (by intro z; cases z), a7 .hrd (by intro z; cases z), setG_same,
          A2e .put (.inr (.inl rfl)), S1.aD, A3e .snd (.inr (.inl rfl)), S2.aD, A4e .wk (.inr (.inl rfl)), S3.aD, A5e .sts (.inr (.inl rfl)), S4.aD, A6e .wds (.inr (.inl rfl)), S5.aD, S6.aD]
      · rw [GG _ (by intro z; cases z) (by intro z; cases z), G2e .put (.inr (.inl rfl)) (by intro z; cases z), S1.gD, mp fun i hi => ⟨(by intro z; cases z), A2e (.p i) (.inr (.inr ⟨i, hi, .inl rfl⟩))⟩]
      · rw [GG _ (by intro z; cases z) (by intro z; cases z), G3e .snd (.inr (.inl rfl)) (by intro z; cases z), S2.gD, mp fun i hi => ⟨(by intro z; cases z), A3e (.s i) (.inr (.inr ⟨i, hi, .inl rfl⟩))⟩]
      · rw [GG _ (by intro z; cases z) (by intro z; cases z), G4e .wk (.inr (.inl rfl)) (by intro z; cases z), S3.gD, mp fun i hi => ⟨(by intro z; cases z), A4e (.k i) (.inr (.inr ⟨i, hi, .inl rfl⟩))⟩]
      · rw [GG _ (by intro z; cases z) (by intro z; cases z), G5e .sts (.inr (.inl rfl)) (by intro z; cases z), S4.gD, mp fun i hi => ⟨(by intro z; cases z), A5e (.tM i) (.inr (.inr ⟨i, hi, .inl rfl⟩))⟩]
      · rw [GG _ (by intro z; cases z) (by intro z; cases z), G6e .wds (.inr (.inl rfl)) (by intro z; cases z), S5.gD, mp fun i hi => ⟨(by intro z; cases z), A6e (.oM i) (.inr (.inr ⟨i, hi, .inl rfl⟩))⟩]
      · rw [GG _ (by intro z; cases z) (by intro z; cases z), S6.gD, mp fun i hi => ⟨(by intro z; cases z), rfl⟩]
      · rw [setG_ne (by intro z; cases z), setG_same]
      · rw [GG _ (by intro z; cases z) (by intro z; cases z), G2e (.p w) (.inr (.inr ⟨w, hw, .inl rfl⟩)) (by intro z; cases z)]
        exact S1.co w hw
      · rw [GG _ (by intro z; cases z) (by intro z; cases z), G3e (.s w) (.inr (.inr ⟨w, hw, .inl rfl⟩)) (by intro z; cases z)]
        exact S2.co w hw
      · rw [GG _ (by intro z; cases z) (by intro z; cases z), G4e (.k w) (.inr (.inr ⟨w, hw, .inl rfl⟩)) (by intro z; cases z)]
        exact S3.co w hw
      · obtain ⟨v, q1, q2⟩ := S4.co j hj
        rw [GG _ (by intro z; cases z) (by intro z; cases z), G5e (.tM j) (.inr (.inr ⟨j, hj, .inl rfl⟩)) (by intro z; cases z)]
        refine ⟨[v], q1, .cons ?_ .nil⟩
        exact (((q2.tk t4).tk (Same.tk_ S5.s)).tk t5).tk ((Same.tk_ S6.s).trans (t6.trans t7))
      · rw [GG _ (by intro z; cases z) (by intro z; cases z), G6e (.oM j) (.inr (.inr ⟨j, hj, .inl rfl⟩)) (by intro z; cases z), (S5.co j hj).1, ← A6e (.oC j 0) (.inr (.inr ⟨j, hj, .inr rfl⟩)), ← a7 (.oC j 0) (by intro z; cases z)]
        rfl
      · rw [GG _ (by intro z; cases z) (by intro z; cases z)]
        exact S6.co j hj
      · have : c = 0 := Nat.le_zero.mp hc
        subst this
        rw [GG _ (by intro z; cases z) (by intro z; cases z), G6e (.oC j 0) (.inr (.inr ⟨j, hj, .inr rfl⟩)) (by intro z; cases z), (S5.co j hj).2]
        rfl
    generalize setG (setG G6b .evs (.lst [])) .d (.dK [(kS "net", .ref pn), (kS "put", .ref D1), (kS "sender", .ref D2), (kS "worker", .ref D3), (kS "states", .ref D4), (kS "words", .ref D5), (kS "heard", .ref D6), (kS "events", .ref De)]) = Gf at P0
    generalize eAf : setG A6 .evs De = Af at P0 nw7
    have afd : Af .d = p := by rw [← eAf]; exact (a7 .d (by intro z; cases z)).trans a6d
    generalize upd (upd H6b De (.lst [])) p (.dK [(kS "net", .ref pn), (kS "put", .ref D1), (kS "sender", .ref D2), (kS "worker", .ref D3), (kS "states", .ref D4), (kS "words", .ref D5), (kS "heard", .ref D6), (kS "events", .ref De)]) = Hf at P0 s7
    -- the letters
    refine ⟨_, rfl, pn, _, _, _, rfl, rfl, SqT.of (s7 _ _ hpn), atI_nat (j := 2) rfl, l, rfl, ⟨_, SqL.of (s7 _ _ Z.l)⟩, ?_⟩
    have nwL : ∀ b, Lf (LT.ok N (fun _ => 0) (fun _ => 0)) Af b → H b = none := by
      rintro b ⟨x, hx, rfl⟩
      exact nw7 x hx
    refine for_it (n := ls.length) walk_list (fun i σ H' => (∃ v1 v3, σ = [some (.ref pn), v1, some (.ref p), v3, none]) ∧ Fr (Lf (LT.ok N (fun _ => 0) (fun _ => 0)) Af) Hf H' ∧ ∃ G', LRunAt H' (.ref pn) Af G' N (begunI N i) (fun _ => 0))
      ⟨⟨_, _, rfl⟩, Fr.refl, Gf, P0⟩ (fun i σ H' _ P => SqL.of ((P.2.1.same s7 nwL) _ _ Z.l)) ?_ ?_
    · rintro i y σ H8 H9 hi ⟨⟨v1, v3, rfl⟩, F8, G', P8⟩ ⟨rfl, hy⟩
      obtain ⟨⟨w, x⟩, hl, hl2⟩ := Z.ls.cget hy
      have s8 := F8.same s7 nwL
      obtain ⟨pl, rfl, hpl⟩ := hl2.tk (Same.tk_ s8)
      have hw : w < N.ws.length := (hN.ls _ (List.mem_of_getElem? hl)).1
      have len : ((begunI N i).put w).length ≤ 12 := Nat.le_trans (List.length_filterMap_le _ _) (by rw [List.length_take]; omega)
      have lsn : ((begunI N i).snd w).length ≤ 12 := Nat.le_trans (List.length_filterMap_le _ _) (by rw [List.length_take]; omega)
      refine ⟨pl, _, rfl, SqT.of hpl, rfl, _, _, rfl, _, _, rfl, rfl, ?_⟩
      have gp := P8.g_put
      rw [afd] at gp
      refine ⟨_, rfl, p, _, rfl, gp, _, rfl, Af .put, _, _, .ref (Af (.p w)), rfl, rfl, SqL.of P8.a_put, atI_nat (rm_get hw), .inl ⟨rfl, _, SqL.of (P8.a_p hw)⟩, _, rfl, Af (.p w), _, _, rfl, rfl, P8.a_p hw, line' (by rw [List.length_map]; omega), ?_⟩
      obtain ⟨G9, P9, F9⟩ := P8.put1 hw (x := x)
      obtain ⟨ss, hs, ps⟩ := P9.a_s hw
      have lss := ps.length
      have gs := P9.g_snd
      rw [afd] at gs
      refine ⟨_, rfl, p, _, rfl, gs, _, rfl, Af .snd, _, _, .ref (Af (.s w)), rfl, rfl, SqL.of P9.a_snd, atI_nat (rm_get hw), .inl ⟨rfl, _, SqL.of hs⟩, Af (.s w), _, _, rfl, rfl, hs, line' (by rw [lss]; show ((begunI N i).snd w).length < _; omega), ?_⟩
      obtain ⟨G10, P10, F10⟩ := P9.snd1 hw (e := none) (ev := .non) rfl hs
      refine ⟨⟨_, _, rfl⟩, F8.trans (F9.trans F10), G10, ?_⟩
      rw [begunI_succ hl]
      exact P10
    · rintro σ H8 ⟨⟨v1, v3, rfl⟩, F8, G', P8⟩
      rw [ll, begunI_all] at P8
      exact ⟨_, rfl, kq H8 (.ref p) (Lf (LT.ok N (fun _ => 0) (fun _ => 0)) Af) ⟨F8.same s7 nwL, nwL, .ref pn, Af, G', by rw [afd], hnet, P8, fun b => Iff.rfl⟩ fun Hb sb hb => ⟨sb.trans (F8.same s7 nwL), fun b h => sb.free (nwL b h), .ref pn, Af, G', by rw [afd], hb, P8, fun b => Iff.rfl⟩⟩
end Cr
namespace Cr
open PySem PySem.Spec PyProof.Rows L2 He
theorem sc_Llying : FnScope ["_law_run", "_law_way", "_law_k"] ["_law_run", "_law_way"] (defScope s_Llying) := ⟨rfl, rfl, rfl, by decide +kernel, rfl, by decide +kernel, by decide +kernel⟩
def sp_Llying (K : PySem.W.Frag) : Sp := fun vs H Q _ => ∃ (nv : V) (A : LT → Addr) (G : LT → HO) (N : Nt) (R : Run) (hn : Nat → Nat) (w : Nat), vs = [.ref (A .d), .int (w : Nat)] ∧ LRunAt H nv A G N R hn ∧ w < N.ws.length ∧ (R.put w).length < 16777216 ∧
  ∀ H' q, Same H H' → H q = none → H' q = some (.lst ((R.lying w).map vN)) → Q (.ref q) H'
theorem ok_Llying {P : Program} {w : World} {K : PySem.W.Frag} {mg : Str → Option Value} {base : Heap} (T : Txt K mg) : Cal P w K mg base 1 "_law_lying" (sp_Llying K) := by
  refine Cal.mk0 T.g_Llying T.D_Llying sc_Llying (fun _ _ _ _ _ _ us hl => match us, hl with | [_, _], _ => rfl) (fun vs H Q E h => ?_) (fun cdv A outer s H vs Q E hr h => ?_)
  · obtain ⟨nv, A, G, N, R, hn, w, rfl, _⟩ := h
    rfl
  · obtain ⟨nv, A', G, N, R, hn, w', rfl, P, hw, hl, k⟩ := h
    refine ⟨_, (pss_one (ps_ret (pe_lc (own := [("_law_k", 2)]) rfl sc_Llying.nd (pi_range1 (by rfl) T.f_range (pa_cons (pe_callB call_len_seq (by rfl) T.f_len (by decide +kernel) (pa_cons (pe_ix ix_list (pe_dget (hu_of hr) (pv 0) pe_str (fun _ _ => rfl)) (pv 1) (fun _ _ => rfl)) pa_nil)) pa_nil)) (blkOk_by (own := [("_law_k", 2)]) (N := ["_law_run", "_law_way", "_law_k"]) (sc := defScope s_Llying) (by decide +kernel)) (fun _ _ _ _ _ => (pg_name (i := 2) sc_Llying.nd rfl (Or.inl rfl))) (fun _ _ _ _ _ => pts_one (pt_cmp (pc_dnotin (hu_of hr) (pv 2) (pe_ix (ix_listK (K := K) rfl) (pe_dget (hu_of hr) (pv 0) pe_str (fun _ _ => rfl)) (pv 1) (fun _ _ => rfl))))) (fun _ _ _ _ _ => (pv 2))))), ?_⟩
    refine ⟨_, rfl, A' .d, _, rfl, P.g_put, _, rfl, A' .put, _, _, _, rfl, rfl, SqL.of P.a_put, atI_nat (rm_get hw), A' (.p w'), _, rfl, .inl (SqL.of (P.a_p hw)), _, rfl, by rw [List.length_map]; omega, by rw [List.length_map]; omega, fun D hD => ?_⟩
    refine lc_it (n := ((R.put w').map V.int).length) walk_rngN (fun i H' => H' D = some (.lst (((List.range i).filter fun n => (R.worker w' n).isNone).map vN)) ∧ Same H H') ⟨upd_same, Same.new_ hD⟩ (fun _ _ _ _ => trivial) ?_ ?_
    · rintro i x H1 H1' hi ⟨P1, P2⟩ ⟨rfl, rfl⟩
      rw [List.length_map] at hi
      refine ⟨rfl, ?_⟩
      have P' := P.keep P2
      obtain ⟨ks, hk, pk⟩ := P'.a_k hw
      have hv := kv_val pk i
      refine ⟨_, rfl, _, rfl, A' .d, _, rfl, P'.g_wk, _, rfl, A' .wk, _, _, _, rfl, rfl, SqL.of P'.a_wk, atI_nat (rm_get hw), A' (.k w'), _, rfl, DGet.k (k := .inl ((i : Nat) : Int)) hk, _, rfl, ?_⟩
      have e : (!(valV ks (.inl ((i : Nat) : Int))).isSome) = (R.worker w' i).isNone := by
        unfold Run.worker
        cases q : (R.wk w').lookup i with
        | none => rw [q] at hv; rw [show valV ks (.inl ((i : Nat) : Int)) = none from hv]; rfl
        | some e => rw [q] at hv; obtain ⟨v, h1, _⟩ := hv; rw [h1]; rfl
      cases q : (R.worker w' i).isNone with
      | true =>
        refine iteE (e.trans q) ?_
        refine ⟨_, rfl, _, P1, line' (by have := @rf_len V (fun n => (R.worker w' n).isNone) vN i; omega), ?_, P2.putN hD⟩
        rw [upd_same, rf_t q]
      | false =>
        refine iteG (e.trans q) ?_
        exact ⟨by rw [rf_f q]; exact P1, P2⟩
    · rintro H1 ⟨P1, P2⟩
      rw [List.length_map] at P1
      exact k H1 D P2 hD P1
end Cr
namespace Cr
open PySem PySem.Spec PyProof.Rows L2 He
theorem sc_Lfree : FnScope ["_law_run", "_law_free_here", "_law_way", "_law_told_here", "_law_numbers", "_law_number"] ["_law_run"] (defScope s_Lfree) := ⟨rfl, rfl, rfl, by decide +kernel, rfl, by decide +kernel, by decide +kernel⟩
def Run.nums (N : Nt) (R : Run) (w : Nat) : List Nat := if N.isRow w then (R.lying w).take 1 else R.lying w
theorem nums_len {N : Nt} {R : Run} {w : Nat} : (R.nums N w).length ≤ (R.put w).length := by
  have h : (R.lying w).length ≤ (R.put w).length := by
    unfold Run.lying
    have := List.length_filter_le (fun n => (R.worker w n).isNone) (List.range (R.put w).length)
    rw [List.length_range] at this
    exact this
  unfold Run.nums
  split
  · rw [List.length_take]; omega
  · exact h
def sp_Lfree (K : PySem.W.Frag) : Sp := fun vs H Q _ => ∃ (nv : V) (A : LT → Addr) (G : LT → HO) (N : Nt) (R : Run) (hn : Nat → Nat), vs = [.ref (A .d)] ∧ LRunAt H nv A G N R hn ∧ IsLNet H nv N ∧ N.ok ∧ R.Ok N ∧ R.evs.length ≤ 1000 ∧
  ∀ H' q us, Same H H' → H q = none → H' q = some (.lst us) → Paired (IsPk H') us (R.free N) → Q (.ref q) H'
theorem ok_Lfree {P : Program} {w : World} {K : PySem.W.Frag} {mg : Str → Option Value} {base : Heap} (T : Txt K mg) : Cal P w K mg base 2 "_law_free" (sp_Lfree K) := by
  have G_Llying := ok_Llying (P := P) (w := w) (base := base) T
  refine Cal.mk0 T.g_Lfree T.D_Lfree sc_Lfree (fun _ _ _ _ _ _ us hl => match us, hl with | [_], _ => rfl) (fun vs H Q E h => ?_) (fun cdv A outer s H vs Q E hr h => ?_)
  · obtain ⟨nv, A, G, N, R, hn, rfl, _⟩ := h
    rfl
  · obtain ⟨nv, A', G, N, R, hn, rfl, P, Z, hN, hR, hev, k⟩ := h
    obtain ⟨pn, m, wl, l, ms, ws, ls, rfl, hpn, Z⟩ := Z
    have lws := Z.ws.length
    have w10 := hN.w10
    refine ⟨_, (pss_cons (ps_set (i := 1) sc_Lfree.nd rfl (Or.inl rfl) (pe_lst pa_nil))
      (pss_cons (ps_for PassesOwn.never rfl (pi_enum (by rfl) T.f_enumerate (pa_cons (pe_ix ix_tup (pe_dget (hu_of hr) (pv 0) pe_str (fun _ _ => rfl)) pe_int (fun _ _ => rfl)) pa_nil)) (pg_tup rfl (pgs_cons (pg_name (i := 2) sc_Lfree.nd rfl (Or.inr rfl)) (pgs_cons (pg_name (i := 3) sc_Lfree.nd rfl (Or.inl rfl)) pgs_nil))) (pss_cons (ps_set (i := 4) sc_Lfree.nd rfl (Or.inl rfl) (pe_c G_Llying hr (by decide) (by rfl) (pa_cons (pv 0) (pa_cons (pv 2) pa_nil))))
      (Evl.pss_cut (ps_if (pt_cmpR op_eq (pe_ix ix_tup (pv 3) pe_int (fun _ _ => rfl)) pe_str (nomark _)) (pss_one (ps_set (i := 4) sc_Lfree.nd rfl (Or.inl rfl) (pe_slice sl_list (pv 4) po_none (po_some pe_int)))) pss_nil)
      (pss_one (ps_set (i := 1) sc_Lfree.nd rfl (Or.inl rfl) (pe_op op_cat (pv 1) (pe_lc (own := [("_law_number", 5)]) rfl sc_Lfree.nd (pi_list (pv 4)) (blkOk_by (own := [("_law_number", 5)]) (N := ["_law_run", "_law_free_here", "_law_way", "_law_told_here", "_law_numbers", "_law_number"]) (sc := defScope s_Lfree) (by decide +kernel)) (fun _ _ _ _ _ => (pg_name (i := 5) sc_Lfree.nd rfl (Or.inl rfl))) (fun _ _ _ _ _ => pts_nil) (fun _ _ _ _ _ => (pe_tup (pa_cons (pv 2) (pa_cons (pv 5) pa_nil)))))))))))
      (pss_one (ps_ret (pv 1))))), ?_⟩
    refine ⟨line (by show 0 ≤ 16777216; decide), fun D0 hD0 => ?_⟩
    have s1 := Same.new_ (o := .lst []) hD0
    have P1 := P.keep s1
    refine ⟨_, rfl, A' .d, _, rfl, P1.g_net, pn, _, _, _, rfl, rfl, SqT.of (s1 _ _ hpn), atI_nat (j := 1) rfl, wl, _, rfl, SqL.of (s1 _ _ Z.w), ?_⟩
    refine for_it (n := ws.length) walk_enum (fun i σ H' => ∃ D v2 v3 v4, σ = [some (.ref (A' .d)), some (.ref D), v2, v3, v4, none] ∧ Same H H' ∧ H D = none ∧ ∃ us, H' D = some (.lst us) ∧ Paired (IsPk H') us ((List.range i).flatMap (R.freeW N)))
      ⟨D0, _, _, _, rfl, s1, hD0, [], upd_same, .nil⟩ (fun i σ H' _ P => SqL.of (by obtain ⟨_, _, _, _, _, s, _⟩ := P; exact s _ _ Z.w)) ?_ ?_
    · rintro i y σ H2 H3 hi ⟨D, v2, v3, v4, rfl, s2, fD, us, hus, pus⟩ ⟨t, x1, x2, rfl, ht, rfl, e1, e2⟩
      cases e1
      have hw : i < N.ws.length := by omega
      have st := Same.new_ (o := .tup [.int (i : Nat), x2]) ht
      have s3 := s2.trans st
      obtain ⟨wy, hwy, hwy2⟩ := Z.ws.cget e2
      have ewy : wy = (N.src i, N.goal i, N.isRow i) := Option.some.inj (hwy.symm.trans (N.way_at hw))
      subst ewy
      obtain ⟨pw, rfl, hpw⟩ := hwy2.tk (Same.tk_ s3)
      have pl := hR.pl i
      refine ⟨t, _, rfl, SqT.of upd_same, rfl, _, _, rfl, _, _, rfl, rfl, ?_⟩
      refine ⟨_, rfl, _, rfl, .ref pn, A', G, N, R, hn, i, rfl, P.keep s3, hw, by omega, fun H4 q s4 nq hq => ?_⟩
      have s4' := s3.trans s4
      have hus4 := s4 _ _ (st _ _ hus)
      have pus4 := pus.cimp fun _ _ z => IsPk.tk z (Same.tk_ (st.trans s4))
      refine ⟨fun σ H' => ∃ q', σ = [some (.ref (A' .d)), some (.ref D), some (.int (i : Nat)), some (.ref pw), some (.ref q'), none] ∧ Same H4 H' ∧ H' q' = some (.lst ((R.nums N i).map vN)), ?_, ?_⟩
      · refine ⟨_, rfl, pw, _, _, _, rfl, rfl, SqT.of (s4 _ _ hpw), atI_nat (j := 2) rfl, rfl, _, rfl, ?_⟩
        cases hr : N.isRow i with
        | true =>
          refine iteE (show decide (V.str (sortT true) = V.str "row") = true from by decide +kernel) ?_
          refine ⟨_, rfl, _, rfl, q, _, rfl, SqL.of hq, fun q' hq' => ⟨q', rfl, Same.new_ hq', ?_⟩⟩
          rw [upd_same]
          unfold Run.nums
          rw [hr, if_pos rfl, List.map_take]
          exact congrArg (fun z => some (HO.lst z)) (cut_to _ 1)
        | false =>
          refine iteG (show decide (V.str (sortT false) = V.str "row") = false from by decide +kernel) ?_
          refine ⟨q, rfl, Same.refl _, ?_⟩
          unfold Run.nums
          rw [hr, if_neg Bool.false_ne_true]
          exact hq
      · rintro σ H5 ⟨q', rfl, s5, hq'⟩
        have s45 := s4'.trans s5
        have hus5 := s5 _ _ hus4
        have nlen := @nums_len N R i
        have lus := pus.length
        have l1 : ((List.range i).flatMap (R.freeW N)).length ≤ i * 12012 := fm_len (fun w => by
          unfold Run.freeW
          rw [List.length_map]
          have := @nums_len N R w
          have := hR.pl w
          have e : (if N.isRow w then (R.lying w).take 1 else R.lying w) = R.nums N w := rfl
          rw [e]; omega) i
        refine ⟨_, rfl, _, rfl, q', rfl, ⟨_, SqL.of hq'⟩, fun Dc hDc => ?_⟩
        have sc := Same.new_ (o := .lst []) hDc
        refine lc_it (n := ((R.nums N i).map vN).length) walk_list (fun j H' => Same H5 H' ∧ ∃ cs, H' Dc = some (.lst cs) ∧ Paired (IsPk H') cs (((R.nums N i).take j).map fun n => (i, n))) ⟨sc, [], upd_same, .nil⟩ (fun j H' _ P => SqL.of (P.1 _ _ hq')) ?_ ?_
        · rintro j x H6 H6' hj ⟨s6, cs, hcs, pcs⟩ ⟨rfl, hx⟩
          rw [List.length_map] at hj
          have ej : (R.nums N i)[j]? = some (R.nums N i)[j] := List.getElem?_eq_getElem hj
          rw [List.getElem?_map, ej] at hx
          cases hx
          have lcs := pcs.length
          rw [List.length_map, List.length_take] at lcs
          refine ⟨rfl, ?_⟩
          refine ⟨_, rfl, _, rfl, line (by show 2 ≤ 16777216; decide), fun t2 ht2 => ?_⟩
          have st2 := Same.new_ (o := .tup [.int (i : Nat), vN (R.nums N i)[j]]) ht2
          have tF := (Fr.put (S := (· = Dc)) (o := .lst (cs ++ [.ref t2])) rfl (not_tup_lst (st2 _ _ hcs))).tk
          refine ⟨cs, st2 _ _ hcs, line' (by omega), (s6.trans st2).putN hDc, _, upd_same, ?_⟩
          rw [take_more ej, List.map_append]
          exact (pcs.cimp fun _ _ z => z.tk ((Same.tk_ st2).trans tF)).csnoc2 ⟨t2, rfl, tF _ _ upd_same⟩
        · rintro H6 ⟨s6, cs, hcs, pcs⟩
          rw [List.length_map, List.take_length] at pcs
          have lcs := pcs.length
          rw [List.length_map] at lcs
          refine ⟨D, Dc, us, cs, rfl, rfl, s6 _ _ hus5, hcs, line (by omega), fun D' hD' => ?_⟩
          have s7 := Same.new_ (o := .lst (us ++ cs)) hD'
          have s57 := s5.trans (s6.trans s7)
          refine ⟨D', _, _, _, rfl, (s45.trans s6).trans s7, (s45.trans s6).free hD', _, upd_same, ?_⟩
          rw [fm_succ]
          exact (pus4.cimp fun _ _ z => z.tk (Same.tk_ s57)).capp (pcs.cimp fun _ _ z => z.tk (Same.tk_ s7))
    · rintro σ H2 ⟨D, v2, v3, v4, rfl, s2, fD, us, hus, pus⟩
      rw [lws] at pus
      exact ⟨_, rfl, k H2 D us s2 fD hus pus⟩
end Cr
namespace Cr
open PySem PySem.Spec PyProof.Rows L2 He
theorem sc_worth_of : FnScope ["value", "state", "way", "said", "modulus", "kind"] ["value", "state", "way", "said", "modulus"] (defScope s_worth_of) := ⟨rfl, rfl, rfl, by decide +kernel, rfl, by decide +kernel, by decide +kernel⟩
/-- the state's two lists -/
structure St2 (H : Hp) (s a b : Addr) (nu row : List Int) : Prop where
  s : H s = some (.tup [.ref a, .ref b])
  a : H a = some (.lst (nu.map V.int))
  b : H b = some (.lst (row.map V.int))
def sp_worth_of (K : PySem.W.Frag) : Sp := fun vs H Q _ => ∃ (v : V) (x : Vl) (s a b : Addr) (nu row : List Int) (way : Nat) (said md : Int), vs = [v, .ref s, .int (way : Nat), .int said, .int md] ∧
  IsVl H v x ∧ St2 H s a b nu row ∧ x.ok nu.length ∧ 2 ≤ md ∧ Q (.int (worth md way said nu row x)) H
theorem ok_worth_of {P : Program} {w : World} {K : PySem.W.Frag} {mg : Str → Option Value} {base : Heap} (T : Txt K mg) : Cal P w K mg base 1 "worth_of" (sp_worth_of K) := by
  refine Cal.mk0 T.g_worth_of T.D_worth_of sc_worth_of (fun _ _ _ _ _ _ us hl => match us, hl with | [_, _, _, _, _], _ => rfl) (fun vs H Q E h => ?_) (fun cdv A outer s H vs Q E hr h => ?_)
  · obtain ⟨v, x, s, a, b, nu, row, way, said, md, rfl, _⟩ := h
    rfl
  · obtain ⟨v, x, s, a, b, nu, row, way, said, md, rfl, hx, S, hok, h2, k⟩ := h
    have m0 : (0 : Int) < md := by omega
    refine ⟨_, (pss_cons (ps_set (i := 5) sc_worth_of.nd rfl (Or.inl rfl) (pe_ix ix_tup (pv 0) pe_int (fun _ _ => rfl)))
      (pss_cons (ps_if (pt_cmpR op_eq (pv 5) pe_str (nomark _)) (pss_one (ps_ret (pe_op op_mod (pe_ix ix_tup (pv 0) pe_int (fun _ _ => rfl)) (pv 4)))) pss_nil)
      (pss_cons (ps_if (pt_cmpR op_eq (pv 5) pe_str (nomark _)) (pss_one (ps_ret (pe_op op_mod (pe_ix ix_list (pe_ix ix_tup (pv 1) pe_int (fun _ _ => rfl)) (pe_ix ix_tup (pv 0) pe_int (fun _ _ => rfl)) (fun _ _ => rfl)) (pv 4)))) pss_nil)
      (pss_cons (ps_if (pt_cmpR op_eq (pv 5) pe_str (nomark _)) (pss_one (ps_ret (pe_op op_mod (pv 3) (pv 4)))) pss_nil)
      (pss_cons (ps_if (pt_cmpR op_eq (pv 5) pe_str (nomark _)) (pss_one (ps_ret (pe_op op_mod (pv 2) (pv 4)))) pss_nil)
      (pss_cons (ps_if (pt_cmpR op_eq (pe_callB call_len_seq (by rfl) T.f_len (by decide +kernel) (pa_cons (pe_ix ix_tup (pv 1) pe_int (fun _ _ => rfl)) pa_nil)) pe_int (nomark _)) (pss_one (ps_ret pe_int)) pss_nil)
      (pss_one (ps_ret (pe_op op_mod (pe_ix ix_list (pe_ix ix_tup (pv 1) pe_int (fun _ _ => rfl)) pe_int (fun _ _ => rfl)) (pv 4)))))))))), ?_⟩
    cases x with
    | is c =>
      obtain ⟨p, rfl, hp⟩ := hx
      refine ⟨_, rfl, p, _, _, _, rfl, rfl, SqT.of hp, atI_nat (j := 0) rfl, _, rfl, rfl, _, rfl, iteD rfl ?_⟩
      exact ⟨_, rfl, p, _, _, _, rfl, rfl, SqT.of hp, atI_nat (j := 1) rfl, _, rfl, _, _, rfl, rfl, m0, k⟩
    | num i =>
      obtain ⟨p, rfl, hp⟩ := hx
      have hi : i < nu.length := hok
      refine ⟨_, rfl, p, _, _, _, rfl, rfl, SqT.of hp, atI_nat (j := 0) rfl, _, rfl, rfl, _, rfl, iteN (by decide +kernel) ?_⟩
      refine ⟨_, rfl, rfl, _, rfl, iteD rfl ?_⟩
      have e : nu[i]? = some (nu.getD i 0) := by rw [List.getD_eq_getElem?_getD, List.getElem?_eq_getElem hi]; rfl
      exact ⟨_, rfl, s, _, _, _, rfl, rfl, SqT.of S.s, atI_nat (j := 0) rfl, _, rfl, p, _, _, _, rfl, rfl, SqT.of hp, atI_nat (j := 1) rfl, a, _, _, _, rfl, rfl, SqL.of S.a, atI_nat (ints_get e), _, rfl, _, _, rfl, rfl, m0, k⟩
    | letter =>
      obtain ⟨p, rfl, hp⟩ := hx
      refine ⟨_, rfl, p, _, _, _, rfl, rfl, SqT.of hp, atI_nat (j := 0) rfl, _, rfl, rfl, _, rfl, iteN (by decide +kernel) ?_⟩
      refine ⟨_, rfl, rfl, _, rfl, iteN (by decide +kernel) ?_⟩
      refine ⟨_, rfl, rfl, _, rfl, iteD rfl ?_⟩
      exact ⟨_, rfl, _, rfl, _, _, rfl, rfl, m0, k⟩
    | way =>
      obtain ⟨p, rfl, hp⟩ := hx
      refine ⟨_, rfl, p, _, _, _, rfl, rfl, SqT.of hp, atI_nat (j := 0) rfl, _, rfl, rfl, _, rfl, iteN (by decide +kernel) ?_⟩
      refine ⟨_, rfl, rfl, _, rfl, iteN (by decide +kernel) ?_⟩
      refine ⟨_, rfl, rfl, _, rfl, iteN (by decide +kernel) ?_⟩
      refine ⟨_, rfl, rfl, _, rfl, iteD rfl ?_⟩
      exact ⟨_, rfl, _, rfl, _, _, rfl, rfl, m0, k⟩
    | first =>
      obtain ⟨p, rfl, hp⟩ := hx
      refine ⟨_, rfl, p, _, _, _, rfl, rfl, SqT.of hp, atI_nat (j := 0) rfl, _, rfl, rfl, _, rfl, iteN (by decide +kernel) ?_⟩
      refine ⟨_, rfl, rfl, _, rfl, iteN (by decide +kernel) ?_⟩
      refine ⟨_, rfl, rfl, _, rfl, iteN (by decide +kernel) ?_⟩
      refine ⟨_, rfl, rfl, _, rfl, iteN (by decide +kernel) ?_⟩
      refine ⟨_, rfl, s, _, _, _, rfl, rfl, SqT.of S.s, atI_nat (j := 1) rfl, b, _, rfl, .inl (SqL.of S.b), rfl, _, rfl, ?_⟩
      cases row with
      | nil => exact iteD rfl k
      | cons z r =>
        refine iteN (by simp; omega) ?_
        exact ⟨_, rfl, s, _, _, _, rfl, rfl, SqT.of S.s, atI_nat (j := 1) rfl, b, _, _, _, rfl, rfl, SqL.of S.b, atI_nat (j := 0) rfl, _, rfl, _, _, rfl, rfl, m0, k⟩
end Cr
namespace Cr
open PySem PySem.Spec PyProof.Rows L2 He
theorem sc_Lworth : FnScope ["_law_value_here", "_law_state", "_law_way", "_law_said", "_law_modulus", "_law_worth_here", "_law_k"] ["_law_value_here", "_law_state", "_law_way", "_law_said", "_law_modulus"] (defScope s_Lworth) := ⟨rfl, rfl, rfl, by decide +kernel, rfl, by decide +kernel, by decide +kernel⟩
def sp_Lworth (K : PySem.W.Frag) : Sp := fun vs H Q _ => ∃ (v : V) (x : Vl) (s a b : Addr) (nu row : List Int) (way : Nat) (said md : Int), vs = [v, .ref s, .int (way : Nat), .int said, .int md] ∧
  IsVl H v x ∧ St2 H s a b nu row ∧ x.ok nu.length ∧ 2 ≤ md ∧ row.length ≤ 1000 ∧ ∀ H', Same H H' → Q (.int (worth md way said nu row x)) H'
theorem ok_Lworth {P : Program} {w : World} {K : PySem.W.Frag} {mg : Str → Option Value} {base : Heap} (T : Txt K mg) : Cal P w K mg base 1 "_law_worth" (sp_Lworth K) := by
  refine Cal.mk0 T.g_Lworth T.D_Lworth sc_Lworth (fun _ _ _ _ _ _ us hl => match us, hl with | [_, _, _, _, _], _ => rfl) (fun vs H Q E h => ?_) (fun cdv A outer s H vs Q E hr h => ?_)
  · obtain ⟨v, x, s, a, b, nu, row, way, said, md, rfl, _⟩ := h
    rfl
  · obtain ⟨v, x, s, a, b, nu, row, way, said, md, rfl, hx, S, hok, h2, hrl, k⟩ := h
    have m0 : (0 : Int) < md := by omega
    refine ⟨_, (pss_cons (ps_set (i := 5) sc_Lworth.nd rfl (Or.inl rfl) (pv 2))
      (pss_cons (ps_if (pt_cmpR op_eq (pe_ix ix_tup (pv 0) pe_int (fun _ _ => rfl)) pe_str (nomark _)) (pss_one (ps_set (i := 5) sc_Lworth.nd rfl (Or.inl rfl) (pe_ix ix_tup (pv 0) pe_int (fun _ _ => rfl)))) pss_nil)
      (pss_cons (ps_if (pt_cmpR op_eq (pe_ix ix_tup (pv 0) pe_int (fun _ _ => rfl)) pe_str (nomark _)) (pss_one (ps_set (i := 5) sc_Lworth.nd rfl (Or.inl rfl) (pe_ix ix_list (pe_ix ix_tup (pv 1) pe_int (fun _ _ => rfl)) (pe_ix ix_tup (pv 0) pe_int (fun _ _ => rfl)) (fun _ _ => rfl)))) pss_nil)
      (pss_cons (ps_if (pt_cmpR op_eq (pe_ix ix_tup (pv 0) pe_int (fun _ _ => rfl)) pe_str (nomark _)) (pss_one (ps_set (i := 5) sc_Lworth.nd rfl (Or.inl rfl) (pv 3))) pss_nil)
      (pss_cons (ps_if (pt_cmpR op_eq (pe_ix ix_tup (pv 0) pe_int (fun _ _ => rfl)) pe_str (nomark _)) (pss_one (ps_set (i := 5) sc_Lworth.nd rfl (Or.inl rfl) (pe_ix ix_list (pe_op op_cat (pe_lc (own := [("_law_k", 6)]) rfl sc_Lworth.nd (pi_range1 (by rfl) T.f_range (pa_cons (pe_callB call_len_seq (by rfl) T.f_len (by decide +kernel) (pa_cons (pe_ix ix_tup (pv 1) pe_int (fun _ _ => rfl)) pa_nil)) pa_nil)) (blkOk_by (own := [("_law_k", 6)]) (N := ["_law_value_here", "_law_state", "_law_way", "_law_said", "_law_modulus", "_law_worth_here", "_law_k"]) (sc := defScope s_Lworth) (by decide +kernel)) (fun _ _ _ _ _ => (pg_name (i := 6) sc_Lworth.nd rfl (Or.inl rfl))) (fun _ _ _ _ _ => pts_nil) (fun _ _ _ _ _ => (pe_ix (ix_listK (K := K) rfl) (pe_ix (ix_tupK (K := K) rfl) (pv 1) pe_int (fun _ _ => rfl)) (pv 6) (fun _ _ => rfl)))) (pe_lst (pa_cons pe_int pa_nil))) pe_int (fun _ _ => rfl)))) pss_nil)
      (pss_one (ps_ret (pe_op op_mod (pv 5) (pv 4))))))))), ?_⟩
    cases x with
    | is c =>
      obtain ⟨p, rfl, hp⟩ := hx
      refine ⟨_, rfl, _, rfl, p, _, _, _, rfl, rfl, SqT.of hp, atI_nat (j := 0) rfl, rfl, _, rfl, iteD rfl ?_⟩
      refine ⟨_, rfl, p, _, _, _, rfl, rfl, SqT.of hp, atI_nat (j := 1) rfl, ?_⟩
      refine ⟨_, rfl, p, _, _, _, rfl, rfl, SqT.of hp, atI_nat (j := 0) rfl, rfl, _, rfl, iteN (by decide +kernel) ?_⟩
      refine ⟨_, rfl, p, _, _, _, rfl, rfl, SqT.of hp, atI_nat (j := 0) rfl, rfl, _, rfl, iteN (by decide +kernel) ?_⟩
      refine ⟨_, rfl, p, _, _, _, rfl, rfl, SqT.of hp, atI_nat (j := 0) rfl, rfl, _, rfl, iteN (by decide +kernel) ?_⟩
      exact ⟨_, rfl, _, rfl, _, _, rfl, rfl, m0, k H (Same.refl _)⟩
    | num i =>
      obtain ⟨p, rfl, hp⟩ := hx
      have hi : i < nu.length := hok
      refine ⟨_, rfl, _, rfl, p, _, _, _, rfl, rfl, SqT.of hp, atI_nat (j := 0) rfl, rfl, _, rfl, iteN (by decide +kernel) ?_⟩
      refine ⟨_, rfl, p, _, _, _, rfl, rfl, SqT.of hp, atI_nat (j := 0) rfl, rfl, _, rfl, iteD rfl ?_⟩
      refine ⟨_, rfl, s, _, _, _, rfl, rfl, SqT.of S.s, atI_nat (j := 0) rfl, _, rfl, p, _, _, _, rfl, rfl, SqT.of hp, atI_nat (j := 1) rfl, a, _, _, _, rfl, rfl, SqL.of S.a, atI_nat (ints_get (nt_get hi 0)), ?_⟩
      refine ⟨_, rfl, p, _, _, _, rfl, rfl, SqT.of hp, atI_nat (j := 0) rfl, rfl, _, rfl, iteN (by decide +kernel) ?_⟩
      refine ⟨_, rfl, p, _, _, _, rfl, rfl, SqT.of hp, atI_nat (j := 0) rfl, rfl, _, rfl, iteN (by decide +kernel) ?_⟩
      exact ⟨_, rfl, _, rfl, _, _, rfl, rfl, m0, k H (Same.refl _)⟩
    | letter =>
      obtain ⟨p, rfl, hp⟩ := hx
      refine ⟨_, rfl, _, rfl, p, _, _, _, rfl, rfl, SqT.of hp, atI_nat (j := 0) rfl, rfl, _, rfl, iteN (by decide +kernel) ?_⟩
      refine ⟨_, rfl, p, _, _, _, rfl, rfl, SqT.of hp, atI_nat (j := 0) rfl, rfl, _, rfl, iteN (by decide +kernel) ?_⟩
      refine ⟨_, rfl, p, _, _, _, rfl, rfl, SqT.of hp, atI_nat (j := 0) rfl, rfl, _, rfl, iteD rfl ?_⟩
      refine ⟨_, rfl, ?_⟩
      refine ⟨_, rfl, p, _, _, _, rfl, rfl, SqT.of hp, atI_nat (j := 0) rfl, rfl, _, rfl, iteN (by decide +kernel) ?_⟩
      exact ⟨_, rfl, _, rfl, _, _, rfl, rfl, m0, k H (Same.refl _)⟩
    | way =>
      obtain ⟨p, rfl, hp⟩ := hx
      refine ⟨_, rfl, _, rfl, p, _, _, _, rfl, rfl, SqT.of hp, atI_nat (j := 0) rfl, rfl, _, rfl, iteN (by decide +kernel) ?_⟩
      refine ⟨_, rfl, p, _, _, _, rfl, rfl, SqT.of hp, atI_nat (j := 0) rfl, rfl, _, rfl, iteN (by decide +kernel) ?_⟩
      refine ⟨_, rfl, p, _, _, _, rfl, rfl, SqT.of hp, atI_nat (j := 0) rfl, rfl, _, rfl, iteN (by decide +kernel) ?_⟩
      refine ⟨_, rfl, p, _, _, _, rfl, rfl, SqT.of hp, atI_nat (j := 0) rfl, rfl, _, rfl, iteN (by decide +kernel) ?_⟩
      exact ⟨_, rfl, _, rfl, _, _, rfl, rfl, m0, k H (Same.refl _)⟩
    | first =>
      obtain ⟨p, rfl, hp⟩ := hx
      refine ⟨_, rfl, _, rfl, p, _, _, _, rfl, rfl, SqT.of hp, atI_nat (j := 0) rfl, rfl, _, rfl, iteN (by decide +kernel) ?_⟩
      refine ⟨_, rfl, p, _, _, _, rfl, rfl, SqT.of hp, atI_nat (j := 0) rfl, rfl, _, rfl, iteN (by decide +kernel) ?_⟩
      refine ⟨_, rfl, p, _, _, _, rfl, rfl, SqT.of hp, atI_nat (j := 0) rfl, rfl, _, rfl, iteN (by decide +kernel) ?_⟩
      refine ⟨_, rfl, p, _, _, _, rfl, rfl, SqT.of hp, atI_nat (j := 0) rfl, rfl, _, rfl, iteD rfl ?_⟩
      refine ⟨_, rfl, s, _, _, _, rfl, rfl, SqT.of S.s, atI_nat (j := 1) rfl, b, _, rfl, .inl (SqL.of S.b), _, rfl, by rw [List.length_map]; omega, by rw [List.length_map]; omega, fun D hD => ?_⟩
      refine lc_it (n := (row.map V.int).length) walk_rngN (fun i H' => Same H H' ∧ H' D = some (.lst ((row.take i).map V.int))) ⟨Same.new_ hD, upd_same⟩ (fun _ _ _ _ => trivial) ?_ ?_
      · rintro i x H1 H1' hi ⟨s1, h1⟩ ⟨rfl, rfl⟩
        rw [List.length_map] at hi
        refine ⟨rfl, ?_⟩
        have ei : row[i]? = some row[i] := List.getElem?_eq_getElem hi
        refine ⟨_, rfl, s, _, _, _, rfl, rfl, SqT.of (s1 _ _ S.s), atI_nat (j := 1) rfl, _, rfl, b, _, _, _, rfl, rfl, SqL.of (s1 _ _ S.b), atI_nat (ints_get ei), _, h1, line' (by rw [List.length_map, List.length_take]; omega), s1.putN hD, ?_⟩
        rw [upd_same, take_more ei, List.map_append] <;> rfl
      · rintro H1 ⟨s1, h1⟩
        rw [List.length_map, List.take_length] at h1
        refine ⟨line (by show 1 ≤ 16777216; decide), fun q hq => ?_⟩
        have s2 := Same.new_ (o := .lst [.int 0]) hq
        refine ⟨D, q, _, _, rfl, rfl, s2 _ _ h1, upd_same, line (by rw [List.length_map]; show row.length + 1 ≤ 16777216; omega), fun r hr => ?_⟩
        have s3 := (s1.trans s2).trans (Same.new_ (o := .lst (row.map V.int ++ [.int 0])) hr)
        have e0 : (row.map V.int ++ [.int 0])[0]? = some (V.int (row.headD 0)) := by cases row <;> rfl
        refine ⟨r, _, _, _, rfl, rfl, SqL.of upd_same, atI_nat (j := 0) e0, ?_⟩
        exact ⟨_, rfl, _, rfl, _, _, rfl, rfl, m0, k _ s3⟩
end Cr
namespace Cr
open PySem PySem.Spec PyProof.Rows L2 He
theorem sc_Bench_new : FnScope ["self", "state", "way", "said", "base"] ["self", "state", "way", "said", "base"] (defScope s_Bench_new) := ⟨rfl, rfl, rfl, by decide +kernel, rfl, by decide +kernel, by decide +kernel⟩
def sp_Bench_new (K : PySem.W.Frag) : Sp := fun vs H Q _ => ∃ (p dx s : Addr) (st : Sta) (way : Nat) (said md : Int), vs = [.ref p, .ref s, .int (way : Nat), .int said, .int md] ∧ H p = some (.ins (ga K "Bench") dx []) ∧ IsSta H (.ref s) st ∧
  ∀ H' n r sn wd, Fr (· = p) H H' → BenchAt (ga K "Bench") H' p n r sn wd way said md (wk0 st) → H n = none → H r = none → H sn = none → H wd = none → Q .non H'
theorem ok_Bench_new {P : Program} {w : World} {K : PySem.W.Frag} {mg : Str → Option Value} {base : Heap} (T : Txt K mg) : Mak P w K mg base 1 "Bench" (ga K "Bench") (sp_Bench_new K) := by
  refine Mak.mk0 T.mk_Bench T.g_Bench T.D_Bench_new sc_Bench_new (fun _ _ _ _ _ _ us hl => match us, hl with | [_, _, _, _, _], _ => rfl) (fun vs H Q E h => ?_) (fun cdv A outer s H vs Q E hr h => ?_)
  · obtain ⟨p, dx, s, st, way, said, md, rfl, _⟩ := h
    rfl
  · obtain ⟨p, dx, s, st, way, said, md, rfl, hp, ⟨s', a, b, es, hs, ha, hb⟩, k⟩ := h
    cases es
    refine ⟨_, (pss_cons (ps_fld (pv 0) (pe_callTy call_list_of (by rfl) T.f_list (by decide +kernel) (pa_cons (pe_ix ix_tup (pv 1) pe_int (fun _ _ => rfl)) pa_nil)) rfl)
      (pss_cons (ps_fld (pv 0) (pe_callTy call_list_of (by rfl) T.f_list (by decide +kernel) (pa_cons (pe_ix ix_tup (pv 1) pe_int (fun _ _ => rfl)) pa_nil)) rfl)
      (pss_cons (ps_fld (pv 0) (pv 2) rfl)
      (pss_cons (ps_fld (pv 0) (pv 3) rfl)
      (pss_cons (ps_fld (pv 0) (pv 4) rfl)
      (pss_cons (ps_fld (pv 0) (pe_lst pa_nil) rfl)
      (pss_cons (ps_fld (pv 0) (pe_lst pa_nil) rfl)
      (pss_one (ps_fld (pv 0) pe_int rfl))))))))), ?_⟩
    refine ⟨_, rfl, s, _, _, _, rfl, rfl, SqT.of hs, atI_nat (j := 0) rfl, a, _, rfl, .inr (SqT.of ha), fun l1 n1 => ?_⟩
    refine ab_fld (Same.new_ n1 _ _ hp) T.c_Bench T.n_Bench_held_numbers (by show 0 < 1000; decide) fun H1 F1 p1 => ?_
    have np1 : l1 ≠ p := (ne_of_none hp n1).symm
    have e1 : H1 l1 = some (.lst (st.1.map V.int)) := F1.at upd_same np1
    replace F1 := (Fr.new (S := (· = p)) (o := .lst (st.1.map V.int)) n1).trans F1
    refine ⟨_, rfl, s, _, _, _, rfl, rfl, SqT.of (F1.tk _ _ hs), atI_nat (j := 1) rfl, b, _, rfl, .inr (SqT.of (F1.tk _ _ hb)), fun l2 n2 => ?_⟩
    refine ab_fld (Same.new_ n2 _ _ p1) T.c_Bench T.n_Bench_held_row (by show 1 < 1000; decide) fun H2 F2 p2 => ?_
    rw [putN ["held_numbers"] (by decide +kernel)] at p2
    have np2 : l2 ≠ p := (ne_of_none p1 n2).symm
    have n12 : l1 ≠ l2 := ne_of_none e1 n2
    have e2 : H2 l2 = some (.lst (st.2.map V.int)) := F2.at upd_same np2
    replace F2 := (Fr.new (S := (· = p)) (o := .lst (st.2.map V.int)) n2).trans F2
    replace e1 := F2.at e1 np1
    have f2 := F1.none n2 np2
    replace F2 := F1.trans F2
    refine ⟨_, rfl, ab_fld p2 T.c_Bench T.n_Bench_by_way (by show 2 < 1000; decide) fun H3 F3 p3 => ?_⟩
    rw [putN ["held_numbers", "held_row"] (by decide +kernel)] at p3
    refine ⟨_, rfl, ab_fld p3 T.c_Bench T.n_Bench_heard_said (by show 3 < 1000; decide) fun H4 F4 p4 => ?_⟩
    rw [putN ["held_numbers", "held_row", "by_way"] (by decide +kernel)] at p4
    refine ⟨_, rfl, ab_fld p4 T.c_Bench T.n_Bench_base (by show 4 < 1000; decide) fun H5 F5 p5 => ?_⟩
    rw [putN ["held_numbers", "held_row", "by_way", "heard_said"] (by decide +kernel)] at p5
    replace F5 := (F3.trans F4).trans F5
    replace e1 := F5.at e1 np1
    replace e2 := F5.at e2 np2
    replace F5 := F2.trans F5
    refine ⟨Nat.zero_le _, fun l3 n3 => ?_⟩
    refine ab_fld (Same.new_ n3 _ _ p5) T.c_Bench T.n_Bench_sent (by show 5 < 1000; decide) fun H6 F6 p6 => ?_
    rw [putN ["held_numbers", "held_row", "by_way", "heard_said", "base"] (by decide +kernel)] at p6
    have np3 : l3 ≠ p := (ne_of_none p5 n3).symm
    have n13 : l1 ≠ l3 := ne_of_none e1 n3
    have n23 : l2 ≠ l3 := ne_of_none e2 n3
    have e3 : H6 l3 = some (.lst []) := F6.at upd_same np3
    replace F6 := (Fr.new (S := (· = p)) (o := .lst []) n3).trans F6
    replace e1 := F6.at e1 np1
    replace e2 := F6.at e2 np2
    have f3 := F5.none n3 np3
    replace F6 := F5.trans F6
    refine ⟨Nat.zero_le _, fun l4 n4 => ?_⟩
    refine ab_fld (Same.new_ n4 _ _ p6) T.c_Bench T.n_Bench_said_words (by show 6 < 1000; decide) fun H7 F7 p7 => ?_
    rw [putN ["held_numbers", "held_row", "by_way", "heard_said", "base", "sent"] (by decide +kernel)] at p7
    have np4 : l4 ≠ p := (ne_of_none p6 n4).symm
    have n14 : l1 ≠ l4 := ne_of_none e1 n4
    have n24 : l2 ≠ l4 := ne_of_none e2 n4
    have n34 : l3 ≠ l4 := ne_of_none e3 n4
    have e4 : H7 l4 = some (.lst []) := F7.at upd_same np4
    replace F7 := (Fr.new (S := (· = p)) (o := .lst []) n4).trans F7
    replace e1 := F7.at e1 np1
    replace e2 := F7.at e2 np2
    replace e3 := F7.at e3 np3
    have f4 := F6.none n4 np4
    replace F7 := F6.trans F7
    refine ab_fld p7 T.c_Bench T.n_Bench_left_out (by show 7 < 1000; decide) fun H8 F8 p8 => ?_
    rw [putN ["held_numbers", "held_row", "by_way", "heard_said", "base", "sent", "said_words"] (by decide +kernel)] at p8
    exact k H8 l1 l2 l3 l4 (F7.trans F8) ⟨⟨dx, p8⟩, F8.at e1 np1, F8.at e2 np2, ⟨[], F8.at e3 np3, .nil⟩, F8.at e4 np4, n12, n13, n14, n23, n24, n34⟩ n1 f2 f3 f4
end Cr
namespace Cr
open PySem PySem.Spec PyProof.Rows L2 He
theorem sc_Bench_change_number : FnScope ["self", "word", "at", "worth", "old"] ["self", "word", "at", "worth"] (defScope s_Bench_change_number) := ⟨rfl, rfl, rfl, by decide +kernel, rfl, by decide +kernel, by decide +kernel⟩
def sp_Bench_change_number (K : PySem.W.Frag) : Sp := fun vs H Q _ => ∃ (p n r s w : Addr) (word : Str) (i : Nat) (x z : Int) (way : Nat) (said md : Int) (k : Wk), vs = [.ref p, .str word, .int (i : Nat), .int x] ∧ BenchAt (ga K "Bench") H p n r s w way said md k ∧ i < k.nu.length ∧ 2 ≤ md ∧
  (∀ y ∈ k.nu, 0 ≤ y ∧ y < 10 ^ 12) ∧ ((word = "set" ∧ z = x) ∨ (word = "add" ∧ z = (k.nu.getD i 0 + x) % md) ∨ (word = "times" ∧ z = k.nu.getD i 0 * x % md)) ∧
  ∀ H', Fr (· = n) H H' → H' n = some (.lst ((k.nu.set i z).map V.int)) → Q .non H'
theorem ok_Bench_change_number {P : Program} {w : World} {K : PySem.W.Frag} {mg : Str → Option Value} {base : Heap} (T : Txt K mg) : Met P w K mg base 1 (ga K "Bench") "change_number" (sp_Bench_change_number K) := by
  refine Met.mk0 T.c_Bench T.m_Bench_change_number T.D_Bench_change_number sc_Bench_change_number (fun _ _ _ _ _ _ us hl => match us, hl with | [_, _, _, _], _ => rfl) (fun vs H Q E h => ?_) (fun cdv A outer s H vs Q E hr h => ?_)
  · obtain ⟨p, n, r, s, w, word, i, x, z, way, said, md, k, rfl, _⟩ := h
    rfl
  · obtain ⟨p, n, r, s, w, word, i, x, z, way, said, md, kk, rfl, B, hi, h2, hb, hz, k⟩ := h
    obtain ⟨dx, hp⟩ := B.ob
    have m0 : (0 : Int) < md := by omega
    have e : kk.nu[i]? = some (kk.nu.getD i 0) := by rw [List.getD_eq_getElem?_getD, List.getElem?_eq_getElem hi]; rfl
    have hix : ixN (kk.nu.map V.int).length (i : Int) = some i := by
      unfold ixN
      rw [if_pos (by omega), List.length_map, if_pos (by omega)]
      simp
    have yb := hb _ (List.mem_of_getElem? e)
    refine ⟨_, (pss_cons (ps_set (i := 4) sc_Bench_change_number.nd rfl (Or.inl rfl) (pe_ix ix_list (pe_fld (pv 0) rfl) (pv 2) (fun _ _ => rfl)))
      (pss_cons (ps_if (pt_cmpR op_eq (pv 1) pe_str (nomark _)) (pss_one (ps_set (i := 3) sc_Bench_change_number.nd rfl (Or.inl rfl) (pe_op op_mod (pe_op op_add (pv 4) (pv 3)) (pe_fld (pv 0) rfl)))) (pss_one (ps_if (pt_cmpR op_eq (pv 1) pe_str (nomark _)) (pss_one (ps_set (i := 3) sc_Bench_change_number.nd rfl (Or.inl rfl) (pe_op op_mod (pe_op op_mul (pv 4) (pv 3)) (pe_fld (pv 0) rfl)))) pss_nil)))
      (pss_one (ps_asg (pv 3) (pg_sub (pe_fld (pv 0) rfl) (pv 2) set_list))))), ?_⟩
    refine ⟨_, rfl, p, _, dx, _, _, rfl, hp, T.c_Bench, T.n_Bench_held_numbers, lk 0 benchK (by decide +kernel), _, rfl, n, _, _, _, rfl, rfl, SqL.of B.hn, atI_nat (ints_get e), ?_⟩
    have fin : ∀ y : Int, y = z → _ := fun y ey => k (upd H n (.lst ((kk.nu.map V.int).set i (.int y)))) (Fr.put rfl (not_tup_lst B.hn)) (by rw [upd_same, ey, List.map_set])
    rcases hz with ⟨rfl, rfl⟩ | ⟨rfl, rfl⟩ | ⟨rfl, rfl⟩
    · refine ⟨_, rfl, rfl, _, rfl, iteN (by decide +kernel) ?_⟩
      refine ⟨_, rfl, rfl, _, rfl, iteN (by decide +kernel) ?_⟩
      refine ⟨_, rfl, _, rfl, p, _, dx, _, _, rfl, hp, T.c_Bench, T.n_Bench_held_numbers, lk 0 benchK (by decide +kernel), _, rfl, n, _, _, _, rfl, rfl, B.hn, hix, fin _ rfl⟩
    · refine ⟨_, rfl, rfl, _, rfl, iteD rfl ?_⟩
      refine ⟨_, rfl, _, rfl, _, _, rfl, rfl, _, rfl, p, _, dx, _, _, rfl, hp, T.c_Bench, T.n_Bench_base, lk 4 benchK (by decide +kernel), _, _, rfl, rfl, m0, ?_⟩
      refine ⟨_, rfl, _, rfl, p, _, dx, _, _, rfl, hp, T.c_Bench, T.n_Bench_held_numbers, lk 0 benchK (by decide +kernel), _, rfl, n, _, _, _, rfl, rfl, B.hn, hix, fin _ rfl⟩
    · refine ⟨_, rfl, rfl, _, rfl, iteN (by decide +kernel) ?_⟩
      refine ⟨_, rfl, rfl, _, rfl, iteD rfl ?_⟩
      refine ⟨_, rfl, _, rfl, _, _, rfl, rfl, .inl ⟨by omega, by omega⟩, _, rfl, p, _, dx, _, _, rfl, hp, T.c_Bench, T.n_Bench_base, lk 4 benchK (by decide +kernel), _, _, rfl, rfl, m0, ?_⟩
      refine ⟨_, rfl, _, rfl, p, _, dx, _, _, rfl, hp, T.c_Bench, T.n_Bench_held_numbers, lk 0 benchK (by decide +kernel), _, rfl, n, _, _, _, rfl, rfl, B.hn, hix, fin _ rfl⟩
end Cr
namespace Cr
open PySem PySem.Spec PyProof.Rows L2 He
theorem sc_Bench_weighed : FnScope ["self", "value"] ["self", "value"] (defScope s_Bench_weighed) := ⟨rfl, rfl, rfl, by decide +kernel, rfl, by decide +kernel, by decide +kernel⟩
def sp_Bench_weighed (K : PySem.W.Frag) : Sp := fun vs H Q _ => ∃ (p n r s w : Addr) (v : V) (x : Vl) (way : Nat) (said md : Int) (k : Wk), vs = [.ref p, v] ∧ BenchAt (ga K "Bench") H p n r s w way said md k ∧ IsVl H v x ∧ x.ok k.nu.length ∧ 2 ≤ md ∧
  ∀ H', Same H H' → Q (.int (worth md way said k.nu k.row x)) H'
theorem ok_Bench_weighed {P : Program} {w : World} {K : PySem.W.Frag} {mg : Str → Option Value} {base : Heap} (T : Txt K mg) : Met P w K mg base 2 (ga K "Bench") "weighed" (sp_Bench_weighed K) := by
  have G_worth_of := ok_worth_of (P := P) (w := w) (base := base) T
  refine Met.mk0 T.c_Bench T.m_Bench_weighed T.D_Bench_weighed sc_Bench_weighed (fun _ _ _ _ _ _ us hl => match us, hl with | [_, _], _ => rfl) (fun vs H Q E h => ?_) (fun cdv A outer s H vs Q E hr h => ?_)
  · obtain ⟨p, n, r, s, w, v, x, way, said, md, k, rfl, _⟩ := h
    rfl
  · obtain ⟨p, n, r, s, w, v, x, way, said, md, kk, rfl, B, hx, hok, h2, k⟩ := h
    obtain ⟨dx, hp⟩ := B.ob
    refine ⟨_, (pss_one (ps_ret (pe_c G_worth_of hr (by decide) (by rfl) (pa_cons (pv 1) (pa_cons (pe_tup (pa_cons (pe_fld (pv 0) rfl) (pa_cons (pe_fld (pv 0) rfl) pa_nil))) (pa_cons (pe_fld (pv 0) rfl) (pa_cons (pe_fld (pv 0) rfl) (pa_cons (pe_fld (pv 0) rfl) pa_nil)))))))), ?_⟩
    refine ⟨_, rfl, _, rfl, p, _, dx, _, _, rfl, hp, T.c_Bench, T.n_Bench_held_numbers, lk 0 benchK (by decide +kernel), _, rfl, p, _, dx, _, _, rfl, hp, T.c_Bench, T.n_Bench_held_row, lk 1 benchK (by decide +kernel), by show 2 ≤ sizeLine; decide, fun t ht => ?_⟩
    have s1 := Same.new_ (o := .tup [.ref n, .ref r]) ht
    have hp1 := s1 _ _ hp
    refine ⟨_, rfl, p, _, dx, _, _, rfl, hp1, T.c_Bench, T.n_Bench_by_way, lk 2 benchK (by decide +kernel), _, rfl, p, _, dx, _, _, rfl, hp1, T.c_Bench, T.n_Bench_heard_said, lk 3 benchK (by decide +kernel), _, rfl, p, _, dx, _, _, rfl, hp1, T.c_Bench, T.n_Bench_base, lk 4 benchK (by decide +kernel), ?_⟩
    exact ⟨_, x, t, n, r, kk.nu, kk.row, way, said, md, rfl, hx.tk (Same.tk_ s1), ⟨upd_same, s1 _ _ B.hn, s1 _ _ B.hr⟩, hok, h2, k _ s1⟩
end Cr
namespace Cr
open PySem PySem.Spec PyProof.Rows L2 He
theorem sc_Bench_do_deed : FnScope ["self", "deed", "word"] ["self", "deed"] (defScope s_Bench_do_deed) := ⟨rfl, rfl, rfl, by decide +kernel, rfl, by decide +kernel, by decide +kernel⟩
def inBench (p n r s w : Addr) : Addr → Prop := fun b => b = p ∨ b = n ∨ b = r ∨ b = s ∨ b = w
def sp_Bench_do_deed (K : PySem.W.Frag) : Sp := fun vs H Q _ => ∃ (p n r s w : Addr) (v : V) (d : Dd) (M : Mch) (i : Nat) (way : Nat) (said : Int) (k : Wk), vs = [.ref p, v] ∧ BenchAt (ga K "Bench") H p n r s w way said M.md k ∧ IsDd H v d ∧ d.ok M.ns.length ∧ M.ok ∧ WkOk M i k ∧ i < 12 ∧
  ∀ H' r', Fr (inBench p n r s w) H H' → BenchAt (ga K "Bench") H' p n r' s w way said M.md (wkStep M.md way said k d) → (r' = r ∨ H r' = none) → Q .non H'
theorem ok_Bench_do_deed {P : Program} {w : World} {K : PySem.W.Frag} {mg : Str → Option Value} {base : Heap} (T : Txt K mg) : Met P w K mg base 3 (ga K "Bench") "do_deed" (sp_Bench_do_deed K) := by
  have G_Bench_change_number := ok_Bench_change_number (P := P) (w := w) (base := base) T
  have G_Bench_weighed := ok_Bench_weighed (P := P) (w := w) (base := base) T
  obtain ⟨tk_LONGEST_ROW, hm_LONGEST_ROW⟩ := T.i_LONGEST_ROW
  refine Met.mk0 T.c_Bench T.m_Bench_do_deed T.D_Bench_do_deed sc_Bench_do_deed (fun _ _ _ _ _ _ us hl => match us, hl with | [_, _], _ => rfl) (fun vs H Q E h => ?_) (fun cdv A outer s H vs Q E hr h => ?_)
  · obtain ⟨p, n, r, s, w, v, d, M, i, way, said, k, rfl, _⟩ := h
    rfl
  · obtain ⟨p, n, r, s, w, v, d, M, i, way, said, kk, rfl, B, hd, hok, hM, W, hi, k⟩ := h
    obtain ⟨dx, hp⟩ := B.ob
    have h2 := hM.md2
    have npn : p ≠ n := ne_of hp B.hn (by intro z; cases z)
    have npr : p ≠ r := ne_of hp B.hr (by intro z; cases z)
    obtain ⟨vs, hs, hvs⟩ := B.hs
    have nps : p ≠ s := ne_of hp hs (by intro z; cases z)
    have npw : p ≠ w := ne_of hp B.hw (by intro z; cases z)
    have hsl := hvs.length
    have wsl := W.sl
    have wwl := W.wl
    obtain ⟨q, z, xs, rfl, hq⟩ : ∃ q z xs, v = .ref q ∧ H q = some (.tup (.str z :: xs)) := by
      cases d with
      | drop => obtain ⟨p, e, hp⟩ := hd; exact ⟨p, _, _, e, hp⟩
      | skip => obtain ⟨p, u, u', e, hp, _⟩ := hd; exact ⟨p, _, _, e, hp⟩
      | _ => obtain ⟨p, u, e, hp, _⟩ := hd; exact ⟨p, _, _, e, hp⟩
    refine ⟨_, (pss_cons (ps_set (i := 2) sc_Bench_do_deed.nd rfl (Or.inl rfl) (pe_ix ix_tup (pv 1) pe_int (fun _ _ => rfl)))
      (pss_one (ps_if (pt_cmpR op_gt (pe_fld (pv 0) rfl) pe_int (nomark _)) (pss_one (ps_fldaug (pv 0) pe_int in_sub)) (pss_one (ps_if (pt_cmpR op_in_seq (pv 2) (pe_tup (pa_cons pe_str (pa_cons pe_str (pa_cons pe_str pa_nil)))) (by rfl)) (pss_one (ps_expr (pe_mt G_Bench_change_number hr (by decide) (pv 0) (pa_cons (pv 2) (pa_cons (pe_ix ix_tup (pv 1) pe_int (fun _ _ => rfl)) (pa_cons (pe_mt G_Bench_weighed hr (by decide) (pv 0) (pa_cons (pe_ix ix_tup (pv 1) pe_int (fun _ _ => rfl)) pa_nil)) pa_nil)))))) (pss_one (ps_if (pt_cmpR op_eq (pv 2) pe_str (nomark _)) (pss_one (ps_if (pt_cmpR op_lt (pe_callB call_len_seq (by rfl) T.f_len (by decide +kernel) (pa_cons (pe_fld (pv 0) rfl) pa_nil)) (pe_glob (v := .int 12) (by rfl) hm_LONGEST_ROW ⟨_, rfl⟩) (nomark _)) (pss_one (ps_expr (pe_bm PySem.F.plainAttrs_list PySem.F.slot_list_append PySem.F.type_list_append mt_append (pe_fld (pv 0) rfl) (pa_cons (pe_mt G_Bench_weighed hr (by decide) (pv 0) (pa_cons (pe_ix ix_tup (pv 1) pe_int (fun _ _ => rfl)) pa_nil)) pa_nil)))) pss_nil)) (pss_one (ps_if (pt_cmpR op_eq (pv 2) pe_str (nomark _)) (pss_one (ps_fld (pv 0) (pe_slice sl_list (pe_fld (pv 0) rfl) (po_some pe_int) po_none) rfl)) (pss_one (ps_if (pt_cmpR op_eq (pv 2) pe_str (nomark _)) (pss_one (ps_expr (pe_bm PySem.F.plainAttrs_list PySem.F.slot_list_append PySem.F.type_list_append mt_append (pe_fld (pv 0) rfl) (pa_cons (pe_tup (pa_cons (pe_ix ix_tup (pv 1) pe_int (fun _ _ => rfl)) (pa_cons (pe_mt G_Bench_weighed hr (by decide) (pv 0) (pa_cons (pe_ix ix_tup (pv 1) pe_int (fun _ _ => rfl)) pa_nil)) pa_nil))) pa_nil)))) (pss_one (ps_if (pt_cmpR op_eq (pv 2) pe_str (nomark _)) (pss_one (ps_expr (pe_bm PySem.F.plainAttrs_list PySem.F.slot_list_append PySem.F.type_list_append mt_append (pe_fld (pv 0) rfl) (pa_cons (pe_mt G_Bench_weighed hr (by decide) (pv 0) (pa_cons (pe_ix ix_tup (pv 1) pe_int (fun _ _ => rfl)) pa_nil)) pa_nil)))) (pss_one (ps_if (pt_cmpR op_lt (pe_mt G_Bench_weighed hr (by decide) (pv 0) (pa_cons (pe_ix ix_tup (pv 1) pe_int (fun _ _ => rfl)) pa_nil)) (pe_mt G_Bench_weighed hr (by decide) (pv 0) (pa_cons (pe_ix ix_tup (pv 1) pe_int (fun _ _ => rfl)) pa_nil)) (nomark _)) (pss_one (ps_fld (pv 0) (pe_ix ix_tup (pv 1) pe_int (fun _ _ => rfl)) rfl)) pss_nil))))))))))))))), ?_⟩
    refine ⟨_, rfl, q, _, _, _, rfl, rfl, SqT.of hq, atI_nat (j := 0) rfl, ?_⟩
    refine ⟨_, rfl, p, _, dx, _, _, rfl, hp, T.c_Bench, T.n_Bench_left_out, lk 7 benchK (by decide +kernel), _, _, rfl, rfl, _, rfl, ite2D (fun hl => ?_) (fun hl => ?_)⟩
    · -- left out
      refine ⟨_, rfl, p, _, dx, _, _, rfl, hp, T.c_Bench, T.n_Bench_left_out, lk 7 benchK (by decide +kernel), _, _, rfl, rfl, dx, _, hp, by show 8 < 1000; decide, ?_⟩
      refine k _ r (Fr.put (.inl rfl) (not_tup_ins hp)) ⟨⟨dx, ?_⟩, ?_, ?_, ?_, ?_, B.nr, B.ns, B.nw, B.rs, B.rw', B.sw⟩ (.inl rfl)
      · rw [upd_same, putA 7 benchK (by decide +kernel)]
        unfold wkStep
        rw [if_pos (by omega)]
        have e : ((kk.left : Int) - 1) = ((kk.left - 1 : Nat) : Int) := by omega
        rw [e]
        rfl
      · unfold wkStep; rw [if_pos (by omega), upd_ne npn.symm]; exact B.hn
      · unfold wkStep; rw [if_pos (by omega), upd_ne npr.symm]; exact B.hr
      · unfold wkStep; rw [if_pos (by omega)]; exact ⟨vs, by rw [upd_ne nps.symm]; exact hs, hvs.cimp fun _ _ z => z.tk (Fr.put (S := (· = p)) rfl (not_tup_ins hp)).tk⟩
      · unfold wkStep; rw [if_pos (by omega), upd_ne npw.symm]; exact B.hw
    have ew : wkStep M.md way said kk d = wkDo M.md way said kk d := by unfold wkStep; rw [if_neg (by omega)]
    rw [ew] at k
    refine ⟨_, rfl, by show 3 ≤ sizeLine; decide, fun q1 hq1 => ?_⟩
    have s1 := Same.new_ (o := .tup [.str "set", .str "add", .str "times"]) hq1
    refine ⟨q1, _, rfl, .inr (SqT.of upd_same), rfl, rfl, _, rfl, ?_⟩
    have B1 : ∀ {H1 : Hp}, Same H H1 → BenchAt (ga K "Bench") H1 p n r s w way said M.md kk := fun {H1} s => ⟨⟨dx, s _ _ hp⟩, s _ _ B.hn, s _ _ B.hr, ⟨vs, s _ _ hs, hvs.cimp fun _ _ z => z.tk (Same.tk_ s)⟩, s _ _ B.hw, B.nr, B.ns, B.nw, B.rs, B.rw', B.sw⟩
    have nb : ∀ y ∈ kk.nu, 0 ≤ y ∧ y < 10 ^ 12 := fun y hy => by have := W.nb y hy; have := hM.md12; omega
    -- a number is changed
    have num : ∀ {H2 : Hp} (z : Int) (i : Nat), Same H H2 → ∀ H', Fr (· = n) H2 H' → H' n = some (.lst ((kk.nu.set i z).map V.int)) → BenchAt (ga K "Bench") H' p n r s w way said M.md { kk with nu := kk.nu.set i z } ∧ Fr (inBench p n r s w) H H' := fun {H2} z i s2 H' F e => by
      have B2 := B1 s2
      refine ⟨⟨⟨dx, F.at (s2 _ _ hp) npn⟩, e, F.at B2.hr B.nr.symm, ⟨vs, F.at (s2 _ _ hs) B.ns.symm, hvs.cimp fun _ _ z => z.tk ((Same.tk_ s2).trans F.tk)⟩, F.at B2.hw B.nw.symm, B.nr, B.ns, B.nw, B.rs, B.rw', B.sw⟩, ?_⟩
      exact (Fr.of s2).trans (F.mono fun b hb => .inr (.inl hb))
    cases d with
    | set j x =>
      obtain ⟨p', u, ev, hp', hu⟩ := hd; cases ev; rw [hq] at hp'; cases hp'
      obtain ⟨o1, o2⟩ := hok
      refine iteE (by decide +kernel) ?_
      refine ⟨_, rfl, p, dx, _, rfl, s1 _ _ hp, lkN benchK (by decide +kernel), _, rfl, _, rfl, q, _, _, _, rfl, rfl, SqT.of (s1 _ _ hq), atI_nat (j := 1) rfl, ?_⟩
      refine ⟨_, rfl, p, dx, _, rfl, s1 _ _ hp, lkN benchK (by decide +kernel), _, rfl, q, _, _, _, rfl, rfl, SqT.of (s1 _ _ hq), atI_nat (j := 2) rfl, p, n, r, s, w, _, x, way, said, M.md, kk, rfl, B1 s1, hu.tk (Same.tk_ s1), by rw [W.nl]; exact o2, h2, fun H2 s2 => ?_⟩
      have s2 := s1.trans s2
      refine ⟨p, n, r, s, w, "set", j, _, _, way, said, M.md, kk, rfl, B1 s2, by rw [W.nl]; exact o1, h2, nb, .inl ⟨rfl, rfl⟩, fun H' F e => ?_⟩
      obtain ⟨g1, g2⟩ := num _ j s2 H' F e
      exact k H' r g2 g1 (.inl rfl)
    | add j x =>
      obtain ⟨p', u, ev, hp', hu⟩ := hd; cases ev; rw [hq] at hp'; cases hp'
      obtain ⟨o1, o2⟩ := hok
      refine iteE (by decide +kernel) ?_
      refine ⟨_, rfl, p, dx, _, rfl, s1 _ _ hp, lkN benchK (by decide +kernel), _, rfl, _, rfl, q, _, _, _, rfl, rfl, SqT.of (s1 _ _ hq), atI_nat (j := 1) rfl, ?_⟩
      refine ⟨_, rfl, p, dx, _, rfl, s1 _ _ hp, lkN benchK (by decide +kernel), _, rfl, q, _, _, _, rfl, rfl, SqT.of (s1 _ _ hq), atI_nat (j := 2) rfl, p, n, r, s, w, _, x, way, said, M.md, kk, rfl, B1 s1, hu.tk (Same.tk_ s1), by rw [W.nl]; exact o2, h2, fun H2 s2 => ?_⟩
      have s2 := s1.trans s2
      refine ⟨p, n, r, s, w, "add", j, _, _, way, said, M.md, kk, rfl, B1 s2, by rw [W.nl]; exact o1, h2, nb, .inr (.inl ⟨rfl, rfl⟩), fun H' F e => ?_⟩
      obtain ⟨g1, g2⟩ := num _ j s2 H' F e
      exact k H' r g2 g1 (.inl rfl)
    | times j x =>
      obtain ⟨p', u, ev, hp', hu⟩ := hd; cases ev; rw [hq] at hp'; cases hp'
      obtain ⟨o1, o2⟩ := hok
      refine iteE (by decide +kernel) ?_
      refine ⟨_, rfl, p, dx, _, rfl, s1 _ _ hp, lkN benchK (by decide +kernel), _, rfl, _, rfl, q, _, _, _, rfl, rfl, SqT.of (s1 _ _ hq), atI_nat (j := 1) rfl, ?_⟩
      refine ⟨_, rfl, p, dx, _, rfl, s1 _ _ hp, lkN benchK (by decide +kernel), _, rfl, q, _, _, _, rfl, rfl, SqT.of (s1 _ _ hq), atI_nat (j := 2) rfl, p, n, r, s, w, _, x, way, said, M.md, kk, rfl, B1 s1, hu.tk (Same.tk_ s1), by rw [W.nl]; exact o2, h2, fun H2 s2 => ?_⟩
      have s2 := s1.trans s2
      refine ⟨p, n, r, s, w, "times", j, _, _, way, said, M.md, kk, rfl, B1 s2, by rw [W.nl]; exact o1, h2, nb, .inr (.inr ⟨rfl, rfl⟩), fun H' F e => ?_⟩
      obtain ⟨g1, g2⟩ := num _ j s2 H' F e
      exact k H' r g2 g1 (.inl rfl)
    | put x =>
      obtain ⟨p', u, ev, hp', hu⟩ := hd; cases ev; rw [hq] at hp'; cases hp'
      refine iteG (by decide +kernel) ?_
      refine ⟨_, rfl, rfl, _, rfl, iteD rfl ?_⟩
      refine ⟨_, rfl, p, _, dx, _, _, rfl, s1 _ _ hp, T.c_Bench, T.n_Bench_held_row, lk 1 benchK (by decide +kernel), r, _, rfl, .inl (SqL.of (s1 _ _ B.hr)), _, _, rfl, rfl, _, rfl, ite2D (fun c => ?_) (fun c => ?_)⟩
      · rw [List.length_map] at c
        refine ⟨_, rfl, p, _, dx, _, .ref r, rfl, s1 _ _ hp, T.c_Bench, T.n_Bench_held_row, lk 1 benchK (by decide +kernel), .inl ⟨rfl, _, SqL.of (s1 _ _ B.hr)⟩, _, rfl, p, dx, _, rfl, s1 _ _ hp, lkN benchK (by decide +kernel), _, rfl, q, _, _, _, rfl, rfl, SqT.of (s1 _ _ hq), atI_nat (j := 1) rfl, p, n, r, s, w, _, x, way, said, M.md, kk, rfl, B1 s1, hu.tk (Same.tk_ s1), by rw [W.nl]; exact hok, h2, fun H2 s2 => ?_⟩
        have s2 := s1.trans s2
        have B2 := B1 s2
        have F := Fr.put (S := (· = r)) (o := .lst (kk.row.map V.int ++ [.int (worth M.md way said kk.nu kk.row x)])) rfl (not_tup_lst B2.hr)
        refine ⟨r, _, _, rfl, rfl, B2.hr, line' (by rw [List.length_map]; omega), ?_⟩
        refine k _ r ((Fr.of s2).trans (F.mono fun b hb => .inr (.inr (.inl hb)))) ?_ (.inl rfl)
        have e : wkDo M.md way said kk (.put x) = { kk with row := kk.row ++ [worth M.md way said kk.nu kk.row x] } := if_pos (by omega)
        rw [e]
        exact ⟨⟨dx, F.at (s2 _ _ hp) npr⟩, F.at B2.hn B.nr, by rw [upd_same, List.map_append] <;> rfl, ⟨vs, F.at (s2 _ _ hs) B.rs.symm, hvs.cimp fun _ _ z => z.tk ((Same.tk_ s2).trans F.tk)⟩, F.at B2.hw B.rw'.symm, B.nr, B.ns, B.nw, B.rs, B.rw', B.sw⟩
      · rw [List.length_map] at c
        have e : wkDo M.md way said kk (.put x) = kk := if_neg (by omega)
        rw [e] at k
        exact k _ r (Fr.of s1) (B1 s1) (.inl rfl)
    | drop =>
      obtain ⟨p', ev, hp'⟩ := hd; cases ev; rw [hq] at hp'; cases hp'
      refine iteG (by decide +kernel) ?_
      refine ⟨_, rfl, rfl, _, rfl, iteN (by decide +kernel) ?_⟩
      refine ⟨_, rfl, rfl, _, rfl, iteD rfl ?_⟩
      refine ⟨_, rfl, p, _, dx, _, _, rfl, s1 _ _ hp, T.c_Bench, T.n_Bench_held_row, lk 1 benchK (by decide +kernel), _, rfl, r, _, rfl, SqL.of (s1 _ _ B.hr), fun r' hr' => ?_⟩
      have ecut : cutV (kk.row.map V.int) (some 1) none = (kk.row.drop 1).map V.int := by
        rw [List.map_drop]
        exact cut_from _ 1
      have s2 := s1.trans (Same.new_ (o := .lst (cutV (kk.row.map V.int) (some 1) none)) hr')
      have B2 := B1 s2
      have npr' : p ≠ r' := ne_of_none (s1 _ _ hp) hr'
      refine ab_fld (s2 _ _ hp) T.c_Bench T.n_Bench_held_row (by show 8 < 1000; decide) fun H3 F3 p3 => ?_
      rw [putA 1 benchK (by decide +kernel)] at p3
      refine k H3 r' ((Fr.of s2).trans (F3.mono fun b hb => .inl hb)) ⟨⟨dx, p3⟩, F3.at B2.hn npn.symm, ?_, ⟨vs, F3.at (s2 _ _ hs) nps.symm, hvs.cimp fun _ _ z => z.tk ((Same.tk_ s2).trans F3.tk)⟩, F3.at B2.hw npw.symm, ?_, B.ns, B.nw, ?_, ?_, B.sw⟩ (.inr (s1.free hr'))
      · rw [F3.at upd_same npr'.symm, ecut]; rfl
      · exact ne_of_none (s1 _ _ B.hn) hr'
      · exact (ne_of_none (s1 _ _ hs) hr').symm
      · exact (ne_of_none (s1 _ _ B.hw) hr').symm
    | send j x =>
      obtain ⟨p', u, ev, hp', hu⟩ := hd; cases ev; rw [hq] at hp'; cases hp'
      refine iteG (by decide +kernel) ?_
      refine ⟨_, rfl, rfl, _, rfl, iteN (by decide +kernel) ?_⟩
      refine ⟨_, rfl, rfl, _, rfl, iteN (by decide +kernel) ?_⟩
      refine ⟨_, rfl, rfl, _, rfl, iteD rfl ?_⟩
      refine ⟨_, rfl, p, _, dx, _, .ref s, rfl, s1 _ _ hp, T.c_Bench, T.n_Bench_sent, lk 5 benchK (by decide +kernel), .inl ⟨rfl, _, SqL.of (s1 _ _ hs)⟩, _, rfl, q, _, _, _, rfl, rfl, SqT.of (s1 _ _ hq), atI_nat (j := 1) rfl, ?_⟩
      refine ⟨_, rfl, p, dx, _, rfl, s1 _ _ hp, lkN benchK (by decide +kernel), _, rfl, q, _, _, _, rfl, rfl, SqT.of (s1 _ _ hq), atI_nat (j := 2) rfl, p, n, r, s, w, _, x, way, said, M.md, kk, rfl, B1 s1, hu.tk (Same.tk_ s1), by rw [W.nl]; exact hok, h2, fun H2 s2 => ?_⟩
      have s2 := s1.trans s2
      refine ⟨by show 2 ≤ sizeLine; decide, fun t ht => ?_⟩
      have s3 := s2.trans (Same.new_ (o := .tup [.int (j : Nat), .int (worth M.md way said kk.nu kk.row x)]) ht)
      have B3 := B1 s3
      have F := Fr.put (S := (· = s)) (o := .lst (vs ++ [.ref t])) rfl (not_tup_lst (s3 _ _ hs))
      refine ⟨s, _, _, rfl, rfl, s3 _ _ hs, line' (by omega), ?_⟩
      refine k _ r ((Fr.of s3).trans (F.mono fun b hb => .inr (.inr (.inr (.inl hb))))) ⟨⟨dx, F.at (s3 _ _ hp) nps⟩, F.at B3.hn B.ns, F.at B3.hr B.rs, ⟨_, upd_same, ?_⟩, F.at B3.hw B.sw.symm, B.nr, B.ns, B.nw, B.rs, B.rw', B.sw⟩ (.inl rfl)
      exact Paired.csnoc2 (hvs.cimp fun _ _ z => z.tk ((Same.tk_ s3).trans F.tk)) ⟨t, rfl, F.tk _ _ upd_same⟩
    | say x =>
      obtain ⟨p', u, ev, hp', hu⟩ := hd; cases ev; rw [hq] at hp'; cases hp'
      refine iteG (by decide +kernel) ?_
      refine ⟨_, rfl, rfl, _, rfl, iteN (by decide +kernel) ?_⟩
      refine ⟨_, rfl, rfl, _, rfl, iteN (by decide +kernel) ?_⟩
      refine ⟨_, rfl, rfl, _, rfl, iteN (by decide +kernel) ?_⟩
      refine ⟨_, rfl, rfl, _, rfl, iteD rfl ?_⟩
      refine ⟨_, rfl, p, _, dx, _, .ref w, rfl, s1 _ _ hp, T.c_Bench, T.n_Bench_said_words, lk 6 benchK (by decide +kernel), .inl ⟨rfl, _, SqL.of (s1 _ _ B.hw)⟩, _, rfl, p, dx, _, rfl, s1 _ _ hp, lkN benchK (by decide +kernel), _, rfl, q, _, _, _, rfl, rfl, SqT.of (s1 _ _ hq), atI_nat (j := 1) rfl, p, n, r, s, w, _, x, way, said, M.md, kk, rfl, B1 s1, hu.tk (Same.tk_ s1), by rw [W.nl]; exact hok, h2, fun H2 s2 => ?_⟩
      have s2 := s1.trans s2
      have B2 := B1 s2
      have F := Fr.put (S := (· = w)) (o := .lst (kk.words.map V.int ++ [.int (worth M.md way said kk.nu kk.row x)])) rfl (not_tup_lst B2.hw)
      refine ⟨w, _, _, rfl, rfl, B2.hw, line' (by rw [List.length_map]; omega), ?_⟩
      refine k _ r ((Fr.of s2).trans (F.mono fun b hb => .inr (.inr (.inr (.inr hb))))) ⟨⟨dx, F.at (s2 _ _ hp) npw⟩, F.at B2.hn B.nw, F.at B2.hr B.rw', ⟨vs, F.at (s2 _ _ hs) B.sw, hvs.cimp fun _ _ z => z.tk ((Same.tk_ s2).trans F.tk)⟩, ?_, B.nr, B.ns, B.nw, B.rs, B.rw', B.sw⟩ (.inl rfl)
      show upd H2 w _ w = some (.lst ((kk.words ++ [_]).map V.int))
      rw [upd_same, List.map_append]
      rfl
    | skip x y j =>
      obtain ⟨p', u, u', ev, hp', hu, hu'⟩ := hd; cases ev; rw [hq] at hp'; cases hp'
      obtain ⟨o1, o2, o3, o4⟩ := hok
      refine iteG (by decide +kernel) ?_
      refine ⟨_, rfl, rfl, _, rfl, iteN (by decide +kernel) ?_⟩
      refine ⟨_, rfl, rfl, _, rfl, iteN (by decide +kernel) ?_⟩
      refine ⟨_, rfl, rfl, _, rfl, iteN (by decide +kernel) ?_⟩
      refine ⟨_, rfl, rfl, _, rfl, iteN (by decide +kernel) ?_⟩
      refine ⟨_, rfl, p, dx, _, rfl, s1 _ _ hp, lkN benchK (by decide +kernel), _, rfl, q, _, _, _, rfl, rfl, SqT.of (s1 _ _ hq), atI_nat (j := 1) rfl, p, n, r, s, w, _, x, way, said, M.md, kk, rfl, B1 s1, hu.tk (Same.tk_ s1), by rw [W.nl]; exact o1, h2, fun H2 s2 => ?_⟩
      have s2 := s1.trans s2
      refine ⟨_, rfl, p, dx, _, rfl, s2 _ _ hp, lkN benchK (by decide +kernel), _, rfl, q, _, _, _, rfl, rfl, SqT.of (s2 _ _ hq), atI_nat (j := 2) rfl, p, n, r, s, w, _, y, way, said, M.md, kk, rfl, B1 s2, hu'.tk (Same.tk_ s2), by rw [W.nl]; exact o2, h2, fun H3 s3 => ?_⟩
      have s3 := s2.trans s3
      have B3 := B1 s3
      refine ⟨_, _, rfl, rfl, _, rfl, ite2D (fun c => ?_) (fun c => ?_)⟩
      · have e : wkDo M.md way said kk (.skip x y j) = { kk with left := j } := if_pos c
        rw [e] at k
        refine ⟨_, rfl, q, _, _, _, rfl, rfl, SqT.of (s3 _ _ hq), atI_nat (j := 3) rfl, ?_⟩
        refine ab_fld (s3 _ _ hp) T.c_Bench T.n_Bench_left_out (by show 8 < 1000; decide) fun H4 F4 p4 => ?_
        rw [putA 7 benchK (by decide +kernel)] at p4
        exact k H4 r ((Fr.of s3).trans (F4.mono fun b hb => .inl hb)) ⟨⟨dx, p4⟩, F4.at B3.hn npn.symm, F4.at B3.hr npr.symm, ⟨vs, F4.at (s3 _ _ hs) nps.symm, hvs.cimp fun _ _ z => z.tk ((Same.tk_ s3).trans F4.tk)⟩, F4.at B3.hw npw.symm, B.nr, B.ns, B.nw, B.rs, B.rw', B.sw⟩ (.inl rfl)
      · have e : wkDo M.md way said kk (.skip x y j) = kk := if_neg c
        rw [e] at k
        exact k _ r (Fr.of s3) B3 (.inl rfl)
end Cr
namespace Cr
open PySem PySem.Spec PyProof.Rows L2 He
theorem sc_Bench_left_state : FnScope ["self"] ["self"] (defScope s_Bench_left_state) := ⟨rfl, rfl, rfl, by decide +kernel, rfl, by decide +kernel, by decide +kernel⟩
def sp_Bench_left_state (K : PySem.W.Frag) : Sp := fun vs H Q _ => ∃ (p n r s w : Addr) (way : Nat) (said md : Int) (k : Wk), vs = [.ref p] ∧ BenchAt (ga K "Bench") H p n r s w way said md k ∧
  ∀ H' v, Same H H' → IsSta H' v (k.nu, k.row) → Q v H'
theorem ok_Bench_left_state {P : Program} {w : World} {K : PySem.W.Frag} {mg : Str → Option Value} {base : Heap} (T : Txt K mg) : Met P w K mg base 1 (ga K "Bench") "left_state" (sp_Bench_left_state K) := by
  refine Met.mk0 T.c_Bench T.m_Bench_left_state T.D_Bench_left_state sc_Bench_left_state (fun _ _ _ _ _ _ us hl => match us, hl with | [_], _ => rfl) (fun vs H Q E h => ?_) (fun cdv A outer s H vs Q E hr h => ?_)
  · obtain ⟨p, n, r, s, w, way, said, md, k, rfl, _⟩ := h
    rfl
  · obtain ⟨p, n, r, s, w, way, said, md, kk, rfl, B, k⟩ := h
    obtain ⟨dx, hp⟩ := B.ob
    refine ⟨_, (pss_one (ps_ret (pe_tup (pa_cons (pe_callTy call_tuple_of (by rfl) T.f_tuple (by decide +kernel) (pa_cons (pe_fld (pv 0) rfl) pa_nil)) (pa_cons (pe_callTy call_tuple_of (by rfl) T.f_tuple (by decide +kernel) (pa_cons (pe_fld (pv 0) rfl) pa_nil)) pa_nil))))), ?_⟩
    refine ⟨_, rfl, p, _, dx, _, _, rfl, hp, T.c_Bench, T.n_Bench_held_numbers, lk 0 benchK (by decide +kernel), n, _, rfl, .inl ⟨SqL.of B.hn, fun a ha => ?_⟩⟩
    have s1 := Same.new_ (o := .tup (kk.nu.map V.int)) ha
    refine ⟨_, rfl, p, _, dx, _, _, rfl, s1 _ _ hp, T.c_Bench, T.n_Bench_held_row, lk 1 benchK (by decide +kernel), r, _, rfl, .inl ⟨SqL.of (s1 _ _ B.hr), fun b hb => ?_⟩⟩
    have s2 := Same.new_ (o := .tup (kk.row.map V.int)) hb
    refine ⟨by show 2 ≤ sizeLine; decide, fun t ht => ?_⟩
    have s3 := Same.new_ (o := .tup [.ref a, .ref b]) ht
    exact k _ _ ((s1.trans s2).trans s3) ⟨t, a, b, rfl, upd_same, s3 _ _ (s2 _ _ upd_same), s3 _ _ upd_same⟩
end Cr
namespace Cr
open PySem PySem.Spec PyProof.Rows L2 He
theorem sc_Machine_worked : FnScope ["self", "state", "way", "said", "bench", "deed"] ["self", "state", "way", "said"] (defScope s_Machine_worked) := ⟨rfl, rfl, rfl, by decide +kernel, rfl, by decide +kernel, by decide +kernel⟩
/-- what a machine's work tells: the new state, the letters, the words; the two lists are new -/
structure WorkAt (H H' : Hp) (t sn wd : Addr) (sv : V) (vs : List V) (k : Wk) : Prop where
  t : H' t = some (.tup [sv, .ref sn, .ref wd])
  st : IsSta H' sv (k.nu, k.row)
  hs : H' sn = some (.lst vs)
  ps : Paired (IsPr H') vs k.sent
  hw : H' wd = some (.lst (k.words.map V.int))
  ns : H sn = none
  nw : H wd = none
def sp_Machine_worked (K : PySem.W.Frag) : Sp := fun vs H Q _ => ∃ (p s : Addr) (M : Mch) (st : Sta) (way : Nat) (said : Int), vs = [.ref p, .ref s, .int (way : Nat), .int said] ∧ IsPMch (ga K "Machine") H (.ref p) M ∧ M.ok ∧ IsSta H (.ref s) st ∧ StaOk M st ∧
  ∀ H' t sn wd sv vs, Same H H' → WorkAt H H' t sn wd sv vs (wkEnd M st way said) → Q (.ref t) H'
theorem ok_Machine_worked {P : Program} {w : World} {K : PySem.W.Frag} {mg : Str → Option Value} {base : Heap} (T : Txt K mg) : Met P w K mg base 4 (ga K "Machine") "worked" (sp_Machine_worked K) := by
  have G_Bench_new := ok_Bench_new (P := P) (w := w) (base := base) T
  have G_Bench_do_deed := ok_Bench_do_deed (P := P) (w := w) (base := base) T
  have G_Bench_left_state := ok_Bench_left_state (P := P) (w := w) (base := base) T
  refine Met.mk0 T.c_Machine T.m_Machine_worked T.D_Machine_worked sc_Machine_worked (fun _ _ _ _ _ _ us hl => match us, hl with | [_, _, _, _], _ => rfl) (fun vs H Q E h => ?_) (fun cdv A outer s H vs Q E hr h => ?_)
  · obtain ⟨p, s, M, st, way, said, rfl, _⟩ := h
    rfl
  · obtain ⟨p, s, M, st, way, said, rfl, ⟨p', dx, b, t, ds, ep, hp, hb, ht, hds⟩, hM, hst, hso, k⟩ := h
    cases ep
    have hdl := hds.length
    have d12 := hM.d12
    refine ⟨_, (pss_cons (ps_set (i := 4) sc_Machine_worked.nd rfl (Or.inl rfl) (pe_mk G_Bench_new hr (by decide) (by rfl) (pa_cons (pv 1) (pa_cons (pv 2) (pa_cons (pv 3) (pa_cons (pe_fld (pv 0) rfl) pa_nil))))))
      (pss_cons (ps_for PassesOwn.never rfl (pi_list (pe_fld (pv 0) rfl)) (pg_name (i := 5) sc_Machine_worked.nd rfl (Or.inl rfl)) (pss_one (ps_expr (pe_mt G_Bench_do_deed hr (by decide) (pv 4) (pa_cons (pv 5) pa_nil)))))
      (pss_one (ps_ret (pe_tup (pa_cons (pe_mt0 G_Bench_left_state hr (by decide) (pv 4)) (pa_cons (pe_fld (pv 4) rfl) (pa_cons (pe_fld (pv 4) rfl) pa_nil)))))))), ?_⟩
    refine ⟨_, rfl, _, rfl, _, rfl, _, rfl, p, _, dx, _, _, rfl, hp, T.c_Machine, T.n_Machine_base, lk 0 machK (by decide +kernel), fun x dy nx ny nxy => ?_⟩
    have s0 : Same H (upd (upd H dy (.own x)) x (.ins (ga K "Bench") dy [])) := (Same.new_ ny).trans (Same.new_ (by rw [upd_ne nxy.symm]; exact nx))
    refine ⟨x, dy, s, st, way, said, M.md, rfl, upd_same, hst.tk (Same.tk_ s0), fun H1 n r sn wd F1 B1 fn fr fs fw => ⟨rfl, ?_⟩⟩
    have s1 : Same H H1 := F1.same s0 fun b hb => by rw [hb]; exact nx
    refine ⟨_, rfl, p, _, dx, _, .ref t, rfl, s1 _ _ hp, T.c_Machine, T.n_Machine_todo, lk 2 machK (by decide +kernel), t, rfl, ⟨_, SqL.of (s1 _ _ ht)⟩, ?_⟩
    refine for_it (walk_list (xs := ds)) (fun i σ H' => ∃ r' v, σ = [some (.ref p), some (.ref s), some (.int (way : Nat)), some (.int said), some (.ref x), v] ∧ Same H H' ∧ BenchAt (ga K "Bench") H' x n r' sn wd way said M.md (wkRun M st way said (M.ds.take i)) ∧ H r' = none)
      ⟨r, _, rfl, s1, B1, s0.free fr⟩ (fun i σ H' _ P => SqL.of (by obtain ⟨_, _, _, s, _⟩ := P; exact s _ _ ht)) ?_ ?_
    · rintro i y σ H2 H3 hi ⟨r', v, rfl, s2, B2, fr'⟩ ⟨rfl, hy⟩
      obtain ⟨d, hd, hdd⟩ := hds.cget hy
      obtain ⟨dz, hx⟩ := B2.ob
      refine ⟨_, rfl, x, dz, _, rfl, hx, lkN benchK (by decide +kernel), _, rfl, x, n, r', sn, wd, _, d, M, i, way, said, _, rfl, B2, hdd.tk (Same.tk_ s2), hM.ds d (List.mem_of_getElem? hd), hM, wkRun_ok hM hso i (by omega), by omega, fun H4 r4 F4 B4 h4 => ?_⟩
      have s4 : Same H H4 := F4.same s2 fun b hb => by
        rcases hb with rfl | rfl | rfl | rfl | rfl
        · exact nx
        · exact s0.free fn
        · exact fr'
        · exact s0.free fs
        · exact s0.free fw
      refine ⟨r4, _, rfl, s4, by rw [wkRun_take hd]; exact B4, ?_⟩
      rcases h4 with rfl | h4
      · exact fr'
      · exact s2.free h4
    · rintro σ H2 ⟨r', v, rfl, s2, B2, fr'⟩
      rw [hdl, List.take_length] at B2
      obtain ⟨dz, hx⟩ := B2.ob
      obtain ⟨vs, hs, hvs⟩ := B2.hs
      refine ⟨_, rfl, x, dz, _, rfl, hx, lkN benchK (by decide +kernel), x, n, r', sn, wd, way, said, M.md, _, rfl, B2, fun H3 sv s3 hsv => ?_⟩
      refine ⟨_, rfl, x, _, dz, _, .ref sn, rfl, s3 _ _ hx, T.c_Bench, T.n_Bench_sent, lk 5 benchK (by decide +kernel), ?_⟩
      refine ⟨_, rfl, x, _, dz, _, .ref wd, rfl, s3 _ _ hx, T.c_Bench, T.n_Bench_said_words, lk 6 benchK (by decide +kernel), by show 3 ≤ sizeLine; decide, fun q hq => ?_⟩
      have s4 := Same.new_ (o := .tup [sv, .ref sn, .ref wd]) hq
      exact k _ q sn wd sv vs ((s2.trans s3).trans s4) ⟨upd_same, hsv.tk (Same.tk_ s4), s4 _ _ (s3 _ _ hs), hvs.cimp fun _ _ z => z.tk (Same.tk_ (s3.trans s4)), s4 _ _ (s3 _ _ B2.hw), s0.free fs, s0.free fw⟩
end Cr
namespace Cr
open PySem PySem.Spec PyProof.Rows L2 He
theorem sc_Lworked : FnScope ["_law_machine_here", "_law_state", "_law_way", "_law_said", "_law_numbers", "_law_row", "_law_sent", "_law_words", "_law_left", "_law_deed_here", "_law_worths", "_law_one"] ["_law_machine_here", "_law_state", "_law_way", "_law_said"] (defScope s_Lworked) := ⟨rfl, rfl, rfl, by decide +kernel, rfl, by decide +kernel, by decide +kernel⟩
def ElR (H : Hp) (x : V) : Option Vl → Prop
  | none => (∃ s, x = .str s) ∨ ∃ i, x = .int i
  | some v => IsVl H x v
def Dd.vals : Dd → List Vl
  | .set _ v => [v]
  | .add _ v => [v]
  | .times _ v => [v]
  | .send _ v => [v]
  | .say v => [v]
  | .put v => [v]
  | .drop => []
  | .skip v u _ => [v, u]
theorem IsDd.els {H : Hp} {v : V} {d : Dd} (h : IsDd H v d) : ∃ q xs os, v = .ref q ∧ H q = some (.tup xs) ∧ xs.length ≤ 4 ∧ Paired (ElR H) xs os ∧ os.filterMap id = d.vals := by
  have sc : ∀ s : Str, ElR H (.str s) none := fun s => .inl ⟨s, rfl⟩
  have ic : ∀ i : Int, ElR H (.int i) none := fun i => .inr ⟨i, rfl⟩
  have vc : ∀ {u x}, IsVl H u x → ElR H u (some x) := fun h => h
  cases d with
  | drop => obtain ⟨p, e, hp⟩ := h; exact ⟨p, _, [none], e, hp, by simp, .cons (sc _) .nil, rfl⟩
  | skip x y k => obtain ⟨p, u, u', e, hp, h1, h2⟩ := h; exact ⟨p, _, [none, some x, some y, none], e, hp, by simp, .cons (sc _) (.cons (vc h1) (.cons (vc h2) (.cons (ic _) .nil))), rfl⟩
  | set i x => obtain ⟨p, u, e, hp, h1⟩ := h; exact ⟨p, _, [none, none, some x], e, hp, by simp, .cons (sc _) (.cons (ic _) (.cons (vc h1) .nil)), rfl⟩
  | add i x => obtain ⟨p, u, e, hp, h1⟩ := h; exact ⟨p, _, [none, none, some x], e, hp, by simp, .cons (sc _) (.cons (ic _) (.cons (vc h1) .nil)), rfl⟩
  | times i x => obtain ⟨p, u, e, hp, h1⟩ := h; exact ⟨p, _, [none, none, some x], e, hp, by simp, .cons (sc _) (.cons (ic _) (.cons (vc h1) .nil)), rfl⟩
  | send i x => obtain ⟨p, u, e, hp, h1⟩ := h; exact ⟨p, _, [none, none, some x], e, hp, by simp, .cons (sc _) (.cons (ic _) (.cons (vc h1) .nil)), rfl⟩
  | say x => obtain ⟨p, u, e, hp, h1⟩ := h; exact ⟨p, _, [none, some x], e, hp, by simp, .cons (sc _) (.cons (vc h1) .nil), rfl⟩
  | put x => obtain ⟨p, u, e, hp, h1⟩ := h; exact ⟨p, _, [none, some x], e, hp, by simp, .cons (sc _) (.cons (vc h1) .nil), rfl⟩
theorem Dd.ok.vals {m : Nat} {d : Dd} (h : d.ok m) : ∀ x ∈ d.vals, x.ok m := fun x hx => by
  cases d with
  | drop => cases hx
  | skip v u k =>
    rcases List.mem_cons.mp hx with rfl | hx
    · exact h.1
    · rw [List.mem_singleton.mp hx]; exact h.2.1
  | set i v => rw [List.mem_singleton.mp hx]; exact h.2
  | add i v => rw [List.mem_singleton.mp hx]; exact h.2
  | times i v => rw [List.mem_singleton.mp hx]; exact h.2
  | send i v => rw [List.mem_singleton.mp hx]; exact h
  | say v => rw [List.mem_singleton.mp hx]; exact h
  | put v => rw [List.mem_singleton.mp hx]; exact h
/-- the law's bench -/
structure LBn (H0 H : Hp) (n r s w : Addr) (k : Wk) : Prop where
  s0 : Same H0 H
  hn : H n = some (.lst (k.nu.map V.int))
  hr : H r = some (.lst (k.row.map V.int))
  hs : ∃ vs, H s = some (.lst vs) ∧ Paired (IsPr H) vs k.sent
  hw : H w = some (.lst (k.words.map V.int))
  fn : H0 n = none
  fr : H0 r = none
  fs : H0 s = none
  fw : H0 w = none
  nr : n ≠ r
  ns : n ≠ s
  nw : n ≠ w
  rs : r ≠ s
  rw' : r ≠ w
  sw : s ≠ w
theorem LBn.keep {H0 H H' : Hp} {n r s w : Addr} {k : Wk} (B : LBn H0 H n r s w k) (t : Same H H') : LBn H0 H' n r s w k :=
  ⟨B.s0.trans t, t _ _ B.hn, t _ _ B.hr, let ⟨vs, a, b⟩ := B.hs; ⟨vs, t _ _ a, b.cimp fun _ _ z => z.tk (Same.tk_ t)⟩, t _ _ B.hw, B.fn, B.fr, B.fs, B.fw, B.nr, B.ns, B.nw, B.rs, B.rw', B.sw⟩
def sp_Lworked (K : PySem.W.Frag) : Sp := fun vs H Q _ => ∃ (v sv : V) (M : Mch) (st : Sta) (way : Nat) (said : Int), vs = [v, sv, .int (way : Nat), .int said] ∧ IsLMch H v M ∧ M.ok ∧ IsSta H sv st ∧ StaOk M st ∧
  ∀ H' t sn wd sv' us, Same H H' → WorkAt H H' t sn wd sv' us (wkEnd M st way said) → sn ≠ wd → Q (.ref t) H'
theorem ok_Lworked {P : Program} {w : World} {K : PySem.W.Frag} {mg : Str → Option Value} {base : Heap} (T : Txt K mg) : Cal P w K mg base 2 "_law_worked" (sp_Lworked K) := by
  have G_Lworth := ok_Lworth (P := P) (w := w) (base := base) T
  refine Cal.mk0 T.g_Lworked T.D_Lworked sc_Lworked (fun _ _ _ _ _ _ us hl => match us, hl with | [_, _, _, _], _ => rfl) (fun vs H Q E h => ?_) (fun cdv A outer s H vs Q E hr h => ?_)
  · obtain ⟨v, sv, M, st, way, said, rfl, _⟩ := h
    rfl
  · obtain ⟨v, sv, M, st, way, said, rfl, hM0, hM, ⟨ps, a, b, rfl, hps, hpa, hpb⟩, hso, k⟩ := h
    obtain ⟨pm, mn, mr, mdl, dvs, rfl, hpm, LM⟩ := hM0
    have hdl := LM.ds.length
    have d12 := hM.d12
    have h2 := hM.md2
    have h12 := hM.md12
    refine ⟨_, (pss_cons (ps_set (i := 4) sc_Lworked.nd rfl (Or.inr rfl) (pe_callTy call_list_of (by rfl) T.f_list (by decide +kernel) (pa_cons (pe_ix ix_tup (pv 1) pe_int (fun _ _ => rfl)) pa_nil)))
      (pss_cons (ps_set (i := 5) sc_Lworked.nd rfl (Or.inr rfl) (pe_callTy call_list_of (by rfl) T.f_list (by decide +kernel) (pa_cons (pe_ix ix_tup (pv 1) pe_int (fun _ _ => rfl)) pa_nil)))
      (pss_cons (ps_set (i := 6) sc_Lworked.nd rfl (Or.inl rfl) (pe_lst pa_nil))
      (pss_cons (ps_set (i := 7) sc_Lworked.nd rfl (Or.inl rfl) (pe_lst pa_nil))
      (pss_cons (ps_set (i := 8) sc_Lworked.nd rfl (Or.inl rfl) pe_int)
      (pss_cons (ps_for PassesOwn.never rfl (pi_list (pe_ix ix_tup (pv 0) pe_int (fun _ _ => rfl))) (pg_name (i := 9) sc_Lworked.nd rfl (Or.inl rfl)) (pss_cons (ps_setLc (i := 10) (own := [("_law_one", 11)]) rfl sc_Lworked.nd rfl rfl (sw_true rfl rfl rfl (by decide +kernel)) (pi_tup (pv 9)) (blkOk_by (own := [("_law_one", 11)]) (N := ["_law_machine_here", "_law_state", "_law_way", "_law_said", "_law_numbers", "_law_row", "_law_sent", "_law_words", "_law_left", "_law_deed_here", "_law_worths", "_law_one"]) (sc := defScope s_Lworked) (by decide +kernel)) (fun _ _ _ _ _ => (pg_name (i := 11) sc_Lworked.nd rfl (Or.inl rfl))) (fun _ _ _ _ _ => pts_one (pt_val (pe_callB (call_isiK' (K := K) rfl) (by rfl) T.f_isinstance (by decide +kernel) (pa_cons (pv 11) (pa_cons (pe_bltn (v := .ty "tuple") (by rfl) T.f_tuple (by decide +kernel) rfl) pa_nil))))) (fun _ _ _ _ _ => (pe_c G_Lworth hr (by decide) (by rfl) (pa_cons (pv 11) (pa_cons (pe_tup (pa_cons (pv 4) (pa_cons (pv 5) pa_nil))) (pa_cons (pv 2) (pa_cons (pv 3) (pa_cons (pe_ix (ix_tupK (K := K) rfl) (pv 0) pe_int (fun _ _ => rfl)) pa_nil))))))))
      (pss_one (ps_if (pt_cmpR op_gt (pv 8) pe_int (nomark _)) (pss_one (ps_set (i := 8) sc_Lworked.nd rfl (Or.inl rfl) (pe_op op_sub (pv 8) pe_int))) (pss_one (ps_if (pt_cmpR op_eq (pe_ix ix_tup (pv 9) pe_int (fun _ _ => rfl)) pe_str (nomark _)) (pss_one (ps_asg (pe_ix ix_list (pv 10) pe_int (fun _ _ => rfl)) (pg_sub (pv 4) (pe_ix ix_tup (pv 9) pe_int (fun _ _ => rfl)) set_list))) (pss_one (ps_if (pt_cmpR op_eq (pe_ix ix_tup (pv 9) pe_int (fun _ _ => rfl)) pe_str (nomark _)) (pss_one (ps_asg (pe_op op_mod (pe_op op_add (pe_ix ix_list (pv 4) (pe_ix ix_tup (pv 9) pe_int (fun _ _ => rfl)) (fun _ _ => rfl)) (pe_ix ix_list (pv 10) pe_int (fun _ _ => rfl))) (pe_ix ix_tup (pv 0) pe_int (fun _ _ => rfl))) (pg_sub (pv 4) (pe_ix ix_tup (pv 9) pe_int (fun _ _ => rfl)) set_list))) (pss_one (ps_if (pt_cmpR op_eq (pe_ix ix_tup (pv 9) pe_int (fun _ _ => rfl)) pe_str (nomark _)) (pss_one (ps_asg (pe_op op_mod (pe_op op_mul (pe_ix ix_list (pv 4) (pe_ix ix_tup (pv 9) pe_int (fun _ _ => rfl)) (fun _ _ => rfl)) (pe_ix ix_list (pv 10) pe_int (fun _ _ => rfl))) (pe_ix ix_tup (pv 0) pe_int (fun _ _ => rfl))) (pg_sub (pv 4) (pe_ix ix_tup (pv 9) pe_int (fun _ _ => rfl)) set_list))) (pss_one (ps_if (pt_cmpR op_eq (pe_ix ix_tup (pv 9) pe_int (fun _ _ => rfl)) pe_str (nomark _)) (pss_one (ps_set (i := 5) sc_Lworked.nd rfl (Or.inr rfl) (pe_slice sl_list (pe_op op_cat (pv 5) (pv 10)) po_none (po_some pe_int)))) (pss_one (ps_if (pt_cmpR op_eq (pe_ix ix_tup (pv 9) pe_int (fun _ _ => rfl)) pe_str (nomark _)) (pss_one (ps_set (i := 5) sc_Lworked.nd rfl (Or.inr rfl) (pe_slice sl_list (pv 5) (po_some pe_int) po_none))) (pss_one (ps_if (pt_cmpR op_eq (pe_ix ix_tup (pv 9) pe_int (fun _ _ => rfl)) pe_str (nomark _)) (pss_one (ps_expr (pe_bm PySem.F.plainAttrs_list PySem.F.slot_list_append PySem.F.type_list_append mt_append (pv 6) (pa_cons (pe_tup (pa_cons (pe_ix ix_tup (pv 9) pe_int (fun _ _ => rfl)) (pa_cons (pe_ix ix_list (pv 10) pe_int (fun _ _ => rfl)) pa_nil))) pa_nil)))) (pss_one (ps_if (pt_cmpR op_eq (pe_ix ix_tup (pv 9) pe_int (fun _ _ => rfl)) pe_str (nomark _)) (pss_one (ps_expr (pe_bm PySem.F.plainAttrs_list PySem.F.slot_list_append PySem.F.type_list_append mt_append (pv 7) (pa_cons (pe_ix ix_list (pv 10) pe_int (fun _ _ => rfl)) pa_nil)))) (pss_one (ps_if (pt_cmpR op_lt (pe_ix ix_list (pv 10) pe_int (fun _ _ => rfl)) (pe_ix ix_list (pv 10) pe_int (fun _ _ => rfl)) (nomark _)) (pss_one (ps_set (i := 8) sc_Lworked.nd rfl (Or.inl rfl) (pe_ix ix_tup (pv 9) pe_int (fun _ _ => rfl)))) pss_nil))))))))))))))))))))
      (pss_one (ps_ret (pe_tup (pa_cons (pe_tup (pa_cons (pe_callTy call_tuple_of (by rfl) T.f_tuple (by decide +kernel) (pa_cons (pv 4) pa_nil)) (pa_cons (pe_callTy call_tuple_of (by rfl) T.f_tuple (by decide +kernel) (pa_cons (pv 5) pa_nil)) pa_nil))) (pa_cons (pv 6) (pa_cons (pv 7) pa_nil)))))))))))), ?_⟩
    refine ⟨_, rfl, ps, _, _, _, rfl, rfl, SqT.of hps, atI_nat (j := 0) rfl, a, _, rfl, .inr (SqT.of hpa), fun n hn => ?_⟩
    have s1 := Same.new_ (o := .lst (st.1.map V.int)) hn
    refine ⟨_, rfl, ps, _, _, _, rfl, rfl, SqT.of (s1 _ _ hps), atI_nat (j := 1) rfl, b, _, rfl, .inr (SqT.of (s1 _ _ hpb)), fun r0 hr0 => ?_⟩
    have s2 := Same.new_ (o := .lst (st.2.map V.int)) hr0
    refine ⟨line (by show 0 ≤ 16777216; decide), fun s hs => ?_⟩
    have s3 := Same.new_ (o := .lst []) hs
    refine ⟨line (by show 0 ≤ 16777216; decide), fun w' hw => ?_⟩
    have s4 := Same.new_ (o := .lst []) hw
    have e1 : (upd H n (.lst (st.1.map V.int))) n = some (.lst (st.1.map V.int)) := upd_same
    have e2 := s2 _ _ e1
    have e3 : (upd (upd H n (.lst (st.1.map V.int))) r0 (.lst (st.2.map V.int))) r0 = some (.lst (st.2.map V.int)) := upd_same
    have B0 : LBn H (upd (upd (upd (upd H n (.lst (st.1.map V.int))) r0 (.lst (st.2.map V.int))) s (.lst [])) w' (.lst [])) n r0 s w' (wkRun M st way said (M.ds.take 0)) :=
      ⟨s1.trans (s2.trans (s3.trans s4)), s4 _ _ (s3 _ _ e2), s4 _ _ (s3 _ _ e3), ⟨[], s4 _ _ upd_same, .nil⟩, upd_same, hn, s1.free hr0, s1.free (s2.free hs), s1.free (s2.free (s3.free hw)), ne_of_none e1 hr0, ne_of_none e2 hs, ne_of_none (s3 _ _ e2) hw, ne_of_none e3 hs, ne_of_none (s3 _ _ e3) hw, ne_of_none upd_same hw⟩
    refine ⟨_, rfl, pm, _, _, _, rfl, rfl, SqT.of (B0.s0 _ _ hpm), atI_nat (j := 3) rfl, mdl, rfl, ⟨_, SqL.of (B0.s0 _ _ LM.d)⟩, ?_⟩
    refine for_it (n := dvs.length) walk_list (fun i σ H' => ∃ r v9 v10, σ = [some (.ref pm), some (.ref ps), some (.int (way : Nat)), some (.int said), some (.ref n), some (.ref r), some (.ref s), some (.ref w'), some (.int ((wkRun M st way said (M.ds.take i)).left : Nat)), v9, v10, none] ∧ LBn H H' n r s w' (wkRun M st way said (M.ds.take i)))
      ⟨r0, _, _, rfl, B0⟩ (fun i σ H' _ P => SqL.of (by obtain ⟨_, _, _, _, B⟩ := P; exact B.s0 _ _ LM.d)) ?_ ?_
    · rintro i' y σ H1 H1' hi ⟨r, v9, v10, rfl, B⟩ ⟨rfl, hy⟩
      obtain ⟨d, hd, hdd0⟩ := LM.ds.cget hy
      have hdok := hM.ds d (List.mem_of_getElem? hd)
      have W := wkRun_ok (way := way) (said := said) hM hso i' (by omega)
      rw [wkRun_take hd]
      generalize wkRun M st way said (M.ds.take i') = kk at B W
      have hdd1 := hdd0.tk (Same.tk_ B.s0)
      obtain ⟨q, xs, os, rfl, hq, lxs, pos, eos⟩ := hdd1.els
      have lpos := pos.length
      -- the worths
      refine ⟨_, rfl, q, rfl, ⟨_, SqT.of hq⟩, fun D hD => ?_⟩
      refine lc_it (n := xs.length) walk_tup (fun i H' => Same H1' H' ∧ H' D = some (.lst ((((os.take i).filterMap id).map (worth M.md way said kk.nu kk.row)).map V.int))) ⟨Same.new_ hD, upd_same⟩ (fun i H' _ P => SqT.of (P.1 _ _ hq)) ?_ ?_
      · rintro i x H2 H2' hi ⟨s2, h1⟩ ⟨rfl, hx⟩
        refine ⟨rfl, ?_⟩
        obtain ⟨o, ho, hxo⟩ := pos.cget hx
        cases o with
        | none =>
          have fin : Same H1' H2' ∧ H2' D = some (.lst ((((os.take (i + 1)).filterMap id).map (worth M.md way said kk.nu kk.row)).map V.int)) := ⟨s2, by rw [take_more ho, List.filterMap_append]; simpa using h1⟩
          rcases hxo with ⟨z, rfl⟩ | ⟨z, rfl⟩
          · exact ⟨_, rfl, _, _, _, _, false, rfl, .ty _, .base (.str _), kit_ty (by decide +kernel), false, rfl, iteF fin⟩
          · exact ⟨_, rfl, _, _, _, _, false, rfl, .ty _, .base (.int _), kit_ty (by decide +kernel), false, rfl, iteF fin⟩
        | some vl =>
          have hvl : IsVl H2' x vl := IsVl.tk hxo (Same.tk_ s2)
          have hxt : ∃ pv xv, x = .ref pv ∧ H2' pv = some (.tup xv) := by
            cases vl <;> (obtain ⟨pv, e, h⟩ := hvl; exact ⟨pv, _, e, h⟩)
          obtain ⟨pv, xv, rfl, hpv⟩ := hxt
          refine ⟨_, rfl, _, _, _, _, true, rfl, .ty _, .base (.tup hpv), kit_ty (by decide +kernel), true, rfl, iteT ?_⟩
          have hmem : vl ∈ d.vals := by
            rw [← eos]
            exact List.mem_filterMap.mpr ⟨some vl, List.mem_of_getElem? ho, rfl⟩
          refine ⟨_, rfl, _, rfl, _, rfl, line (by show 2 ≤ 16777216; decide), fun tt htt => ?_⟩
          have stt := Same.new_ (o := .tup [.ref n, .ref r]) htt
          have sAll := s2.trans stt
          have BB := B.keep sAll
          refine ⟨_, rfl, _, rfl, _, rfl, pm, _, _, _, rfl, rfl, SqT.of (BB.s0 _ _ hpm), atI_nat (j := 0) rfl, .ref pv, vl, tt, n, r, kk.nu, kk.row, way, said, M.md, rfl, hvl.tk (Same.tk_ stt), ⟨upd_same, BB.hn, BB.hr⟩, by rw [W.nl]; exact hdok.vals vl hmem, h2, by have := W.rl; omega, fun H3 s3 => ?_⟩
          have h3 := s3 _ _ (stt _ _ h1)
          have hlen : (((os.take i).filterMap id).map (worth M.md way said kk.nu kk.row)).length ≤ i := by
            rw [List.length_map]
            refine Nat.le_trans (List.length_filterMap_le _ _) ?_
            rw [List.length_take]; omega
          refine ⟨_, h3, line' (by rw [List.length_map]; omega), (sAll.trans s3).putN hD, ?_⟩
          rw [upd_same, take_more ho, List.filterMap_append, List.map_append, List.map_append]
          rfl
      rintro H2 ⟨s2', hD2⟩
      rw [lpos, List.take_length, eos] at hD2
      replace B := B.keep s2'
      have hdd := hdd1.tk (Same.tk_ s2')
      have hq2 := s2' _ _ hq
      have s2 := B.s0
      clear pos eos
      refine ⟨_, rfl, _, _, rfl, rfl, _, rfl, ite2D (fun hl => ?_) (fun hl => ?_)⟩
      · have ew : wkStep M.md way said kk d = { kk with left := kk.left - 1 } := by unfold wkStep; rw [if_pos (by omega)]
        refine ⟨_, rfl, _, _, rfl, rfl, r, some (.ref q), some (.ref D), ?_, by rw [ew]; exact ⟨B.s0, B.hn, B.hr, B.hs, B.hw, B.fn, B.fr, B.fs, B.fw, B.nr, B.ns, B.nw, B.rs, B.rw', B.sw⟩⟩
        rw [ew]
        have e : ((kk.left : Int) - 1) = ((kk.left - 1 : Nat) : Int) := by omega
        show _ = [some (V.ref pm), some (.ref ps), some (.int (way : Nat)), some (.int said), some (.ref n), some (.ref r), some (.ref s), some (.ref w'), some (.int ((kk.left - 1 : Nat) : Int)), some (.ref q), some (.ref D), none]
        rw [← e]
        rfl
      have ew : wkStep M.md way said kk d = wkDo M.md way said kk d := by unfold wkStep; rw [if_neg (by omega)]
      rw [ew]
      have m0 : (0 : Int) < M.md := by omega
      have mne : M.md ≠ 0 := by omega
      have nb : ∀ y ∈ kk.nu, 0 ≤ y ∧ y < 10 ^ 12 := fun y hy => by have := W.nb y hy; omega
      have num : ∀ (i : Nat) (z : Int), wkDo M.md way said kk d = { kk with nu := kk.nu.set i z } → ∃ (r_1 : Addr) (v9 v10 : Option V), [some (V.ref pm), some (V.ref ps), some (V.int (way : Nat)), some (V.int said), some (V.ref n), some (V.ref r), some (V.ref s), some (V.ref w'), some (V.int (kk.left : Nat)), some (V.ref q), some (V.ref D), none] =
          [some (.ref pm), some (.ref ps), some (.int (way : Nat)), some (.int said), some (.ref n), some (.ref r_1), some (.ref s), some (.ref w'), some (.int ((wkDo M.md way said kk d).left : Nat)), v9, v10, none] ∧ LBn H (upd H2 n (.lst ((kk.nu.set i z).map V.int))) n r_1 s w' (wkDo M.md way said kk d) := fun i z e => by
        have F := Fr.put (S := (· = n)) (o := .lst ((kk.nu.set i z).map V.int)) rfl (not_tup_lst B.hn)
        rw [e]
        obtain ⟨vs, hs, hvs⟩ := B.hs
        exact ⟨r, _, _, rfl, B.s0.putN B.fn, upd_same, F.at B.hr B.nr.symm, ⟨vs, F.at hs B.ns.symm, hvs.cimp fun _ _ z => z.tk F.tk⟩, F.at B.hw B.nw.symm, B.fn, B.fr, B.fs, B.fw, B.nr, B.ns, B.nw, B.rs, B.rw', B.sw⟩
      cases d with
    | set i x =>
      obtain ⟨q', u, ev, hq', hu⟩ := hdd; cases ev; rw [hq2] at hq'; cases hq'
      obtain ⟨o1, o2⟩ := hdok
      refine ⟨_, rfl, q, _, _, _, rfl, rfl, SqT.of hq2, atI_nat (j := 0) rfl, rfl, _, rfl, iteD rfl ?_⟩
      refine ⟨_, rfl, D, _, _, _, rfl, rfl, SqL.of hD2, atI_nat (j := 0) rfl, _, rfl, _, rfl, q, _, _, _, rfl, rfl, SqT.of hq2, atI_nat (j := 1) rfl, n, _, _, i, rfl, rfl, B.hn, Evl.ixN_nat (by rw [List.length_map, W.nl]; exact o1), ?_⟩
      rw [← List.map_set]
      exact num i _ rfl
    | add i x =>
      obtain ⟨q', u, ev, hq', hu⟩ := hdd; cases ev; rw [hq2] at hq'; cases hq'
      obtain ⟨o1, o2⟩ := hdok
      have eg : kk.nu[i]? = some (kk.nu.getD i 0) := nt_get (by rw [W.nl]; exact o1) 0
      refine ⟨_, rfl, q, _, _, _, rfl, rfl, SqT.of hq2, atI_nat (j := 0) rfl, rfl, _, rfl, iteN (by decide +kernel) ?_⟩
      refine ⟨_, rfl, q, _, _, _, rfl, rfl, SqT.of hq2, atI_nat (j := 0) rfl, rfl, _, rfl, iteD rfl ?_⟩
      refine ⟨_, rfl, _, rfl, q, _, _, _, rfl, rfl, SqT.of hq2, atI_nat (j := 1) rfl, n, _, _, _, rfl, rfl, SqL.of B.hn, atI_nat (ints_get eg), _, rfl, D, _, _, _, rfl, rfl, SqL.of hD2, atI_nat (j := 0) rfl, _, _, rfl, rfl, _, rfl, pm, _, _, _, rfl, rfl, SqT.of (s2 _ _ hpm), atI_nat (j := 0) rfl, _, _, rfl, rfl, m0, _, rfl, _, rfl, q, _, _, _, rfl, rfl, SqT.of hq2, atI_nat (j := 1) rfl, n, _, _, i, rfl, rfl, B.hn, Evl.ixN_nat (by rw [List.length_map, W.nl]; exact o1), ?_⟩
      rw [← List.map_set]
      exact num i _ rfl
    | times i x =>
      obtain ⟨q', u, ev, hq', hu⟩ := hdd; cases ev; rw [hq2] at hq'; cases hq'
      obtain ⟨o1, o2⟩ := hdok
      have eg : kk.nu[i]? = some (kk.nu.getD i 0) := nt_get (by rw [W.nl]; exact o1) 0
      have yb := nb _ (List.mem_of_getElem? eg)
      refine ⟨_, rfl, q, _, _, _, rfl, rfl, SqT.of hq2, atI_nat (j := 0) rfl, rfl, _, rfl, iteN (by decide +kernel) ?_⟩
      refine ⟨_, rfl, q, _, _, _, rfl, rfl, SqT.of hq2, atI_nat (j := 0) rfl, rfl, _, rfl, iteN (by decide +kernel) ?_⟩
      refine ⟨_, rfl, q, _, _, _, rfl, rfl, SqT.of hq2, atI_nat (j := 0) rfl, rfl, _, rfl, iteD rfl ?_⟩
      refine ⟨_, rfl, _, rfl, q, _, _, _, rfl, rfl, SqT.of hq2, atI_nat (j := 1) rfl, n, _, _, _, rfl, rfl, SqL.of B.hn, atI_nat (ints_get eg), _, rfl, D, _, _, _, rfl, rfl, SqL.of hD2, atI_nat (j := 0) rfl, _, _, rfl, rfl, .inl ⟨by omega, by omega⟩, _, rfl, pm, _, _, _, rfl, rfl, SqT.of (s2 _ _ hpm), atI_nat (j := 0) rfl, _, _, rfl, rfl, m0, _, rfl, _, rfl, q, _, _, _, rfl, rfl, SqT.of hq2, atI_nat (j := 1) rfl, n, _, _, i, rfl, rfl, B.hn, Evl.ixN_nat (by rw [List.length_map, W.nl]; exact o1), ?_⟩
      rw [← List.map_set]
      exact num i _ rfl
    | put x =>
      obtain ⟨q', u, ev, hq', hu⟩ := hdd; cases ev; rw [hq2] at hq'; cases hq'
      refine ⟨_, rfl, q, _, _, _, rfl, rfl, SqT.of hq2, atI_nat (j := 0) rfl, rfl, _, rfl, iteN (by decide +kernel) ?_⟩
      refine ⟨_, rfl, q, _, _, _, rfl, rfl, SqT.of hq2, atI_nat (j := 0) rfl, rfl, _, rfl, iteN (by decide +kernel) ?_⟩
      refine ⟨_, rfl, q, _, _, _, rfl, rfl, SqT.of hq2, atI_nat (j := 0) rfl, rfl, _, rfl, iteN (by decide +kernel) ?_⟩
      refine ⟨_, rfl, q, _, _, _, rfl, rfl, SqT.of hq2, atI_nat (j := 0) rfl, rfl, _, rfl, iteD rfl ?_⟩
      have lr := W.rl
      refine ⟨_, rfl, _, rfl, r, D, _, _, rfl, rfl, B.hr, hD2, line (by rw [List.length_map]; show kk.row.length + 1 ≤ 16777216; omega), fun r1 hr1 => ?_⟩
      have sa := Same.new_ (o := .lst (kk.row.map V.int ++ (List.map V.int (List.map (worth M.md way said kk.nu kk.row) [x])))) hr1
      refine ⟨_, rfl, r1, _, rfl, SqL.of upd_same, fun r2 hr2 => ?_⟩
      have sb := sa.trans (Same.new_ (o := .lst (cutV (kk.row.map V.int ++ (List.map V.int (List.map (worth M.md way said kk.nu kk.row) [x]))) none (some 12))) hr2)
      have eR : cutV (kk.row.map V.int ++ (List.map V.int (List.map (worth M.md way said kk.nu kk.row) [x]))) none (some 12) = (wkDo M.md way said kk (.put x)).row.map V.int := by
        refine (cut_to _ 12).trans ?_
        rw [← List.map_append, ← List.map_take]
        congr 1
        show _ = (if kk.row.length < 12 then { kk with row := kk.row ++ [worth M.md way said kk.nu kk.row x] } else kk).row
        split
        · exact List.take_of_length_le (by rw [List.length_append]; show kk.row.length + 1 ≤ 12; omega)
        · have e12 : kk.row.length = 12 := by omega
          rw [List.take_append_of_le_length (by omega), List.take_of_length_le (by omega)]
      have eo : wkDo M.md way said kk (.put x) = { kk with row := (wkDo M.md way said kk (.put x)).row } := by
        show (if kk.row.length < 12 then _ else kk) = { kk with row := (if kk.row.length < 12 then _ else kk : Wk).row }
        split <;> rfl
      have B2 := B.keep sb
      have f2 := B.s0.free (sa.free hr2)
      refine ⟨r2, _, _, by rw [eo]; rfl, ?_⟩
      rw [eo]
      exact ⟨B2.s0, B2.hn, by rw [upd_same]; exact congrArg (fun z => some (HO.lst z)) eR, B2.hs, B2.hw, B.fn, f2, B.fs, B.fw, ne_of_none (sa _ _ B.hn) hr2, B.ns, B.nw, (ne_of_none (sa _ _ B.hs.choose_spec.1) hr2).symm, (ne_of_none (sa _ _ B.hw) hr2).symm, B.sw⟩
    | drop =>
      obtain ⟨q', ev, hq'⟩ := hdd; cases ev; rw [hq2] at hq'; cases hq'
      refine ⟨_, rfl, q, _, _, _, rfl, rfl, SqT.of hq2, atI_nat (j := 0) rfl, rfl, _, rfl, iteN (by decide +kernel) ?_⟩
      refine ⟨_, rfl, q, _, _, _, rfl, rfl, SqT.of hq2, atI_nat (j := 0) rfl, rfl, _, rfl, iteN (by decide +kernel) ?_⟩
      refine ⟨_, rfl, q, _, _, _, rfl, rfl, SqT.of hq2, atI_nat (j := 0) rfl, rfl, _, rfl, iteN (by decide +kernel) ?_⟩
      refine ⟨_, rfl, q, _, _, _, rfl, rfl, SqT.of hq2, atI_nat (j := 0) rfl, rfl, _, rfl, iteN (by decide +kernel) ?_⟩
      refine ⟨_, rfl, q, _, _, _, rfl, rfl, SqT.of hq2, atI_nat (j := 0) rfl, rfl, _, rfl, iteD rfl ?_⟩
      refine ⟨_, rfl, _, rfl, r, _, rfl, SqL.of B.hr, fun r2 hr2 => ?_⟩
      have ecut : cutV (kk.row.map V.int) (some 1) none = (kk.row.drop 1).map V.int := by
        rw [List.map_drop]
        exact cut_from _ 1
      have sb := Same.new_ (o := .lst (cutV (kk.row.map V.int) (some 1) none)) hr2
      have B2 := B.keep sb
      exact ⟨r2, _, _, rfl, B2.s0, B2.hn, by rw [upd_same, ecut]; rfl, B2.hs, B2.hw, B.fn, B.s0.free hr2, B.fs, B.fw, ne_of_none B.hn hr2, B.ns, B.nw, (ne_of_none B.hs.choose_spec.1 hr2).symm, (ne_of_none B.hw hr2).symm, B.sw⟩
    | send i x =>
      obtain ⟨q', u, ev, hq', hu⟩ := hdd; cases ev; rw [hq2] at hq'; cases hq'
      refine ⟨_, rfl, q, _, _, _, rfl, rfl, SqT.of hq2, atI_nat (j := 0) rfl, rfl, _, rfl, iteN (by decide +kernel) ?_⟩
      refine ⟨_, rfl, q, _, _, _, rfl, rfl, SqT.of hq2, atI_nat (j := 0) rfl, rfl, _, rfl, iteN (by decide +kernel) ?_⟩
      refine ⟨_, rfl, q, _, _, _, rfl, rfl, SqT.of hq2, atI_nat (j := 0) rfl, rfl, _, rfl, iteN (by decide +kernel) ?_⟩
      refine ⟨_, rfl, q, _, _, _, rfl, rfl, SqT.of hq2, atI_nat (j := 0) rfl, rfl, _, rfl, iteN (by decide +kernel) ?_⟩
      refine ⟨_, rfl, q, _, _, _, rfl, rfl, SqT.of hq2, atI_nat (j := 0) rfl, rfl, _, rfl, iteN (by decide +kernel) ?_⟩
      refine ⟨_, rfl, q, _, _, _, rfl, rfl, SqT.of hq2, atI_nat (j := 0) rfl, rfl, _, rfl, iteD rfl ?_⟩
      obtain ⟨vs, hs, hvs⟩ := B.hs
      have lvs := hvs.length
      have sl := W.sl
      refine ⟨_, rfl, .inl ⟨rfl, _, SqL.of hs⟩, _, rfl, q, _, _, _, rfl, rfl, SqT.of hq2, atI_nat (j := 1) rfl, _, rfl, D, _, _, _, rfl, rfl, SqL.of hD2, atI_nat (j := 0) rfl, line (by show 2 ≤ 16777216; decide), fun t ht => ?_⟩
      have sa := Same.new_ (o := .tup [.int (i : Nat), .int (worth M.md way said kk.nu kk.row x)]) ht
      have F := Fr.put (S := (· = s)) (o := .lst (vs ++ [.ref t])) rfl (not_tup_lst (sa _ _ hs))
      have B2 := B.keep sa
      refine ⟨s, vs, _, rfl, rfl, sa _ _ hs, line' (by omega), r, _, _, rfl, B2.s0.putN B.fs, F.at B2.hn B.ns, F.at B2.hr B.rs, ⟨_, upd_same, ?_⟩, F.at B2.hw B.sw.symm, B.fn, B.fr, B.fs, B.fw, B.nr, B.ns, B.nw, B.rs, B.rw', B.sw⟩
      exact (hvs.cimp fun _ _ z => z.tk ((Same.tk_ sa).trans F.tk)).csnoc2 ⟨t, rfl, F.tk _ _ upd_same⟩
    | say x =>
      obtain ⟨q', u, ev, hq', hu⟩ := hdd; cases ev; rw [hq2] at hq'; cases hq'
      refine ⟨_, rfl, q, _, _, _, rfl, rfl, SqT.of hq2, atI_nat (j := 0) rfl, rfl, _, rfl, iteN (by decide +kernel) ?_⟩
      refine ⟨_, rfl, q, _, _, _, rfl, rfl, SqT.of hq2, atI_nat (j := 0) rfl, rfl, _, rfl, iteN (by decide +kernel) ?_⟩
      refine ⟨_, rfl, q, _, _, _, rfl, rfl, SqT.of hq2, atI_nat (j := 0) rfl, rfl, _, rfl, iteN (by decide +kernel) ?_⟩
      refine ⟨_, rfl, q, _, _, _, rfl, rfl, SqT.of hq2, atI_nat (j := 0) rfl, rfl, _, rfl, iteN (by decide +kernel) ?_⟩
      refine ⟨_, rfl, q, _, _, _, rfl, rfl, SqT.of hq2, atI_nat (j := 0) rfl, rfl, _, rfl, iteN (by decide +kernel) ?_⟩
      refine ⟨_, rfl, q, _, _, _, rfl, rfl, SqT.of hq2, atI_nat (j := 0) rfl, rfl, _, rfl, iteN (by decide +kernel) ?_⟩
      refine ⟨_, rfl, q, _, _, _, rfl, rfl, SqT.of hq2, atI_nat (j := 0) rfl, rfl, _, rfl, iteD rfl ?_⟩
      obtain ⟨vs, hs, hvs⟩ := B.hs
      have wl := W.wl
      have F := Fr.put (S := (· = w')) (o := .lst (kk.words.map V.int ++ [.int (worth M.md way said kk.nu kk.row x)])) rfl (not_tup_lst B.hw)
      refine ⟨_, rfl, .inl ⟨rfl, _, SqL.of B.hw⟩, _, rfl, D, _, _, _, rfl, rfl, SqL.of hD2, atI_nat (j := 0) rfl, w', _, _, rfl, rfl, B.hw, line' (by rw [List.length_map]; omega), r, _, _, rfl, B.s0.putN B.fw, F.at B.hn B.nw, F.at B.hr B.rw', ⟨vs, F.at hs B.sw, hvs.cimp fun _ _ z => z.tk F.tk⟩, ?_, B.fn, B.fr, B.fs, B.fw, B.nr, B.ns, B.nw, B.rs, B.rw', B.sw⟩
      show upd H2 w' _ w' = some (.lst ((kk.words ++ [_]).map V.int))
      rw [upd_same, List.map_append]
      rfl
    | skip x y j =>
      obtain ⟨q', u, u', ev, hq', hu, hu'⟩ := hdd; cases ev; rw [hq2] at hq'; cases hq'
      refine ⟨_, rfl, q, _, _, _, rfl, rfl, SqT.of hq2, atI_nat (j := 0) rfl, rfl, _, rfl, iteN (by decide +kernel) ?_⟩
      refine ⟨_, rfl, q, _, _, _, rfl, rfl, SqT.of hq2, atI_nat (j := 0) rfl, rfl, _, rfl, iteN (by decide +kernel) ?_⟩
      refine ⟨_, rfl, q, _, _, _, rfl, rfl, SqT.of hq2, atI_nat (j := 0) rfl, rfl, _, rfl, iteN (by decide +kernel) ?_⟩
      refine ⟨_, rfl, q, _, _, _, rfl, rfl, SqT.of hq2, atI_nat (j := 0) rfl, rfl, _, rfl, iteN (by decide +kernel) ?_⟩
      refine ⟨_, rfl, q, _, _, _, rfl, rfl, SqT.of hq2, atI_nat (j := 0) rfl, rfl, _, rfl, iteN (by decide +kernel) ?_⟩
      refine ⟨_, rfl, q, _, _, _, rfl, rfl, SqT.of hq2, atI_nat (j := 0) rfl, rfl, _, rfl, iteN (by decide +kernel) ?_⟩
      refine ⟨_, rfl, q, _, _, _, rfl, rfl, SqT.of hq2, atI_nat (j := 0) rfl, rfl, _, rfl, iteN (by decide +kernel) ?_⟩
      refine ⟨_, rfl, D, _, _, _, rfl, rfl, SqL.of hD2, atI_nat (j := 0) rfl, _, rfl, D, _, _, _, rfl, rfl, SqL.of hD2, atI_nat (j := 1) rfl, _, _, rfl, rfl, _, rfl, ite2D (fun c => ?_) (fun c => ?_)⟩
      · have e : wkDo M.md way said kk (.skip x y j) = { kk with left := j } := if_pos c
        rw [e]
        exact ⟨_, rfl, q, _, _, _, rfl, rfl, SqT.of hq2, atI_nat (j := 3) rfl, r, _, _, rfl, B.s0, B.hn, B.hr, B.hs, B.hw, B.fn, B.fr, B.fs, B.fw, B.nr, B.ns, B.nw, B.rs, B.rw', B.sw⟩
      · have e : wkDo M.md way said kk (.skip x y j) = kk := if_neg c
        rw [e]
        exact ⟨r, _, _, rfl, B⟩
    · rintro σ H1 ⟨r, v9, v10, rfl, B⟩
      rw [hdl, List.take_length] at B
      obtain ⟨vs, hs, hvs⟩ := B.hs
      refine ⟨_, rfl, n, _, rfl, .inl ⟨SqL.of B.hn, fun ta hta => ?_⟩⟩
      have sa := Same.new_ (o := .tup ((wkRun M st way said M.ds).nu.map V.int)) hta
      refine ⟨_, rfl, r, _, rfl, .inl ⟨SqL.of (sa _ _ B.hr), fun tb htb => ?_⟩⟩
      have sb := Same.new_ (o := .tup ((wkRun M st way said M.ds).row.map V.int)) htb
      refine ⟨line (by show 2 ≤ 16777216; decide), fun tc htc => ?_⟩
      have sc := Same.new_ (o := .tup [.ref ta, .ref tb]) htc
      refine ⟨_, rfl, _, rfl, line (by show 3 ≤ 16777216; decide), fun t ht => ?_⟩
      have sd := Same.new_ (o := .tup [.ref tc, .ref s, .ref w']) ht
      have sAll := sa.trans (sb.trans (sc.trans sd))
      refine k _ t s w' (.ref tc) vs (B.s0.trans sAll) ⟨upd_same, ⟨tc, ta, tb, rfl, sd _ _ upd_same, sd _ _ (sc _ _ (sb _ _ upd_same)), sd _ _ (sc _ _ upd_same)⟩, sAll _ _ hs, hvs.cimp fun _ _ z => z.tk (Same.tk_ sAll), sAll _ _ B.hw, B.fs, B.fw⟩ B.sw
end Cr
namespace Cr
open PySem PySem.Spec PyProof.Rows L2 He
theorem sc_Run_want_way : FnScope ["self", "way"] ["self", "way"] (defScope s_Run_want_way) := ⟨rfl, rfl, rfl, by decide +kernel, rfl, by decide +kernel, by decide +kernel⟩
def sp_Run_want_way (K : PySem.W.Frag) : Sp := fun vs H Q _ => ∃ (p : Addr) (nv : V) (A : PT → Addr) (hI : Nat → Addr) (G : PT → HO) (N : Nt) (R : Run) (w : Nat), vs = [.ref p, .int (w : Nat)] ∧ PRunAt K H p nv A hI G N R ∧ w < N.ws.length ∧ Q .non H
theorem ok_Run_want_way {P : Program} {w : World} {K : PySem.W.Frag} {mg : Str → Option Value} {base : Heap} (T : Txt K mg) : Met P w K mg base 1 (ga K "Run") "want_way" (sp_Run_want_way K) := by
  refine Met.mk0 T.c_Run T.m_Run_want_way T.D_Run_want_way sc_Run_want_way (fun _ _ _ _ _ _ us hl => match us, hl with | [_, _], _ => rfl) (fun vs H Q E h => ?_) (fun cdv A outer s H vs Q E hr h => ?_)
  · obtain ⟨p, nv, A, hI, G, N, R, w, rfl, _⟩ := h
    rfl
  · obtain ⟨p, nv, A', hI, G, N, R, w', rfl, P, hw, k⟩ := h
    obtain ⟨dx, hp⟩ := P.ob
    have hl := P.lay.at_ .hl trivial
    rw [P.hl] at hl
    refine ⟨_, (pss_one (ps_if (PW.pt (pw_or (pt_cmpR op_lt (pv 1) pe_int (nomark _)) (pw_or1 (pt_cmpR op_ge (pv 1) (pe_callB call_len_seq (by rfl) T.f_len (by decide +kernel) (pa_cons (pe_fld (pv 0) rfl) pa_nil)) (nomark _))))) (pss_one ps_never) pss_nil)), ?_⟩
    refine ⟨_, rfl, _, _, rfl, rfl, _, rfl, iteN (by omega) ?_⟩
    exact ⟨_, rfl, _, rfl, p, _, dx, _, .ref (A' .hl), rfl, hp, T.c_Run, T.n_Run_heaps, lk 1 runK (by decide +kernel), A' .hl, _, rfl, .inl (SqL.of hl), _, _, rfl, rfl, _, rfl, iteN (by rw [rm_len]; omega) k⟩
end Cr
namespace Cr
open PySem PySem.Spec PyProof.Rows L2 He
theorem sc_Run_want_put : FnScope ["self", "way", "number"] ["self", "way", "number"] (defScope s_Run_want_put) := ⟨rfl, rfl, rfl, by decide +kernel, rfl, by decide +kernel, by decide +kernel⟩
def sp_Run_want_put (K : PySem.W.Frag) : Sp := fun vs H Q _ => ∃ (p : Addr) (nv : V) (A : PT → Addr) (hI : Nat → Addr) (G : PT → HO) (N : Nt) (R : Run) (w n : Nat), vs = [.ref p, .int (w : Nat), .int (n : Nat)] ∧ PRunAt K H p nv A hI G N R ∧ w < N.ws.length ∧ n < (R.put w).length ∧ Q .non H
theorem ok_Run_want_put {P : Program} {w : World} {K : PySem.W.Frag} {mg : Str → Option Value} {base : Heap} (T : Txt K mg) : Met P w K mg base 2 (ga K "Run") "want_put" (sp_Run_want_put K) := by
  have G_Run_want_way := ok_Run_want_way (P := P) (w := w) (base := base) T
  refine Met.mk0 T.c_Run T.m_Run_want_put T.D_Run_want_put sc_Run_want_put (fun _ _ _ _ _ _ us hl => match us, hl with | [_, _, _], _ => rfl) (fun vs H Q E h => ?_) (fun cdv A outer s H vs Q E hr h => ?_)
  · obtain ⟨p, nv, A, hI, G, N, R, w, n, rfl, _⟩ := h
    rfl
  · obtain ⟨p, nv, A', hI, G, N, R, w', n, rfl, P, hw, hn, k⟩ := h
    obtain ⟨dx, hp⟩ := P.ob
    have hl := P.lay.at_ .hl trivial
    rw [P.hl] at hl
    obtain ⟨dh, hh⟩ := P.hp w' hw
    have ht := P.lay.at_ (.t w') hw
    rw [P.t w' hw] at ht
    refine ⟨_, (pss_cons (ps_expr (pe_mt G_Run_want_way hr (by decide) (pv 0) (pa_cons (pv 1) pa_nil)))
      (pss_one (ps_if (PW.pt (pw_or (pt_cmpR op_lt (pv 2) pe_int (nomark _)) (pw_or1 (pt_cmpR op_ge (pv 2) (pe_callB call_len_seq (by rfl) T.f_len (by decide +kernel) (pa_cons (pe_fld (pe_ix ix_list (pe_fld (pv 0) rfl) (pv 1) (fun _ _ => rfl)) rfl) pa_nil)) (nomark _))))) (pss_one ps_never) pss_nil))), ?_⟩
    refine ⟨_, rfl, p, dx, _, rfl, hp, lkN runK (by decide +kernel), _, rfl, p, nv, A', hI, G, N, R, w', rfl, P, hw, ?_⟩
    refine ⟨_, rfl, _, _, rfl, rfl, _, rfl, iteN (by omega) ?_⟩
    exact ⟨_, rfl, _, rfl, p, _, dx, _, .ref (A' .hl), rfl, hp, T.c_Run, T.n_Run_heaps, lk 1 runK (by decide +kernel), _, rfl, A' .hl, _, _, _, rfl, rfl, SqL.of hl, atI_nat (rm_get hw), hI w', _, dh, _, .ref (A' (.t w')), rfl, hh, T.c_Heap, T.n_Heap_tells, lk 0 heapK (by decide +kernel), A' (.t w'), _, rfl, .inl (SqL.of ht), _, _, rfl, rfl, _, rfl, iteN (by rw [List.length_map]; omega) k⟩
end Cr
namespace Cr
open PySem PySem.Spec PyProof.Rows L2 He
theorem sc_Net_ways : FnScope ["self"] ["self"] (defScope s_Net_ways) := ⟨rfl, rfl, rfl, by decide +kernel, rfl, by decide +kernel, by decide +kernel⟩
def sp_Net_ways (K : PySem.W.Frag) : Sp := fun vs H Q _ => ∃ (p w j b : Addr) (ms ws ls : List V) (N : Nt), vs = [.ref p] ∧ PNetAt K H p w j b ms ws ls N ∧ ∀ q, H q = none → Q (.ref q) (upd H q (.lst ws))
theorem ok_Net_ways {P : Program} {w : World} {K : PySem.W.Frag} {mg : Str → Option Value} {base : Heap} (T : Txt K mg) : Met P w K mg base 1 (ga K "Net") "ways" (sp_Net_ways K) := by
  refine Met.mk0 T.c_Net T.m_Net_ways T.D_Net_ways sc_Net_ways (fun _ _ _ _ _ _ us hl => match us, hl with | [_], _ => rfl) (fun vs H Q E h => ?_) (fun cdv A outer s H vs Q E hr h => ?_)
  · obtain ⟨p, w, j, b, ms, ws, ls, N, rfl, _⟩ := h
    rfl
  · obtain ⟨p, w, j, b, ms, ws, ls, N, rfl, B, k⟩ := h
    obtain ⟨dx, hp⟩ := B.ob
    refine ⟨_, (pss_one (ps_ret (pe_callTy call_list_of (by rfl) T.f_list (by decide +kernel) (pa_cons (pe_fld (pv 0) rfl) pa_nil)))), ?_⟩
    exact ⟨_, rfl, p, _, dx, _, .ref j, rfl, hp, T.c_Net, T.n_Net_joints, lk 1 netK (by decide +kernel), j, _, rfl, .inr (SqT.of B.j), k⟩
end Cr
namespace Cr
open PySem PySem.Spec PyProof.Rows L2 He
theorem sc_Heap_open_numbers : FnScope ["self", "number", "event"] ["self"] (defScope s_Heap_open_numbers) := ⟨rfl, rfl, rfl, by decide +kernel, rfl, by decide +kernel, by decide +kernel⟩
def sp_Heap_open_numbers (K : PySem.W.Frag) : Sp := fun vs H Q _ => ∃ (p dx t s k : Addr) (ks : List V), vs = [.ref p] ∧ H p = some (.ins (ga K "Heap") dx (heapF t s k)) ∧ H k = some (.lst ks) ∧ ks.length < 16777216 ∧
  ∀ H' q, Same H H' → H q = none → H' q = some (.lst (((List.range ks.length).filter fun i => decide (ks[i]? = some .non)).map vN)) → Q (.ref q) H'
theorem ok_Heap_open_numbers {P : Program} {w : World} {K : PySem.W.Frag} {mg : Str → Option Value} {base : Heap} (T : Txt K mg) : Met P w K mg base 1 (ga K "Heap") "open_numbers" (sp_Heap_open_numbers K) := by
  refine Met.mk0 T.c_Heap T.m_Heap_open_numbers T.D_Heap_open_numbers sc_Heap_open_numbers (fun _ _ _ _ _ _ us hl => match us, hl with | [_], _ => rfl) (fun vs H Q E h => ?_) (fun cdv A outer s H vs Q E hr h => ?_)
  · obtain ⟨p, dx, t, s, k, ks, rfl, _⟩ := h
    rfl
  · obtain ⟨p, dx, t, s, k, ks, rfl, hp, hk, l1, q⟩ := h
    refine ⟨_, (pss_one (ps_ret (pe_lc (own := [("number", 1), ("event", 2)]) rfl sc_Heap_open_numbers.nd (pi_enum (by rfl) T.f_enumerate (pa_cons (pe_fld (pv 0) rfl) pa_nil)) (blkOk_by (own := [("number", 1), ("event", 2)]) (N := ["self", "number", "event"]) (sc := defScope s_Heap_open_numbers) (by decide +kernel)) (fun _ _ _ _ _ => (pg_tupK (K := K) (n := 2) rfl rfl (pgs_cons (pg_name (i := 1) sc_Heap_open_numbers.nd rfl (Or.inl rfl)) (pgs_cons (pg_name (i := 2) sc_Heap_open_numbers.nd rfl (Or.inl rfl)) pgs_nil)))) (fun _ _ _ _ _ => pts_one (pt_cmp (pc_isN (pv 2)))) (fun _ _ _ _ _ => (pv 1))))), ?_⟩
    refine ⟨_, rfl, p, _, dx, _, .ref k, rfl, hp, T.c_Heap, T.n_Heap_worker, lk 2 heapK (by decide +kernel), k, _, rfl, SqL.of hk, fun D hD => ?_⟩
    refine lc_it (n := ks.length) walk_enum (fun i H' => H' D = some (.lst (((List.range i).filter fun i => decide (ks[i]? = some .non)).map vN)) ∧ Same H H') ⟨upd_same, Same.new_ hD⟩ (fun i H' _ P => SqL.of (P.2 _ _ hk)) ?_ ?_
    · rintro i x H1 H2 hi ⟨P1, P2⟩ ⟨t, x1, x2, rfl, ht, rfl, e1, e2⟩
      cases e1
      have s2 := P2.trans (Same.new_ (o := .tup [.int (i : Nat), x2]) ht)
      have hDt : D ≠ t := ne_of_none P1 ht
      refine ⟨t, _, rfl, SqT.of upd_same, rfl, _, _, rfl, _, _, rfl, rfl, rfl, ?_⟩
      refine ⟨_, rfl, _, rfl, ?_⟩
      by_cases e : x2 = .non
      · refine iteD e ?_
        refine ⟨_, rfl, _, (upd_ne hDt).trans P1, line' (by have := @rf_len V (fun i => decide (ks[i]? = some .non)) vN i; omega), ?_, s2.putN hD⟩
        rw [upd_same, rf_t (decide_eq_true (show ks[i]? = some V.non from e ▸ e2))]
      · refine iteN e ?_
        exact ⟨by rw [rf_f (decide_eq_false (fun z => e (Option.some.inj (e2.symm.trans z))))]; exact (upd_ne hDt).trans P1, s2⟩
    · rintro H1 ⟨P1, s1⟩
      exact q H1 D s1 hD P1
end Cr
namespace Cr
open PySem PySem.Spec PyProof.Rows L2 He
theorem sc_is_one_of : FnScope ["thing", "many"] ["thing", "many"] (defScope s_is_one_of) := ⟨rfl, rfl, rfl, by decide +kernel, rfl, by decide +kernel, by decide +kernel⟩
def sp_is_one_of (K : PySem.W.Frag) : Sp := fun vs H Q _ => ∃ n m : Int, vs = [.int n, .int m] ∧ 0 ≤ n ∧ n < m ∧ Q (.bl true) H
theorem ok_is_one_of {P : Program} {w : World} {K : PySem.W.Frag} {mg : Str → Option Value} {base : Heap} (T : Txt K mg) : Cal P w K mg base 1 "is_one_of" (sp_is_one_of K) := by
  refine Cal.mk0 T.g_is_one_of T.D_is_one_of sc_is_one_of (fun _ _ _ _ _ _ us hl => match us, hl with | [_, _], _ => rfl) (fun vs H Q E h => ?_) (fun cdv A outer s H vs Q E hr h => ?_)
  · obtain ⟨n, m, rfl, _⟩ := h
    rfl
  · obtain ⟨n, m, rfl, h0, h1, k⟩ := h
    refine ⟨_, (pss_one (ps_ret (pe_and (pe_callB call_isi (by rfl) T.f_isinstance (by decide +kernel) (pa_cons (pv 0) (pa_cons (pe_bltn (v := .ty "int") (by rfl) T.f_int (by decide +kernel) rfl) pa_nil))) (pe_and (pe_not (pe_callB call_isi (by rfl) T.f_isinstance (by decide +kernel) (pa_cons (pv 0) (pa_cons (pe_bltn (v := .ty "bool") (by rfl) T.f_bool (by decide +kernel) rfl) pa_nil)))) (pe_one (pe_chain op_le op_lt pe_int (pv 0) (pv 1))))))), ?_⟩
    refine ⟨_, rfl, _, _, _, _, true, rfl, .ty _, .base (.int _), kit_ty (by decide +kernel), true, rfl, iteT ?_⟩
    refine ⟨_, rfl, _, _, _, _, false, rfl, .ty _, .base (.int _), kit_ty (by decide +kernel), false, rfl, true, rfl, iteT ?_⟩
    refine ⟨_, rfl, _, _, rfl, rfl, _, rfl, iteD h0 ?_⟩
    exact ⟨_, rfl, _, _, rfl, rfl, bl_true h1 k⟩
end Cr
namespace Cr
open PySem PySem.Spec PyProof.Rows L2 He
theorem sc_Net_want_machine : FnScope ["self", "m"] ["self", "m"] (defScope s_Net_want_machine) := ⟨rfl, rfl, rfl, by decide +kernel, rfl, by decide +kernel, by decide +kernel⟩
def sp_Net_want_machine (K : PySem.W.Frag) : Sp := fun vs H Q _ => ∃ (p w j b : Addr) (ms ws ls : List V) (N : Nt) (m : Nat), vs = [.ref p, .int (m : Nat)] ∧ PNetAt K H p w j b ms ws ls N ∧ m < N.ms.length ∧ Q .non H
theorem ok_Net_want_machine {P : Program} {w : World} {K : PySem.W.Frag} {mg : Str → Option Value} {base : Heap} (T : Txt K mg) : Met P w K mg base 2 (ga K "Net") "want_machine" (sp_Net_want_machine K) := by
  have G_is_one_of := ok_is_one_of (P := P) (w := w) (base := base) T
  refine Met.mk0 T.c_Net T.m_Net_want_machine T.D_Net_want_machine sc_Net_want_machine (fun _ _ _ _ _ _ us hl => match us, hl with | [_, _], _ => rfl) (fun vs H Q E h => ?_) (fun cdv A outer s H vs Q E hr h => ?_)
  · obtain ⟨p, w, j, b, ms, ws, ls, N, m, rfl, _⟩ := h
    rfl
  · obtain ⟨p, w, j, b, ms, ws, ls, N, m, rfl, B, hm, k⟩ := h
    obtain ⟨dx, hp⟩ := B.ob
    have lm := B.ms.length
    refine ⟨_, (pss_one (ps_if (pt_not (pt_val (pe_c G_is_one_of hr (by decide) (by rfl) (pa_cons (pv 1) (pa_cons (pe_callB call_len_seq (by rfl) T.f_len (by decide +kernel) (pa_cons (pe_fld (pv 0) rfl) pa_nil)) pa_nil))))) (pss_one ps_never) pss_nil)), ?_⟩
    exact ⟨_, rfl, _, rfl, p, _, dx, _, .ref w, rfl, hp, T.c_Net, T.n_Net_workers, lk 0 netK (by decide +kernel), w, _, rfl, .inr (SqT.of B.w), _, _, rfl, by omega, by omega, true, rfl, iteF k⟩
end Cr
namespace Cr
open PySem PySem.Spec PyProof.Rows L2 He
theorem sc_Net_ways_in : FnScope ["self", "m", "way", "told"] ["self", "m"] (defScope s_Net_ways_in) := ⟨rfl, rfl, rfl, by decide +kernel, rfl, by decide +kernel, by decide +kernel⟩
def sp_Net_ways_in (K : PySem.W.Frag) : Sp := fun vs H Q _ => ∃ (p w j b : Addr) (ms ws ls : List V) (N : Nt) (m : Nat), vs = [.ref p, .int (m : Nat)] ∧ PNetAt K H p w j b ms ws ls N ∧ m < N.ms.length ∧ N.ok ∧
  ∀ H' q, Same H H' → H q = none → H' q = some (.lst ((N.ins m).map vN)) → Q (.ref q) H'
theorem ok_Net_ways_in {P : Program} {w : World} {K : PySem.W.Frag} {mg : Str → Option Value} {base : Heap} (T : Txt K mg) : Met P w K mg base 3 (ga K "Net") "ways_in" (sp_Net_ways_in K) := by
  have G_Net_want_machine := ok_Net_want_machine (P := P) (w := w) (base := base) T
  refine Met.mk0 T.c_Net T.m_Net_ways_in T.D_Net_ways_in sc_Net_ways_in (fun _ _ _ _ _ _ us hl => match us, hl with | [_, _], _ => rfl) (fun vs H Q E h => ?_) (fun cdv A outer s H vs Q E hr h => ?_)
  · obtain ⟨p, w, j, b, ms, ws, ls, N, m, rfl, _⟩ := h
    rfl
  · obtain ⟨p, w, j, b, ms, ws, ls, N, m, rfl, B, hm, hN, k⟩ := h
    obtain ⟨dx, hp⟩ := B.ob
    have lw := B.ws.length
    have w10 := hN.w10
    refine ⟨_, (pss_cons (ps_expr (pe_mt G_Net_want_machine hr (by decide) (pv 0) (pa_cons (pv 1) pa_nil)))
      (pss_one (ps_ret (pe_lc (own := [("way", 2), ("told", 3)]) rfl sc_Net_ways_in.nd (pi_enumT (by rfl) T.f_enumerate (pa_cons (pe_fld (pv 0) rfl) pa_nil)) (blkOk_by (own := [("way", 2), ("told", 3)]) (N := ["self", "m", "way", "told"]) (sc := defScope s_Net_ways_in) (by decide +kernel)) (fun _ _ _ _ _ => (pg_tupK (K := K) (n := 2) rfl rfl (pgs_cons (pg_name (i := 2) sc_Net_ways_in.nd rfl (Or.inl rfl)) (pgs_cons (pg_name (i := 3) sc_Net_ways_in.nd rfl (Or.inl rfl)) pgs_nil)))) (fun _ _ _ _ _ => pts_one (pt_cmpR op_eq (pe_ix (ix_tupK (K := K) rfl) (pv 3) pe_int (fun _ _ => rfl)) (pv 1) (nomark _))) (fun _ _ _ _ _ => (pv 2)))))), ?_⟩
    refine ⟨_, rfl, p, dx, _, rfl, hp, lkN netK (by decide +kernel), _, rfl, p, w, j, b, ms, ws, ls, N, m, rfl, B, hm, ?_⟩
    refine ⟨_, rfl, p, _, dx, _, .ref j, rfl, hp, T.c_Net, T.n_Net_joints, lk 1 netK (by decide +kernel), j, ws, rfl, B.j, fun D hD => ?_⟩
    refine lc_it (n := ws.length) walk_enumT (fun i H' => H' D = some (.lst (((List.range i).filter fun v => decide (N.goal v = m)).map vN)) ∧ Same H H') ⟨upd_same, Same.new_ hD⟩ (fun i H' _ P => P.2 _ _ B.j) ?_ ?_
    · rintro i x H1 H2 hi ⟨P1, P2⟩ ⟨t, x1, x2, rfl, ht, rfl, e1, e2⟩
      cases e1
      obtain ⟨y, hy, q⟩ := B.ws.cget e2
      have s2 := P2.trans (Same.new_ (o := .tup [.int (i : Nat), x2]) ht)
      obtain ⟨p', rfl, hp'⟩ := q.tk (Same.tk_ s2)
      have ey : N.ws.getD i (0, 0, false) = y := getD_of hy
      refine ⟨t, _, rfl, SqT.of upd_same, rfl, _, _, rfl, _, _, rfl, rfl, rfl, ?_⟩
      refine ⟨_, rfl, p', _, _, _, rfl, rfl, SqT.of hp', atI_nat (j := 1) rfl, _, rfl, rfl, _, rfl, ?_⟩
      have es : N.goal i = y.2.1 := by unfold Nt.goal; rw [ey]
      have hDt : D ≠ t := ne_of_none P1 ht
      by_cases e : N.goal i = m
      · refine iteE (by show decide (V.int (y.2.1 : Nat) = V.int (m : Nat)) = true; rw [← es, e]; exact decide_eq_true rfl) ?_
        refine ⟨_, rfl, _, (upd_ne hDt).trans P1, line' (by have := @rf_len V (fun v => decide (N.goal v = m)) vN i; omega), ?_, s2.putN hD⟩
        rw [upd_same, rf_t (decide_eq_true e)]
      · refine iteG (by show decide (V.int (y.2.1 : Nat) = V.int (m : Nat)) = false; rw [← es]; exact decide_eq_false (fun z => e (Int.ofNat.inj (V.int.inj z)))) ?_
        exact ⟨by rw [rf_f (decide_eq_false e)]; exact (upd_ne hDt).trans P1, s2⟩
    · rintro H1 ⟨P1, s1⟩
      refine k H1 D s1 hD ?_
      rw [P1]
      unfold Nt.ins
      rw [lw]
end Cr
namespace Cr
open PySem PySem.Spec PyProof.Rows L2 He
theorem sc_Net_machines : FnScope ["self"] ["self"] (defScope s_Net_machines) := ⟨rfl, rfl, rfl, by decide +kernel, rfl, by decide +kernel, by decide +kernel⟩
def sp_Net_machines (K : PySem.W.Frag) : Sp := fun vs H Q _ => ∃ (p w j b : Addr) (ms ws ls : List V) (N : Nt), vs = [.ref p] ∧ PNetAt K H p w j b ms ws ls N ∧ ∀ q, H q = none → Q (.ref q) (upd H q (.lst ms))
theorem ok_Net_machines {P : Program} {w : World} {K : PySem.W.Frag} {mg : Str → Option Value} {base : Heap} (T : Txt K mg) : Met P w K mg base 1 (ga K "Net") "machines" (sp_Net_machines K) := by
  refine Met.mk0 T.c_Net T.m_Net_machines T.D_Net_machines sc_Net_machines (fun _ _ _ _ _ _ us hl => match us, hl with | [_], _ => rfl) (fun vs H Q E h => ?_) (fun cdv A outer s H vs Q E hr h => ?_)
  · obtain ⟨p, w, j, b, ms, ws, ls, N, rfl, _⟩ := h
    rfl
  · obtain ⟨p, w, j, b, ms, ws, ls, N, rfl, B, k⟩ := h
    obtain ⟨dx, hp⟩ := B.ob
    refine ⟨_, (pss_one (ps_ret (pe_callTy call_list_of (by rfl) T.f_list (by decide +kernel) (pa_cons (pe_fld (pv 0) rfl) pa_nil)))), ?_⟩
    exact ⟨_, rfl, p, _, dx, _, .ref w, rfl, hp, T.c_Net, T.n_Net_workers, lk 0 netK (by decide +kernel), w, _, rfl, .inr (SqT.of B.w), k⟩
end Cr
namespace Cr
open PySem PySem.Spec PyProof.Rows L2 He
theorem sc_Net_ways_out : FnScope ["self", "m", "way", "told"] ["self", "m"] (defScope s_Net_ways_out) := ⟨rfl, rfl, rfl, by decide +kernel, rfl, by decide +kernel, by decide +kernel⟩
def sp_Net_ways_out (K : PySem.W.Frag) : Sp := fun vs H Q _ => ∃ (p w j b : Addr) (ms ws ls : List V) (N : Nt) (m : Nat), vs = [.ref p, .int (m : Nat)] ∧ PNetAt K H p w j b ms ws ls N ∧ m < N.ms.length ∧ N.ok ∧
  ∀ H' q, Same H H' → H q = none → H' q = some (.lst ((N.outs m).map vN)) → Q (.ref q) H'
theorem ok_Net_ways_out {P : Program} {w : World} {K : PySem.W.Frag} {mg : Str → Option Value} {base : Heap} (T : Txt K mg) : Met P w K mg base 3 (ga K "Net") "ways_out" (sp_Net_ways_out K) := by
  have G_Net_want_machine := ok_Net_want_machine (P := P) (w := w) (base := base) T
  refine Met.mk0 T.c_Net T.m_Net_ways_out T.D_Net_ways_out sc_Net_ways_out (fun _ _ _ _ _ _ us hl => match us, hl with | [_, _], _ => rfl) (fun vs H Q E h => ?_) (fun cdv A outer s H vs Q E hr h => ?_)
  · obtain ⟨p, w, j, b, ms, ws, ls, N, m, rfl, _⟩ := h
    rfl
  · obtain ⟨p, w, j, b, ms, ws, ls, N, m, rfl, B, hm, hN, k⟩ := h
    obtain ⟨dx, hp⟩ := B.ob
    have lw := B.ws.length
    have w10 := hN.w10
    refine ⟨_, (pss_cons (ps_expr (pe_mt G_Net_want_machine hr (by decide) (pv 0) (pa_cons (pv 1) pa_nil)))
      (pss_one (ps_ret (pe_lc (own := [("way", 2), ("told", 3)]) rfl sc_Net_ways_out.nd (pi_enumT (by rfl) T.f_enumerate (pa_cons (pe_fld (pv 0) rfl) pa_nil)) (blkOk_by (own := [("way", 2), ("told", 3)]) (N := ["self", "m", "way", "told"]) (sc := defScope s_Net_ways_out) (by decide +kernel)) (fun _ _ _ _ _ => (pg_tupK (K := K) (n := 2) rfl rfl (pgs_cons (pg_name (i := 2) sc_Net_ways_out.nd rfl (Or.inl rfl)) (pgs_cons (pg_name (i := 3) sc_Net_ways_out.nd rfl (Or.inl rfl)) pgs_nil)))) (fun _ _ _ _ _ => pts_one (pt_cmpR op_eq (pe_ix (ix_tupK (K := K) rfl) (pv 3) pe_int (fun _ _ => rfl)) (pv 1) (nomark _))) (fun _ _ _ _ _ => (pv 2)))))), ?_⟩
    refine ⟨_, rfl, p, dx, _, rfl, hp, lkN netK (by decide +kernel), _, rfl, p, w, j, b, ms, ws, ls, N, m, rfl, B, hm, ?_⟩
    refine ⟨_, rfl, p, _, dx, _, .ref j, rfl, hp, T.c_Net, T.n_Net_joints, lk 1 netK (by decide +kernel), j, ws, rfl, B.j, fun D hD => ?_⟩
    refine lc_it (n := ws.length) walk_enumT (fun i H' => H' D = some (.lst (((List.range i).filter fun v => decide (N.src v = m)).map vN)) ∧ Same H H') ⟨upd_same, Same.new_ hD⟩ (fun i H' _ P => P.2 _ _ B.j) ?_ ?_
    · rintro i x H1 H2 hi ⟨P1, P2⟩ ⟨t, x1, x2, rfl, ht, rfl, e1, e2⟩
      cases e1
      obtain ⟨y, hy, q⟩ := B.ws.cget e2
      have s2 := P2.trans (Same.new_ (o := .tup [.int (i : Nat), x2]) ht)
      obtain ⟨p', rfl, hp'⟩ := q.tk (Same.tk_ s2)
      have ey : N.ws.getD i (0, 0, false) = y := getD_of hy
      refine ⟨t, _, rfl, SqT.of upd_same, rfl, _, _, rfl, _, _, rfl, rfl, rfl, ?_⟩
      refine ⟨_, rfl, p', _, _, _, rfl, rfl, SqT.of hp', atI_nat (j := 0) rfl, _, rfl, rfl, _, rfl, ?_⟩
      have es : N.src i = y.1 := by unfold Nt.src; rw [ey]
      have hDt : D ≠ t := ne_of_none P1 ht
      by_cases e : N.src i = m
      · refine iteE (by show decide (V.int (y.1 : Nat) = V.int (m : Nat)) = true; rw [← es, e]; exact decide_eq_true rfl) ?_
        refine ⟨_, rfl, _, (upd_ne hDt).trans P1, line' (by have := @rf_len V (fun v => decide (N.src v = m)) vN i; omega), ?_, s2.putN hD⟩
        rw [upd_same, rf_t (decide_eq_true e)]
      · refine iteG (by show decide (V.int (y.1 : Nat) = V.int (m : Nat)) = false; rw [← es]; exact decide_eq_false (fun z => e (Int.ofNat.inj (V.int.inj z)))) ?_
        exact ⟨by rw [rf_f (decide_eq_false e)]; exact (upd_ne hDt).trans P1, s2⟩
    · rintro H1 ⟨P1, s1⟩
      refine k H1 D s1 hD ?_
      rw [P1]
      unfold Nt.outs
      rw [lw]
end Cr
namespace Cr
open PySem PySem.Spec PyProof.Rows L2 He
theorem sc_Heap_put : FnScope ["self", "said", "event"] ["self", "said", "event"] (defScope s_Heap_put) := ⟨rfl, rfl, rfl, by decide +kernel, rfl, by decide +kernel, by decide +kernel⟩
def sp_Heap_put (K : PySem.W.Frag) : Sp := fun vs H Q _ => ∃ (p dx t s k : Addr) (x e : V) (xs ss ks : List V), vs = [.ref p, x, e] ∧ H p = some (.ins (ga K "Heap") dx (heapF t s k)) ∧ H t = some (.lst xs) ∧ H s = some (.lst ss) ∧ H k = some (.lst ks) ∧ t ≠ s ∧ t ≠ k ∧ s ≠ k ∧
  xs.length < 16777216 ∧ ss.length < 16777216 ∧ ks.length < 16777216 ∧ Q .non (upd (upd (upd H t (.lst (xs ++ [x]))) s (.lst (ss ++ [e]))) k (.lst (ks ++ [.non])))
theorem ok_Heap_put {P : Program} {w : World} {K : PySem.W.Frag} {mg : Str → Option Value} {base : Heap} (T : Txt K mg) : Met P w K mg base 1 (ga K "Heap") "put" (sp_Heap_put K) := by
  refine Met.mk0 T.c_Heap T.m_Heap_put T.D_Heap_put sc_Heap_put (fun _ _ _ _ _ _ us hl => match us, hl with | [_, _, _], _ => rfl) (fun vs H Q E h => ?_) (fun cdv A outer s H vs Q E hr h => ?_)
  · obtain ⟨p, dx, t, s, k, x, e, xs, ss, ks, rfl, _⟩ := h
    rfl
  · obtain ⟨p, dx, t, s, k, x, e, xs, ss, ks, rfl, hp, ht, hs, hk, n1, n2, n3, l1, l2, l3, q⟩ := h
    have npt : p ≠ t := ne_of hp ht (by intro z; cases z)
    have nps : p ≠ s := ne_of hp hs (by intro z; cases z)
    have npk : p ≠ k := ne_of hp hk (by intro z; cases z)
    refine ⟨_, (pss_cons (ps_expr (pe_bm PySem.F.plainAttrs_list PySem.F.slot_list_append PySem.F.type_list_append mt_append (pe_fld (pv 0) rfl) (pa_cons (pv 1) pa_nil)))
      (pss_cons (ps_expr (pe_bm PySem.F.plainAttrs_list PySem.F.slot_list_append PySem.F.type_list_append mt_append (pe_fld (pv 0) rfl) (pa_cons (pv 2) pa_nil)))
      (pss_one (ps_expr (pe_bm PySem.F.plainAttrs_list PySem.F.slot_list_append PySem.F.type_list_append mt_append (pe_fld (pv 0) rfl) (pa_cons pe_non pa_nil)))))), ?_⟩
    refine ⟨_, rfl, p, _, dx, _, .ref t, rfl, hp, T.c_Heap, T.n_Heap_tells, lk 0 heapK (by decide +kernel), .inl ⟨rfl, _, SqL.of ht⟩, _, rfl, t, _, _, rfl, rfl, ht, line' l1, ?_⟩
    have hp1 := (upd_ne (o := .lst (xs ++ [x])) npt).trans hp
    have hs1 := (upd_ne (o := .lst (xs ++ [x])) n1.symm).trans hs
    have hk1 := (upd_ne (o := .lst (xs ++ [x])) n2.symm).trans hk
    refine ⟨_, rfl, p, _, dx, _, .ref s, rfl, hp1, T.c_Heap, T.n_Heap_sender, lk 1 heapK (by decide +kernel), .inl ⟨rfl, _, SqL.of hs1⟩, _, rfl, s, _, _, rfl, rfl, hs1, line' l2, ?_⟩
    have hp2 := (upd_ne (o := .lst (ss ++ [e])) nps).trans hp1
    have hk2 := (upd_ne (o := .lst (ss ++ [e])) n3.symm).trans hk1
    exact ⟨_, rfl, p, _, dx, _, .ref k, rfl, hp2, T.c_Heap, T.n_Heap_worker, lk 2 heapK (by decide +kernel), .inl ⟨rfl, _, SqL.of hk2⟩, k, _, _, rfl, rfl, hk2, line' l3, q⟩
end Cr
namespace Cr
open PySem PySem.Spec PyProof.Rows L2 He
theorem sc_Run_send : FnScope ["self", "event", "letters", "outs", "j", "said"] ["self", "event", "letters"] (defScope s_Run_send) := ⟨rfl, rfl, rfl, by decide +kernel, rfl, by decide +kernel, by decide +kernel⟩
def sp_Run_send (K : PySem.W.Frag) : Sp := fun vs H Q _ => ∃ (p l : Addr) (ev nv : V) (A : PT → Addr) (hI : Nat → Addr) (G : PT → HO) (N : Nt) (R : Run) (m c : Nat) (us : List V) (sent : List (Nat × Int)), vs = [.ref p, ev, .ref l] ∧ IsPNet K H nv N ∧ PRunAt K H p nv A hI G N R ∧ IsPk H ev (m, c) ∧
  H l = some (.lst us) ∧ Paired (IsPr H) us sent ∧ ¬ PFoot N A l ∧ m < N.ms.length ∧ N.ok ∧ (∀ w, (R.put w).length + sent.length < 16777216) ∧ (∀ w, (R.put w).length = (R.snd w).length) ∧ (∀ w k, (R.put w).length ≤ k → R.worker w k = none) ∧
  ∀ H' G', PRunAt K H' p nv A hI G' N (R.sends (N.outs m) (some (m, c)) sent) → Fr (PFoot N A) H H' → Q .non H'
theorem ok_Run_send {P : Program} {w : World} {K : PySem.W.Frag} {mg : Str → Option Value} {base : Heap} (T : Txt K mg) : Met P w K mg base 4 (ga K "Run") "send" (sp_Run_send K) := by
  have G_Net_ways_out := ok_Net_ways_out (P := P) (w := w) (base := base) T
  have G_Heap_put := ok_Heap_put (P := P) (w := w) (base := base) T
  refine Met.mk0 T.c_Run T.m_Run_send T.D_Run_send sc_Run_send (fun _ _ _ _ _ _ us hl => match us, hl with | [_, _, _], _ => rfl) (fun vs H Q E h => ?_) (fun cdv A outer s H vs Q E hr h => ?_)
  · obtain ⟨p, l, ev, nv, A, hI, G, N, R, m, c, us, sent, rfl, _⟩ := h
    rfl
  · obtain ⟨p, l, ev, nv, A', hI, G, N, R, m, c, us, sent, rfl, Z, P, hev, hl, hus, nl, hm, hN, b1, b2, b3, k⟩ := h
    obtain ⟨dx, hp⟩ := P.ob
    obtain ⟨np, nw, nj, nb, ms, ws, ls, rfl, Z⟩ := Z
    obtain ⟨dn, hnp⟩ := Z.ob
    obtain ⟨e, rfl, he⟩ := id hev
    have lus := hus.length
    refine ⟨_, (pss_cons (ps_set (i := 3) sc_Run_send.nd rfl (Or.inl rfl) (pe_mt G_Net_ways_out hr (by decide) (pe_fld (pv 0) rfl) (pa_cons (pe_ix ix_tup (pv 1) pe_int (fun _ _ => rfl)) pa_nil)))
      (pss_one (ps_for PassesOwn.never rfl (pi_list (pv 2)) (pg_tup rfl (pgs_cons (pg_name (i := 4) sc_Run_send.nd rfl (Or.inl rfl)) (pgs_cons (pg_name (i := 5) sc_Run_send.nd rfl (Or.inl rfl)) pgs_nil))) (pss_one (ps_if (pt_cmpR op_lt (pv 4) (pe_callB call_len_seq (by rfl) T.f_len (by decide +kernel) (pa_cons (pv 3) pa_nil)) (nomark _)) (pss_one (ps_expr (pe_mt G_Heap_put hr (by decide) (pe_ix ix_list (pe_fld (pv 0) rfl) (pe_ix ix_list (pv 3) (pv 4) (fun _ _ => rfl)) (fun _ _ => rfl)) (pa_cons (pv 5) (pa_cons (pv 1) pa_nil))))) pss_nil))))), ?_⟩
    refine ⟨_, rfl, p, _, dx, _, .ref np, rfl, hp, T.c_Run, T.n_Run_base, lk 0 runK (by decide +kernel), np, dn, _, rfl, hnp, lkN netK (by decide +kernel), _, rfl, e, _, _, _, rfl, rfl, SqT.of he, atI_nat (j := 0) rfl, np, nw, nj, nb, ms, ws, ls, N, m, rfl, Z, hm, hN, fun H1 o s1 no ho => ?_⟩
    refine ⟨_, rfl, l, rfl, ⟨_, SqL.of (s1 _ _ hl)⟩, ?_⟩
    have nfo : ¬ PFoot N A' o := by
      rintro ⟨t, ht, e⟩
      have := P.lay.at_ t ht
      rw [e, no] at this
      cases this
    refine for_it (n := us.length) walk_list (fun i σ H' => (∃ v1 v2, σ = [some (.ref p), some (.ref e), some (.ref l), some (.ref o), v1, v2]) ∧ Fr (PFoot N A') H1 H' ∧ ∃ G', PRunAt K H' p (.ref np) A' hI G' N (R.sends (N.outs m) (some (m, c)) (sent.take i)))
      ⟨⟨_, _, rfl⟩, Fr.refl, G, P.keep s1⟩ (fun i σ H' _ Z => SqL.of (Z.2.1.at (s1 _ _ hl) nl)) ?_ ?_
    · rintro i y σ H2 H3 hi ⟨⟨v1, v2, rfl⟩, F2, G', P2⟩ ⟨rfl, hy⟩
      obtain ⟨⟨j, x⟩, hj, hjx⟩ := hus.cget hy
      obtain ⟨pj, rfl, hpj⟩ := hjx.tk ((Same.tk_ s1).trans F2.tk)
      have ho2 := F2.at ho nfo
      refine ⟨pj, _, rfl, SqT.of hpj, rfl, _, _, rfl, _, _, rfl, rfl, ?_⟩
      refine ⟨_, rfl, _, rfl, o, _, rfl, .inl (SqL.of ho2), _, _, rfl, rfl, _, rfl, ite2D (fun hj2 => ?_) (fun hj2 => ?_)⟩
      · rw [List.length_map] at hj2
        have hj3 : j < (N.outs m).length := by omega
        have ew : (N.outs m)[j]? = some (N.outs m)[j] := List.getElem?_eq_getElem hj3
        generalize (N.outs m)[j] = w' at ew
        have hw : w' < N.ws.length := by
          have := List.mem_of_getElem? ew
          unfold Nt.outs at this
          exact List.mem_range.mp (List.mem_filter.mp this).1
        obtain ⟨dx', hp2⟩ := P2.ob
        obtain ⟨dh, hh⟩ := P2.hp w' hw
        obtain ⟨ss, es, ps⟩ := P2.s w' hw
        obtain ⟨ks, ek, pk⟩ := P2.k w' hw
        have hhl := P2.lay.at' (t := PT.hl) trivial P2.hl
        have ht := P2.lay.at' (t := PT.t w') hw (P2.t w' hw)
        have hs := P2.lay.at' (t := PT.s w') hw es
        have hk := P2.lay.at' (t := PT.k w') hw ek
        have inj : ∀ x y : PT, PT.ok N x → PT.ok N y → x ≠ y → A' x ≠ A' y := fun x y hx hy hne e => hne (P2.lay.inj x y hx hy e)
        have eR := sends_at (R := R) (outs := N.outs m) (e := some (m, c)) (sent.take i)
        have len : ((R.sends (N.outs m) (some (m, c)) (sent.take i)).put w').length < 16777216 := by
          rw [eR]
          show (R.put w' ++ _).length < _
          rw [List.length_append]
          have h1 := @sends_len (N.outs m) (sent.take i) w'
          rw [List.length_take] at h1
          have := b1 w'
          omega
        have len2 : ((R.sends (N.outs m) (some (m, c)) (sent.take i)).put w').length = ((R.sends (N.outs m) (some (m, c)) (sent.take i)).snd w').length := by
          rw [eR]
          show (R.put w' ++ _).length = (R.snd w' ++ _).length
          rw [List.length_append, List.length_append, List.length_map, b2]
        have len3 : (R.sends (N.outs m) (some (m, c)) (sent.take i)).worker w' ((R.sends (N.outs m) (some (m, c)) (sent.take i)).put w').length = none := by
          have e1 : (R.sends (N.outs m) (some (m, c)) (sent.take i)).worker w' = R.worker w' := by rw [eR]; rfl
          rw [e1]
          refine b3 _ _ ?_
          rw [eR]
          show _ ≤ (R.put w' ++ _).length
          rw [List.length_append]
          omega
        have lss := ps.length
        have lks := pk.length
        rw [wks_len] at lks
        refine ⟨_, rfl, p, _, dx', _, .ref (A' .hl), rfl, hp2, T.c_Run, T.n_Run_heaps, lk 1 runK (by decide +kernel), _, rfl, _, rfl, o, _, _, _, rfl, rfl, SqL.of ho2, atI_nat (by rw [List.getElem?_map, ew]; rfl), A' .hl, _, _, _, rfl, rfl, SqL.of hhl, atI_nat (rm_get hw), hI w', dh, _, rfl, hh, lkN heapK (by decide +kernel), _, rfl, _, rfl,
          hI w', dh, A' (.t w'), A' (.s w'), A' (.k w'), .int x, .ref e, _, ss, ks, rfl, hh, ht, hs, hk, inj _ _ hw hw (by intro z; cases z), inj _ _ hw hw (by intro z; cases z), inj _ _ hw hw (by intro z; cases z), by rw [List.length_map]; exact len, by omega, by omega, ?_⟩
        obtain ⟨G'', P', F'⟩ := P2.send hw (x := x) (e := some (m, c)) (ev := .ref e) (show IsPk _ _ _ from (hev.tk ((Same.tk_ s1).trans F2.tk))) len3 hs hk
        refine ⟨⟨_, _, rfl⟩, F2.trans F', G'', ?_⟩
        rw [take_more hj, Run.sends_snoc]
        unfold Run.sendS
        rw [ew]
        exact P'
      · rw [List.length_map] at hj2
        refine ⟨⟨_, _, rfl⟩, F2, G', ?_⟩
        rw [take_more hj, Run.sends_snoc]
        unfold Run.sendS
        rw [List.getElem?_eq_none (by show (N.outs m).length ≤ j; omega)]
        exact P2
    · rintro σ H2 ⟨_, F2, G', P2⟩
      rw [lus, List.take_length] at P2
      exact k H2 G' P2 ((Fr.of s1).trans F2)
end Cr
namespace Cr
open PySem PySem.Spec PyProof.Rows L2 He
theorem sc_Run_pick : FnScope ["self", "way", "number", "heap", "source", "goal", "sort", "place", "state", "letters", "words", "event"] ["self", "way", "number"] (defScope s_Run_pick) := ⟨rfl, rfl, rfl, by decide +kernel, rfl, by decide +kernel, by decide +kernel⟩
theorem place_idx {N : Nt} {w : Nat} (hw : w < N.ws.length) : (N.ins (N.goal w))[N.place w]? = some w ∧ ∀ m z, m < N.place w → (N.ins (N.goal w))[m]? = some z → z ≠ w := by
  have hmem : w ∈ N.ins (N.goal w) := by
    unfold Nt.ins
    exact List.mem_filter.mpr ⟨List.mem_range.mpr hw, decide_eq_true rfl⟩
  unfold Nt.place
  generalize N.ins (N.goal w) = l at hmem
  induction l with
  | nil => cases hmem
  | cons a l ih =>
    by_cases e : a = w
    · subst e
      refine ⟨by rw [List.idxOf_cons_self]; rfl, fun m z hm => by rw [List.idxOf_cons_self] at hm; exact absurd hm (Nat.not_lt_zero _)⟩
    · have hm' : w ∈ l := by
        rcases List.mem_cons.mp hmem with h | h
        · exact absurd h.symm e
        · exact h
      have ei : (a :: l).idxOf w = l.idxOf w + 1 := by rw [List.idxOf_cons, show (a == w) = false from beq_false_of_ne e]; rfl
      rw [ei]
      obtain ⟨i1, i2⟩ := ih hm'
      refine ⟨i1, fun m z hm hz => ?_⟩
      cases m with
      | zero => cases hz; exact e
      | succ m => exact i2 m z (by omega) hz
theorem first_open {N : Nt} {R : Run} {w n : Nat} {ks : List V} {H : Hp} (hm : R.May N w n) (hr : N.isRow w = true) (hk : Paired (IsSn H) ks (R.wks w)) : (((List.range ks.length).filter fun i => decide (ks[i]? = some .non)).map vN)[0]? = some (vN n) := by
  have e : ∀ i, i < ks.length → decide (ks[i]? = some V.non) = (R.worker w i).isNone := fun i hi => by
    have hi' : i < (R.put w).length := by rw [← wks_len, ← hk.length]; exact hi
    obtain ⟨v, hv, hv2⟩ := hk.cget2 (wks_get hi')
    rw [hv]
    cases q : R.worker w i with
    | none => rw [q] at hv2; rw [show v = .non from hv2]; rfl
    | some x =>
      rw [q] at hv2
      obtain ⟨p, rfl, _⟩ := hv2
      exact decide_eq_false (fun z => by cases z)
  have hn : n < ks.length := by rw [hk.length, wks_len]; exact hm.hn
  have t : ((List.range ks.length).filter fun i => decide (ks[i]? = some .non)).take 1 = [n] := take1_filter.mpr ⟨hn, by rw [e n hn, hm.hno]; rfl, fun k hk' => by
    rw [e k (by omega)]
    have := hm.hrow hr k hk'
    cases q : R.worker w k with
    | none => exact absurd q this
    | some _ => rfl⟩
  generalize (List.range ks.length).filter (fun i => decide (ks[i]? = some V.non)) = l at t
  cases l with
  | nil => cases t
  | cons a l => cases t; rfl
def sp_Run_pick (K : PySem.W.Frag) : Sp := fun vs H Q _ => ∃ (p : Addr) (H0 : Hp) (A : PT → Addr) (hI : Nat → Addr) (N : Nt) (R : Run) (w n : Nat), vs = [.ref p, .int (w : Nat), .int (n : Nat)] ∧ PRun K H0 H p A hI N R ∧ N.ok ∧ R.Ok N ∧ R.May N w n ∧ R.evs.length ≤ 1000 ∧
  ∀ H' ev, PRun K H0 H' p A hI N (R.pick N w n) → Fr (PFoot N A) H H' → IsPk H' ev (N.goal w, R.cnt (N.goal w) + 1) → Q ev H'
theorem ok_Run_pick {P : Program} {w : World} {K : PySem.W.Frag} {mg : Str → Option Value} {base : Heap} (T : Txt K mg) : Met P w K mg base 5 (ga K "Run") "pick" (sp_Run_pick K) := by
  have G_Run_want_put := ok_Run_want_put (P := P) (w := w) (base := base) T
  have G_Net_ways := ok_Net_ways (P := P) (w := w) (base := base) T
  have G_Heap_open_numbers := ok_Heap_open_numbers (P := P) (w := w) (base := base) T
  have G_Net_ways_in := ok_Net_ways_in (P := P) (w := w) (base := base) T
  have G_Net_machines := ok_Net_machines (P := P) (w := w) (base := base) T
  have G_Machine_worked := ok_Machine_worked (P := P) (w := w) (base := base) T
  have G_Run_send := ok_Run_send (P := P) (w := w) (base := base) T
  refine Met.mk0 T.c_Run T.m_Run_pick T.D_Run_pick sc_Run_pick (fun _ _ _ _ _ _ us hl => match us, hl with | [_, _, _], _ => rfl) (fun vs H Q E h => ?_) (fun cdv A outer s H vs Q E hr h => ?_)
  · obtain ⟨p, H0, A, hI, N, R, w, n, rfl, _⟩ := h
    rfl
  · obtain ⟨p, H0, A', hI, N, R, w', n, rfl, PR, hN, hR, hm, hev, k⟩ := h
    obtain ⟨s0, fresh, nv, G, Z0, P⟩ := PR
    have Z1 := Z0.keep s0
    have hw := hm.hw
    have hg := hN.goal hw
    obtain ⟨dx, hp⟩ := P.ob
    obtain ⟨np, nw, nj, nb, ms, ws, ls, rfl, Z⟩ := Z1
    obtain ⟨dn, hnp⟩ := Z.ob
    have hl := P.lay.at' (t := PT.hl) trivial P.hl
    obtain ⟨dh, hh⟩ := P.hp w' hw
    have ht := P.lay.at' (t := PT.t w') hw (P.t w' hw)
    obtain ⟨ks, ek, pk⟩ := P.k w' hw
    have hk := P.lay.at' (t := PT.k w') hw ek
    obtain ⟨kv, hkv, hkv2⟩ := pk.cget2 (wks_get hm.hn)
    rw [hm.hno] at hkv2
    have hkv2 : kv = .non := hkv2
    subst hkv2
    have lks := pk.length
    rw [wks_len] at lks
    have pl := hR.pl w'
    obtain ⟨wy, hwy, hwy2⟩ := Z.ws.cget2 (N.way_at hw)
    obtain ⟨pw, rfl, hpw⟩ := hwy2
    refine ⟨_, (pss_cons (ps_expr (pe_mt G_Run_want_put hr (by decide) (pv 0) (pa_cons (pv 1) (pa_cons (pv 2) pa_nil))))
      (pss_cons (ps_set (i := 3) sc_Run_pick.nd rfl (Or.inl rfl) (pe_ix ix_list (pe_fld (pv 0) rfl) (pv 1) (fun _ _ => rfl)))
      (pss_cons (ps_if (pt_cmp (pc_notN (pe_ix ix_list (pe_fld (pv 3) rfl) (pv 2) (fun _ _ => rfl)))) (pss_one ps_never) pss_nil)
      (pss_cons (ps_asg (pe_ix ix_list (pe_mt0 G_Net_ways hr (by decide) (pe_fld (pv 0) rfl)) (pv 1) (fun _ _ => rfl)) (pg_tup rfl (pgs_cons (pg_name (i := 4) sc_Run_pick.nd rfl (Or.inl rfl)) (pgs_cons (pg_name (i := 5) sc_Run_pick.nd rfl (Or.inl rfl)) (pgs_cons (pg_name (i := 6) sc_Run_pick.nd rfl (Or.inl rfl)) pgs_nil)))))
      (Evl.pss_cut (ps_if (PW.pt (pw_and (pt_cmpR op_eq (pv 6) pe_str (nomark _)) (pw_and1 (pt_cmpR op_ne (pe_ix ix_list (pe_mt0 G_Heap_open_numbers hr (by decide) (pv 3)) pe_int (fun _ _ => rfl)) (pv 2) (nomark _))))) (pss_one ps_never) pss_nil)
      (pss_cons (ps_set (i := 7) sc_Run_pick.nd rfl (Or.inl rfl) (pe_bm PySem.F.plainAttrs_list PySem.F.slot_list_index PySem.F.type_list_index mt_index (pe_mt G_Net_ways_in hr (by decide) (pe_fld (pv 0) rfl) (pa_cons (pv 5) pa_nil)) (pa_cons (pv 1) pa_nil)))
      (pss_cons (ps_asg (pe_mt G_Machine_worked hr (by decide) (pe_ix ix_list (pe_mt0 G_Net_machines hr (by decide) (pe_fld (pv 0) rfl)) (pv 5) (fun _ _ => rfl)) (pa_cons (pe_ix ix_list (pe_ix ix_list (pe_fld (pv 0) rfl) (pv 5) (fun _ _ => rfl)) (pe_un un_neg pe_int) (fun _ _ => rfl)) (pa_cons (pv 7) (pa_cons (pe_ix ix_list (pe_fld (pv 3) rfl) (pv 2) (fun _ _ => rfl)) pa_nil)))) (pg_tup rfl (pgs_cons (pg_name (i := 8) sc_Run_pick.nd rfl (Or.inl rfl)) (pgs_cons (pg_name (i := 9) sc_Run_pick.nd rfl (Or.inl rfl)) (pgs_cons (pg_name (i := 10) sc_Run_pick.nd rfl (Or.inl rfl)) pgs_nil)))))
      (pss_cons (ps_set (i := 11) sc_Run_pick.nd rfl (Or.inl rfl) (pe_tup (pa_cons (pv 5) (pa_cons (pe_callB call_len_seq (by rfl) T.f_len (by decide +kernel) (pa_cons (pe_ix ix_list (pe_fld (pv 0) rfl) (pv 5) (fun _ _ => rfl)) pa_nil)) pa_nil))))
      (pss_cons (ps_asg (pv 11) (pg_sub (pe_fld (pv 3) rfl) (pv 2) set_list))
      (pss_cons (ps_expr (pe_bm PySem.F.plainAttrs_list PySem.F.slot_list_append PySem.F.type_list_append mt_append (pe_ix ix_list (pe_fld (pv 0) rfl) (pv 5) (fun _ _ => rfl)) (pa_cons (pv 8) pa_nil)))
      (pss_cons (ps_expr (pe_bm PySem.F.plainAttrs_list PySem.F.slot_list_append PySem.F.type_list_append mt_append (pe_ix ix_list (pe_fld (pv 0) rfl) (pv 5) (fun _ _ => rfl)) (pa_cons (pe_callTy call_list_of (by rfl) T.f_list (by decide +kernel) (pa_cons (pv 10) pa_nil)) pa_nil)))
      (pss_cons (ps_expr (pe_bm PySem.F.plainAttrs_list PySem.F.slot_list_append PySem.F.type_list_append mt_append (pe_fld (pv 0) rfl) (pa_cons (pe_tup (pa_cons (pv 1) (pa_cons (pv 2) pa_nil))) pa_nil)))
      (pss_cons (ps_expr (pe_mt G_Run_send hr (by decide) (pv 0) (pa_cons (pv 11) (pa_cons (pv 9) pa_nil))))
      (pss_one (ps_ret (pv 11)))))))))))))))), ?_⟩
    refine ⟨_, rfl, p, dx, _, rfl, hp, lkN runK (by decide +kernel), _, rfl, _, rfl, p, _, A', hI, G, N, R, w', n, rfl, P, hw, hm.hn, ?_⟩
    refine ⟨_, rfl, p, _, dx, _, .ref (A' .hl), rfl, hp, T.c_Run, T.n_Run_heaps, lk 1 runK (by decide +kernel), _, rfl, A' .hl, _, _, _, rfl, rfl, SqL.of hl, atI_nat (rm_get hw), ?_⟩
    refine ⟨_, rfl, hI w', _, dh, _, .ref (A' (.k w')), rfl, hh, T.c_Heap, T.n_Heap_worker, lk 2 heapK (by decide +kernel), _, rfl, A' (.k w'), _, _, _, rfl, rfl, SqL.of hk, atI_nat hkv, _, rfl, iteNS rfl ?_⟩
    refine ⟨_, rfl, p, _, dx, _, .ref np, rfl, hp, T.c_Run, T.n_Run_base, lk 0 runK (by decide +kernel), np, dn, _, rfl, hnp, lkN netK (by decide +kernel), np, nw, nj, nb, ms, ws, ls, N, rfl, Z, fun q hq => ⟨_, rfl, q, _, _, _, rfl, rfl, SqL.of upd_same, atI_nat hwy, ?_⟩⟩
    have sq := Same.new_ (o := .lst ws) hq
    refine ⟨pw, _, rfl, SqT.of (sq _ _ hpw), rfl, _, _, rfl, _, _, rfl, _, _, rfl, rfl, ?_⟩
    refine ⟨fun σ H' => σ = [some (.ref p), some (.int (w' : Nat)), some (.int (n : Nat)), some (.ref (hI w')), some (.int (N.src w' : Nat)), some (.int (N.goal w' : Nat)), some (.str (sortT (N.isRow w'))), none, none, none, none, none] ∧ Same H H', ?_, ?_⟩
    · refine ⟨_, rfl, rfl, _, rfl, ?_⟩
      cases hr : N.isRow w' with
      | true =>
        refine iteE (show decide (V.str (sortT true) = V.str "row") = true from by decide +kernel) ?_
        refine ⟨_, rfl, hI w', dh, _, rfl, sq _ _ hh, lkN heapK (by decide +kernel), hI w', dh, A' (.t w'), A' (.s w'), A' (.k w'), ks, rfl, sq _ _ hh, sq _ _ hk, by omega, fun H2 q2 s2 nq2 hq2 => ?_⟩
        exact ⟨q2, _, _, _, rfl, rfl, SqL.of hq2, atI_nat (j := 0) (first_open hm hr pk), _, rfl, rfl, _, rfl, iteNS rfl ⟨by rw [← hr]; rfl, sq.trans s2⟩⟩
      | false =>
        refine iteG (show decide (V.str (sortT false) = V.str "row") = false from by decide +kernel) ?_
        exact ⟨by rw [← hr]; rfl, sq⟩
    rintro σ H1 ⟨rfl, s1⟩
    have P1 := P.keep s1
    have Z1 := Z.keep s1
    have hp1 := s1 _ _ hp
    have hnp1 := s1 _ _ hnp
    obtain ⟨pi1, pi2⟩ := place_idx hw
    refine ⟨_, rfl, p, _, dx, _, .ref np, rfl, hp1, T.c_Run, T.n_Run_base, lk 0 runK (by decide +kernel), np, dn, _, rfl, hnp1, lkN netK (by decide +kernel), _, rfl, np, nw, nj, nb, ms, ws, ls, N, N.goal w', rfl, Z1, hg, hN, fun H2 o s2 no ho => ?_⟩
    replace s2 := s1.trans s2
    refine ⟨.inl ⟨rfl, _, SqL.of ho⟩, _, rfl, o, _, _, N.place w', vN w', rfl, rfl, SqL.of ho, rfl, List.all_eq_true.mpr (fun x hx => by obtain ⟨z, _, rfl⟩ := List.mem_map.mp hx; rfl), by rw [List.getElem?_map, pi1]; rfl, beq_self_eq_true _, fun m z' hm' hz' => ?_, ?_⟩
    · rw [List.getElem?_map] at hz'
      cases e : (N.ins (N.goal w'))[m]? with
      | none => rw [e] at hz'; cases hz'
      | some z =>
        rw [e] at hz'
        cases hz'
        exact beq_false_of_ne (fun y => pi2 m z hm' e (Int.ofNat.inj y))
    have P2 := P.keep s2
    obtain ⟨dm, hdm⟩ := Z.ms.cget2 (N.mch_at hg)
    obtain ⟨hdm, hdm2⟩ := hdm
    obtain ⟨sts, est, pst⟩ := P.st _ hg
    have hst := P.lay.at' (t := PT.st (N.goal w')) hg est
    obtain ⟨sv, hsv, hsv2⟩ := pst.cget2 (last_mem (hR.sl _))
    have hsl := P.lay.at' (t := PT.sl) trivial P.sl
    obtain ⟨ps, _, _, esv, _⟩ := id hsv2
    obtain ⟨pm, dxm, bm, tm, dsm, edm, hpm, _⟩ := id hdm2
    subst esv edm
    have eget : (R.put w')[n]? = some ((R.put w').getD n 0) := nt_get hm.hn 0
    refine ⟨_, rfl, p, _, dx, _, .ref np, rfl, s2 _ _ hp, T.c_Run, T.n_Run_base, lk 0 runK (by decide +kernel), np, dn, _, rfl, s2 _ _ hnp, lkN netK (by decide +kernel), np, nw, nj, nb, ms, ws, ls, N, rfl, Z.keep s2, fun q3 hq3 => ⟨_, rfl, q3, _, _, _, rfl, rfl, SqL.of upd_same, atI_nat hdm, ?_⟩⟩
    have s3 := s2.trans (Same.new_ (o := .lst ms) hq3)
    refine ⟨pm, dxm, _, rfl, s3 _ _ hpm, lkN machK (by decide +kernel), ?_⟩
    refine ⟨_, rfl, p, _, dx, _, .ref (A' .sl), rfl, s3 _ _ hp, T.c_Run, T.n_Run_states, lk 2 runK (by decide +kernel), _, rfl, A' .sl, _, _, _, rfl, rfl, SqL.of (s3 _ _ hsl), atI_nat (rm_get hg), _, rfl, A' (.st (N.goal w')), sts, _, _, rfl, rfl, SqL.of (s3 _ _ hst), atI_end (by rw [pst.length, hR.sl]) hsv, ?_⟩
    refine ⟨_, rfl, _, rfl, hI w', _, dh, _, .ref (A' (.t w')), rfl, s3 _ _ hh, T.c_Heap, T.n_Heap_tells, lk 0 heapK (by decide +kernel), _, rfl, A' (.t w'), _, _, _, rfl, rfl, SqL.of (s3 _ _ ht), atI_nat (ints_get eget), ?_⟩
    refine ⟨pm, ps, N.mch (N.goal w'), R.last (N.goal w'), N.place w', (R.put w').getD n 0, rfl, hdm2.keep s3, hN.mch hg, hsv2.tk (Same.tk_ s3), hR.so _ hg _ (List.mem_of_getElem? (last_mem (hR.sl _))), fun H4 t sn wd sv' vs s4 W => ?_⟩
    have D := hR.done (n := n) hN hw
    have eD : wkEnd (N.mch (N.goal w')) (R.last (N.goal w')) (N.place w') ((R.put w').getD n 0) = R.done N w' n := rfl
    rw [eD] at W
    have ns0 := s3.free W.ns
    have nw0 := s3.free W.nw
    replace s4 := s3.trans s4
    have lsts := pst.length
    have hsts := hR.sl (N.goal w')
    have hce := hR.ce (N.goal w')
    refine ⟨t, _, rfl, SqT.of W.t, rfl, _, _, rfl, _, _, rfl, _, _, rfl, rfl, ?_⟩
    -- the event
    refine ⟨_, rfl, _, rfl, p, _, dx, _, .ref (A' .sl), rfl, s4 _ _ hp, T.c_Run, T.n_Run_states, lk 2 runK (by decide +kernel), _, rfl, A' .sl, _, _, _, rfl, rfl, SqL.of (s4 _ _ hsl), atI_nat (rm_get hg), A' (.st (N.goal w')), sts, rfl, .inl (SqL.of (s4 _ _ hst)), line (by show 2 ≤ 16777216; decide), fun e he => ?_⟩
    have s5 := s4.trans (Same.new_ (o := .tup [.int (N.goal w' : Nat), .int (sts.length : Nat)]) he)
    have P5 := P.keep s5
    have pe5 : IsPk (upd H4 e (.tup [.int (N.goal w' : Nat), .int (sts.length : Nat)])) (.ref e) (N.goal w', R.cnt (N.goal w') + 1) := ⟨e, rfl, by rw [upd_same, lsts, hsts]⟩
    -- the worker
    have hk5 := s5 _ _ hk
    refine ⟨_, rfl, _, rfl, hI w', _, dh, _, .ref (A' (.k w')), rfl, s5 _ _ hh, T.c_Heap, T.n_Heap_worker, lk 2 heapK (by decide +kernel), _, rfl, A' (.k w'), ks, _, n, rfl, rfl, hk5, Evl.ixN_nat (by rw [lks]; exact hm.hn), ?_⟩
    obtain ⟨G6, P6, F6⟩ := P5.workd hw (n := n) pe5 hm.hno hk5
    -- the state
    obtain ⟨dx6, hp6⟩ := P6.ob
    obtain ⟨sts', est', pst'⟩ := P6.st _ hg
    have hst6 := P6.lay.at' (t := PT.st (N.goal w')) hg est'
    have hsl6 := P6.lay.at' (t := PT.sl) trivial P6.sl
    have lsts' := pst'.length
    have hsv6 : IsSta _ sv' ((R.done N w' n).nu, (R.done N w' n).row) := (W.st.tk (Same.tk_ (Same.new_ he))).tk F6.tk
    refine ⟨_, rfl, p, _, dx6, _, .ref (A' .sl), rfl, hp6, T.c_Run, T.n_Run_states, lk 2 runK (by decide +kernel), _, rfl, A' .sl, _, _, .ref (A' (.st (N.goal w'))), rfl, rfl, SqL.of hsl6, atI_nat (rm_get hg), .inl ⟨rfl, _, SqL.of hst6⟩, _, rfl, A' (.st (N.goal w')), sts', _, rfl, rfl, hst6, line' (by rw [lsts']; show (R.sts _).length < _; omega), ?_⟩
    obtain ⟨G7, P7, F7⟩ := P6.statd hg hsv6 hst6
    replace F7 := F6.trans F7
    -- the words
    obtain ⟨dx7, hp7⟩ := P7.ob
    obtain ⟨wrs, ewr, lwr⟩ := P7.wr _ hg
    have hwr7 := P7.lay.at' (t := PT.wr (N.goal w')) hg ewr
    have hwl7 := P7.lay.at' (t := PT.wl) trivial P7.wl
    have nfn : ∀ {b : Addr}, H b = none → ¬ PFoot N A' b := fun {b} hb => by
      rintro ⟨z, hz, rfl⟩
      have := P.lay.at_ z hz
      rw [hb] at this
      cases this
    have hwd5 : (upd H4 e (.tup [.int (N.goal w' : Nat), .int (sts.length : Nat)])) wd = some (.lst ((R.done N w' n).words.map V.int)) := (Same.new_ he) _ _ W.hw
    have hsn5 : (upd H4 e (.tup [.int (N.goal w' : Nat), .int (sts.length : Nat)])) sn = some (.lst vs) := (Same.new_ he) _ _ W.hs
    have hwd7 := F7.at hwd5 (nfn nw0)
    have hsn7 := F7.at hsn5 (nfn ns0)
    refine ⟨_, rfl, p, _, dx7, _, .ref (A' .wl), rfl, hp7, T.c_Run, T.n_Run_word_rows, lk 3 runK (by decide +kernel), _, rfl, A' .wl, _, _, .ref (A' (.wr (N.goal w'))), rfl, rfl, SqL.of hwl7, atI_nat (rm_get hg), .inl ⟨rfl, _, SqL.of hwr7⟩, _, rfl, wd, _, rfl, .inl (SqL.of hwd7), fun wd' nwd' => ?_⟩
    have s8 := Same.new_ (o := .lst ((R.done N w' n).words.map V.int)) nwd'
    have P8 := P7.keep s8
    have hwr8 := s8 _ _ hwr7
    refine ⟨A' (.wr (N.goal w')), wrs, _, rfl, rfl, hwr8, line' (by rw [lwr]; show R.cnt _ < _; omega), ?_⟩
    obtain ⟨G9, P9, F9⟩ := P8.wordd hg (s := (R.done N w' n).words) (sv := .ref wd') hwr8
    replace F9 := F7.trans ((Fr.of s8).trans F9)
    -- the pick
    obtain ⟨dx9, hp9⟩ := P9.ob
    obtain ⟨pks, epk, ppk⟩ := P9.pk
    have hpk9 := P9.lay.at' (t := PT.pk) trivial epk
    have lpk : pks.length = R.evs.length := ppk.length
    refine ⟨_, rfl, p, _, dx9, _, .ref (A' .pk), rfl, hp9, T.c_Run, T.n_Run_picks, lk 4 runK (by decide +kernel), .inl ⟨rfl, _, SqL.of hpk9⟩, _, rfl, _, rfl, line (by show 2 ≤ 16777216; decide), fun pe hpe => ?_⟩
    have s10 := Same.new_ (o := .tup [.int (w' : Nat), .int (n : Nat)]) hpe
    have P10 := P9.keep s10
    refine ⟨A' .pk, pks, _, rfl, rfl, s10 _ _ hpk9, line' (by omega), ?_⟩
    obtain ⟨G11, P11, F11⟩ := P10.evd (e := (w', n)) (ev := .ref pe) ⟨pe, rfl, upd_same⟩ (s10 _ _ hpk9)
    replace F11 := (Fr.of s5).trans (F9.trans ((Fr.of s10).trans F11))
    rw [← pick0_eq] at P11
    -- the letters
    obtain ⟨dx11, hp11⟩ := P11.ob
    have s11 : Same H0 _ := F11.same s0 (by rintro b ⟨z, hz, rfl⟩; exact fresh z hz)
    have Z11 := Z0.keep s11
    have F511 := F9.trans ((Fr.of s10).trans (Fr.put (S := PFoot N A') (o := .lst (pks ++ [.ref pe])) ⟨.pk, trivial, rfl⟩ (not_tup_lst (s10 _ _ hpk9))))
    have hsn11 := F511.at hsn5 (nfn ns0)
    have d12 := (hN.mch hg).d12
    have sl12 := D.sl
    refine ⟨_, rfl, p, dx11, _, rfl, hp11, lkN runK (by decide +kernel), _, rfl, _, rfl, p, sn, .ref e, .ref np, A', hI, G11, N, _, N.goal w', R.cnt (N.goal w') + 1, vs, (R.done N w' n).sent, rfl, Z11, P11, pe5.tk F511.tk, hsn11, (W.ps.cimp fun _ _ z => z.tk ((Same.tk_ (Same.new_ he)).trans F511.tk)), nfn ns0, hg, hN,
      fun v => (by have := hR.pl v; show (R.put v).length + _ < _; omega), fun v => hR.ps v, fun v kk hkk => ?_, fun H12 G12 P12 F12 => ?_⟩
    · have e1 : (R.pick0 N w' n).worker v kk = if v = w' ∧ kk = n then some (N.goal w', R.cnt (N.goal w') + 1) else R.worker v kk := by
        rw [pick0_eq]
        exact workd_worker hm.hno v kk
      rw [e1]
      have hkk : (R.put v).length ≤ kk := hkk
      have hn' := hm.hn
      rw [if_neg (by rintro ⟨rfl, rfl⟩; omega)]
      exact hR.noWk hkk
    · rw [pick_sends] at P12
      have F13 := F11.trans F12
      exact ⟨_, rfl, k H12 (.ref e) ⟨F13.same s0 (by rintro b ⟨z, hz, rfl⟩; exact fresh z hz), fresh, _, G12, Z0, P12⟩ F13 ((pe5.tk F511.tk).tk F12.tk)⟩
end Cr
namespace Cr
open PySem PySem.Spec PyProof.Rows L2 He
theorem sc_Lpick : FnScope ["_law_run", "_law_way", "_law_number", "_law_m", "_law_place", "_law_outs", "_law_event", "_law_state", "_law_sent", "_law_words", "_law_row", "_law_source", "_law_c", "_law_j", "_law_said", "_law_k", "_law_told_here", "_law_one", "_law_other"] ["_law_run", "_law_way", "_law_number"] (defScope s_Lpick) := ⟨rfl, rfl, rfl, by decide +kernel, rfl, by decide +kernel, by decide +kernel⟩
theorem flat_len {l : List (List Int)} (h : ∀ ws ∈ l, ws.length ≤ 12) : l.flatten.length ≤ 12 * l.length := by
  induction l with
  | nil => exact Nat.le_refl _
  | cons a l ih =>
    have h1 := h a List.mem_cons_self
    have h2 := ih fun ws hw => h ws (List.mem_cons_of_mem _ hw)
    rw [List.flatten_cons, List.length_append, List.length_cons]
    omega
def RowB (bd : Nat → Nat) (r : List Int) : Prop := ∀ j, 0 ≤ r.getD j 0 ∧ r.getD j 0 ≤ bd j
theorem RowB.nil {bd : Nat → Nat} : RowB bd [] := fun j => by
  rw [List.getD_eq_getElem?_getD]
  exact ⟨Int.le_refl _, by show (0 : Int) ≤ _; omega⟩
theorem RowB.snoc {bd : Nat → Nat} {r : List Int} {v : Int} (h : RowB bd r) (h0 : 0 ≤ v) (h1 : v ≤ bd r.length) : RowB bd (r ++ [v]) := fun j => by
  rw [List.getD_eq_getElem?_getD]
  by_cases q : j < r.length
  · rw [List.getElem?_append_left q, ← List.getD_eq_getElem?_getD]
    exact h j
  · rw [List.getElem?_append_right (by omega)]
    by_cases q2 : j = r.length
    · subst q2
      rw [Nat.sub_self]
      exact ⟨h0, h1⟩
    · rw [List.getElem?_eq_none (by show 1 ≤ _; omega)]
      exact ⟨Int.le_refl _, by show (0 : Int) ≤ _; omega⟩
theorem RowB.set {bd : Nat → Nat} {r : List Int} {v : Int} {m : Nat} (h : RowB bd r) (h0 : 0 ≤ v) (h1 : v ≤ bd m) : RowB bd (r.set m v) := fun j => by
  rw [List.getD_eq_getElem?_getD, List.getElem?_set]
  by_cases q : m = j
  · subst q
    rw [if_pos rfl]
    split
    · exact ⟨h0, h1⟩
    · exact ⟨Int.le_refl _, by show (0 : Int) ≤ _; omega⟩
  · rw [if_neg q, ← List.getD_eq_getElem?_getD]
    exact h j
theorem RowB.zeros {bd : Nat → Nat} (n : Nat) : RowB bd (List.replicate n 0) := by
  induction n with
  | zero => exact .nil
  | succ n ih =>
    rw [List.replicate_succ']
    exact ih.snoc (Int.le_refl _) (by omega)
theorem RowB.mono {bd bd' : Nat → Nat} {r : List Int} (h : RowB bd r) (k : ∀ j, bd j ≤ bd' j) : RowB bd' r := fun j => ⟨(h j).1, Int.le_trans (h j).2 (by have := k j; omega)⟩
def sp_Lpick (K : PySem.W.Frag) : Sp := fun vs H Q _ => ∃ (v : V) (w n : Nat) (H0 : Hp) (N : Nt) (R : Run) (S : Addr → Prop), vs = [v, .int (w : Nat), .int (n : Nat)] ∧ LRun H0 H v N R S ∧ N.ok ∧ Ply N R ∧ R.May N w n ∧ R.evs.length ≤ 1000 ∧
  ∀ H' S' ev, LRun H0 H' v N (R.pick N w n) S' → Up S H H' S' → Q ev H'
theorem ok_Lpick {P : Program} {w : World} {K : PySem.W.Frag} {mg : Str → Option Value} {base : Heap} (T : Txt K mg) : Cal P w K mg base 3 "_law_pick" (sp_Lpick K) := by
  have G_Lworked := ok_Lworked (P := P) (w := w) (base := base) T
  refine Cal.mk0 T.g_Lpick T.D_Lpick sc_Lpick (fun _ _ _ _ _ _ us hl => match us, hl with | [_, _, _], _ => rfl) (fun vs H Q E h => ?_) (fun cdv A outer s H vs Q E hr h => ?_)
  · obtain ⟨v, w, n, H0, N, R, S, rfl, _⟩ := h
    rfl
  · obtain ⟨v, w', n, H0, N, R, S, rfl, L, hN, hP, hm, hev, kq⟩ := h
    obtain ⟨s0, nw, nv, A', G, rfl, Z0, P, hS⟩ := L
    have hR := hP.ok hN
    obtain ⟨pn, ml, wl, ll, ms, ws, ls, rfl, hpn, Z⟩ := Z0.keep s0
    have hw := hm.hw
    have hg := hN.goal hw
    obtain ⟨wy, hwy, hwy2⟩ := Z.ws.cget2 (N.way_at hw)
    obtain ⟨pw, rfl, hpw⟩ := hwy2
    have lws := Z.ws.length
    have lms := Z.ms.length
    have w10 := hN.w10
    have m5 := hN.m5
    obtain ⟨sts, hst, pst⟩ := P.a_tM hg
    obtain ⟨sv, hsv, hsv2⟩ := pst.cget2 (last_mem (hR.sl _))
    obtain ⟨dm, hdm, hdm2⟩ := Z.ms.cget2 (N.mch_at hg)
    have eget : (R.put w')[n]? = some ((R.put w').getD n 0) := nt_get hm.hn 0
    have D := hR.done (n := n) hN hw
    have lsts := pst.length
    have hsl := hR.sl (N.goal w')
    have hce := hR.ce (N.goal w')
    have pl := hR.pl w'
    have wbl := hR.wl w'
    obtain ⟨pi1, pi2⟩ := place_idx hw
    have notS : ∀ {b : Addr}, H b = none → ¬ Lf (LT.ok N R.cnt R.cnt) A' b := fun {b} hb => by
      rintro ⟨z, hz, rfl⟩
      have := P.lay.at_ z hz
      rw [hb] at this
      cases this
    refine ⟨_, (pss_cons (ps_set (i := 3) sc_Lpick.nd rfl (Or.inr rfl) (pe_ix ix_tup (pe_ix ix_list (pe_ix ix_tup (pe_dget (hu_of hr) (pv 0) pe_str (fun _ _ => rfl)) pe_int (fun _ _ => rfl)) (pv 1) (fun _ _ => rfl)) pe_int (fun _ _ => rfl)))
      (pss_cons (ps_set (i := 4) sc_Lpick.nd rfl (Or.inl rfl) (pe_bm PySem.F.plainAttrs_list PySem.F.slot_list_index PySem.F.type_list_index mt_index (pe_lc (own := [("_law_k", 15), ("_law_told_here", 16)]) rfl sc_Lpick.nd (pi_enum (by rfl) T.f_enumerate (pa_cons (pe_ix ix_tup (pe_dget (hu_of hr) (pv 0) pe_str (fun _ _ => rfl)) pe_int (fun _ _ => rfl)) pa_nil)) (blkOk_by (own := [("_law_k", 15), ("_law_told_here", 16)]) (N := ["_law_run", "_law_way", "_law_number", "_law_m", "_law_place", "_law_outs", "_law_event", "_law_state", "_law_sent", "_law_words", "_law_row", "_law_source", "_law_c", "_law_j", "_law_said", "_law_k", "_law_told_here", "_law_one", "_law_other"]) (sc := defScope s_Lpick) (by decide +kernel)) (fun _ _ _ _ _ => (pg_tupK (K := K) (n := 2) rfl rfl (pgs_cons (pg_name (i := 15) sc_Lpick.nd rfl (Or.inl rfl)) (pgs_cons (pg_name (i := 16) sc_Lpick.nd rfl (Or.inl rfl)) pgs_nil)))) (fun _ _ _ _ _ => pts_one (pt_cmpR op_eq (pe_ix (ix_tupK (K := K) rfl) (pv 16) pe_int (fun _ _ => rfl)) (pv 3) (nomark _))) (fun _ _ _ _ _ => (pv 15))) (pa_cons (pv 1) pa_nil)))
      (pss_cons (ps_setLc (i := 5) (own := [("_law_k", 15), ("_law_told_here", 16)]) rfl sc_Lpick.nd rfl rfl (sw_true rfl rfl rfl (by decide +kernel)) (pi_enum (by rfl) T.f_enumerate (pa_cons (pe_ix ix_tup (pe_dget (hu_of hr) (pv 0) pe_str (fun _ _ => rfl)) pe_int (fun _ _ => rfl)) pa_nil)) (blkOk_by (own := [("_law_k", 15), ("_law_told_here", 16)]) (N := ["_law_run", "_law_way", "_law_number", "_law_m", "_law_place", "_law_outs", "_law_event", "_law_state", "_law_sent", "_law_words", "_law_row", "_law_source", "_law_c", "_law_j", "_law_said", "_law_k", "_law_told_here", "_law_one", "_law_other"]) (sc := defScope s_Lpick) (by decide +kernel)) (fun _ _ _ _ _ => (pg_tupK (K := K) (n := 2) rfl rfl (pgs_cons (pg_name (i := 15) sc_Lpick.nd rfl (Or.inl rfl)) (pgs_cons (pg_name (i := 16) sc_Lpick.nd rfl (Or.inl rfl)) pgs_nil)))) (fun _ _ _ _ _ => pts_one (pt_cmpR op_eq (pe_ix (ix_tupK (K := K) rfl) (pv 16) pe_int (fun _ _ => rfl)) (pv 3) (nomark _))) (fun _ _ _ _ _ => (pv 15)))
      (pss_cons (ps_set (i := 6) sc_Lpick.nd rfl (Or.inl rfl) (pe_tup (pa_cons (pv 3) (pa_cons (pe_callB call_len_seq (by rfl) T.f_len (by decide +kernel) (pa_cons (pe_ix ix_list (pe_dget (hu_of hr) (pv 0) pe_str (fun _ _ => rfl)) (pv 3) (fun _ _ => rfl)) pa_nil)) pa_nil))))
      (pss_cons (ps_asg (pe_c G_Lworked hr (by decide) (by rfl) (pa_cons (pe_ix ix_list (pe_ix ix_tup (pe_dget (hu_of hr) (pv 0) pe_str (fun _ _ => rfl)) pe_int (fun _ _ => rfl)) (pv 3) (fun _ _ => rfl)) (pa_cons (pe_ix ix_list (pe_ix ix_list (pe_dget (hu_of hr) (pv 0) pe_str (fun _ _ => rfl)) (pv 3) (fun _ _ => rfl)) (pe_un un_neg pe_int) (fun _ _ => rfl)) (pa_cons (pv 4) (pa_cons (pe_ix ix_list (pe_ix ix_list (pe_dget (hu_of hr) (pv 0) pe_str (fun _ _ => rfl)) (pv 1) (fun _ _ => rfl)) (pv 2) (fun _ _ => rfl)) pa_nil))))) (pg_tup rfl (pgs_cons (pg_name (i := 7) sc_Lpick.nd rfl (Or.inl rfl)) (pgs_cons (pg_name (i := 8) sc_Lpick.nd rfl (Or.inl rfl)) (pgs_cons (pg_name (i := 9) sc_Lpick.nd rfl (Or.inl rfl)) pgs_nil)))))
      (Evl.pss_cut (ps_set (i := 10) sc_Lpick.nd rfl (Or.inr rfl) (pe_ix ix_list (pe_op op_cat (pe_lst (pa_cons (pe_op op_rep (pe_lst (pa_cons pe_int pa_nil)) (pe_callB call_len_seq (by rfl) T.f_len (by decide +kernel) (pa_cons (pe_ix ix_tup (pe_dget (hu_of hr) (pv 0) pe_str (fun _ _ => rfl)) pe_int (fun _ _ => rfl)) pa_nil))) pa_nil)) (pe_ix ix_list (pe_dget (hu_of hr) (pv 0) pe_str (fun _ _ => rfl)) (pv 3) (fun _ _ => rfl))) (pe_un un_neg pe_int) (fun _ _ => rfl)))
      (Evl.pss_cut (ps_if (pt_cmp (pc_notN (pe_ix ix_list (pe_ix ix_list (pe_dget (hu_of hr) (pv 0) pe_str (fun _ _ => rfl)) (pv 1) (fun _ _ => rfl)) (pv 2) (fun _ _ => rfl)))) (pss_cons (ps_asg (pe_ix ix_list (pe_ix ix_list (pe_dget (hu_of hr) (pv 0) pe_str (fun _ _ => rfl)) (pv 1) (fun _ _ => rfl)) (pv 2) (fun _ _ => rfl)) (pg_tup rfl (pgs_cons (pg_name (i := 11) sc_Lpick.nd rfl (Or.inl rfl)) (pgs_cons (pg_name (i := 12) sc_Lpick.nd rfl (Or.inl rfl)) pgs_nil))))
      (pss_one (ps_set (i := 10) sc_Lpick.nd rfl (Or.inr rfl) (pe_lc (own := [("_law_one", 17), ("_law_other", 18)]) rfl sc_Lpick.nd (pi_zip (by rfl) T.f_zip (pa_cons (pv 10) (pa_cons (pe_ix ix_list (pe_ix ix_list (pe_dget (hu_of hr) (pv 0) pe_str (fun _ _ => rfl)) (pv 11) (fun _ _ => rfl)) (pe_op op_sub (pv 12) pe_int) (fun _ _ => rfl)) pa_nil))) (blkOk_by (own := [("_law_one", 17), ("_law_other", 18)]) (N := ["_law_run", "_law_way", "_law_number", "_law_m", "_law_place", "_law_outs", "_law_event", "_law_state", "_law_sent", "_law_words", "_law_row", "_law_source", "_law_c", "_law_j", "_law_said", "_law_k", "_law_told_here", "_law_one", "_law_other"]) (sc := defScope s_Lpick) (by decide +kernel)) (fun _ _ _ _ _ => (pg_tupK (K := K) (n := 2) rfl rfl (pgs_cons (pg_name (i := 17) sc_Lpick.nd rfl (Or.inl rfl)) (pgs_cons (pg_name (i := 18) sc_Lpick.nd rfl (Or.inl rfl)) pgs_nil)))) (fun _ _ _ _ _ => pts_nil) (fun _ _ _ _ _ => (pe_callB (call_max2 rfl) (by rfl) T.f_max (by decide +kernel) (pa_cons (pv 17) (pa_cons (pv 18) pa_nil)))))))) pss_nil)
      (pss_cons (ps_expr (pe_bm PySem.F.plainAttrs_list PySem.F.slot_list_append PySem.F.type_list_append mt_append (pe_ix ix_list (pe_dget (hu_of hr) (pv 0) pe_str (fun _ _ => rfl)) (pv 3) (fun _ _ => rfl)) (pa_cons (pe_lc (own := [("_law_k", 15)]) rfl sc_Lpick.nd (pi_range1 (by rfl) T.f_range (pa_cons (pe_callB call_len_seq (by rfl) T.f_len (by decide +kernel) (pa_cons (pv 10) pa_nil)) pa_nil)) (blkOk_by (own := [("_law_k", 15)]) (N := ["_law_run", "_law_way", "_law_number", "_law_m", "_law_place", "_law_outs", "_law_event", "_law_state", "_law_sent", "_law_words", "_law_row", "_law_source", "_law_c", "_law_j", "_law_said", "_law_k", "_law_told_here", "_law_one", "_law_other"]) (sc := defScope s_Lpick) (by decide +kernel)) (fun _ _ _ _ _ => (pg_name (i := 15) sc_Lpick.nd rfl (Or.inl rfl))) (fun _ _ _ _ _ => pts_nil) (fun _ _ _ _ _ => (pe_op op_add (pe_ix (ix_listK (K := K) rfl) (pv 10) (pv 15) (fun _ _ => rfl)) (pe_callTy call_int1 (by rfl) T.f_int (by decide +kernel) (pa_cons (pe_cmpR op_eq (pv 15) (pv 3) (nomark _)) pa_nil))))) pa_nil)))
      (pss_cons (ps_asg (pe_ix ix_tup (pv 6) pe_int (fun _ _ => rfl)) (pg_sub (pe_ix ix_list (pe_ix ix_list (pe_dget (hu_of hr) (pv 0) pe_str (fun _ _ => rfl)) (pv 3) (fun _ _ => rfl)) (pe_un un_neg pe_int) (fun _ _ => rfl)) (pv 3) set_list))
      (pss_cons (ps_dput (hu_of hr) (pe_ix ix_list (pe_dget (hu_of hr) (pv 0) pe_str (fun _ _ => rfl)) (pv 1) (fun _ _ => rfl)) (pv 2) (pv 6) rfl)
      (pss_cons (ps_expr (pe_bm PySem.F.plainAttrs_list PySem.F.slot_list_append PySem.F.type_list_append mt_append (pe_ix ix_list (pe_dget (hu_of hr) (pv 0) pe_str (fun _ _ => rfl)) (pv 3) (fun _ _ => rfl)) (pa_cons (pv 7) pa_nil)))
      (pss_cons (ps_expr (pe_bm PySem.F.plainAttrs_list PySem.F.slot_list_append PySem.F.type_list_append mt_append (pe_ix ix_list (pe_dget (hu_of hr) (pv 0) pe_str (fun _ _ => rfl)) (pv 3) (fun _ _ => rfl)) (pa_cons (pe_op op_cat (pe_ix ix_list (pe_ix ix_list (pe_dget (hu_of hr) (pv 0) pe_str (fun _ _ => rfl)) (pv 3) (fun _ _ => rfl)) (pe_un un_neg pe_int) (fun _ _ => rfl)) (pv 9)) pa_nil)))
      (pss_cons (ps_expr (pe_bm PySem.F.plainAttrs_list PySem.F.slot_list_append PySem.F.type_list_append mt_append (pe_dget (hu_of hr) (pv 0) pe_str (fun _ _ => rfl)) (pa_cons (pe_tup (pa_cons (pv 1) (pa_cons (pv 2) pa_nil))) pa_nil)))
      (pss_cons (ps_for PassesOwn.never rfl (pi_list (pv 8)) (pg_tup rfl (pgs_cons (pg_name (i := 13) sc_Lpick.nd rfl (Or.inl rfl)) (pgs_cons (pg_name (i := 14) sc_Lpick.nd rfl (Or.inl rfl)) pgs_nil))) (pss_one (ps_if (pt_cmpR op_lt (pv 13) (pe_callB call_len_seq (by rfl) T.f_len (by decide +kernel) (pa_cons (pv 5) pa_nil)) (nomark _)) (pss_cons (ps_expr (pe_bm PySem.F.plainAttrs_list PySem.F.slot_list_append PySem.F.type_list_append mt_append (pe_ix ix_list (pe_dget (hu_of hr) (pv 0) pe_str (fun _ _ => rfl)) (pe_ix ix_list (pv 5) (pv 13) (fun _ _ => rfl)) (fun _ _ => rfl)) (pa_cons (pv 14) pa_nil)))
      (pss_one (ps_expr (pe_bm PySem.F.plainAttrs_list PySem.F.slot_list_append PySem.F.type_list_append mt_append (pe_ix ix_list (pe_dget (hu_of hr) (pv 0) pe_str (fun _ _ => rfl)) (pe_ix ix_list (pv 5) (pv 13) (fun _ _ => rfl)) (fun _ _ => rfl)) (pa_cons (pv 6) pa_nil))))) pss_nil)))
      (pss_one (ps_ret (pv 6))))))))))))))))), ?_⟩
    -- the goal
    refine ⟨_, rfl, A' .d, _, rfl, P.g_net, pn, _, _, _, rfl, rfl, SqT.of hpn, atI_nat (j := 1) rfl, _, rfl, wl, _, _, _, rfl, rfl, SqL.of Z.w, atI_nat hwy, pw, _, _, _, rfl, rfl, SqT.of hpw, atI_nat (j := 1) rfl, ?_⟩
    -- the place
    refine ⟨_, rfl, A' .d, _, rfl, P.g_net, pn, _, _, _, rfl, rfl, SqT.of hpn, atI_nat (j := 1) rfl, wl, _, rfl, SqL.of Z.w, fun D1 hD1 => ?_⟩
    refine lc_it (n := ws.length) walk_enum (fun i H' => H' D1 = some (.lst (((List.range i).filter fun v => decide (N.goal v = N.goal w')).map vN)) ∧ Same H H') ⟨upd_same, (Same.refl H).trans (Same.new_ hD1)⟩ (fun i H' _ P => SqL.of (P.2 _ _ Z.w)) ?_ ?_
    · rintro i x H1 H2 hi ⟨P1, P2⟩ ⟨t, x1, x2, rfl, ht, rfl, e1, e2⟩
      cases e1
      obtain ⟨y, hy, q⟩ := Z.ws.cget e2
      have st := P2.trans (Same.new_ (o := .tup [.int (i : Nat), x2]) ht)
      obtain ⟨p', rfl, hp'⟩ := q.tk (Same.tk_ st)
      have ey : N.ws.getD i (0, 0, false) = y := getD_of hy
      refine ⟨t, _, rfl, SqT.of upd_same, rfl, _, _, rfl, _, _, rfl, rfl, rfl, ?_⟩
      refine ⟨_, rfl, p', _, _, _, rfl, rfl, SqT.of hp', atI_nat (j := 1) rfl, _, rfl, rfl, _, rfl, ?_⟩
      have es : N.goal i = y.2.1 := by unfold Nt.goal; rw [ey]
      have hDt : D1 ≠ t := ne_of_none P1 ht
      have fD : H D1 = none := (Same.refl H).free hD1
      by_cases e : N.goal i = N.goal w'
      · refine iteE (by show decide (V.int (y.2.1 : Nat) = V.int (N.goal w' : Nat)) = true; rw [← es, e]; exact decide_eq_true rfl) ?_
        refine ⟨_, rfl, _, (upd_ne hDt).trans P1, line' (by have := @rf_len V (fun v => decide (N.goal v = N.goal w')) vN i; omega), ?_, st.putN fD⟩
        rw [upd_same, rf_t (decide_eq_true e)]
      · refine iteG (by show decide (V.int (y.2.1 : Nat) = V.int (N.goal w' : Nat)) = false; rw [← es]; exact decide_eq_false (fun z => e (Int.ofNat.inj (V.int.inj z)))) ?_
        exact ⟨by rw [rf_f (decide_eq_false e)]; exact (upd_ne hDt).trans P1, st⟩
    rintro H1 ⟨hD1c, s1⟩
    rw [lws] at hD1c
    refine ⟨.inl ⟨rfl, _, SqL.of hD1c⟩, _, rfl, D1, _, _, N.place w', vN w', rfl, rfl, SqL.of hD1c, rfl, List.all_eq_true.mpr (fun x hx => by obtain ⟨z, _, rfl⟩ := List.mem_map.mp hx; rfl), ?_, beq_self_eq_true _, fun m z' hm' hz' => ?_, ?_⟩
    · show ((N.ins (N.goal w')).map vN)[N.place w']? = _
      rw [List.getElem?_map, pi1]; rfl
    · replace hz' : ((N.ins (N.goal w')).map vN)[m]? = some z' := hz'
      rw [List.getElem?_map] at hz'
      cases e : (N.ins (N.goal w'))[m]? with
      | none => rw [e] at hz'; cases hz'
      | some z =>
        rw [e] at hz'
        cases hz'
        exact beq_false_of_ne (fun y => pi2 m z hm' e (Int.ofNat.inj y))
    -- the ways out
    have P1 := P.keep s1
    refine ⟨_, rfl, A' .d, _, rfl, P1.g_net, pn, _, _, _, rfl, rfl, SqT.of (s1 _ _ hpn), atI_nat (j := 1) rfl, wl, _, rfl, SqL.of (s1 _ _ Z.w), fun D2 hD2 => ?_⟩
    refine lc_it (n := ws.length) walk_enum (fun i H' => H' D2 = some (.lst (((List.range i).filter fun v => decide (N.src v = N.goal w')).map vN)) ∧ Same H H') ⟨upd_same, s1.trans (Same.new_ hD2)⟩ (fun i H' _ P => SqL.of (P.2 _ _ Z.w)) ?_ ?_
    · rintro i x H1 H2 hi ⟨P1, P2⟩ ⟨t, x1, x2, rfl, ht, rfl, e1, e2⟩
      cases e1
      obtain ⟨y, hy, q⟩ := Z.ws.cget e2
      have st := P2.trans (Same.new_ (o := .tup [.int (i : Nat), x2]) ht)
      obtain ⟨p', rfl, hp'⟩ := q.tk (Same.tk_ st)
      have ey : N.ws.getD i (0, 0, false) = y := getD_of hy
      refine ⟨t, _, rfl, SqT.of upd_same, rfl, _, _, rfl, _, _, rfl, rfl, rfl, ?_⟩
      refine ⟨_, rfl, p', _, _, _, rfl, rfl, SqT.of hp', atI_nat (j := 0) rfl, _, rfl, rfl, _, rfl, ?_⟩
      have es : N.src i = y.1 := by unfold Nt.src; rw [ey]
      have hDt : D2 ≠ t := ne_of_none P1 ht
      have fD : H D2 = none := s1.free hD2
      by_cases e : N.src i = N.goal w'
      · refine iteE (by show decide (V.int (y.1 : Nat) = V.int (N.goal w' : Nat)) = true; rw [← es, e]; exact decide_eq_true rfl) ?_
        refine ⟨_, rfl, _, (upd_ne hDt).trans P1, line' (by have := @rf_len V (fun v => decide (N.src v = N.goal w')) vN i; omega), ?_, st.putN fD⟩
        rw [upd_same, rf_t (decide_eq_true e)]
      · refine iteG (by show decide (V.int (y.1 : Nat) = V.int (N.goal w' : Nat)) = false; rw [← es]; exact decide_eq_false (fun z => e (Int.ofNat.inj (V.int.inj z)))) ?_
        exact ⟨by rw [rf_f (decide_eq_false e)]; exact (upd_ne hDt).trans P1, st⟩
    rintro H2 ⟨hD2c, s2⟩
    rw [lws] at hD2c
    replace hD2c : H2 D2 = some (.lst ((N.outs (N.goal w')).map vN)) := hD2c
    have fD2 : H D2 = none := s1.free hD2
    have P2 := P.keep s2
    -- the event
    refine ⟨_, rfl, _, rfl, A' .d, _, rfl, P2.g_sts, _, rfl, A' .sts, _, _, _, rfl, rfl, SqL.of P2.a_sts, atI_nat (rm_get hg), A' (.tM (N.goal w')), sts, rfl, .inl (SqL.of (s2 _ _ hst)), line (by show 2 ≤ 16777216; decide), fun e he => ?_⟩
    have s3 := s2.trans (Same.new_ (o := .tup [.int (N.goal w' : Nat), .int (sts.length : Nat)]) he)
    have P3 := P.keep s3
    have pe3 : IsPk (upd H2 e (.tup [.int (N.goal w' : Nat), .int (sts.length : Nat)])) (.ref e) (N.goal w', R.cnt (N.goal w') + 1) := ⟨e, rfl, by rw [upd_same, lsts, hsl]⟩
    have hD23 := (Same.new_ (o := .tup [.int (N.goal w' : Nat), .int (sts.length : Nat)]) he) _ _ hD2c
    -- the work
    refine ⟨_, rfl, A' .d, _, rfl, P3.g_net, pn, _, _, _, rfl, rfl, SqT.of (s3 _ _ hpn), atI_nat (j := 0) rfl, _, rfl, ml, _, _, _, rfl, rfl, SqL.of (s3 _ _ Z.m), atI_nat hdm, ?_⟩
    refine ⟨_, rfl, A' .d, _, rfl, P3.g_sts, _, rfl, A' .sts, _, _, _, rfl, rfl, SqL.of P3.a_sts, atI_nat (rm_get hg), _, rfl, A' (.tM (N.goal w')), sts, _, _, rfl, rfl, SqL.of (s3 _ _ hst), atI_end (by rw [lsts, hsl]) hsv, ?_⟩
    refine ⟨_, rfl, _, rfl, A' .d, _, rfl, P3.g_put, _, rfl, A' .put, _, _, _, rfl, rfl, SqL.of P3.a_put, atI_nat (rm_get hw), _, rfl, A' (.p w'), _, _, _, rfl, rfl, SqL.of (P3.a_p hw), atI_nat (ints_get eget), ?_⟩
    refine ⟨dm, sv, N.mch (N.goal w'), R.last (N.goal w'), N.place w', (R.put w').getD n 0, rfl, hdm2.keep s3, hN.mch hg, hsv2.tk (Same.tk_ s3), hR.so _ hg _ (List.mem_of_getElem? (last_mem (hR.sl _))), fun H4 t sn wd sv' us s4 W nswd => ?_⟩
    have eD : wkEnd (N.mch (N.goal w')) (R.last (N.goal w')) (N.place w') ((R.put w').getD n 0) = R.done N w' n := rfl
    rw [eD] at W
    have fsn : H sn = none := s3.free W.ns
    have fwd : H wd = none := s3.free W.nw
    have hD24 := s4 _ _ hD23
    have pe4 := pe3.tk (Same.tk_ s4)
    replace s4 := s3.trans s4
    have P4 := P.keep s4
    refine ⟨t, _, rfl, SqT.of W.t, rfl, _, _, rfl, _, _, rfl, _, _, rfl, rfl, ?_⟩
    -- the row
    have lrm : ∀ {r : List Int}, r.length = N.ms.length → ((r.map V.int).length) = N.ms.length := fun h => by rw [List.length_map, h]
    refine ⟨fun σ H' => ∃ xr r, σ = [some (.ref (A' .d)), some (.int (w' : Nat)), some (.int (n : Nat)), some (.int (N.goal w' : Nat)), some (.int (N.place w' : Nat)), some (.ref D2), some (.ref e), some sv', some (.ref sn), some (.ref wd), some (.ref xr), none, none, none, none, none, none, none, none] ∧ Same H4 H' ∧ H' xr = some (.lst (r.map V.int)) ∧ r.length = N.ms.length ∧ RowB R.cnt r, ?_, ?_⟩
    · refine ⟨line (by show 1 ≤ 16777216; decide), fun z0 hz0 => ?_⟩
      have s5 := s4.trans (Same.new_ (o := .lst [.int 0]) hz0)
      refine ⟨_, rfl, A' .d, _, rfl, (P.keep s5).g_net, pn, _, _, _, rfl, rfl, SqT.of (s5 _ _ hpn), atI_nat (j := 0) rfl, ml, _, rfl, .inl (SqL.of (s5 _ _ Z.m)), z0, _, _, rfl, rfl, upd_same, by omega, by omega, ?_, fun z1 hz1 => ?_⟩
      · rw [Int.toNat_natCast]; show 1 * ms.length ≤ sizeLine; exact line (by omega)
      have ez : (List.replicate ((ms.length : Nat) : Int).toNat [V.int 0]).flatten = (List.replicate N.ms.length (0 : Int)).map V.int := by
        rw [Int.toNat_natCast, lms, List.map_replicate]
        have : ∀ q : Nat, (List.replicate q [V.int 0]).flatten = List.replicate q (V.int 0) := fun q => by
          induction q with
          | zero => rfl
          | succ q ih => rw [List.replicate_succ, List.flatten_cons, ih]; rfl
        exact this _
      rw [ez]
      have s6 := s5.trans (Same.new_ (o := .lst ((List.replicate N.ms.length (0 : Int)).map V.int)) hz1)
      refine ⟨line (by show 1 ≤ 16777216; decide), fun z2 hz2 => ?_⟩
      have s7 := s6.trans (Same.new_ (o := .lst [.ref z1]) hz2)
      have P7 := P.keep s7
      refine ⟨_, rfl, A' .d, _, rfl, P7.g_hrd, _, rfl, A' .hrd, _, _, _, rfl, rfl, SqL.of P7.a_hrd, atI_nat (rm_get hg), z2, A' (.hM (N.goal w')), _, _, rfl, rfl, upd_same, P7.a_hM hg, line (by rw [rm_len]; show 1 + R.cnt (N.goal w') ≤ _; omega), fun z3 hz3 => ?_⟩
      have s8 := s7.trans (Same.new_ (o := .lst ([V.ref z1] ++ (List.range (R.cnt (N.goal w'))).map fun c => V.ref (A' (.hC (N.goal w') c)))) hz3)
      have P8 := P.keep s8
      have hrow : ∃ xr r, atI ([V.ref z1] ++ (List.range (R.cnt (N.goal w'))).map fun c => V.ref (A' (.hC (N.goal w') c))) (-1) = some (V.ref xr) ∧ (upd (upd (upd (upd H4 z0 (.lst [.int 0])) z1 (.lst ((List.replicate N.ms.length (0 : Int)).map V.int))) z2 (.lst [.ref z1])) z3 (.lst ([V.ref z1] ++ (List.range (R.cnt (N.goal w'))).map fun c => V.ref (A' (.hC (N.goal w') c))))) xr = some (.lst (r.map V.int)) ∧ r.length = N.ms.length ∧ RowB R.cnt r := by
        cases hc : R.cnt (N.goal w') with
        | zero =>
          refine ⟨z1, _, rfl, ?_, List.length_replicate, .zeros _⟩
          rw [hc] at s8
          exact (Same.new_ hz3) _ _ ((Same.new_ hz2) _ _ upd_same)
        | succ c =>
          obtain ⟨r, hr, lr, br⟩ := P8.a_hC (c := c) hg (by omega)
          refine ⟨_, r, ?_, by rw [← hc]; exact hr, lr, br⟩
          rw [rm_s, ← List.append_assoc]
          exact atI_last _ _
      obtain ⟨xr, r, hat, hxr, lr, br⟩ := hrow
      have t48 : Same H4 _ := (Same.new_ (o := .lst [.int 0]) hz0).trans ((Same.new_ (o := .lst ((List.replicate N.ms.length (0 : Int)).map V.int)) hz1).trans ((Same.new_ (o := .lst [.ref z1]) hz2).trans (Same.new_ (o := .lst ([V.ref z1] ++ (List.range (R.cnt (N.goal w'))).map fun c => V.ref (A' (.hC (N.goal w') c)))) hz3)))
      exact ⟨_, rfl, z3, _, _, _, rfl, rfl, SqL.of upd_same, hat, xr, r, rfl, t48, hxr, lr, br⟩
    rintro σ H8 ⟨xr, r, rfl, t48, hxr, lr, br⟩
    have s8 := s4.trans t48
    have P8 := P.keep s8
    -- with what the letter heard
    refine ⟨fun σ H' => ∃ xr v11 v12, σ = [some (.ref (A' .d)), some (.int (w' : Nat)), some (.int (n : Nat)), some (.int (N.goal w' : Nat)), some (.int (N.place w' : Nat)), some (.ref D2), some (.ref e), some sv', some (.ref sn), some (.ref wd), some (.ref xr), v11, v12, none, none, none, none, none, none] ∧ Same H8 H' ∧ ∃ r, H' xr = some (.lst (r.map V.int)) ∧ r.length = N.ms.length ∧ RowB R.cnt r, ?_, ?_⟩
    · obtain ⟨ss, hs, ps⟩ := P8.a_s hw
      have hn2 : n < (R.snd w').length := by rw [← hR.ps]; exact hm.hn
      obtain ⟨sdv, hsdv, hsdv2⟩ := ps.cget2 (nt_get hn2 none)
      refine ⟨_, rfl, A' .d, _, rfl, P8.g_snd, _, rfl, A' .snd, _, _, _, rfl, rfl, SqL.of P8.a_snd, atI_nat (rm_get hw), _, rfl, A' (.s w'), _, _, _, rfl, rfl, SqL.of hs, atI_nat hsdv, _, rfl, ?_⟩
      cases hsd : (R.snd w').getD n none with
      | none =>
        rw [hsd] at hsdv2
        cases (show sdv = .non from hsdv2)
        refine iteNS rfl ?_
        exact ⟨xr, _, _, rfl, Same.refl _, r, hxr, lr, br⟩
      | some sc =>
        rw [hsd] at hsdv2
        have hmem : some sc ∈ R.snd w' := by
          have := nt_get hn2 none
          rw [hsd] at this
          exact List.mem_of_getElem? this
        obtain ⟨so1, so2, so3⟩ := hP.snd_ok hmem
        have hsm : sc.1 < N.ms.length := by rw [so1]; exact hN.src hw
        obtain ⟨psd, rfl, hpsd⟩ := hsdv2
        refine iteE (by simp) ?_
        refine ⟨_, rfl, A' .d, _, rfl, P8.g_snd, _, rfl, A' .snd, _, _, _, rfl, rfl, SqL.of P8.a_snd, atI_nat (rm_get hw), _, rfl, A' (.s w'), _, _, _, rfl, rfl, SqL.of hs, atI_nat hsdv, psd, _, rfl, SqT.of hpsd, rfl, _, _, rfl, _, _, rfl, rfl, ?_⟩
        obtain ⟨c0, ec0⟩ : ∃ c0, sc.2 = c0 + 1 := ⟨sc.2 - 1, by omega⟩
        have ecn : c0 < R.cnt sc.1 := by rw [so1]; omega
        obtain ⟨r', hr', lr', br'⟩ := P8.a_hC (c := c0) hsm ecn
        have hix : atI ((List.range (R.cnt sc.1)).map fun c => V.ref (A' (.hC sc.1 c))) ((sc.2 : Int) - 1) = some (V.ref (A' (.hC sc.1 c0))) := by
          have e1 : ((sc.2 : Int) - 1) = ((c0 : Nat) : Int) := by omega
          rw [e1]
          exact atI_nat (rm_get ecn)
        refine ⟨_, rfl, _, rfl, A' .d, _, rfl, P8.g_hrd, _, rfl, A' .hrd, _, _, _, rfl, rfl, SqL.of P8.a_hrd, atI_nat (rm_get hsm), _, rfl, _, _, rfl, rfl, A' (.hM sc.1), _, _, _, rfl, rfl, SqL.of (P8.a_hM hsm), hix, xr, A' (.hC sc.1 c0), _, _, rfl, SqL.of hxr, SqL.of hr', fun Dz hDz => ?_⟩
        refine lc_it (n := N.ms.length) (walk_zip (xs := r.map V.int) (ys := r'.map V.int) (by rw [lrm lr, lrm lr']; omega)) (fun i H' => Same H8 H' ∧ ∃ q : List Int, H' Dz = some (.lst (q.map V.int)) ∧ q.length = i ∧ RowB R.cnt q) ⟨Same.new_ hDz, [], upd_same, rfl, .nil⟩ (fun i H' _ P => ⟨SqL.of (P.1 _ _ hxr), SqL.of (P.1 _ _ hr')⟩) ?_ ?_
        · rintro i x H9 H10 hi ⟨s9, q, hq, lq, bq⟩ ⟨t, x1, x2, rfl, ht, rfl, e1, e2⟩
          obtain ⟨y1, hy1, rfl⟩ := ints_of_get e1
          obtain ⟨y2, hy2, rfl⟩ := ints_of_get e2
          have b1 := br i
          have b2 := br' i
          rw [getD_of hy1] at b1
          rw [getD_of hy2] at b2
          have st := Same.new_ (o := .tup [.int y1, .int y2]) ht
          refine ⟨t, _, rfl, SqT.of upd_same, rfl, _, _, rfl, _, _, rfl, rfl, rfl, ?_⟩
          refine ⟨_, rfl, _, rfl, _, _, rfl, _, st _ _ hq, line' (by rw [List.length_map]; omega), (s9.trans st).putN hDz, q ++ [if y2 > y1 then y2 else y1], by rw [upd_same, List.map_append] <;> rfl, by rw [List.length_append, lq] <;> rfl, bq.snoc ?_ ?_⟩
          · split
            · exact b2.1
            · exact b1.1
          · rw [lq]
            split
            · exact b2.2
            · exact b1.2
        · rintro H9 ⟨s9, q, hq, lq, bq⟩
          exact ⟨Dz, _, _, rfl, s9, q, hq, lq, bq⟩
    clear hxr lr br
    rintro σ H9 ⟨xr, v11, v12, rfl, s89, r, hxr, lr, br⟩
    have s9 := s8.trans s89
    have P9 := P.keep s9
    -- heard
    refine ⟨_, rfl, A' .d, _, rfl, P9.g_hrd, _, rfl, A' .hrd, _, _, .ref (A' (.hM (N.goal w'))), rfl, rfl, SqL.of P9.a_hrd, atI_nat (rm_get hg), .inl ⟨rfl, _, SqL.of (P9.a_hM hg)⟩, ?_⟩
    refine ⟨_, rfl, xr, _, rfl, .inl (SqL.of hxr), _, rfl, by rw [lrm lr]; omega, by rw [lrm lr]; omega, fun Dn hDn => ?_⟩
    refine lc_it (n := (r.map V.int).length) walk_rngN (fun i H' => Same H9 H' ∧ ∃ q : List Int, H' Dn = some (.lst (q.map V.int)) ∧ q.length = i ∧ RowB (fun j => if j = N.goal w' then R.cnt j + 1 else R.cnt j) q) ⟨Same.new_ hDn, [], upd_same, rfl, .nil⟩ (fun _ _ _ _ => trivial) ?_ ?_
    · rintro i x H10 H10' hi ⟨s10, q, hq, lq, bq⟩ ⟨rfl, rfl⟩
      rw [lrm lr] at hi
      refine ⟨rfl, ?_⟩
      have ei : r[i]? = some (r.getD i 0) := nt_get (by omega) 0
      have bi := br i
      refine ⟨_, rfl, _, rfl, xr, _, _, _, rfl, rfl, SqL.of (s10 _ _ hxr), atI_nat (ints_get ei), _, rfl, _, rfl, rfl, .inr ⟨_, rfl, _, _, rfl, rfl, _, hq, line' (by rw [List.length_map]; omega), (s10.putN hDn), q ++ [r.getD i 0 + (if decide (V.int (i : Nat) = V.int (N.goal w' : Nat)) = true then 1 else 0)], ?_, by rw [List.length_append, lq] <;> rfl, bq.snoc ?_ ?_⟩⟩
      · rw [upd_same, List.map_append]; rfl
      · split <;> omega
      · rw [lq]
        by_cases e : i = N.goal w'
        · subst e
          rw [if_pos (decide_eq_true rfl), if_pos rfl]
          omega
        · rw [if_neg (by rw [decide_eq_false (show ¬ V.int (i : Nat) = V.int (N.goal w' : Nat) from fun z => e (Int.ofNat.inj (V.int.inj z)))]; exact Bool.false_ne_true), if_neg e]
          omega
    rintro H10 ⟨s910, q, hq, lq, bq⟩
    rw [lrm lr] at lq
    have s10 := s9.trans s910
    have P10 := P.keep s10
    have fDn : H Dn = none := s9.free hDn
    refine ⟨A' (.hM (N.goal w')), _, _, rfl, rfl, P10.a_hM hg, line' (by rw [rm_len]; omega), ?_⟩
    obtain ⟨A1, G1, ka1, ea1, in1, P11, F11⟩ := P10.heardd hg hq (fun y hy => ne_of_none (P9.lay.at_ y hy) hDn) lq bq
    have notD : ∀ {b : Addr}, H9 b ≠ none → H b = none → ¬ Lf (LT.ok N R.cnt fun v => if v = N.goal w' then R.cnt v + 1 else R.cnt v) A1 b := fun {b} h1 h2 hb => by
      rcases in1 b hb with z | z
      · exact notS h2 z
      · rw [z] at h1; exact h1 hDn
    have U11 : Up S H _ (Lf (LT.ok N R.cnt fun v => if v = N.goal w' then R.cnt v + 1 else R.cnt v) A1) := ⟨(Fr.of s10).trans (F11.mono fun b hb => (hS b).mpr hb), fun b hb => by
      rcases in1 b hb with z | z
      · exact .inl ((hS b).mpr z)
      · exact .inr (by rw [z]; exact fDn)⟩
    have ad1 : A1 .d = A' .d := ka1 .d trivial
    have tk4 : Tk H4 H10 := Same.tk_ (t48.trans (s89.trans s910))
    have pe11 := (pe4.tk tk4).tk F11.tk
    generalize hH11 : upd H10 (A' (.hM (N.goal w'))) (.lst ((List.range (R.cnt (N.goal w'))).map (fun c => V.ref (A' (.hC (N.goal w') c))) ++ [.ref Dn])) = H11 at P11 F11 U11 pe11
    have hcl : R.cnt (N.goal w') < (fun v => if v = N.goal w' then R.cnt v + 1 else R.cnt v) (N.goal w') := by dsimp only; rw [if_pos rfl]; omega
    obtain ⟨pe, epe, hpe⟩ := id pe11
    cases epe
    have hixn : atI ((List.range ((fun v => if v = N.goal w' then R.cnt v + 1 else R.cnt v) (N.goal w'))).map fun c => V.ref (A1 (.hC (N.goal w') c))) (-1) = some (.ref (A1 (.hC (N.goal w') (R.cnt (N.goal w'))))) := by
      dsimp only
      rw [if_pos rfl, rm_s]
      exact atI_last _ _
    have hqn : H11 (A1 (.hC (N.goal w') (R.cnt (N.goal w')))) = some (.lst (q.map V.int)) := by
      rw [ea1, ← hH11, upd_ne (fun z => by have := P10.a_hM hg; rw [← z] at this; exact ne_of_none (P9.a_hM hg) hDn z.symm)]
      exact hq
    have gh := P11.g_hrd
    rw [ad1] at gh
    refine ⟨_, rfl, e, _, _, _, rfl, rfl, SqT.of hpe, atI_nat (j := 1) rfl, _, rfl, A' .d, _, rfl, gh, _, rfl, A1 .hrd, _, _, _, rfl, rfl, SqL.of P11.a_hrd, atI_nat (rm_get hg), _, rfl, A1 (.hM (N.goal w')), _, _, _, rfl, rfl, SqL.of (P11.a_hM hg), hixn, _, rfl, _, _, _, N.goal w', rfl, rfl, hqn, Evl.ixN_nat (by rw [lrm lq]; exact hg), ?_⟩
    rw [← List.map_set]
    obtain ⟨G2, P12, F12⟩ := P11.hset hg hcl (r := q.set (N.goal w') ((R.cnt (N.goal w') + 1 : Nat) : Int)) (by rw [List.length_set]; exact lq) (bq.set (by omega) (by show _ ≤ ((if N.goal w' = N.goal w' then R.cnt (N.goal w') + 1 else R.cnt (N.goal w') : Nat) : Int); rw [if_pos rfl]; exact Int.le_refl _))
    have U12 := U11.trans (Up.fr1 F12)
    have pe12 := pe11.tk F12.tk
    have nD2 : ¬ Lf (LT.ok N R.cnt fun v => if v = N.goal w' then R.cnt v + 1 else R.cnt v) A1 D2 := notD (by rw [(t48.trans s89) _ _ hD24]; intro z; cases z) fD2
    have nsn : ¬ Lf (LT.ok N R.cnt fun v => if v = N.goal w' then R.cnt v + 1 else R.cnt v) A1 sn := notD (by rw [(t48.trans s89) _ _ W.hs]; intro z; cases z) fsn
    have nwd : ¬ Lf (LT.ok N R.cnt fun v => if v = N.goal w' then R.cnt v + 1 else R.cnt v) A1 wd := notD (by rw [(t48.trans s89) _ _ W.hw]; intro z; cases z) fwd
    have t4A : Same H4 H10 := t48.trans (s89.trans s910)
    have kA : ∀ {b : Addr} {o : HO}, H4 b = some o → H b = none → H11 b = some o := fun {b o} h1 h2 => F11.at (t4A _ _ h1) (notS h2)
    have hD2B := F12.at (kA hD24 fD2) nD2
    have hsnB := F12.at (kA W.hs fsn) nsn
    have hwdB := F12.at (kA W.hw fwd) nwd
    have tB : Tk H4 (upd H11 (A1 (.hC (N.goal w') (R.cnt (N.goal w')))) (.lst ((q.set (N.goal w') ((R.cnt (N.goal w') + 1 : Nat) : Int)).map V.int))) := tk4.trans (F11.tk.trans F12.tk)
    clear pe11 hpe hqn hixn P11 F11 U11 hH11
    have ehn : (fun v => if v = N.goal w' then R.cnt v + 1 else R.cnt v) = (R.pick N w' n).cnt := funext fun v => (pick_cnt v).symm
    generalize (fun v => if v = N.goal w' then R.cnt v + 1 else R.cnt v) = hn1 at *
    generalize upd H11 (A1 (.hC (N.goal w') (R.cnt (N.goal w')))) (.lst ((q.set (N.goal w') ((R.cnt (N.goal w') + 1 : Nat) : Int)).map V.int)) = H12 at *
    clear F12
    have hws := W.st.tk tB
    have hps := W.ps.cimp fun _ _ z => IsPr.tk z tB
    -- the worker
    have gd : ∀ {H : Hp} {G : LT → HO} {R : Run} {hn : Nat → Nat} {f : Str} {o : Option V}, LRunAt H (.ref pn) A1 G N R hn → DGet H (A1 .d) (.str f) o → DGet H (A' .d) (.str f) o := fun _ h => by rw [← ad1]; exact h
    obtain ⟨ks, hks, pks⟩ := P12.a_k hw
    have lks := pks.length
    refine ⟨_, rfl, _, rfl, A' .d, _, rfl, gd P12 P12.g_wk, _, rfl, A1 .wk, _, _, _, rfl, rfl, SqL.of P12.a_wk, atI_nat (rm_get hw), _, rfl, A1 (.k w'), _, rfl, DPut.k (k := .inl (n : Int)) hks (line' (by omega)), ?_⟩
    obtain ⟨G3, P13, F13⟩ := P12.workd hw (n := n) pe12 hm.hno hks
    have U13 := U12.trans (Up.fr1 F13)
    have pe13 := pe12.tk F13.tk
    -- the state
    obtain ⟨st3, hst3, pst3⟩ := P13.a_tM hg
    have lst3 := pst3.length
    refine ⟨_, rfl, A' .d, _, rfl, gd P13 P13.g_sts, _, rfl, A1 .sts, _, _, .ref (A1 (.tM (N.goal w'))), rfl, rfl, SqL.of P13.a_sts, atI_nat (rm_get hg), .inl ⟨rfl, _, SqL.of hst3⟩, _, rfl, A1 (.tM (N.goal w')), st3, _, rfl, rfl, hst3, line' (by rw [lst3]; show (R.sts _).length < _; omega), ?_⟩
    obtain ⟨G4, P14, F14⟩ := P13.statd hg (hws.tk F13.tk) hst3
    have U14 := U13.trans (Up.fr1 F14)
    have pe14 := pe13.tk F14.tk
    have hD2D := F14.at (F13.at hD2B nD2) nD2
    have hsnD := F14.at (F13.at hsnB nsn) nsn
    have hwdD := F14.at (F13.at hwdB nwd) nwd
    have hpsD := hps.cimp fun _ _ z => IsPr.tk z (F13.tk.trans F14.tk)
    generalize upd (upd H12 (A1 (.k w')) (.dK (putK ks (.inl (n : Int)) (.ref e)))) (A1 (.tM (N.goal w'))) (.lst (st3 ++ [sv'])) = H14 at *
    -- the words
    have hoM := P14.a_oM hg
    have hixo : atI ((List.range (R.cnt (N.goal w') + 1)).map fun c => V.ref (A1 (.oC (N.goal w') c))) (-1) = some (.ref (A1 (.oC (N.goal w') (R.cnt (N.goal w'))))) := by rw [rm_s]; exact atI_last _ _
    have hoC := P14.a_oC (c := R.cnt (N.goal w')) hg (Nat.le_refl _)
    have dl12 := D.wl
    have d12 := (hN.mch hg).d12
    have fl := flat_len (l := R.wds (N.goal w')) (hR.dl _)
    have flc : (R.wds (N.goal w')).length = R.cnt (N.goal w') := rfl
    have ecum : (((R.wds (N.goal w')).take (R.cnt (N.goal w'))).flatten.map V.int) ++ (R.done N w' n).words.map V.int = ((R.wds (N.goal w')).flatten ++ (R.done N w' n).words).map V.int := by
      rw [List.take_of_length_le (Nat.le_of_eq flc), List.map_append]
    refine ⟨_, rfl, A' .d, _, rfl, gd P14 P14.g_wds, _, rfl, A1 .wds, _, _, .ref (A1 (.oM (N.goal w'))), rfl, rfl, SqL.of P14.a_wds, atI_nat (rm_get hg), .inl ⟨rfl, _, SqL.of hoM⟩, ?_⟩
    refine ⟨_, rfl, A' .d, _, rfl, gd P14 P14.g_wds, _, rfl, A1 .wds, _, _, _, rfl, rfl, SqL.of P14.a_wds, atI_nat (rm_get hg), _, rfl, A1 (.oM (N.goal w')), _, _, _, rfl, rfl, SqL.of hoM, hixo, _, rfl, A1 (.oC (N.goal w') (R.cnt (N.goal w'))), wd, _, _, rfl, rfl, hoC, hwdD, ?_, fun x hx => ?_⟩
    · rw [← List.length_append]
      show (((R.wds (N.goal w')).take (R.cnt (N.goal w'))).flatten.map V.int ++ (R.done N w' n).words.map V.int).length ≤ _
      rw [ecum, List.length_map, List.length_append]
      exact line (by omega)
    have s15 := Same.new_ (o := .lst (((R.wds (N.goal w')).flatten ++ (R.done N w' n).words).map V.int)) hx
    have gx : upd H14 x (.lst (((((R.workd w' n (N.goal w', R.cnt (N.goal w') + 1)).statd (N.goal w') ((R.done N w' n).nu, (R.done N w' n).row)).wds (N.goal w')).take (R.cnt (N.goal w'))).flatten.map V.int ++ (R.done N w' n).words.map V.int)) = upd H14 x (.lst (((R.wds (N.goal w')).flatten ++ (R.done N w' n).words).map V.int)) := congrArg (fun z => upd H14 x (.lst z)) ecum
    rw [gx]
    have P14' := P14.keep s15
    have nx : ∀ y, LT.ok N R.cnt hn1 y → A1 y ≠ x := fun y hy => ne_of_none (P14.lay.at_ y hy) hx
    refine ⟨A1 (.oM (N.goal w')), _, _, rfl, rfl, P14'.a_oM hg, line' (by rw [rm_len]; show R.cnt (N.goal w') + 1 < _; omega), ?_⟩
    obtain ⟨A2, G5, ka2, ea2, in2, P15, F15⟩ := P14'.wordd hg (s := (R.done N w' n).words) (x := x) upd_same nx
    have U15 : Up S H _ _ := U14.trans (S'' := Lf (LT.ok N (((R.workd w' n (N.goal w', R.cnt (N.goal w') + 1)).statd (N.goal w') ((R.done N w' n).nu, (R.done N w' n).row)).wordd (N.goal w') (R.done N w' n).words).cnt hn1) A2) ⟨(Fr.of s15).trans F15, fun b hb => by
      rcases in2 b hb with z | z
      · exact .inl z
      · exact .inr (by rw [z]; exact hx)⟩
    have ad2 : A2 .d = A' .d := (ka2 .d trivial).trans ad1
    have notE : ∀ {b : Addr}, H14 b ≠ none → ¬ Lf (LT.ok N R.cnt hn1) A1 b → ¬ Lf (LT.ok N (((R.workd w' n (N.goal w', R.cnt (N.goal w') + 1)).statd (N.goal w') ((R.done N w' n).nu, (R.done N w' n).row)).wordd (N.goal w') (R.done N w' n).words).cnt hn1) A2 b := fun {b} h1 h2 hb => by
      rcases in2 b hb with z | z
      · exact h2 z
      · rw [z] at h1; exact h1 hx
    have mD2 := notE (by rw [hD2D]; intro z; cases z) nD2
    have msn := notE (by rw [hsnD]; intro z; cases z) nsn
    have pe15 := (pe14.tk (Same.tk_ s15)).tk F15.tk
    have hD2E := F15.at (s15 _ _ hD2D) nD2
    have hsnE := F15.at (s15 _ _ hsnD) nsn
    have hpsE := hpsD.cimp fun _ _ z => IsPr.tk z ((Same.tk_ s15).trans F15.tk)
    generalize upd (upd H14 x (.lst (((R.wds (N.goal w')).flatten ++ (R.done N w' n).words).map V.int))) (A1 (.oM (N.goal w'))) _ = H15 at *
    have gd2 : ∀ {H : Hp} {f : Str} {o : Option V}, DGet H (A2 .d) (.str f) o → DGet H (A' .d) (.str f) o := fun h => by rw [← ad2]; exact h
    -- the pick
    obtain ⟨evl, hevl, pevl⟩ := P15.a_evs
    have levl : evl.length = R.evs.length := pevl.length
    refine ⟨_, rfl, A' .d, _, rfl, gd2 P15.g_evs, .inl ⟨rfl, _, SqL.of hevl⟩, _, rfl, _, rfl, line (by show 2 ≤ 16777216; decide), fun pk hpk => ?_⟩
    have s16 := Same.new_ (o := .tup [.int (w' : Nat), .int (n : Nat)]) hpk
    refine ⟨A2 .evs, evl, _, rfl, rfl, s16 _ _ hevl, line' (by omega), ?_⟩
    obtain ⟨G6, P17, F17⟩ := (P15.keep s16).evd (e := (w', n)) (ev := .ref pk) ⟨pk, rfl, upd_same⟩ (s16 _ _ hevl)
    rw [← pick0_eq] at P17
    have U17 := U15.trans (Up.fr1 ((Fr.of s16).trans F17))
    have pe17 := (pe15.tk (Same.tk_ s16)).tk F17.tk
    have hD2F := F17.at (s16 _ _ hD2E) mD2
    have hsnF := F17.at (s16 _ _ hsnE) msn
    have hpsF := hpsE.cimp fun _ _ z => IsPr.tk z ((Same.tk_ s16).trans F17.tk)
    generalize upd (upd H15 pk (.tup [.int (w' : Nat), .int (n : Nat)])) (A2 .evs) (.lst (evl ++ [.ref pk])) = H17 at *
    -- the letters
    have lus := hpsF.length
    have sl12 := D.sl
    have scnt : ∀ l, ((R.pick0 N w' n).sends (N.outs (N.goal w')) (some (N.goal w', R.cnt (N.goal w') + 1)) l).cnt = (R.pick0 N w' n).cnt := fun l => by rw [sends_at]; rfl
    refine ⟨_, rfl, sn, rfl, ⟨_, SqL.of hsnF⟩, ?_⟩
    refine for_it (n := us.length) walk_list (fun i σ H' => (∃ v10 v11 v12 v13 v14, σ = [some (.ref (A' .d)), some (.int (w' : Nat)), some (.int (n : Nat)), some (.int (N.goal w' : Nat)), some (.int (N.place w' : Nat)), some (.ref D2), some (.ref e), some sv', some (.ref sn), some (.ref wd), v10, v11, v12, v13, v14, none, none, none, none]) ∧ Fr (Lf (LT.ok N (R.pick0 N w' n).cnt hn1) A2) H17 H' ∧
        ∃ G', LRunAt H' (.ref pn) A2 G' N ((R.pick0 N w' n).sends (N.outs (N.goal w')) (some (N.goal w', R.cnt (N.goal w') + 1)) ((R.done N w' n).sent.take i)) hn1) ⟨⟨_, _, _, _, _, rfl⟩, Fr.refl, G6, P17⟩ (fun i σ H' _ P => SqL.of (P.2.1.at hsnF msn)) ?_ ?_
    · rintro i y σ H18 H18' hi ⟨⟨v10, v11, v12, v13, v14, rfl⟩, F18, G18, P18⟩ ⟨rfl, hy⟩
      obtain ⟨⟨j, x⟩, hj, hjx⟩ := hpsF.cget hy
      obtain ⟨pj, rfl, hpj⟩ := hjx.tk F18.tk
      have hD2G := F18.at hD2F mD2
      have pe18 := pe17.tk F18.tk
      refine ⟨pj, _, rfl, SqT.of hpj, rfl, _, _, rfl, _, _, rfl, rfl, ?_⟩
      refine ⟨_, rfl, _, rfl, D2, _, rfl, .inl (SqL.of hD2G), _, _, rfl, rfl, _, rfl, ite2D (fun hj2 => ?_) (fun hj2 => ?_)⟩
      · rw [List.length_map] at hj2
        have hj3 : j < (N.outs (N.goal w')).length := by omega
        have ew : (N.outs (N.goal w'))[j]? = some (N.outs (N.goal w'))[j] := List.getElem?_eq_getElem hj3
        generalize (N.outs (N.goal w'))[j] = w2 at ew
        have hw2 : w2 < N.ws.length := by
          have := List.mem_of_getElem? ew
          unfold Nt.outs at this
          exact List.mem_range.mp (List.mem_filter.mp this).1
        have hxo : atI ((N.outs (N.goal w')).map vN) ((j : Nat) : Int) = some (vN w2) := atI_nat (by rw [List.getElem?_map, ew]; rfl)
        have pl2 := hR.pl w2
        have ps2 := hR.ps w2
        have eR := sends_at (R := R.pick0 N w' n) (outs := N.outs (N.goal w')) (e := some (N.goal w', R.cnt (N.goal w') + 1)) ((R.done N w' n).sent.take i)
        have hsl2 := @sends_len (N.outs (N.goal w')) ((R.done N w' n).sent.take i) w2
        rw [List.length_take] at hsl2
        have len : (((R.pick0 N w' n).sends (N.outs (N.goal w')) (some (N.goal w', R.cnt (N.goal w') + 1)) ((R.done N w' n).sent.take i)).put w2).length < 16777216 := by
          rw [eR]
          show (R.put w2 ++ _).length < _
          rw [List.length_append]
          omega
        have len2 : (((R.pick0 N w' n).sends (N.outs (N.goal w')) (some (N.goal w', R.cnt (N.goal w') + 1)) ((R.done N w' n).sent.take i)).snd w2).length < 16777216 := by
          rw [eR]
          show (R.snd w2 ++ _).length < _
          rw [List.length_append, List.length_map]
          omega
        refine ⟨_, rfl, A' .d, _, rfl, gd2 P18.g_put, _, rfl, _, rfl, D2, _, _, _, rfl, rfl, SqL.of hD2G, hxo, A2 .put, _, _, .ref (A2 (.p w2)), rfl, rfl, SqL.of P18.a_put, atI_nat (rm_get hw2), .inl ⟨rfl, _, SqL.of (P18.a_p hw2)⟩, _, rfl, A2 (.p w2), _, _, rfl, rfl, P18.a_p hw2, line' (by rw [List.length_map]; exact len), ?_⟩
        obtain ⟨G19, P19, F19⟩ := P18.put1 hw2 (x := x)
        obtain ⟨ss, hss, pss⟩ := P19.a_s hw2
        have lss := pss.length
        have hD2H := F19.at hD2G (by
          rintro ⟨z, hz, e⟩
          rw [scnt] at hz
          exact mD2 ⟨z, hz, e⟩)
        refine ⟨_, rfl, A' .d, _, rfl, gd2 P19.g_snd, _, rfl, _, rfl, D2, _, _, _, rfl, rfl, SqL.of hD2H, hxo, A2 .snd, _, _, .ref (A2 (.s w2)), rfl, rfl, SqL.of P19.a_snd, atI_nat (rm_get hw2), .inl ⟨rfl, _, SqL.of hss⟩, _, rfl, A2 (.s w2), _, _, rfl, rfl, hss, line' (by rw [lss]; exact len2), ?_⟩
        obtain ⟨G20, P20, F20⟩ := P19.snd1 hw2 (e := some (N.goal w', R.cnt (N.goal w') + 1)) (ev := .ref e) (show IsPk _ _ _ from pe18.tk F19.tk) hss
        have mono : ∀ b, Lf (LT.ok N ((R.pick0 N w' n).sends (N.outs (N.goal w')) (some (N.goal w', R.cnt (N.goal w') + 1)) ((R.done N w' n).sent.take i)).cnt hn1) A2 b → Lf (LT.ok N (R.pick0 N w' n).cnt hn1) A2 b := fun b hb => by rw [scnt] at hb; exact hb
        refine ⟨⟨_, _, _, _, _, rfl⟩, F18.trans ((F19.mono mono).trans (F20.mono mono)), G20, ?_⟩
        rw [take_more hj, Run.sends_snoc]
        unfold Run.sendS
        rw [ew]
        exact P20
      · rw [List.length_map] at hj2
        refine ⟨⟨_, _, _, _, _, rfl⟩, F18, G18, ?_⟩
        rw [take_more hj, Run.sends_snoc]
        unfold Run.sendS
        rw [List.getElem?_eq_none (by show (N.outs (N.goal w')).length ≤ j; omega)]
        exact P18
    · rintro σ H18 ⟨⟨v10, v11, v12, v13, v14, rfl⟩, F18, G18, P18⟩
      rw [lus, List.take_length, pick_sends] at P18
      have U18 : Up S H H18 (Lf (LT.ok N (R.pick0 N w' n).cnt hn1) A2) := U17.trans (Up.fr1 F18)
      have U19 : Up S H H18 (Lf (LT.ok N (R.pick N w' n).cnt (R.pick N w' n).cnt) A2) := by
        rw [ehn] at U18
        exact U18
      exact ⟨_, rfl, kq H18 (Lf (LT.ok N (R.pick N w' n).cnt (R.pick N w' n).cnt) A2) (.ref e) ⟨U19.fr.same s0 nw, U19.fresh s0 nw, .ref pn, A2, G18, by rw [ad2], Z0, by rw [← ehn]; exact P18, fun b => Iff.rfl⟩ U19⟩
end Cr
namespace Cr
open PySem PySem.Spec PyProof.Rows L2 He
theorem sc_Lran : FnScope ["_law_net_here", "_law_cells", "_law_run", "_law_cell", "_law_free_here", "_law_way", "_law_number"] ["_law_net_here", "_law_cells"] (defScope s_Lran) := ⟨rfl, rfl, rfl, by decide +kernel, rfl, by decide +kernel, by decide +kernel⟩
def sp_Lran (K : PySem.W.Frag) : Sp := fun vs H Q _ => ∃ (nv : V) (l : Addr) (N : Nt) (cs : List Int), vs = [nv, .ref l] ∧ IsLNet H nv N ∧ N.ok ∧ H l = some (.lst (cs.map V.int)) ∧ cs.length ≤ 1000 ∧ ∀ H' v R S, LRun H H' v N R S → Ply N R → R.evs.length ≤ cs.length → Q v H'
theorem ok_Lran {P : Program} {w : World} {K : PySem.W.Frag} {mg : Str → Option Value} {base : Heap} (T : Txt K mg) : Cal P w K mg base 4 "_law_ran" (sp_Lran K) := by
  have G_Lbegun := ok_Lbegun (P := P) (w := w) (base := base) T
  have G_Lfree := ok_Lfree (P := P) (w := w) (base := base) T
  have G_Lpick := ok_Lpick (P := P) (w := w) (base := base) T
  refine Cal.mk0 T.g_Lran T.D_Lran sc_Lran (fun _ _ _ _ _ _ us hl => match us, hl with | [_, _], _ => rfl) (fun vs H Q E h => ?_) (fun cdv A outer s H vs Q E hr h => ?_)
  · obtain ⟨nv, l, N, cs, rfl, _⟩ := h
    rfl
  · obtain ⟨nv, l, N, cs, rfl, Z, hN, hl, hcs, k⟩ := h
    refine ⟨_, (pss_cons (ps_set (i := 2) sc_Lran.nd rfl (Or.inl rfl) (pe_c G_Lbegun hr (by decide) (by rfl) (pa_cons (pv 0) pa_nil)))
      (pss_cons (ps_for PassesOwn.never rfl (pi_list (pv 1)) (pg_name (i := 3) sc_Lran.nd rfl (Or.inl rfl)) (pss_cons (ps_set (i := 4) sc_Lran.nd rfl (Or.inl rfl) (pe_c G_Lfree hr (by decide) (by rfl) (pa_cons (pv 2) pa_nil)))
      (pss_one (ps_if (pt_cmpR (op_neD hr.units) (pv 4) (pe_lst pa_nil) (nomark _)) (pss_cons (ps_asg (pe_ix ix_list (pv 4) (pe_op op_mod (pv 3) (pe_callB call_len_seq (by rfl) T.f_len (by decide +kernel) (pa_cons (pv 4) pa_nil))) (fun _ _ => rfl)) (pg_tup rfl (pgs_cons (pg_name (i := 5) sc_Lran.nd rfl (Or.inl rfl)) (pgs_cons (pg_name (i := 6) sc_Lran.nd rfl (Or.inl rfl)) pgs_nil))))
      (pss_one (ps_expr (pe_c G_Lpick hr (by decide) (by rfl) (pa_cons (pv 2) (pa_cons (pv 5) (pa_cons (pv 6) pa_nil))))))) pss_nil))))
      (pss_one (ps_ret (pv 2))))), ?_⟩
    refine ⟨_, rfl, nv, N, rfl, Z, hN, fun H1 v S1 L1 _ => ?_⟩
    refine ⟨_, rfl, l, rfl, ⟨_, SqL.of (L1.s0 _ _ hl)⟩, ?_⟩
    refine for_it (n := (cs.map V.int).length) walk_list (fun i σ H' => (∃ v3 v4 v5 v6, σ = [some nv, some (.ref l), some v, v3, v4, v5, v6]) ∧ ∃ R S, LRun H H' v N R S ∧ Ply N R ∧ R.evs.length ≤ i) ⟨⟨_, _, _, _, rfl⟩, begun N, S1, L1, .nil, Nat.le_refl _⟩ (fun i σ H' _ P => SqL.of (by obtain ⟨_, _, _, L, _⟩ := P; exact L.s0 _ _ hl)) ?_ ?_
    · rintro i y σ H2 H2' hi ⟨⟨v3, v4, v5, v6, rfl⟩, R, S, L, hP, hev⟩ ⟨rfl, hy⟩
      rw [List.length_map] at hi
      obtain ⟨c, hc, rfl⟩ := ints_of_get hy
      obtain ⟨s0, nw, nv', A', G, rfl, Z0, P, hS⟩ := id L
      refine ⟨_, rfl, nv', A', G, N, R, _, rfl, P, Z0.keep s0, hN, hP.ok hN, by omega, fun H3 q us s3 nq hq hus => ?_⟩
      refine ⟨_, rfl, line (by show 0 ≤ 16777216; decide), fun q' hq' => ?_⟩
      have sq := Same.new_ (o := .lst []) hq'
      have hq2 := sq _ _ hq
      have hus2 := hus.cimp fun _ _ z => IsPk.tk z (Same.tk_ sq)
      have L3 := L.keep (s3.trans sq)
      refine ⟨psD (R.free N), psD [], dp_pks hq2 hus2, dp_pks upd_same .nil, (sh_psD _).ok (by decide), (sh_psD _).ok (by decide), _, rfl, ?_⟩
      have mem : ∀ e ∈ R.free N, R.May N e.1 e.2 := fun e he => Run.mem_free.mp he
      generalize R.free N = fr at hus2 mem
      cases fr with
      | nil =>
        refine iteG (show (!PyData.eqv (psD []) (psD [])) = false by rw [eqv_nil]; rfl) ?_
        exact ⟨⟨_, _, _, _, rfl⟩, R, S, L3, hP, by omega⟩
      | cons e es =>
        refine iteE (show (!PyData.eqv (psD (e :: es)) (psD [])) = true by rw [eqv_cons]; rfl) ?_
        have lus := hus2.length
        have l0 : 0 < us.length := by rw [lus]; exact Nat.succ_pos _
        have c0 : 0 ≤ c % (us.length : Int) := Int.emod_nonneg _ (by omega)
        have c1 : c % (us.length : Int) < us.length := Int.emod_lt_of_pos _ (by omega)
        obtain ⟨j, ej⟩ : ∃ j : Nat, c % (us.length : Int) = j := ⟨(c % (us.length : Int)).toNat, by omega⟩
        have hj : j < us.length := by omega
        have ex : us[j]? = some us[j] := List.getElem?_eq_getElem hj
        obtain ⟨f, hf, hfp⟩ := hus2.cget ex
        obtain ⟨pf, epf, hpf⟩ := hfp
        have hat : atI us (c % (us.length : Int)) = some (.ref pf) := by rw [ej, ← epf]; exact atI_nat ex
        refine ⟨_, rfl, _, rfl, _, rfl, q, _, rfl, .inl (SqL.of hq2), _, _, rfl, rfl, by omega, q, _, _, _, rfl, rfl, SqL.of hq2, hat, pf, _, rfl, SqT.of hpf, rfl, _, _, rfl, _, _, rfl, rfl, ?_⟩
        refine ⟨_, rfl, _, rfl, _, rfl, .ref (A' .d), f.1, f.2, H, N, R, S, rfl, L3, hN, hP, mem f (List.mem_of_getElem? hf), by omega, fun H4 S4 ev L4 U4 => ?_⟩
        exact ⟨⟨_, _, _, _, rfl⟩, R.pick N f.1 f.2, S4, L4, .pick hP (mem f (List.mem_of_getElem? hf)), by show (R.evs ++ [_]).length ≤ i + 1; rw [List.length_append]; show R.evs.length + 1 ≤ i + 1; omega⟩
    · rintro σ H2 ⟨⟨v3, v4, v5, v6, rfl⟩, R, S, L, hP, hev⟩
      rw [List.length_map] at hev
      exact ⟨_, rfl, k H2 v R S L hP hev⟩
end Cr
namespace Cr
open PySem PySem.Spec PyProof.Rows L2 He
theorem sc_is_whole : FnScope ["thing"] ["thing"] (defScope s_is_whole) := ⟨rfl, rfl, rfl, by decide +kernel, rfl, by decide +kernel, by decide +kernel⟩
def sp_is_whole (K : PySem.W.Frag) : Sp := fun vs H Q _ => ∃ n : Int, vs = [.int n] ∧ Q (.bl true) H
theorem ok_is_whole {P : Program} {w : World} {K : PySem.W.Frag} {mg : Str → Option Value} {base : Heap} (T : Txt K mg) : Cal P w K mg base 1 "is_whole" (sp_is_whole K) := by
  refine Cal.mk0 T.g_is_whole T.D_is_whole sc_is_whole (fun _ _ _ _ _ _ us hl => match us, hl with | [_], _ => rfl) (fun vs H Q E h => ?_) (fun cdv A outer s H vs Q E hr h => ?_)
  · obtain ⟨n, rfl, _⟩ := h
    rfl
  · obtain ⟨n, rfl, k⟩ := h
    refine ⟨_, (pss_one (ps_ret (pe_and (pe_callB call_isi (by rfl) T.f_isinstance (by decide +kernel) (pa_cons (pv 0) (pa_cons (pe_bltn (v := .ty "int") (by rfl) T.f_int (by decide +kernel) rfl) pa_nil))) (pe_one (pe_not (pe_callB call_isi (by rfl) T.f_isinstance (by decide +kernel) (pa_cons (pv 0) (pa_cons (pe_bltn (v := .ty "bool") (by rfl) T.f_bool (by decide +kernel) rfl) pa_nil)))))))), ?_⟩
    refine ⟨_, rfl, _, _, _, _, true, rfl, .ty _, .base (.int _), kit_ty (by decide +kernel), true, rfl, iteT ?_⟩
    refine ⟨_, rfl, _, _, _, _, false, rfl, .ty _, .base (.int _), kit_ty (by decide +kernel), false, rfl, ?_⟩
    exact k
end Cr
namespace Cr
open PySem PySem.Spec PyProof.Rows L2 He
theorem sc_is_place : FnScope ["thing", "many"] ["thing", "many"] (defScope s_is_place) := ⟨rfl, rfl, rfl, by decide +kernel, rfl, by decide +kernel, by decide +kernel⟩
def sp_is_place (K : PySem.W.Frag) : Sp := fun vs H Q _ => ∃ n m : Int, vs = [.int n, .int m] ∧ 0 ≤ n ∧ n < m ∧ Q (.bl true) H
theorem ok_is_place {P : Program} {w : World} {K : PySem.W.Frag} {mg : Str → Option Value} {base : Heap} (T : Txt K mg) : Cal P w K mg base 2 "is_place" (sp_is_place K) := by
  have G_is_whole := ok_is_whole (P := P) (w := w) (base := base) T
  refine Cal.mk0 T.g_is_place T.D_is_place sc_is_place (fun _ _ _ _ _ _ us hl => match us, hl with | [_, _], _ => rfl) (fun vs H Q E h => ?_) (fun cdv A outer s H vs Q E hr h => ?_)
  · obtain ⟨n, m, rfl, _⟩ := h
    rfl
  · obtain ⟨n, m, rfl, h0, h1, k⟩ := h
    refine ⟨_, (pss_one (ps_ret (pe_and (pe_c G_is_whole hr (by decide) (by rfl) (pa_cons (pv 0) pa_nil)) (pe_one (pe_chain op_le op_lt pe_int (pv 0) (pv 1)))))), ?_⟩
    refine ⟨_, rfl, n, rfl, true, rfl, iteT ?_⟩
    refine ⟨_, rfl, _, _, rfl, rfl, _, rfl, iteD h0 ?_⟩
    exact ⟨_, rfl, _, _, rfl, rfl, bl_true h1 k⟩
end Cr
namespace Cr
open PySem PySem.Spec PyProof.Rows L2 He
theorem sc_is_row : FnScope ["thing", "least", "most", "base", "one"] ["thing", "least", "most", "base"] (defScope s_is_row) := ⟨rfl, rfl, rfl, by decide +kernel, rfl, by decide +kernel, by decide +kernel⟩
def sp_is_row (K : PySem.W.Frag) : Sp := fun vs H Q _ => ∃ (a : Addr) (ns : List Int) (lo hi md : Int), vs = [.ref a, .int lo, .int hi, .int md] ∧ H a = some (.lst (ns.map V.int)) ∧ lo ≤ ns.length ∧ (ns.length : Int) ≤ hi ∧ hi ≤ 1000 ∧ (∀ x ∈ ns, 0 ≤ x ∧ x < md) ∧
  ∀ H', Same H H' → Q (.bl true) H'
theorem ok_is_row {P : Program} {w : World} {K : PySem.W.Frag} {mg : Str → Option Value} {base : Heap} (T : Txt K mg) : Cal P w K mg base 3 "is_row" (sp_is_row K) := by
  have G_is_place := ok_is_place (P := P) (w := w) (base := base) T
  refine Cal.mk0 T.g_is_row T.D_is_row sc_is_row (fun _ _ _ _ _ _ us hl => match us, hl with | [_, _, _, _], _ => rfl) (fun vs H Q E h => ?_) (fun cdv A outer s H vs Q E hr h => ?_)
  · obtain ⟨a, ns, lo, hi, md, rfl, _⟩ := h
    rfl
  · obtain ⟨a, ns, lo, hi, md, rfl, ha, h1, h2, h3, hb, k⟩ := h
    have hlen : ((ns.map V.int).length : Int) = (ns.length : Int) := by rw [List.length_map]
    refine ⟨_, (pss_cons (ps_if (PW.pt (pw_or (pt_not (pt_val (pe_callB call_isiT (by rfl) T.f_isinstance (by decide +kernel) (pa_cons (pv 0) (pa_cons (pe_tup (pa_cons (pe_bltn (v := .ty "list") (by rfl) T.f_list (by decide +kernel) rfl) (pa_cons (pe_bltn (v := .ty "tuple") (by rfl) T.f_tuple (by decide +kernel) rfl) pa_nil))) pa_nil))))) (pw_or1 (pt_not (pt_chain op_le op_le (pv 1) (pe_callB call_len_seq (by rfl) T.f_len (by decide +kernel) (pa_cons (pv 0) pa_nil)) (pv 2)))))) (pss_one (ps_ret pe_bl)) pss_nil)
      (pss_one (ps_ret (pe_callB (cr_all rfl) (by rfl) T.f_all (by decide +kernel) (pa_cons (pe_lc (own := [("one", 4)]) rfl sc_is_row.nd (pi_list (pv 0)) (blkOk_by (own := [("one", 4)]) (N := ["thing", "least", "most", "base", "one"]) (sc := defScope s_is_row) (by decide +kernel)) (fun _ _ _ _ _ => (pg_name (i := 4) sc_is_row.nd rfl (Or.inl rfl))) (fun _ _ _ _ _ => pts_nil) (fun _ _ _ _ _ => (pe_c G_is_place hr (by decide) (by rfl) (pa_cons (pv 4) (pa_cons (pv 3) pa_nil))))) pa_nil))))), ?_⟩
    refine ⟨_, rfl, by show 2 ≤ sizeLine; decide, fun q hq => ?_⟩
    have s1 := Same.new_ (o := .tup [.ty "list", .ty "tuple"]) hq
    refine ⟨_, q, _, _, _, true, rfl, upd_same, .cons (.ty _) (.cons (.ty _) .nil), .base (.lst (s1 _ _ ha)), kitAny_cons (b := true) (kit_ty (by decide +kernel)) (fun z => nomatch z) (fun _ => rfl), true, rfl, iteF ?_⟩
    refine ⟨_, rfl, _, rfl, a, _, rfl, .inl (SqL.of (s1 _ _ ha)), _, _, rfl, rfl, _, rfl, iteD (by rw [hlen]; exact h1) ?_⟩
    refine ⟨_, rfl, _, _, rfl, rfl, _, rfl, iteNS (by rw [hlen]; exact h2) ?_⟩
    refine ⟨_, rfl, a, rfl, ⟨_, SqL.of (s1 _ _ ha)⟩, fun D hD => ?_⟩
    have s2 := s1.trans (Same.new_ (o := .lst []) hD)
    have hDa : a ≠ D := ne_of_none (s1 _ _ ha) hD
    refine lc_it (n := (ns.map V.int).length) walk_list (fun i H' => H' D = some (.lst (List.replicate i (V.bl true))) ∧ ∀ b o, H b = some o → H' b = some o) ⟨upd_same, s2⟩ (fun i H' _ P => SqL.of (P.2 _ _ ha)) ?_ ?_
    · rintro i x H1 H2 hi' ⟨P1, P2⟩ ⟨rfl, hx⟩
      obtain ⟨z, hz, rfl⟩ := ints_of_get hx
      obtain ⟨z0, z1⟩ := hb z (List.mem_of_getElem? hz)
      rw [List.length_map] at hi'
      refine ⟨rfl, ?_⟩
      refine ⟨_, rfl, _, rfl, z, md, rfl, z0, z1, _, P1, line' (by rw [List.length_replicate]; omega), ?_, fun b o e => ?_⟩
      · rw [upd_same, List.replicate_succ']
      · rw [upd_ne (by rintro rfl; exact absurd e (by rw [s1.free hD]; simp))]
        exact P2 b o e
    · rintro H' ⟨P1, P2⟩
      refine ⟨D, List.replicate (ns.map V.int).length true, rfl, SqL.of ?_, ?_⟩
      · rw [P1, List.map_replicate]
      · refine bl_e ?_ (k H' P2)
        rw [List.all_eq_true]
        intro b hb'
        exact (List.mem_replicate.mp hb').2
end Cr
namespace Cr
open PySem PySem.Spec PyProof.Rows L2 He
theorem sc_is_value : FnScope ["thing", "many"] ["thing", "many"] (defScope s_is_value) := ⟨rfl, rfl, rfl, by decide +kernel, rfl, by decide +kernel, by decide +kernel⟩
def sp_is_value (K : PySem.W.Frag) : Sp := fun vs H Q _ => ∃ (v : V) (x : Vl) (many : Nat), vs = [v, .int many] ∧ IsVl H v x ∧ x.ok many ∧ ∀ H', Same H H' → Q (.bl true) H'
theorem ok_is_value {P : Program} {w : World} {K : PySem.W.Frag} {mg : Str → Option Value} {base : Heap} (T : Txt K mg) : Cal P w K mg base 3 "is_value" (sp_is_value K) := by
  have G_is_whole := ok_is_whole (P := P) (w := w) (base := base) T
  have G_is_place := ok_is_place (P := P) (w := w) (base := base) T
  refine Cal.mk0 T.g_is_value T.D_is_value sc_is_value (fun _ _ _ _ _ _ us hl => match us, hl with | [_, _], _ => rfl) (fun vs H Q E h => ?_) (fun cdv A outer s H vs Q E hr h => ?_)
  · obtain ⟨v, x, m, rfl, _⟩ := h
    rfl
  · obtain ⟨v, x, m, rfl, hx, hok, k⟩ := h
    have hP : ∀ H, SqT K H (ga K "PLAIN") [.str "letter", .str "way", .str "first"] := fun H => tupB_ok (T.x 0) H
    obtain ⟨p, xs, rfl, hp, hl⟩ : ∃ p xs, v = .ref p ∧ H p = some (.tup xs) ∧ (xs.length = 0) = False := by
      cases x <;> (obtain ⟨p, e, hp⟩ := hx; exact ⟨p, _, e, hp, by simp⟩)
    have nl : ¬ V.int ((xs.length : Nat) : Int) = V.int 0 := by
      intro e
      have := V.int.inj e
      rw [← hl]; omega
    refine ⟨_, (pss_cons (ps_if (PW.pt (pw_or (pt_not (pt_val (pe_callB call_isi (by rfl) T.f_isinstance (by decide +kernel) (pa_cons (pv 0) (pa_cons (pe_bltn (v := .ty "tuple") (by rfl) T.f_tuple (by decide +kernel) rfl) pa_nil))))) (pw_or1 (pt_cmpR op_eq (pe_callB call_len_seq (by rfl) T.f_len (by decide +kernel) (pa_cons (pv 0) pa_nil)) pe_int (nomark _))))) (pss_one (ps_ret pe_bl)) pss_nil)
      (pss_cons (ps_if (pt_cmpR op_eq (pe_callB call_len_seq (by rfl) T.f_len (by decide +kernel) (pa_cons (pv 0) pa_nil)) pe_int (nomark _)) (pss_one (ps_ret (pe_cmpR op_in_seq (pe_ix ix_tup (pv 0) pe_int (fun _ _ => rfl)) (pe_glob (v := .ref (ga K "PLAIN")) (by rfl) T.g_PLAIN rfl) (by rfl)))) pss_nil)
      (pss_cons (ps_if (PW.pt (pw_or (pt_cmpR op_gt (pe_callB call_len_seq (by rfl) T.f_len (by decide +kernel) (pa_cons (pv 0) pa_nil)) pe_int (nomark _)) (pw_or1 (pt_cmpR op_notIn_seq (pe_ix ix_tup (pv 0) pe_int (fun _ _ => rfl)) (pe_tup (pa_cons pe_str (pa_cons pe_str pa_nil))) (by rfl))))) (pss_one (ps_ret pe_bl)) pss_nil)
      (pss_cons (ps_if (pt_cmpR op_eq (pe_ix ix_tup (pv 0) pe_int (fun _ _ => rfl)) pe_str (nomark _)) (pss_one (ps_ret (pe_c G_is_whole hr (by decide) (by rfl) (pa_cons (pe_ix ix_tup (pv 0) pe_int (fun _ _ => rfl)) pa_nil)))) pss_nil)
      (pss_one (ps_ret (pe_c G_is_place hr (by decide) (by rfl) (pa_cons (pe_ix ix_tup (pv 0) pe_int (fun _ _ => rfl)) (pa_cons (pv 1) pa_nil))))))))), ?_⟩
    refine ⟨_, rfl, _, _, _, _, true, rfl, .ty _, .base (.tup hp), kit_ty (by decide +kernel), true, rfl, iteF ?_⟩
    refine ⟨_, rfl, p, _, rfl, .inr (SqT.of hp), rfl, _, rfl, iteN nl ?_⟩
    cases x with
    | letter => 
      obtain ⟨p', ev, hp'⟩ := hx; cases ev; rw [hp] at hp'; cases hp'
      refine ⟨_, rfl, p, _, rfl, .inr (SqT.of hp), rfl, _, rfl, iteD (by simp) ?_⟩
      refine ⟨_, rfl, p, _, _, _, rfl, rfl, SqT.of hp, atI_nat (j := 0) rfl, _, _, rfl, .inr (hP _), rfl, rfl, ?_⟩
      exact bl_e (by decide +kernel) (k H (Same.refl _))
    | way => 
      obtain ⟨p', ev, hp'⟩ := hx; cases ev; rw [hp] at hp'; cases hp'
      refine ⟨_, rfl, p, _, rfl, .inr (SqT.of hp), rfl, _, rfl, iteD (by simp) ?_⟩
      refine ⟨_, rfl, p, _, _, _, rfl, rfl, SqT.of hp, atI_nat (j := 0) rfl, _, _, rfl, .inr (hP _), rfl, rfl, ?_⟩
      exact bl_e (by decide +kernel) (k H (Same.refl _))
    | first => 
      obtain ⟨p', ev, hp'⟩ := hx; cases ev; rw [hp] at hp'; cases hp'
      refine ⟨_, rfl, p, _, rfl, .inr (SqT.of hp), rfl, _, rfl, iteD (by simp) ?_⟩
      refine ⟨_, rfl, p, _, _, _, rfl, rfl, SqT.of hp, atI_nat (j := 0) rfl, _, _, rfl, .inr (hP _), rfl, rfl, ?_⟩
      exact bl_e (by decide +kernel) (k H (Same.refl _))
    | is c =>
      obtain ⟨p', ev, hp'⟩ := hx; cases ev; rw [hp] at hp'; cases hp'
      refine ⟨_, rfl, p, _, rfl, .inr (SqT.of hp), rfl, _, rfl, iteN (by simp) ?_⟩
      refine ⟨_, rfl, p, _, rfl, .inr (SqT.of hp), _, _, rfl, rfl, _, rfl, iteN (by simp) ?_⟩
      refine ⟨_, rfl, p, _, _, _, rfl, rfl, SqT.of hp, atI_nat (j := 0) rfl, by show 2 ≤ sizeLine; decide, fun q hq => ?_⟩
      have s1 := Same.new_ (o := .tup [.str "is", .str "number"]) hq
      refine ⟨q, _, rfl, .inr (SqT.of upd_same), rfl, rfl, _, rfl, iteG (by decide +kernel) ?_⟩
      refine ⟨_, rfl, p, _, _, _, rfl, rfl, SqT.of (s1 _ _ hp), atI_nat (j := 0) rfl, rfl, _, rfl, iteD rfl ?_⟩
      refine ⟨_, rfl, p, _, _, _, rfl, rfl, SqT.of (s1 _ _ hp), atI_nat (j := 1) rfl, c, rfl, ?_⟩
      exact k _ s1
    | num i =>
      obtain ⟨p', ev, hp'⟩ := hx; cases ev; rw [hp] at hp'; cases hp'
      have hi : i < m := hok
      refine ⟨_, rfl, p, _, rfl, .inr (SqT.of hp), rfl, _, rfl, iteN (by simp) ?_⟩
      refine ⟨_, rfl, p, _, rfl, .inr (SqT.of hp), _, _, rfl, rfl, _, rfl, iteN (by simp) ?_⟩
      refine ⟨_, rfl, p, _, _, _, rfl, rfl, SqT.of hp, atI_nat (j := 0) rfl, by show 2 ≤ sizeLine; decide, fun q hq => ?_⟩
      have s1 := Same.new_ (o := .tup [.str "is", .str "number"]) hq
      refine ⟨q, _, rfl, .inr (SqT.of upd_same), rfl, rfl, _, rfl, iteG (by decide +kernel) ?_⟩
      refine ⟨_, rfl, p, _, _, _, rfl, rfl, SqT.of (s1 _ _ hp), atI_nat (j := 0) rfl, rfl, _, rfl, iteN (by decide +kernel) ?_⟩
      refine ⟨_, rfl, p, _, _, _, rfl, rfl, SqT.of (s1 _ _ hp), atI_nat (j := 1) rfl, _, rfl, _, _, rfl, by omega, by omega, ?_⟩
      exact k _ s1
end Cr
namespace Cr
open PySem PySem.Spec PyProof.Rows L2 He
theorem sc_is_deed : FnScope ["thing", "many", "word"] ["thing", "many"] (defScope s_is_deed) := ⟨rfl, rfl, rfl, by decide +kernel, rfl, by decide +kernel, by decide +kernel⟩
def sp_is_deed (K : PySem.W.Frag) : Sp := fun vs H Q _ => ∃ (v : V) (x : Dd) (many : Nat), vs = [v, .int many] ∧ IsDd H v x ∧ x.ok many ∧ ∀ H', Same H H' → Q (.bl true) H'
theorem ok_is_deed {P : Program} {w : World} {K : PySem.W.Frag} {mg : Str → Option Value} {base : Heap} (T : Txt K mg) : Cal P w K mg base 4 "is_deed" (sp_is_deed K) := by
  have G_is_value := ok_is_value (P := P) (w := w) (base := base) T
  have G_is_place := ok_is_place (P := P) (w := w) (base := base) T
  have G_is_whole := ok_is_whole (P := P) (w := w) (base := base) T
  obtain ⟨tk_MOST_SKIPPED, hm_MOST_SKIPPED⟩ := T.i_MOST_SKIPPED
  refine Cal.mk0 T.g_is_deed T.D_is_deed sc_is_deed (fun _ _ _ _ _ _ us hl => match us, hl with | [_, _], _ => rfl) (fun vs H Q E h => ?_) (fun cdv A outer s H vs Q E hr h => ?_)
  · obtain ⟨v, x, m, rfl, _⟩ := h
    rfl
  · obtain ⟨v, x, m, rfl, hx, hok, k⟩ := h
    obtain ⟨p, z, xs, rfl, hp⟩ : ∃ p z xs, v = .ref p ∧ H p = some (.tup (.str z :: xs)) := by
      cases x with
      | drop => obtain ⟨p, e, hp⟩ := hx; exact ⟨p, _, _, e, hp⟩
      | skip => obtain ⟨p, u, u', e, hp, _⟩ := hx; exact ⟨p, _, _, e, hp⟩
      | _ => obtain ⟨p, u, e, hp, _⟩ := hx; exact ⟨p, _, _, e, hp⟩
    refine ⟨_, (pss_cons (ps_if (PW.pt (pw_or (pt_not (pt_val (pe_callB call_isi (by rfl) T.f_isinstance (by decide +kernel) (pa_cons (pv 0) (pa_cons (pe_bltn (v := .ty "tuple") (by rfl) T.f_tuple (by decide +kernel) rfl) pa_nil))))) (pw_or1 (pt_cmpR op_eq (pe_callB call_len_seq (by rfl) T.f_len (by decide +kernel) (pa_cons (pv 0) pa_nil)) pe_int (nomark _))))) (pss_one (ps_ret pe_bl)) pss_nil)
      (pss_cons (ps_set (i := 2) sc_is_deed.nd rfl (Or.inl rfl) (pe_ix ix_tup (pv 0) pe_int (fun _ _ => rfl)))
      (pss_cons (ps_if (pt_cmpR op_in_seq (pv 2) (pe_tup (pa_cons pe_str (pa_cons pe_str (pa_cons pe_str pa_nil)))) (by rfl)) (pss_one (ps_ret (pe_and (pe_cmpR op_eq (pe_callB call_len_seq (by rfl) T.f_len (by decide +kernel) (pa_cons (pv 0) pa_nil)) pe_int (nomark _)) (pe_and (pe_c G_is_place hr (by decide) (by rfl) (pa_cons (pe_ix ix_tup (pv 0) pe_int (fun _ _ => rfl)) (pa_cons (pv 1) pa_nil))) (pe_one (pe_c G_is_value hr (by decide) (by rfl) (pa_cons (pe_ix ix_tup (pv 0) pe_int (fun _ _ => rfl)) (pa_cons (pv 1) pa_nil)))))))) pss_nil)
      (pss_cons (ps_if (pt_cmpR op_eq (pv 2) pe_str (nomark _)) (pss_one (ps_ret (pe_and (pe_cmpR op_eq (pe_callB call_len_seq (by rfl) T.f_len (by decide +kernel) (pa_cons (pv 0) pa_nil)) pe_int (nomark _)) (pe_and (pe_c G_is_whole hr (by decide) (by rfl) (pa_cons (pe_ix ix_tup (pv 0) pe_int (fun _ _ => rfl)) pa_nil)) (pe_and (pe_cmpR op_ge (pe_ix ix_tup (pv 0) pe_int (fun _ _ => rfl)) pe_int (nomark _)) (pe_one (pe_c G_is_value hr (by decide) (by rfl) (pa_cons (pe_ix ix_tup (pv 0) pe_int (fun _ _ => rfl)) (pa_cons (pv 1) pa_nil))))))))) pss_nil)
      (pss_cons (ps_if (pt_cmpR op_in_seq (pv 2) (pe_tup (pa_cons pe_str (pa_cons pe_str pa_nil))) (by rfl)) (pss_one (ps_ret (pe_and (pe_cmpR op_eq (pe_callB call_len_seq (by rfl) T.f_len (by decide +kernel) (pa_cons (pv 0) pa_nil)) pe_int (nomark _)) (pe_one (pe_c G_is_value hr (by decide) (by rfl) (pa_cons (pe_ix ix_tup (pv 0) pe_int (fun _ _ => rfl)) (pa_cons (pv 1) pa_nil))))))) pss_nil)
      (pss_cons (ps_if (pt_cmpR op_eq (pv 2) pe_str (nomark _)) (pss_cons (ps_if (PW.pt (pw_or (pt_cmpR op_ne (pe_callB call_len_seq (by rfl) T.f_len (by decide +kernel) (pa_cons (pv 0) pa_nil)) pe_int (nomark _)) (pw_or (pt_not (pt_val (pe_c G_is_value hr (by decide) (by rfl) (pa_cons (pe_ix ix_tup (pv 0) pe_int (fun _ _ => rfl)) (pa_cons (pv 1) pa_nil))))) (pw_or1 (pt_not (pt_val (pe_c G_is_value hr (by decide) (by rfl) (pa_cons (pe_ix ix_tup (pv 0) pe_int (fun _ _ => rfl)) (pa_cons (pv 1) pa_nil))))))))) (pss_one (ps_ret pe_bl)) pss_nil)
      (pss_one (ps_ret (pe_and (pe_c G_is_whole hr (by decide) (by rfl) (pa_cons (pe_ix ix_tup (pv 0) pe_int (fun _ _ => rfl)) pa_nil)) (pe_one (pe_chain op_le op_le pe_int (pe_ix ix_tup (pv 0) pe_int (fun _ _ => rfl)) (pe_glob (v := .int 24) (by rfl) hm_MOST_SKIPPED ⟨_, rfl⟩))))))) pss_nil)
      (pss_one (ps_ret (pe_and (pe_cmpR op_eq (pv 2) pe_str (nomark _)) (pe_one (pe_cmpR op_eq (pe_callB call_len_seq (by rfl) T.f_len (by decide +kernel) (pa_cons (pv 0) pa_nil)) pe_int (nomark _)))))))))))), ?_⟩
    refine ⟨_, rfl, _, _, _, _, true, rfl, .ty _, .base (.tup hp), kit_ty (by decide +kernel), true, rfl, iteF ?_⟩
    refine ⟨_, rfl, p, _, rfl, .inr (SqT.of hp), rfl, _, rfl, iteN (by simp; omega) ?_⟩
    refine ⟨_, rfl, p, _, _, _, rfl, rfl, SqT.of hp, atI_nat (j := 0) rfl, ?_⟩
    refine ⟨_, rfl, by show 3 ≤ sizeLine; decide, fun q1 hq1 => ?_⟩
    have s1 := Same.new_ (o := .tup [.str "set", .str "add", .str "times"]) hq1
    refine ⟨q1, _, rfl, .inr (SqT.of upd_same), rfl, rfl, _, rfl, ?_⟩
    cases x with
    | set i x =>
      obtain ⟨p', u, ev, hp', hu⟩ := hx; cases ev; rw [hp] at hp'; cases hp'
      refine iteE (by decide +kernel) ?_
      refine ⟨_, rfl, p, _, rfl, .inr (SqT.of (s1 _ _ hp)), rfl, _, rfl, iteD (by simp) ?_⟩
      refine ⟨_, rfl, p, _, _, _, rfl, rfl, SqT.of (s1 _ _ hp), atI_nat (j := 1) rfl, _, rfl, _, _, rfl, by omega, by have := hok.1; omega, true, rfl, iteT ?_⟩
      exact ⟨_, rfl, p, _, _, _, rfl, rfl, SqT.of (s1 _ _ hp), atI_nat (j := 2) rfl, _, rfl, _, _, _, rfl, hu.tk (Same.tk_ s1), hok.2, fun H' s2 => k H' (s1.trans s2)⟩
    | add i x =>
      obtain ⟨p', u, ev, hp', hu⟩ := hx; cases ev; rw [hp] at hp'; cases hp'
      refine iteE (by decide +kernel) ?_
      refine ⟨_, rfl, p, _, rfl, .inr (SqT.of (s1 _ _ hp)), rfl, _, rfl, iteD (by simp) ?_⟩
      refine ⟨_, rfl, p, _, _, _, rfl, rfl, SqT.of (s1 _ _ hp), atI_nat (j := 1) rfl, _, rfl, _, _, rfl, by omega, by have := hok.1; omega, true, rfl, iteT ?_⟩
      exact ⟨_, rfl, p, _, _, _, rfl, rfl, SqT.of (s1 _ _ hp), atI_nat (j := 2) rfl, _, rfl, _, _, _, rfl, hu.tk (Same.tk_ s1), hok.2, fun H' s2 => k H' (s1.trans s2)⟩
    | times i x =>
      obtain ⟨p', u, ev, hp', hu⟩ := hx; cases ev; rw [hp] at hp'; cases hp'
      refine iteE (by decide +kernel) ?_
      refine ⟨_, rfl, p, _, rfl, .inr (SqT.of (s1 _ _ hp)), rfl, _, rfl, iteD (by simp) ?_⟩
      refine ⟨_, rfl, p, _, _, _, rfl, rfl, SqT.of (s1 _ _ hp), atI_nat (j := 1) rfl, _, rfl, _, _, rfl, by omega, by have := hok.1; omega, true, rfl, iteT ?_⟩
      exact ⟨_, rfl, p, _, _, _, rfl, rfl, SqT.of (s1 _ _ hp), atI_nat (j := 2) rfl, _, rfl, _, _, _, rfl, hu.tk (Same.tk_ s1), hok.2, fun H' s2 => k H' (s1.trans s2)⟩
    | send j x =>
      obtain ⟨p', u, ev, hp', hu⟩ := hx; cases ev; rw [hp] at hp'; cases hp'
      refine iteG (by decide +kernel) ?_
      refine ⟨_, rfl, rfl, _, rfl, iteD rfl ?_⟩
      refine ⟨_, rfl, p, _, rfl, .inr (SqT.of (s1 _ _ hp)), rfl, _, rfl, iteD (by simp) ?_⟩
      refine ⟨_, rfl, p, _, _, _, rfl, rfl, SqT.of (s1 _ _ hp), atI_nat (j := 1) rfl, _, rfl, true, rfl, iteT ?_⟩
      refine ⟨_, rfl, p, _, _, _, rfl, rfl, SqT.of (s1 _ _ hp), atI_nat (j := 1) rfl, _, _, rfl, rfl, _, rfl, iteD (by omega) ?_⟩
      exact ⟨_, rfl, p, _, _, _, rfl, rfl, SqT.of (s1 _ _ hp), atI_nat (j := 2) rfl, _, rfl, _, _, _, rfl, hu.tk (Same.tk_ s1), hok, fun H' s2 => k H' (s1.trans s2)⟩
    | say x =>
      obtain ⟨p', u, ev, hp', hu⟩ := hx; cases ev; rw [hp] at hp'; cases hp'
      refine iteG (by decide +kernel) ?_
      refine ⟨_, rfl, rfl, _, rfl, iteN (by decide +kernel) ?_⟩
      refine ⟨_, rfl, by show 2 ≤ sizeLine; decide, fun q2 hq2 => ?_⟩
      have s2 := s1.trans (Same.new_ (o := .tup [.str "put", .str "say"]) hq2)
      refine ⟨q2, _, rfl, .inr (SqT.of upd_same), rfl, rfl, _, rfl, iteE (by decide +kernel) ?_⟩
      refine ⟨_, rfl, p, _, rfl, .inr (SqT.of (s2 _ _ hp)), rfl, _, rfl, iteD (by simp) ?_⟩
      exact ⟨_, rfl, p, _, _, _, rfl, rfl, SqT.of (s2 _ _ hp), atI_nat (j := 1) rfl, _, rfl, _, _, _, rfl, hu.tk (Same.tk_ s2), hok, fun H' s3 => k H' (s2.trans s3)⟩
    | put x =>
      obtain ⟨p', u, ev, hp', hu⟩ := hx; cases ev; rw [hp] at hp'; cases hp'
      refine iteG (by decide +kernel) ?_
      refine ⟨_, rfl, rfl, _, rfl, iteN (by decide +kernel) ?_⟩
      refine ⟨_, rfl, by show 2 ≤ sizeLine; decide, fun q2 hq2 => ?_⟩
      have s2 := s1.trans (Same.new_ (o := .tup [.str "put", .str "say"]) hq2)
      refine ⟨q2, _, rfl, .inr (SqT.of upd_same), rfl, rfl, _, rfl, iteE (by decide +kernel) ?_⟩
      refine ⟨_, rfl, p, _, rfl, .inr (SqT.of (s2 _ _ hp)), rfl, _, rfl, iteD (by simp) ?_⟩
      exact ⟨_, rfl, p, _, _, _, rfl, rfl, SqT.of (s2 _ _ hp), atI_nat (j := 1) rfl, _, rfl, _, _, _, rfl, hu.tk (Same.tk_ s2), hok, fun H' s3 => k H' (s2.trans s3)⟩
    | drop =>
      obtain ⟨p', ev, hp'⟩ := hx; cases ev; rw [hp] at hp'; cases hp'
      refine iteG (by decide +kernel) ?_
      refine ⟨_, rfl, rfl, _, rfl, iteN (by decide +kernel) ?_⟩
      refine ⟨_, rfl, by show 2 ≤ sizeLine; decide, fun q2 hq2 => ?_⟩
      have s2 := s1.trans (Same.new_ (o := .tup [.str "put", .str "say"]) hq2)
      refine ⟨q2, _, rfl, .inr (SqT.of upd_same), rfl, rfl, _, rfl, iteG (by decide +kernel) ?_⟩
      refine ⟨_, rfl, rfl, _, rfl, iteN (by decide +kernel) ?_⟩
      refine ⟨_, rfl, rfl, _, rfl, iteD rfl ?_⟩
      exact ⟨_, rfl, p, _, rfl, .inr (SqT.of (s2 _ _ hp)), rfl, bl_true (by simp) (k _ s2)⟩
    | skip x y n =>
      obtain ⟨p', u, u', ev, hp', hu, hu'⟩ := hx; cases ev; rw [hp] at hp'; cases hp'
      obtain ⟨o1, o2, o3, o4⟩ := hok
      refine iteG (by decide +kernel) ?_
      refine ⟨_, rfl, rfl, _, rfl, iteN (by decide +kernel) ?_⟩
      refine ⟨_, rfl, by show 2 ≤ sizeLine; decide, fun q2 hq2 => ?_⟩
      have s2 := s1.trans (Same.new_ (o := .tup [.str "put", .str "say"]) hq2)
      refine ⟨q2, _, rfl, .inr (SqT.of upd_same), rfl, rfl, _, rfl, iteG (by decide +kernel) ?_⟩
      refine ⟨_, rfl, rfl, _, rfl, iteD rfl ?_⟩
      refine ⟨_, rfl, p, _, rfl, .inr (SqT.of (s2 _ _ hp)), rfl, _, rfl, ?_⟩
      refine iteG (by simp) ?_
      refine ⟨_, rfl, p, _, _, _, rfl, rfl, SqT.of (s2 _ _ hp), atI_nat (j := 1) rfl, _, rfl, _, _, _, rfl, hu.tk (Same.tk_ s2), o1, fun H3 s3 => ?_⟩
      have s3 := s2.trans s3
      refine ⟨true, rfl, iteF ?_⟩
      refine ⟨_, rfl, p, _, _, _, rfl, rfl, SqT.of (s3 _ _ hp), atI_nat (j := 2) rfl, _, rfl, _, _, _, rfl, hu'.tk (Same.tk_ s3), o2, fun H4 s4 => ?_⟩
      have s4 := s3.trans s4
      refine ⟨true, rfl, iteF ?_⟩
      refine ⟨_, rfl, p, _, _, _, rfl, rfl, SqT.of (s4 _ _ hp), atI_nat (j := 3) rfl, _, rfl, true, rfl, iteT ?_⟩
      refine ⟨_, rfl, p, _, _, _, rfl, rfl, SqT.of (s4 _ _ hp), atI_nat (j := 3) rfl, _, _, rfl, rfl, _, rfl, iteD (by omega) ?_⟩
      exact ⟨_, _, rfl, rfl, bl_true (by omega) (k _ s4)⟩
end Cr
namespace Cr
open PySem PySem.Spec PyProof.Rows L2 He
theorem sc_check_deeds : FnScope ["told", "many", "at", "deed"] ["told", "many"] (defScope s_check_deeds) := ⟨rfl, rfl, rfl, by decide +kernel, rfl, by decide +kernel, by decide +kernel⟩
def sp_check_deeds (K : PySem.W.Frag) : Sp := fun vs H Q _ => ∃ (a : Addr) (xs : List V) (ds : List Dd) (m : Nat), vs = [.ref a, .int m] ∧ H a = some (.lst xs) ∧ Paired (IsDd H) xs ds ∧ ds.length ≤ 12 ∧ (∀ d ∈ ds, d.ok m) ∧ ∀ H', Same H H' → Q .non H'
theorem ok_check_deeds {P : Program} {w : World} {K : PySem.W.Frag} {mg : Str → Option Value} {base : Heap} (T : Txt K mg) : Cal P w K mg base 5 "check_deeds" (sp_check_deeds K) := by
  have G_is_deed := ok_is_deed (P := P) (w := w) (base := base) T
  obtain ⟨tk_MOST_DEEDS, hm_MOST_DEEDS⟩ := T.i_MOST_DEEDS
  refine Cal.mk0 T.g_check_deeds T.D_check_deeds sc_check_deeds (fun _ _ _ _ _ _ us hl => match us, hl with | [_, _], _ => rfl) (fun vs H Q E h => ?_) (fun cdv A outer s H vs Q E hr h => ?_)
  · obtain ⟨a, xs, ds, m, rfl, _⟩ := h
    rfl
  · obtain ⟨a, xs, ds, m, rfl, ha, hp, h1, hb, k⟩ := h
    have hlen := hp.length
    refine ⟨_, (pss_one (ps_for PassesOwn.never rfl (pi_enum (by rfl) T.f_enumerate (pa_cons (pv 0) pa_nil)) (pg_tup rfl (pgs_cons (pg_name (i := 2) sc_check_deeds.nd rfl (Or.inl rfl)) (pgs_cons (pg_name (i := 3) sc_check_deeds.nd rfl (Or.inl rfl)) pgs_nil))) (pss_one (ps_if (PW.pt (pw_or (pt_cmpR op_eq (pv 2) (pe_glob (v := .int 24) (by rfl) hm_MOST_DEEDS ⟨_, rfl⟩) (nomark _)) (pw_or1 (pt_not (pt_val (pe_c G_is_deed hr (by decide) (by rfl) (pa_cons (pv 3) (pa_cons (pv 1) pa_nil)))))))) (pss_one ps_never) pss_nil)))), ?_⟩
    refine ⟨_, rfl, a, _, rfl, SqL.of ha, ?_⟩
    refine for_it (walk_enum (xs := xs)) (fun i σ H' => ∃ v1 v2, σ = [some (.ref a), some (.int m), v1, v2] ∧ Same H H') ⟨_, _, rfl, Same.refl _⟩ (fun i σ H' _ P => SqL.of (by obtain ⟨_, _, _, s⟩ := P; exact s _ _ ha)) ?_ ?_
    · rintro i x σ H1 H2 hi ⟨v1, v2, rfl, s1⟩ ⟨t, x1, x2, rfl, ht, rfl, e1, e2⟩
      cases e1
      obtain ⟨d, hd, hdd⟩ := hp.cget e2
      have s2 := s1.trans (Same.new_ (o := .tup [.int (i : Nat), x2]) ht)
      refine ⟨t, _, rfl, SqT.of upd_same, rfl, _, _, rfl, _, _, rfl, rfl, ?_⟩
      refine ⟨_, rfl, rfl, _, rfl, iteN (by intro e; have := V.int.inj e; omega) ?_⟩
      refine ⟨_, rfl, _, rfl, _, d, m, rfl, hdd.tk (Same.tk_ s2), hb d (List.mem_of_getElem? hd), fun H3 s3 => ⟨true, rfl, iteF ?_⟩⟩
      exact ⟨_, _, rfl, s2.trans s3⟩
    · rintro σ H1 ⟨v1, v2, rfl, s1⟩
      exact k H1 s1
end Cr
namespace Cr
open PySem PySem.Spec PyProof.Rows L2 He
theorem sc_Machine_new : FnScope ["self", "modulus", "numbers", "row", "deeds"] ["self", "modulus", "numbers", "row", "deeds"] (defScope s_Machine_new) := ⟨rfl, rfl, rfl, by decide +kernel, rfl, by decide +kernel, by decide +kernel⟩
def sp_Machine_new (K : PySem.W.Frag) : Sp := fun vs H Q _ => ∃ (p dx a b d : Addr) (xs : List V) (M : Mch), vs = [.ref p, .int M.md, .ref a, .ref b, .ref d] ∧ H p = some (.ins (ga K "Machine") dx []) ∧ H a = some (.lst (M.ns.map V.int)) ∧ H b = some (.lst (M.row.map V.int)) ∧
  H d = some (.lst xs) ∧ Paired (IsDd H) xs M.ds ∧ M.ok ∧ ∀ H', Fr (· = p) H H' → IsPMchS (fun b => H b ≠ none) (ga K "Machine") H' (.ref p) M → Q .non H'
theorem ok_Machine_new {P : Program} {w : World} {K : PySem.W.Frag} {mg : Str → Option Value} {base : Heap} (T : Txt K mg) : Mak P w K mg base 6 "Machine" (ga K "Machine") (sp_Machine_new K) := by
  have G_is_whole := ok_is_whole (P := P) (w := w) (base := base) T
  have G_is_row := ok_is_row (P := P) (w := w) (base := base) T
  have G_check_deeds := ok_check_deeds (P := P) (w := w) (base := base) T
  obtain ⟨tk_GREATEST_MODULUS, hm_GREATEST_MODULUS⟩ := T.i_GREATEST_MODULUS
  obtain ⟨tk_LONGEST_ROW, hm_LONGEST_ROW⟩ := T.i_LONGEST_ROW
  obtain ⟨tk_MOST_NUMBERS, hm_MOST_NUMBERS⟩ := T.i_MOST_NUMBERS
  refine Mak.mk0 T.mk_Machine T.g_Machine T.D_Machine_new sc_Machine_new (fun _ _ _ _ _ _ us hl => match us, hl with | [_, _, _, _, _], _ => rfl) (fun vs H Q E h => ?_) (fun cdv A outer s H vs Q E hr h => ?_)
  · obtain ⟨p, dx, a, b, d, xs, M, rfl, _⟩ := h
    rfl
  · obtain ⟨p, dx, a, b, d, xs, M, rfl, hp, ha, hb, hd, hds, hM, k⟩ := h
    have h2 := hM.md2
    have h12 := hM.md12
    refine ⟨_, (pss_cons (ps_if (PW.pt (pw_or (pt_not (pt_val (pe_c G_is_whole hr (by decide) (by rfl) (pa_cons (pv 1) pa_nil)))) (pw_or1 (pt_not (pt_chain op_le op_le pe_int (pv 1) (pe_glob (v := .int 1000000000000) (by rfl) hm_GREATEST_MODULUS ⟨_, rfl⟩)))))) (pss_one ps_never) pss_nil)
      (pss_cons (ps_if (PW.pt (pw_or (pt_not (pt_val (pe_c G_is_row hr (by decide) (by rfl) (pa_cons (pv 2) (pa_cons pe_int (pa_cons (pe_glob (v := .int 4) (by rfl) hm_MOST_NUMBERS ⟨_, rfl⟩) (pa_cons (pv 1) pa_nil))))))) (pw_or1 (pt_not (pt_val (pe_c G_is_row hr (by decide) (by rfl) (pa_cons (pv 3) (pa_cons pe_int (pa_cons (pe_glob (v := .int 12) (by rfl) hm_LONGEST_ROW ⟨_, rfl⟩) (pa_cons (pv 1) pa_nil)))))))))) (pss_one ps_never) pss_nil)
      (pss_cons (ps_if (pt_not (pt_val (pe_callB call_isiT (by rfl) T.f_isinstance (by decide +kernel) (pa_cons (pv 4) (pa_cons (pe_tup (pa_cons (pe_bltn (v := .ty "list") (by rfl) T.f_list (by decide +kernel) rfl) (pa_cons (pe_bltn (v := .ty "tuple") (by rfl) T.f_tuple (by decide +kernel) rfl) pa_nil))) pa_nil))))) (pss_one ps_never) pss_nil)
      (pss_cons (ps_expr (pe_c G_check_deeds hr (by decide) (by rfl) (pa_cons (pv 4) (pa_cons (pe_callB call_len_seq (by rfl) T.f_len (by decide +kernel) (pa_cons (pv 2) pa_nil)) pa_nil))))
      (pss_cons (ps_fld (pv 0) (pv 1) rfl)
      (pss_cons (ps_fld (pv 0) (pe_tup (pa_cons (pe_callTy call_tuple_of (by rfl) T.f_tuple (by decide +kernel) (pa_cons (pv 2) pa_nil)) (pa_cons (pe_callTy call_tuple_of (by rfl) T.f_tuple (by decide +kernel) (pa_cons (pv 3) pa_nil)) pa_nil))) rfl)
      (pss_one (ps_fld (pv 0) (pe_callTy call_list_of (by rfl) T.f_list (by decide +kernel) (pa_cons (pv 4) pa_nil)) rfl)))))))), ?_⟩
    refine ⟨_, rfl, _, rfl, true, rfl, iteF ?_⟩
    refine ⟨_, rfl, _, _, rfl, rfl, _, rfl, iteD h2 ?_⟩
    refine ⟨_, _, rfl, rfl, _, rfl, iteNS (by omega) ?_⟩
    refine ⟨_, rfl, _, rfl, a, M.ns, _, _, _, rfl, ha, by have := hM.n1; omega, by have := hM.n4; omega, by omega, hM.nsb, fun H1 s1 => ⟨true, rfl, iteF ?_⟩⟩
    refine ⟨_, rfl, _, rfl, b, M.row, _, _, _, rfl, s1 _ _ hb, by omega, by have := hM.r12; omega, by omega, hM.rb, fun H2 s2 => ⟨true, rfl, iteF ?_⟩⟩
    have s2 := s1.trans s2
    refine ⟨_, rfl, by show 2 ≤ sizeLine; decide, fun q hq => ?_⟩
    have s3 := s2.trans (Same.new_ (o := .tup [.ty "list", .ty "tuple"]) hq)
    refine ⟨_, q, _, _, _, true, rfl, upd_same, .cons (.ty _) (.cons (.ty _) .nil), .base (.lst (s3 _ _ hd)), kitAny_cons (b := true) (kit_ty (by decide +kernel)) (fun z => nomatch z) (fun _ => rfl), true, rfl, iteF ?_⟩
    refine ⟨_, rfl, _, rfl, a, _, rfl, .inl (SqL.of (s3 _ _ ha)), d, xs, M.ds, M.ns.length, by rw [List.length_map]; rfl, s3 _ _ hd, hds.cimp fun _ _ z => z.tk (Same.tk_ s3), hM.d12, hM.ds, fun H4 s4 => ?_⟩
    have s4 := s3.trans s4
    refine ⟨_, rfl, ab_fld (s4 _ _ hp) T.c_Machine T.n_Machine_base (by show 0 < 1000; decide) fun H5 F5 p5 => ?_⟩
    replace F5 := (Fr.of s4).trans F5
    have npa : a ≠ p := (ne_of hp ha (by intro z; cases z)).symm
    have npb : b ≠ p := (ne_of hp hb (by intro z; cases z)).symm
    have npd : d ≠ p := (ne_of hp hd (by intro z; cases z)).symm
    refine ⟨_, rfl, a, _, rfl, .inl ⟨SqL.of (F5.at ha npa), fun a' na => ?_⟩⟩
    have s6 := Same.new_ (o := .tup (M.ns.map V.int)) na
    refine ⟨_, rfl, b, _, rfl, .inl ⟨SqL.of (s6 _ _ (F5.at hb npb)), fun b' nb => ?_⟩⟩
    have s7 := Same.new_ (o := .tup (M.row.map V.int)) nb
    refine ⟨by show 2 ≤ sizeLine; decide, fun t nt => ?_⟩
    have s8 := Same.new_ (o := .tup [.ref a', .ref b']) nt
    have s68 := (s6.trans s7).trans s8
    refine ab_fld (s68 _ _ p5) T.c_Machine T.n_Machine_begun (by show 1 < 1000; decide) fun H9 F9 p9 => ?_
    rw [putN ["base"] (by decide +kernel)] at p9
    have st9 : IsSta H9 (.ref t) (M.ns, M.row) := IsSta.tk ⟨t, a', b', rfl, upd_same, s8 _ _ (s7 _ _ upd_same), s8 _ _ upd_same⟩ F9.tk
    replace F9 := F5.trans ((Fr.of s68).trans F9)
    refine ⟨_, rfl, d, _, rfl, .inl (SqL.of (F9.at hd npd)), fun l nl => ?_⟩
    have s10 := Same.new_ (o := .lst xs) nl
    refine ab_fld (s10 _ _ p9) T.c_Machine T.n_Machine_todo (by show 2 < 1000; decide) fun H11 F11 p11 => ?_
    rw [putN ["base", "begun"] (by decide +kernel)] at p11
    have npl : l ≠ p := (ne_of_none p9 nl).symm
    have e11 := F11.at (upd_same (H := H9) (a := l) (o := .lst xs)) npl
    replace F11 := (Fr.of s10).trans F11
    exact k H11 (F9.trans F11) ⟨p, dx, t, l, xs, rfl, p11, st9.tk F11.tk, e11, hds.cimp fun _ _ z => z.tk (F9.trans F11).tk, fun z => z (F9.none nl npl)⟩
end Cr
namespace Cr
open PySem PySem.Spec PyProof.Rows L2 He
theorem sc_is_way : FnScope ["thing", "many"] ["thing", "many"] (defScope s_is_way) := ⟨rfl, rfl, rfl, by decide +kernel, rfl, by decide +kernel, by decide +kernel⟩
def sp_is_way (K : PySem.W.Frag) : Sp := fun vs H Q _ => ∃ (v : V) (x : Nat × Nat × Bool) (many : Nat), vs = [v, .int many] ∧ IsWay H v x ∧ x.1 < many ∧ x.2.1 < many ∧ ∀ H', Same H H' → Q (.bl true) H'
theorem ok_is_way {P : Program} {w : World} {K : PySem.W.Frag} {mg : Str → Option Value} {base : Heap} (T : Txt K mg) : Cal P w K mg base 2 "is_way" (sp_is_way K) := by
  have G_is_one_of := ok_is_one_of (P := P) (w := w) (base := base) T
  refine Cal.mk0 T.g_is_way T.D_is_way sc_is_way (fun _ _ _ _ _ _ us hl => match us, hl with | [_, _], _ => rfl) (fun vs H Q E h => ?_) (fun cdv A outer s H vs Q E hr h => ?_)
  · obtain ⟨v, x, m, rfl, _⟩ := h
    rfl
  · obtain ⟨v, x, m, rfl, ⟨p, rfl, hp⟩, h1, h2, k⟩ := h
    refine ⟨_, (pss_cons (ps_if (PW.pt (pw_or (pt_not (pt_val (pe_callB call_isi (by rfl) T.f_isinstance (by decide +kernel) (pa_cons (pv 0) (pa_cons (pe_bltn (v := .ty "tuple") (by rfl) T.f_tuple (by decide +kernel) rfl) pa_nil))))) (pw_or (pt_cmpR op_ne (pe_callB call_len_seq (by rfl) T.f_len (by decide +kernel) (pa_cons (pv 0) pa_nil)) pe_int (nomark _)) (pw_or1 (pt_not (pt_val (pe_callB call_isi (by rfl) T.f_isinstance (by decide +kernel) (pa_cons (pe_ix ix_tup (pv 0) pe_int (fun _ _ => rfl)) (pa_cons (pe_bltn (v := .ty "str") (by rfl) T.f_str (by decide +kernel) rfl) pa_nil))))))))) (pss_one (ps_ret pe_bl)) pss_nil)
      (pss_one (ps_ret (pe_and (pe_c G_is_one_of hr (by decide) (by rfl) (pa_cons (pe_ix ix_tup (pv 0) pe_int (fun _ _ => rfl)) (pa_cons (pv 1) pa_nil))) (pe_and (pe_c G_is_one_of hr (by decide) (by rfl) (pa_cons (pe_ix ix_tup (pv 0) pe_int (fun _ _ => rfl)) (pa_cons (pv 1) pa_nil))) (pe_one (pe_cmpR op_in_seq (pe_ix ix_tup (pv 0) pe_int (fun _ _ => rfl)) (pe_tup (pa_cons pe_str (pa_cons pe_str pa_nil))) (by rfl)))))))), ?_⟩
    refine ⟨_, rfl, _, _, _, _, true, rfl, .ty _, .base (.tup hp), kit_ty (by decide +kernel), true, rfl, iteF ?_⟩
    refine ⟨_, rfl, p, _, rfl, .inr (SqT.of hp), rfl, _, rfl, iteF ?_⟩
    refine ⟨_, rfl, p, _, _, _, rfl, rfl, SqT.of hp, atI_nat (j := 2) rfl, _, _, _, _, true, rfl, .ty _, .base (.str _), kit_ty (by decide +kernel), true, rfl, iteF ?_⟩
    refine ⟨_, rfl, p, _, _, _, rfl, rfl, SqT.of hp, atI_nat (j := 0) rfl, _, rfl, _, _, rfl, by omega, by omega, true, rfl, iteT ?_⟩
    refine ⟨_, rfl, p, _, _, _, rfl, rfl, SqT.of hp, atI_nat (j := 1) rfl, _, rfl, _, _, rfl, by omega, by omega, true, rfl, iteT ?_⟩
    refine ⟨_, rfl, p, _, _, _, rfl, rfl, SqT.of hp, atI_nat (j := 2) rfl, by show 2 ≤ sizeLine; decide, fun q hq => ?_⟩
    refine ⟨q, _, rfl, .inr (SqT.of upd_same), rfl, rfl, ?_⟩
    have e : inV (V.str (sortT x.2.2)) [.str "row", .str "heap"] = true := by
      unfold sortT
      cases x.2.2 <;> decide +kernel
    exact bl_e e (k _ (Same.new_ hq))
end Cr
namespace Cr
open PySem PySem.Spec PyProof.Rows L2 He
theorem sc_is_first_letter : FnScope ["thing", "many"] ["thing", "many"] (defScope s_is_first_letter) := ⟨rfl, rfl, rfl, by decide +kernel, rfl, by decide +kernel, by decide +kernel⟩
def sp_is_first_letter (K : PySem.W.Frag) : Sp := fun vs H Q _ => ∃ (v : V) (x : Nat × Int) (many : Nat), vs = [v, .int many] ∧ IsPr H v x ∧ x.1 < many ∧ 0 ≤ x.2 ∧ x.2 < 10 ^ 60 ∧ Q (.bl true) H
theorem ok_is_first_letter {P : Program} {w : World} {K : PySem.W.Frag} {mg : Str → Option Value} {base : Heap} (T : Txt K mg) : Cal P w K mg base 2 "is_first_letter" (sp_is_first_letter K) := by
  have G_is_one_of := ok_is_one_of (P := P) (w := w) (base := base) T
  obtain ⟨tk_FAR, hm_FAR⟩ := T.i_FAR
  refine Cal.mk0 T.g_is_first_letter T.D_is_first_letter sc_is_first_letter (fun _ _ _ _ _ _ us hl => match us, hl with | [_, _], _ => rfl) (fun vs H Q E h => ?_) (fun cdv A outer s H vs Q E hr h => ?_)
  · obtain ⟨v, x, m, rfl, _⟩ := h
    rfl
  · obtain ⟨v, x, m, rfl, ⟨p, rfl, hp⟩, h1, h2, h3, k⟩ := h
    refine ⟨_, (pss_cons (ps_if (PW.pt (pw_or (pt_not (pt_val (pe_callB call_isi (by rfl) T.f_isinstance (by decide +kernel) (pa_cons (pv 0) (pa_cons (pe_bltn (v := .ty "tuple") (by rfl) T.f_tuple (by decide +kernel) rfl) pa_nil))))) (pw_or (pt_cmpR op_ne (pe_callB call_len_seq (by rfl) T.f_len (by decide +kernel) (pa_cons (pv 0) pa_nil)) pe_int (nomark _)) (pw_or1 (pt_not (pt_val (pe_c G_is_one_of hr (by decide) (by rfl) (pa_cons (pe_ix ix_tup (pv 0) pe_int (fun _ _ => rfl)) (pa_cons (pv 1) pa_nil))))))))) (pss_one (ps_ret pe_bl)) pss_nil)
      (pss_one (ps_ret (pe_and (pe_callB call_isi (by rfl) T.f_isinstance (by decide +kernel) (pa_cons (pe_ix ix_tup (pv 0) pe_int (fun _ _ => rfl)) (pa_cons (pe_bltn (v := .ty "int") (by rfl) T.f_int (by decide +kernel) rfl) pa_nil))) (pe_and (pe_not (pe_callB call_isi (by rfl) T.f_isinstance (by decide +kernel) (pa_cons (pe_ix ix_tup (pv 0) pe_int (fun _ _ => rfl)) (pa_cons (pe_bltn (v := .ty "bool") (by rfl) T.f_bool (by decide +kernel) rfl) pa_nil)))) (pe_one (pe_chain op_lt op_lt (pe_un un_neg (pe_glob (v := .int 1000000000000000000000000000000000000000000000000000000000000) (by rfl) hm_FAR ⟨_, rfl⟩)) (pe_ix ix_tup (pv 0) pe_int (fun _ _ => rfl)) (pe_glob (v := .int 1000000000000000000000000000000000000000000000000000000000000) (by rfl) hm_FAR ⟨_, rfl⟩)))))))), ?_⟩
    refine ⟨_, rfl, _, _, _, _, true, rfl, .ty _, .base (.tup hp), kit_ty (by decide +kernel), true, rfl, iteF ?_⟩
    refine ⟨_, rfl, p, _, rfl, .inr (SqT.of hp), rfl, _, rfl, iteF ?_⟩
    refine ⟨_, rfl, p, _, _, _, rfl, rfl, SqT.of hp, atI_nat (j := 0) rfl, _, rfl, _, _, rfl, by omega, by omega, true, rfl, iteF ?_⟩
    refine ⟨_, rfl, p, _, _, _, rfl, rfl, SqT.of hp, atI_nat (j := 1) rfl, _, _, _, _, true, rfl, .ty _, .base (.int _), kit_ty (by decide +kernel), true, rfl, iteT ?_⟩
    refine ⟨_, rfl, p, _, _, _, rfl, rfl, SqT.of hp, atI_nat (j := 1) rfl, _, _, _, _, false, rfl, .ty _, .base (.int _), kit_ty (by decide +kernel), false, rfl, true, rfl, iteT ?_⟩
    refine ⟨_, rfl, _, rfl, p, _, _, _, rfl, rfl, SqT.of hp, atI_nat (j := 1) rfl, _, _, rfl, rfl, _, rfl, iteD (by omega) ?_⟩
    exact ⟨_, _, rfl, rfl, bl_true (by omega) k⟩
end Cr
namespace Cr
open PySem PySem.Spec PyProof.Rows L2 He
theorem sc_Net_new : FnScope ["self", "machines", "ways", "letters", "one"] ["self", "machines", "ways", "letters"] (defScope s_Net_new) := ⟨rfl, rfl, rfl, by decide +kernel, rfl, by decide +kernel, by decide +kernel⟩
def sp_Net_new (K : PySem.W.Frag) : Sp := fun vs H Q _ => ∃ (p dx a b c : Addr) (ms ws ls : List V) (N : Nt), vs = [.ref p, .ref a, .ref b, .ref c] ∧ H p = some (.ins (ga K "Net") dx []) ∧ H a = some (.lst ms) ∧ Paired (IsPMch (ga K "Machine") H) ms N.ms ∧
  H b = some (.lst ws) ∧ Paired (IsWay H) ws N.ws ∧ H c = some (.lst ls) ∧ Paired (IsPr H) ls N.ls ∧ N.ok ∧ ∀ H', Fr (· = p) H H' → IsPNet K H' (.ref p) N → Q .non H'
theorem ok_Net_new {P : Program} {w : World} {K : PySem.W.Frag} {mg : Str → Option Value} {base : Heap} (T : Txt K mg) : Mak P w K mg base 3 "Net" (ga K "Net") (sp_Net_new K) := by
  have G_is_way := ok_is_way (P := P) (w := w) (base := base) T
  have G_is_first_letter := ok_is_first_letter (P := P) (w := w) (base := base) T
  obtain ⟨tk_MOST_LETTERS, hm_MOST_LETTERS⟩ := T.i_MOST_LETTERS
  obtain ⟨tk_MOST_WAYS, hm_MOST_WAYS⟩ := T.i_MOST_WAYS
  obtain ⟨tk_MOST_MACHINES, hm_MOST_MACHINES⟩ := T.i_MOST_MACHINES
  refine Mak.mk0 T.mk_Net T.g_Net T.D_Net_new sc_Net_new (fun _ _ _ _ _ _ us hl => match us, hl with | [_, _, _, _], _ => rfl) (fun vs H Q E h => ?_) (fun cdv A outer s H vs Q E hr h => ?_)
  · obtain ⟨p, dx, a, b, c, ms, ws, ls, N, rfl, _⟩ := h
    rfl
  · obtain ⟨p, dx, a, b, c, ms, ws, ls, N, rfl, hp, ha, hms, hb, hws, hc, hls, hN, k⟩ := h
    have lm := hms.length
    have lw := hws.length
    have ll := hls.length
    have m1 := hN.m1
    have m5 := hN.m5
    have w10 := hN.w10
    have l12 := hN.l12
    refine ⟨_, (pss_cons (ps_if (PW.pt (pw_or (pt_not (pt_chain op_le op_le pe_int (pe_callB call_len_seq (by rfl) T.f_len (by decide +kernel) (pa_cons (pv 1) pa_nil)) (pe_glob (v := .int 5) (by rfl) hm_MOST_MACHINES ⟨_, rfl⟩))) (pw_or (pt_cmpR op_gt (pe_callB call_len_seq (by rfl) T.f_len (by decide +kernel) (pa_cons (pv 2) pa_nil)) (pe_glob (v := .int 10) (by rfl) hm_MOST_WAYS ⟨_, rfl⟩) (nomark _)) (pw_or1 (pt_cmpR op_gt (pe_callB call_len_seq (by rfl) T.f_len (by decide +kernel) (pa_cons (pv 3) pa_nil)) (pe_glob (v := .int 20) (by rfl) hm_MOST_LETTERS ⟨_, rfl⟩) (nomark _)))))) (pss_one ps_never) pss_nil)
      (pss_cons (ps_if (pt_not (pt_val (pe_callB (cr_all rfl) (by rfl) T.f_all (by decide +kernel) (pa_cons (pe_lc (own := [("one", 4)]) rfl sc_Net_new.nd (pi_list (pv 1)) (blkOk_by (own := [("one", 4)]) (N := ["self", "machines", "ways", "letters", "one"]) (sc := defScope s_Net_new) (by decide +kernel)) (fun _ _ _ _ _ => (pg_name (i := 4) sc_Net_new.nd rfl (Or.inl rfl))) (fun _ _ _ _ _ => pts_nil) (fun _ _ _ _ _ => (pe_callB (call_isiK' (K := K) rfl) (by rfl) T.f_isinstance (by decide +kernel) (pa_cons (pv 4) (pa_cons (pe_glob (v := .ref (ga K "Machine")) (by rfl) T.g_Machine rfl) pa_nil))))) pa_nil)))) (pss_one ps_never) pss_nil)
      (pss_cons (ps_if (pt_not (pt_val (pe_callB (cr_all rfl) (by rfl) T.f_all (by decide +kernel) (pa_cons (pe_lc (own := [("one", 4)]) rfl sc_Net_new.nd (pi_list (pv 2)) (blkOk_by (own := [("one", 4)]) (N := ["self", "machines", "ways", "letters", "one"]) (sc := defScope s_Net_new) (by decide +kernel)) (fun _ _ _ _ _ => (pg_name (i := 4) sc_Net_new.nd rfl (Or.inl rfl))) (fun _ _ _ _ _ => pts_nil) (fun _ _ _ _ _ => (pe_c G_is_way hr (by decide) (by rfl) (pa_cons (pv 4) (pa_cons (pe_callB (call_lenK (K := K) rfl) (by rfl) T.f_len (by decide +kernel) (pa_cons (pv 1) pa_nil)) pa_nil))))) pa_nil)))) (pss_one ps_never) pss_nil)
      (pss_cons (ps_if (pt_not (pt_val (pe_callB (cr_all rfl) (by rfl) T.f_all (by decide +kernel) (pa_cons (pe_lc (own := [("one", 4)]) rfl sc_Net_new.nd (pi_list (pv 3)) (blkOk_by (own := [("one", 4)]) (N := ["self", "machines", "ways", "letters", "one"]) (sc := defScope s_Net_new) (by decide +kernel)) (fun _ _ _ _ _ => (pg_name (i := 4) sc_Net_new.nd rfl (Or.inl rfl))) (fun _ _ _ _ _ => pts_nil) (fun _ _ _ _ _ => (pe_c G_is_first_letter hr (by decide) (by rfl) (pa_cons (pv 4) (pa_cons (pe_callB (call_lenK (K := K) rfl) (by rfl) T.f_len (by decide +kernel) (pa_cons (pv 2) pa_nil)) pa_nil))))) pa_nil)))) (pss_one ps_never) pss_nil)
      (pss_cons (ps_fld (pv 0) (pe_callTy call_tuple_of (by rfl) T.f_tuple (by decide +kernel) (pa_cons (pv 1) pa_nil)) rfl)
      (pss_cons (ps_fld (pv 0) (pe_callTy call_tuple_of (by rfl) T.f_tuple (by decide +kernel) (pa_cons (pv 2) pa_nil)) rfl)
      (pss_one (ps_fld (pv 0) (pe_callTy call_tuple_of (by rfl) T.f_tuple (by decide +kernel) (pa_cons (pv 3) pa_nil)) rfl)))))))), ?_⟩
    refine ⟨_, rfl, a, _, rfl, .inl (SqL.of ha), _, _, rfl, rfl, _, rfl, iteD (by omega) ?_⟩
    refine ⟨_, _, rfl, rfl, _, rfl, iteNS (by omega) ?_⟩
    refine ⟨_, rfl, b, _, rfl, .inl (SqL.of hb), _, _, rfl, rfl, _, rfl, iteN (by omega) ?_⟩
    refine ⟨_, rfl, c, _, rfl, .inl (SqL.of hc), _, _, rfl, rfl, _, rfl, iteN (by omega) ?_⟩
    refine ⟨_, rfl, a, rfl, ⟨_, SqL.of ha⟩, fun D hD => ?_⟩
    refine lc_it (n := ms.length) walk_list (fun i H' => H' D = some (.lst (List.replicate i (V.bl true))) ∧ Same H H') ⟨upd_same, Same.new_ hD⟩ (fun i H' _ P => SqL.of (P.2 _ _ ha)) ?_ ?_
    · rintro i x H1 H2 hi ⟨P1, P2⟩ ⟨rfl, hx⟩
      obtain ⟨M, hM, q⟩ := hms.cget hx
      obtain ⟨p', dx', b', t', ds', rfl, hp', _⟩ := q.keep P2
      refine ⟨rfl, ?_⟩
      exact ⟨_, rfl, _, .ref (ga K "Machine"), .ref (ga K "Machine"), .ref (ga K "Machine"), true, rfl, .own _, T.isMa hp', kit_self, _, P1, line' (by rw [List.length_replicate]; omega), by rw [upd_same, List.replicate_succ'], P2.putN hD⟩
    rintro H1 ⟨P1, s1⟩
    refine ⟨D, List.replicate ms.length true, rfl, SqL.of (by rw [P1, List.map_replicate]), ?_⟩
    rw [all_rep]
    refine ⟨true, rfl, iteF ?_⟩
    refine ⟨_, rfl, b, rfl, ⟨_, SqL.of (s1 _ _ hb)⟩, fun D hD => ?_⟩
    refine lc_it (n := ws.length) walk_list (fun i H' => H' D = some (.lst (List.replicate i (V.bl true))) ∧ Same H1 H') ⟨upd_same, Same.new_ hD⟩ (fun i H' _ P => SqL.of (P.2 _ _ (s1 _ _ hb))) ?_ ?_
    · rintro i x H2 H3 hi ⟨P1, P2⟩ ⟨rfl, hx⟩
      obtain ⟨y, hy, q⟩ := hws.cget hx
      have h2 := hN.ws y (List.mem_of_getElem? hy)
      refine ⟨rfl, ?_⟩
      refine ⟨_, rfl, _, rfl, a, _, rfl, .inl (SqL.of (P2 _ _ (s1 _ _ ha))), x, y, N.ms.length, by rw [lm]; rfl, q.tk (Same.tk_ (s1.trans P2)), h2.1, h2.2, fun H4 s4 => ?_⟩
      exact ⟨_, s4 _ _ P1, line' (by rw [List.length_replicate]; omega), by rw [upd_same, List.replicate_succ'], (P2.trans s4).putN hD⟩
    rintro H2 ⟨P1, s2⟩
    refine ⟨D, List.replicate ws.length true, rfl, SqL.of (by rw [P1, List.map_replicate]), ?_⟩
    rw [all_rep]
    refine ⟨true, rfl, iteF ?_⟩
    replace s2 := s1.trans s2
    refine ⟨_, rfl, c, rfl, ⟨_, SqL.of (s2 _ _ hc)⟩, fun D hD => ?_⟩
    refine lc_it (n := ls.length) walk_list (fun i H' => H' D = some (.lst (List.replicate i (V.bl true))) ∧ Same H2 H') ⟨upd_same, Same.new_ hD⟩ (fun i H' _ P => SqL.of (P.2 _ _ (s2 _ _ hc))) ?_ ?_
    · rintro i x H3 H4 hi ⟨P1, P2⟩ ⟨rfl, hx⟩
      obtain ⟨y, hy, q⟩ := hls.cget hx
      have h2 := hN.ls y (List.mem_of_getElem? hy)
      refine ⟨rfl, ?_⟩
      refine ⟨_, rfl, _, rfl, b, _, rfl, .inl (SqL.of (P2 _ _ (s2 _ _ hb))), x, y, N.ws.length, by rw [lw]; rfl, q.tk (Same.tk_ (s2.trans P2)), h2.1, h2.2.1, h2.2.2, ?_⟩
      exact ⟨_, P1, line' (by rw [List.length_replicate]; omega), by rw [upd_same, List.replicate_succ'], P2.putN hD⟩
    rintro H3 ⟨P1, s3⟩
    refine ⟨D, List.replicate ls.length true, rfl, SqL.of (by rw [P1, List.map_replicate]), ?_⟩
    rw [all_rep]
    refine ⟨true, rfl, iteF ?_⟩
    replace s3 := s2.trans s3
    refine ⟨_, rfl, a, _, rfl, .inl ⟨SqL.of (s3 _ _ ha), fun a' na => ?_⟩⟩
    have s4 := s3.trans (Same.new_ (o := .tup ms) na)
    refine ab_fld (s4 _ _ hp) T.c_Net T.n_Net_workers (by show 0 < 1000; decide) fun H5 F5 p5 => ?_
    have ea := F5.tk _ _ (upd_same (H := H3) (a := a') (o := .tup ms))
    replace F5 := (Fr.of s4).trans F5
    have npa : a ≠ p := (ne_of hp ha (by intro z; cases z)).symm
    have npb : b ≠ p := (ne_of hp hb (by intro z; cases z)).symm
    have npc : c ≠ p := (ne_of hp hc (by intro z; cases z)).symm
    refine ⟨_, rfl, b, _, rfl, .inl ⟨SqL.of (F5.at hb npb), fun b' nb => ?_⟩⟩
    have s6 := Same.new_ (o := .tup ws) nb
    refine ab_fld (s6 _ _ p5) T.c_Net T.n_Net_joints (by show 1 < 1000; decide) fun H7 F7 p7 => ?_
    rw [putN ["workers"] (by decide +kernel)] at p7
    have eb := F7.tk _ _ (upd_same (H := H5) (a := b') (o := .tup ws))
    have ea2 := F7.tk _ _ (s6 _ _ ea)
    replace F7 := F5.trans ((Fr.of s6).trans F7)
    refine ⟨_, rfl, c, _, rfl, .inl ⟨SqL.of (F7.at hc npc), fun c' nc => ?_⟩⟩
    have s8 := Same.new_ (o := .tup ls) nc
    refine ab_fld (s8 _ _ p7) T.c_Net T.n_Net_begun (by show 2 < 1000; decide) fun H9 F9 p9 => ?_
    rw [putN ["workers", "joints"] (by decide +kernel)] at p9
    have ec := F9.tk _ _ (upd_same (H := H7) (a := c') (o := .tup ls))
    have eb2 := F9.tk _ _ (s8 _ _ eb)
    have ea3 := F9.tk _ _ (s8 _ _ ea2)
    replace F9 := F7.trans ((Fr.of s8).trans F9)
    refine k H9 F9 ⟨p, a', b', c', ms, ws, ls, rfl, ⟨dx, p9⟩, ea3, ?_, eb2, hws.cimp fun _ _ z => z.tk F9.tk, ec, hls.cimp fun _ _ z => z.tk F9.tk⟩
    refine hms.cimp fun _ _ z => ?_
    obtain ⟨q, dq, bq, tq, dsq, e, hq, hst, htq, hds⟩ := z
    exact ⟨q, dq, bq, tq, dsq, e, F9.at hq (fun z => by rw [z, hp] at hq; exact absurd (HO.ins.inj (Option.some.inj hq)).2.2 (fun e => by cases e)), hst.tk F9.tk, F9.at htq (fun z => by rw [z, hp] at htq; cases htq), hds.cimp fun _ _ z => z.tk F9.tk⟩
end Cr
namespace Cr
open PySem PySem.Spec PyProof.Rows L2 He
theorem sc_Lnet_made : FnScope ["_law_net_here", "_law_machines", "_law_one"] ["_law_net_here"] (defScope s_Lnet_made) := ⟨rfl, rfl, rfl, by decide +kernel, rfl, by decide +kernel, by decide +kernel⟩
def sp_Lnet_made (K : PySem.W.Frag) : Sp := fun vs H Q _ => ∃ (nv : V) (N : Nt), vs = [nv] ∧ IsLNet H nv N ∧ N.ok ∧ ∀ H' p, Same H H' → IsPNet K H' (.ref p) N → Q (.ref p) H'
theorem ok_Lnet_made {P : Program} {w : World} {K : PySem.W.Frag} {mg : Str → Option Value} {base : Heap} (T : Txt K mg) : Cal P w K mg base 8 "_law_net_made" (sp_Lnet_made K) := by
  have G_Machine_new := ok_Machine_new (P := P) (w := w) (base := base) T
  have G_Net_new := ok_Net_new (P := P) (w := w) (base := base) T
  refine Cal.mk0 T.g_Lnet_made T.D_Lnet_made sc_Lnet_made (fun _ _ _ _ _ _ us hl => match us, hl with | [_], _ => rfl) (fun vs H Q E h => ?_) (fun cdv A outer s H vs Q E hr h => ?_)
  · obtain ⟨nv, N, rfl, _⟩ := h
    rfl
  · obtain ⟨nv, N, rfl, hnet, hN, k⟩ := h
    obtain ⟨pn, m, wl, l, ms, ws, ls, rfl, hpn, Z⟩ := id hnet
    have lm := Z.ms.length
    have m5 := hN.m5
    refine ⟨_, (pss_cons (ps_setLc (i := 1) (own := [("_law_one", 2)]) rfl sc_Lnet_made.nd rfl rfl (sw_true rfl rfl rfl (by decide +kernel)) (pi_list (pe_ix ix_tup (pv 0) pe_int (fun _ _ => rfl))) (blkOk_by (own := [("_law_one", 2)]) (N := ["_law_net_here", "_law_machines", "_law_one"]) (sc := defScope s_Lnet_made) (by decide +kernel)) (fun _ _ _ _ _ => (pg_name (i := 2) sc_Lnet_made.nd rfl (Or.inl rfl))) (fun _ _ _ _ _ => pts_nil) (fun _ _ _ _ _ => (pe_mk G_Machine_new hr (by decide) (by rfl) (pa_cons (pe_ix (ix_tupK (K := K) rfl) (pv 2) pe_int (fun _ _ => rfl)) (pa_cons (pe_callTy (call_list_ofK (K := K) rfl) (by rfl) T.f_list (by decide +kernel) (pa_cons (pe_ix (ix_tupK (K := K) rfl) (pv 2) pe_int (fun _ _ => rfl)) pa_nil)) (pa_cons (pe_callTy (call_list_ofK (K := K) rfl) (by rfl) T.f_list (by decide +kernel) (pa_cons (pe_ix (ix_tupK (K := K) rfl) (pv 2) pe_int (fun _ _ => rfl)) pa_nil)) (pa_cons (pe_callTy (call_list_ofK (K := K) rfl) (by rfl) T.f_list (by decide +kernel) (pa_cons (pe_ix (ix_tupK (K := K) rfl) (pv 2) pe_int (fun _ _ => rfl)) pa_nil)) pa_nil)))))))
      (pss_one (ps_ret (pe_mk G_Net_new hr (by decide) (by rfl) (pa_cons (pv 1) (pa_cons (pe_callTy call_list_of (by rfl) T.f_list (by decide +kernel) (pa_cons (pe_ix ix_tup (pv 0) pe_int (fun _ _ => rfl)) pa_nil)) (pa_cons (pe_callTy call_list_of (by rfl) T.f_list (by decide +kernel) (pa_cons (pe_ix ix_tup (pv 0) pe_int (fun _ _ => rfl)) pa_nil)) pa_nil))))))), ?_⟩
    refine ⟨_, rfl, pn, _, _, _, rfl, rfl, SqT.of hpn, atI_nat (j := 0) rfl, m, rfl, ⟨_, SqL.of Z.m⟩, fun D hD => ?_⟩
    refine lc_it (n := ms.length) walk_list (fun i H' => Same H H' ∧ ∃ us, H' D = some (.lst us) ∧ Paired (IsPMchS (· = D) (ga K "Machine") H') us (N.ms.take i)) ⟨Same.new_ hD, [], upd_same, .nil⟩ (fun i H' _ P => SqL.of (P.1 _ _ Z.m)) ?_ ?_
    · rintro i x H1 H1' hi ⟨s1, us, hus, pus⟩ ⟨rfl, hx⟩
      obtain ⟨M, hM, hMv⟩ := Z.ms.cget hx
      have hMo := hN.ms M (List.mem_of_getElem? hM)
      have lus := pus.length
      rw [List.length_take] at lus
      obtain ⟨pm, mn, mr, mdl, dvs, rfl, hpm, LM⟩ := hMv.keep s1
      refine ⟨rfl, ?_⟩
      refine ⟨_, rfl, pm, _, _, _, rfl, rfl, SqT.of hpm, atI_nat (j := 0) rfl, _, rfl, pm, _, _, _, rfl, rfl, SqT.of hpm, atI_nat (j := 1) rfl, mn, _, rfl, .inl (SqL.of LM.n), fun l1 h1 => ?_⟩
      have t1 := Same.new_ (o := .lst (M.ns.map V.int)) h1
      refine ⟨_, rfl, pm, _, _, _, rfl, rfl, SqT.of (t1 _ _ hpm), atI_nat (j := 2) rfl, mr, _, rfl, .inl (SqL.of (t1 _ _ LM.r)), fun l2 h2 => ?_⟩
      have t2 := t1.trans (Same.new_ (o := .lst (M.row.map V.int)) h2)
      refine ⟨_, rfl, pm, _, _, _, rfl, rfl, SqT.of (t2 _ _ hpm), atI_nat (j := 3) rfl, mdl, _, rfl, .inl (SqL.of (t2 _ _ LM.d)), fun l3 h3 => ?_⟩
      have t3 := t2.trans (Same.new_ (o := .lst dvs) h3)
      intro y dy ny ndy ndyy
      have t4 : Same H1' _ := t3.trans ((Same.new_ (o := .own y) ndy).trans (Same.new_ (p := y) (o := .ins (ga K "Machine") dy []) (by rw [upd_ne ndyy.symm]; exact ny)))
      have t34 : Same _ (upd (upd (upd (upd (upd H1' l1 (.lst (M.ns.map V.int))) l2 (.lst (M.row.map V.int))) l3 (.lst dvs)) dy (.own y)) y (.ins (ga K "Machine") dy [])) := (Same.new_ (o := .own y) ndy).trans (Same.new_ (p := y) (o := .ins (ga K "Machine") dy []) (by rw [upd_ne ndyy.symm]; exact ny))
      refine ⟨y, dy, l1, l2, l3, dvs, M, rfl, upd_same, t34 _ _ ((Same.new_ h3) _ _ ((Same.new_ h2) _ _ upd_same)), t34 _ _ ((Same.new_ h3) _ _ upd_same), t34 _ _ upd_same, LM.ds.cimp fun _ _ z => z.tk (Same.tk_ t4), hMo, fun H2 F2 hM2 => ⟨rfl, ?_⟩⟩
      have s2 : Same H1' H2 := F2.same t4 fun b hb => by rw [hb]; exact t3.free ny
      have hus2 := s2 _ _ hus
      have F3 := Fr.put (S := (· = D)) (o := .lst (us ++ [.ref y])) rfl (not_tup_lst hus2)
      refine ⟨_, hus2, line' (by omega), (s1.trans s2).putN hD, _, upd_same, ?_⟩
      rw [take_more hM]
      exact (pus.cimp fun _ _ z => (z.keep s2).frD hus2 F3).csnoc2 ((hM2.mono fun b hb => by rw [hb, t4 _ _ hus]; intro z; cases z).frD hus2 F3)
    rintro H1 ⟨s1, us, hus, pus⟩
    rw [lm, List.take_length] at pus
    have pus' : Paired (IsPMch (ga K "Machine") H1) us N.ms := pus.cimp fun _ _ z => z.to
    refine ⟨_, rfl, _, rfl, pn, _, _, _, rfl, rfl, SqT.of (s1 _ _ hpn), atI_nat (j := 1) rfl, wl, _, rfl, .inl (SqL.of (s1 _ _ Z.w)), fun l1 h1 => ?_⟩
    have t1 := Same.new_ (o := .lst ws) h1
    refine ⟨_, rfl, pn, _, _, _, rfl, rfl, SqT.of (t1 _ _ (s1 _ _ hpn)), atI_nat (j := 2) rfl, l, _, rfl, .inl (SqL.of (t1 _ _ (s1 _ _ Z.l))), fun l2 h2 => ?_⟩
    have t2 := t1.trans (Same.new_ (o := .lst ls) h2)
    intro y dy ny ndy ndyy
    have t34 : Same (upd (upd H1 l1 (.lst ws)) l2 (.lst ls)) (upd (upd (upd (upd H1 l1 (.lst ws)) l2 (.lst ls)) dy (.own y)) y (.ins (ga K "Net") dy [])) := (Same.new_ (o := .own y) ndy).trans (Same.new_ (p := y) (o := .ins (ga K "Net") dy []) (by rw [upd_ne ndyy.symm]; exact ny))
    have t4 := t2.trans t34
    refine ⟨y, dy, D, l1, l2, us, ws, ls, N, rfl, upd_same, t4 _ _ hus, pus'.cimp fun _ _ z => z.keep t4, t34 _ _ ((Same.new_ h2) _ _ upd_same), Z.ws.cimp fun _ _ z => z.tk (Same.tk_ (s1.trans t4)), t34 _ _ upd_same, Z.ls.cimp fun _ _ z => z.tk (Same.tk_ (s1.trans t4)), hN, fun H2 F2 hn => ⟨rfl, k H2 y ?_ hn⟩⟩
    exact F2.same (s1.trans t4) fun b hb => by rw [hb]; exact s1.free (t2.free ny)
end Cr
namespace Cr
open PySem PySem.Spec PyProof.Rows L2 He
theorem sc_Heap_new : FnScope ["self"] ["self"] (defScope s_Heap_new) := ⟨rfl, rfl, rfl, by decide +kernel, rfl, by decide +kernel, by decide +kernel⟩
def sp_Heap_new (K : PySem.W.Frag) : Sp := fun vs H Q _ => ∃ (p dx : Addr), vs = [.ref p] ∧ H p = some (.ins (ga K "Heap") dx []) ∧ ∀ H' t s k, Fr (· = p) H H' → H' p = some (.ins (ga K "Heap") dx (heapF t s k)) → H' t = some (.lst []) → H' s = some (.lst []) → H' k = some (.lst []) →
  H t = none → H s = none → H k = none → t ≠ s → t ≠ k → s ≠ k → Q .non H'
theorem ok_Heap_new {P : Program} {w : World} {K : PySem.W.Frag} {mg : Str → Option Value} {base : Heap} (T : Txt K mg) : Mak P w K mg base 1 "Heap" (ga K "Heap") (sp_Heap_new K) := by
  refine Mak.mk0 T.mk_Heap T.g_Heap T.D_Heap_new sc_Heap_new (fun _ _ _ _ _ _ us hl => match us, hl with | [_], _ => rfl) (fun vs H Q E h => ?_) (fun cdv A outer s H vs Q E hr h => ?_)
  · obtain ⟨p, dx, rfl, _⟩ := h
    rfl
  · obtain ⟨p, dx, rfl, hp, k⟩ := h
    refine ⟨_, (pss_cons (ps_fld (pv 0) (pe_lst pa_nil) rfl)
      (pss_cons (ps_fld (pv 0) (pe_lst pa_nil) rfl)
      (pss_one (ps_fld (pv 0) (pe_lst pa_nil) rfl)))), ?_⟩
    refine ⟨line (by decide), fun a na => ?_⟩
    have s1 := Same.new_ (o := .lst []) na
    refine ab_fld (s1 _ _ hp) T.c_Heap T.n_Heap_tells (by show 0 < 1000; decide) fun H1 F1 p1 => ?_
    have npa : a ≠ p := (ne_of_none hp na).symm
    have ea := F1.at (upd_same (H := H) (a := a) (o := .lst [])) npa
    replace F1 := (Fr.of s1).trans F1
    refine ⟨line (by decide), fun b nb => ?_⟩
    have s2 := Same.new_ (o := .lst []) nb
    refine ab_fld (s2 _ _ p1) T.c_Heap T.n_Heap_sender (by show 1 < 1000; decide) fun H2 F2 p2 => ?_
    rw [putN ["tells"] (by decide +kernel)] at p2
    have npb : b ≠ p := (ne_of_none p1 nb).symm
    have eb := F2.at (upd_same (H := H1) (a := b) (o := .lst [])) npb
    have ea2 := F2.at (s2 _ _ ea) npa
    replace F2 := F1.trans ((Fr.of s2).trans F2)
    refine ⟨line (by decide), fun c nc => ?_⟩
    have s3 := Same.new_ (o := .lst []) nc
    refine ab_fld (s3 _ _ p2) T.c_Heap T.n_Heap_worker (by show 2 < 1000; decide) fun H3 F3 p3 => ?_
    rw [putN ["tells", "sender"] (by decide +kernel)] at p3
    have npc : c ≠ p := (ne_of_none p2 nc).symm
    have ec := F3.at (upd_same (H := H2) (a := c) (o := .lst [])) npc
    have ea3 := F3.at (s3 _ _ ea2) npa
    have eb3 := F3.at (s3 _ _ eb) npb
    replace F3 := F2.trans ((Fr.of s3).trans F3)
    exact k H3 a b c F3 p3 ea3 eb3 ec na (F1.none nb npb) (F2.none nc npc) (ne_of_none ea nb) (ne_of_none ea2 nc) (ne_of_none eb nc)
end Cr
namespace Cr
open PySem PySem.Spec PyProof.Rows L2 He
theorem sc_Machine_first_state : FnScope ["self"] ["self"] (defScope s_Machine_first_state) := ⟨rfl, rfl, rfl, by decide +kernel, rfl, by decide +kernel, by decide +kernel⟩
def sp_Machine_first_state (K : PySem.W.Frag) : Sp := fun vs H Q _ => ∃ (v : V) (M : Mch), vs = [v] ∧ IsPMch (ga K "Machine") H v M ∧ ∀ b, IsSta H (.ref b) (M.ns, M.row) → Q (.ref b) H
theorem ok_Machine_first_state {P : Program} {w : World} {K : PySem.W.Frag} {mg : Str → Option Value} {base : Heap} (T : Txt K mg) : Met P w K mg base 1 (ga K "Machine") "first_state" (sp_Machine_first_state K) := by
  refine Met.mk0 T.c_Machine T.m_Machine_first_state T.D_Machine_first_state sc_Machine_first_state (fun _ _ _ _ _ _ us hl => match us, hl with | [_], _ => rfl) (fun vs H Q E h => ?_) (fun cdv A outer s H vs Q E hr h => ?_)
  · obtain ⟨v, M, rfl, _⟩ := h
    rfl
  · obtain ⟨v, M, rfl, ⟨p, dx, b, t, ds, rfl, hp, hb, ht, hds⟩, k⟩ := h
    refine ⟨_, (pss_one (ps_ret (pe_fld (pv 0) rfl))), ?_⟩
    exact ⟨_, rfl, p, _, dx, _, .ref b, rfl, hp, T.c_Machine, T.n_Machine_begun, lk 1 machK (by decide +kernel), k b hb⟩
end Cr
namespace Cr
open PySem PySem.Spec PyProof.Rows L2 He
theorem sc_Net_letters : FnScope ["self"] ["self"] (defScope s_Net_letters) := ⟨rfl, rfl, rfl, by decide +kernel, rfl, by decide +kernel, by decide +kernel⟩
def sp_Net_letters (K : PySem.W.Frag) : Sp := fun vs H Q _ => ∃ (p w j b : Addr) (ms ws ls : List V) (N : Nt), vs = [.ref p] ∧ PNetAt K H p w j b ms ws ls N ∧ ∀ q, H q = none → Q (.ref q) (upd H q (.lst ls))
theorem ok_Net_letters {P : Program} {w : World} {K : PySem.W.Frag} {mg : Str → Option Value} {base : Heap} (T : Txt K mg) : Met P w K mg base 1 (ga K "Net") "letters" (sp_Net_letters K) := by
  refine Met.mk0 T.c_Net T.m_Net_letters T.D_Net_letters sc_Net_letters (fun _ _ _ _ _ _ us hl => match us, hl with | [_], _ => rfl) (fun vs H Q E h => ?_) (fun cdv A outer s H vs Q E hr h => ?_)
  · obtain ⟨p, w, j, b, ms, ws, ls, N, rfl, _⟩ := h
    rfl
  · obtain ⟨p, w, j, b, ms, ws, ls, N, rfl, B, k⟩ := h
    obtain ⟨dx, hp⟩ := B.ob
    refine ⟨_, (pss_one (ps_ret (pe_callTy call_list_of (by rfl) T.f_list (by decide +kernel) (pa_cons (pe_fld (pv 0) rfl) pa_nil)))), ?_⟩
    exact ⟨_, rfl, p, _, dx, _, .ref b, rfl, hp, T.c_Net, T.n_Net_begun, lk 2 netK (by decide +kernel), b, _, rfl, .inr (SqT.of B.b), k⟩
end Cr
namespace Cr
open PySem PySem.Spec PyProof.Rows L2 He
theorem sc_Run_new : FnScope ["self", "net", "way", "said", "machine"] ["self", "net"] (defScope s_Run_new) := ⟨rfl, rfl, rfl, by decide +kernel, rfl, by decide +kernel, by decide +kernel⟩
def sp_Run_new (K : PySem.W.Frag) : Sp := fun vs H Q _ => ∃ (p dx : Addr) (nv : V) (N : Nt), vs = [.ref p, nv] ∧ H p = some (.ins (ga K "Run") dx []) ∧ IsPNet K H nv N ∧ N.ok ∧
  ∀ H' A hI G, Fr (· = p) H H' → PRunAt K H' p nv A hI G N (begun N) → (∀ t, PT.ok N t → H (A t) = none) → Q .non H'
theorem IsPNet.keepF {K : PySem.W.Frag} {H H' : Hp} {p dx : Addr} {nv : V} {N : Nt} (h : IsPNet K H nv N) (hp : H p = some (.ins (ga K "Run") dx [])) (f : Fr (· = p) H H') : IsPNet K H' nv N := by
  obtain ⟨np, w, j, b, ms, ws, ls, e, Z⟩ := h
  have ne : ∀ {q C dq fs}, H q = some (.ins C dq fs) → fs.length = 3 → q ≠ p := fun hq hl z => by
    rw [z, hp] at hq
    have := (HO.ins.inj (Option.some.inj hq)).2.2
    rw [← this] at hl
    cases hl
  refine ⟨np, w, j, b, ms, ws, ls, e, ⟨?_, f.tk _ _ Z.w, Z.ms.cimp fun _ _ z => ?_, f.tk _ _ Z.j, Z.ws.cimp fun _ _ z => z.tk f.tk, f.tk _ _ Z.b, Z.ls.cimp fun _ _ z => z.tk f.tk⟩⟩
  · obtain ⟨dn, hn⟩ := Z.ob
    exact ⟨dn, f.at hn (ne hn rfl)⟩
  · obtain ⟨q, dq, bq, tq, dsq, e, hq, hst, htq, hds⟩ := z
    exact ⟨q, dq, bq, tq, dsq, e, f.at hq (ne hq rfl), hst.tk f.tk, f.at htq (fun z => by rw [z, hp] at htq; cases htq), hds.cimp fun _ _ z => z.tk f.tk⟩
theorem ok_Run_new {P : Program} {w : World} {K : PySem.W.Frag} {mg : Str → Option Value} {base : Heap} (T : Txt K mg) : Mak P w K mg base 3 "Run" (ga K "Run") (sp_Run_new K) := by
  have G_Net_ways := ok_Net_ways (P := P) (w := w) (base := base) T
  have G_Heap_new := ok_Heap_new (P := P) (w := w) (base := base) T
  have G_Net_machines := ok_Net_machines (P := P) (w := w) (base := base) T
  have G_Machine_first_state := ok_Machine_first_state (P := P) (w := w) (base := base) T
  have G_Net_letters := ok_Net_letters (P := P) (w := w) (base := base) T
  have G_Heap_put := ok_Heap_put (P := P) (w := w) (base := base) T
  refine Mak.mk0 T.mk_Run T.g_Run T.D_Run_new sc_Run_new (fun _ _ _ _ _ _ us hl => match us, hl with | [_, _], _ => rfl) (fun vs H Q E h => ?_) (fun cdv A outer s H vs Q E hr h => ?_)
  · obtain ⟨p, dx, nv, N, rfl, _⟩ := h
    rfl
  · obtain ⟨p, dx, nv, N, rfl, hp, hnet, hN, k⟩ := h
    have w10 := hN.w10
    have m5 := hN.m5
    refine ⟨_, (pss_cons (ps_fld (pv 0) (pv 1) rfl)
      (pss_cons (ps_fld (pv 0) (pe_lc (own := [("way", 2)]) rfl sc_Run_new.nd (pi_list (pe_mt0 G_Net_ways hr (by decide) (pv 1))) (blkOk_by (own := [("way", 2)]) (N := ["self", "net", "way", "said", "machine"]) (sc := defScope s_Run_new) (by decide +kernel)) (fun _ _ _ _ _ => (pg_name (i := 2) sc_Run_new.nd rfl (Or.inl rfl))) (fun _ _ _ _ _ => pts_nil) (fun _ _ _ _ _ => (pe_mk0 G_Heap_new hr (by decide) (by rfl)))) rfl)
      (pss_cons (ps_fld (pv 0) (pe_lc (own := [("machine", 4)]) rfl sc_Run_new.nd (pi_list (pe_mt0 G_Net_machines hr (by decide) (pv 1))) (blkOk_by (own := [("machine", 4)]) (N := ["self", "net", "way", "said", "machine"]) (sc := defScope s_Run_new) (by decide +kernel)) (fun _ _ _ _ _ => (pg_name (i := 4) sc_Run_new.nd rfl (Or.inl rfl))) (fun _ _ _ _ _ => pts_nil) (fun _ _ _ _ _ => (pe_lst (pa_cons (pe_mt0 G_Machine_first_state hr (by decide) (pv 4)) pa_nil)))) rfl)
      (pss_cons (ps_fld (pv 0) (pe_lc (own := [("machine", 4)]) rfl sc_Run_new.nd (pi_list (pe_mt0 G_Net_machines hr (by decide) (pv 1))) (blkOk_by (own := [("machine", 4)]) (N := ["self", "net", "way", "said", "machine"]) (sc := defScope s_Run_new) (by decide +kernel)) (fun _ _ _ _ _ => (pg_name (i := 4) sc_Run_new.nd rfl (Or.inl rfl))) (fun _ _ _ _ _ => pts_nil) (fun _ _ _ _ _ => (pe_lst pa_nil))) rfl)
      (pss_cons (ps_fld (pv 0) (pe_lst pa_nil) rfl)
      (pss_one (ps_for PassesOwn.never rfl (pi_list (pe_mt0 G_Net_letters hr (by decide) (pv 1))) (pg_tup rfl (pgs_cons (pg_name (i := 2) sc_Run_new.nd rfl (Or.inl rfl)) (pgs_cons (pg_name (i := 3) sc_Run_new.nd rfl (Or.inl rfl)) pgs_nil))) (pss_one (ps_expr (pe_mt G_Heap_put hr (by decide) (pe_ix ix_list (pe_fld (pv 0) rfl) (pv 2) (fun _ _ => rfl)) (pa_cons (pv 3) (pa_cons pe_non pa_nil)))))))))))), ?_⟩
    refine ⟨_, rfl, ab_fld hp T.c_Run T.n_Run_base (by show 0 < 1000; decide) fun H1 F1 p1 => ?_⟩
    have Z1 := hnet.keepF hp F1
    obtain ⟨np, nw, nj, nb, ms, ws, ls, rfl, Z⟩ := Z1
    obtain ⟨dn, hnp⟩ := Z.ob
    have lm := Z.ms.length
    have lw := Z.ws.length
    -- the heaps
    refine ⟨_, rfl, np, dn, _, rfl, hnp, lkN netK (by decide +kernel), np, nw, nj, nb, ms, ws, ls, N, rfl, Z, fun q hq => ⟨q, rfl, ⟨_, SqL.of upd_same⟩, fun D hD => ?_⟩⟩
    have sq := Same.new_ (o := .lst ws) hq
    refine lc_it (n := ws.length) walk_list (fun i H' => Same H1 H' ∧ H' q = some (.lst ws) ∧ ∃ (A1 : PT → Addr) (G1 : PT → HO) (hI : Nat → Addr), A1 .hl = D ∧ Lay (okS i none none) A1 G1 H' ∧ G1 .hl = .lst ((List.range i).map fun w => .ref (hI w)) ∧
      (∀ w, w < i → G1 (.t w) = .lst [] ∧ G1 (.s w) = .lst [] ∧ G1 (.k w) = .lst [] ∧ ∃ dx, H' (hI w) = some (.ins (ga K "Heap") dx (heapF (A1 (.t w)) (A1 (.s w)) (A1 (.k w))))) ∧ ∀ x, okS i none none x → H1 (A1 x) = none)
      ⟨sq.trans (Same.new_ hD), (Same.new_ hD) _ _ upd_same, fun _ => D, fun _ => .lst [], fun _ => 0, rfl, ?_, rfl, fun w h => absurd h (Nat.not_lt_zero _), fun x _ => sq.free hD⟩ (fun i H' _ P => SqL.of P.2.1) ?_ ?_
    · refine ⟨fun x _ => upd_same, fun x y hx hy _ => ?_, fun x _ ys => lst_nt ys⟩
      have key : ∀ z, okS 0 none none z → z = .hl := fun z hz => by
        cases z with
        | hl => rfl
        | sl => exact absurd rfl hz
        | wl => exact absurd rfl hz
        | pk => exact absurd hz id
        | st m => obtain ⟨_, e, _⟩ := hz; cases e
        | wr m => obtain ⟨_, e, _⟩ := hz; cases e
        | _ => exact absurd hz (Nat.not_lt_zero _)
      rw [key x hx, key y hy]
    · rintro i y H2 H3 hi ⟨P1, Pq, A1, G1, hI, e1, L, e2, P2, P3⟩ ⟨rfl, hy⟩
      refine ⟨rfl, ?_⟩
      refine fun x dy nx ny nxy => ?_
      have s0 : Same H3 (upd (upd H3 dy (.own x)) x (.ins (ga K "Heap") dy [])) := (Same.new_ ny).trans (Same.new_ (by rw [upd_ne nxy.symm]; exact nx))
      refine ⟨x, dy, rfl, upd_same, fun H4 t s k F4 hx ht hs hk nt ns nk d1 d2 d3 => ⟨rfl, ?_⟩⟩
      have s4 : Same H3 H4 := F4.same s0 fun b hb => by rw [hb]; exact nx
      have L4 := L.keep s4
      have na : ∀ {a : Addr}, (upd (upd H3 dy (.own x)) x (.ins (ga K "Heap") dy [])) a = none → ∀ y, okS i none none y → A1 y ≠ a := fun {a} h y hy => ne_of_none (L.at_ y hy) (s0.free h)
      have L5 := L4.addP (ok' := fun y => okS i none none y ∨ y = .t i) (x := PT.t i) ht (na nt) lst_nt fun y h => h
      have L6 := L5.addP (ok' := fun y => (okS i none none y ∨ y = .t i) ∨ y = .s i) (x := PT.s i) hs (fun y hy => by
        rcases hy with hy | rfl
        · rw [setG_ne (by rintro rfl; exact Nat.lt_irrefl _ hy)]; exact na ns y hy
        · rw [setG_same]; exact d1) lst_nt fun y h => h
      have L7 := L6.addP (ok' := okS (i + 1) none none) (x := PT.k i) hk (fun y hy => by
        rcases hy with (hy | rfl) | rfl
        · rw [setG_ne (by rintro rfl; exact Nat.lt_irrefl _ hy), setG_ne (by rintro rfl; exact Nat.lt_irrefl _ hy)]; exact na nk y hy
        · rw [setG_ne (by intro z; cases z), setG_same]; exact d2
        · rw [setG_same]; exact d3) lst_nt (fun y h => by
        cases y with
        | t v => by_cases e : v = i
                 · exact .inl (.inl (.inr (by rw [e])))
                 · exact .inl (.inl (.inl (show v < i from by have h : v < i + 1 := h; omega)))
        | s v => by_cases e : v = i
                 · exact .inl (.inr (by rw [e]))
                 · exact .inl (.inl (.inl (show v < i from by have h : v < i + 1 := h; omega)))
        | k v => by_cases e : v = i
                 · exact .inr (by rw [e])
                 · exact .inl (.inl (.inl (show v < i from by have h : v < i + 1 := h; omega)))
        | _ => exact .inl (.inl (.inl h)))
      have hD4 : H4 D = some (.lst ((List.range i).map fun w => .ref (hI w))) := by have := L4.at_ .hl trivial; rw [e1, e2] at this; exact this
      refine ⟨_, hD4, line' (by rw [rm_len]; omega), ?_⟩
      have hq4 : H4 q = some (.lst ws) := s4 _ _ Pq
      have nqD : q ≠ D := ne_of_none (upd_same (H := H1) (a := q) (o := .lst ws)) hD
      have L8 := L7.put (x := PT.hl) (o := .lst ((List.range i).map (fun w => V.ref (hI w)) ++ [.ref x])) trivial lst_nt
      have eA : (setG (setG (setG A1 (PT.t i) t) (PT.s i) s) (PT.k i) k) PT.hl = D := by
        rw [setG_ne (by intro z; cases z), setG_ne (by intro z; cases z), setG_ne (by intro z; cases z)]; exact e1
      rw [eA] at L8
      have sD : Same H1 (upd H4 D (.lst ((List.range i).map (fun w => V.ref (hI w)) ++ [.ref x]))) := (P1.trans s4).putN (sq.free hD)
      refine ⟨sD, by rw [upd_ne nqD]; exact hq4, _, _, fun w => if w = i then x else hI w, eA, L8, ?_, fun w hw => ?_, fun z hz => ?_⟩
      · rw [setG_same, rm_s]
        dsimp only
        rw [if_pos rfl]
        congr 2
        refine List.map_congr_left fun w hw => ?_
        rw [if_neg (Nat.ne_of_lt (List.mem_range.mp hw))]
      · by_cases ew : w = i
        · subst ew
          simp only [setG, PT.t.injEq, PT.s.injEq, PT.k.injEq, reduceCtorEq, if_false, if_true, true_and]
          exact ⟨dy, by rw [upd_ne (fun z => by rw [z, hD4] at hx; cases hx)]; exact hx⟩
        · obtain ⟨q1, q2, q3, dz, q4⟩ := P2 w (by omega)
          simp only [setG, PT.t.injEq, PT.s.injEq, PT.k.injEq, reduceCtorEq, if_false, ew]
          exact ⟨q1, q2, q3, dz, by rw [upd_ne (fun z => by have := s4 _ _ q4; rw [z, hD4] at this; cases this)]; exact s4 _ _ q4⟩
      · cases z with
        | hl => rw [eA]; exact sq.free hD
        | t v => by_cases ev : v = i
                 · rw [ev, setG_ne (by intro z; cases z), setG_ne (by intro z; cases z), setG_same]; exact P1.free (s0.free nt)
                 · simp only [setG, PT.t.injEq, reduceCtorEq, if_false, ev]; exact P3 (.t v) (show v < i from by have hz : v < i + 1 := hz; omega)
        | s v => by_cases ev : v = i
                 · rw [ev, setG_ne (by intro z; cases z), setG_same]; exact P1.free (s0.free ns)
                 · simp only [setG, PT.s.injEq, reduceCtorEq, if_false, ev]; exact P3 (.s v) (show v < i from by have hz : v < i + 1 := hz; omega)
        | k v => by_cases ev : v = i
                 · rw [ev, setG_same]; exact P1.free (s0.free nk)
                 · simp only [setG, PT.k.injEq, reduceCtorEq, if_false, ev]; exact P3 (.k v) (show v < i from by have hz : v < i + 1 := hz; omega)
        | sl => exact absurd rfl hz
        | wl => exact absurd rfl hz
        | pk => exact absurd hz id
        | st m => obtain ⟨_, e, _⟩ := hz; cases e
        | wr m => obtain ⟨_, e, _⟩ := hz; cases e
    rintro H2 ⟨s2, hq2, A2, G2, hI, eD, L2', eG, Pw, Pn⟩
    rw [lw] at L2' eG Pw Pn
    refine ab_fld (s2 _ _ p1) T.c_Run T.n_Run_heaps (by show 1 < 1000; decide) fun H3 F3 p3 => ?_
    rw [putN ["base"] (by decide +kernel)] at p3
    have nep : ∀ {b : Addr}, H1 b = none → ¬ b = p := fun {b} h z => by rw [z, p1] at h; cases h
    have L3 := L2'.fr F3 fun x hx => nep (Pn x hx)
    replace Pw : ∀ w, w < N.ws.length → G2 (.t w) = .lst [] ∧ G2 (.s w) = .lst [] ∧ G2 (.k w) = .lst [] ∧ ∃ dx, H3 (hI w) = some (.ins (ga K "Heap") dx (heapF (A2 (.t w)) (A2 (.s w)) (A2 (.k w)))) := fun w hw => by
      obtain ⟨q1, q2, q3, dz, q4⟩ := Pw w hw
      exact ⟨q1, q2, q3, dz, F3.at q4 (fun z => by rw [z, s2 _ _ p1] at q4; exact absurd (HO.ins.inj (Option.some.inj q4)).2.2 (fun e => by cases e))⟩
    have F3' : Fr (· = p) H H3 := F1.trans ((Fr.of s2).trans F3)
    -- the states
    obtain ⟨np', nw, nj, nb, ms, ws, ls, e', Z⟩ := hnet.keepF hp F3'
    cases e'
    obtain ⟨dn, hnp⟩ := Z.ob
    have lm := Z.ms.length
    refine ⟨_, rfl, np, dn, _, rfl, hnp, lkN netK (by decide +kernel), np, nw, nj, nb, ms, ws, ls, N, rfl, Z, fun q hq => ⟨q, rfl, ⟨_, SqL.of upd_same⟩, fun D hD => ?_⟩⟩
    have sq := Same.new_ (o := .lst ms) hq
    have F03 : ∀ {b : Addr}, H3 b = none → H1 b = none := fun {b} h => s2.free (F3.none h (fun z => by rw [z, p3] at h; cases h))
    refine lc_it (n := ms.length) walk_list (fun i H' => Same H3 H' ∧ H' q = some (.lst ms) ∧ ∃ (A1 : PT → Addr) (G1 : PT → HO), A1 .sl = D ∧ Lay (okS N.ws.length (some i) none) A1 G1 H' ∧ G1 .sl = .lst ((List.range i).map fun m => .ref (A1 (.st m))) ∧
      (∀ x, okS N.ws.length none none x → A1 x = A2 x ∧ G1 x = G2 x) ∧ (∀ m, m < i → ∃ v, G1 (.st m) = .lst [v] ∧ IsSta H' v ((N.mch m).ns, (N.mch m).row)) ∧ ∀ x, okS N.ws.length (some i) none x → H1 (A1 x) = none)
      ⟨sq.trans (Same.new_ hD), (Same.new_ hD) _ _ upd_same, setG A2 .sl D, setG G2 .sl (.lst []), setG_same, ?_, setG_same, fun x hx => ?_, fun m h => absurd h (Nat.not_lt_zero _), ?_⟩ (fun i H' _ P => SqL.of P.2.1) ?_ ?_
    · refine (L3.keep sq).add hD (fun h => h rfl) lst_nt fun y hy => ?_
      cases y with
      | sl => exact .inr rfl
      | st m => obtain ⟨n, e, h⟩ := hy; cases e; exact absurd h (Nat.not_lt_zero _)
      | _ => exact .inl hy
    · have : x ≠ .sl := fun z => by rw [z] at hx; exact hx rfl
      exact ⟨setG_ne this, setG_ne this⟩
    · refine nw_set (ok := okS N.ws.length none none) Pn (F03 (sq.free hD)) fun y hy => ?_
      cases y with
      | sl => exact .inr rfl
      | st m => obtain ⟨n, e, h⟩ := hy; cases e; exact absurd h (Nat.not_lt_zero _)
      | _ => exact .inl hy
    · rintro i y H4 H5 hi ⟨P1, Pq, A1, G1, e1, L, e2, P2, P3, P4⟩ ⟨rfl, hy⟩
      obtain ⟨M, hM, hMp⟩ := Z.ms.cget hy
      have eM : N.mch i = M := getD_of hM
      have hMp' := hMp.keep P1
      obtain ⟨p', dx', b', t', ds', rfl, hp', _⟩ := id hMp'
      refine ⟨rfl, ?_⟩
      refine ⟨_, rfl, p', dx', _, rfl, hp', lkN machK (by decide +kernel), _, M, rfl, hMp', fun b hb => ⟨line (by show 1 ≤ 16777216; decide), fun a na => ?_⟩⟩
      have hok : ∀ y, okS N.ws.length (some (i + 1)) none y → okS N.ws.length (some i) none y ∨ y = .st i := fun y hy => by
        cases y with
        | st m =>
          obtain ⟨n, e, h⟩ := hy
          cases e
          by_cases em : m = i
          · exact .inr (by rw [em])
          · exact .inl ⟨i, rfl, by omega⟩
        | sl => exact .inl (fun z => by cases z)
        | _ => exact .inl hy
      obtain ⟨hacc, L'⟩ := L.grow (x := PT.st i) (ok' := okS N.ws.length (some (i + 1)) none) (t := PT.sl) (Same.new_ (o := .lst [.ref b]) na) na upd_same (fun z => by cases z) (fun z => by cases z) e2 lst_nt hok (fun z => by cases z)
      rw [e1] at hacc L'
      have nqD : q ≠ D := ne_of_none (upd_same (H := H3) (a := q) (o := .lst ms)) hD
      have t5 : Tk H5 (upd (upd H5 a (.lst [.ref b])) D (.lst ((List.range i).map (fun m => V.ref (A1 (.st m))) ++ [.ref a]))) := (Same.tk_ (Same.new_ na)).trans (Fr.put (S := (· = D)) rfl (not_tup_lst hacc)).tk
      refine ⟨_, hacc, line' (by rw [rm_len]; omega), (P1.trans (Same.new_ na)).putN (sq.free hD), by rw [upd_ne nqD]; exact (Same.new_ na) _ _ Pq, _, _, by rw [setG_ne (by intro z; cases z)]; exact e1, L', ?_, fun x hx => ?_, fun m hm => ?_, nw_set P4 (F03 (P1.free na)) hok⟩
      · rw [setG_same, rm_s, setG_same]
        congr 2
        refine List.map_congr_left fun w hw => ?_
        rw [setG_ne (fun z => by have := List.mem_range.mp hw; cases z; omega)]
      · have n1 : x ≠ .sl := fun z => by rw [z] at hx; exact hx rfl
        have n2 : x ≠ .st i := fun z => by rw [z] at hx; obtain ⟨_, e, _⟩ := hx; cases e
        rw [setG_ne n2, setG_ne n1, setG_ne n2]
        exact P2 x hx
      · by_cases em : m = i
        · subst em
          rw [setG_ne (by intro z; cases z), setG_same, eM]
          exact ⟨_, rfl, hb.tk t5⟩
        · rw [setG_ne (by intro z; cases z), setG_ne (by intro z; cases z; exact em rfl)]
          obtain ⟨v, q1, q2⟩ := P3 m (by omega)
          exact ⟨v, q1, q2.tk t5⟩
    rintro H4 ⟨s4, _, A4, G4, e4, L4, g4, same4, st4, nw4⟩
    rw [lm] at L4 g4 st4 nw4
    refine ab_fld (s4 _ _ p3) T.c_Run T.n_Run_states (by show 2 < 1000; decide) fun H5 F5 p5 => ?_
    rw [putN ["base", "heaps"] (by decide +kernel)] at p5
    have L5 := L4.fr F5 fun x hx => nep (nw4 x hx)
    replace st4 : ∀ m, m < N.ms.length → ∃ v, G4 (.st m) = .lst [v] ∧ IsSta H5 v ((N.mch m).ns, (N.mch m).row) := fun m hm => let ⟨v, a, b⟩ := st4 m hm; ⟨v, a, b.tk F5.tk⟩
    have F5' : Fr (· = p) H H5 := F3'.trans ((Fr.of s4).trans F5)
    replace F03 : ∀ {b : Addr}, H5 b = none → H1 b = none := fun {b} h => F03 (s4.free (F5.none h (fun z => by rw [z, p5] at h; cases h)))
    have hI5 : ∀ w, w < N.ws.length → ∃ dx, H5 (hI w) = some (.ins (ga K "Heap") dx (heapF (A4 (.t w)) (A4 (.s w)) (A4 (.k w)))) := fun w hw => by
      obtain ⟨_, _, _, dz, q4⟩ := Pw w hw
      rw [(same4 (.t w) hw).1, (same4 (.s w) hw).1, (same4 (.k w) hw).1]
      exact ⟨dz, F5.at (s4 _ _ q4) (fun z => by rw [z, p3] at q4; exact absurd (congrArg List.length (HO.ins.inj (Option.some.inj q4)).2.2) (by show ¬ (2 = 3); decide))⟩
    -- the words
    obtain ⟨np', nw, nj, nb, ms, ws, ls, e', Z⟩ := hnet.keepF hp F5'
    cases e'
    obtain ⟨dn, hnp⟩ := Z.ob
    have lm := Z.ms.length
    refine ⟨_, rfl, np, dn, _, rfl, hnp, lkN netK (by decide +kernel), np, nw, nj, nb, ms, ws, ls, N, rfl, Z, fun q hq => ⟨q, rfl, ⟨_, SqL.of upd_same⟩, fun D hD => ?_⟩⟩
    have sq := Same.new_ (o := .lst ms) hq
    refine lc_it (n := ms.length) walk_list (fun i H' => Same H5 H' ∧ H' q = some (.lst ms) ∧ ∃ (A1 : PT → Addr) (G1 : PT → HO), A1 .wl = D ∧ Lay (okS N.ws.length (some N.ms.length) (some i)) A1 G1 H' ∧ G1 .wl = .lst ((List.range i).map fun m => .ref (A1 (.wr m))) ∧
      (∀ x, okS N.ws.length (some N.ms.length) none x → A1 x = A4 x ∧ G1 x = G4 x) ∧ (∀ m, m < i → G1 (.wr m) = .lst []) ∧ ∀ x, okS N.ws.length (some N.ms.length) (some i) x → H1 (A1 x) = none)
      ⟨sq.trans (Same.new_ hD), (Same.new_ hD) _ _ upd_same, setG A4 .wl D, setG G4 .wl (.lst []), setG_same, ?_, setG_same, fun x hx => ?_, fun m h => absurd h (Nat.not_lt_zero _), ?_⟩ (fun i H' _ P => SqL.of P.2.1) ?_ ?_
    · refine (L5.keep sq).add hD (fun h => h rfl) lst_nt fun y hy => ?_
      cases y with
      | wl => exact .inr rfl
      | wr m => obtain ⟨n, e, h⟩ := hy; cases e; exact absurd h (Nat.not_lt_zero _)
      | _ => exact .inl hy
    · have : x ≠ .wl := fun z => by rw [z] at hx; exact hx rfl
      exact ⟨setG_ne this, setG_ne this⟩
    · refine nw_set (ok := okS N.ws.length (some N.ms.length) none) nw4 (F03 (sq.free hD)) fun y hy => ?_
      cases y with
      | wl => exact .inr rfl
      | wr m => obtain ⟨n, e, h⟩ := hy; cases e; exact absurd h (Nat.not_lt_zero _)
      | _ => exact .inl hy
    · rintro i y H6 H7 hi ⟨P1, Pq, A1, G1, e1, L, e2, P2, P3, P4⟩ ⟨rfl, hy⟩
      refine ⟨rfl, ?_⟩
      refine ⟨line (by show 0 ≤ 16777216; decide), fun a na => ?_⟩
      have hok : ∀ y, okS N.ws.length (some N.ms.length) (some (i + 1)) y → okS N.ws.length (some N.ms.length) (some i) y ∨ y = .wr i := fun y hy => by
        cases y with
        | wr m =>
          obtain ⟨n, e, h⟩ := hy
          cases e
          by_cases em : m = i
          · exact .inr (by rw [em])
          · exact .inl ⟨i, rfl, by omega⟩
        | wl => exact .inl (fun z => by cases z)
        | _ => exact .inl hy
      obtain ⟨hacc, L'⟩ := L.grow (x := PT.wr i) (ok' := okS N.ws.length (some N.ms.length) (some (i + 1))) (t := PT.wl) (Same.new_ (o := .lst []) na) na upd_same (fun z => by cases z) (fun z => by cases z) e2 lst_nt hok (fun z => by cases z)
      rw [e1] at hacc L'
      have nqD : q ≠ D := ne_of_none (upd_same (H := H5) (a := q) (o := .lst ms)) hD
      refine ⟨_, hacc, line' (by rw [rm_len]; omega), (P1.trans (Same.new_ na)).putN (sq.free hD), by rw [upd_ne nqD]; exact (Same.new_ na) _ _ Pq, _, _, by rw [setG_ne (by intro z; cases z)]; exact e1, L', ?_, fun x hx => ?_, fun m hm => ?_, nw_set P4 (F03 (P1.free na)) hok⟩
      · rw [setG_same, rm_s, setG_same]
        congr 2
        refine List.map_congr_left fun w hw => ?_
        rw [setG_ne (fun z => by have := List.mem_range.mp hw; cases z; omega)]
      · have n1 : x ≠ .wl := fun z => by rw [z] at hx; exact hx rfl
        have n2 : x ≠ .wr i := fun z => by rw [z] at hx; obtain ⟨_, e, _⟩ := hx; cases e
        rw [setG_ne n2, setG_ne n1, setG_ne n2]
        exact P2 x hx
      · by_cases em : m = i
        · subst em
          rw [setG_ne (by intro z; cases z), setG_same]
        · rw [setG_ne (by intro z; cases z), setG_ne (by intro z; cases z; exact em rfl)]
          exact P3 m (by omega)
    rintro H6 ⟨s6, _, A6, G6, e6, L6, g6, same6, wr6, nw6⟩
    rw [lm] at L6 g6 wr6 nw6
    refine ab_fld (s6 _ _ p5) T.c_Run T.n_Run_word_rows (by show 3 < 1000; decide) fun H7 F7 p7 => ?_
    rw [putN ["base", "heaps", "states"] (by decide +kernel)] at p7
    have L7 := L6.fr F7 fun x hx => nep (nw6 x hx)
    have F7' : Fr (· = p) H H7 := F5'.trans ((Fr.of s6).trans F7)
    replace F03 : ∀ {b : Addr}, H7 b = none → H1 b = none := fun {b} h => F03 (s6.free (F7.none h (fun z => by rw [z, p7] at h; cases h)))
    -- the picks
    refine ⟨line (by show 0 ≤ 16777216; decide), fun D hD => ?_⟩
    have sD := Same.new_ (o := .lst []) hD
    refine ab_fld (sD _ _ p7) T.c_Run T.n_Run_picks (by show 4 < 1000; decide) fun H9 F9 p9 => ?_
    rw [putN ["base", "heaps", "states", "word_rows"] (by decide +kernel)] at p9
    have hok : ∀ y, PT.ok N y → okS N.ws.length (some N.ms.length) (some N.ms.length) y ∨ y = .pk := fun y hy => by
      cases y with
      | pk => exact .inr rfl
      | st m => exact .inl ⟨_, rfl, hy⟩
      | wr m => exact .inl ⟨_, rfl, hy⟩
      | sl => exact .inl (fun z => by cases z)
      | wl => exact .inl (fun z => by cases z)
      | _ => exact .inl hy
    have L8 := L7.add (ok' := PT.ok N) (x := PT.pk) hD id lst_nt hok (o := .lst [])
    have nw8 := nw_set (x := PT.pk) (ok' := PT.ok N) nw6 (F03 hD) hok
    have L9 := L8.fr F9 fun x hx => nep (nw8 x hx)
    have F9' : Fr (· = p) H H9 := F7'.trans ((Fr.of sD).trans F9)
    have to4 : ∀ x, okS N.ws.length none none x → A6 x = A2 x ∧ G6 x = G2 x := fun x hx => by
      have h4 : okS N.ws.length (some N.ms.length) none x := by
        cases x with
        | sl => exact absurd rfl hx
        | st m => obtain ⟨_, e, _⟩ := hx; cases e
        | wl => exact absurd rfl hx
        | wr m => obtain ⟨_, e, _⟩ := hx; cases e
        | _ => exact hx
      exact ⟨(same6 x h4).1.trans (same4 x hx).1, (same6 x h4).2.trans (same4 x hx).2⟩
    have np6 : ∀ x, x ≠ PT.pk → setG A6 .pk D x = A6 x ∧ setG G6 .pk (.lst []) x = G6 x := fun x hx => ⟨setG_ne hx, setG_ne hx⟩
    have P0 : PRunAt K H9 p (.ref np) (setG A6 .pk D) hI (setG G6 .pk (.lst [])) N (begun0 N) := by
      refine ⟨⟨dx, ?_⟩, L9, fun w hw => ?_, ?_, ?_, ?_, ⟨[], setG_same, .nil⟩, fun w hw => ?_, fun w hw => ⟨[], ?_, .nil⟩, fun w hw => ⟨[], ?_, .nil⟩, fun m hm => ?_, fun m hm => ⟨[], ?_, rfl⟩⟩
      · rw [p9, (np6 .hl (by intro z; cases z)).1, (np6 .sl (by intro z; cases z)).1, (np6 .wl (by intro z; cases z)).1, setG_same, (to4 .hl trivial).1, eD, (same6 .sl (fun z => by cases z)).1, e4, e6]
        rfl
      · obtain ⟨dz, q⟩ := hI5 w hw
        rw [(np6 (.t w) (by intro z; cases z)).1, (np6 (.s w) (by intro z; cases z)).1, (np6 (.k w) (by intro z; cases z)).1, (same6 (.t w) hw).1, (same6 (.s w) hw).1, (same6 (.k w) hw).1]
        refine ⟨dz, F9.at (sD _ _ (F7.at (s6 _ _ q) ?_)) ?_⟩
        all_goals exact fun z => by rw [z, p5] at q; exact absurd (congrArg (List.map (fun x : Str × V => x.1)) (HO.ins.inj (Option.some.inj q)).2.2) (by show ¬ ((["base", "heaps", "states"] : List Str) = heapK); decide +kernel)
      · rw [(np6 .hl (by intro z; cases z)).2, (to4 .hl trivial).2, eG]
      · rw [(np6 .sl (by intro z; cases z)).2, (same6 .sl (fun z => by cases z)).2, g4]
        congr 1
        refine List.map_congr_left fun m hm => ?_
        rw [(np6 (.st m) (by intro z; cases z)).1, (same6 (.st m) ⟨_, rfl, List.mem_range.mp hm⟩).1]
      · rw [(np6 .wl (by intro z; cases z)).2, g6]
        rfl
      · rw [(np6 (.t w) (by intro z; cases z)).2, (to4 (.t w) hw).2, (Pw w hw).1]; rfl
      · rw [(np6 (.s w) (by intro z; cases z)).2, (to4 (.s w) hw).2, (Pw w hw).2.1]
      · rw [(np6 (.k w) (by intro z; cases z)).2, (to4 (.k w) hw).2, (Pw w hw).2.2.1]
      · obtain ⟨v, q1, q2⟩ := st4 m hm
        rw [(np6 (.st m) (by intro z; cases z)).2, (same6 (.st m) ⟨_, rfl, hm⟩).2, q1]
        exact ⟨_, rfl, .cons (((q2.tk (Same.tk_ s6)).tk F7.tk).tk ((Same.tk_ sD).trans F9.tk)) .nil⟩
      · rw [(np6 (.wr m) (by intro z; cases z)).2, wr6 m hm]
    -- the letters
    obtain ⟨np', nw, nj, nb, ms, ws, ls, e', Z⟩ := hnet.keepF hp F9'
    cases e'
    obtain ⟨dn, hnp⟩ := Z.ob
    have ll := Z.ls.length
    have l12 := hN.l12
    refine ⟨_, rfl, np, dn, _, rfl, hnp, lkN netK (by decide +kernel), np, nw, nj, nb, ms, ws, ls, N, rfl, Z, fun q hq => ⟨q, rfl, ⟨_, SqL.of upd_same⟩, ?_⟩⟩
    have sq := Same.new_ (o := .lst ls) hq
    have n9 : ∀ x, PT.ok N x → setG A6 .pk D x ≠ q := fun x hx => ne_of_none (L9.at_ x hx) hq
    refine for_it (n := ls.length) walk_list (fun i σ H' => (∃ v1 v2 v3, σ = [some (.ref p), some (.ref np), v1, v2, v3]) ∧ H' q = some (.lst ls) ∧ Fr (PFoot N (setG A6 .pk D)) (upd H9 q (.lst ls)) H' ∧ ∃ G', PRunAt K H' p (.ref np) (setG A6 .pk D) hI G' N (begunI N i))
      ⟨⟨_, _, _, rfl⟩, upd_same, Fr.refl, _, P0.keep sq⟩ (fun i σ H' _ P => SqL.of P.2.1) ?_ ?_
    · rintro i y σ H10 H11 hi ⟨⟨v1, v2, v3, rfl⟩, hq10, F10, G', P⟩ ⟨rfl, hy⟩
      obtain ⟨l, hl, hl2⟩ := Z.ls.cget hy
      obtain ⟨pl, rfl, hpl⟩ := (hl2.tk (Same.tk_ sq)).tk F10.tk
      obtain ⟨w, x⟩ := l
      have hw : w < N.ws.length := (hN.ls _ (List.mem_of_getElem? hl)).1
      refine ⟨pl, _, rfl, SqT.of hpl, rfl, _, _, rfl, _, _, rfl, rfl, ?_⟩
      obtain ⟨dx', hp10⟩ := P.ob
      obtain ⟨dh, hh⟩ := P.hp w hw
      obtain ⟨ss, es, ps⟩ := P.s w hw
      obtain ⟨ks, ek, pk⟩ := P.k w hw
      have hhl := P.lay.at' (t := PT.hl) trivial P.hl
      have ht := P.lay.at' (t := PT.t w) hw (P.t w hw)
      have hs := P.lay.at' (t := PT.s w) hw es
      have hk := P.lay.at' (t := PT.k w) hw ek
      have inj : ∀ x y : PT, PT.ok N x → PT.ok N y → x ≠ y → setG A6 .pk D x ≠ setG A6 .pk D y := fun x y hx hy hne e => hne (P.lay.inj x y hx hy e)
      have len : ((begunI N i).put w).length ≤ 12 := Nat.le_trans (List.length_filterMap_le _ _) (by rw [List.length_take]; omega)
      have lsn : ((begunI N i).snd w).length ≤ 12 := Nat.le_trans (List.length_filterMap_le _ _) (by rw [List.length_take]; omega)
      have lss := ps.length
      have lks := pk.length
      rw [wks_len] at lks
      refine ⟨_, rfl, p, _, dx', _, .ref (setG A6 .pk D .hl), rfl, hp10, T.c_Run, T.n_Run_heaps, lk 1 runK (by decide +kernel), _, rfl, setG A6 .pk D .hl, _, _, _, rfl, rfl, SqL.of hhl, atI_nat (rm_get hw), hI w, dh, _, rfl, hh, lkN heapK (by decide +kernel), _, rfl, hI w, dh, setG A6 .pk D (.t w), setG A6 .pk D (.s w), setG A6 .pk D (.k w), .int x, .non, _, ss, ks, rfl, hh, ht, hs, hk,
        inj _ _ hw hw (by intro z; cases z), inj _ _ hw hw (by intro z; cases z), inj _ _ hw hw (by intro z; cases z), by rw [List.length_map]; omega, by omega, by omega, ?_⟩
      obtain ⟨G'', P', F'⟩ := P.send hw (x := x) (e := none) (ev := .non) rfl (by rfl) hs hk
      refine ⟨⟨_, _, _, rfl⟩, F'.at hq10 ?_, F10.trans F', G'', ?_⟩
      · rintro ⟨z, hz, e⟩
        exact n9 z hz e
      · rw [begunI_succ hl]
        exact P'
    · rintro σ H10 ⟨_, _, F10, G', P⟩
      rw [ll, begunI_all] at P
      have nwH : ∀ t, PT.ok N t → H (setG A6 .pk D t) = none := fun t ht => F1.none (nw8 t ht) (nep (nw8 t ht))
      refine k H10 _ hI G' (fun b o hb hn => F10 b o (sq b o (F9' b o hb hn)) (.inl ?_)) P nwH
      rintro ⟨t, ht, rfl⟩
      rw [nwH t ht] at hb
      cases hb
end Cr
namespace Cr
open PySem PySem.Spec PyProof.Rows L2 He
theorem sc_Lany_cut : FnScope ["_law_run", "_law_pot_here", "_law_states"] ["_law_run", "_law_pot_here"] (defScope s_Lany_cut) := ⟨rfl, rfl, rfl, by decide +kernel, rfl, by decide +kernel, by decide +kernel⟩
/-- a cut that the run can have -/
def GoodCut (H : Hp) (N : Nt) (R : Run) (v : V) : Prop := ∃ c, IsCut H v N.ms.length c ∧ ∀ m, m < N.ms.length → c m ≤ R.cnt m
theorem GoodCut.tk {H H' : Hp} {N : Nt} {R : Run} {v : V} (h : GoodCut H N R v) (t : Tk H H') : GoodCut H' N R v := let ⟨c, a, b⟩ := h; ⟨c, a.tk t, b⟩
theorem row_cut {bd : Nat → Nat} {q : List Int} {M : Nat} (h : RowB bd q) (l : q.length = M) : q.map V.int = (List.range M).map fun m => vN (q.getD m 0).toNat := by
  refine List.ext_getElem? fun i => ?_
  by_cases hi : i < M
  · have e : q[i]? = some (q.getD i 0) := nt_get (by omega) 0
    rw [rm_get hi, List.getElem?_map, e]
    show some (V.int _) = some (V.int _)
    rw [Int.toNat_of_nonneg (h i).1]
  · rw [List.getElem?_eq_none (by rw [List.length_map]; omega), List.getElem?_eq_none (by rw [rm_len]; omega)]
theorem good_row {H : Hp} {N : Nt} {R : Run} {q : List Int} {t : Addr} (h : RowB R.cnt q) (l : q.length = N.ms.length) (e : H t = some (.tup (q.map V.int))) : GoodCut H N R (.ref t) :=
  ⟨fun m => (q.getD m 0).toNat, ⟨t, rfl, by rw [e, row_cut h l]⟩, fun m _ => by have := (h m).2; have := (h m).1; show (q.getD m 0).toNat ≤ R.cnt m; omega⟩
def sp_Lany_cut (K : PySem.W.Frag) : Sp := fun vs H Q _ => ∃ (nv : V) (A : LT → Addr) (G : LT → HO) (N : Nt) (R : Run) (hn : Nat → Nat) (p : Addr), vs = [.ref (A .d), .ref p] ∧ LRunAt H nv A G N R hn ∧ IsPot H p ∧ ¬ Lf (LT.ok N R.cnt hn) A p ∧ N.ok ∧ R.Ok N ∧ R.evs.length ≤ 1000 ∧
  ∀ H' cv, Fr (· = p) H H' → IsPot H' p → GoodCut H' N R cv → Q cv H'
theorem ok_Lany_cut {P : Program} {w : World} {K : PySem.W.Frag} {mg : Str → Option Value} {base : Heap} (T : Txt K mg) : Cal P w K mg base 2 "_law_any_cut" (sp_Lany_cut K) := by
  have G_Ldigit := ok_Ldigit (P := P) (w := w) (base := base) T
  refine Cal.mk0 T.g_Lany_cut T.D_Lany_cut sc_Lany_cut (fun _ _ _ _ _ _ us hl => match us, hl with | [_, _], _ => rfl) (fun vs H Q E h => ?_) (fun cdv A outer s H vs Q E hr h => ?_)
  · obtain ⟨nv, A, G, N, R, hn, p, rfl, _⟩ := h
    rfl
  · obtain ⟨nv, A', G, N, R, hn, p, rfl, P, hpot, npS, hN, hR, hev, k⟩ := h
    have m5 := hN.m5
    refine ⟨_, (pss_one (ps_ret (pe_callTy call_tuple_of (by rfl) T.f_tuple (by decide +kernel) (pa_cons (pe_lc (own := [("_law_states", 2)]) rfl sc_Lany_cut.nd (pi_list (pe_dget (hu_of hr) (pv 0) pe_str (fun _ _ => rfl))) (blkOk_by (own := [("_law_states", 2)]) (N := ["_law_run", "_law_pot_here", "_law_states"]) (sc := defScope s_Lany_cut) (by decide +kernel)) (fun _ _ _ _ _ => (pg_name (i := 2) sc_Lany_cut.nd rfl (Or.inl rfl))) (fun _ _ _ _ _ => pts_nil) (fun _ _ _ _ _ => (pe_c G_Ldigit hr (by decide) (by rfl) (pa_cons (pv 1) (pa_cons (pe_callB (call_lenK (K := K) rfl) (by rfl) T.f_len (by decide +kernel) (pa_cons (pv 2) pa_nil)) pa_nil))))) pa_nil)))), ?_⟩
    refine ⟨_, rfl, A' .d, _, rfl, P.g_sts, A' .sts, rfl, ⟨_, SqL.of P.a_sts⟩, fun D hD => ?_⟩
    have nDp : D ≠ p := fun z => hpot.ne (by rw [← z]; exact hD)
    refine lc_it (n := ((List.range N.ms.length).map fun m => V.ref (A' (.tM m))).length) walk_list (fun i H' => Fr (· = p) H H' ∧ IsPot H' p ∧ ∃ q : List Int, H' D = some (.lst (q.map V.int)) ∧ q.length = i ∧ RowB R.cnt q) ⟨Fr.of (Same.new_ hD), hpot.keep (Same.new_ hD), [], upd_same, rfl, .nil⟩ (fun i H' _ Z => SqL.of (Z.1.at P.a_sts fun z => npS ⟨.sts, trivial, z⟩)) ?_ ?_
    · rintro i x H1 H1' hi ⟨F1, hp1, q, hq, lq, bq⟩ ⟨rfl, hx⟩
      rw [rm_len] at hi
      rw [rm_get hi] at hx
      cases hx
      have P1 := P.fr F1 fun x hx z => npS ⟨x, hx, z⟩
      obtain ⟨sts, hst, pst⟩ := P1.a_tM hi
      have lst := pst.length
      have hsl := hR.sl i
      have hce := hR.ce i
      refine ⟨rfl, ?_⟩
      refine ⟨_, rfl, _, rfl, A' (.tM i), sts, rfl, .inl (SqL.of hst), p, _, rfl, hp1, cdiv_small (by omega) (by omega), fun H2 v v0 v1 F2 hp2 => ?_⟩
      have hD2 := F2.at hq nDp
      refine ⟨_, hD2, line' (by rw [List.length_map]; omega), (F1.trans F2).putN hD, ?_, q ++ [v], by rw [upd_same, List.map_append] <;> rfl, by rw [List.length_append, lq] <;> rfl, bq.snoc v0 (by rw [lq]; omega)⟩
      obtain ⟨ms, z, e, l⟩ := hp2
      exact ⟨ms, z, by rw [upd_ne nDp.symm]; exact e, l⟩
    · rintro H1 ⟨F1, hp1, q, hq, lq, bq⟩
      rw [rm_len] at lq
      refine ⟨D, _, rfl, .inl ⟨SqL.of hq, fun t ht => ?_⟩⟩
      have st := Same.new_ (o := .tup (q.map V.int)) ht
      exact k _ _ (F1.trans (Fr.of st)) (hp1.keep st) (good_row bq lq upd_same)
end Cr
namespace Cr
open PySem PySem.Spec PyProof.Rows L2 He
theorem sc_Lheard_cut : FnScope ["_law_run", "_law_pot_here", "_law_cut", "_law_m", "_law_rows", "_law_c", "_law_one", "_law_other"] ["_law_run", "_law_pot_here"] (defScope s_Lheard_cut) := ⟨rfl, rfl, rfl, by decide +kernel, rfl, by decide +kernel, by decide +kernel⟩
theorem zeros_flat {n : Nat} : (List.replicate ((n : Nat) : Int).toNat [V.int 0]).flatten = (List.replicate n (0 : Int)).map V.int := by
  rw [Int.toNat_natCast, List.map_replicate]
  have : ∀ q : Nat, (List.replicate q [V.int 0]).flatten = List.replicate q (V.int 0) := fun q => by
    induction q with
    | zero => rfl
    | succ q ih => rw [List.replicate_succ, List.flatten_cons, ih]; rfl
  exact this _
def sp_Lheard_cut (K : PySem.W.Frag) : Sp := fun vs H Q _ => ∃ (nv : V) (A : LT → Addr) (G : LT → HO) (N : Nt) (R : Run) (p : Addr), vs = [.ref (A .d), .ref p] ∧ LRunAt H nv A G N R R.cnt ∧ IsPot H p ∧ ¬ Lf (LT.ok N R.cnt R.cnt) A p ∧ N.ok ∧ R.Ok N ∧ R.evs.length ≤ 1000 ∧
  ∀ H' cv, Fr (· = p) H H' → IsPot H' p → GoodCut H' N R cv → Q cv H'
theorem ok_Lheard_cut {P : Program} {w : World} {K : PySem.W.Frag} {mg : Str → Option Value} {base : Heap} (T : Txt K mg) : Cal P w K mg base 2 "_law_heard_cut" (sp_Lheard_cut K) := by
  have G_Ldigit := ok_Ldigit (P := P) (w := w) (base := base) T
  refine Cal.mk0 T.g_Lheard_cut T.D_Lheard_cut sc_Lheard_cut (fun _ _ _ _ _ _ us hl => match us, hl with | [_, _], _ => rfl) (fun vs H Q E h => ?_) (fun cdv A outer s H vs Q E hr h => ?_)
  · obtain ⟨nv, A, G, N, R, p, rfl, _⟩ := h
    rfl
  · obtain ⟨nv, A', G, N, R, p, rfl, P, hpot, npS, hN, hR, hev, k⟩ := h
    have m5 := hN.m5
    refine ⟨_, (pss_cons (ps_set (i := 2) sc_Lheard_cut.nd rfl (Or.inl rfl) (pe_op op_rep (pe_lst (pa_cons pe_int pa_nil)) (pe_callB call_len_seq (by rfl) T.f_len (by decide +kernel) (pa_cons (pe_dget (hu_of hr) (pv 0) pe_str (fun _ _ => rfl)) pa_nil))))
      (pss_cons (ps_for PassesOwn.never rfl (pi_enum (by rfl) T.f_enumerate (pa_cons (pe_dget (hu_of hr) (pv 0) pe_str (fun _ _ => rfl)) pa_nil)) (pg_tup rfl (pgs_cons (pg_name (i := 3) sc_Lheard_cut.nd rfl (Or.inl rfl)) (pgs_cons (pg_name (i := 4) sc_Lheard_cut.nd rfl (Or.inl rfl)) pgs_nil))) (pss_cons (ps_set (i := 5) sc_Lheard_cut.nd rfl (Or.inl rfl) (pe_c G_Ldigit hr (by decide) (by rfl) (pa_cons (pv 1) (pa_cons (pe_op op_add (pe_callB call_len_seq (by rfl) T.f_len (by decide +kernel) (pa_cons (pv 4) pa_nil)) pe_int) pa_nil))))
      (pss_one (ps_if (pt_cmpR op_gt (pv 5) pe_int (nomark _)) (pss_one (ps_setLc (i := 2) (own := [("_law_one", 6), ("_law_other", 7)]) rfl sc_Lheard_cut.nd rfl rfl (sw_true rfl rfl rfl (by decide +kernel)) (pi_zip (by rfl) T.f_zip (pa_cons (pv 2) (pa_cons (pe_ix ix_list (pv 4) (pe_op op_sub (pv 5) pe_int) (fun _ _ => rfl)) pa_nil))) (blkOk_by (own := [("_law_one", 6), ("_law_other", 7)]) (N := ["_law_run", "_law_pot_here", "_law_cut", "_law_m", "_law_rows", "_law_c", "_law_one", "_law_other"]) (sc := defScope s_Lheard_cut) (by decide +kernel)) (fun _ _ _ _ _ => (pg_tupK (K := K) (n := 2) rfl rfl (pgs_cons (pg_name (i := 6) sc_Lheard_cut.nd rfl (Or.inl rfl)) (pgs_cons (pg_name (i := 7) sc_Lheard_cut.nd rfl (Or.inl rfl)) pgs_nil)))) (fun _ _ _ _ _ => pts_nil) (fun _ _ _ _ _ => (pe_callB (call_max2 rfl) (by rfl) T.f_max (by decide +kernel) (pa_cons (pv 6) (pa_cons (pv 7) pa_nil)))))) pss_nil))))
      (pss_one (ps_ret (pe_callTy call_tuple_of (by rfl) T.f_tuple (by decide +kernel) (pa_cons (pv 2) pa_nil)))))), ?_⟩
    refine ⟨line (by show 1 ≤ 16777216; decide), fun z0 hz0 => ?_⟩
    have s1 := Same.new_ (o := .lst [.int 0]) hz0
    have P1 := P.keep s1
    refine ⟨_, rfl, A' .d, _, rfl, P1.g_hrd, A' .hrd, _, rfl, .inl (SqL.of P1.a_hrd), z0, _, _, rfl, rfl, upd_same, by rw [rm_len]; omega, by rw [rm_len]; omega, ?_, fun c0 hc0 => ?_⟩
    · rw [Int.toNat_natCast, rm_len]; show 1 * N.ms.length ≤ sizeLine; exact line (by omega)
    rw [zeros_flat, rm_len]
    have s2 := s1.trans (Same.new_ (o := .lst ((List.replicate N.ms.length (0 : Int)).map V.int)) hc0)
    have P2 := P.keep s2
    refine ⟨_, rfl, A' .d, _, rfl, P2.g_hrd, A' .hrd, _, rfl, SqL.of P2.a_hrd, ?_⟩
    refine for_it (n := ((List.range N.ms.length).map fun m => V.ref (A' (.hM m))).length) walk_enum (fun i σ H' => ∃ cq v3 v4 v5, σ = [some (.ref (A' .d)), some (.ref p), some (.ref cq), v3, v4, v5, none, none] ∧ Fr (· = p) H H' ∧ IsPot H' p ∧ cq ≠ p ∧ ∃ q : List Int, H' cq = some (.lst (q.map V.int)) ∧ q.length = N.ms.length ∧ RowB R.cnt q)
      ⟨c0, _, _, _, rfl, Fr.of s2, hpot.keep s2, fun z => (hpot.keep s1).ne (by rw [← z]; exact hc0), _, upd_same, List.length_replicate, .zeros _⟩ (fun i σ H' _ Z => SqL.of (by obtain ⟨_, _, _, _, _, F, _⟩ := Z; exact F.at P.a_hrd fun z => npS ⟨.hrd, trivial, z⟩)) ?_ ?_
    · rintro i x σ H3 H3' hi ⟨cq, v3, v4, v5, rfl, F3, hp3, ncp, q, hq, lq, bq⟩ ⟨t, x1, x2, rfl, ht, rfl, e1, e2⟩
      cases e1
      rw [rm_len] at hi
      have e2' : V.ref (A' (.hM i)) = x2 := Option.some.inj ((rm_get (f := fun m => V.ref (A' (.hM m))) hi).symm.trans e2)
      subst e2'
      have st := Same.new_ (o := .tup [.int (i : Nat), .ref (A' (.hM i))]) ht
      have F4 := F3.trans (Fr.of st)
      have P4 := P.fr F4 fun x hx z => npS ⟨x, hx, z⟩
      have hce := hR.ce i
      have hM4 := P4.a_hM hi
      refine ⟨t, _, rfl, SqT.of upd_same, rfl, _, _, rfl, _, _, rfl, rfl, ?_⟩
      refine ⟨_, rfl, _, rfl, A' (.hM i), _, rfl, .inl (SqL.of hM4), _, _, rfl, rfl, p, _, rfl, hp3.keep st, cdiv_small (by rw [rm_len]; omega) (by rw [rm_len]; omega), fun H5 v v0 v1 F5 hp5 => ?_⟩
      rw [rm_len] at v1
      have F45 := F4.trans F5
      have hq5 := F5.at (st _ _ hq) ncp
      refine ⟨_, rfl, _, _, rfl, rfl, _, rfl, ite2D (fun hv => ?_) (fun hv => ?_)⟩
      · obtain ⟨j, ej⟩ : ∃ j : Nat, v = ((j + 1 : Nat) : Int) := ⟨(v - 1).toNat, by omega⟩
        have hj : j < R.cnt i := by omega
        have P5 := P.fr F45 fun x hx z => npS ⟨x, hx, z⟩
        obtain ⟨r', hr', lr', br'⟩ := P5.a_hC (c := j) hi hj
        have hix : atI ((List.range (R.cnt i)).map fun c => V.ref (A' (.hC i c))) (v - 1) = some (V.ref (A' (.hC i j))) := by
          have e1 : v - 1 = ((j : Nat) : Int) := by omega
          rw [e1]
          exact atI_nat (rm_get hj)
        refine ⟨_, rfl, _, rfl, _, rfl, _, _, rfl, rfl, A' (.hM i), _, _, _, rfl, rfl, SqL.of (P5.a_hM hi), hix, cq, A' (.hC i j), _, _, rfl, SqL.of hq5, SqL.of hr', fun Dz hDz => ?_⟩
        have nDz : Dz ≠ p := fun z => hp5.ne (by rw [← z]; exact hDz)
        refine lc_it (n := N.ms.length) (walk_zip (xs := q.map V.int) (ys := r'.map V.int) (by rw [List.length_map, List.length_map, lq, lr']; omega)) (fun i H' => Same H5 H' ∧ ∃ q : List Int, H' Dz = some (.lst (q.map V.int)) ∧ q.length = i ∧ RowB R.cnt q) ⟨Same.new_ hDz, [], upd_same, rfl, .nil⟩ (fun i H' _ P => ⟨SqL.of (P.1 _ _ hq5), SqL.of (P.1 _ _ hr')⟩) ?_ ?_
        · rintro i x H9 H10 hi ⟨s9, q9, hq9, lq9, bq9⟩ ⟨t, x1, x2, rfl, ht, rfl, e1, e2⟩
          obtain ⟨y1, hy1, rfl⟩ := ints_of_get e1
          obtain ⟨y2, hy2, rfl⟩ := ints_of_get e2
          have b1 := bq i
          have b2 := br' i
          rw [getD_of hy1] at b1
          rw [getD_of hy2] at b2
          have st := Same.new_ (o := .tup [.int y1, .int y2]) ht
          refine ⟨t, _, rfl, SqT.of upd_same, rfl, _, _, rfl, _, _, rfl, rfl, rfl, ?_⟩
          refine ⟨_, rfl, _, rfl, _, _, rfl, _, st _ _ hq9, line' (by rw [List.length_map]; omega), (s9.trans st).putN hDz, q9 ++ [if y2 > y1 then y2 else y1], by rw [upd_same, List.map_append] <;> rfl, by rw [List.length_append, lq9] <;> rfl, bq9.snoc ?_ ?_⟩
          · split
            · exact b2.1
            · exact b1.1
          · rw [lq9]
            split
            · exact b2.2
            · exact b1.2
        · rintro H9 ⟨s9, q9, hq9, lq9, bq9⟩
          exact ⟨Dz, _, _, _, rfl, F45.trans (Fr.of s9), hp5.keep s9, nDz, q9, hq9, lq9, bq9⟩
      · exact ⟨cq, _, _, _, rfl, F45, hp5, ncp, q, hq5, lq, bq⟩
    · rintro σ H3 ⟨cq, v3, v4, v5, rfl, F3, hp3, ncp, q, hq, lq, bq⟩
      refine ⟨_, rfl, cq, _, rfl, .inl ⟨SqL.of hq, fun t ht => ?_⟩⟩
      have st := Same.new_ (o := .tup (q.map V.int)) ht
      exact k _ _ (F3.trans (Fr.of st)) (hp3.keep st) (good_row bq lq upd_same)
end Cr
namespace Cr
open PySem PySem.Spec PyProof.Rows L2 He
theorem sc_Lcuts : FnScope ["_law_run", "_law_cell", "_law_pot_here", "_law_found", "_law_k", "_law_states"] ["_law_run", "_law_cell"] (defScope s_Lcuts) := ⟨rfl, rfl, rfl, by decide +kernel, rfl, by decide +kernel, by decide +kernel⟩
def sp_Lcuts (K : PySem.W.Frag) : Sp := fun vs H Q _ => ∃ (nv : V) (A : LT → Addr) (G : LT → HO) (N : Nt) (R : Run) (cell : Int), vs = [.ref (A .d), .int cell] ∧ LRunAt H nv A G N R R.cnt ∧ N.ok ∧ R.Ok N ∧ R.evs.length ≤ 1000 ∧
  ∀ H' q cvs, Same H H' → H q = none → H' q = some (.lst cvs) → (∀ v ∈ cvs, GoodCut H' N R v) → Q (.ref q) H'
theorem ok_Lcuts {P : Program} {w : World} {K : PySem.W.Frag} {mg : Str → Option Value} {base : Heap} (T : Txt K mg) : Cal P w K mg base 3 "_law_cuts" (sp_Lcuts K) := by
  have G_Lpot := ok_Lpot (P := P) (w := w) (base := base) T
  have G_Lany_cut := ok_Lany_cut (P := P) (w := w) (base := base) T
  have G_Lheard_cut := ok_Lheard_cut (P := P) (w := w) (base := base) T
  refine Cal.mk0 T.g_Lcuts T.D_Lcuts sc_Lcuts (fun _ _ _ _ _ _ us hl => match us, hl with | [_, _], _ => rfl) (fun vs H Q E h => ?_) (fun cdv A outer s H vs Q E hr h => ?_)
  · obtain ⟨nv, A, G, N, R, cell, rfl, _⟩ := h
    rfl
  · obtain ⟨nv, A', G, N, R, cell, rfl, P, hN, hR, hev, k⟩ := h
    have m5 := hN.m5
    refine ⟨_, (pss_cons (ps_set (i := 2) sc_Lcuts.nd rfl (Or.inl rfl) (pe_c G_Lpot hr (by decide) (by rfl) (pa_cons (pv 1) pa_nil)))
      (pss_cons (ps_set (i := 3) sc_Lcuts.nd rfl (Or.inl rfl) (pe_lst (pa_cons (pe_callTy call_tuple_of (by rfl) T.f_tuple (by decide +kernel) (pa_cons (pe_op op_rep (pe_lst (pa_cons pe_int pa_nil)) (pe_callB call_len_seq (by rfl) T.f_len (by decide +kernel) (pa_cons (pe_dget (hu_of hr) (pv 0) pe_str (fun _ _ => rfl)) pa_nil))) pa_nil)) (pa_cons (pe_callTy call_tuple_of (by rfl) T.f_tuple (by decide +kernel) (pa_cons (pe_lc (own := [("_law_states", 5)]) rfl sc_Lcuts.nd (pi_list (pe_dget (hu_of hr) (pv 0) pe_str (fun _ _ => rfl))) (blkOk_by (own := [("_law_states", 5)]) (N := ["_law_run", "_law_cell", "_law_pot_here", "_law_found", "_law_k", "_law_states"]) (sc := defScope s_Lcuts) (by decide +kernel)) (fun _ _ _ _ _ => (pg_name (i := 5) sc_Lcuts.nd rfl (Or.inl rfl))) (fun _ _ _ _ _ => pts_nil) (fun _ _ _ _ _ => (pe_op op_sub (pe_callB (call_lenK (K := K) rfl) (by rfl) T.f_len (by decide +kernel) (pa_cons (pv 5) pa_nil)) pe_int))) pa_nil)) pa_nil))))
      (pss_cons (ps_for PassesOwn.never rfl (pi_range1 (by rfl) T.f_range (pa_cons pe_int pa_nil)) (pg_name (i := 4) sc_Lcuts.nd rfl (Or.inl rfl)) (pss_cons (ps_expr (pe_bm PySem.F.plainAttrs_list PySem.F.slot_list_append PySem.F.type_list_append mt_append (pv 3) (pa_cons (pe_c G_Lany_cut hr (by decide) (by rfl) (pa_cons (pv 0) (pa_cons (pv 2) pa_nil))) pa_nil)))
      (pss_one (ps_expr (pe_bm PySem.F.plainAttrs_list PySem.F.slot_list_append PySem.F.type_list_append mt_append (pv 3) (pa_cons (pe_c G_Lheard_cut hr (by decide) (by rfl) (pa_cons (pv 0) (pa_cons (pv 2) pa_nil))) pa_nil))))))
      (pss_one (ps_ret (pv 3)))))), ?_⟩
    refine ⟨_, rfl, cell, rfl, fun H1 p s1 np hpot => ?_⟩
    have notS : ∀ {b : Addr}, H b = none → ¬ Lf (LT.ok N R.cnt R.cnt) A' b := fun {b} hb => by
      rintro ⟨z, hz, rfl⟩
      have := P.lay.at_ z hz
      rw [hb] at this
      cases this
    refine ⟨line (by show 1 ≤ 16777216; decide), fun z0 hz0 => ?_⟩
    have s2 := s1.trans (Same.new_ (o := .lst [.int 0]) hz0)
    have P2 := P.keep s2
    refine ⟨_, rfl, A' .d, _, rfl, P2.g_sts, A' .sts, _, rfl, .inl (SqL.of P2.a_sts), z0, _, _, rfl, rfl, upd_same, by rw [rm_len]; omega, by rw [rm_len]; omega, ?_, fun c0 hc0 => ?_⟩
    · rw [Int.toNat_natCast, rm_len]; show 1 * N.ms.length ≤ sizeLine; exact line (by omega)
    rw [zeros_flat, rm_len]
    have s3 := s2.trans (Same.new_ (o := .lst ((List.replicate N.ms.length (0 : Int)).map V.int)) hc0)
    refine ⟨c0, _, rfl, .inl ⟨SqL.of upd_same, fun t0 ht0 => ?_⟩⟩
    have s4 := s3.trans (Same.new_ (o := .tup ((List.replicate N.ms.length (0 : Int)).map V.int)) ht0)
    have g0 : GoodCut (upd (upd (upd H1 z0 (.lst [.int 0])) c0 (.lst ((List.replicate N.ms.length (0 : Int)).map V.int))) t0 (.tup ((List.replicate N.ms.length (0 : Int)).map V.int))) N R (.ref t0) := good_row (.zeros _) List.length_replicate upd_same
    have hp4 := hpot.keep ((Same.new_ (o := .lst [.int 0]) hz0).trans ((Same.new_ (o := .lst ((List.replicate N.ms.length (0 : Int)).map V.int)) hc0).trans (Same.new_ (o := .tup ((List.replicate N.ms.length (0 : Int)).map V.int)) ht0)))
    have P4 := P.keep s4
    generalize upd (upd (upd H1 z0 (.lst [.int 0])) c0 (.lst ((List.replicate N.ms.length (0 : Int)).map V.int))) t0 (.tup ((List.replicate N.ms.length (0 : Int)).map V.int)) = H4 at *
    refine ⟨_, rfl, A' .d, _, rfl, P4.g_sts, A' .sts, rfl, ⟨_, SqL.of P4.a_sts⟩, fun D hD => ?_⟩
    refine lc_it (n := ((List.range N.ms.length).map fun m => V.ref (A' (.tM m))).length) walk_list (fun i H' => Same H4 H' ∧ ∃ q : List Int, H' D = some (.lst (q.map V.int)) ∧ q.length = i ∧ RowB R.cnt q) ⟨Same.new_ hD, [], upd_same, rfl, .nil⟩ (fun i H' _ Z => SqL.of (Z.1 _ _ P4.a_sts)) ?_ ?_
    · rintro i x H5 H5' hi ⟨s5, q, hq, lq, bq⟩ ⟨rfl, hx⟩
      rw [rm_len] at hi
      rw [rm_get hi] at hx
      cases hx
      have P5 := P4.keep s5
      obtain ⟨sts, hst, pst⟩ := P5.a_tM hi
      have lst := pst.length
      have hsl := hR.sl i
      refine ⟨rfl, ?_⟩
      refine ⟨_, rfl, A' (.tM i), sts, rfl, .inl (SqL.of hst), _, _, rfl, rfl, _, hq, line' (by rw [List.length_map]; omega), s5.putN hD, q ++ [(sts.length : Int) - 1], by rw [upd_same, List.map_append] <;> rfl, by rw [List.length_append, lq] <;> rfl, bq.snoc (by omega) (by rw [lq]; omega)⟩
    rintro H5 ⟨s5, q, hq, lq, bq⟩
    rw [rm_len] at lq
    refine ⟨D, _, rfl, .inl ⟨SqL.of hq, fun t1 ht1 => ?_⟩⟩
    have s6 := s5.trans (Same.new_ (o := .tup (q.map V.int)) ht1)
    have g1 : GoodCut (upd H5 t1 (.tup (q.map V.int))) N R (.ref t1) := good_row bq lq upd_same
    have g0' := g0.tk (Same.tk_ s6)
    refine ⟨line (by show 2 ≤ 16777216; decide), fun F hF => ?_⟩
    have s7 := Same.new_ (o := .lst [.ref t0, .ref t1]) hF
    have s47 := s6.trans s7
    have nFp : F ≠ p := fun z => (hp4.keep s6).ne (by rw [← z]; exact hF)
    have s07 := s4.trans s47
    have fF : H F = none := s4.free (s6.free hF)
    refine ⟨_, rfl, by decide, by decide, ?_⟩
    refine for_it (n := 4) walk_rngN (fun i σ H' => (∃ v4, σ = [some (.ref (A' .d)), some (.int cell), some (.ref p), some (.ref F), v4, none]) ∧ Same H H' ∧ IsPot H' p ∧ ∃ cvs, H' F = some (.lst cvs) ∧ cvs.length ≤ 2 + 2 * i ∧ ∀ v ∈ cvs, GoodCut H' N R v)
      ⟨⟨_, rfl⟩, s07, hp4.keep s47, [.ref t0, .ref t1], upd_same, Nat.le_refl _, fun v hv => by
        rcases List.mem_cons.mp hv with rfl | hv
        · exact g0'.tk (Same.tk_ s7)
        · rw [List.mem_singleton.mp hv]; exact g1.tk (Same.tk_ s7)⟩ (fun _ _ _ _ _ => trivial) ?_ ?_
    · rintro i x σ H8 H8' hi ⟨⟨v4, rfl⟩, s8, hp8, cvs, hcv, lcv, gcv⟩ ⟨rfl, rfl⟩
      have P8 := P.keep s8
      refine ⟨_, rfl, .inl ⟨rfl, _, SqL.of hcv⟩, _, rfl, _, rfl, nv, A', G, N, R, R.cnt, p, rfl, P8, hp8, notS np, hN, hR, hev, fun H9 cv F9 hp9 g9 => ?_⟩
      have s9 : Same H H9 := F9.same s8 fun b hb => by rw [hb]; exact np
      have hcv9 := F9.at hcv nFp
      have FF := Fr.put (S := (· = F)) (o := .lst (cvs ++ [cv])) rfl (not_tup_lst hcv9)
      refine ⟨F, cvs, _, rfl, rfl, hcv9, line' (by omega), ?_⟩
      have s10 : Same H (upd H9 F (.lst (cvs ++ [cv]))) := s9.putN fF
      have hp10 : IsPot (upd H9 F (.lst (cvs ++ [cv]))) p := by
        obtain ⟨ms, z, e, l⟩ := hp9
        exact ⟨ms, z, by rw [upd_ne nFp.symm]; exact e, l⟩
      have hcv10 : upd H9 F (.lst (cvs ++ [cv])) F = some (.lst (cvs ++ [cv])) := upd_same
      have gcv10 : ∀ v ∈ cvs ++ [cv], GoodCut (upd H9 F (.lst (cvs ++ [cv]))) N R v := fun v hv => by
        rcases List.mem_append.mp hv with hv | hv
        · exact (gcv v hv).tk (F9.tk.trans FF.tk)
        · rw [List.mem_singleton.mp hv]; exact g9.tk FF.tk
      have lcv10 : (cvs ++ [cv]).length ≤ 3 + 2 * i := by rw [List.length_append]; show cvs.length + 1 ≤ _; omega
      generalize upd H9 F (.lst (cvs ++ [cv])) = H10 at *
      generalize cvs ++ [cv] = cvs1 at *
      have P10 := P.keep s10
      refine ⟨_, rfl, .inl ⟨rfl, _, SqL.of hcv10⟩, _, rfl, _, rfl, nv, A', G, N, R, p, rfl, P10, hp10, notS np, hN, hR, hev, fun H11 cv2 F11 hp11 g11 => ?_⟩
      have s11 : Same H H11 := F11.same s10 fun b hb => by rw [hb]; exact np
      have hcv11 := F11.at hcv10 nFp
      have FF2 := Fr.put (S := (· = F)) (o := .lst (cvs1 ++ [cv2])) rfl (not_tup_lst hcv11)
      refine ⟨F, cvs1, _, rfl, rfl, hcv11, line' (by omega), ⟨_, rfl⟩, s11.putN fF, ?_, _, upd_same, by rw [List.length_append]; show cvs1.length + 1 ≤ _; omega, fun v hv => ?_⟩
      · obtain ⟨ms, z, e, l⟩ := hp11
        exact ⟨ms, z, by rw [upd_ne nFp.symm]; exact e, l⟩
      · rcases List.mem_append.mp hv with hv | hv
        · exact (gcv10 v hv).tk (F11.tk.trans FF2.tk)
        · rw [List.mem_singleton.mp hv]; exact g11.tk FF2.tk
    · rintro σ H8 ⟨⟨v4, rfl⟩, s8, hp8, cvs, hcv, lcv, gcv⟩
      exact ⟨_, rfl, k H8 F cvs s8 fF hcv gcv⟩
end Cr
namespace Cr
open PySem PySem.Spec PyProof.Rows L2 He
theorem sc_Run_net : FnScope ["self"] ["self"] (defScope s_Run_net) := ⟨rfl, rfl, rfl, by decide +kernel, rfl, by decide +kernel, by decide +kernel⟩
def sp_Run_net (K : PySem.W.Frag) : Sp := fun vs H Q _ => ∃ (p : Addr) (nv : V) (A : PT → Addr) (hI : Nat → Addr) (G : PT → HO) (N : Nt) (R : Run), vs = [.ref p] ∧ PRunAt K H p nv A hI G N R ∧ Q nv H
theorem ok_Run_net {P : Program} {w : World} {K : PySem.W.Frag} {mg : Str → Option Value} {base : Heap} (T : Txt K mg) : Met P w K mg base 1 (ga K "Run") "net" (sp_Run_net K) := by
  refine Met.mk0 T.c_Run T.m_Run_net T.D_Run_net sc_Run_net (fun _ _ _ _ _ _ us hl => match us, hl with | [_], _ => rfl) (fun vs H Q E h => ?_) (fun cdv A outer s H vs Q E hr h => ?_)
  · obtain ⟨p, nv, A, hI, G, N, R, rfl, _⟩ := h
    rfl
  · obtain ⟨p, nv, A', hI, G, N, R, rfl, P, k⟩ := h
    obtain ⟨dx, hp⟩ := P.ob
    refine ⟨_, (pss_one (ps_ret (pe_fld (pv 0) rfl))), ?_⟩
    exact ⟨_, rfl, p, _, dx, _, nv, rfl, hp, T.c_Run, T.n_Run_base, lk 0 runK (by decide +kernel), k⟩
end Cr
namespace Cr
open PySem PySem.Spec PyProof.Rows L2 He
theorem sc_Run_count : FnScope ["self", "m"] ["self", "m"] (defScope s_Run_count) := ⟨rfl, rfl, rfl, by decide +kernel, rfl, by decide +kernel, by decide +kernel⟩
def sp_Run_count (K : PySem.W.Frag) : Sp := fun vs H Q _ => ∃ (p : Addr) (nv : V) (A : PT → Addr) (hI : Nat → Addr) (G : PT → HO) (N : Nt) (R : Run) (m : Nat), vs = [.ref p, .int (m : Nat)] ∧ IsPNet K H nv N ∧ PRunAt K H p nv A hI G N R ∧ m < N.ms.length ∧ Q (.int (R.cnt m : Nat)) H
theorem ok_Run_count {P : Program} {w : World} {K : PySem.W.Frag} {mg : Str → Option Value} {base : Heap} (T : Txt K mg) : Met P w K mg base 3 (ga K "Run") "count" (sp_Run_count K) := by
  have G_Net_want_machine := ok_Net_want_machine (P := P) (w := w) (base := base) T
  refine Met.mk0 T.c_Run T.m_Run_count T.D_Run_count sc_Run_count (fun _ _ _ _ _ _ us hl => match us, hl with | [_, _], _ => rfl) (fun vs H Q E h => ?_) (fun cdv A outer s H vs Q E hr h => ?_)
  · obtain ⟨p, nv, A, hI, G, N, R, m, rfl, _⟩ := h
    rfl
  · obtain ⟨p, nv, A', hI, G, N, R, m, rfl, Z, P, hm, k⟩ := h
    obtain ⟨dx, hp⟩ := P.ob
    obtain ⟨np, nw, nj, nb, ms, ws, ls, rfl, Z⟩ := Z
    obtain ⟨dn, hnp⟩ := Z.ob
    have hl := P.lay.at_ .wl trivial
    rw [P.wl] at hl
    obtain ⟨us, e, hus⟩ := P.wr m hm
    have hs := P.lay.at_ (.wr m) hm
    rw [e] at hs
    refine ⟨_, (pss_cons (ps_expr (pe_mt G_Net_want_machine hr (by decide) (pe_fld (pv 0) rfl) (pa_cons (pv 1) pa_nil)))
      (pss_one (ps_ret (pe_callB call_len_seq (by rfl) T.f_len (by decide +kernel) (pa_cons (pe_ix ix_list (pe_fld (pv 0) rfl) (pv 1) (fun _ _ => rfl)) pa_nil))))), ?_⟩
    refine ⟨_, rfl, p, _, dx, _, .ref np, rfl, hp, T.c_Run, T.n_Run_base, lk 0 runK (by decide +kernel), np, dn, _, rfl, hnp, lkN netK (by decide +kernel), _, rfl, np, nw, nj, nb, ms, ws, ls, N, m, rfl, Z, hm, ?_⟩
    refine ⟨_, rfl, p, _, dx, _, .ref (A' .wl), rfl, hp, T.c_Run, T.n_Run_word_rows, lk 3 runK (by decide +kernel), _, rfl, A' .wl, _, _, _, rfl, rfl, SqL.of hl, atI_nat (rm_get hm), A' (.wr m), us, rfl, .inl (SqL.of hs), ?_⟩
    rw [hus]
    exact k
end Cr
namespace Cr
open PySem PySem.Spec PyProof.Rows L2 He
theorem sc_want_cut : FnScope ["run", "cut", "m", "c"] ["run", "cut"] (defScope s_want_cut) := ⟨rfl, rfl, rfl, by decide +kernel, rfl, by decide +kernel, by decide +kernel⟩
def sp_want_cut (K : PySem.W.Frag) : Sp := fun vs H Q _ => ∃ (a : V) (p : Addr) (nv : V) (A : PT → Addr) (hI : Nat → Addr) (G : PT → HO) (N : Nt) (R : Run) (c : Nat → Nat), vs = [.ref p, a] ∧ IsCut H a N.ms.length c ∧ IsPNet K H nv N ∧ PRunAt K H p nv A hI G N R ∧
  (∀ m, m < N.ms.length → c m ≤ R.cnt m) ∧ ∀ H', Same H H' → Q .non H'
theorem ok_want_cut {P : Program} {w : World} {K : PySem.W.Frag} {mg : Str → Option Value} {base : Heap} (T : Txt K mg) : Cal P w K mg base 4 "want_cut" (sp_want_cut K) := by
  have G_Run_net := ok_Run_net (P := P) (w := w) (base := base) T
  have G_Net_machines := ok_Net_machines (P := P) (w := w) (base := base) T
  have G_Run_count := ok_Run_count (P := P) (w := w) (base := base) T
  refine Cal.mk0 T.g_want_cut T.D_want_cut sc_want_cut (fun _ _ _ _ _ _ us hl => match us, hl with | [_, _], _ => rfl) (fun vs H Q E h => ?_) (fun cdv A outer s H vs Q E hr h => ?_)
  · obtain ⟨a, p, nv, A, hI, G, N, R, c, rfl, _⟩ := h
    rfl
  · obtain ⟨a, p, nv, A', hI, G, N, R, c, rfl, ⟨a, rfl, ha⟩, Z, P, hc, k⟩ := h
    obtain ⟨dx, hp⟩ := P.ob
    obtain ⟨np, nw, nj, nb, ms, ws, ls, rfl, Z1⟩ := id Z
    obtain ⟨dn, hnp⟩ := Z1.ob
    have lm := Z1.ms.length
    refine ⟨_, (pss_cons (ps_if (pt_cmpR op_ne (pe_callB call_len_seq (by rfl) T.f_len (by decide +kernel) (pa_cons (pv 1) pa_nil)) (pe_callB call_len_seq (by rfl) T.f_len (by decide +kernel) (pa_cons (pe_mt0 G_Net_machines hr (by decide) (pe_mt0 G_Run_net hr (by decide) (pv 0))) pa_nil)) (nomark _)) (pss_one ps_never) pss_nil)
      (pss_one (ps_for PassesOwn.never rfl (pi_enumT (by rfl) T.f_enumerate (pa_cons (pv 1) pa_nil)) (pg_tup rfl (pgs_cons (pg_name (i := 2) sc_want_cut.nd rfl (Or.inl rfl)) (pgs_cons (pg_name (i := 3) sc_want_cut.nd rfl (Or.inl rfl)) pgs_nil))) (pss_one (ps_if (PW.pt (pw_or (pt_cmpR op_lt (pv 3) pe_int (nomark _)) (pw_or1 (pt_cmpR op_gt (pv 3) (pe_mt G_Run_count hr (by decide) (pv 0) (pa_cons (pv 2) pa_nil)) (nomark _))))) (pss_one ps_never) pss_nil))))), ?_⟩
    refine ⟨_, rfl, a, _, rfl, .inr (SqT.of ha), _, rfl, p, dx, _, rfl, hp, lkN runK (by decide +kernel), p, _, A', hI, G, N, R, rfl, P, np, dn, _, rfl, hnp, lkN netK (by decide +kernel), np, nw, nj, nb, ms, ws, ls, N, rfl, Z1, fun q hq => ?_⟩
    have s1 := Same.new_ (o := .lst ms) hq
    refine ⟨q, _, rfl, .inl (SqL.of upd_same), rfl, _, rfl, iteNS (by rw [rm_len, lm]) ?_⟩
    refine ⟨_, rfl, a, _, rfl, s1 _ _ ha, ?_⟩
    refine for_it (n := N.ms.length) (walk_enumT.mono' rm_len) (fun i σ H' => (∃ v1 v2, σ = [some (.ref p), some (.ref a), v1, v2]) ∧ Same H H') ⟨⟨_, _, rfl⟩, s1⟩ (fun i σ H' _ P => P.2 _ _ ha) ?_ ?_
    · rintro i x σ H1 H2 hi ⟨⟨v1, v2, rfl⟩, s2⟩ ⟨t, x1, x2, rfl, ht, rfl, e1, e2⟩
      cases e1
      have e2' : vN (c i) = x2 := Option.some.inj ((rm_get (f := fun m => vN (c m)) hi).symm.trans e2)
      subst e2'
      have s3 := s2.trans (Same.new_ (o := .tup [.int (i : Nat), vN (c i)]) ht)
      refine ⟨t, _, rfl, SqT.of upd_same, rfl, _, _, rfl, _, _, rfl, rfl, ?_⟩
      refine ⟨_, rfl, _, _, rfl, rfl, _, rfl, iteN (by omega) ?_⟩
      refine ⟨_, rfl, _, rfl, p, dx, _, rfl, s3 _ _ hp, lkN runK (by decide +kernel), _, rfl, p, _, A', hI, G, N, R, i, rfl, Z.keep s3, P.keep s3, hi, ?_⟩
      exact ⟨_, _, rfl, rfl, _, rfl, iteN (by have := hc i hi; omega) ⟨⟨_, _, rfl⟩, s3⟩⟩
    · rintro σ H1 ⟨_, s2⟩
      exact k H1 s2
end Cr
namespace Cr
open PySem PySem.Spec PyProof.Rows L2 He
theorem sc_Run_put_many : FnScope ["self", "way"] ["self", "way"] (defScope s_Run_put_many) := ⟨rfl, rfl, rfl, by decide +kernel, rfl, by decide +kernel, by decide +kernel⟩
def sp_Run_put_many (K : PySem.W.Frag) : Sp := fun vs H Q _ => ∃ (p : Addr) (nv : V) (A : PT → Addr) (hI : Nat → Addr) (G : PT → HO) (N : Nt) (R : Run) (w : Nat), vs = [.ref p, .int (w : Nat)] ∧ PRunAt K H p nv A hI G N R ∧ w < N.ws.length ∧ Q (.int ((R.put w).length : Nat)) H
theorem ok_Run_put_many {P : Program} {w : World} {K : PySem.W.Frag} {mg : Str → Option Value} {base : Heap} (T : Txt K mg) : Met P w K mg base 2 (ga K "Run") "put_many" (sp_Run_put_many K) := by
  have G_Run_want_way := ok_Run_want_way (P := P) (w := w) (base := base) T
  refine Met.mk0 T.c_Run T.m_Run_put_many T.D_Run_put_many sc_Run_put_many (fun _ _ _ _ _ _ us hl => match us, hl with | [_, _], _ => rfl) (fun vs H Q E h => ?_) (fun cdv A outer s H vs Q E hr h => ?_)
  · obtain ⟨p, nv, A, hI, G, N, R, w, rfl, _⟩ := h
    rfl
  · obtain ⟨p, nv, A', hI, G, N, R, w', rfl, P, hw, k⟩ := h
    obtain ⟨dx, hp⟩ := P.ob
    have hl := P.lay.at_ .hl trivial
    rw [P.hl] at hl
    obtain ⟨dh, hh⟩ := P.hp w' hw
    have ht := P.lay.at_ (.t w') hw
    rw [P.t w' hw] at ht
    refine ⟨_, (pss_cons (ps_expr (pe_mt G_Run_want_way hr (by decide) (pv 0) (pa_cons (pv 1) pa_nil)))
      (pss_one (ps_ret (pe_callB call_len_seq (by rfl) T.f_len (by decide +kernel) (pa_cons (pe_fld (pe_ix ix_list (pe_fld (pv 0) rfl) (pv 1) (fun _ _ => rfl)) rfl) pa_nil))))), ?_⟩
    refine ⟨_, rfl, p, dx, _, rfl, hp, lkN runK (by decide +kernel), _, rfl, p, nv, A', hI, G, N, R, w', rfl, P, hw, ?_⟩
    refine ⟨_, rfl, p, _, dx, _, .ref (A' .hl), rfl, hp, T.c_Run, T.n_Run_heaps, lk 1 runK (by decide +kernel), _, rfl, A' .hl, _, _, _, rfl, rfl, SqL.of hl, atI_nat (rm_get hw), hI w', _, dh, _, .ref (A' (.t w')), rfl, hh, T.c_Heap, T.n_Heap_tells, lk 0 heapK (by decide +kernel), A' (.t w'), _, rfl, .inl (SqL.of ht), ?_⟩
    rw [List.length_map]
    exact k
end Cr
namespace Cr
open PySem PySem.Spec PyProof.Rows L2 He
theorem sc_Run_worked_by : FnScope ["self", "way", "number"] ["self", "way", "number"] (defScope s_Run_worked_by) := ⟨rfl, rfl, rfl, by decide +kernel, rfl, by decide +kernel, by decide +kernel⟩
def sp_Run_worked_by (K : PySem.W.Frag) : Sp := fun vs H Q _ => ∃ (p : Addr) (nv : V) (A : PT → Addr) (hI : Nat → Addr) (G : PT → HO) (N : Nt) (R : Run) (w n : Nat), vs = [.ref p, .int (w : Nat), .int (n : Nat)] ∧ PRunAt K H p nv A hI G N R ∧ w < N.ws.length ∧ n < (R.put w).length ∧
  ∀ v, IsSn H v (R.worker w n) → Q v H
theorem ok_Run_worked_by {P : Program} {w : World} {K : PySem.W.Frag} {mg : Str → Option Value} {base : Heap} (T : Txt K mg) : Met P w K mg base 3 (ga K "Run") "worked_by" (sp_Run_worked_by K) := by
  have G_Run_want_put := ok_Run_want_put (P := P) (w := w) (base := base) T
  refine Met.mk0 T.c_Run T.m_Run_worked_by T.D_Run_worked_by sc_Run_worked_by (fun _ _ _ _ _ _ us hl => match us, hl with | [_, _, _], _ => rfl) (fun vs H Q E h => ?_) (fun cdv A outer s H vs Q E hr h => ?_)
  · obtain ⟨p, nv, A, hI, G, N, R, w, n, rfl, _⟩ := h
    rfl
  · obtain ⟨p, nv, A', hI, G, N, R, w', n, rfl, P, hw, hn, k⟩ := h
    obtain ⟨dx, hp⟩ := P.ob
    have hl := P.lay.at_ .hl trivial
    rw [P.hl] at hl
    obtain ⟨dh, hh⟩ := P.hp w' hw
    have ht := P.lay.at_ (.t w') hw
    rw [P.t w' hw] at ht
    obtain ⟨us, e, hus⟩ := P.k w' hw
    have hs := P.lay.at_ (.k w') hw
    rw [e] at hs
    obtain ⟨v, hv, hv2⟩ := hus.cget2 (wks_get hn)
    refine ⟨_, (pss_cons (ps_expr (pe_mt G_Run_want_put hr (by decide) (pv 0) (pa_cons (pv 1) (pa_cons (pv 2) pa_nil))))
      (pss_one (ps_ret (pe_ix ix_list (pe_fld (pe_ix ix_list (pe_fld (pv 0) rfl) (pv 1) (fun _ _ => rfl)) rfl) (pv 2) (fun _ _ => rfl))))), ?_⟩
    refine ⟨_, rfl, p, dx, _, rfl, hp, lkN runK (by decide +kernel), _, rfl, _, rfl, p, nv, A', hI, G, N, R, w', n, rfl, P, hw, hn, ?_⟩
    exact ⟨_, rfl, p, _, dx, _, .ref (A' .hl), rfl, hp, T.c_Run, T.n_Run_heaps, lk 1 runK (by decide +kernel), _, rfl, A' .hl, _, _, _, rfl, rfl, SqL.of hl, atI_nat (rm_get hw), hI w', _, dh, _, .ref (A' (.k w')), rfl, hh, T.c_Heap, T.n_Heap_worker, lk 2 heapK (by decide +kernel), _, rfl, A' (.k w'), _, _, _, rfl, rfl, SqL.of hs, atI_nat hv, k v hv2⟩
end Cr
namespace Cr
open PySem PySem.Spec PyProof.Rows L2 He
theorem sc_is_within : FnScope ["cut", "event"] ["cut", "event"] (defScope s_is_within) := ⟨rfl, rfl, rfl, by decide +kernel, rfl, by decide +kernel, by decide +kernel⟩
def sp_is_within (K : PySem.W.Frag) : Sp := fun vs H Q _ => ∃ (a v : V) (M : Nat) (c : Nat → Nat) (e : Nat × Nat), vs = [a, v] ∧ IsCut H a M c ∧ IsPk H v e ∧ e.1 < M ∧ Q (.bl (decide (e.2 ≤ c e.1))) H
theorem ok_is_within {P : Program} {w : World} {K : PySem.W.Frag} {mg : Str → Option Value} {base : Heap} (T : Txt K mg) : Cal P w K mg base 1 "is_within" (sp_is_within K) := by
  refine Cal.mk0 T.g_is_within T.D_is_within sc_is_within (fun _ _ _ _ _ _ us hl => match us, hl with | [_, _], _ => rfl) (fun vs H Q E h => ?_) (fun cdv A outer s H vs Q E hr h => ?_)
  · obtain ⟨a, v, M, c, e, rfl, _⟩ := h
    rfl
  · obtain ⟨a, v, M, c, e, rfl, ⟨a, rfl, ha⟩, ⟨p, rfl, hp⟩, hm, k⟩ := h
    refine ⟨_, (pss_one (ps_ret (pe_cmpR op_le (pe_ix ix_tup (pv 1) pe_int (fun _ _ => rfl)) (pe_ix ix_tup (pv 0) (pe_ix ix_tup (pv 1) pe_int (fun _ _ => rfl)) (fun _ _ => rfl)) (nomark _)))), ?_⟩
    refine ⟨_, rfl, p, _, _, _, rfl, rfl, SqT.of hp, atI_nat (j := 1) rfl, _, rfl, _, rfl, p, _, _, _, rfl, rfl, SqT.of hp, atI_nat (j := 0) rfl, a, _, _, _, rfl, rfl, SqT.of ha, atI_nat (rm_get hm), _, _, rfl, rfl, ?_⟩
    refine bl_e ?_ k
    rw [Bool.eq_iff_iff, decide_eq_true_iff, decide_eq_true_iff]
    exact Int.ofNat_le
end Cr
namespace Cr
open PySem PySem.Spec PyProof.Rows L2 He
theorem sc_is_there : FnScope ["cut", "sender"] ["cut", "sender"] (defScope s_is_there) := ⟨rfl, rfl, rfl, by decide +kernel, rfl, by decide +kernel, by decide +kernel⟩
def thereB (c : Nat → Nat) : Option (Nat × Nat) → Bool
  | none => true
  | some e => decide (e.2 ≤ c e.1)
def sp_is_there (K : PySem.W.Frag) : Sp := fun vs H Q _ => ∃ (a v : V) (M : Nat) (c : Nat → Nat) (s : Option (Nat × Nat)), vs = [a, v] ∧ IsCut H a M c ∧ IsSn H v s ∧ (∀ e, s = some e → e.1 < M) ∧ Q (.bl (thereB c s)) H
theorem ok_is_there {P : Program} {w : World} {K : PySem.W.Frag} {mg : Str → Option Value} {base : Heap} (T : Txt K mg) : Cal P w K mg base 2 "is_there" (sp_is_there K) := by
  have G_is_within := ok_is_within (P := P) (w := w) (base := base) T
  refine Cal.mk0 T.g_is_there T.D_is_there sc_is_there (fun _ _ _ _ _ _ us hl => match us, hl with | [_, _], _ => rfl) (fun vs H Q E h => ?_) (fun cdv A outer s H vs Q E hr h => ?_)
  · obtain ⟨a, v, M, c, e, rfl, _⟩ := h
    rfl
  · obtain ⟨a, v, M, c, s, rfl, ha, hs, hm, k⟩ := h
    refine ⟨_, (pss_one (ps_ret (pe_or (pe_cmp (pc_isN (pv 1)) rfl) (pe_one (pe_c G_is_within hr (by decide) (by rfl) (pa_cons (pv 0) (pa_cons (pv 1) pa_nil))))))), ?_⟩
    cases s with
    | none =>
      cases (show v = .non from hs)
      exact ⟨_, rfl, true, rfl, iteT k⟩
    | some e =>
      obtain ⟨p, rfl, hp⟩ := id hs
      refine ⟨_, rfl, false, rfl, iteF ?_⟩
      exact ⟨_, rfl, _, rfl, a, .ref p, M, c, e, rfl, ha, hs, hm e rfl, k⟩
end Cr
namespace Cr
open PySem PySem.Spec PyProof.Rows L2 He
theorem sc_Run_sent_by : FnScope ["self", "way", "number"] ["self", "way", "number"] (defScope s_Run_sent_by) := ⟨rfl, rfl, rfl, by decide +kernel, rfl, by decide +kernel, by decide +kernel⟩
def sp_Run_sent_by (K : PySem.W.Frag) : Sp := fun vs H Q _ => ∃ (p : Addr) (nv : V) (A : PT → Addr) (hI : Nat → Addr) (G : PT → HO) (N : Nt) (R : Run) (w n : Nat), vs = [.ref p, .int (w : Nat), .int (n : Nat)] ∧ PRunAt K H p nv A hI G N R ∧ w < N.ws.length ∧ n < (R.put w).length ∧ R.Ok N ∧
  ∀ v, IsSn H v ((R.snd w).getD n none) → Q v H
theorem ok_Run_sent_by {P : Program} {w : World} {K : PySem.W.Frag} {mg : Str → Option Value} {base : Heap} (T : Txt K mg) : Met P w K mg base 3 (ga K "Run") "sent_by" (sp_Run_sent_by K) := by
  have G_Run_want_put := ok_Run_want_put (P := P) (w := w) (base := base) T
  refine Met.mk0 T.c_Run T.m_Run_sent_by T.D_Run_sent_by sc_Run_sent_by (fun _ _ _ _ _ _ us hl => match us, hl with | [_, _, _], _ => rfl) (fun vs H Q E h => ?_) (fun cdv A outer s H vs Q E hr h => ?_)
  · obtain ⟨p, nv, A, hI, G, N, R, w, n, rfl, _⟩ := h
    rfl
  · obtain ⟨p, nv, A', hI, G, N, R, w', n, rfl, P, hw, hn, hR, k⟩ := h
    obtain ⟨dx, hp⟩ := P.ob
    have hl := P.lay.at_ .hl trivial
    rw [P.hl] at hl
    obtain ⟨dh, hh⟩ := P.hp w' hw
    have ht := P.lay.at_ (.t w') hw
    rw [P.t w' hw] at ht
    obtain ⟨us, e, hus⟩ := P.s w' hw
    have hs := P.lay.at_ (.s w') hw
    rw [e] at hs
    have hn2 : n < (R.snd w').length := by rw [← hR.ps]; exact hn
    obtain ⟨v, hv, hv2⟩ := hus.cget2 (nt_get hn2 none)
    refine ⟨_, (pss_cons (ps_expr (pe_mt G_Run_want_put hr (by decide) (pv 0) (pa_cons (pv 1) (pa_cons (pv 2) pa_nil))))
      (pss_one (ps_ret (pe_ix ix_list (pe_fld (pe_ix ix_list (pe_fld (pv 0) rfl) (pv 1) (fun _ _ => rfl)) rfl) (pv 2) (fun _ _ => rfl))))), ?_⟩
    refine ⟨_, rfl, p, dx, _, rfl, hp, lkN runK (by decide +kernel), _, rfl, _, rfl, p, nv, A', hI, G, N, R, w', n, rfl, P, hw, hn, ?_⟩
    exact ⟨_, rfl, p, _, dx, _, .ref (A' .hl), rfl, hp, T.c_Run, T.n_Run_heaps, lk 1 runK (by decide +kernel), _, rfl, A' .hl, _, _, _, rfl, rfl, SqL.of hl, atI_nat (rm_get hw), hI w', _, dh, _, .ref (A' (.s w')), rfl, hh, T.c_Heap, T.n_Heap_sender, lk 1 heapK (by decide +kernel), _, rfl, A' (.s w'), _, _, _, rfl, rfl, SqL.of hs, atI_nat hv, k v hv2⟩
end Cr
namespace Cr
open PySem PySem.Spec PyProof.Rows L2 He
theorem sc_orphans_of : FnScope ["run", "cut", "found", "way", "number", "worker"] ["run", "cut"] (defScope s_orphans_of) := ⟨rfl, rfl, rfl, by decide +kernel, rfl, by decide +kernel, by decide +kernel⟩
theorem isOrphan_some {R : Run} {c : Nat → Nat} {w n : Nat} {e : Nat × Nat} (h : R.worker w n = some e) : isOrphan R c w n = (decide (e.2 ≤ c e.1) && !thereB c ((R.snd w).getD n none)) := by
  unfold isOrphan
  rw [h]
  dsimp only
  congr 1
  cases (R.snd w).getD n none with
  | none => rfl
  | some s =>
    show decide (c s.1 < s.2) = !decide (s.2 ≤ c s.1)
    rw [← decide_not]
    exact decide_eq_decide.mpr Nat.not_le.symm
theorem isOrphan_none {R : Run} {c : Nat → Nat} {w n : Nat} (h : R.worker w n = none) : isOrphan R c w n = false := by
  unfold isOrphan
  rw [h]
def sp_orphans_of (K : PySem.W.Frag) : Sp := fun vs H Q _ => ∃ (a : V) (p : Addr) (nv : V) (A : PT → Addr) (hI : Nat → Addr) (G : PT → HO) (N : Nt) (R : Run) (c : Nat → Nat), vs = [.ref p, a] ∧ IsCut H a N.ms.length c ∧ IsPNet K H nv N ∧ PRunAt K H p nv A hI G N R ∧
  (∀ m, m < N.ms.length → c m ≤ R.cnt m) ∧ N.ok ∧ Ply N R ∧ R.evs.length ≤ 1000 ∧ ∀ H' q us, Same H H' → H q = none → H' q = some (.lst us) → Paired (IsPk H') us (orph N R c) → Q (.ref q) H'
theorem ok_orphans_of {P : Program} {w : World} {K : PySem.W.Frag} {mg : Str → Option Value} {base : Heap} (T : Txt K mg) : Cal P w K mg base 5 "orphans_of" (sp_orphans_of K) := by
  have G_want_cut := ok_want_cut (P := P) (w := w) (base := base) T
  have G_Run_net := ok_Run_net (P := P) (w := w) (base := base) T
  have G_Net_ways := ok_Net_ways (P := P) (w := w) (base := base) T
  have G_Run_put_many := ok_Run_put_many (P := P) (w := w) (base := base) T
  have G_Run_worked_by := ok_Run_worked_by (P := P) (w := w) (base := base) T
  have G_is_there := ok_is_there (P := P) (w := w) (base := base) T
  have G_Run_sent_by := ok_Run_sent_by (P := P) (w := w) (base := base) T
  have G_is_within := ok_is_within (P := P) (w := w) (base := base) T
  refine Cal.mk0 T.g_orphans_of T.D_orphans_of sc_orphans_of (fun _ _ _ _ _ _ us hl => match us, hl with | [_, _], _ => rfl) (fun vs H Q E h => ?_) (fun cdv A outer s H vs Q E hr h => ?_)
  · obtain ⟨a, p, nv, A, hI, G, N, R, c, rfl, _⟩ := h
    rfl
  · obtain ⟨a, p, nv, A', hI, G, N, R, c, rfl, hcut, Z, P, hc, hN, hP, hev, k⟩ := h
    have hR := hP.ok hN
    have w10 := hN.w10
    obtain ⟨a', rfl, ha⟩ := id hcut
    obtain ⟨dx, hp⟩ := P.ob
    obtain ⟨np, nw, nj, nb, ms, ws, ls, rfl, Z1⟩ := id Z
    refine ⟨_, (pss_cons (ps_expr (pe_c G_want_cut hr (by decide) (by rfl) (pa_cons (pv 0) (pa_cons (pv 1) pa_nil))))
      (pss_cons (ps_set (i := 2) sc_orphans_of.nd rfl (Or.inl rfl) (pe_lst pa_nil))
      (pss_cons (ps_for PassesOwn.never rfl (pi_range1 (by rfl) T.f_range (pa_cons (pe_callB call_len_seq (by rfl) T.f_len (by decide +kernel) (pa_cons (pe_mt0 G_Net_ways hr (by decide) (pe_mt0 G_Run_net hr (by decide) (pv 0))) pa_nil)) pa_nil)) (pg_name (i := 3) sc_orphans_of.nd rfl (Or.inl rfl)) (pss_one (ps_for PassesOwn.never rfl (pi_range1 (by rfl) T.f_range (pa_cons (pe_mt G_Run_put_many hr (by decide) (pv 0) (pa_cons (pv 3) pa_nil)) pa_nil)) (pg_name (i := 4) sc_orphans_of.nd rfl (Or.inl rfl)) (pss_cons (ps_set (i := 5) sc_orphans_of.nd rfl (Or.inl rfl) (pe_mt G_Run_worked_by hr (by decide) (pv 0) (pa_cons (pv 3) (pa_cons (pv 4) pa_nil))))
      (pss_one (ps_if (PW.pt (pw_and (pt_cmp (pc_notN (pv 5))) (pw_and (pt_val (pe_c G_is_within hr (by decide) (by rfl) (pa_cons (pv 1) (pa_cons (pv 5) pa_nil)))) (pw_and1 (pt_not (pt_val (pe_c G_is_there hr (by decide) (by rfl) (pa_cons (pv 1) (pa_cons (pe_mt G_Run_sent_by hr (by decide) (pv 0) (pa_cons (pv 3) (pa_cons (pv 4) pa_nil))) pa_nil))))))))) (pss_one (ps_expr (pe_bm PySem.F.plainAttrs_list PySem.F.slot_list_append PySem.F.type_list_append mt_append (pv 2) (pa_cons (pe_tup (pa_cons (pv 3) (pa_cons (pv 4) pa_nil))) pa_nil)))) pss_nil))))))
      (pss_one (ps_ret (pv 2)))))), ?_⟩
    refine ⟨_, rfl, _, rfl, .ref a', p, _, A', hI, G, N, R, c, rfl, hcut, Z, P, hc, fun H1 s1 => ?_⟩
    refine ⟨line (by show 0 ≤ 16777216; decide), fun D hD => ?_⟩
    have s2 := s1.trans (Same.new_ (o := .lst []) hD)
    have hD0 := s1.free hD
    have Z2 := Z1.keep s2
    obtain ⟨dn, hnp⟩ := Z2.ob
    have lw := Z1.ws.length
    refine ⟨_, rfl, p, dx, _, rfl, s2 _ _ hp, lkN runK (by decide +kernel), p, _, A', hI, G, N, R, rfl, P.keep s2, np, dn, _, rfl, hnp, lkN netK (by decide +kernel), np, nw, nj, nb, ms, ws, ls, N, rfl, Z2, fun q hq => ?_⟩
    have s3 := Same.new_ (o := .lst ws) hq
    have nDq : D ≠ q := ne_of_none (upd_same (H := H1) (a := D) (o := .lst [])) hq
    refine ⟨q, _, rfl, .inl (SqL.of upd_same), _, rfl, by omega, by omega, ?_⟩
    refine for_it walk_rngN (fun w σ H' => (∃ v1 v2 v3, σ = [some (.ref p), some (.ref a'), some (.ref D), v1, v2, v3]) ∧ Same H H' ∧ ∃ us, H' D = some (.lst us) ∧ Paired (IsPk H') us ((List.range w).flatMap (orphW R c))) ⟨⟨_, _, _, rfl⟩, s2.trans s3, [], by rw [upd_ne nDq, upd_same], .nil⟩ (fun _ _ _ _ _ => trivial) ?_ ?_
    · rintro w' x σ H2 H2' hw ⟨⟨v1, v2, v3, rfl⟩, sA, us, hus, pus⟩ ⟨rfl, rfl⟩
      rw [lw] at hw
      have pl := hR.pl w'
      refine ⟨_, rfl, p, dx, _, rfl, sA _ _ hp, lkN runK (by decide +kernel), _, rfl, p, _, A', hI, G, N, R, w', rfl, P.keep sA, hw, _, rfl, by omega, by omega, ?_⟩
      refine for_it walk_rngN (fun n σ H' => (∃ v2 v3, σ = [some (.ref p), some (.ref a'), some (.ref D), some (.int (w' : Nat)), v2, v3]) ∧ Same H H' ∧ ∃ us, H' D = some (.lst us) ∧ Paired (IsPk H') us ((List.range w').flatMap (orphW R c) ++ ((List.range n).filter (isOrphan R c w')).map fun n => (w', n))) ⟨⟨_, _, rfl⟩, sA, us, hus, by simpa using pus⟩ (fun _ _ _ _ _ => trivial) ?_ ?_
      · rintro n x σ H3 H3' hn ⟨⟨v2, v3, rfl⟩, sB, us, hus, pus⟩ ⟨rfl, rfl⟩
        have PB := P.keep sB
        have hpB := sB _ _ hp
        have lus := pus.length
        have l1 : ((List.range w').flatMap (orphW R c)).length ≤ w' * 12012 := fm_len (fun w => Nat.le_trans orphW_len (by have := hR.pl w; omega)) w'
        have l2 := @rf_len (Nat × Nat) (isOrphan R c w') (fun n => (w', n)) n
        rw [List.length_append] at lus
        have l3 : us.length < 16777216 := by omega
        refine ⟨_, rfl, p, dx, _, rfl, hpB, lkN runK (by decide +kernel), _, rfl, _, rfl, p, _, A', hI, G, N, R, w', n, rfl, PB, hw, hn, fun v hv => ?_⟩
        have skip : isOrphan R c w' n = false → ((List.range w').flatMap (orphW R c) ++ ((List.range (n + 1)).filter (isOrphan R c w')).map fun n => (w', n)) = ((List.range w').flatMap (orphW R c) ++ ((List.range n).filter (isOrphan R c w')).map fun n => (w', n)) := fun h => by rw [rf_f h]
        cases hwk : R.worker w' n with
        | none =>
          rw [hwk] at hv
          cases (show v = .non from hv)
          refine ⟨_, rfl, _, rfl, iteNS rfl ?_⟩
          refine ⟨⟨_, _, rfl⟩, sB, us, hus, ?_⟩
          rw [skip (isOrphan_none hwk)]
          exact pus
        | some e =>
          rw [hwk] at hv
          obtain ⟨pe, rfl, hpe⟩ := id hv
          obtain ⟨we1, we2, we3⟩ := hP.worker_ok hwk
          have hem : e.1 < N.ms.length := by rw [we1]; exact hN.goal hw
          refine ⟨_, rfl, _, rfl, iteE (by simp) ?_⟩
          refine ⟨_, rfl, _, rfl, .ref a', .ref pe, N.ms.length, c, e, rfl, hcut.tk (Same.tk_ sB), hv, hem, _, rfl, ite2D (fun hin => ?_) (fun hin => ?_)⟩
          · have hsn : ∀ s, (R.snd w').getD n none = some s → s.1 < N.ms.length := fun s hs => by
              have hn2 : n < (R.snd w').length := by rw [← hR.ps]; exact hn
              have := nt_get hn2 none
              rw [hs] at this
              rw [(hP.snd_ok (List.mem_of_getElem? this)).1]
              exact hN.src hw
            refine ⟨_, rfl, _, rfl, p, dx, _, rfl, hpB, lkN runK (by decide +kernel), _, rfl, _, rfl, p, _, A', hI, G, N, R, w', n, rfl, PB, hw, hn, hR, fun sv hsv => ?_⟩
            refine ⟨.ref a', sv, N.ms.length, c, _, rfl, hcut.tk (Same.tk_ sB), hsv, hsn, _, rfl, ?_⟩
            have eo2 : (!thereB c ((R.snd w').getD n none)) = isOrphan R c w' n := by rw [isOrphan_some hwk, decide_eq_true hin, Bool.true_and]
            cases ho : isOrphan R c w' n with
            | true =>
              refine iteE (eo2.trans ho) ?_
              refine ⟨_, rfl, .inl ⟨rfl, _, SqL.of hus⟩, _, rfl, _, rfl, line (by show 2 ≤ 16777216; decide), fun t ht => ?_⟩
              have sT := Same.new_ (o := .tup [.int (w' : Nat), .int (n : Nat)]) ht
              refine ⟨D, us, _, rfl, rfl, sT _ _ hus, line' l3, ⟨_, _, rfl⟩, (sB.trans sT).putN hD0, _, upd_same, ?_⟩
              have F := Fr.put (S := (· = D)) (o := .lst (us ++ [.ref t])) rfl (not_tup_lst (sT _ _ hus))
              rw [rf_t ho, ← List.append_assoc]
              exact (pus.cimp fun _ _ z => z.tk ((Same.tk_ sT).trans F.tk)).csnoc2 ⟨t, rfl, F.tk _ _ upd_same⟩
            | false =>
              refine iteG (eo2.trans ho) ?_
              refine ⟨⟨_, _, rfl⟩, sB, us, hus, ?_⟩
              rw [skip ho]
              exact pus
          · refine ⟨⟨_, _, rfl⟩, sB, us, hus, ?_⟩
            rw [skip (by rw [isOrphan_some hwk, decide_eq_false hin, Bool.false_and])]
            exact pus
      · rintro σ H3 ⟨⟨v2, v3, rfl⟩, sB, us, hus, pus⟩
        refine ⟨⟨_, _, _, rfl⟩, sB, us, hus, ?_⟩
        rw [fm_succ]
        exact pus
    · rintro σ H3 ⟨⟨v1, v2, v3, rfl⟩, sB, us, hus, pus⟩
      refine ⟨_, rfl, k H3 D us sB hD0 hus ?_⟩
      unfold orph
      rw [← lw]
      exact pus
end Cr
namespace Cr
open PySem PySem.Spec PyProof.Rows L2 He
theorem sc_Lorphans : FnScope ["_law_run", "_law_cut", "_law_some", "_law_way", "_law_number", "_law_m", "_law_c", "_law_sender"] ["_law_run", "_law_cut"] (defScope s_Lorphans) := ⟨rfl, rfl, rfl, by decide +kernel, rfl, by decide +kernel, by decide +kernel⟩
theorem sorted_eq : ∀ {l1 l2 : List Nat}, l1.Pairwise (· < ·) → l2.Pairwise (· < ·) → (∀ x, x ∈ l1 ↔ x ∈ l2) → l1 = l2
  | [], [], _, _, _ => rfl
  | [], b :: l2, _, _, h => by have := (h b).mpr List.mem_cons_self; cases this
  | a :: l1, [], _, _, h => by have := (h a).mp List.mem_cons_self; cases this
  | a :: l1, b :: l2, s1, s2, h => by
    obtain ⟨a1, a2⟩ := List.pairwise_cons.mp s1
    obtain ⟨b1, b2⟩ := List.pairwise_cons.mp s2
    have e : a = b := by
      have h1 := (h a).mp List.mem_cons_self
      have h2 := (h b).mpr List.mem_cons_self
      rcases List.mem_cons.mp h1 with h1 | h1
      · exact h1
      · rcases List.mem_cons.mp h2 with h2 | h2
        · exact h2.symm
        · have := b1 a h1; have := a1 b h2; omega
    subst e
    congr 1
    refine sorted_eq a2 b2 fun x => ⟨fun hx => ?_, fun hx => ?_⟩
    · rcases List.mem_cons.mp ((h x).mp (List.mem_cons_of_mem _ hx)) with z | z
      · have := a1 x hx; omega
      · exact z
    · rcases List.mem_cons.mp ((h x).mpr (List.mem_cons_of_mem _ hx)) with z | z
      · have := b1 x hx; omega
      · exact z
theorem lookup_key {l : List (Nat × (Nat × Nat))} {n : Nat} (h : l.lookup n = none) : n ∉ l.map (·.1) := by
  induction l with
  | nil => intro z; cases z
  | cons p l ih =>
    obtain ⟨a, b⟩ := p
    rw [List.lookup_cons] at h
    intro z
    by_cases q : n = a
    · rw [q, beq_self_eq_true] at h; cases h
    · rw [show (n == a) = false from by simpa using q] at h
      rcases List.mem_cons.mp z with z | z
      · exact q z
      · exact ih h z
theorem Ply.wk_nodup {N : Nt} {R : Run} (h : Ply N R) (w : Nat) : ((R.wk w).map (·.1)).Nodup := by
  induction h with
  | nil => exact List.nodup_nil
  | @pick R v n _ hm ih =>
    show ((if w = v then R.wk w ++ [_] else R.wk w).map _).Nodup
    split
    · rename_i e
      subst e
      rw [List.map_append, List.nodup_append]
      refine ⟨ih, by simp, fun a ha b hb => ?_⟩
      rw [List.mem_singleton.mp hb]
      rintro rfl
      exact lookup_key hm.hno ha
    · exact ih
theorem worker_key {R : Run} {w n : Nat} {e : Nat × Nat} (h : R.worker w n = some e) : n ∈ (R.wk w).map (·.1) := List.mem_map.mpr ⟨_, mem_lookup' h, rfl⟩
theorem key_worker {R : Run} {w n : Nat} (h : n ∈ (R.wk w).map (·.1)) : ∃ e, R.worker w n = some e := by
  cases q : R.worker w n with
  | none => exact absurd h (lookup_key q)
  | some e => exact ⟨e, rfl⟩
theorem orph_sorted {N : Nt} {R : Run} {c : Nat → Nat} {w : Nat} (hR : R.Ok N) (hP : Ply N R) {ns : List Nat} (hp : ns.Perm ((R.wk w).map (·.1))) (hs : ns.Pairwise (· ≤ ·)) : ns.filter (isOrphan R c w) = (List.range (R.put w).length).filter (isOrphan R c w) := by
  have nd : ns.Nodup := hp.nodup_iff.mpr (hP.wk_nodup w)
  have lt : ns.Pairwise (· < ·) := (hs.and nd).imp fun h => Nat.lt_of_le_of_ne h.1 h.2
  refine sorted_eq (lt.filter _) (List.Pairwise.filter _ List.pairwise_lt_range) fun x => ?_
  rw [List.mem_filter, List.mem_filter, List.mem_range]
  refine ⟨fun h => ⟨?_, h.2⟩, fun h => ⟨?_, h.2⟩⟩
  · obtain ⟨e, he, e2⟩ := List.mem_map.mp (hp.mem_iff.mp h.1)
    have := hR.wb w e he
    rw [← e2]; exact this
  · refine hp.mem_iff.mpr ?_
    cases q : R.worker w x with
    | none => have := isOrphan_none (c := c) q; rw [this] at h; cases h.2
    | some e => exact worker_key q
theorem ints_nats : ∀ {ys : List Int} {ks : List Nat}, ys.Perm (ks.map Int.ofNat) → ∃ ns : List Nat, ys = ns.map Int.ofNat := fun {ys ks} h => by
  have hm : ∀ y ∈ ys, ∃ n : Nat, y = n := fun y hy => by
    obtain ⟨n, _, e⟩ := List.mem_map.mp (h.mem_iff.mp hy)
    exact ⟨n, e.symm⟩
  clear h
  induction ys with
  | nil => exact ⟨[], rfl⟩
  | cons y ys ih =>
    obtain ⟨ns, e⟩ := ih fun z hz => hm z (List.mem_cons_of_mem _ hz)
    obtain ⟨n, e2⟩ := hm y List.mem_cons_self
    exact ⟨n :: ns, by rw [e, e2]; rfl⟩
theorem perm_nats {ns ks : List Nat} (h : (ns.map Int.ofNat).Perm (ks.map Int.ofNat)) : ns.Perm ks := by
  have := h.map Int.toNat
  rw [List.map_map, List.map_map] at this
  have e : ∀ l : List Nat, l.map (Int.toNat ∘ Int.ofNat) = l := fun l => by
    induction l with
    | nil => rfl
    | cons a l ih => rw [List.map_cons, ih]; rfl
  rw [e, e] at this
  exact this
theorem kv_keys {H : Hp} {ks : List (Key × V)} {l : List (Nat × (Nat × Nat))} (h : Paired (IsKv H) ks l) : ks.map (·.1) = (l.map fun x => Int.ofNat x.1).map Sum.inl := by
  induction h with
  | nil => rfl
  | cons r t ih => rw [List.map_cons, List.map_cons, List.map_cons, ih, r.1]; rfl
def sp_Lorphans (K : PySem.W.Frag) : Sp := fun vs H Q _ => ∃ (nv a : V) (A : LT → Addr) (G : LT → HO) (N : Nt) (R : Run) (hn : Nat → Nat) (c : Nat → Nat), vs = [.ref (A .d), a] ∧ LRunAt H nv A G N R hn ∧ IsCut H a N.ms.length c ∧ N.ok ∧ Ply N R ∧ R.evs.length ≤ 60 ∧
  ∀ H' q us, Same H H' → H q = none → H' q = some (.lst us) → Paired (IsPk H') us (orph N R c) → Q (.ref q) H'
theorem ok_Lorphans {P : Program} {w : World} {K : PySem.W.Frag} {mg : Str → Option Value} {base : Heap} (T : Txt K mg) : Cal P w K mg base 1 "_law_orphans" (sp_Lorphans K) := by
  refine Cal.mk0 T.g_Lorphans T.D_Lorphans sc_Lorphans (fun _ _ _ _ _ _ us hl => match us, hl with | [_, _], _ => rfl) (fun vs H Q E h => ?_) (fun cdv A outer s H vs Q E hr h => ?_)
  · obtain ⟨nv, a, A, G, N, R, hn, c, rfl, _⟩ := h
    rfl
  · obtain ⟨nv, a, A', G, N, R, hn, c, rfl, P, hcut, hN, hP, hev, k⟩ := h
    have hR := hP.ok hN
    have w10 := hN.w10
    obtain ⟨a', rfl, ha⟩ := id hcut
    refine ⟨_, (pss_cons (ps_set (i := 2) sc_Lorphans.nd rfl (Or.inl rfl) (pe_lst pa_nil))
      (pss_cons (ps_for PassesOwn.never rfl (pi_range1 (by rfl) T.f_range (pa_cons (pe_callB call_len_seq (by rfl) T.f_len (by decide +kernel) (pa_cons (pe_dget (hu_of hr) (pv 0) pe_str (fun _ _ => rfl)) pa_nil)) pa_nil)) (pg_name (i := 3) sc_Lorphans.nd rfl (Or.inl rfl)) (pss_one (ps_for PassesOwn.never rfl (pi_list (pe_callB (call_sortedDI rfl) (by rfl) T.f_sorted (by decide +kernel) (pa_cons (pe_ix ix_list (pe_dget (hu_of hr) (pv 0) pe_str (fun _ _ => rfl)) (pv 3) (fun _ _ => rfl)) pa_nil))) (pg_name (i := 4) sc_Lorphans.nd rfl (Or.inl rfl)) (pss_cons (ps_asg (pe_dget (hu_of hr) (pe_ix ix_list (pe_dget (hu_of hr) (pv 0) pe_str (fun _ _ => rfl)) (pv 3) (fun _ _ => rfl)) (pv 4) (fun _ _ => rfl)) (pg_tup rfl (pgs_cons (pg_name (i := 5) sc_Lorphans.nd rfl (Or.inl rfl)) (pgs_cons (pg_name (i := 6) sc_Lorphans.nd rfl (Or.inl rfl)) pgs_nil))))
      (pss_cons (ps_set (i := 7) sc_Lorphans.nd rfl (Or.inl rfl) (pe_ix ix_list (pe_ix ix_list (pe_dget (hu_of hr) (pv 0) pe_str (fun _ _ => rfl)) (pv 3) (fun _ _ => rfl)) (pv 4) (fun _ _ => rfl)))
      (pss_one (ps_if (PW.pt (pw_and (pt_cmpR op_le (pv 6) (pe_ix ix_tup (pv 1) (pv 5) (fun _ _ => rfl)) (nomark _)) (pw_and (pt_cmp (pc_notN (pv 7))) (pw_and1 (pt_cmpR op_gt (pe_ix ix_tup (pv 7) pe_int (fun _ _ => rfl)) (pe_ix ix_tup (pv 1) (pe_ix ix_tup (pv 7) pe_int (fun _ _ => rfl)) (fun _ _ => rfl)) (nomark _)))))) (pss_one (ps_expr (pe_bm PySem.F.plainAttrs_list PySem.F.slot_list_append PySem.F.type_list_append mt_append (pv 2) (pa_cons (pe_tup (pa_cons (pv 3) (pa_cons (pv 4) pa_nil))) pa_nil)))) pss_nil)))))))
      (pss_one (ps_ret (pv 2))))), ?_⟩
    refine ⟨line (by show 0 ≤ 16777216; decide), fun D hD => ?_⟩
    have s1 := Same.new_ (o := .lst []) hD
    have P1 := P.keep s1
    refine ⟨_, rfl, A' .d, _, rfl, P1.g_put, A' .put, _, rfl, .inl (SqL.of P1.a_put), _, rfl, by rw [rm_len]; omega, by rw [rm_len]; omega, ?_⟩
    refine for_it walk_rngN (fun w σ H' => (∃ v3 v4 v5 v6 v7, σ = [some (.ref (A' .d)), some (.ref a'), some (.ref D), v3, v4, v5, v6, v7]) ∧ Same H H' ∧ ∃ us, H' D = some (.lst us) ∧ Paired (IsPk H') us ((List.range w).flatMap (orphW R c))) ⟨⟨_, _, _, _, _, rfl⟩, s1, [], upd_same, .nil⟩ (fun _ _ _ _ _ => trivial) ?_ ?_
    · rintro w' x σ H2 H2' hw ⟨⟨v3, v4, v5, v6, v7, rfl⟩, sA, us, hus, pus⟩ ⟨rfl, rfl⟩
      rw [rm_len] at hw
      have PA := P.keep sA
      obtain ⟨ks, hks, pks⟩ := PA.a_k hw
      have lks := pks.length
      have hwl := hR.wl w'
      have pl := hR.pl w'
      have ekeys := kv_keys pks
      refine ⟨_, rfl, A' .d, _, rfl, PA.g_wk, _, rfl, A' .wk, _, _, _, rfl, rfl, SqL.of PA.a_wk, atI_nat (rm_get hw), A' (.k w'), ks, _, rfl, .inl hks, ekeys, by rw [List.length_map]; omega, fun ys p hperm hsort hp => ⟨p, rfl, ⟨_, SqL.of upd_same⟩, ?_⟩⟩
      have ek2 : ((R.wk w').map fun x => Int.ofNat x.1) = ((R.wk w').map (·.1)).map Int.ofNat := by rw [List.map_map]; rfl
      rw [ek2] at hperm
      obtain ⟨ns, rfl⟩ := ints_nats hperm
      have hpn := perm_nats hperm
      have hsn : ns.Pairwise (· ≤ ·) := (List.pairwise_map.mp hsort).imp fun h => Int.ofNat_le.mp h
      have hend := orph_sorted (c := c) hR hP hpn hsn
      have lns : ns.length ≤ 60 := by rw [hpn.length_eq, List.length_map]; omega
      have sp := Same.new_ (o := .lst ((ns.map Int.ofNat).map V.int)) hp
      have hDp : D ≠ p := ne_of_none hus hp
      refine for_it (n := ((ns.map Int.ofNat).map V.int).length) walk_list (fun i σ H' => (∃ v4 v5 v6 v7, σ = [some (.ref (A' .d)), some (.ref a'), some (.ref D), some (.int (w' : Nat)), v4, v5, v6, v7]) ∧ Same H H' ∧ H' p = some (.lst ((ns.map Int.ofNat).map V.int)) ∧ ∃ us, H' D = some (.lst us) ∧ Paired (IsPk H') us ((List.range w').flatMap (orphW R c) ++ ((ns.take i).filter (isOrphan R c w')).map fun n => (w', n)))
        ⟨⟨_, _, _, _, rfl⟩, sA.trans sp, upd_same, us, by rw [upd_ne hDp]; exact hus, by simpa using pus.cimp fun _ _ z => IsPk.tk z (Same.tk_ sp)⟩ (fun i σ H' _ P => SqL.of P.2.2.1) ?_ ?_
      · rintro i x σ H3 H3' hi ⟨⟨v4, v5, v6, v7, rfl⟩, sB, hpB, us, hus, pus⟩ ⟨rfl, hx⟩
        rw [List.length_map, List.length_map] at hi
        have ei : ns[i]? = some ns[i] := List.getElem?_eq_getElem hi
        rw [List.getElem?_map, List.getElem?_map, ei] at hx
        cases hx
        generalize ns[i] = n at ei
        have PB := P.keep sB
        obtain ⟨e, he⟩ := key_worker (hpn.mem_iff.mp (List.mem_of_getElem? ei))
        obtain ⟨we1, we2, we3⟩ := hP.worker_ok he
        have hem : e.1 < N.ms.length := by rw [we1]; exact hN.goal hw
        obtain ⟨ks, hks, pks⟩ := PB.a_k hw
        have hv := kv_val pks n
        rw [show (R.wk w').lookup n = some e from he] at hv
        obtain ⟨ev, hev1, pe, rfl, hpe⟩ := hv
        have hdg : DGet H3' (A' (.k w')) (.int (Int.ofNat n)) (some (.ref pe)) := by rw [← hev1]; exact DGet.k (k := .inl (Int.ofNat n)) hks
        have hnl : n < (R.put w').length := by
          obtain ⟨x, hx, ex⟩ := List.mem_map.mp (worker_key he)
          have := hR.wb w' x hx
          rw [← ex]; exact this
        have hn2 : n < (R.snd w').length := by rw [← hR.ps]; exact hnl
        obtain ⟨ss, hs, pss⟩ := PB.a_s hw
        obtain ⟨sv, hsv, hsv2⟩ := pss.cget2 (nt_get hn2 none)
        have lus := pus.length
        have l1 : ((List.range w').flatMap (orphW R c)).length ≤ w' * 12012 := fm_len (fun w => Nat.le_trans orphW_len (by have := hR.pl w; omega)) w'
        have l2 := List.length_filter_le (isOrphan R c w') (ns.take i)
        rw [List.length_take] at l2
        rw [List.length_append, List.length_map] at lus
        have l3 : us.length < 16777216 := by omega
        refine ⟨_, rfl, A' .d, _, rfl, PB.g_wk, _, rfl, A' .wk, _, _, _, rfl, rfl, SqL.of PB.a_wk, atI_nat (rm_get hw), _, rfl, A' (.k w'), _, rfl, hdg, pe, _, rfl, SqT.of hpe, rfl, _, _, rfl, _, _, rfl, rfl, ?_⟩
        refine ⟨_, rfl, A' .d, _, rfl, PB.g_snd, _, rfl, A' .snd, _, _, _, rfl, rfl, SqL.of PB.a_snd, atI_nat (rm_get hw), _, rfl, A' (.s w'), _, _, _, rfl, rfl, SqL.of hs, atI_nat hsv, ?_⟩
        have skip : isOrphan R c w' n = false → ((List.range w').flatMap (orphW R c) ++ ((ns.take (i + 1)).filter (isOrphan R c w')).map fun n => (w', n)) = ((List.range w').flatMap (orphW R c) ++ ((ns.take i).filter (isOrphan R c w')).map fun n => (w', n)) := fun h => by
          rw [take_more ei, List.filter_append, List.filter_cons_of_neg (by rw [h]; exact Bool.false_ne_true), List.filter_nil, List.append_nil]
        refine ⟨_, rfl, _, rfl, _, rfl, a', _, _, _, rfl, rfl, SqT.of (sB _ _ ha), atI_nat (rm_get hem), _, _, rfl, rfl, _, rfl, ite2D (fun hin => ?_) (fun hin => ?_)⟩
        · have hin' : e.2 ≤ c e.1 := by omega
          have eo := isOrphan_some (c := c) he
          rw [decide_eq_true hin', Bool.true_and] at eo
          refine ⟨_, rfl, _, rfl, ?_⟩
          cases hsd : (R.snd w').getD n none with
          | none =>
            rw [hsd] at hsv2 eo
            cases (show sv = .non from hsv2)
            refine iteNS rfl ?_
            refine ⟨⟨_, _, _, _, rfl⟩, sB, hpB, us, hus, ?_⟩
            rw [skip eo]; exact pus
          | some sc =>
            rw [hsd] at hsv2 eo
            obtain ⟨ps, rfl, hps⟩ := hsv2
            have hsm : sc.1 < N.ms.length := by
              have := nt_get hn2 none
              rw [hsd] at this
              rw [(hP.snd_ok (List.mem_of_getElem? this)).1]
              exact hN.src hw
            refine iteE (by simp) ?_
            refine ⟨_, rfl, ps, _, _, _, rfl, rfl, SqT.of hps, atI_nat (j := 1) rfl, _, rfl, _, rfl, ps, _, _, _, rfl, rfl, SqT.of hps, atI_nat (j := 0) rfl, a', _, _, _, rfl, rfl, SqT.of (sB _ _ ha), atI_nat (rm_get hsm), _, _, rfl, rfl, _, rfl, ite2D (fun hgt => ?_) (fun hgt => ?_)⟩
            · have ho : isOrphan R c w' n = true := by
                rw [eo]
                show (!decide (sc.2 ≤ c sc.1)) = true
                rw [decide_eq_false (by omega)]; rfl
              refine ⟨_, rfl, .inl ⟨rfl, _, SqL.of hus⟩, _, rfl, _, rfl, line (by show 2 ≤ 16777216; decide), fun t ht => ?_⟩
              have sT := Same.new_ (o := .tup [.int (w' : Nat), .int (Int.ofNat n)]) ht
              have F := Fr.put (S := (· = D)) (o := .lst (us ++ [.ref t])) rfl (not_tup_lst (sT _ _ hus))
              refine ⟨D, us, _, rfl, rfl, sT _ _ hus, line' l3, ⟨_, _, _, _, rfl⟩, (sB.trans sT).putN hD, F.at (sT _ _ hpB) hDp.symm, _, upd_same, ?_⟩
              rw [take_more ei, List.filter_append, List.filter_cons_of_pos ho, List.filter_nil, List.map_append, ← List.append_assoc]
              exact (pus.cimp fun _ _ z => z.tk ((Same.tk_ sT).trans F.tk)).csnoc2 ⟨t, rfl, F.tk _ _ upd_same⟩
            · refine ⟨⟨_, _, _, _, rfl⟩, sB, hpB, us, hus, ?_⟩
              rw [skip (by
                rw [eo]
                show (!decide (sc.2 ≤ c sc.1)) = false
                rw [decide_eq_true (by omega)]; rfl)]
              exact pus
        · refine ⟨⟨_, _, _, _, rfl⟩, sB, hpB, us, hus, ?_⟩
          rw [skip (by rw [isOrphan_some he, decide_eq_false (by omega), Bool.false_and])]
          exact pus
      · rintro σ H3 ⟨⟨v4, v5, v6, v7, rfl⟩, sB, hpB, us, hus, pus⟩
        refine ⟨⟨_, _, _, _, _, rfl⟩, sB, us, hus, ?_⟩
        rw [fm_succ]
        rw [List.length_map, List.length_map, List.take_length, hend] at pus
        exact pus
    · rintro σ H3 ⟨⟨v3, v4, v5, v6, v7, rfl⟩, sB, us, hus, pus⟩
      rw [rm_len] at pus
      exact ⟨_, rfl, k H3 D us sB hD hus pus⟩
end Cr
namespace Cr
open PySem PySem.Spec PyProof.Rows L2 He
theorem sc_Run_schedule : FnScope ["self"] ["self"] (defScope s_Run_schedule) := ⟨rfl, rfl, rfl, by decide +kernel, rfl, by decide +kernel, by decide +kernel⟩
def sp_Run_schedule (K : PySem.W.Frag) : Sp := fun vs H Q _ => ∃ (p : Addr) (nv : V) (A : PT → Addr) (hI : Nat → Addr) (G : PT → HO) (N : Nt) (R : Run), vs = [.ref p] ∧ PRunAt K H p nv A hI G N R ∧ ∀ q us, H q = none → Paired (IsPk H) us R.evs → Q (.ref q) (upd H q (.lst us))
theorem ok_Run_schedule {P : Program} {w : World} {K : PySem.W.Frag} {mg : Str → Option Value} {base : Heap} (T : Txt K mg) : Met P w K mg base 1 (ga K "Run") "schedule" (sp_Run_schedule K) := by
  refine Met.mk0 T.c_Run T.m_Run_schedule T.D_Run_schedule sc_Run_schedule (fun _ _ _ _ _ _ us hl => match us, hl with | [_], _ => rfl) (fun vs H Q E h => ?_) (fun cdv A outer s H vs Q E hr h => ?_)
  · obtain ⟨p, nv, A, hI, G, N, R, rfl, _⟩ := h
    rfl
  · obtain ⟨p, nv, A', hI, G, N, R, rfl, P, k⟩ := h
    obtain ⟨dx, hp⟩ := P.ob
    obtain ⟨us, e, hus⟩ := P.pk
    have hl := P.lay.at_ .pk trivial
    rw [e] at hl
    refine ⟨_, (pss_one (ps_ret (pe_callTy call_list_of (by rfl) T.f_list (by decide +kernel) (pa_cons (pe_fld (pv 0) rfl) pa_nil)))), ?_⟩
    exact ⟨_, rfl, p, _, dx, _, .ref (A' .pk), rfl, hp, T.c_Run, T.n_Run_picks, lk 4 runK (by decide +kernel), A' .pk, us, rfl, .inl (SqL.of hl), fun q hq => k q us hq hus⟩
end Cr
namespace Cr
open PySem PySem.Spec PyProof.Rows L2 He
theorem sc_Orphaned_new : FnScope ["self", "letter"] ["self", "letter"] (defScope s_Orphaned_new) := ⟨rfl, rfl, rfl, by decide +kernel, rfl, by decide +kernel, by decide +kernel⟩
theorem Txt.oex {K : PySem.W.Frag} {mg : Str → Option Value} (T : Txt K mg) : OexC K (ga K "Orphaned") :=
  ⟨oexB_ok (T.x 5), of_decide_eq_true (T.x 6), of_decide_eq_true (T.x 7), of_decide_eq_true (T.x 8), T.x 9⟩
structure Ini (P : Program) (w : World) (K : PySem.W.Frag) (mg : Str → Option Value) (base : Heap) (k : Nat) (C : Addr) (sp : Sp) : Prop where
  ex : ∃ (f : Addr) (fd : FuncData) (ps : List Str), PySem.W.findIn K (.ref C) "__init__" = some (some (.ref f)) ∧ PySem.W.typeIn K (.ref f) = some (.type "function") ∧ FnOk P w K mg base CX0 k f fd ps sp ∧ Binds K fd ps []
theorem Ini.mk0 {P : Program} {w : World} {K : PySem.W.Frag} {mg : Str → Option Value} {base : Heap} {x qual : Str} {st : Stmt} {f C : Addr} {N ps : List Str} {k : Nat} {sp : Sp}
    (h1 : PySem.W.findIn K (.ref C) "__init__" = some (some (.ref f))) (h2 : PySem.W.typeIn K (.ref f) = some (.type "function")) (D : ∃ fd, FunD K x qual (defArgs st) (defBody st) (defScope st) [] [] f fd) (S : FnScope N ps (defScope st))
    (hb : ∀ (kV doc pm : Value) (an : Option Addr) (cdv ct : Value) (us : List Value), us.length = ps.length → bindArgs (PySem.W.fnOf x qual (defArgs st) (defBody st) (defScope st) .none kV doc pm an cdv ct) ⟨us, []⟩ = pure (ps.zip us))
    (len : ∀ vs H Q E, sp vs H Q E → vs.length = ps.length)
    (hbody : ∀ (cdv : Value) (A : Around) (outer : List Env) (s : Shared) (H : Hp) (vs : List V) (Q : VK) (E : XK), Room k (A.deeper (envOfC qual (defScope st) s.heap.objs.size f cdv)) → sp vs H Q E →
      ∃ t, PSs (cxOf CX0 P w K mg base N qual (defScope st) f cdv A outer s H E).nox (defBody st) t ∧ t { nx := fun _ H' => Q .non H', rt := Q } (start N vs) H) : Ini P w K mg base (k + 1) C sp := by
  obtain ⟨fd, F⟩ := D
  exact ⟨f, fd, ps, h1, h2, FunD.fn0 F S len hbody, F.bindsN hb⟩
def sp_Orphaned_new (K : PySem.W.Frag) : Sp := fun vs H Q _ => ∃ (a : Addr) (v : V), vs = [.ref a, v] ∧ H a = some (exo a (ga K "Orphaned") none) ∧
  ∀ dx, H dx = none → dx ≠ a → Q .non (upd (upd H dx (exd dx [("letter", v)])) a (exo a (ga K "Orphaned") (some dx)))
theorem ok_Orphaned_new {P : Program} {w : World} {K : PySem.W.Frag} {mg : Str → Option Value} {base : Heap} (T : Txt K mg) : Ini P w K mg base 1 (ga K "Orphaned") (sp_Orphaned_new K) := by
  refine Ini.mk0 (of_decide_eq_true (T.x 10)) (of_decide_eq_true (T.x 11)) T.D_Orphaned_new sc_Orphaned_new (fun _ _ _ _ _ _ us hl => match us, hl with | [_, _], _ => rfl) (fun vs H Q E h => ?_) (fun cdv A outer s H vs Q E hr h => ?_)
  · obtain ⟨a, v, rfl, _⟩ := h
    rfl
  · obtain ⟨a, v, rfl, ha, k⟩ := h
    refine ⟨_, (pss_one (ps_ost (pv 0) (pv 1))), ?_⟩
    exact ⟨_, rfl, _, rfl, a, _, rfl, T.oex, of_decide_eq_true (T.x 12), .inl ⟨ha, k⟩⟩
end Cr
namespace Cr
open PySem PySem.Spec PyProof.Rows L2 He
theorem sc_parts_of_cut : FnScope ["run", "cut", "lone", "first", "then", "way", "number"] ["run", "cut"] (defScope s_parts_of_cut) := ⟨rfl, rfl, rfl, by decide +kernel, rfl, by decide +kernel, by decide +kernel⟩
theorem Ply.ev_ok {N : Nt} {R : Run} (hN : N.ok) (h : Ply N R) {i : Nat} {e : Nat × Nat} (he : R.evs[i]? = some e) : e.1 < N.ws.length ∧ e.2 < (R.put e.1).length ∧ ∃ v, R.worker e.1 e.2 = some v ∧ v.1 < N.ms.length := by
  have M := h.all.2 i e he
  have hi : i < R.evs.length := (List.getElem?_eq_some_iff.mp he).1
  have L := h.later (Nat.le_of_lt hi)
  obtain ⟨l, q⟩ := L.put e.1
  refine ⟨M.hw, ?_, _, h.event he, hN.goal M.hw⟩
  rw [q, List.length_append]
  have := M.hn
  omega
def sp_parts_of_cut (K : PySem.W.Frag) : Sp := fun vs H Q E => ∃ (a : V) (p : Addr) (nv : V) (A : PT → Addr) (hI : Nat → Addr) (G : PT → HO) (N : Nt) (R : Run) (c : Nat → Nat), vs = [.ref p, a] ∧ IsCut H a N.ms.length c ∧ IsPNet K H nv N ∧ PRunAt K H p nv A hI G N R ∧
  (∀ m, m < N.ms.length → c m ≤ R.cnt m) ∧ N.ok ∧ Ply N R ∧ R.evs.length ≤ 1000 ∧
  (orph N R c = [] → ∀ H' t q1 q2 us1 us2, Same H H' → H q1 = none → H q2 = none → q1 ≠ q2 → H' t = some (.tup [.ref q1, .ref q2]) → H' q1 = some (.lst us1) → H' q2 = some (.lst us2) → Paired (IsPk H') us1 (firstPart R c) → Paired (IsPk H') us2 (thenPart R c) → Q (.ref t) H') ∧
  (∀ e es, orph N R c = e :: es → ∀ H' d v, Same H H' → H' d = some (.xd [("letter", v)]) → IsPk H' v e → E (.ref (ga K "Orphaned")) (some d) H')
theorem ok_parts_of_cut {P : Program} {w : World} {K : PySem.W.Frag} {mg : Str → Option Value} {base : Heap} (T : Txt K mg) : CalX P w K mg base 6 "parts_of_cut" (sp_parts_of_cut K) := by
  have G_orphans_of := ok_orphans_of (P := P) (w := w) (base := base) T
  have G_Run_schedule := ok_Run_schedule (P := P) (w := w) (base := base) T
  have G_is_within := ok_is_within (P := P) (w := w) (base := base) T
  have G_Run_worked_by := ok_Run_worked_by (P := P) (w := w) (base := base) T
  refine CalX.mk0 T.g_parts_of_cut T.D_parts_of_cut sc_parts_of_cut (fun _ _ _ _ _ _ us hl => match us, hl with | [_, _], _ => rfl) (fun vs H Q E h => ?_) (fun cdv A outer s H vs Q E hr h => ?_)
  · obtain ⟨a, p, nv, A, hI, G, N, R, c, rfl, _⟩ := h
    rfl
  · obtain ⟨f1, fd1, ps1, hi1, hi2, F1, hb1⟩ := (ok_Orphaned_new (P := P) (w := w) (base := base) T).ex
    obtain ⟨a, p, nv, A', hI, G, N, R, c, rfl, hcut, Z, P1, hc, hN, hP, hev, k1, k2⟩ := h
    obtain ⟨dx, hp⟩ := P1.ob
    refine ⟨_, (pss_cons (ps_set (i := 2) sc_parts_of_cut.nd rfl (Or.inl rfl) (pe_c G_orphans_of hr (by decide) (by rfl) (pa_cons (pv 0) (pa_cons (pv 1) pa_nil))))
      (pss_cons (ps_if (pt_cmpR (op_neD hr.units) (pv 2) (pe_lst pa_nil) (nomark _)) (pss_one (ps_raise rfl (takes_of rfl rfl rfl rfl) (pmk_oex T.oex hi1 hi2 F1 (hr.mono (by decide)) hb1 .nil pass0 (by rfl) T.g_Orphaned (pa_cons (pe_ix ix_list (pv 2) pe_int (fun _ _ => rfl)) pa_nil)))) pss_nil)
      (PSs.nox (pss_cons (ps_set (i := 3) sc_parts_of_cut.nd rfl (Or.inl rfl) (pe_lst pa_nil))
      (pss_cons (ps_set (i := 4) sc_parts_of_cut.nd rfl (Or.inl rfl) (pe_lst pa_nil))
      (pss_cons (ps_for PassesOwn.never rfl (pi_list (pe_mt0 G_Run_schedule hr (by decide) (pv 0))) (pg_tup rfl (pgs_cons (pg_name (i := 5) sc_parts_of_cut.nd rfl (Or.inl rfl)) (pgs_cons (pg_name (i := 6) sc_parts_of_cut.nd rfl (Or.inl rfl)) pgs_nil))) (pss_one (ps_if (pt_val (pe_c G_is_within hr (by decide) (by rfl) (pa_cons (pv 1) (pa_cons (pe_mt G_Run_worked_by hr (by decide) (pv 0) (pa_cons (pv 5) (pa_cons (pv 6) pa_nil))) pa_nil)))) (pss_one (ps_expr (pe_bm PySem.F.plainAttrs_list PySem.F.slot_list_append PySem.F.type_list_append mt_append (pv 3) (pa_cons (pe_tup (pa_cons (pv 5) (pa_cons (pv 6) pa_nil))) pa_nil)))) (pss_one (ps_expr (pe_bm PySem.F.plainAttrs_list PySem.F.slot_list_append PySem.F.type_list_append mt_append (pv 4) (pa_cons (pe_tup (pa_cons (pv 5) (pa_cons (pv 6) pa_nil))) pa_nil)))))))
      (pss_one (ps_ret (pe_tup (pa_cons (pv 3) (pa_cons (pv 4) pa_nil))))))))))), ?_⟩
    refine ⟨_, rfl, _, rfl, a, p, nv, A', hI, G, N, R, c, rfl, hcut, Z, P1, hc, hN, hP, hev, fun H1 q us s1 nq hq hus => ?_⟩
    refine ⟨_, rfl, line (by show 0 ≤ 16777216; decide), fun q' hq' => ?_⟩
    have s2 := s1.trans (Same.new_ (o := .lst []) hq')
    have hq2 := (Same.new_ (o := .lst []) hq') _ _ hq
    have hus2 := hus.cimp fun _ _ z => IsPk.tk z (Same.tk_ (Same.new_ (o := .lst []) hq'))
    refine ⟨psD (orph N R c), psD [], dp_pks hq2 hus2, dp_pks upd_same .nil, (sh_psD _).ok (by decide), (sh_psD _).ok (by decide), _, rfl, ?_⟩
    cases ho : orph N R c with
    | cons e es =>
      rw [ho] at hus2
      refine iteE (by rw [eqv_cons]; rfl) ?_
      obtain ⟨v, hv, hv2⟩ := hus2.cget2 (i := 0) rfl
      refine ⟨_, rfl, q, _, _, _, rfl, rfl, SqL.of hq2, atI_nat (j := 0) hv, by show 1 ≤ 1000; decide, fun b hb => ?_⟩
      refine ⟨b, v, rfl, upd_same, fun d hd hdb => ⟨rfl, d, _, upd_same, by rw [upd_ne hdb, upd_same], ?_, ?_⟩⟩
      · rw [upd_ne hdb] at hd; exact hd
      · have hd' : upd H1 q' (.lst []) d = none := by rw [upd_ne hdb] at hd; exact hd
        have sF : Same (upd H1 q' (.lst [])) (upd (del (upd (upd (upd (upd H1 q' (.lst [])) b (exo b (ga K "Orphaned") none)) d (exd d [("letter", v)])) b (exo b (ga K "Orphaned") (some d))) b) d (.xd [("letter", v)])) := fun x o hx => by
          have nb := ne_of_none hx hb
          have nd := ne_of_none hx hd'
          rw [upd_ne nd, del_ne nb, upd_ne nb, upd_ne nd, upd_ne nb]
          exact hx
        exact k2 e es ho _ d v (s2.trans sF) upd_same (hv2.tk (Same.tk_ sF))
    | nil =>
      refine iteG (by rw [eqv_nil]; rfl) ?_
      refine ⟨line (by show 0 ≤ 16777216; decide), fun D1 hD1 => ?_⟩
      have s3 := s2.trans (Same.new_ (o := .lst []) hD1)
      refine ⟨line (by show 0 ≤ 16777216; decide), fun D2 hD2 => ?_⟩
      have s4 := s3.trans (Same.new_ (o := .lst []) hD2)
      have n12 : D1 ≠ D2 := ne_of_none (upd_same (a := D1) (o := .lst [])) hD2
      refine ⟨_, rfl, p, dx, _, rfl, s4 _ _ hp, lkN runK (by decide +kernel), p, nv, A', hI, G, N, R, rfl, P1.keep s4, fun l vs hl hvs => ⟨l, rfl, ⟨_, SqL.of upd_same⟩, ?_⟩⟩
      have s5 := s4.trans (Same.new_ (o := .lst vs) hl)
      have nl1 : D1 ≠ l := ne_of_none (by rw [upd_ne n12, upd_same]) hl
      have nl2 : D2 ≠ l := ne_of_none upd_same hl
      have lvs := hvs.length
      have t5 : Tk _ (upd (upd (upd (upd H1 q' (.lst [])) D1 (.lst [])) D2 (.lst [])) l (.lst vs)) := Same.tk_ (Same.new_ (o := .lst vs) hl)
      obtain ⟨a', rfl, ha'⟩ := id hcut
      have nD1 : H D1 = none := s2.free hD1
      have nD2 : H D2 = none := s3.free hD2
      refine for_it (n := vs.length) walk_list (fun i σ H' => (∃ v1 v2, σ = [some (.ref p), some (.ref a'), some (.ref q), some (.ref D1), some (.ref D2), v1, v2]) ∧ Same H H' ∧ H' l = some (.lst vs) ∧ Tk (upd (upd (upd (upd H1 q' (.lst [])) D1 (.lst [])) D2 (.lst [])) l (.lst vs)) H' ∧
        ∃ us1 us2, H' D1 = some (.lst us1) ∧ H' D2 = some (.lst us2) ∧ Paired (IsPk H') us1 ((R.evs.take i).filter (within R c)) ∧ Paired (IsPk H') us2 ((R.evs.take i).filter fun e => !within R c e))
        ⟨⟨_, _, rfl⟩, s5, upd_same, fun _ _ h => h, [], [], by rw [upd_ne nl1, upd_ne n12, upd_same], by rw [upd_ne nl2, upd_same], .nil, .nil⟩ (fun i σ H' _ P => SqL.of P.2.2.1) ?_ ?_
      · rintro i y σ H2 H3 hi ⟨⟨v1, v2, rfl⟩, sA, hlA, tA, us1, us2, h1, h2, p1, p2⟩ ⟨rfl, hy⟩
        obtain ⟨⟨w', n⟩, he, he2⟩ := hvs.cget hy
        obtain ⟨pe, rfl, hpe⟩ := (he2.tk t5).tk tA
        obtain ⟨o1, o2, v, hv, hvm⟩ := hP.ev_ok hN he
        have l1 := p1.length
        have l2 := p2.length
        have f1 := List.length_filter_le (within R c) (R.evs.take i)
        have f2 := List.length_filter_le (fun e => !within R c e) (R.evs.take i)
        rw [List.length_take] at f1 f2
        refine ⟨pe, _, rfl, SqT.of hpe, rfl, _, _, rfl, _, _, rfl, rfl, ?_⟩
        refine ⟨_, rfl, _, rfl, p, dx, _, rfl, sA _ _ hp, lkN runK (by decide +kernel), _, rfl, _, rfl, p, nv, A', hI, G, N, R, w', n, rfl, P1.keep sA, o1, o2, fun wv hwv => ?_⟩
        rw [hv] at hwv
        refine ⟨.ref a', wv, N.ms.length, c, v, rfl, hcut.tk (Same.tk_ sA), hwv, hvm, _, rfl, ?_⟩
        have ew : within R c (w', n) = decide (v.2 ≤ c v.1) := by unfold within; rw [hv]
        rw [filter_take he, filter_take he, ew]
        by_cases hin : v.2 ≤ c v.1
        · refine iteD hin ?_
          rw [decide_eq_true hin]
          refine ⟨_, rfl, .inl ⟨rfl, _, SqL.of h1⟩, _, rfl, _, rfl, line (by show 2 ≤ 16777216; decide), fun t ht => ?_⟩
          have sT := Same.new_ (o := .tup [.int (w' : Nat), .int (n : Nat)]) ht
          have F := Fr.put (S := (· = D1)) (o := .lst (us1 ++ [.ref t])) rfl (not_tup_lst (sT _ _ h1))
          have tF := (Same.tk_ sT).trans F.tk
          refine ⟨D1, us1, _, rfl, rfl, sT _ _ h1, line' (by omega), ⟨_, _, rfl⟩, (sA.trans sT).putN nD1, F.at (sT _ _ hlA) nl1.symm, tA.trans tF, _, _, upd_same, F.at (sT _ _ h2) n12.symm, ?_, ?_⟩
          · exact (p1.cimp fun _ _ z => z.tk tF).csnoc2 ⟨t, rfl, F.tk _ _ upd_same⟩
          · simpa using p2.cimp fun _ _ z => IsPk.tk z tF
        · refine iteN hin ?_
          rw [decide_eq_false hin]
          refine ⟨_, rfl, .inl ⟨rfl, _, SqL.of h2⟩, _, rfl, _, rfl, line (by show 2 ≤ 16777216; decide), fun t ht => ?_⟩
          have sT := Same.new_ (o := .tup [.int (w' : Nat), .int (n : Nat)]) ht
          have F := Fr.put (S := (· = D2)) (o := .lst (us2 ++ [.ref t])) rfl (not_tup_lst (sT _ _ h2))
          have tF := (Same.tk_ sT).trans F.tk
          refine ⟨D2, us2, _, rfl, rfl, sT _ _ h2, line' (by omega), ⟨_, _, rfl⟩, (sA.trans sT).putN nD2, F.at (sT _ _ hlA) nl2.symm, tA.trans tF, _, _, F.at (sT _ _ h1) n12, upd_same, ?_, ?_⟩
          · simpa using p1.cimp fun _ _ z => IsPk.tk z tF
          · exact (p2.cimp fun _ _ z => z.tk tF).csnoc2 ⟨t, rfl, F.tk _ _ upd_same⟩
      · rintro σ H2 ⟨⟨v1, v2, rfl⟩, sA, hlA, tA, us1, us2, h1, h2, p1, p2⟩
        rw [lvs, List.take_length] at p1 p2
        refine ⟨_, rfl, _, rfl, line (by show 2 ≤ 16777216; decide), fun t ht => ?_⟩
        have sT := Same.new_ (o := .tup [.ref D1, .ref D2]) ht
        exact k1 ho _ t D1 D2 us1 us2 (sA.trans sT) nD1 nD2 n12 upd_same (sT _ _ h1) (sT _ _ h2) (p1.cimp fun _ _ z => z.tk (Same.tk_ sT)) (p2.cimp fun _ _ z => z.tk (Same.tk_ sT))
end Cr
namespace Cr
open PySem PySem.Spec PyProof.Rows L2 He
theorem sc_Lrefused : FnScope ["_law_told_here", "_law_cut", "_law_lone", "e"] ["_law_told_here", "_law_cut", "_law_lone"] (defScope s_Lrefused) := ⟨rfl, rfl, rfl, by decide +kernel, rfl, by decide +kernel, by decide +kernel⟩
theorem Txt.xf {K : PySem.W.Frag} {mg : Str → Option Value} (T : Txt K mg) : XfC K (ga K "Orphaned") := ⟨of_decide_eq_true (T.x 13), of_decide_eq_true (T.x 14), of_decide_eq_true (T.x 7), T.x 15⟩
theorem Txt.exc {K : PySem.W.Frag} {mg : Str → Option Value} (T : Txt K mg) : ExcC K (ga K "Orphaned") := ⟨of_decide_eq_true (T.x 13), of_decide_eq_true (T.x 14), of_decide_eq_true (T.x 7), T.x 15, of_decide_eq_true (T.x 16), of_decide_eq_true (T.x 2), of_decide_eq_true (T.x 3), of_decide_eq_true (T.x 17)⟩
def sp_Lrefused (K : PySem.W.Frag) : Sp := fun vs H Q _ => ∃ (a : V) (p l : Addr) (us : List V) (H0 : Hp) (A : PT → Addr) (hI : Nat → Addr) (N : Nt) (R : Run) (c : Nat → Nat) (e : Nat × Nat) (es : List (Nat × Nat)), vs = [.ref p, a, .ref l] ∧ PRun K H0 H p A hI N R ∧ IsCut H a N.ms.length c ∧
  (∀ m, m < N.ms.length → c m ≤ R.cnt m) ∧ N.ok ∧ Ply N R ∧ R.evs.length ≤ 1000 ∧ orph N R c = e :: es ∧ H l = some (.lst us) ∧ Paired (IsPk H) us (orph N R c) ∧ ∀ H', Same H H' → Q (.bl true) H'
theorem ok_Lrefused {P : Program} {w : World} {K : PySem.W.Frag} {mg : Str → Option Value} {base : Heap} (T : Txt K mg) : Cal P w K mg base 7 "_law_refused" (sp_Lrefused K) := by
  have G_parts_of_cut := ok_parts_of_cut (P := P) (w := w) (base := base) T
  refine Cal.mk0 T.g_Lrefused T.D_Lrefused sc_Lrefused (fun _ _ _ _ _ _ us hl => match us, hl with | [_, _, _], _ => rfl) (fun vs H Q E h => ?_) (fun cdv A outer s H vs Q E hr h => ?_)
  · obtain ⟨a, p, l, us, H0, A, hI, N, R, c, e, es, rfl, _⟩ := h
    rfl
  · obtain ⟨fp, fdp, psp, Fp, hmp, kpp, bp⟩ := G_parts_of_cut.ex
    obtain ⟨a, p, l, us, H0, Ap, hI, N, R, c, e, es, rfl, PR, hcut, hc, hN, hP, hev, ho, hl, hus, k⟩ := h
    obtain ⟨ps0, pnw, nvp, G, Z0, PP⟩ := id PR
    refine ⟨_, (pss_cons (ps_try_as (i := 3) (tb := fun W => tDrop (tCallS (sp_parts_of_cut K) (WE W) (tCons (tVar 0) (tCons (tVar 1) tNil)))) (ts := fun a cls d => tRet (tAndV (tCB (rIsE2 K (ga K "Orphaned") a cls d) (tCons (tVar 3) (tCons (tC (.ref (ga K "Orphaned"))) tNil))) (tAndV (tCB (rIsE2 K (ga K "Orphaned") a cls d) (tCons (tVar 3) (tCons (tC (.ty "ValueError")) tNil))) (tOp (rEqD K) (tXf a cls d (ga K "Orphaned") "letter" (tVar 3)) (tOp (rIxL K) (tVar 2) (tC (.int 0))))))) (Wout := fun _ _ _ _ => False) rfl rfl sc_Lrefused.nd rfl rfl ⟨by rfl, by decide, .inl T.g_NetError⟩ takes0
      (fun W pn xe tk _ => pss_one (ps_expr (by exact (pe_callS Fp (hr.mono (by decide)) (by rfl) hmp kpp bp (fun σ => passAt tk σ) (by exact (pa_cons (pv 0) (pa_cons (pv 1) pa_nil)))))))
      (fun a oe cls d pn hz hf => pss_one (ps_ret (by exact (pe_and (pe_callB (call_isE2 rfl T.exc hz hf) (by rfl) T.f_isinstance boot_isinstance (pa_cons (pv 3) (pa_cons (pe_glob (v := .ref (ga K "Orphaned")) (by rfl) T.g_Orphaned rfl) pa_nil)))
        (pe_and (pe_callB (call_isE2 rfl T.exc hz hf) (by rfl) T.f_isinstance boot_isinstance (pa_cons (pv 3) (pa_cons (pe_bltn (v := .ty "ValueError") (by rfl) T.f_ValueError (by decide +kernel) rfl) pa_nil)))
        (pe_one (pe_cmpR (op_eqD hr.units) (pe_xf T.xf (of_decide_eq_true (T.x 12)) hz hf (pv 3)) (pe_ix ix_list (pv 2) pe_int (fun _ _ => rfl)) (nomark _)))))))))
      (pss_one (ps_ret pe_bl))), ?_⟩
    refine ⟨_, rfl, _, rfl, a, p, nvp, Ap, hI, G, N, R, c, rfl, hcut, Z0.keep ps0, PP, hc, hN, hP, hev, fun h0 => (by rw [h0] at ho; cases ho), fun e' es' he H' d v s hd hv => ?_⟩
    rw [ho] at he
    cases he
    refine ⟨true, of_decide_eq_true (T.x 18), fun _ x hx => ?_, fun z => nomatch z⟩
    rw [ho] at hus
    obtain ⟨v0, hv0, hv2⟩ := hus.cget2 (i := 0) rfl
    refine ⟨_, rfl, .ref (ga K "Orphaned"), _, true, d, _, rfl, rfl, rfl, hd, fun u h => h, kit_self, true, rfl, iteT ?_⟩
    refine ⟨_, rfl, .ty "ValueError", _, true, d, _, rfl, rfl, rfl, hd, fun u h => h, of_decide_eq_true (T.x 19), true, rfl, iteT ?_⟩
    refine ⟨_, rfl, rfl, rfl, d, _, v, rfl, hd, lk 0 ["letter"] (by decide +kernel), _, rfl, l, _, _, _, rfl, rfl, SqL.of (s _ _ hl), atI_nat (j := 0) hv0, ?_⟩
    refine ⟨pD e, pD e, dp_pk hv, dp_pk (hv2.tk (Same.tk_ s)), (sh_pD _).ok (by decide), (sh_pD _).ok (by decide), ?_⟩
    exact bl_e (sh_pD _).refl (k H' s)
end Cr
namespace Cr
open PySem PySem.Spec PyProof.Rows L2 He
theorem sc_Lparts : FnScope ["_law_run", "_law_cut", "_law_first", "_law_then", "_law_way", "_law_number", "_law_m", "_law_c"] ["_law_run", "_law_cut"] (defScope s_Lparts) := ⟨rfl, rfl, rfl, by decide +kernel, rfl, by decide +kernel, by decide +kernel⟩
def sp_Lparts (K : PySem.W.Frag) : Sp := fun vs H Q _ => ∃ (nv a : V) (A : LT → Addr) (G : LT → HO) (N : Nt) (R : Run) (hn : Nat → Nat) (c : Nat → Nat), vs = [.ref (A .d), a] ∧ LRunAt H nv A G N R hn ∧ IsCut H a N.ms.length c ∧ N.ok ∧ Ply N R ∧ R.evs.length ≤ 1000 ∧
  ∀ H' t q1 q2 us1 us2, Same H H' → H' t = some (.tup [.ref q1, .ref q2]) → H' q1 = some (.lst us1) → H' q2 = some (.lst us2) → Paired (IsPk H') us1 (firstPart R c) → Paired (IsPk H') us2 (thenPart R c) → Q (.ref t) H'
theorem ok_Lparts {P : Program} {w : World} {K : PySem.W.Frag} {mg : Str → Option Value} {base : Heap} (T : Txt K mg) : Cal P w K mg base 1 "_law_parts" (sp_Lparts K) := by
  refine Cal.mk0 T.g_Lparts T.D_Lparts sc_Lparts (fun _ _ _ _ _ _ us hl => match us, hl with | [_, _], _ => rfl) (fun vs H Q E h => ?_) (fun cdv A outer s H vs Q E hr h => ?_)
  · obtain ⟨nv, a, A, G, N, R, hn, c, rfl, _⟩ := h
    rfl
  · obtain ⟨nv, a, A', G, N, R, hn, c, rfl, P, hcut, hN, hP, hev, k⟩ := h
    obtain ⟨a', rfl, ha⟩ := id hcut
    refine ⟨_, (pss_cons (ps_set (i := 2) sc_Lparts.nd rfl (Or.inl rfl) (pe_lst pa_nil))
      (pss_cons (ps_set (i := 3) sc_Lparts.nd rfl (Or.inl rfl) (pe_lst pa_nil))
      (pss_cons (ps_for PassesOwn.never rfl (pi_list (pe_dget (hu_of hr) (pv 0) pe_str (fun _ _ => rfl))) (pg_tup rfl (pgs_cons (pg_name (i := 4) sc_Lparts.nd rfl (Or.inl rfl)) (pgs_cons (pg_name (i := 5) sc_Lparts.nd rfl (Or.inl rfl)) pgs_nil))) (pss_cons (ps_asg (pe_dget (hu_of hr) (pe_ix ix_list (pe_dget (hu_of hr) (pv 0) pe_str (fun _ _ => rfl)) (pv 4) (fun _ _ => rfl)) (pv 5) (fun _ _ => rfl)) (pg_tup rfl (pgs_cons (pg_name (i := 6) sc_Lparts.nd rfl (Or.inl rfl)) (pgs_cons (pg_name (i := 7) sc_Lparts.nd rfl (Or.inl rfl)) pgs_nil))))
      (pss_one (ps_if (pt_cmpR op_le (pv 7) (pe_ix ix_tup (pv 1) (pv 6) (fun _ _ => rfl)) (nomark _)) (pss_one (ps_expr (pe_bm PySem.F.plainAttrs_list PySem.F.slot_list_append PySem.F.type_list_append mt_append (pv 2) (pa_cons (pe_tup (pa_cons (pv 4) (pa_cons (pv 5) pa_nil))) pa_nil)))) (pss_one (ps_expr (pe_bm PySem.F.plainAttrs_list PySem.F.slot_list_append PySem.F.type_list_append mt_append (pv 3) (pa_cons (pe_tup (pa_cons (pv 4) (pa_cons (pv 5) pa_nil))) pa_nil))))))))
      (pss_one (ps_ret (pe_tup (pa_cons (pv 2) (pa_cons (pv 3) pa_nil)))))))), ?_⟩
    refine ⟨line (by show 0 ≤ 16777216; decide), fun D1 hD1 => ?_⟩
    have s1 := Same.new_ (o := .lst []) hD1
    refine ⟨line (by show 0 ≤ 16777216; decide), fun D2 hD2 => ?_⟩
    have s2 := s1.trans (Same.new_ (o := .lst []) hD2)
    have n12 : D1 ≠ D2 := ne_of_none (upd_same (a := D1) (o := .lst [])) hD2
    have nD2 : H D2 = none := s1.free hD2
    have P2 := P.keep s2
    obtain ⟨vs, hvs, pvs⟩ := P.a_evs
    have lvs := pvs.length
    refine ⟨_, rfl, A' .d, _, rfl, P2.g_evs, A' .evs, rfl, ⟨_, SqL.of (s2 _ _ hvs)⟩, ?_⟩
    refine for_it (n := vs.length) walk_list (fun i σ H' => (∃ v4 v5 v6 v7, σ = [some (.ref (A' .d)), some (.ref a'), some (.ref D1), some (.ref D2), v4, v5, v6, v7]) ∧ Same H H' ∧
      ∃ us1 us2, H' D1 = some (.lst us1) ∧ H' D2 = some (.lst us2) ∧ Paired (IsPk H') us1 ((R.evs.take i).filter (within R c)) ∧ Paired (IsPk H') us2 ((R.evs.take i).filter fun e => !within R c e))
      ⟨⟨_, _, _, _, rfl⟩, s2, [], [], by rw [upd_ne n12, upd_same], upd_same, .nil, .nil⟩ (fun i σ H' _ P => SqL.of (P.2.1 _ _ hvs)) ?_ ?_
    · rintro i y σ H2 H3 hi ⟨⟨v4, v5, v6, v7, rfl⟩, sA, us1, us2, h1, h2, p1, p2⟩ ⟨rfl, hy⟩
      obtain ⟨⟨w', n⟩, he, he2⟩ := pvs.cget hy
      obtain ⟨pe, rfl, hpe⟩ := he2.tk (Same.tk_ sA)
      obtain ⟨o1, o2, v, hv, hvm⟩ := hP.ev_ok hN he
      have PA := P.keep sA
      obtain ⟨ks, hks, pks⟩ := PA.a_k o1
      have hkv := kv_val pks n
      rw [show (R.wk w').lookup n = some v from hv] at hkv
      obtain ⟨ev, hev1, pv, rfl, hpv⟩ := hkv
      have hdg : DGet H3 (A' (.k w')) (.int (n : Nat)) (some (.ref pv)) := by rw [← hev1]; exact DGet.k (k := .inl (n : Int)) hks
      have l1 := p1.length
      have l2 := p2.length
      have f1 := List.length_filter_le (within R c) (R.evs.take i)
      have f2 := List.length_filter_le (fun e => !within R c e) (R.evs.take i)
      rw [List.length_take] at f1 f2
      refine ⟨pe, _, rfl, SqT.of hpe, rfl, _, _, rfl, _, _, rfl, rfl, ?_⟩
      refine ⟨_, rfl, A' .d, _, rfl, PA.g_wk, _, rfl, A' .wk, _, _, _, rfl, rfl, SqL.of PA.a_wk, atI_nat (rm_get o1), _, rfl, A' (.k w'), _, rfl, hdg, pv, _, rfl, SqT.of hpv, rfl, _, _, rfl, _, _, rfl, rfl, ?_⟩
      refine ⟨_, rfl, _, rfl, _, rfl, a', _, _, _, rfl, rfl, SqT.of (sA _ _ ha), atI_nat (rm_get hvm), _, _, rfl, rfl, _, rfl, ?_⟩
      have ew : within R c (w', n) = decide (v.2 ≤ c v.1) := by unfold within; rw [hv]
      rw [filter_take he, filter_take he, ew]
      by_cases hin : v.2 ≤ c v.1
      · refine iteD (Int.ofNat_le.mpr hin) ?_
        rw [decide_eq_true hin]
        refine ⟨_, rfl, .inl ⟨rfl, _, SqL.of h1⟩, _, rfl, _, rfl, line (by show 2 ≤ 16777216; decide), fun t ht => ?_⟩
        have sT := Same.new_ (o := .tup [.int (w' : Nat), .int (n : Nat)]) ht
        have F := Fr.put (S := (· = D1)) (o := .lst (us1 ++ [.ref t])) rfl (not_tup_lst (sT _ _ h1))
        have tF := (Same.tk_ sT).trans F.tk
        refine ⟨D1, us1, _, rfl, rfl, sT _ _ h1, line' (by omega), ⟨_, _, _, _, rfl⟩, (sA.trans sT).putN hD1, _, _, upd_same, F.at (sT _ _ h2) n12.symm, ?_, ?_⟩
        · exact (p1.cimp fun _ _ z => z.tk tF).csnoc2 ⟨t, rfl, F.tk _ _ upd_same⟩
        · simpa using p2.cimp fun _ _ z => IsPk.tk z tF
      · refine iteN (fun z => hin (Int.ofNat_le.mp z)) ?_
        rw [decide_eq_false hin]
        refine ⟨_, rfl, .inl ⟨rfl, _, SqL.of h2⟩, _, rfl, _, rfl, line (by show 2 ≤ 16777216; decide), fun t ht => ?_⟩
        have sT := Same.new_ (o := .tup [.int (w' : Nat), .int (n : Nat)]) ht
        have F := Fr.put (S := (· = D2)) (o := .lst (us2 ++ [.ref t])) rfl (not_tup_lst (sT _ _ h2))
        have tF := (Same.tk_ sT).trans F.tk
        refine ⟨D2, us2, _, rfl, rfl, sT _ _ h2, line' (by omega), ⟨_, _, _, _, rfl⟩, (sA.trans sT).putN nD2, _, _, F.at (sT _ _ h1) n12, upd_same, ?_, ?_⟩
        · simpa using p1.cimp fun _ _ z => IsPk.tk z tF
        · exact (p2.cimp fun _ _ z => z.tk tF).csnoc2 ⟨t, rfl, F.tk _ _ upd_same⟩
    · rintro σ H2 ⟨⟨v4, v5, v6, v7, rfl⟩, sA, us1, us2, h1, h2, p1, p2⟩
      rw [lvs, List.take_length] at p1 p2
      refine ⟨_, rfl, _, rfl, line (by show 2 ≤ 16777216; decide), fun t ht => ?_⟩
      have sT := Same.new_ (o := .tup [.ref D1, .ref D2]) ht
      exact k _ t D1 D2 us1 us2 (sA.trans sT) upd_same (sT _ _ h1) (sT _ _ h2) (p1.cimp fun _ _ z => z.tk (Same.tk_ sT)) (p2.cimp fun _ _ z => z.tk (Same.tk_ sT))
end Cr
namespace Cr
open PySem PySem.Spec PyProof.Rows L2 He
theorem sc_Lare_picks : FnScope ["_law_found", "_law_pick_here"] ["_law_found"] (defScope s_Lare_picks) := ⟨rfl, rfl, rfl, by decide +kernel, rfl, by decide +kernel, by decide +kernel⟩
def sp_Lare_picks (K : PySem.W.Frag) : Sp := fun vs H Q _ => ∃ (l : Addr) (us : List V) (es : List (Nat × Nat)), vs = [.ref l] ∧ H l = some (.lst us) ∧ Paired (IsPk H) us es ∧ Q (.bl true) H
theorem ok_Lare_picks {P : Program} {w : World} {K : PySem.W.Frag} {mg : Str → Option Value} {base : Heap} (T : Txt K mg) : Cal P w K mg base 1 "_law_are_picks" (sp_Lare_picks K) := by
  refine Cal.mk0 T.g_Lare_picks T.D_Lare_picks sc_Lare_picks (fun _ _ _ _ _ _ us hl => match us, hl with | [_], _ => rfl) (fun vs H Q E h => ?_) (fun cdv A outer s H vs Q E hr h => ?_)
  · obtain ⟨l, us, es, rfl, _⟩ := h
    rfl
  · obtain ⟨l, us, es, rfl, hl, hus, k⟩ := h
    refine ⟨_, (pss_cons (ps_if (pt_not (pt_val (pe_callB call_isi (by rfl) T.f_isinstance (by decide +kernel) (pa_cons (pv 0) (pa_cons (pe_bltn (v := .ty "list") (by rfl) T.f_list (by decide +kernel) rfl) pa_nil))))) (pss_one (ps_ret pe_bl)) pss_nil)
      (pss_cons (ps_for PassesOwn.never rfl (pi_list (pv 0)) (pg_name (i := 1) sc_Lare_picks.nd rfl (Or.inl rfl)) (pss_one (ps_if (PW.pt (pw_or (pt_not (pt_val (pe_callB call_isi (by rfl) T.f_isinstance (by decide +kernel) (pa_cons (pv 1) (pa_cons (pe_bltn (v := .ty "tuple") (by rfl) T.f_tuple (by decide +kernel) rfl) pa_nil))))) (pw_or (pt_cmpR op_ne (pe_callB call_len_seq (by rfl) T.f_len (by decide +kernel) (pa_cons (pv 1) pa_nil)) pe_int (nomark _)) (pw_or (pt_val (pe_callB call_isi (by rfl) T.f_isinstance (by decide +kernel) (pa_cons (pe_ix ix_tup (pv 1) pe_int (fun _ _ => rfl)) (pa_cons (pe_bltn (v := .ty "bool") (by rfl) T.f_bool (by decide +kernel) rfl) pa_nil)))) (pw_or1 (pt_val (pe_callB call_isi (by rfl) T.f_isinstance (by decide +kernel) (pa_cons (pe_ix ix_tup (pv 1) pe_int (fun _ _ => rfl)) (pa_cons (pe_bltn (v := .ty "bool") (by rfl) T.f_bool (by decide +kernel) rfl) pa_nil))))))))) (pss_one (ps_ret pe_bl)) pss_nil)))
      (pss_one (ps_ret pe_bl)))), ?_⟩
    refine ⟨_, rfl, _, _, _, _, true, rfl, .ty _, .base (.lst hl), kit_ty (by decide +kernel), true, rfl, iteF ?_⟩
    refine ⟨_, rfl, l, rfl, ⟨_, SqL.of hl⟩, ?_⟩
    refine for_it (n := us.length) walk_list (fun i σ H' => (∃ v1, σ = [some (.ref l), v1]) ∧ H' = H) ⟨⟨_, rfl⟩, rfl⟩ (fun i σ H' _ P => SqL.of (by rw [P.2]; exact hl)) ?_ ?_
    · rintro i y σ H1 H2 hi ⟨⟨v1, rfl⟩, rfl⟩ ⟨rfl, hy⟩
      obtain ⟨e, he, pe, rfl, hpe⟩ := hus.cget hy
      refine ⟨_, rfl, _, _, _, _, true, rfl, .ty _, .base (.tup hpe), kit_ty (by decide +kernel), true, rfl, iteF ?_⟩
      refine ⟨_, rfl, pe, _, rfl, .inr (SqT.of hpe), rfl, _, rfl, iteF ?_⟩
      refine ⟨_, rfl, pe, _, _, _, rfl, rfl, SqT.of hpe, atI_nat (j := 0) rfl, _, _, _, _, false, rfl, .ty _, .base (.int _), kit_ty (by decide +kernel), false, rfl, iteF ?_⟩
      refine ⟨_, rfl, pe, _, _, _, rfl, rfl, SqT.of hpe, atI_nat (j := 1) rfl, _, _, _, _, false, rfl, .ty _, .base (.int _), kit_ty (by decide +kernel), false, rfl, iteF ?_⟩
      exact ⟨⟨_, rfl⟩, rfl⟩
    · rintro σ H1 ⟨⟨v1, rfl⟩, rfl⟩
      exact k
end Cr
namespace Cr
open PySem PySem.Spec PyProof.Rows L2 He
theorem sc_played_run : FnScope ["net", "schedule", "run", "at", "way", "number"] ["net", "schedule"] (defScope s_played_run) := ⟨rfl, rfl, rfl, by decide +kernel, rfl, by decide +kernel, by decide +kernel⟩
def May_all (N : Nt) (es : List (Nat × Nat)) : Prop := ∀ j e, es[j]? = some e → (goOn N (begun N) (es.take j)).May N e.1 e.2
theorem May_all.ply {N : Nt} {es : List (Nat × Nat)} (h : May_all N es) (i : Nat) : Ply N (goOn N (begun N) (es.take i)) := by
  refine ply_of _ .nil fun j e he => ?_
  have hj : j < (es.take i).length := (List.getElem?_eq_some_iff.mp he).1
  rw [List.length_take] at hj
  rw [List.getElem?_take_of_lt (by omega)] at he
  rw [List.take_take, Nat.min_eq_left (by omega)]
  exact h j e he
def sp_played_run (K : PySem.W.Frag) : Sp := fun vs H Q _ => ∃ (l : Addr) (nv : V) (N : Nt) (us : List V) (es : List (Nat × Nat)), vs = [nv, .ref l] ∧ IsPNet K H nv N ∧ N.ok ∧ H l = some (.lst us) ∧ Paired (IsPk H) us es ∧ May_all N es ∧ es.length ≤ 1000 ∧
  ∀ H' p A hI, Same H H' → PRun K H H' p A hI N (goOn N (begun N) es) → Q (.ref p) H'
theorem ok_played_run {P : Program} {w : World} {K : PySem.W.Frag} {mg : Str → Option Value} {base : Heap} (T : Txt K mg) : Cal P w K mg base 6 "played_run" (sp_played_run K) := by
  have G_Run_new := ok_Run_new (P := P) (w := w) (base := base) T
  have G_Run_pick := ok_Run_pick (P := P) (w := w) (base := base) T
  refine Cal.mk0 T.g_played_run T.D_played_run sc_played_run (fun _ _ _ _ _ _ us hl => match us, hl with | [_, _], _ => rfl) (fun vs H Q E h => ?_) (fun cdv A outer s H vs Q E hr h => ?_)
  · obtain ⟨l, nv, N, us, es, rfl, _⟩ := h
    rfl
  · obtain ⟨l, nv, N, us, es, rfl, Z, hN, hl, hus, hmay, hlen, k⟩ := h
    have lus := hus.length
    refine ⟨_, (pss_cons (ps_set (i := 2) sc_played_run.nd rfl (Or.inl rfl) (pe_mk G_Run_new hr (by decide) (by rfl) (pa_cons (pv 0) pa_nil)))
      (pss_cons (ps_for PassesOwn.never rfl (pi_enum (by rfl) T.f_enumerate (pa_cons (pv 1) pa_nil)) (pg_tup rfl (pgs_cons (pg_name (i := 3) sc_played_run.nd rfl (Or.inl rfl)) (pgs_cons (pg_tup rfl (pgs_cons (pg_name (i := 4) sc_played_run.nd rfl (Or.inl rfl)) (pgs_cons (pg_name (i := 5) sc_played_run.nd rfl (Or.inl rfl)) pgs_nil))) pgs_nil))) (pss_one (ps_try_many rfl rfl takes_none5 (fun W pn xe tk po => (pss_one (ps_expr (pe_mt G_Run_pick hr (by decide) (pv 2) (pa_cons (pv 4) (pa_cons (pv 5) pa_nil)))))) (.cons (c := .ref (ga K "NoLetter")) ⟨by rfl, by decide, .inl T.g_NoLetter⟩ (fun _ _ _ _ _ _ _ => pss_one ps_never) (.cons (c := .ref (ga K "NotFirst")) ⟨by rfl, by decide, .inl T.g_NotFirst⟩ (fun _ _ _ _ _ _ _ => pss_one ps_never) .nil)))))
      (pss_one (ps_ret (pv 2))))), ?_⟩
    refine ⟨_, rfl, fun x dy nx ny nxy => ?_⟩
    have s0 : Same H (upd (upd H dy (.own x)) x (.ins (ga K "Run") dy [])) := (Same.new_ ny).trans (Same.new_ (by rw [upd_ne nxy.symm]; exact nx))
    refine ⟨x, dy, nv, N, rfl, upd_same, Z.keep s0, hN, fun H1 A' hI G F1 P1 fr => ⟨rfl, ?_⟩⟩
    have s1 : Same H H1 := F1.same s0 fun b hb => by rw [hb]; exact nx
    have fr0 : ∀ t, PT.ok N t → H (A' t) = none := fun t ht => s0.free (fr t ht)
    refine ⟨_, rfl, l, us, rfl, SqL.of (s1 _ _ hl), ?_⟩
    refine for_it (n := us.length) walk_enum (fun i σ H' => (∃ v1 v2 v3, σ = [some nv, some (.ref l), some (.ref x), v1, v2, v3]) ∧ PRun K H H' x A' hI N (goOn N (begun N) (es.take i))) ⟨⟨_, _, _, rfl⟩, s1, fr0, nv, G, Z, P1⟩ (fun i σ H' _ P => SqL.of (P.2.s0 _ _ hl)) ?_ ?_
    · rintro i y σ H2 H3 hi ⟨⟨v1, v2, v3, rfl⟩, P⟩ ⟨t, x1, x2, rfl, ht, rfl, e1, e2⟩
      cases e1
      obtain ⟨⟨w', n⟩, he, he2⟩ := hus.cget e2
      have s3 := Same.new_ (o := .tup [.int (i : Nat), x2]) ht
      obtain ⟨pe, rfl, hpe⟩ := he2.tk (Same.tk_ (P.s0.trans s3))
      have P3 := P.keep s3
      have hp3 := P3.at_
      obtain ⟨nv3, G3, _, Q3⟩ := hp3
      obtain ⟨dx3, hx3⟩ := Q3.ob
      have el : (goOn N (begun N) (es.take i)).evs.length ≤ 1000 := by
        rw [goOn_evs]
        show ([] ++ es.take i).length ≤ 1000
        rw [List.nil_append, List.length_take]
        omega
      refine ⟨t, _, rfl, SqT.of upd_same, rfl, _, _, rfl, _, _, rfl, pe, _, rfl, SqT.of hpe, rfl, _, _, rfl, _, _, rfl, rfl, rfl, ?_⟩
      refine ⟨_, rfl, x, dx3, _, rfl, hx3, lkN runK (by decide +kernel), _, rfl, _, rfl, x, H, A', hI, N, _, w', n, rfl, P3, hN, (hmay.ply i).ok hN, hmay i _ he, el, fun H4 ev P4 F4 hev => ?_⟩
      refine ⟨⟨_, _, _, rfl⟩, ?_⟩
      rw [take_more he, goOn_snoc]
      exact P4
    · rintro σ H2 ⟨⟨v1, v2, v3, rfl⟩, P⟩
      rw [lus, List.take_length] at P
      exact ⟨_, rfl, k H2 x A' hI P.s0 P⟩
end Cr
namespace Cr
open PySem PySem.Spec PyProof.Rows L2 He
theorem sc_Lplayed : FnScope ["_law_net_here", "_law_schedule", "_law_run", "_law_way", "_law_number"] ["_law_net_here", "_law_schedule"] (defScope s_Lplayed) := ⟨rfl, rfl, rfl, by decide +kernel, rfl, by decide +kernel, by decide +kernel⟩
def sp_Lplayed (K : PySem.W.Frag) : Sp := fun vs H Q _ => ∃ (nv : V) (l : Addr) (N : Nt) (us : List V) (es : List (Nat × Nat)), vs = [nv, .ref l] ∧ IsLNet H nv N ∧ N.ok ∧ H l = some (.lst us) ∧ Paired (IsPk H) us es ∧ May_all N es ∧ es.length ≤ 1000 ∧
  ∀ H' v S, LRun H H' v N (goOn N (begun N) es) S → Q v H'
theorem ok_Lplayed {P : Program} {w : World} {K : PySem.W.Frag} {mg : Str → Option Value} {base : Heap} (T : Txt K mg) : Cal P w K mg base 4 "_law_played" (sp_Lplayed K) := by
  have G_Lbegun := ok_Lbegun (P := P) (w := w) (base := base) T
  have G_Lpick := ok_Lpick (P := P) (w := w) (base := base) T
  refine Cal.mk0 T.g_Lplayed T.D_Lplayed sc_Lplayed (fun _ _ _ _ _ _ us hl => match us, hl with | [_, _], _ => rfl) (fun vs H Q E h => ?_) (fun cdv A outer s H vs Q E hr h => ?_)
  · obtain ⟨nv, l, N, us, es, rfl, _⟩ := h
    rfl
  · obtain ⟨nv, l, N, us, es, rfl, Z, hN, hl, hus, hmay, hlen, k⟩ := h
    have lus := hus.length
    refine ⟨_, (pss_cons (ps_set (i := 2) sc_Lplayed.nd rfl (Or.inl rfl) (pe_c G_Lbegun hr (by decide) (by rfl) (pa_cons (pv 0) pa_nil)))
      (pss_cons (ps_for PassesOwn.never rfl (pi_list (pv 1)) (pg_tup rfl (pgs_cons (pg_name (i := 3) sc_Lplayed.nd rfl (Or.inl rfl)) (pgs_cons (pg_name (i := 4) sc_Lplayed.nd rfl (Or.inl rfl)) pgs_nil))) (pss_one (ps_expr (pe_c G_Lpick hr (by decide) (by rfl) (pa_cons (pv 2) (pa_cons (pv 3) (pa_cons (pv 4) pa_nil)))))))
      (pss_one (ps_ret (pv 2))))), ?_⟩
    refine ⟨_, rfl, nv, N, rfl, Z, hN, fun H1 v S1 L1 _ => ?_⟩
    refine ⟨_, rfl, l, rfl, ⟨_, SqL.of (L1.s0 _ _ hl)⟩, ?_⟩
    refine for_it (n := us.length) walk_list (fun i σ H' => (∃ v3 v4, σ = [some nv, some (.ref l), some v, v3, v4]) ∧ ∃ S, LRun H H' v N (goOn N (begun N) (es.take i)) S) ⟨⟨_, _, rfl⟩, S1, L1⟩ (fun i σ H' _ P => SqL.of (by obtain ⟨_, _, L⟩ := P; exact L.s0 _ _ hl)) ?_ ?_
    · rintro i y σ H2 H2' hi ⟨⟨v3, v4, rfl⟩, S, L⟩ ⟨rfl, hy⟩
      obtain ⟨e, he, he2⟩ := hus.cget hy
      obtain ⟨pe, rfl, hpe⟩ := he2.tk (Same.tk_ L.s0)
      have el : (goOn N (begun N) (es.take i)).evs.length ≤ 1000 := by
        rw [goOn_evs]
        show ([] ++ es.take i).length ≤ 1000
        rw [List.nil_append, List.length_take]
        omega
      refine ⟨pe, _, rfl, SqT.of hpe, rfl, _, _, rfl, _, _, rfl, rfl, ?_⟩
      refine ⟨_, rfl, _, rfl, _, rfl, v, e.1, e.2, H, N, _, S, rfl, L, hN, hmay.ply i, hmay i e he, el, fun H4 S4 ev L4 U4 => ?_⟩
      refine ⟨⟨_, _, rfl⟩, S4, ?_⟩
      rw [take_more he, goOn_snoc]
      exact L4
    · rintro σ H2 ⟨⟨v3, v4, rfl⟩, S, L⟩
      rw [lus, List.take_length] at L
      exact ⟨_, rfl, k H2 v S L⟩
end Cr
namespace Cr
open PySem PySem.Spec PyProof.Rows L2 He
theorem sc_Run_state : FnScope ["self", "m"] ["self", "m"] (defScope s_Run_state) := ⟨rfl, rfl, rfl, by decide +kernel, rfl, by decide +kernel, by decide +kernel⟩
def sp_Run_state (K : PySem.W.Frag) : Sp := fun vs H Q _ => ∃ (p : Addr) (nv : V) (A : PT → Addr) (hI : Nat → Addr) (G : PT → HO) (N : Nt) (R : Run) (m : Nat), vs = [.ref p, .int (m : Nat)] ∧ IsPNet K H nv N ∧ PRunAt K H p nv A hI G N R ∧ m < N.ms.length ∧ R.Ok N ∧
  ∀ v, IsSta H v (R.last m) → Q v H
theorem ok_Run_state {P : Program} {w : World} {K : PySem.W.Frag} {mg : Str → Option Value} {base : Heap} (T : Txt K mg) : Met P w K mg base 3 (ga K "Run") "state" (sp_Run_state K) := by
  have G_Net_want_machine := ok_Net_want_machine (P := P) (w := w) (base := base) T
  refine Met.mk0 T.c_Run T.m_Run_state T.D_Run_state sc_Run_state (fun _ _ _ _ _ _ us hl => match us, hl with | [_, _], _ => rfl) (fun vs H Q E h => ?_) (fun cdv A outer s H vs Q E hr h => ?_)
  · obtain ⟨p, nv, A, hI, G, N, R, m, rfl, _⟩ := h
    rfl
  · obtain ⟨p, nv, A', hI, G, N, R, m, rfl, Z, P, hm, hR, k⟩ := h
    obtain ⟨dx, hp⟩ := P.ob
    obtain ⟨np, nw, nj, nb, ms, ws, ls, rfl, Z⟩ := Z
    obtain ⟨dn, hnp⟩ := Z.ob
    have hl := P.lay.at_ .sl trivial
    rw [P.sl] at hl
    obtain ⟨us, e, hus⟩ := P.st m hm
    have hs := P.lay.at_ (.st m) hm
    rw [e] at hs
    obtain ⟨v, hv, hv2⟩ := hus.cget2 (last_mem (hR.sl m))
    refine ⟨_, (pss_cons (ps_expr (pe_mt G_Net_want_machine hr (by decide) (pe_fld (pv 0) rfl) (pa_cons (pv 1) pa_nil)))
      (pss_one (ps_ret (pe_ix ix_list (pe_ix ix_list (pe_fld (pv 0) rfl) (pv 1) (fun _ _ => rfl)) (pe_un un_neg pe_int) (fun _ _ => rfl))))), ?_⟩
    refine ⟨_, rfl, p, _, dx, _, .ref np, rfl, hp, T.c_Run, T.n_Run_base, lk 0 runK (by decide +kernel), np, dn, _, rfl, hnp, lkN netK (by decide +kernel), _, rfl, np, nw, nj, nb, ms, ws, ls, N, m, rfl, Z, hm, ?_⟩
    exact ⟨_, rfl, p, _, dx, _, .ref (A' .sl), rfl, hp, T.c_Run, T.n_Run_states, lk 2 runK (by decide +kernel), _, rfl, A' .sl, _, _, _, rfl, rfl, SqL.of hl, atI_nat (rm_get hm), _, rfl, A' (.st m), us, _, _, rfl, rfl, SqL.of hs, atI_end (by rw [hus.length, hR.sl]) hv, k v hv2⟩
end Cr
namespace Cr
open PySem PySem.Spec PyProof.Rows L2 He
theorem sc_Lleads : FnScope ["_law_run", "_law_made", "_law_found", "_law_cut", "_law_first", "_law_m", "_law_c", "_law_way", "_law_number"] ["_law_run", "_law_made", "_law_found", "_law_cut"] (defScope s_Lleads) := ⟨rfl, rfl, rfl, by decide +kernel, rfl, by decide +kernel, by decide +kernel⟩
theorem May_all.of_ply {N : Nt} {es : List (Nat × Nat)} (h : Ply N (goOn N (begun N) es)) : May_all N es := fun j e he => by
  have ee : (goOn N (begun N) es).evs = es := by rw [goOn_evs]; rfl
  have := h.all.2 j e (by rw [ee]; exact he)
  unfold At at this
  rw [ee] at this
  exact this
def wordsD (W : List (List Int)) (k : Nat) : PyData := .list ((List.range k).map fun c => insD ((W.take c).flatten))
theorem sh_wordsD (W : List (List Int)) (k : Nat) : Sh 2 (wordsD W k) := Sh.list fun d hd => by
  obtain ⟨c, _, rfl⟩ := List.mem_map.mp hd
  exact sh_insD _
def statesD (l : List Sta) : PyData := .list (l.map staD)
theorem sh_statesD (l : List Sta) : Sh 3 (statesD l) := Sh.list fun d hd => by
  obtain ⟨c, _, rfl⟩ := List.mem_map.mp hd
  exact sh_staD _
theorem dp_range {K : PySem.W.Frag} {H : Hp} {n : Nat} {f : Nat → V} {g : Nat → PyData} (h : ∀ i, i < n → Dp K H (f i) (g i)) : DpAll K H ((List.range n).map f) ((List.range n).map g) := by
  have : ∀ l : List Nat, (∀ i ∈ l, Dp K H (f i) (g i)) → DpAll K H (l.map f) (l.map g) := by
    intro l
    induction l with
    | nil => intro _; exact .nil
    | cons a l ih => intro h; exact .cons (h a List.mem_cons_self) (ih fun i hi => h i (List.mem_cons_of_mem _ hi))
  exact this _ fun i hi => h i (List.mem_range.mp hi)
theorem sh_range {n k : Nat} {g : Nat → PyData} (h : ∀ i, Sh k (g i)) : Sh (k + 1) (.list ((List.range n).map g)) := Sh.list fun d hd => by
  obtain ⟨c, _, rfl⟩ := List.mem_map.mp hd
  exact h c
theorem take_pre {l1 l2 : List (List Int)} {c : Nat} (h : c ≤ l1.length) : (l1 ++ l2).take c = l1.take c := List.take_append_of_le_length h
theorem lying_congr {R T : Run} {w : Nat} (h1 : R.put w = T.put w) (h2 : R.wk w = T.wk w) : R.lying w = T.lying w := by
  unfold Run.lying Run.worker
  rw [h1, h2]
theorem not_eqv {n : Nat} {d e : PyData} (h : Sh n d) (q : d = e) : (!PyData.eqv d e) = false := by rw [← q, h.refl]; rfl
def sp_Lleads (K : PySem.W.Frag) : Sp := fun vs H Q _ => ∃ (v a mv : V) (p f q1 q2 : Addr) (us1 us2 : List V) (H0 Hm : Hp) (A : PT → Addr) (hI : Nat → Addr) (N : Nt) (R : Run) (S : Addr → Prop) (c : Nat → Nat), vs = [v, .ref p, .ref f, a] ∧ LRun H0 H v N R S ∧ N.ok ∧ Ply N R ∧ R.evs.length ≤ 60 ∧ IsCut H a N.ms.length c ∧
  (∀ m, m < N.ms.length → c m ≤ R.cnt m) ∧ orph N R c = [] ∧ H f = some (.tup [.ref q1, .ref q2]) ∧ H q1 = some (.lst us1) ∧ H q2 = some (.lst us2) ∧ Paired (IsPk H) us1 (firstPart R c) ∧ Paired (IsPk H) us2 (thenPart R c) ∧
  PRun K Hm H p A hI N (goOn N (begun N) (firstPart R c)) ∧ ∀ H', Same H H' → Q (.bl true) H'
theorem out_cut {N : Nt} {R : Run} {c : Nat → Nat} (hN : N.ok) (hP : Ply N R) (hc : ∀ m, m < N.ms.length → c m ≤ R.cnt m) (ho : orph N R c = []) : ∃ c' : Nat → Nat, (∀ m, m < N.ms.length → c' m = c m) ∧ (∀ m, c' m ≤ R.cnt m) ∧ (∀ w n, isOrphan R c' w n = false) ∧ firstPart R c' = firstPart R c ∧ thenPart R c' = thenPart R c := by
  have hR := hP.ok hN
  have e : ∀ m, m < N.ms.length → (fun m => if m < N.ms.length then c m else 0) m = c m := fun m h => if_pos h
  have hput : ∀ w, N.ws.length ≤ w → R.put w = [] := by
    intro w hw
    clear hR hc ho
    induction hP with
    | nil =>
      show N.ls.filterMap _ = []
      rw [List.filterMap_eq_nil_iff]
      intro l hl
      have := (hN.ls l hl).1
      rw [if_neg (by omega)]
    | @pick R v n _ hm ih =>
      show R.put w ++ sends _ _ w = []
      rw [ih, List.nil_append]
      unfold sends
      rw [List.filterMap_eq_nil_iff]
      intro q _
      rw [if_neg]
      intro z
      have := List.mem_of_getElem? z
      unfold Nt.outs at this
      have := List.mem_range.mp (List.mem_filter.mp this).1
      omega
  have ei : ∀ w n v, w < N.ws.length → R.worker w n = some v → v.1 < N.ms.length := fun w n v hw h => by rw [(hP.worker_ok h).1]; exact hN.goal hw
  have noo : ∀ w n, isOrphan R (fun m => if m < N.ms.length then c m else 0) w n = false := fun w n => by
    have h0 := no_orph hR hput ho w n
    cases hw : R.worker w n with
    | none => exact isOrphan_none hw
    | some v =>
      have hwl : w < N.ws.length := by
        rcases Nat.lt_or_ge w N.ws.length with z | z
        · exact z
        · have := hR.wb w _ (mem_lookup' hw)
          rw [hput w z] at this
          exact absurd this (Nat.not_lt_zero _)
      rw [isOrphan_some hw] at h0 ⊢
      rw [← h0, if_pos (ei w n v hwl hw)]
      congr 2
      cases hs : (R.snd w).getD n none with
      | none => rfl
      | some s =>
        have hn2 : n < (R.snd w).length := by
          rcases Nat.lt_or_ge n (R.snd w).length with z | z
          · exact z
          · rw [List.getD_eq_getElem?_getD, List.getElem?_eq_none z] at hs; cases hs
        have := nt_get hn2 none
        rw [hs] at this
        have hsm : s.1 < N.ms.length := by rw [(hP.snd_ok (List.mem_of_getElem? this)).1]; exact hN.src hwl
        show decide (s.2 ≤ (if s.1 < N.ms.length then c s.1 else 0)) = decide (s.2 ≤ c s.1)
        rw [if_pos hsm]
  have hwi : ∀ x ∈ R.evs, within R (fun m => if m < N.ms.length then c m else 0) x = within R c x := fun x hx => by
    obtain ⟨i, hi⟩ := List.getElem?_of_mem hx
    obtain ⟨o1, o2, v, hv, hvm⟩ := hP.ev_ok hN hi
    unfold within
    rw [hv]
    show decide (v.2 ≤ (if v.1 < N.ms.length then c v.1 else 0)) = decide (v.2 ≤ c v.1)
    rw [if_pos hvm]
  refine ⟨fun m => if m < N.ms.length then c m else 0, e, fun m => ?_, noo, ?_, ?_⟩
  · show (if m < N.ms.length then c m else 0) ≤ _
    split
    · rename_i h; exact hc m h
    · exact Nat.zero_le _
  · unfold firstPart
    exact List.filter_congr hwi
  · unfold thenPart
    exact List.filter_congr fun x hx => by rw [hwi x hx]
theorem ok_Lleads {P : Program} {w : World} {K : PySem.W.Frag} {mg : Str → Option Value} {base : Heap} (T : Txt K mg) : Cal P w K mg base 5 "_law_leads" (sp_Lleads K) := by
  have G_Lplayed := ok_Lplayed (P := P) (w := w) (base := base) T
  have G_Run_count := ok_Run_count (P := P) (w := w) (base := base) T
  have G_Run_state := ok_Run_state (P := P) (w := w) (base := base) T
  have G_Lfree := ok_Lfree (P := P) (w := w) (base := base) T
  have G_Lpick := ok_Lpick (P := P) (w := w) (base := base) T
  have G_Llying := ok_Llying (P := P) (w := w) (base := base) T
  refine Cal.mk0 T.g_Lleads T.D_Lleads sc_Lleads (fun _ _ _ _ _ _ us hl => match us, hl with | [_, _, _, _], _ => rfl) (fun vs H Q E h => ?_) (fun cdv A outer s H vs Q E hr h => ?_)
  · obtain ⟨v, a, mv, p, f, q1, q2, us1, us2, H0, Hm, A, hI, N, R, S, c, rfl, _⟩ := h
    rfl
  · obtain ⟨v, a, mv, p, f, q1, q2, us1, us2, H0, Hm, Ap, hI, N, R, S, c, rfl, L, hN, hP, hev, hcut, hc, ho, hf, hq1, hq2, p1, p2, PM, k⟩ := h
    obtain ⟨s0, nw, nv, A', G, rfl, Z0, P, hS⟩ := id L
    have Z := Z0.keep s0
    obtain ⟨c', ec, c1, c2, ef, et⟩ := out_cut hN hP hc ho
    rw [← ef] at p1 PM
    rw [← et] at p2
    obtain ⟨pl1, pl2, pl3, pl4, pl5⟩ := cut_parts hP c1 c2
    have hcut' : IsCut H a N.ms.length c' := by
      obtain ⟨a', e, h⟩ := hcut
      refine ⟨a', e, h.trans (congrArg (fun z => some (HO.tup z)) (List.map_congr_left fun m hm => ?_))⟩
      rw [ec m (List.mem_range.mp hm)]
    clear hcut hc ho ef et ec
    obtain ⟨a', rfl, ha⟩ := hcut'
    have hR := hP.ok hN
    have lF : (firstPart R c').length ≤ 60 := Nat.le_trans (List.length_filter_le _ _) hev
    have lT : (thenPart R c').length ≤ 60 := Nat.le_trans (List.length_filter_le _ _) hev
    have hFok := pl4.ok hN
    generalize hF : goOn N (begun N) (firstPart R c') = F at pl4 pl5 PM hFok
    have m5 := hN.m5
    have w10 := hN.w10
    refine ⟨_, (pss_cons (ps_set (i := 4) sc_Lleads.nd rfl (Or.inl rfl) (pe_c G_Lplayed hr (by decide) (by rfl) (pa_cons (pe_dget (hu_of hr) (pv 0) pe_str (fun _ _ => rfl)) (pa_cons (pe_ix ix_tup (pv 2) pe_int (fun _ _ => rfl)) pa_nil))))
      (pss_cons (ps_for PassesOwn.never rfl (pi_enumT (by rfl) T.f_enumerate (pa_cons (pv 3) pa_nil)) (pg_tup rfl (pgs_cons (pg_name (i := 5) sc_Lleads.nd rfl (Or.inl rfl)) (pgs_cons (pg_name (i := 6) sc_Lleads.nd rfl (Or.inl rfl)) pgs_nil))) (pss_cons (ps_if (PW.pt (pw_or (pt_cmpR (op_neD hr.units) (pe_ix ix_list (pe_dget (hu_of hr) (pv 4) pe_str (fun _ _ => rfl)) (pv 5) (fun _ _ => rfl)) (pe_slice sl_list (pe_ix ix_list (pe_dget (hu_of hr) (pv 0) pe_str (fun _ _ => rfl)) (pv 5) (fun _ _ => rfl)) po_none (po_some (pe_op op_add (pv 6) pe_int))) (nomark _)) (pw_or1 (pt_cmpR (op_neD hr.units) (pe_ix ix_list (pe_dget (hu_of hr) (pv 4) pe_str (fun _ _ => rfl)) (pv 5) (fun _ _ => rfl)) (pe_slice sl_list (pe_ix ix_list (pe_dget (hu_of hr) (pv 0) pe_str (fun _ _ => rfl)) (pv 5) (fun _ _ => rfl)) po_none (po_some (pe_op op_add (pv 6) pe_int))) (nomark _))))) (pss_one (ps_ret pe_bl)) pss_nil)
      (pss_one (ps_if (PW.pt (pw_or (pt_cmpR (op_neD hr.units) (pe_mt G_Run_state hr (by decide) (pv 1) (pa_cons (pv 5) pa_nil)) (pe_ix ix_list (pe_ix ix_list (pe_dget (hu_of hr) (pv 0) pe_str (fun _ _ => rfl)) (pv 5) (fun _ _ => rfl)) (pv 6) (fun _ _ => rfl)) (nomark _)) (pw_or1 (pt_cmpR op_ne (pe_mt G_Run_count hr (by decide) (pv 1) (pa_cons (pv 5) pa_nil)) (pv 6) (nomark _))))) (pss_one (ps_ret pe_bl)) pss_nil))))
      (pss_cons (ps_for PassesOwn.never rfl (pi_list (pe_ix ix_tup (pv 2) pe_int (fun _ _ => rfl))) (pg_tup rfl (pgs_cons (pg_name (i := 7) sc_Lleads.nd rfl (Or.inl rfl)) (pgs_cons (pg_name (i := 8) sc_Lleads.nd rfl (Or.inl rfl)) pgs_nil))) (pss_cons (ps_if (pt_cmpR (op_notInD (u65 hr)) (pe_tup (pa_cons (pv 7) (pa_cons (pv 8) pa_nil))) (pe_c G_Lfree hr (by decide) (by rfl) (pa_cons (pv 4) pa_nil)) (by rfl)) (pss_one (ps_ret pe_bl)) pss_nil)
      (pss_one (ps_expr (pe_c G_Lpick hr (by decide) (by rfl) (pa_cons (pv 4) (pa_cons (pv 7) (pa_cons (pv 8) pa_nil))))))))
      (pss_cons (ps_for PassesOwn.never rfl (pi_range1 (by rfl) T.f_range (pa_cons (pe_callB call_len_seq (by rfl) T.f_len (by decide +kernel) (pa_cons (pe_dget (hu_of hr) (pv 0) pe_str (fun _ _ => rfl)) pa_nil)) pa_nil)) (pg_name (i := 7) sc_Lleads.nd rfl (Or.inl rfl)) (pss_one (ps_if (PW.pt (pw_or (pt_cmpR (op_neD hr.units) (pe_ix ix_list (pe_dget (hu_of hr) (pv 4) pe_str (fun _ _ => rfl)) (pv 7) (fun _ _ => rfl)) (pe_ix ix_list (pe_dget (hu_of hr) (pv 0) pe_str (fun _ _ => rfl)) (pv 7) (fun _ _ => rfl)) (nomark _)) (pw_or1 (pt_cmpR (op_neD hr.units) (pe_c G_Llying hr (by decide) (by rfl) (pa_cons (pv 4) (pa_cons (pv 7) pa_nil))) (pe_c G_Llying hr (by decide) (by rfl) (pa_cons (pv 0) (pa_cons (pv 7) pa_nil))) (nomark _))))) (pss_one (ps_ret pe_bl)) pss_nil)))
      (pss_one (ps_ret (pe_and (pe_cmpR (op_eqD hr.units) (pe_dget (hu_of hr) (pv 4) pe_str (fun _ _ => rfl)) (pe_dget (hu_of hr) (pv 0) pe_str (fun _ _ => rfl)) (nomark _)) (pe_one (pe_cmpR (op_eqD hr.units) (pe_dget (hu_of hr) (pv 4) pe_str (fun _ _ => rfl)) (pe_dget (hu_of hr) (pv 0) pe_str (fun _ _ => rfl)) (nomark _)))))))))), ?_⟩
    -- the first part, played
    refine ⟨_, rfl, A' .d, _, rfl, P.g_net, _, rfl, f, _, _, _, rfl, rfl, SqT.of hf, atI_nat (j := 0) rfl, nv, q1, N, us1, firstPart R c', rfl, Z, hN, hq1, p1, May_all.of_ply (by rw [hF]; exact pl4), by omega, fun H1 v1 S1 L1 => ?_⟩
    rw [hF] at L1
    -- behind the cut's counts
    refine ⟨_, rfl, a', _, rfl, L1.s0 _ _ ha, ?_⟩
    refine for_it (n := N.ms.length) (walk_enumT.mono' rm_len) (fun i σ H' => (∃ v5 v6, σ = [some (.ref (A' .d)), some (.ref p), some (.ref f), some (.ref a'), some v1, v5, v6, none, none]) ∧ LRun H H' v1 N F S1) ⟨⟨_, _, rfl⟩, L1⟩ (fun i σ H' _ P => P.2.s0 _ _ ha) ?_ ?_
    · rintro i x σ H2 H2' hi ⟨⟨v5, v6, rfl⟩, L2⟩ ⟨t, x1, x2, rfl, ht, rfl, e1, e2⟩
      cases e1
      have e2' : vN (c' i) = x2 := Option.some.inj ((rm_get (f := fun m => vN (c' m)) hi).symm.trans e2)
      subst e2'
      have st := Same.new_ (o := .tup [.int (i : Nat), vN (c' i)]) ht
      have L3 := L2.keep st
      obtain ⟨_, _, nv1, A1, G1, rfl, _, P1, _⟩ := id L3
      have PR := P.keep L3.s0
      obtain ⟨l1, l2, esl, ewl, ecl⟩ := pl5 i
      refine ⟨t, _, rfl, SqT.of upd_same, rfl, _, _, rfl, _, _, rfl, rfl, ?_⟩
      obtain ⟨fs, hfs, pfs⟩ := P1.a_tM hi
      obtain ⟨rs, hrs, prs⟩ := PR.a_tM hi
      have lfs := pfs.length
      have hfsl := hFok.sl i
      -- the states
      refine ⟨_, rfl, A1 .d, _, rfl, P1.g_sts, _, rfl, A1 .sts, _, _, _, rfl, rfl, SqL.of P1.a_sts, atI_nat (rm_get hi), ?_⟩
      refine ⟨_, rfl, A' .d, _, rfl, PR.g_sts, _, rfl, A' .sts, _, _, _, rfl, rfl, SqL.of PR.a_sts, atI_nat (rm_get hi), _, rfl, _, _, rfl, rfl, _, rfl, A' (.tM i), rs, rfl, SqL.of hrs, fun qs hqs => ?_⟩
      have ecut : cutV rs none (some ((c' i : Int) + 1)) = rs.take (c' i + 1) := by
        have := cut_to rs (c' i + 1)
        rw [← this]
        congr 2
      have sqs := Same.new_ (o := .lst (cutV rs none (some ((c' i : Int) + 1)))) hqs
      have hqsE : upd (upd H2 t (.tup [.int (i : Nat), vN (c' i)])) qs (.lst (cutV rs none (some ((c' i : Int) + 1)))) qs = some (.lst (rs.take (c' i + 1))) := by rw [upd_same, ecut]
      have etk : (R.sts i).take (c' i + 1) = F.sts i := by
        rw [esl, List.take_append_of_le_length (by omega)]
        exact List.take_of_length_le (by omega)
      have dF : Dp K (upd (upd H2 t (.tup [.int (i : Nat), vN (c' i)])) qs (.lst (cutV rs none (some ((c' i : Int) + 1))))) (.ref (A1 (.tM i))) (statesD (F.sts i)) := .lst (SqL.of (sqs _ _ hfs)) (dp_all (f := staD) (fun _ _ h => dp_sta h) (pfs.cimp fun _ _ z => IsSta.tk z (Same.tk_ sqs)))
      have dR : Dp K (upd (upd H2 t (.tup [.int (i : Nat), vN (c' i)])) qs (.lst (cutV rs none (some ((c' i : Int) + 1))))) (.ref qs) (statesD (F.sts i)) := .lst (SqL.of hqsE) (dp_all (f := staD) (fun _ _ h => dp_sta h) (by rw [← etk]; exact (prs.ctak _).cimp fun _ _ z => IsSta.tk z (Same.tk_ sqs)))
      refine ⟨statesD (F.sts i), statesD (F.sts i), dF, dR, (sh_statesD _).ok (by decide), (sh_statesD _).ok (by decide), _, rfl, iteG (not_eqv (sh_statesD _) rfl) ?_⟩
      -- the words
      have L4 := L3.keep sqs
      have P4 := P1.keep sqs
      have PR4 := PR.keep sqs
      generalize upd (upd H2 t (.tup [.int (i : Nat), vN (c' i)])) qs (.lst (cutV rs none (some ((c' i : Int) + 1)))) = H4 at *
      refine ⟨_, rfl, A1 .d, _, rfl, P4.g_wds, _, rfl, A1 .wds, _, _, _, rfl, rfl, SqL.of P4.a_wds, atI_nat (rm_get hi), ?_⟩
      refine ⟨_, rfl, A' .d, _, rfl, PR4.g_wds, _, rfl, A' .wds, _, _, _, rfl, rfl, SqL.of PR4.a_wds, atI_nat (rm_get hi), _, rfl, _, _, rfl, rfl, _, rfl, A' (.oM i), _, rfl, SqL.of (PR4.a_oM hi), fun qw hqw => ?_⟩
      have hci := c1 i
      have ecutw : cutV ((List.range (R.cnt i + 1)).map fun c => V.ref (A' (.oC i c))) none (some ((c' i : Int) + 1)) = (List.range (c' i + 1)).map fun c => V.ref (A' (.oC i c)) := by
        have := cut_to ((List.range (R.cnt i + 1)).map fun c => V.ref (A' (.oC i c))) (c' i + 1)
        rw [← List.map_take, List.take_range, Nat.min_eq_left (by omega)] at this
        rw [← this]
        congr 2
      have sqw := Same.new_ (o := .lst (cutV ((List.range (R.cnt i + 1)).map fun c => V.ref (A' (.oC i c))) none (some ((c' i : Int) + 1)))) hqw
      have hqwE : upd H4 qw (.lst (cutV ((List.range (R.cnt i + 1)).map fun c => V.ref (A' (.oC i c))) none (some ((c' i : Int) + 1)))) qw = some (.lst ((List.range (c' i + 1)).map fun c => V.ref (A' (.oC i c)))) := by rw [upd_same, ecutw]
      have L5 := L4.keep sqw
      have P5 := P4.keep sqw
      have PR5 := PR4.keep sqw
      generalize upd H4 qw (.lst (cutV ((List.range (R.cnt i + 1)).map fun c => V.ref (A' (.oC i c))) none (some ((c' i : Int) + 1)))) = H5 at *
      have dW1 : Dp K H5 (.ref (A1 (.oM i))) (wordsD (F.wds i) (c' i + 1)) := .lst (SqL.of (P5.a_oM hi)) (by
        rw [ecl]
        exact dp_range fun j hj => .lst (SqL.of (P5.a_oC hi (by omega))) (dp_ints _))
      have dW2 : Dp K H5 (.ref qw) (wordsD (F.wds i) (c' i + 1)) := .lst (SqL.of hqwE) (dp_range fun j hj => .lst (SqL.of (PR5.a_oC hi (by omega))) (by
        rw [ewl, take_pre (by show j ≤ F.cnt i; omega)]
        exact dp_ints _))
      refine ⟨wordsD (F.wds i) (c' i + 1), wordsD (F.wds i) (c' i + 1), dW1, dW2, (sh_wordsD _ _).ok (by decide), (sh_wordsD _ _).ok (by decide), _, rfl, iteG (not_eqv (sh_wordsD _ _) rfl) ?_⟩
      -- the run that was played anew
      have sH5 := L5.s0
      obtain ⟨pms0, pmn, nvp, Gp, Zp0, PP⟩ := PM.keep sH5
      have Zp := Zp0.keep pms0
      obtain ⟨dxp, hpp⟩ := PP.ob
      obtain ⟨rs5, hrs5, prs5⟩ := PR5.a_tM hi
      have eat : (R.sts i)[c' i]? = some (F.last i) := by
        have := last_mem hfsl
        rw [ecl] at this
        rw [esl, List.getElem?_append_left (by omega)]
        exact this
      obtain ⟨sv, hsv, hsv2⟩ := prs5.cget2 eat
      refine ⟨_, rfl, p, dxp, _, rfl, hpp, lkN runK (by decide +kernel), _, rfl, p, nvp, Ap, hI, Gp, N, F, i, rfl, Zp, PP, hi, hFok, fun mv hmv => ?_⟩
      refine ⟨_, rfl, A' .d, _, rfl, PR5.g_sts, _, rfl, A' .sts, _, _, _, rfl, rfl, SqL.of PR5.a_sts, atI_nat (rm_get hi), _, rfl, A' (.tM i), rs5, _, _, rfl, rfl, SqL.of hrs5, atI_nat hsv, ?_⟩
      refine ⟨staD (F.last i), staD (F.last i), dp_sta hmv, dp_sta hsv2, (sh_staD _).ok (by decide), (sh_staD _).ok (by decide), _, rfl, iteG (not_eqv (sh_staD _) rfl) ?_⟩
      refine ⟨_, rfl, p, dxp, _, rfl, hpp, lkN runK (by decide +kernel), _, rfl, p, nvp, Ap, hI, Gp, N, F, i, rfl, Zp, PP, hi, _, rfl, rfl, _, rfl, iteNS (by rw [ecl]) ?_⟩
      exact ⟨⟨_, _, rfl⟩, L5⟩
    -- on it, the others
    rintro σ H2 ⟨⟨v5, v6, rfl⟩, L2⟩
    have hthen : ∀ j e, (thenPart R c')[j]? = some e → Ply N (goOn N F ((thenPart R c').take j)) ∧ (goOn N F ((thenPart R c').take j)).May N e.1 e.2 := fun j e he => by
      have mall : May_all N (firstPart R c' ++ thenPart R c') := May_all.of_ply pl1
      have h1 := mall.ply ((firstPart R c').length + j)
      have h2 := mall ((firstPart R c').length + j) e (by rw [List.getElem?_append_right (by omega), Nat.add_sub_cancel_left]; exact he)
      have e3 : goOn N (begun N) ((firstPart R c' ++ thenPart R c').take ((firstPart R c').length + j)) = goOn N F ((thenPart R c').take j) := by
        rw [List.take_append, List.take_of_length_le (by omega), Nat.add_sub_cancel_left, goOn_append, hF]
      rw [e3] at h1 h2
      exact ⟨h1, h2⟩
    have lus2 := p2.length
    refine ⟨_, rfl, f, _, _, _, rfl, rfl, SqT.of (L2.s0 _ _ hf), atI_nat (j := 1) rfl, q2, rfl, ⟨_, SqL.of (L2.s0 _ _ hq2)⟩, ?_⟩
    refine for_it (n := us2.length) walk_list (fun i σ H' => (∃ v5 v6 v7 v8, σ = [some (.ref (A' .d)), some (.ref p), some (.ref f), some (.ref a'), some v1, v5, v6, v7, v8]) ∧ ∃ S', LRun H H' v1 N (goOn N F ((thenPart R c').take i)) S') ⟨⟨_, _, _, _, rfl⟩, S1, L2⟩ (fun i σ H' _ P => SqL.of (by obtain ⟨_, _, L⟩ := P; exact L.s0 _ _ hq2)) ?_ ?_
    · rintro i y σ H3 H3' hi ⟨⟨v5, v6, v7, v8, rfl⟩, S3, L3⟩ ⟨rfl, hy⟩
      obtain ⟨e, he, he2⟩ := p2.cget hy
      obtain ⟨pe, rfl, hpe⟩ := he2.tk (Same.tk_ L3.s0)
      obtain ⟨hpl, hmay⟩ := hthen i e he
      have hel : (goOn N F ((thenPart R c').take i)).evs.length ≤ 1000 := by
        rw [goOn_evs, ← hF, goOn_evs, List.length_append, List.length_append, List.length_take]
        show 0 + (firstPart R c').length + _ ≤ _
        omega
      refine ⟨pe, _, rfl, SqT.of hpe, rfl, _, _, rfl, _, _, rfl, rfl, ?_⟩
      refine ⟨_, rfl, _, rfl, line (by show 2 ≤ 16777216; decide), fun t ht => ?_⟩
      have st := Same.new_ (o := .tup [.int (e.1 : Nat), .int (e.2 : Nat)]) ht
      have L4 := L3.keep st
      obtain ⟨s04, _, nv4, A4, G4, rfl, Z4, P4, _⟩ := id L4
      refine ⟨_, rfl, nv4, A4, G4, N, _, _, rfl, P4, Z4.keep s04, hN, hpl.ok hN, hel, fun H5 q us s5 nq hq hus => ?_⟩
      have hmem : e ∈ (goOn N F ((thenPart R c').take i)).free N := Run.mem_free.mpr hmay
      refine ⟨pD e, _, dp_pk ⟨t, rfl, s5 _ _ upd_same⟩, dp_pks hq hus, (sh_pD _).ok (by decide), (sh_psD _).ok (by decide), _, rfl, iteG ?_ ?_⟩
      · have : (((goOn N F ((thenPart R c').take i)).free N).map pD).any (fun z => PyData.eqv z (pD e)) = true := List.any_eq_true.mpr ⟨pD e, List.mem_map.mpr ⟨e, hmem, rfl⟩, (sh_pD e).refl⟩
        rw [this]; rfl
      refine ⟨_, rfl, _, rfl, _, rfl, .ref (A4 .d), e.1, e.2, H, N, _, S3, rfl, L4.keep s5, hN, hpl, hmay, hel, fun H6 S6 ev L6 U6 => ?_⟩
      refine ⟨⟨_, _, _, _, rfl⟩, S6, ?_⟩
      rw [take_more he, goOn_snoc]
      exact L6
    -- all is as in the run
    rintro σ H3 ⟨⟨v5, v6, v7, v8, rfl⟩, S3, L3⟩
    rw [lus2, List.take_length, ← hF, ← goOn_append] at L3
    have plT := pl1
    generalize goOn N (begun N) (firstPart R c' ++ thenPart R c') = Tt at pl1 pl2 pl3 L3 plT
    have PR3 := P.keep L3.s0
    refine ⟨_, rfl, A' .d, _, rfl, PR3.g_put, A' .put, _, rfl, .inl (SqL.of PR3.a_put), _, rfl, by rw [rm_len]; omega, by rw [rm_len]; omega, ?_⟩
    refine for_it walk_rngN (fun i σ H' => (∃ v5 v6 v7 v8, σ = [some (.ref (A' .d)), some (.ref p), some (.ref f), some (.ref a'), some v1, v5, v6, v7, v8]) ∧ LRun H H' v1 N Tt S3) ⟨⟨_, _, _, _, rfl⟩, L3⟩ (fun _ _ _ _ _ => trivial) ?_ ?_
    · rintro w' x σ H4 H4' hw ⟨⟨v5, v6, v7, v8, rfl⟩, L4⟩ ⟨rfl, rfl⟩
      rw [rm_len] at hw
      obtain ⟨_, _, nv4, A4, G4, rfl, _, P4, _⟩ := id L4
      have PR4 := P.keep L4.s0
      have plw := hR.pl w'
      have eput := (pl3 w').1
      refine ⟨_, rfl, A4 .d, _, rfl, P4.g_put, _, rfl, A4 .put, _, _, _, rfl, rfl, SqL.of P4.a_put, atI_nat (rm_get hw), ?_⟩
      refine ⟨_, rfl, A' .d, _, rfl, PR4.g_put, _, rfl, A' .put, _, _, _, rfl, rfl, SqL.of PR4.a_put, atI_nat (rm_get hw), ?_⟩
      refine ⟨insD (Tt.put w'), insD (R.put w'), .lst (SqL.of (P4.a_p hw)) (dp_ints _), .lst (SqL.of (PR4.a_p hw)) (dp_ints _), (sh_insD _).ok (by decide), (sh_insD _).ok (by decide), _, rfl, iteG (not_eqv (sh_insD _) (by rw [eput])) ?_⟩
      refine ⟨_, rfl, _, rfl, nv4, A4, G4, N, Tt, _, w', rfl, P4, hw, by rw [eput]; omega, fun H5 q5 s5 nq5 hq5 => ?_⟩
      refine ⟨_, rfl, _, rfl, nv, A', G, N, R, _, w', rfl, PR4.keep s5, hw, by omega, fun H6 q6 s6 nq6 hq6 => ?_⟩
      have evn : ∀ l : List Nat, l.map vN = (l.map Int.ofNat).map V.int := fun l => by rw [List.map_map]; rfl
      rw [evn] at hq5 hq6
      have ely : Tt.lying w' = R.lying w' := lying_congr eput (pl3 w').2
      refine ⟨insD ((Tt.lying w').map Int.ofNat), insD ((R.lying w').map Int.ofNat), .lst (SqL.of (s6 _ _ hq5)) (dp_ints _), .lst (SqL.of hq6) (dp_ints _), (sh_insD _).ok (by decide), (sh_insD _).ok (by decide), _, rfl, iteG (not_eqv (sh_insD _) (by rw [ely])) ?_⟩
      exact ⟨⟨_, _, _, _, rfl⟩, L4.keep (s5.trans s6)⟩
    · rintro σ H4 ⟨⟨v5, v6, v7, v8, rfl⟩, L4⟩
      obtain ⟨_, _, nv4, A4, G4, rfl, _, P4, _⟩ := id L4
      have PR4 := P.keep L4.s0
      have dS : ∀ {A : LT → Addr} {G : LT → HO} {nv : V} {T : Run} {hn : Nat → Nat}, LRunAt H4 nv A G N T hn → Dp K H4 (.ref (A .sts)) (.list ((List.range N.ms.length).map fun m => statesD (T.sts m))) := fun P => .lst (SqL.of P.a_sts) (dp_range fun m hm => by
        obtain ⟨us, h, pus⟩ := P.a_tM hm
        exact .lst (SqL.of h) (dp_all (f := staD) (fun _ _ h => dp_sta h) pus))
      have dW : ∀ {A : LT → Addr} {G : LT → HO} {nv : V} {T : Run} {hn : Nat → Nat}, LRunAt H4 nv A G N T hn → Dp K H4 (.ref (A .wds)) (.list ((List.range N.ms.length).map fun m => wordsD (T.wds m) (T.cnt m + 1))) := fun P => .lst (SqL.of P.a_wds) (dp_range fun m hm => .lst (SqL.of (P.a_oM hm)) (dp_range fun j hj => .lst (SqL.of (P.a_oC hm (by omega))) (dp_ints _)))
      have eS : (fun m => statesD (Tt.sts m)) = fun m => statesD (R.sts m) := funext fun m => by rw [(pl2 m).1]
      have eW : (fun m => wordsD (Tt.wds m) (Tt.cnt m + 1)) = fun m => wordsD (R.wds m) (R.cnt m + 1) := funext fun m => by
        have : Tt.cnt m = R.cnt m := by unfold Run.cnt; rw [(pl2 m).2]
        rw [(pl2 m).2, this]
      have d1 := dS P4
      have d2 := dW P4
      rw [eS] at d1
      rw [eW] at d2
      refine ⟨_, rfl, A4 .d, _, rfl, P4.g_sts, _, rfl, A' .d, _, rfl, PR4.g_sts, _, _, d1, dS PR4, (sh_range (k := 3) fun m => sh_statesD _).ok (by decide), (sh_range (k := 3) fun m => sh_statesD _).ok (by decide), _, rfl, iteE (sh_range (k := 3) fun m => sh_statesD _).refl ?_⟩
      refine ⟨_, rfl, A4 .d, _, rfl, P4.g_wds, _, rfl, A' .d, _, rfl, PR4.g_wds, _, _, d2, dW PR4, (sh_range (k := 2) fun m => sh_wordsD _ _).ok (by decide), (sh_range (k := 2) fun m => sh_wordsD _ _).ok (by decide), ?_⟩
      exact bl_e (sh_range (k := 2) fun m => sh_wordsD _ _).refl (k H4 L4.s0)
end Cr
namespace Cr
open PySem PySem.Spec PyProof.Rows L2 He
theorem sc_Ltold : FnScope ["_law_told_here", "_law_run", "_law_made", "_law_cut", "_law_found"] ["_law_told_here", "_law_run", "_law_made", "_law_cut"] (defScope s_Ltold) := ⟨rfl, rfl, rfl, by decide +kernel, rfl, by decide +kernel, by decide +kernel⟩
def ptD (R : Run) (c : Nat → Nat) : PyData := .tuple [psD (firstPart R c), psD (thenPart R c)]
theorem sh_ptD (R : Run) (c : Nat → Nat) : Sh 3 (ptD R c) := Sh.tup fun d hd => by
  rcases List.mem_cons.mp hd with rfl | hd
  · exact sh_psD _
  · rw [List.mem_singleton.mp hd]; exact sh_psD _
theorem dp_pt {K : PySem.W.Frag} {H : Hp} {t q1 q2 : Addr} {us1 us2 : List V} {R : Run} {c : Nat → Nat} (ht : H t = some (.tup [.ref q1, .ref q2])) (h1 : H q1 = some (.lst us1)) (h2 : H q2 = some (.lst us2)) (p1 : Paired (IsPk H) us1 (firstPart R c)) (p2 : Paired (IsPk H) us2 (thenPart R c)) : Dp K H (.ref t) (ptD R c) :=
  .tup (SqT.of ht) (.cons (dp_pks h1 p1) (.cons (dp_pks h2 p2) .nil))
def sp_Ltold (K : PySem.W.Frag) : Sp := fun vs H Q _ => ∃ (v a mv : V) (p : Addr) (H0 Hp0 : Hp) (A : PT → Addr) (hI : Nat → Addr) (N : Nt) (R : Run) (S : Addr → Prop) (c : Nat → Nat), vs = [.ref p, v, mv, a] ∧ LRun H0 H v N R S ∧ PRun K Hp0 H p A hI N R ∧ IsPNet K H mv N ∧ N.ok ∧ Ply N R ∧ R.evs.length ≤ 60 ∧ IsCut H a N.ms.length c ∧
  (∀ m, m < N.ms.length → c m ≤ R.cnt m) ∧ orph N R c = [] ∧ ∀ H', Same H H' → Q (.bl true) H'
theorem ok_Ltold {P : Program} {w : World} {K : PySem.W.Frag} {mg : Str → Option Value} {base : Heap} (T : Txt K mg) : Cal P w K mg base 7 "_law_told" (sp_Ltold K) := by
  have G_parts_of_cut := ok_parts_of_cut (P := P) (w := w) (base := base) T
  have G_Lparts := ok_Lparts (P := P) (w := w) (base := base) T
  have G_Lare_picks := ok_Lare_picks (P := P) (w := w) (base := base) T
  have G_Lleads := ok_Lleads (P := P) (w := w) (base := base) T
  have G_played_run := ok_played_run (P := P) (w := w) (base := base) T
  refine Cal.mk0 T.g_Ltold T.D_Ltold sc_Ltold (fun _ _ _ _ _ _ us hl => match us, hl with | [_, _, _, _], _ => rfl) (fun vs H Q E h => ?_) (fun cdv A outer s H vs Q E hr h => ?_)
  · obtain ⟨v, a, mv, p, H0, Hp0, A, hI, N, R, S, c, rfl, _⟩ := h
    rfl
  · obtain ⟨v, a, mv, p, H0, Hp0, Ap, hI, N, R, S, c, rfl, L, PR, Z, hN, hP, hev, hcut, hc, ho, k⟩ := h
    obtain ⟨c', ec, c1, c2, ef, et⟩ := out_cut hN hP hc ho
    have pl4 := (cut_parts hP c1 c2).2.2.2.1
    rw [ef] at pl4
    have lF : (firstPart R c).length ≤ 60 := Nat.le_trans (List.length_filter_le _ _) hev
    obtain ⟨ps0, pnw, nvp, G, Z0, PP⟩ := id PR
    refine ⟨_, (pss_cons (ps_set (i := 4) sc_Ltold.nd rfl (Or.inl rfl) (pe_cx G_parts_of_cut hr (by decide) (by rfl) (pa_cons (pv 0) (pa_cons (pv 3) pa_nil))))
      (pss_cons (ps_if (PW.pt (pw_or (pt_not (pt_val (pe_callB call_isi (by rfl) T.f_isinstance (by decide +kernel) (pa_cons (pv 4) (pa_cons (pe_bltn (v := .ty "tuple") (by rfl) T.f_tuple (by decide +kernel) rfl) pa_nil))))) (pw_or (pt_cmpR op_ne (pe_callB call_len_seq (by rfl) T.f_len (by decide +kernel) (pa_cons (pv 4) pa_nil)) pe_int (nomark _)) (pw_or1 (pt_cmpR (op_neD hr.units) (pv 4) (pe_c G_Lparts hr (by decide) (by rfl) (pa_cons (pv 1) (pa_cons (pv 3) pa_nil))) (nomark _)))))) (pss_one (ps_ret pe_bl)) pss_nil)
      (pss_cons (ps_if (PW.pt (pw_or (pt_not (pt_val (pe_c G_Lare_picks hr (by decide) (by rfl) (pa_cons (pe_ix ix_tup (pv 4) pe_int (fun _ _ => rfl)) pa_nil)))) (pw_or1 (pt_not (pt_val (pe_c G_Lare_picks hr (by decide) (by rfl) (pa_cons (pe_ix ix_tup (pv 4) pe_int (fun _ _ => rfl)) pa_nil))))))) (pss_one (ps_ret pe_bl)) pss_nil)
      (pss_cons (ps_if (pt_not (pt_val (pe_c G_Lleads hr (by decide) (by rfl) (pa_cons (pv 1) (pa_cons (pe_c G_played_run hr (by decide) (by rfl) (pa_cons (pv 2) (pa_cons (pe_ix ix_tup (pv 4) pe_int (fun _ _ => rfl)) pa_nil))) (pa_cons (pv 4) (pa_cons (pv 3) pa_nil))))))) (pss_one (ps_ret pe_bl)) pss_nil)
      (pss_cons (ps_expr (pe_bm PySem.F.plainAttrs_list PySem.F.slot_list_append PySem.F.type_list_append mt_append (pe_ix ix_tup (pv 4) pe_int (fun _ _ => rfl)) (pa_cons (pe_tup (pa_cons pe_int (pa_cons pe_int pa_nil))) pa_nil)))
      (pss_cons (ps_expr (pe_bm0 PySem.F.plainAttrs_list PySem.F.slot_list_clear PySem.F.type_list_clear mt_clear (pe_ix ix_tup (pv 4) pe_int (fun _ _ => rfl))))
      (pss_one (ps_ret (pe_cmpR (op_eqD hr.units) (pe_cx G_parts_of_cut hr (by decide) (by rfl) (pa_cons (pv 0) (pa_cons (pv 3) pa_nil))) (pe_c G_Lparts hr (by decide) (by rfl) (pa_cons (pv 1) (pa_cons (pv 3) pa_nil))) (nomark _)))))))))), ?_⟩
    refine ⟨_, rfl, _, rfl, a, p, nvp, Ap, hI, G, N, R, c, rfl, hcut, Z0.keep ps0, PP, hc, hN, hP, by omega, fun _ H1 t q1 q2 us1 us2 s1 n1 n2 n12 ht h1 h2 p1 p2 => ?_, fun e es he => by rw [ho] at he; cases he⟩
    refine ⟨_, rfl, _, _, _, _, true, rfl, .ty _, .base (.tup ht), kit_ty (by decide +kernel), true, rfl, iteF ?_⟩
    refine ⟨_, rfl, t, _, rfl, .inr (SqT.of ht), rfl, _, rfl, iteF ?_⟩
    obtain ⟨_, _, lnv, lA, lG, rfl, _, LP, _⟩ := id L
    refine ⟨_, rfl, _, rfl, _, rfl, lnv, a, lA, lG, N, R, _, c, rfl, LP.keep s1, hcut.tk (Same.tk_ s1), hN, hP, by omega, fun H2 t' r1 r2 vs1 vs2 s2 ht' hr1 hr2 pr1 pr2 => ?_⟩
    have pk : ∀ {H H' : Hp} {us : List V} {es : List (Nat × Nat)}, Paired (IsPk H) us es → Same H H' → Paired (IsPk H') us es := fun h s => h.cimp fun _ _ z => z.tk (Same.tk_ s)
    refine ⟨ptD R c, ptD R c, dp_pt (s2 _ _ ht) (s2 _ _ h1) (s2 _ _ h2) (pk p1 s2) (pk p2 s2), dp_pt ht' hr1 hr2 pr1 pr2, (sh_ptD _ _).ok (by decide), (sh_ptD _ _).ok (by decide), _, rfl, iteG (not_eqv (sh_ptD _ _) rfl) ?_⟩
    have s12 := s1.trans s2
    refine ⟨_, rfl, t, _, _, _, rfl, rfl, SqT.of (s2 _ _ ht), atI_nat (j := 0) rfl, q1, us1, firstPart R c, rfl, s2 _ _ h1, pk p1 s2, true, rfl, iteF ?_⟩
    refine ⟨_, rfl, t, _, _, _, rfl, rfl, SqT.of (s2 _ _ ht), atI_nat (j := 1) rfl, q2, us2, thenPart R c, rfl, s2 _ _ h2, pk p2 s2, true, rfl, iteF ?_⟩
    refine ⟨_, rfl, _, rfl, _, rfl, t, _, _, _, rfl, rfl, SqT.of (s2 _ _ ht), atI_nat (j := 0) rfl, q1, mv, N, us1, firstPart R c, rfl, Z.keep s12, hN, s2 _ _ h1, pk p1 s2, May_all.of_ply pl4, by omega, fun H3 pm Am hIm s3 PM => ?_⟩
    have s23 := s2.trans s3
    have s13 := s1.trans s23
    refine ⟨_, rfl, _, rfl, .ref (lA .d), a, .non, pm, t, q1, q2, us1, us2, H0, H2, Am, hIm, N, R, S, c, rfl, L.keep s13, hN, hP, hev, hcut.tk (Same.tk_ s13), hc, ho, s23 _ _ ht, s23 _ _ h1, s23 _ _ h2, pk p1 s23, pk p2 s23, PM, fun H4 s4 => ⟨true, rfl, iteF ?_⟩⟩
    have s24 := s23.trans s4
    have s14 := s13.trans s4
    refine ⟨_, rfl, t, _, _, .ref q1, rfl, rfl, SqT.of (s24 _ _ ht), atI_nat (j := 0) rfl, .inl ⟨rfl, _, SqL.of (s24 _ _ h1)⟩, line (by show 2 ≤ 16777216; decide), fun z hz => ?_⟩
    have s5 := Same.new_ (o := .tup [.int 0, .int 0]) hz
    have s25 := s24.trans s5
    have lus1 := p1.length
    refine ⟨q1, us1, _, rfl, rfl, s25 _ _ h1, line' (by omega), ?_⟩
    have F6 := Fr.put (S := (· = q1)) (o := .lst (us1 ++ [.ref z])) rfl (not_tup_lst (s25 _ _ h1))
    have s16 : Same H (upd (upd H4 z (.tup [.int 0, .int 0])) q1 (.lst (us1 ++ [.ref z]))) := (s14.trans s5).putN n1
    have ht6 := F6.tk _ _ (s25 _ _ ht)
    have h26 := F6.at (s25 _ _ h2) n12.symm
    generalize upd (upd H4 z (.tup [.int 0, .int 0])) q1 (.lst (us1 ++ [.ref z])) = H6 at *
    refine ⟨_, rfl, t, _, _, .ref q2, rfl, rfl, SqT.of ht6, atI_nat (j := 1) rfl, .inl ⟨rfl, _, SqL.of h26⟩, q2, us2, rfl, rfl, h26, ?_⟩
    have s17 : Same H (upd H6 q2 (.lst [])) := s16.putN n2
    generalize upd H6 q2 (.lst []) = H7 at *
    have PR7 := PR.keep s17
    obtain ⟨ps7, pnw7, nvp7, G7, Z7, PP7⟩ := id PR7
    refine ⟨_, rfl, _, rfl, a, p, nvp7, Ap, hI, G7, N, R, c, rfl, hcut.tk (Same.tk_ s17), Z7.keep ps7, PP7, hc, hN, hP, by omega, fun _ H8 t8 q81 q82 us81 us82 s8 n81 n82 n812 ht8 h81 h82 p81 p82 => ?_, fun e es he => by rw [ho] at he; cases he⟩
    have s18 := s17.trans s8
    refine ⟨_, rfl, _, rfl, lnv, a, lA, lG, N, R, _, c, rfl, LP.keep s18, hcut.tk (Same.tk_ s18), hN, hP, by omega, fun H9 t' r1 r2 vs1 vs2 s9 ht' hr1 hr2 pr1 pr2 => ?_⟩
    refine ⟨ptD R c, ptD R c, dp_pt (s9 _ _ ht8) (s9 _ _ h81) (s9 _ _ h82) (pk p81 s9) (pk p82 s9), dp_pt ht' hr1 hr2 pr1 pr2, (sh_ptD _ _).ok (by decide), (sh_ptD _ _).ok (by decide), ?_⟩
    exact bl_e (sh_ptD _ _).refl (k H9 (s18.trans s9))
end Cr
namespace Cr
open PySem PySem.Spec PyProof.Rows L2 He
theorem sc_Lasked : FnScope ["_law_told_here", "_law_run", "_law_made", "_law_cuts_here", "_law_cut", "_law_lone"] ["_law_told_here", "_law_run", "_law_made", "_law_cuts_here"] (defScope s_Lasked) := ⟨rfl, rfl, rfl, by decide +kernel, rfl, by decide +kernel, by decide +kernel⟩
def sp_Lasked (K : PySem.W.Frag) : Sp := fun vs H Q _ => ∃ (v mv : V) (p cl : Addr) (H0 Hp0 : Hp) (A : PT → Addr) (hI : Nat → Addr) (N : Nt) (R : Run) (S : Addr → Prop) (cvs : List V), vs = [.ref p, v, mv, .ref cl] ∧ LRun H0 H v N R S ∧ PRun K Hp0 H p A hI N R ∧ IsPNet K H mv N ∧ N.ok ∧ Ply N R ∧ R.evs.length ≤ 60 ∧
  H cl = some (.lst cvs) ∧ (∀ v ∈ cvs, GoodCut H N R v) ∧ ∀ H', Same H H' → Q (.bl true) H'
theorem ok_Lasked {P : Program} {w : World} {K : PySem.W.Frag} {mg : Str → Option Value} {base : Heap} (T : Txt K mg) : Cal P w K mg base 8 "_law_asked" (sp_Lasked K) := by
  have G_Lorphans := ok_Lorphans (P := P) (w := w) (base := base) T
  have G_Lrefused := ok_Lrefused (P := P) (w := w) (base := base) T
  have G_Ltold := ok_Ltold (P := P) (w := w) (base := base) T
  have G_Run_schedule := ok_Run_schedule (P := P) (w := w) (base := base) T
  refine Cal.mk0 T.g_Lasked T.D_Lasked sc_Lasked (fun _ _ _ _ _ _ us hl => match us, hl with | [_, _, _, _], _ => rfl) (fun vs H Q E h => ?_) (fun cdv A outer s H vs Q E hr h => ?_)
  · obtain ⟨v, mv, p, cl, H0, Hp0, A, hI, N, R, S, cvs, rfl, _⟩ := h
    rfl
  · obtain ⟨v, mv, p, cl, H0, Hp0, Ap, hI, N, R, S, cvs, rfl, L, PR, Z, hN, hP, hev, hcl, hg, k⟩ := h
    obtain ⟨_, _, lnv, lA, lG, rfl, _, LP, _⟩ := id L
    refine ⟨_, (pss_cons (ps_for PassesOwn.never rfl (pi_list (pv 3)) (pg_name (i := 4) sc_Lasked.nd rfl (Or.inl rfl)) (pss_cons (ps_set (i := 5) sc_Lasked.nd rfl (Or.inl rfl) (pe_c G_Lorphans hr (by decide) (by rfl) (pa_cons (pv 1) (pa_cons (pv 4) pa_nil))))
      (pss_cons (ps_if (PW.pt (pw_and (pt_cmpR (op_neD hr.units) (pv 5) (pe_lst pa_nil) (nomark _)) (pw_and1 (pt_not (pt_val (pe_c G_Lrefused hr (by decide) (by rfl) (pa_cons (pv 0) (pa_cons (pv 4) (pa_cons (pv 5) pa_nil))))))))) (pss_one (ps_ret pe_bl)) pss_nil)
      (pss_one (ps_if (PW.pt (pw_and (pt_cmpR (op_eqD hr.units) (pv 5) (pe_lst pa_nil) (nomark _)) (pw_and1 (pt_not (pt_val (pe_c G_Ltold hr (by decide) (by rfl) (pa_cons (pv 0) (pa_cons (pv 1) (pa_cons (pv 2) (pa_cons (pv 4) pa_nil)))))))))) (pss_one (ps_ret pe_bl)) pss_nil)))))
      (pss_one (ps_ret (pe_cmpR (op_eqD hr.units) (pe_mt0 G_Run_schedule hr (by decide) (pv 0)) (pe_dget (hu_of hr) (pv 1) pe_str (fun _ _ => rfl)) (nomark _))))), ?_⟩
    refine ⟨_, rfl, cl, rfl, ⟨_, SqL.of hcl⟩, ?_⟩
    refine for_it (n := cvs.length) walk_list (fun i σ H' => (∃ v4 v5, σ = [some (.ref p), some (.ref (lA .d)), some mv, some (.ref cl), v4, v5]) ∧ Same H H') ⟨⟨_, _, rfl⟩, Same.refl _⟩ (fun i σ H' _ P => SqL.of (P.2 _ _ hcl)) ?_ ?_
    · rintro i cv σ H1 H1' hi ⟨⟨v4, v5, rfl⟩, s1⟩ ⟨rfl, hcv⟩
      obtain ⟨c, hcut, hc⟩ := hg cv (List.mem_of_getElem? hcv)
      refine ⟨_, rfl, _, rfl, lnv, cv, lA, lG, N, R, _, c, rfl, LP.keep s1, hcut.tk (Same.tk_ s1), hN, hP, hev, fun H2 q us s2 nq hq hus => ?_⟩
      have s12 := s1.trans s2
      refine ⟨_, rfl, line (by show 0 ≤ 16777216; decide), fun q' hq' => ?_⟩
      have s3 := Same.new_ (o := .lst []) hq'
      have s13 := s12.trans s3
      have hq3 := s3 _ _ hq
      have hus3 := hus.cimp fun _ _ z => IsPk.tk z (Same.tk_ s3)
      refine ⟨psD (orph N R c), psD [], dp_pks hq3 hus3, dp_pks upd_same .nil, (sh_psD _).ok (by decide), (sh_psD _).ok (by decide), _, rfl, ?_⟩
      cases ho : orph N R c with
      | nil =>
        refine iteG (show (!PyData.eqv (psD []) (psD [])) = false by rw [eqv_nil]; rfl) ?_
        refine ⟨_, rfl, line (by show 0 ≤ 16777216; decide), fun q2 hq2 => ?_⟩
        have s4 := Same.new_ (o := .lst []) hq2
        have s14 := s13.trans s4
        rw [ho] at hus3
        refine ⟨psD [], psD [], dp_pks (s4 _ _ hq3) (hus3.cimp fun _ _ z => IsPk.tk z (Same.tk_ s4)), dp_pks upd_same .nil, (sh_psD _).ok (by decide), (sh_psD _).ok (by decide), _, rfl, iteE eqv_nil ?_⟩
        refine ⟨_, rfl, _, rfl, _, rfl, _, rfl, .ref (lA .d), cv, mv, p, H0, Hp0, Ap, hI, N, R, S, c, rfl, L.keep s14, PR.keep s14, Z.keep s14, hN, hP, hev, hcut.tk (Same.tk_ s14), hc, ho, fun H5 s5 => ⟨true, rfl, iteF ?_⟩⟩
        exact ⟨⟨_, _, rfl⟩, s14.trans s5⟩
      | cons e es =>
        refine iteE (show (!PyData.eqv (psD (e :: es)) (psD [])) = true by rw [eqv_cons]; rfl) ?_
        refine ⟨_, rfl, _, rfl, _, rfl, cv, p, q, us, Hp0, Ap, hI, N, R, c, e, es, rfl, PR.keep s13, hcut.tk (Same.tk_ s13), hc, hN, hP, by omega, ho, hq3, hus3, fun H4 s4 => ⟨true, rfl, iteF ?_⟩⟩
        have s14 := s13.trans s4
        refine ⟨_, rfl, line (by show 0 ≤ 16777216; decide), fun q2 hq2 => ?_⟩
        have s5 := Same.new_ (o := .lst []) hq2
        have s15 := s14.trans s5
        rw [ho] at hus3
        refine ⟨psD (e :: es), psD [], dp_pks (s5 _ _ (s4 _ _ hq3)) (hus3.cimp fun _ _ z => IsPk.tk z (Same.tk_ (s4.trans s5))), dp_pks upd_same .nil, (sh_psD _).ok (by decide), (sh_psD _).ok (by decide), _, rfl, iteG eqv_cons ?_⟩
        exact ⟨⟨_, _, rfl⟩, s15⟩
    · rintro σ H1 ⟨⟨v4, v5, rfl⟩, s1⟩
      obtain ⟨ps0, pnw, nvp, G, Z0, PP⟩ := PR.keep s1
      obtain ⟨dx, hp⟩ := PP.ob
      have LP1 := LP.keep s1
      obtain ⟨vs, hvs, pvs⟩ := LP1.a_evs
      refine ⟨_, rfl, p, dx, _, rfl, hp, lkN runK (by decide +kernel), p, nvp, Ap, hI, G, N, R, rfl, PP, fun q us nq hus => ?_⟩
      have s2 := Same.new_ (o := .lst us) nq
      refine ⟨_, rfl, lA .d, _, rfl, (LP1.keep s2).g_evs, psD R.evs, psD R.evs, dp_pks upd_same (hus.cimp fun _ _ z => IsPk.tk z (Same.tk_ s2)), dp_pks (s2 _ _ hvs) (pvs.cimp fun _ _ z => IsPk.tk z (Same.tk_ s2)), (sh_psD _).ok (by decide), (sh_psD _).ok (by decide), ?_⟩
      exact bl_e (sh_psD _).refl (k _ (s1.trans s2))
end Cr
namespace Cr
open PySem PySem.Spec PyProof.Rows L2 He
theorem sc_law : FnScope ["_law_script", "_law_net_here", "_law_run", "_law_made", "_law_told_here", "_law_early", "_law_k", "_law_pick_here", "_law_cuts_here"] ["_law_script"] (defScope s_law) := ⟨rfl, rfl, rfl, by decide +kernel, rfl, by decide +kernel, by decide +kernel⟩
structure CalE (P : Program) (w : World) (K : PySem.W.Frag) (mg : Str → Option Value) (base : Heap) (k : Nat) (x : Str) (st : Stmt) (ps : List Str) (sp : Sp) : Prop where
  ex : ∃ fd, FunD K x x (defArgs st) (defBody st) (defScope st) [] [] (ga K x) fd ∧ FnOk P w K mg base CX0 k (ga K x) fd ps sp
theorem CalE.mk0 {P : Program} {w : World} {K : PySem.W.Frag} {mg : Str → Option Value} {base : Heap} {x : Str} {st : Stmt} {N ps : List Str} {k : Nat} {sp : Sp}
    (D : ∃ fd, FunD K x x (defArgs st) (defBody st) (defScope st) [] [] (ga K x) fd) (S : FnScope N ps (defScope st))
    (_hb : ∀ (kV doc pm : Value) (an : Option Addr) (cdv ct : Value) (us : List Value), us.length = ps.length → bindArgs (PySem.W.fnOf x x (defArgs st) (defBody st) (defScope st) .none kV doc pm an cdv ct) ⟨us, []⟩ = pure (ps.zip us))
    (len : ∀ vs H Q E, sp vs H Q E → vs.length = ps.length)
    (hbody : ∀ (cdv : Value) (A : Around) (outer : List Env) (s : Shared) (H : Hp) (vs : List V) (Q : VK) (E : XK), Room k (A.deeper (envOfC x (defScope st) s.heap.objs.size (ga K x) cdv)) → sp vs H Q E →
      ∃ t, PSs (cxOf CX0 P w K mg base N x (defScope st) (ga K x) cdv A outer s H E).nox (defBody st) t ∧ t { nx := fun _ H' => Q .non H', rt := Q } (start N vs) H) : CalE P w K mg base (k + 1) x st ps sp := by
  obtain ⟨fd, F⟩ := D
  exact ⟨fd, F, FunD.fn0 F S len hbody⟩
def sp_law (K : PySem.W.Frag) : Sp := fun vs H Q _ => ∃ (a : Addr) (ns : List Int), vs = [.ref a] ∧ SqL K H a (ns.map V.int) ∧ ∀ H', Q (.bl true) H'
theorem mem_cutV {xs : List V} {lo hi : Option Int} {v : V} (h : v ∈ cutV xs lo hi) : v ∈ xs := List.mem_of_mem_drop (List.mem_of_mem_take h)
theorem ok_law {P : Program} {w : World} {K : PySem.W.Frag} {mg : Str → Option Value} {base : Heap} (T : Txt K mg) : CalE P w K mg base 9 "law" s_law ["_law_script"] (sp_law K) := by
  have G_Lnet := ok_Lnet (P := P) (w := w) (base := base) T
  have G_Lran := ok_Lran (P := P) (w := w) (base := base) T
  have G_Lnet_made := ok_Lnet_made (P := P) (w := w) (base := base) T
  have G_Run_new := ok_Run_new (P := P) (w := w) (base := base) T
  have G_Lbegun := ok_Lbegun (P := P) (w := w) (base := base) T
  have G_Lcuts := ok_Lcuts (P := P) (w := w) (base := base) T
  have G_Lat := ok_Lat (P := P) (w := w) (base := base) T
  have G_Lasked := ok_Lasked (P := P) (w := w) (base := base) T
  have G_Lpick := ok_Lpick (P := P) (w := w) (base := base) T
  have G_Run_pick := ok_Run_pick (P := P) (w := w) (base := base) T
  refine CalE.mk0 T.D_law sc_law (fun _ _ _ _ _ _ us hl => match us, hl with | [_], _ => rfl) (fun vs H Q E h => ?_) (fun cdv A outer s H vs Q E hr h => ?_)
  · obtain ⟨a, ns, rfl, _⟩ := h
    rfl
  · obtain ⟨a, ns, rfl, ha, k⟩ := h
    refine ⟨_, (pss_cons (ps_set (i := 1) sc_law.nd rfl (Or.inl rfl) (pe_c G_Lnet hr (by decide) (by rfl) (pa_cons (pv 0) pa_nil)))
      (pss_cons (ps_set (i := 2) sc_law.nd rfl (Or.inl rfl) (pe_c G_Lran hr (by decide) (by rfl) (pa_cons (pv 1) (pa_cons (pe_slice sl_list (pv 0) (po_some pe_int) (po_some pe_int)) pa_nil))))
      (pss_cons (ps_set (i := 3) sc_law.nd rfl (Or.inl rfl) (pe_c G_Lnet_made hr (by decide) (by rfl) (pa_cons (pv 1) pa_nil)))
      (pss_cons (ps_set (i := 4) sc_law.nd rfl (Or.inl rfl) (pe_mk G_Run_new hr (by decide) (by rfl) (pa_cons (pv 3) pa_nil)))
      (pss_cons (ps_set (i := 5) sc_law.nd rfl (Or.inl rfl) (pe_c G_Lbegun hr (by decide) (by rfl) (pa_cons (pv 1) pa_nil)))
      (pss_cons (ps_for PassesOwn.never rfl (pi_enum (by rfl) T.f_enumerate (pa_cons (pe_dget (hu_of hr) (pv 2) pe_str (fun _ _ => rfl)) pa_nil)) (pg_tup rfl (pgs_cons (pg_name (i := 6) sc_law.nd rfl (Or.inl rfl)) (pgs_cons (pg_name (i := 7) sc_law.nd rfl (Or.inl rfl)) pgs_nil))) (pss_cons (ps_set (i := 8) sc_law.nd rfl (Or.inl rfl) (pe_c G_Lcuts hr (by decide) (by rfl) (pa_cons (pv 5) (pa_cons (pe_c G_Lat hr (by decide) (by rfl) (pa_cons (pv 0) (pa_cons pe_int pa_nil))) pa_nil))))
      (Evl.pss_cut (ps_if (PW.pt (pw_and (pt_cmpR op_eq (pe_op op_mod (pv 6) pe_int) pe_int (nomark _)) (pw_and1 (pt_not (pt_val (pe_c G_Lasked hr (by decide) (by rfl) (pa_cons (pv 4) (pa_cons (pv 5) (pa_cons (pv 3) (pa_cons (pe_slice sl_list (pv 8) (po_some pe_int) (po_some pe_int)) pa_nil)))))))))) (pss_one (ps_ret pe_bl)) pss_nil)
      (pss_cons (ps_expr (pe_c G_Lpick hr (by decide) (by rfl) (pa_cons (pv 5) (pa_cons (pe_ix ix_tup (pv 7) pe_int (fun _ _ => rfl)) (pa_cons (pe_ix ix_tup (pv 7) pe_int (fun _ _ => rfl)) pa_nil)))))
      (pss_one (ps_expr (pe_mt G_Run_pick hr (by decide) (pv 4) (pa_cons (pe_ix ix_tup (pv 7) pe_int (fun _ _ => rfl)) (pa_cons (pe_ix ix_tup (pv 7) pe_int (fun _ _ => rfl)) pa_nil)))))))))
      (pss_one (ps_ret (pe_c G_Lasked hr (by decide) (by rfl) (pa_cons (pv 4) (pa_cons (pv 2) (pa_cons (pv 3) (pa_cons (pe_c G_Lcuts hr (by decide) (by rfl) (pa_cons (pv 2) (pa_cons (pe_c G_Lat hr (by decide) (by rfl) (pa_cons (pv 0) (pa_cons pe_int pa_nil))) pa_nil))) pa_nil))))))))))))), ?_⟩
    refine ⟨_, rfl, a, ns, rfl, ha, fun H1 nv N s1 Z hN => ?_⟩
    refine ⟨_, rfl, _, rfl, _, rfl, _, rfl, a, _, rfl, ha.same_ s1, fun qc hqc => ?_⟩
    have s2 := Same.new_ (o := .lst (cutV (ns.map V.int) (some 9) (some 49))) hqc
    have ecut : cutV (ns.map V.int) (some 9) (some 49) = ((ns.drop 9).take 40).map V.int := by
      refine (cut_mid (ns.map V.int) 9 49).trans ?_
      rw [← List.map_drop, ← List.map_take]
    have hqE : upd H1 qc (.lst (cutV (ns.map V.int) (some 9) (some 49))) qc = some (.lst (((ns.drop 9).take 40).map V.int)) := by rw [upd_same, ecut]
    have lcs : ((ns.drop 9).take 40).length ≤ 40 := by rw [List.length_take]; omega
    refine ⟨nv, qc, N, (ns.drop 9).take 40, rfl, Z.keep s2, hN, hqE, by omega, fun H3 v R S L hP hev => ?_⟩
    have s13 := s2.trans L.s0
    have hev40 : R.evs.length ≤ 40 := by omega
    -- the net, made
    refine ⟨_, rfl, nv, N, rfl, Z.keep s13, hN, fun H4 pn s4 hpn => ?_⟩
    have s14 := s13.trans s4
    have Z4 := Z.keep s14
    have L4 := L.keep s4
    have ha4 := ha.same_ (s1.trans s14)
    -- the run of the program
    refine ⟨_, rfl, fun x dy nx ny nxy => ?_⟩
    have t0 : Same H4 (upd (upd H4 dy (.own x)) x (.ins (ga K "Run") dy [])) := (Same.new_ ny).trans (Same.new_ (by rw [upd_ne nxy.symm]; exact nx))
    refine ⟨x, dy, .ref pn, N, rfl, upd_same, hpn.keep t0, hN, fun H5 Ap hI G F5 P5 fr5 => ⟨rfl, ?_⟩⟩
    have s45 : Same H4 H5 := F5.same t0 fun b hb => by rw [hb]; exact nx
    have nw5 : ∀ t, PT.ok N t → H4 (Ap t) = none := fun t ht => t0.free (fr5 t ht)
    have PR5 : PRun K H4 H5 x Ap hI N (begun N) := ⟨s45, nw5, .ref pn, G, hpn, P5⟩
    -- the law's second run
    refine ⟨_, rfl, nv, N, rfl, Z4.keep s45, hN, fun H6 ve S6 _ rebase => ?_⟩
    have L6 := rebase H4 s45 Z4
    have sL6 := rebase H5 (Same.refl _) (Z4.keep s45)
    have PR6 := PR5.keep sL6.s0
    have dis6 : ∀ b, PFoot N Ap b → ¬ S6 b := fun b hb hs => by
      have h1 := sL6.nw b hs
      obtain ⟨t, ht, rfl⟩ := hb
      have h2 := P5.lay.at_ t ht
      rw [h1] at h2
      cases h2
    obtain ⟨_, _, lnv, lA, lG, rfl, _, LP, _⟩ := id L4
    obtain ⟨vs, hvs, pvs⟩ := LP.a_evs
    have lvs := pvs.length
    have mall := hP.all.2
    have hply : ∀ i, Ply N (At N R i) := fun i => May_all.ply (es := R.evs) mall i
    have hat : ∀ i, (At N R i).evs.length ≤ 40 := fun i => by
      unfold At
      rw [goOn_evs]
      show ([] ++ R.evs.take i).length ≤ 40
      rw [List.nil_append, List.length_take]
      omega
    refine ⟨_, rfl, lA .d, _, rfl, (LP.keep L6.s0).g_evs, lA .evs, vs, rfl, SqL.of (L6.s0 _ _ hvs), ?_⟩
    refine for_it (n := vs.length) walk_enum (fun i σ H' => (∃ v6 v7 v8, σ = [some (.ref a), some nv, some (.ref (lA .d)), some (.ref pn), some (.ref x), some ve, v6, v7, v8]) ∧ ∃ S', PRun K H4 H' x Ap hI N (At N R i) ∧ LRun H4 H' ve N (At N R i) S' ∧ ∀ b, PFoot N Ap b → ¬ S' b)
      ⟨⟨_, _, _, rfl⟩, S6, PR6, L6, dis6⟩ (fun i σ H' _ P => SqL.of (by obtain ⟨_, _, P, _⟩ := P; exact P.s0 _ _ hvs)) ?_ ?_
    · rintro i y σ H7 H8 hi ⟨⟨v6, v7, v8, rfl⟩, S7, PR7, L7, dis7⟩ ⟨t, x1, x2, rfl, ht, rfl, e1, e2⟩
      cases e1
      obtain ⟨e, he, he2⟩ := pvs.cget e2
      have st := Same.new_ (o := .tup [.int (i : Nat), x2]) ht
      have PR8 := PR7.keep st
      have L8 := L7.keep st
      have s48 := L8.s0
      obtain ⟨pe, rfl, hpe⟩ := he2.tk (Same.tk_ s48)
      have hmay := mall i e he
      have hpl := hply i
      have hok := hpl.ok hN
      have hle := hat i
      refine ⟨t, _, rfl, SqT.of upd_same, rfl, _, _, rfl, _, _, rfl, rfl, ?_⟩
      obtain ⟨_, _, env, eA, eG, rfl, _, EP, _⟩ := id L8
      -- the cuts
      refine ⟨_, rfl, _, rfl, a, ns, 8, rfl, ha4.same_ s48, fun z => ⟨env, eA, eG, N, _, z, rfl, EP, hN, hok, by omega, fun H9 qk cvs s9 nqk hqk hgk => ?_⟩⟩
      have PR9 := PR8.keep s9
      have L9 := L8.keep s9
      refine ⟨fun σ H' => σ = [some (.ref a), some nv, some (.ref (lA .d)), some (.ref pn), some (.ref x), some (.ref (eA .d)), some (.int (i : Nat)), some (.ref pe), some (.ref qk)] ∧ Same H9 H', ?_, ?_⟩
      · refine ⟨_, rfl, _, _, rfl, rfl, (show (0 : Int) < 6 by decide), rfl, _, rfl, ite2D (fun h6 => ?_) (fun h6 => ?_)⟩
        · refine ⟨_, rfl, _, rfl, _, rfl, _, rfl, _, rfl, _, rfl, qk, _, rfl, SqL.of hqk, fun q2 hq2 => ?_⟩
          have s10 := Same.new_ (o := .lst (cutV cvs (some 1) (some 4))) hq2
          refine ⟨.ref (eA .d), .ref pn, x, q2, H4, H4, Ap, hI, N, _, S7, _, rfl, L9.keep s10, PR9.keep s10, hpn.keep ((s48.trans s9).trans s10), hN, hpl, by omega, upd_same, fun v hv => (hgk v (mem_cutV hv)).tk (Same.tk_ s10), fun H11 s11 => ⟨true, rfl, iteF ?_⟩⟩
          exact ⟨rfl, s10.trans s11⟩
        · exact ⟨rfl, Same.refl _⟩
      rintro σ H10 ⟨rfl, s910⟩
      have PR10 := PR9.keep s910
      have L10 := L9.keep s910
      have hpe10 := (s9.trans s910) _ _ hpe
      -- both go on
      refine ⟨_, rfl, _, rfl, pe, _, _, _, rfl, rfl, SqT.of hpe10, atI_nat (j := 0) rfl, _, rfl, pe, _, _, _, rfl, rfl, SqT.of hpe10, atI_nat (j := 1) rfl, .ref (eA .d), e.1, e.2, H4, N, _, S7, rfl, L10, hN, hpl, hmay, by omega, fun H11 S11 ev L11 U11 => ?_⟩
      have dis11 : ∀ b, PFoot N Ap b → ¬ S11 b := fun b hb hs => by
        rcases U11.new b hs with z | z
        · exact dis7 b hb z
        · obtain ⟨_, _, _, G10, _, P10⟩ := PR10
          obtain ⟨t, ht, rfl⟩ := hb
          have h2 := P10.lay.at_ t ht
          rw [z] at h2
          cases h2
      have PR11 := PR10.fr U11.fr L11.s0 dis7 L10.noins
      have hpe11 := U11.fr.tk _ _ hpe10
      obtain ⟨_, _, _, G11, _, P11⟩ := id PR11
      obtain ⟨dx11, hx11⟩ := P11.ob
      refine ⟨_, rfl, x, dx11, _, rfl, hx11, lkN runK (by decide +kernel), _, rfl, pe, _, _, _, rfl, rfl, SqT.of hpe11, atI_nat (j := 0) rfl, _, rfl, pe, _, _, _, rfl, rfl, SqT.of hpe11, atI_nat (j := 1) rfl, x, H4, Ap, hI, N, _, e.1, e.2, rfl, PR11, hN, hok, hmay, by omega, fun H12 ev2 PR12 F12 hev2 => ?_⟩
      have L12 := L11.fr F12 PR12.s0 fun b hb hp => dis11 b hp hb
      rw [← at_succ he] at PR12 L12
      exact ⟨⟨_, _, _, rfl⟩, S11, PR12, L12, dis11⟩
    · rintro σ H7 ⟨⟨v6, v7, v8, rfl⟩, S7, PR7, L7, dis7⟩
      rw [lvs, hP.at_len] at PR7 L7
      have s47 := PR7.s0
      have LF := L4.keep s47
      have hok := hP.ok hN
      refine ⟨_, rfl, _, rfl, _, rfl, _, rfl, _, rfl, a, ns, 8, rfl, ha4.same_ s47, fun z => ⟨lnv, lA, lG, N, R, z, rfl, LP.keep s47, hN, hok, by omega, fun H9 qk cvs s9 nqk hqk hgk => ?_⟩⟩
      exact ⟨.ref (lA .d), .ref pn, x, qk, _, H4, Ap, hI, N, R, S, cvs, rfl, LF.keep s9, PR7.keep s9, hpn.keep (s47.trans s9), hN, hP, by omega, hqk, hgk, fun H10 s10 => k H10⟩
end Cr
namespace Cr
open PySem PySem.Spec PyProof.Rows L2 He
theorem end_facts {P : Program} {w : World} {K : PySem.W.Frag} {h : Heap} {mg : Str → Option Value} {f : Addr} (X : K.In h) (G : h.Ns mainGlobals mg) (hfa : mg ("law" : Str) = some (.ref f)) (c : obsM K = (valD fn, true)) :
    ∃ fd : FuncData, (∀ (s : Shared) (v : Value), BindsTo s fd ⟨[v], []⟩ [("_law_script", v)]) ∧ ∀ base : Heap, K.In base → base.Ns mainGlobals mg → FnOk P w K mg base CX0 9 f fd ["_law_script"] (sp_law K) := by
  have T : Txt K mg := ⟨congrArg Prod.fst c, congrArg Prod.snd c, h, X, G⟩
  have e := hfa.symm.trans T.g_law
  cases e
  obtain ⟨fd, F⟩ := T.D_law
  have b := FunD.bindsA (ps := ["_law_script"]) F fun _ _ _ _ _ _ us hl => match us, hl with | [_], _ => rfl
  refine ⟨fd, fun s v => b s [v] rfl, fun base _ _ => ?_⟩
  obtain ⟨fd', F', ok⟩ := (ok_law (P := P) (w := w) (base := base) T).ex
  have e : fd' = fd := by
    obtain ⟨oc, od, dV, kV, doc, pm, an, cdv, ct, osl, h1, lk1, _⟩ := F'.ex
    obtain ⟨oc2, od2, dV2, kV2, doc2, pm2, an2, cdv2, ct2, osl2, h2, lk2, _⟩ := F.ex
    rw [lk1] at lk2
    have := Option.some.inj lk2
    cases this
    rfl
  rw [← e]
  exact ok
end Cr
open PySem PySem.W PySem.Calls PyProof.Rows
theorem PySem.Challenge.cw_cutrestore_k42_whole_parts_played_holds : PySem.Challenge.rw_cutrestore_k42_whole_parts_played.Holds := by
  w_on; o_law
  refine HandSHeadRun.head_any (r := OpenLaw.row PySem.Challenge.rw_cutrestore_k42_whole_parts_played) (q := view (OpenLaw.row PySem.Challenge.rw_cutrestore_k42_whole_parts_played).prog [75]) (H := Cr.hookM) (ob := Cr.hdOb) (M := 6500) (loose := Cr.hdLoose) (d := HandSHeadRun.topDef (OpenLaw.row PySem.Challenge.rw_cutrestore_k42_whole_parts_played).prog 75) (kwd := []) Cr.hdOb_eq
    (by kernel_rfl) (fun s => by kernel_rfl) Cr.hdRun (by kernel_rfl) (by kernel_rfl) (by kernel_rfl) (by rfl) (by first | assumption | decide +kernel) (by decide +kernel) ⟨rfl, rfl, rfl, rfl, rfl, by decide +kernel⟩ ?hw ?hc
  case hw => w_witness2
  case hc =>
    refine L2.walk_ofE (l := PySem.Challenge.rw_cutrestore_k42_whole_parts_played) (n := 63) (k := 9) (x := "_law_script") (CX := L2.CX0) rfl (by decide) (by kernel_rfl) ⟨rfl, by decide, by decide⟩ ?F (fun _ _ _ _ z => z)
    intro w mg fa h Y G hmg0
    obtain ⟨K, KX, c⟩ := Y
    have hmg : mg ("law" : PySem.Str) = some (.ref fa) := by
      have e : (HandSHeadRun.topDef (OpenLaw.row PySem.Challenge.rw_cutrestore_k42_whole_parts_played).prog 75).name = ("law" : PySem.Str) := by kernel_rfl
      rw [← e]
      exact hmg0
    obtain ⟨fd, hb, hF⟩ := Cr.end_facts (P := (PySem.Challenge.rw_cutrestore_k42_whole_parts_played).prog) (w := w) KX G hmg c
    exact ⟨K, fd, Cr.sp_law K, KX, hb, fun H a ns hl _ hS => ⟨a, ns, rfl, hS, fun _ => rfl⟩, hF⟩
