import PyProof.Rows.All
import Wide.All
import OpenK.AllK
import Wide.FinOn
import KE.KStateDown
import KE.KExcSuper
import KE.KWithOwn
import Lean
import HandS.ForMost
import HandS.Exc
import HandS.ExcInit
import HandS.ExcField
import HandS.ExcIs
import HandS.ExcOwn
import HandS.TryOnly
import HandS.WordsExc
import HandS.Defaults
import HandS.Property
import HandS.Head0
import HandS.Head1
import HandS.Head2
import HandS.HeadEnd
import HandS.HeadHook1
import HandS.HeadHook2
import HandS.HeadHook4
import HandS.HeadNt
import HandS.HeadWalk
import PySem.Challenge.RW_beatpatches_k68_whole_undone_tried_and_k
import HandS.Nested
import HandS.IsInst
import HandS.Walk
import HandS.Zip
import HandS.TupAny
import HandS.Rev
import HandS.TupSets
import HandS.NoneIn
import HandS.SortRule
import HandS.Small
import HandS.DictTup
import HandS.FStr
import HandS.Wide
import HandS.WideMore
import HandS.Style
import HandS.NestedK
import HandS.NestedHot
import HandS.Strs
import HandS.OwnEq
import HandS.SetFor
import HandS.Conv
import HandS.RaiseFrom
import HandS.Flow
import HandS.Star
import HandS.More
import HandS.MakeKwOnly
import KE.GoesEnum
import PyProof.SeqIndex
import HandS.Deep
import HandS.TupLe
import HandS.EndBits
import HandS.EndTab
set_option Elab.async false
set_option linter.all false
set_option maxRecDepth 100000
set_option maxHeartbeats 4000000
namespace Bp
open PySem PySem.Spec PyProof.Rows L2
def top (i : Nat) : Stmt := PySem.Challenge.pw_beatpatches_k68_whole_undone_tried_and_k.main.body.getD i (.Pass ⟨0, 0, 0, 0⟩)
abbrev s_BeatError_init : Stmt := inClass (top 1) 0
abbrev s_is_integer : Stmt := top 15
abbrev s_is_cell : Stmt := top 16
abbrev s_check_cell : Stmt := top 17
abbrev s_moved : Stmt := top 18
abbrev s_less : Stmt := top 19
abbrev s_settled : Stmt := top 20
abbrev s_is_lot : Stmt := top 21
abbrev s_is_shape : Stmt := top 22
abbrev s_check_shape : Stmt := top 23
abbrev s_is_deal : Stmt := top 25
abbrev s_check_deal : Stmt := top 26
abbrev s_bank_of : Stmt := top 27
abbrev s_beats_of : Stmt := top 28
abbrev s_Block_init : Stmt := inClass (top 31) 0
abbrev s_Trial_init : Stmt := inClass (top 32) 0
abbrev s_Trial_enter : Stmt := inClass (top 32) 1
abbrev s_Trial_exit : Stmt := inClass (top 32) 2
abbrev s_deed_text : Stmt := top 37
abbrev s_Memory_init : Stmt := inClass (top 38) 0
abbrev s_Memory_eq : Stmt := inClass (top 38) 1
abbrev s_Memory_first : Stmt := inClass (top 38) 2
abbrev s_Memory_deal : Stmt := inClass (top 38) 3
abbrev s_Memory_done : Stmt := inClass (top 38) 4
abbrev s_Memory_spent : Stmt := inClass (top 38) 5
abbrev s_Memory_number_at : Stmt := inClass (top 38) 6
abbrev s_Memory_at : Stmt := inClass (top 38) 7
abbrev s_Memory_read : Stmt := inClass (top 38) 8
abbrev s_Memory_put : Stmt := inClass (top 38) 9
abbrev s_Memory_write : Stmt := inClass (top 38) 10
abbrev s_Memory_deal_anew : Stmt := inClass (top 38) 11
abbrev s_Memory_undo : Stmt := inClass (top 38) 12
abbrev s_Memory_redo : Stmt := inClass (top 38) 13
abbrev s_Memory_trial : Stmt := inClass (top 38) 14
abbrev s_Memory_keep : Stmt := inClass (top 38) 15
abbrev s_Memory_tried : Stmt := inClass (top 38) 16
abbrev s_Memory_copy : Stmt := inClass (top 38) 17
abbrev s_integer_in : Stmt := top 43
abbrev s_integers_in : Stmt := top 44
abbrev s_cell_in : Stmt := top 45
abbrev s_cells_in : Stmt := top 46
abbrev s_write_in : Stmt := top 47
abbrev s_deed_in : Stmt := top 48
abbrev s_do_deed : Stmt := top 49
abbrev s_journal : Stmt := top 50
abbrev s_begun : Stmt := top 51
abbrev s_read_journal : Stmt := top 52
abbrev s_law_pot : Stmt := top 54
abbrev s_law_take : Stmt := top 55
abbrev s_law_of : Stmt := top 56
abbrev s_law_some : Stmt := top 57
abbrev s_law_cells : Stmt := top 58
abbrev s_law_heard : Stmt := top 59
abbrev s_law_odd : Stmt := top 60
abbrev s_law_is_int : Stmt := top 61
abbrev s_law_is_cell : Stmt := top 62
abbrev s_law_moved : Stmt := top 63
abbrev s_law_settled : Stmt := top 64
abbrev s_law_is_lot : Stmt := top 65
abbrev s_law_is_shape : Stmt := top 66
abbrev s_law_loose : Stmt := top 67
abbrev s_law_is_deal : Stmt := top 68
abbrev s_law_bank : Stmt := top 69
abbrev s_law_beats : Stmt := top 70
abbrev s_law_drawn_deal : Stmt := top 71
abbrev s_law_a_cell : Stmt := top 72
abbrev s_law_day : Stmt := top 73
abbrev s_law_deal_now : Stmt := top 74
abbrev s_law_spent : Stmt := top 75
abbrev s_law_held : Stmt := top 76
abbrev s_law_do : Stmt := top 77
abbrev s_law_refusal : Stmt := top 78
abbrev s_law_led : Stmt := top 79
abbrev s_law_back : Stmt := top 80
abbrev s_law_again : Stmt := top 81
abbrev s_law_is_memory : Stmt := top 82
abbrev s_law_a_deed : Stmt := top 83
abbrev s_law_around : Stmt := top 84
abbrev s_law_gone : Stmt := top 85
abbrev s_law_line : Stmt := top 86
abbrev s_law_journal : Stmt := top 87
abbrev s_law_fro : Stmt := top 88
abbrev s_law_is_outside : Stmt := top 89
abbrev s_law_inner : Stmt := top 90
abbrev s_law_block : Stmt := top 91
abbrev s_law_is_long_right : Stmt := top 92
abbrev s_law_right : Stmt := top 93
abbrev s_law : Stmt := top 94
/-- the getter of a property -/
def getterA (K : PySem.W.Frag) (C : Addr) (m : Str) : Addr := match PySem.W.recIn K (He.ma K C m) "property" with
  | some (.ref g :: _) => g
  | _ => 0
def d_is_integer : He5.DefA := ⟨fun K => He.ga K "is_integer", "is_integer", "is_integer", defArgs s_is_integer, defBody s_is_integer, defScope s_is_integer, [], []⟩
def d_is_cell : He5.DefA := ⟨fun K => He.ga K "is_cell", "is_cell", "is_cell", defArgs s_is_cell, defBody s_is_cell, defScope s_is_cell, [], []⟩
def d_check_cell : He5.DefA := ⟨fun K => He.ga K "check_cell", "check_cell", "check_cell", defArgs s_check_cell, defBody s_check_cell, defScope s_check_cell, [], []⟩
def d_moved : He5.DefA := ⟨fun K => He.ga K "moved", "moved", "moved", defArgs s_moved, defBody s_moved, defScope s_moved, [], []⟩
def d_less : He5.DefA := ⟨fun K => He.ga K "less", "less", "less", defArgs s_less, defBody s_less, defScope s_less, [], []⟩
def d_settled : He5.DefA := ⟨fun K => He.ga K "settled", "settled", "settled", defArgs s_settled, defBody s_settled, defScope s_settled, [], []⟩
def d_is_lot : He5.DefA := ⟨fun K => He.ga K "is_lot", "is_lot", "is_lot", defArgs s_is_lot, defBody s_is_lot, defScope s_is_lot, [], []⟩
def d_is_shape : He5.DefA := ⟨fun K => He.ga K "is_shape", "is_shape", "is_shape", defArgs s_is_shape, defBody s_is_shape, defScope s_is_shape, [], []⟩
def d_check_shape : He5.DefA := ⟨fun K => He.ga K "check_shape", "check_shape", "check_shape", defArgs s_check_shape, defBody s_check_shape, defScope s_check_shape, [], []⟩
def d_is_deal : He5.DefA := ⟨fun K => He.ga K "is_deal", "is_deal", "is_deal", defArgs s_is_deal, defBody s_is_deal, defScope s_is_deal, [], []⟩
def d_check_deal : He5.DefA := ⟨fun K => He.ga K "check_deal", "check_deal", "check_deal", defArgs s_check_deal, defBody s_check_deal, defScope s_check_deal, [], []⟩
def d_bank_of : He5.DefA := ⟨fun K => He.ga K "bank_of", "bank_of", "bank_of", defArgs s_bank_of, defBody s_bank_of, defScope s_bank_of, [], []⟩
def d_beats_of : He5.DefA := ⟨fun K => He.ga K "beats_of", "beats_of", "beats_of", defArgs s_beats_of, defBody s_beats_of, defScope s_beats_of, [], []⟩
def d_Block_init : He5.DefA := ⟨fun K => He.ma K (He.ga K "Block") "__init__", "__init__", "Block.__init__", defArgs s_Block_init, defBody s_Block_init, defScope s_Block_init, [], []⟩
def d_Trial_init : He5.DefA := ⟨fun K => He.ma K (He.ga K "Trial") "__init__", "__init__", "Trial.__init__", defArgs s_Trial_init, defBody s_Trial_init, defScope s_Trial_init, [], []⟩
def d_Trial_enter : He5.DefA := ⟨fun K => He.ma K (He.ga K "Trial") "__enter__", "__enter__", "Trial.__enter__", defArgs s_Trial_enter, defBody s_Trial_enter, defScope s_Trial_enter, [], []⟩
def d_Trial_exit : He5.DefA := ⟨fun K => He.ma K (He.ga K "Trial") "__exit__", "__exit__", "Trial.__exit__", defArgs s_Trial_exit, defBody s_Trial_exit, defScope s_Trial_exit, [], []⟩
def d_deed_text : He5.DefA := ⟨fun K => He.ga K "deed_text", "deed_text", "deed_text", defArgs s_deed_text, defBody s_deed_text, defScope s_deed_text, [], []⟩
def d_Memory_init : He5.DefA := ⟨fun K => He.ma K (He.ga K "Memory") "__init__", "__init__", "Memory.__init__", defArgs s_Memory_init, defBody s_Memory_init, defScope s_Memory_init, [], []⟩
def d_Memory_eq : He5.DefA := ⟨fun K => He.ma K (He.ga K "Memory") "__eq__", "__eq__", "Memory.__eq__", defArgs s_Memory_eq, defBody s_Memory_eq, defScope s_Memory_eq, [], []⟩
def d_Memory_first : He5.DefA := ⟨fun K => getterA K (He.ga K "Memory") "first", "first", "Memory.first", defArgs s_Memory_first, defBody s_Memory_first, defScope s_Memory_first, [], []⟩
def d_Memory_deal : He5.DefA := ⟨fun K => getterA K (He.ga K "Memory") "deal", "deal", "Memory.deal", defArgs s_Memory_deal, defBody s_Memory_deal, defScope s_Memory_deal, [], []⟩
def d_Memory_done : He5.DefA := ⟨fun K => getterA K (He.ga K "Memory") "done", "done", "Memory.done", defArgs s_Memory_done, defBody s_Memory_done, defScope s_Memory_done, [], []⟩
def d_Memory_spent : He5.DefA := ⟨fun K => getterA K (He.ga K "Memory") "spent", "spent", "Memory.spent", defArgs s_Memory_spent, defBody s_Memory_spent, defScope s_Memory_spent, [], []⟩
def d_Memory_number_at : He5.DefA := ⟨fun K => He.ma K (He.ga K "Memory") "number_at", "number_at", "Memory.number_at", defArgs s_Memory_number_at, defBody s_Memory_number_at, defScope s_Memory_number_at, [], []⟩
def d_Memory_at : He5.DefA := ⟨fun K => He.ma K (He.ga K "Memory") "at", "at", "Memory.at", defArgs s_Memory_at, defBody s_Memory_at, defScope s_Memory_at, [], []⟩
def d_Memory_read : He5.DefA := ⟨fun K => He.ma K (He.ga K "Memory") "read", "read", "Memory.read", defArgs s_Memory_read, defBody s_Memory_read, defScope s_Memory_read, [], []⟩
def d_Memory_put : He5.DefA := ⟨fun K => He.ma K (He.ga K "Memory") "put", "put", "Memory.put", defArgs s_Memory_put, defBody s_Memory_put, defScope s_Memory_put, [], []⟩
def d_Memory_write : He5.DefA := ⟨fun K => He.ma K (He.ga K "Memory") "write", "write", "Memory.write", defArgs s_Memory_write, defBody s_Memory_write, defScope s_Memory_write, [], []⟩
def d_Memory_deal_anew : He5.DefA := ⟨fun K => He.ma K (He.ga K "Memory") "deal_anew", "deal_anew", "Memory.deal_anew", defArgs s_Memory_deal_anew, defBody s_Memory_deal_anew, defScope s_Memory_deal_anew, [], []⟩
def d_Memory_undo : He5.DefA := ⟨fun K => He.ma K (He.ga K "Memory") "undo", "undo", "Memory.undo", defArgs s_Memory_undo, defBody s_Memory_undo, defScope s_Memory_undo, [], []⟩
def d_Memory_redo : He5.DefA := ⟨fun K => He.ma K (He.ga K "Memory") "redo", "redo", "Memory.redo", defArgs s_Memory_redo, defBody s_Memory_redo, defScope s_Memory_redo, [], []⟩
def d_Memory_trial : He5.DefA := ⟨fun K => He.ma K (He.ga K "Memory") "trial", "trial", "Memory.trial", defArgs s_Memory_trial, defBody s_Memory_trial, defScope s_Memory_trial, [], []⟩
def d_Memory_keep : He5.DefA := ⟨fun K => He.ma K (He.ga K "Memory") "keep", "keep", "Memory.keep", defArgs s_Memory_keep, defBody s_Memory_keep, defScope s_Memory_keep, [], []⟩
def d_Memory_tried : He5.DefA := ⟨fun K => He.ma K (He.ga K "Memory") "tried", "tried", "Memory.tried", defArgs s_Memory_tried, defBody s_Memory_tried, defScope s_Memory_tried, [], [("keep", .bl false)]⟩
def d_Memory_copy : He5.DefA := ⟨fun K => He.ma K (He.ga K "Memory") "copy", "copy", "Memory.copy", defArgs s_Memory_copy, defBody s_Memory_copy, defScope s_Memory_copy, [], []⟩
def d_integer_in : He5.DefA := ⟨fun K => He.ga K "integer_in", "integer_in", "integer_in", defArgs s_integer_in, defBody s_integer_in, defScope s_integer_in, [], []⟩
def d_integers_in : He5.DefA := ⟨fun K => He.ga K "integers_in", "integers_in", "integers_in", defArgs s_integers_in, defBody s_integers_in, defScope s_integers_in, [], []⟩
def d_cell_in : He5.DefA := ⟨fun K => He.ga K "cell_in", "cell_in", "cell_in", defArgs s_cell_in, defBody s_cell_in, defScope s_cell_in, [], []⟩
def d_cells_in : He5.DefA := ⟨fun K => He.ga K "cells_in", "cells_in", "cells_in", defArgs s_cells_in, defBody s_cells_in, defScope s_cells_in, [], []⟩
def d_write_in : He5.DefA := ⟨fun K => He.ga K "write_in", "write_in", "write_in", defArgs s_write_in, defBody s_write_in, defScope s_write_in, [], []⟩
def d_deed_in : He5.DefA := ⟨fun K => He.ga K "deed_in", "deed_in", "deed_in", defArgs s_deed_in, defBody s_deed_in, defScope s_deed_in, [], []⟩
def d_do_deed : He5.DefA := ⟨fun K => He.ga K "do_deed", "do_deed", "do_deed", defArgs s_do_deed, defBody s_do_deed, defScope s_do_deed, [], []⟩
def d_journal : He5.DefA := ⟨fun K => He.ga K "journal", "journal", "journal", defArgs s_journal, defBody s_journal, defScope s_journal, [], []⟩
def d_begun : He5.DefA := ⟨fun K => He.ga K "begun", "begun", "begun", defArgs s_begun, defBody s_begun, defScope s_begun, [], []⟩
def d_read_journal : He5.DefA := ⟨fun K => He.ga K "read_journal", "read_journal", "read_journal", defArgs s_read_journal, defBody s_read_journal, defScope s_read_journal, [], []⟩
def d_law_pot : He5.DefA := ⟨fun K => He.ga K "_law_pot", "_law_pot", "_law_pot", defArgs s_law_pot, defBody s_law_pot, defScope s_law_pot, [], []⟩
def d_law_take : He5.DefA := ⟨fun K => He.ga K "_law_take", "_law_take", "_law_take", defArgs s_law_take, defBody s_law_take, defScope s_law_take, [], []⟩
def d_law_of : He5.DefA := ⟨fun K => He.ga K "_law_of", "_law_of", "_law_of", defArgs s_law_of, defBody s_law_of, defScope s_law_of, [], []⟩
def d_law_some : He5.DefA := ⟨fun K => He.ga K "_law_some", "_law_some", "_law_some", defArgs s_law_some, defBody s_law_some, defScope s_law_some, [], []⟩
def d_law_cells : He5.DefA := ⟨fun K => He.ga K "_law_cells", "_law_cells", "_law_cells", defArgs s_law_cells, defBody s_law_cells, defScope s_law_cells, [], []⟩
def d_law_heard : He5.DefA := ⟨fun K => He.ga K "_law_heard", "_law_heard", "_law_heard", defArgs s_law_heard, defBody s_law_heard, defScope s_law_heard, [], []⟩
def d_law_odd : He5.DefA := ⟨fun K => He.ga K "_law_odd", "_law_odd", "_law_odd", defArgs s_law_odd, defBody s_law_odd, defScope s_law_odd, [], []⟩
def d_law_is_int : He5.DefA := ⟨fun K => He.ga K "_law_is_int", "_law_is_int", "_law_is_int", defArgs s_law_is_int, defBody s_law_is_int, defScope s_law_is_int, [], []⟩
def d_law_is_cell : He5.DefA := ⟨fun K => He.ga K "_law_is_cell", "_law_is_cell", "_law_is_cell", defArgs s_law_is_cell, defBody s_law_is_cell, defScope s_law_is_cell, [], []⟩
def d_law_moved : He5.DefA := ⟨fun K => He.ga K "_law_moved", "_law_moved", "_law_moved", defArgs s_law_moved, defBody s_law_moved, defScope s_law_moved, [], []⟩
def d_law_settled : He5.DefA := ⟨fun K => He.ga K "_law_settled", "_law_settled", "_law_settled", defArgs s_law_settled, defBody s_law_settled, defScope s_law_settled, [], []⟩
def d_law_is_lot : He5.DefA := ⟨fun K => He.ga K "_law_is_lot", "_law_is_lot", "_law_is_lot", defArgs s_law_is_lot, defBody s_law_is_lot, defScope s_law_is_lot, [], []⟩
def d_law_is_shape : He5.DefA := ⟨fun K => He.ga K "_law_is_shape", "_law_is_shape", "_law_is_shape", defArgs s_law_is_shape, defBody s_law_is_shape, defScope s_law_is_shape, [], []⟩
def d_law_loose : He5.DefA := ⟨fun K => He.ga K "_law_loose", "_law_loose", "_law_loose", defArgs s_law_loose, defBody s_law_loose, defScope s_law_loose, [], []⟩
def d_law_is_deal : He5.DefA := ⟨fun K => He.ga K "_law_is_deal", "_law_is_deal", "_law_is_deal", defArgs s_law_is_deal, defBody s_law_is_deal, defScope s_law_is_deal, [], []⟩
def d_law_bank : He5.DefA := ⟨fun K => He.ga K "_law_bank", "_law_bank", "_law_bank", defArgs s_law_bank, defBody s_law_bank, defScope s_law_bank, [], []⟩
def d_law_beats : He5.DefA := ⟨fun K => He.ga K "_law_beats", "_law_beats", "_law_beats", defArgs s_law_beats, defBody s_law_beats, defScope s_law_beats, [], []⟩
def d_law_drawn_deal : He5.DefA := ⟨fun K => He.ga K "_law_drawn_deal", "_law_drawn_deal", "_law_drawn_deal", defArgs s_law_drawn_deal, defBody s_law_drawn_deal, defScope s_law_drawn_deal, [], []⟩
def d_law_a_cell : He5.DefA := ⟨fun K => He.ga K "_law_a_cell", "_law_a_cell", "_law_a_cell", defArgs s_law_a_cell, defBody s_law_a_cell, defScope s_law_a_cell, [], []⟩
def d_law_day : He5.DefA := ⟨fun K => He.ga K "_law_day", "_law_day", "_law_day", defArgs s_law_day, defBody s_law_day, defScope s_law_day, [], []⟩
def d_law_deal_now : He5.DefA := ⟨fun K => He.ga K "_law_deal_now", "_law_deal_now", "_law_deal_now", defArgs s_law_deal_now, defBody s_law_deal_now, defScope s_law_deal_now, [], []⟩
def d_law_spent : He5.DefA := ⟨fun K => He.ga K "_law_spent", "_law_spent", "_law_spent", defArgs s_law_spent, defBody s_law_spent, defScope s_law_spent, [], []⟩
def d_law_held : He5.DefA := ⟨fun K => He.ga K "_law_held", "_law_held", "_law_held", defArgs s_law_held, defBody s_law_held, defScope s_law_held, [], []⟩
def d_law_do : He5.DefA := ⟨fun K => He.ga K "_law_do", "_law_do", "_law_do", defArgs s_law_do, defBody s_law_do, defScope s_law_do, [], []⟩
def d_law_refusal : He5.DefA := ⟨fun K => He.ga K "_law_refusal", "_law_refusal", "_law_refusal", defArgs s_law_refusal, defBody s_law_refusal, defScope s_law_refusal, [], []⟩
def d_law_led : He5.DefA := ⟨fun K => He.ga K "_law_led", "_law_led", "_law_led", defArgs s_law_led, defBody s_law_led, defScope s_law_led, [], []⟩
def d_law_back : He5.DefA := ⟨fun K => He.ga K "_law_back", "_law_back", "_law_back", defArgs s_law_back, defBody s_law_back, defScope s_law_back, [], []⟩
def d_law_again : He5.DefA := ⟨fun K => He.ga K "_law_again", "_law_again", "_law_again", defArgs s_law_again, defBody s_law_again, defScope s_law_again, [], []⟩
def d_law_is_memory : He5.DefA := ⟨fun K => He.ga K "_law_is_memory", "_law_is_memory", "_law_is_memory", defArgs s_law_is_memory, defBody s_law_is_memory, defScope s_law_is_memory, [], []⟩
def d_law_a_deed : He5.DefA := ⟨fun K => He.ga K "_law_a_deed", "_law_a_deed", "_law_a_deed", defArgs s_law_a_deed, defBody s_law_a_deed, defScope s_law_a_deed, [], []⟩
def d_law_around : He5.DefA := ⟨fun K => He.ga K "_law_around", "_law_around", "_law_around", defArgs s_law_around, defBody s_law_around, defScope s_law_around, [], []⟩
def d_law_gone : He5.DefA := ⟨fun K => He.ga K "_law_gone", "_law_gone", "_law_gone", defArgs s_law_gone, defBody s_law_gone, defScope s_law_gone, [], []⟩
def d_law_line : He5.DefA := ⟨fun K => He.ga K "_law_line", "_law_line", "_law_line", defArgs s_law_line, defBody s_law_line, defScope s_law_line, [], []⟩
def d_law_journal : He5.DefA := ⟨fun K => He.ga K "_law_journal", "_law_journal", "_law_journal", defArgs s_law_journal, defBody s_law_journal, defScope s_law_journal, [], []⟩
def d_law_fro : He5.DefA := ⟨fun K => He.ga K "_law_fro", "_law_fro", "_law_fro", defArgs s_law_fro, defBody s_law_fro, defScope s_law_fro, [], []⟩
def d_law_is_outside : He5.DefA := ⟨fun K => He.ga K "_law_is_outside", "_law_is_outside", "_law_is_outside", defArgs s_law_is_outside, defBody s_law_is_outside, defScope s_law_is_outside, [], []⟩
def d_law_inner : He5.DefA := ⟨fun K => He.ga K "_law_inner", "_law_inner", "_law_inner", defArgs s_law_inner, defBody s_law_inner, defScope s_law_inner, [], []⟩
def d_law_block : He5.DefA := ⟨fun K => He.ga K "_law_block", "_law_block", "_law_block", defArgs s_law_block, defBody s_law_block, defScope s_law_block, [], []⟩
def d_law_is_long_right : He5.DefA := ⟨fun K => He.ga K "_law_is_long_right", "_law_is_long_right", "_law_is_long_right", defArgs s_law_is_long_right, defBody s_law_is_long_right, defScope s_law_is_long_right, [], []⟩
def d_law_right : He5.DefA := ⟨fun K => He.ga K "_law_right", "_law_right", "_law_right", defArgs s_law_right, defBody s_law_right, defScope s_law_right, [], []⟩
def d_law : He5.DefA := ⟨fun K => He.ga K "law", "law", "law", defArgs s_law, defBody s_law, defScope s_law, [], []⟩
def fns0 : List He5.DefA := [d_is_integer, d_is_cell, d_check_cell, d_moved, d_less, d_settled, d_is_lot, d_is_shape, d_check_shape, d_is_deal, d_check_deal, d_bank_of, d_beats_of, d_Block_init, d_Trial_init, d_Trial_enter, d_Trial_exit, d_deed_text, d_Memory_init, d_Memory_eq]
def fns1 : List He5.DefA := [d_Memory_first, d_Memory_deal, d_Memory_done, d_Memory_spent, d_Memory_number_at, d_Memory_at, d_Memory_read, d_Memory_put, d_Memory_write, d_Memory_deal_anew, d_Memory_undo, d_Memory_redo, d_Memory_trial, d_Memory_keep, d_Memory_tried, d_Memory_copy, d_integer_in, d_integers_in, d_cell_in, d_cells_in]
def fns2 : List He5.DefA := [d_write_in, d_deed_in, d_do_deed, d_journal, d_begun, d_read_journal, d_law_pot, d_law_take, d_law_of, d_law_some, d_law_cells, d_law_heard, d_law_odd, d_law_is_int, d_law_is_cell, d_law_moved, d_law_settled, d_law_is_lot, d_law_is_shape, d_law_loose]
def fns3 : List He5.DefA := [d_law_is_deal, d_law_bank, d_law_beats, d_law_drawn_deal, d_law_a_cell, d_law_day, d_law_deal_now, d_law_spent, d_law_held, d_law_do, d_law_refusal, d_law_led, d_law_back, d_law_again, d_law_is_memory, d_law_a_deed, d_law_around, d_law_gone, d_law_line, d_law_journal]
def fns4 : List He5.DefA := [d_law_fro, d_law_is_outside, d_law_inner, d_law_block, d_law_is_long_right, d_law_right, d_law]
def fns : List He5.DefA := fns0 ++ fns1 ++ fns2 ++ fns3 ++ fns4
def fas0 : List He.Fa := [.glo "BeatError", .glo "BadShape", .glo "BadDeal", .glo "BadCell", .glo "BadNumbers", .glo "SameDeal", .glo "NothingToUndo", .glo "NothingToRedo", .glo "NoTrial", .glo "BadJournal", .glo "is_integer", .glo "is_cell", .glo "check_cell", .glo "moved", .glo "less", .glo "settled", .glo "is_lot", .glo "is_shape", .glo "check_shape", .glo "is_deal"]
def fas1 : List He.Fa := [.glo "check_deal", .glo "bank_of", .glo "beats_of", .glo "Block", .glo "Trial", .glo "deed_text", .glo "Memory", .glo "integer_in", .glo "integers_in", .glo "cell_in", .glo "cells_in", .glo "write_in", .glo "deed_in", .glo "do_deed", .glo "journal", .glo "begun", .glo "read_journal", .glo "_law_pot", .glo "_law_take", .glo "_law_of"]
def fas2 : List He.Fa := [.glo "_law_some", .glo "_law_cells", .glo "_law_heard", .glo "_law_odd", .glo "_law_is_int", .glo "_law_is_cell", .glo "_law_moved", .glo "_law_settled", .glo "_law_is_lot", .glo "_law_is_shape", .glo "_law_loose", .glo "_law_is_deal", .glo "_law_bank", .glo "_law_beats", .glo "_law_drawn_deal", .glo "_law_a_cell", .glo "_law_day", .glo "_law_deal_now", .glo "_law_spent", .glo "_law_held"]
def fas3 : List He.Fa := [.glo "_law_do", .glo "_law_refusal", .glo "_law_led", .glo "_law_back", .glo "_law_again", .glo "_law_is_memory", .glo "_law_a_deed", .glo "_law_around", .glo "_law_gone", .glo "_law_line", .glo "_law_journal", .glo "_law_fro", .glo "_law_is_outside", .glo "_law_inner", .glo "_law_block", .glo "_law_is_long_right", .glo "_law_right", .glo "law", .free "isinstance", .free "int"]
def fas4 : List He.Fa := [.free "bool", .free "tuple", .free "len", .free "all", .free "min", .free "max", .free "sorted", .free "enumerate", .free "zip", .free "sum", .free "str", .free "super", .free "repr", .free "abs", .free "list", .free "range", .free "set", .free "ValueError", .int "MOST_CELLS" 16, .int "MOST_WIDE" 12]
def fas5 : List He.Fa := [.int "MOST_NUMBER" 999, .str "FEED" "\n", .str "KEPT" "kept", .str "WRITE" "write", .str "ANEW" "anew", .str "BLANK" " ", .str "DEAL" "deal", .str "FIGURES" "0123456789", .cls "Memory", .mkr "Memory", .cls "Block", .mkr "Block", .cls "Trial", .mkr "Trial", .noat "Memory" "own_first", .noat "Memory" "own_past", .noat "Memory" "own_later", .noat "Memory" "own_block", .noat "Block" "past_then", .noat "Block" "later_then"]
def fas6 : List He.Fa := [.noat "Block" "around", .noat "Block" "word", .noat "Trial" "own_memory", .meth "Trial" "__enter__", .meth "Trial" "__exit__", .meth "Memory" "__eq__", .meth "Memory" "number_at", .meth "Memory" "at", .meth "Memory" "read", .meth "Memory" "put", .meth "Memory" "write", .meth "Memory" "deal_anew", .meth "Memory" "undo", .meth "Memory" "redo", .meth "Memory" "trial", .meth "Memory" "keep", .meth "Memory" "tried", .meth "Memory" "copy"]
def fas : List He.Fa := fas0 ++ fas1 ++ fas2 ++ fas3 ++ fas4 ++ fas5 ++ fas6
def loose0 : List Str := ["BeatError", "BadShape", "BadDeal", "BadCell", "BadNumbers", "SameDeal", "NothingToUndo", "NothingToRedo", "NoTrial", "BadJournal", "MOST_CELLS", "MOST_WIDE", "FEED", "is_integer", "is_cell", "check_cell", "moved", "less", "settled", "is_lot"]
def loose1 : List Str := ["is_shape", "check_shape", "is_deal", "check_deal", "bank_of", "beats_of", "KEPT", "Block", "Trial", "MOST_NUMBER", "WRITE", "ANEW", "deed_text", "Memory", "BLANK", "DEAL", "FIGURES", "integer_in", "integers_in", "cell_in"]
def loose2 : List Str := ["cells_in", "write_in", "deed_in", "do_deed", "journal", "begun", "read_journal", "_law_pot", "_law_take", "_law_of", "_law_some", "_law_cells", "_law_heard", "_law_odd", "_law_is_int", "_law_is_cell", "_law_moved", "_law_settled", "_law_is_lot", "_law_is_shape"]
def loose3 : List Str := ["_law_loose", "_law_is_deal", "_law_bank", "_law_beats", "_law_drawn_deal", "_law_a_cell", "_law_day", "_law_deal_now", "_law_spent", "_law_held", "_law_do", "_law_refusal", "_law_led", "_law_back", "_law_again", "_law_is_memory", "_law_a_deed", "_law_around", "_law_gone", "_law_line"]
def loose4 : List Str := ["_law_journal", "_law_fro", "_law_is_outside", "_law_inner", "_law_block", "_law_is_long_right", "_law_right"]
def loose : List Str := loose0 ++ loose1 ++ loose2 ++ loose3 ++ loose4
/-! ### facts of one's own -/
abbrev Memo (K : PySem.W.Frag) : Addr := He.ga K "Memory"
abbrev fErrInit (K : PySem.W.Frag) : Addr := He.ma K (He.ga K "BeatError") "__init__"
def mroTail (K : PySem.W.Frag) (C : Addr) : Bool := match PySem.W.clsIn K C with
  | some cd => (match cd.mro with
    | .ref C' :: bm => decide (C' = C) && PySem.HandSPX.refsVE bm
    | _ => false)
  | none => false
/-- an error class of the program: BeatError's own __init__ -/
def errB (x : Str) (K : PySem.W.Frag) : Bool :=
  PySem.W.excInitIn K (He.ga K x) He.veBase "ValueError.__new__" && (PySem.W.hasDictIn K (He.ga K x) && (mroTail K (He.ga K x) &&
  (He.eqO (PySem.W.findIn K (.ref (He.ga K x)) "__setattr__") (some (some (.builtin "object.__setattr__"))) &&
  (decide (PySem.W.subIn K (.ref (He.ga K x)) (.type "BaseException") = some true) && (decide (PySem.W.typeIn K (.ref (He.ga K x)) = some (.type "type")) &&
  (PySem.W.keepIn K (.ref (He.ga K x)) && (He.eqO (PySem.W.findIn K (.ref (He.ga K x)) "__init__") (some (some (.ref (fErrInit K)))) &&
  (decide (PySem.W.exmOne K (.ref (He.ga K x)) (.ref (He.ga K "BeatError")) = some true) && (xfB K (He.ga K x) &&
  (He.eqO (PySem.W.findIn K (.ref (He.ga K x)) "value") (some none) && (decide (PySem.W.subIn K (.ref (He.ga K x)) (.type "ValueError") = some true) &&
  (He.eqO (PySem.W.ks_superIn K (He.ga K x) (He.ga K "BeatError") "__init__") (some (some (.builtin "ValueError.__init__"))) &&
  (He.eqO (PySem.W.findIn K (.ref (He.ga K x)) "__class__") (some (some (.builtin "object.__class__"))) && (decide (PySem.W.mroIn K (He.ga K x) (.type "object") = some true) &&
  decide (PySem.W.mroIn K (He.ga K x) (.ref (He.ga K "BeatError")) = some true)))))))))))))))
/-- a property of Memory -/
def propB (m : Str) (K : PySem.W.Frag) : Bool :=
  He.eqO (PySem.W.findIn K (.ref (Memo K)) m) (some (some (.ref (He.ma K (Memo K) m)))) && (He.eqO (PySem.W.specialIn K (.ref (He.ma K (Memo K) m)) "__get__") (some (some (.builtin "property.__get__"))) &&
  (decide (PySem.W.takesIn K (.ref (He.ma K (Memo K) m)) = some true) && (match PySem.W.recIn K (He.ma K (Memo K) m) "property" with
    | some (.ref _ :: _) => true
    | _ => false)))
def classB (K : PySem.W.Frag) : Bool :=
  He.eqO (PySem.W.findIn K (.ref (Memo K)) "__class__") (some (some (.builtin "object.__class__"))) && (He.eqO (PySem.W.specialIn K (.builtin "object.__class__") "__get__") (some (some (.builtin "getset_descriptor.__get__"))) &&
  (decide (PySem.W.takesIn K (.builtin "object.__class__") = some true) && (decide (PySem.W.mroIn K (Memo K) (.type "object") = some true) && (decide (PySem.W.kitOne K (.ref (Memo K)) (.ref (Memo K)) = some true) &&
  (He.eqO (PySem.W.nsIn K cStatics "thirdparty.any") (some none) && He.eqO (PySem.W.findIn K (.ref (Memo K)) "__ne__") (some (some (.builtin "object.__ne__"))))))))
/-- BeatError.__init__: its function object, by parts -/
abbrev FnC : Type := Option (Str × Str × Arguments × FuncBody × Scope × Addr × List Str × Addr × Value)
def fnC (K : PySem.W.Frag) : FnC := match K.lookup (fErrInit K) with
  | some ⟨_, _, .func fd, _⟩ => some (fd.name, fd.qualname, fd.params, fd.body, fd.scope, fd.globals, fd.closure.map (·.1), fd.builtins, fd.defaults)
  | _ => none
def valC : FnC := some ("__init__", "BeatError.__init__", defArgs s_BeatError_init, .stmts (defBody s_BeatError_init), defScope s_BeatError_init, mainGlobals, ["__class__"], builtinsNs, .none)
def initB (K : PySem.W.Frag) : Bool := match K.lookup (fErrInit K) with
  | some ⟨.type "function", _, .func fd, _⟩ => PySem.W.codeIn K fd.code "BeatError.__init__" && ((match fd.closure with
    | [(_, c)] => (match K.lookup c with
      | some ⟨_, _, .cell (some (.ref D)), _⟩ => decide (D = He.ga K "BeatError")
      | _ => false)
    | _ => false) && (match fd.code with
    | .ref c => (match K.lookup c with
      | some ⟨_, _, .fields vs, _⟩ => (match (vs[2]? : Option Value) with
        | some (.str f _) => decide (f = PySem.Challenge.pw_beatpatches_k68_whole_undone_tried_and_k.main.file)
        | _ => false)
      | _ => false)
    | _ => false))
  | _ => false
def tfs : List He.Defn := [("_law_do", none), ("_law_gone", none), ("_law_is_outside", none), ("_law_block", none), ("_law_right", none)]
/-- the code tables of the makers of lambdas: no two are one -/
def tabsB1 (K : PySem.W.Frag) : Bool := decide ((tfs.map fun p => (He.cT K p).2).Nodup)
def tabsB2 (K : PySem.W.Frag) : Bool := tfs.all fun p => decide (mainGlobals ≠ (He.cT K p).2)
def exs : List (PySem.W.Frag → Bool) := [errB "SameDeal", errB "NothingToUndo", errB "NothingToRedo", errB "NoTrial", propB "first", propB "deal", propB "done", propB "spent", classB, initB,
  fun K => (PySem.W.clsIn K (He.ga K "BeatError")).isSome, tabsB1, tabsB2]
def exAll (K : PySem.W.Frag) : Bool := exs.all fun b => b K
/-! ### the hook -/
abbrev AlB : Type := (He.AlD × FnC) × Bool
/-- the spine of a list first -/
def spine {α β : Type} : List α → (List α → β) → β
  | [], k => k []
  | x :: xs, k => spine xs fun ys => k (x :: ys)
theorem spine_eq {α β : Type} : ∀ (l : List α) (k : List α → β), spine l k = k l
  | [], _ => rfl
  | x :: xs, k => spine_eq xs fun ys => k (x :: ys)
/-- what an object names, as far as the facts look -/
def refsQ (g : Addr → Option Obj) (a : Addr) : List Addr := match g a with
  | some ⟨c, _, d, _⟩ => (match d with
    | .dict es _ => es.toList.flatMap fun e => He.refV e.val
    | .func fd => He.refV fd.code ++ (He.refV fd.kwdefaults ++ fd.closure.map (·.2))
    | .cls cd => [cd.ns]
    | .fields vs => if c == .type "property" then vs.toList.flatMap He.refV else []
    | _ => [])
  | none => []
def asQ (g : Addr → Option Obj) : Nat → List Addr → List Addr
  | 0, l => l
  | n + 1, l => l ++ spine (l.flatMap (refsQ g)) (asQ g n)
def asM (g : Addr → Option Obj) (n : Nat) : List Addr := cStatics :: asQ g n [mainGlobals]
def lookB (g : Addr → Option Obj) (K : PySem.W.Frag) : AlB := ((He5.obsA fas fns K, fnC K), exAll K && He.tabsB g tfs K)
def obsB (n : Nat) (g : Addr → Option Obj) : AlB := spine (asM g n) fun as => spine (He.frT g as) (lookB g)
theorem obsB_look (n : Nat) (g : Addr → Option Obj) : obsB n g = lookB g (He.frT g (asM g n)) := by
  unfold obsB
  rw [spine_eq, spine_eq]
def valB : AlB := ((He5.valA fns, valC), true)
structure SaysB (h : Heap) (K : PySem.W.Frag) : Prop where
  a : He5.SaysA fas fns K
  i : fnC K = valC
  more : exAll K = true
  hd : ∀ p ∈ tfs, PySem.W.codeHdIn K (He.cT K p).1 (He.cT K p).2 = true
  out : ∀ p ∈ tfs, K.lookup (He.cT K p).2 = none
  empty : ∀ p ∈ tfs, h.get? (He.cT K p).2 = some { cls := .none, data := .fields #[] }
theorem saysB_of {n : Nat} {h : Heap} (e : obsB n h.get? = valB) : SaysB h (He.frT h.get? (asM h.get? n)) := by
  rw [obsB_look] at e
  have e1 := congrArg (fun z : AlB => z.1.1) e
  have e2 := congrArg (fun z : AlB => z.1.2) e
  have e3 : (exAll (He.frT h.get? (asM h.get? n)) && He.tabsB h.get? tfs (He.frT h.get? (asM h.get? n))) = true := congrArg (fun z : AlB => z.2) e
  obtain ⟨h1, h2⟩ := Bool.and_eq_true_iff.mp e3
  have tab : ∀ p ∈ tfs, PySem.W.codeHdIn (He.frT h.get? (asM h.get? n)) (He.cT (He.frT h.get? (asM h.get? n)) p).1 (He.cT (He.frT h.get? (asM h.get? n)) p).2 = true ∧
      ∃ o, h.get? (He.cT (He.frT h.get? (asM h.get? n)) p).2 = some o ∧ He.emptyTab o = true := by
    intro p hp
    obtain ⟨t1, t2⟩ := Bool.and_eq_true_iff.mp (List.all_eq_true.mp h2 p hp)
    revert t2
    cases h.get? (He.cT (He.frT h.get? (asM h.get? n)) p).2 with
    | none => exact fun t2 => Bool.noConfusion t2
    | some o => exact fun t2 => ⟨t1, o, rfl, t2⟩
  refine ⟨e1, e2, h1, fun p hp => (tab p hp).1, ?_, ?_⟩
  · intro p hp
    obtain ⟨_, o, q, z⟩ := tab p hp
    exact He.frT_none q z
  · intro p hp
    obtain ⟨_, o, q, z⟩ := tab p hp
    exact q.trans (congrArg some (He.emptyTab_eq z))
def hookB (n : Nat) : PySem.W.Hook where
  α := AlB
  obs := fun s => obsB n s.heap.get?
  val := fun _ => valB
  says := fun _ h => ∃ K : PySem.W.Frag, K.In h ∧ SaysB h K
  of := fun _ _ e => ⟨_, He.frT_in, saysB_of e⟩
  keeps := by
    rintro _ _ _ ⟨K, hK, c⟩ k
    exact ⟨K, hK.keeps k, c.a, c.i, c.more, c.hd, c.out, fun p hp => k _ _ (c.empty p hp)⟩
theorem obsB_eq {n : Nat} {g : Addr → Option Obj} {s : Shared} (h : ∀ a, g a = s.heap.get? a) : obsB n g = (hookB n).obs s := by
  obtain rfl : g = s.heap.get? := funext h
  rfl
end Bp

set_option maxHeartbeats 0
namespace Bp
open PySem PySem.Spec PyProof.Rows L2
abbrev R : PySem.W.OpenRow := PySem.W.OpenLaw.row PySem.Challenge.rw_beatpatches_k68_whole_undone_tried_and_k
def ob (s : PySem.W.SharedT) : AlB := obsB 5 (HandSHeadRun.getT s)
theorem ob_eq (s : PySem.W.SharedT) : ob s = (hookB 5).obs s.abs := obsB_eq (HandSHeadRun.getT_eq s)
theorem run (w : World) : HandSHeadRun.RunEq R (PySem.W.view R.prog [94]) (hookB 5) ob 6000 loose w := by
  intro os
  kernel_rfl
end Bp

set_option maxHeartbeats 4000000
namespace Bp
open PySem PySem.Spec PyProof.Rows L2

/-! ### promises kept where no repr is under way -/
abbrev CXX (P : Program) (w : World) : CXT := L2.CX P w
structure FnG (P : Program) (w : World) (K : PySem.W.Frag) (mg : Str → Option Value) (base : Heap) (k : Nat) (f : Addr) (fd : FuncData) (ps : List Str) (sp : Sp) : Prop where
  len : ∀ vs H Q E, sp vs H Q E → vs.length = ps.length
  run : ∀ (A : Around) (outer : List Env) (s : Shared) (H : Hp) (args : Args) (us : List Value) (vs : List V) (Q : VK) (E : XK), A.guards = some [] → Room k A → Env0 P w K mg base A outer s H →
    BindsTo s fd args (ps.zip us) → Vals vs us → sp vs H Q E → codeAny (model P w) A (.call (.ref f) args) (CR (CXX P w) outer P w H s Q E) s
section
variable {P : Program} {w : World} {K : PySem.W.Frag} {mg : Str → Option Value} {base : Heap} {j k : Nat} {f : Addr} {fd : FuncData} {ps : List Str} {sp sp' : Sp}
theorem FnG.of (F : FnOk P w K mg base (CXX P w) k f fd ps sp) : FnG P w K mg base k f fd ps sp :=
  ⟨F.len, fun A outer s H args us vs Q E _ => F.run A outer s H args us vs Q E⟩
theorem FnG.mono (F : FnG P w K mg base j f fd ps sp) (h : j ≤ k) : FnG P w K mg base k f fd ps sp :=
  ⟨F.len, fun A outer s H args us vs Q E hg hr => F.run A outer s H args us vs Q E hg (hr.mono h)⟩
theorem FnG.imp (F : FnG P w K mg base k f fd ps sp) (h : ∀ vs H Q E, sp' vs H Q E → sp vs H Q E) : FnG P w K mg base k f fd ps sp' :=
  ⟨fun vs H Q E q => F.len vs H Q E (h _ _ _ _ q), fun A outer s H args us vs Q E hg hr e0 hb r q => F.run A outer s H args us vs Q E hg hr e0 hb r (h _ _ _ _ q)⟩
/-- the rule of a def by its body, the body's context known to have no repr under way -/
theorem fnG_of {name qual : Str} {params : Arguments} {body : List Stmt} {scope : Scope} {dV kV doc pm cdv ct oc : Value} {an od : Option Addr} {osl : Array (Option Value)} {N : List Str}
    (lk : K.lookup f = some ⟨oc, od, .func (PySem.W.fnOf name qual params body scope dV kV doc pm an cdv ct), osl⟩) (hcd : PySem.W.codeIn K cdv qual = true) (S : FnScope N ps scope)
    (len : ∀ vs H Q E, sp vs H Q E → vs.length = ps.length)
    (hbody : ∀ (A : Around) (outer : List Env) (s : Shared) (H : Hp) (vs : List V) (Q : VK) (E : XK), A.guards = some [] → Room k (A.deeper (envOfC qual scope s.heap.objs.size f cdv)) → sp vs H Q E →
      ∃ t, PSs (cxOf (CXX P w) P w K mg base N qual scope f cdv A outer s H E) body t ∧ t { nx := fun _ H' => Q .non H', rt := Q } (start N vs) H) :
    FnG P w K mg base (k + 1) f (PySem.W.fnOf name qual params body scope dV kV doc pm an cdv ct) ps sp := by
  refine ⟨len, fun A outer s H args us vs Q E hg hr e0 hb r hsp => ?_⟩
  exact LamX.run_ofS lk hcd S hr e0 hb r (len _ _ _ _ hsp) fun hr' => hbody A outer s H vs Q E hg hr' hsp
end
section
variable {X : Cx} {k : Nat} {f C : Addr} {fd : FuncData} {ps : List Str} {sp : Sp} {dvs : List V} {ds : List Value} {E : XK} {x m : Str} {p pos apos : Pos} {e o : Expr} {es : List Expr} {ta : TE} {t : TA}
theorem run_fnG {pins : List (Addr × Obj)} {σ : L2.St} {H : Hp} {s : Shared} {Q : VK} {us : List Value} {vs : List V} (F : FnG X.prog X.w X.K X.mg X.base k f fd ps sp) (hg : X.A.guards = some []) (hr : Room k X.A)
    (hb : Binds X.K fd ps ds) (hd : Vals dvs ds) (hx : Passes (CXX X.prog X.w) X E) (I : Inv X pins σ H s) (r : Vals vs us) (h : sp (vs ++ dvs) H Q E) :
    wpAny (model X.prog X.w) X.A (call (.ref f) us) (EP X pins σ Q) X.xe s := by
  have r2 := r.append hd
  have hl : (us ++ ds).length = ps.length := r2.length.symm.trans (F.len _ _ _ _ h)
  refine wpAny_call (codeAny_mono (F.run X.A X.stack s H ⟨us, []⟩ (us ++ ds) (vs ++ dvs) Q E hg hr I.env0 (hb s us I.kIn hl) r2 h) ?_)
  intro r s' hq
  rcases r with er | (u | _ | _ | _)
  · exact hx pins σ H s er s' I hq
  all_goals first | exact I.after hq | exact False.elim hq
/-- f(e, ..) -/
theorem pe_callG (F : FnG X.prog X.w X.K X.mg X.base k f fd ps sp) (hg : X.A.guards = some []) (hr : Room k X.A) (gl : Gl X x) (hm : X.mg x = some (.ref f)) (hk : PySem.W.keepIn X.K (.ref f) = true)
    (hb : Binds X.K fd ps ds) (hd : Vals dvs ds) (hx : Passes (CXX X.prog X.w) X E) (ha : PA X (e :: es) t) (hdb : (x == ("__debug__" : Str)) = false := by decide)
    (he : starEach (e :: es) X.env = (false, eval e X.env) :: starEach es X.env := by rfl) (hpl : (backTo pos (starEach es X.env)).any (·.1) = false := by rfl) :
    PE X (.Call (.Name x p) (e :: es) [] pos) (tCall sp dvs E t) := by
  constructor
  intro pins s σ H Q I h
  refine wpAny_Call_Name_kw (ld_glob I gl hm ?_ hdb)
  refine PySem.W.callWith_K (h₀ := X.base) I.ok.mod.kin hk ?_ he hpl
  refine thn (ha.run pos pins s σ H _ I h) ?_
  rintro us s1 ⟨vs, H1, I1, r, q⟩
  exact ⟨I1.kIn, run_fnG F hg hr hb hd hx I1 r q⟩
/-- o.m(e, ..) -/
theorem pe_methG {pl : Sem Bool} (he : PE X o ta) (c : Cls X.K C) (hm : Meth X.K C m f) (F : FnG X.prog X.w X.K X.mg X.base k f fd ps sp) (hg : X.A.guards = some []) (hr : Room k X.A)
    (hb : Binds X.K fd ps ds) (hd : Vals dvs ds) (hx : Passes (CXX X.prog X.w) X E) (ha : PA X (e :: es) t)
    (hst : starEach (e :: es) X.env = (false, eval e X.env) :: starEach es X.env := by rfl) (hpl : (backTo pos (starEach es X.env)).any (·.1) = false := by rfl)
    (ht : eval (.Call (.Attribute o m apos) (e :: es) [] pos) X.env = (eval o X.env >>= fun ov => standAt apos.atName >>= fun _ => holding [ov] (getMethod ov m pl) >>= fun g =>
      callWith pos g.1 g.2 (backTo pos (starEach (e :: es) X.env)) (backToKw pos (keywordEach [] X.env))) := by rfl) :
    PE X (.Call (.Attribute o m apos) (e :: es) [] pos) (tMeth C m sp dvs E ta t) := by
  constructor
  intro pins s σ H Q I h
  refine PySem.W.methodCall_KW (pl := pl) ?_ ht
  refine thn (he.run pins s σ H _ I h) ?_
  rintro u s1 ⟨x, H1, I1, rx, a, dx, fs, rfl, ea, l, q⟩
  obtain rfl : u = Value.ref a := rx
  refine getmeth_ok I1 ea c hm l (PySem.W.callWith_K (first := [.ref a]) (h₀ := X.base) I.ok.mod.kin hm.kp ?_ hst hpl)
  refine thn (ha.run pos pins s1 σ H1 _ I1 q) ?_
  rintro us s2 ⟨vs, H2, I2, r, q2⟩
  exact ⟨I2.kIn, run_fnG (us := .ref a :: us) (vs := .ref a :: vs) F hg hr hb hd hx I2 (.cons rfl r) q2⟩
/-- o.m() -/
theorem pe_methG0 {pl : Sem Bool} (he : PE X o ta) (c : Cls X.K C) (hm : Meth X.K C m f) (F : FnG X.prog X.w X.K X.mg X.base k f fd ps sp) (hg : X.A.guards = some []) (hr : Room k X.A)
    (hb : Binds X.K fd ps ds) (hd : Vals dvs ds) (hx : Passes (CXX X.prog X.w) X E)
    (ht : eval (.Call (.Attribute o m apos) [] [] pos) X.env = (eval o X.env >>= fun ov => standAt apos.atName >>= fun _ => holding [ov] (getMethod ov m pl) >>= fun g =>
      callWith pos g.1 g.2 (backTo pos (starEach [] X.env)) (backToKw pos (keywordEach [] X.env))) := by rfl) :
    PE X (.Call (.Attribute o m apos) [] [] pos) (tMeth C m sp dvs E ta tNil) := by
  constructor
  intro pins s σ H Q I h
  refine PySem.W.methodCall_KW (pl := pl) ?_ ht
  refine thn (he.run pins s σ H _ I h) ?_
  rintro u s1 ⟨x, H1, I1, rx, a, dx, fs, rfl, ea, l, q⟩
  obtain rfl : u = Value.ref a := rx
  refine getmeth_ok I1 ea c hm l ?_
  exact PySem.W.callWith_K0 (first := [.ref a]) I1.kIn hm.kp (run_fnG (us := [.ref a]) (vs := [.ref a]) F hg hr hb hd hx I1 (.cons rfl .nil) q)
end

/-! ### repr of data -/
/-- data that repr shows: Dp, or an empty dict -/
inductive Dr (K : PySem.W.Frag) (H : Hp) : V → PyData → Prop where
  | dp {v : V} {d : PyData} (h : Dp K H v d) (n : d.hasDict = false) : Dr K H v d
  | dict {a : Addr} (h : H a = some (.dK [])) : Dr K H (.ref a) (.dict [])
def rRepr (K : PySem.W.Frag) : List V → Hp → VK → Prop := fun xs H Q => ∃ x d, xs = [x] ∧ Dr K H x d ∧ d.showable = true ∧ d.depth ≤ 40 ∧ d.shown.length ≤ sizeLine ∧ Q (.str d.shown) H
theorem call_repr {X : Cx} (hg : X.A.guards = some []) (hu : X.A.units + 64 < cLine) : CallR X (.builtin "repr") (rRepr X.K) := by
  intro pins s σ H xs us Q I r h
  obtain ⟨x, d, rfl, hd, hs, hdep, hl, q⟩ := h
  obtain ⟨u, rfl, ru⟩ := vals1 r
  cases hd with
  | dp h n =>
    obtain ⟨as, rd⟩ := Dp.reads I d x u h ru
    have fin : ∀ (t : Tok) (tk : Nat), EP X pins σ Q (.str d.shown t) { s with toks := tk } := fun t tk => ⟨.str d.shown, H, I.tok tk, ⟨t, rfl⟩, q⟩
    cases h with
    | non =>
      cases ru
      exact PySem.P.repr_of_none (by simpa [PyData.shown] using fin s.toks (s.toks + 1))
    | bl b =>
      cases ru
      exact PySem.P.repr_of_bool (by simpa [PyData.shown] using fin s.toks (s.toks + 1))
    | int i =>
      obtain ⟨t, rfl⟩ := ru
      exact PySem.P.repr_of_int (by simpa [PyData.showable] using hs) (by simpa [PyData.shown] using fin s.toks (s.toks + 1))
    | str z =>
      obtain ⟨t, rfl⟩ := ru
      exact PySem.P.repr_of_str (by simpa [PyData.shown] using fin s.toks (s.toks + 1)) (by simpa [PyData.shown] using hl)
    | lst h1 h2 =>
      cases ru
      exact PySem.repr_of_reads' rd hs (PySem.PyData.noDict_hsm n) hg (by omega) (fun _ _ e => e) (fun h' t tk k => ⟨.str _, H, I.kept (t' := tk) k, ⟨t, rfl⟩, q⟩) hl
    | tup h1 h2 =>
      cases ru
      exact PySem.repr_of_reads' rd hs (PySem.PyData.noDict_hsm n) hg (by omega) (fun _ _ e => e) (fun h' t tk k => ⟨.str _, H, I.kept (t' := tk) k, ⟨t, rfl⟩, q⟩) hl
  | @dict a h =>
    cases ru
    obtain ⟨_, hne, vs, kv, o, es, ep, e1, e2, e3⟩ := I.hok a _ h
    cases kv
    have hes : es.toList = [] := by
      have z := e3.2.2.1
      generalize es.toList = l at z
      cases z
      rfl
    have rd : Reads s.heap (.ref a) (.dict []) (a :: [] ++ []) := .dict e1 e2.1 e3.1 (by rw [hes]; exact .nil) (by rw [hes]; exact .nil)
    refine PySem.repr_of_reads' rd hs (fun _ hm => ?_) hg (by omega) (fun _ _ e => e) (fun h' t tk k => ⟨.str _, H, I.kept (t' := tk) k, ⟨t, rfl⟩, q⟩) hl
    have e : sysModules = a := by simpa using hm
    rw [e] at hne
    simp at hne
end Bp

namespace Bp
open PySem PySem.Spec PyProof.Rows L2

/-! ### a def called while an exception is handled (nothing of it is asked) -/
structure RoomX (k : Nat) (A : Around) : Prop where
  dp : A.depth + 3 * k + 5 < recursionLimit
  un : A.units + 16 * k + 200 < cLine
theorem RoomX.of {k : Nat} {A : Around} (r : Room k A) : RoomX k A := ⟨r.dp, r.un⟩
theorem RoomX.mono {j k : Nat} {A : Around} (r : RoomX k A) (h : j ≤ k) : RoomX j A := by
  obtain ⟨h1, h2⟩ := r
  constructor <;> omega
/-- the context with another around, where nothing is told of a handled exception -/
abbrev hotX (X : Cx) (A : Around) (E : Value → Shared → Prop) : Cx := { X with A := A, calm := false, xe := E }
theorem inv_hot {X : Cx} {pins : List (Addr × Obj)} {σ : L2.St} {H : Hp} {s : Shared} (I : Inv X pins σ H s) {A : Around} (hf : A.frames = some X.stack) (E : Value → Shared → Prop) : Inv (hotX X A E) pins σ H s := by
  have ok := I.ok
  have ok' : (hotX X A E).Ok := { ok with hd := fun z => absurd z Bool.false_ne_true, frames := hf }
  exact { I with ok := ok' }
structure FnX (P : Program) (w : World) (K : PySem.W.Frag) (mg : Str → Option Value) (base : Heap) (k : Nat) (f : Addr) (fd : FuncData) (ps : List Str) (sp : List V → Hp → VK → Prop) : Prop where
  len : ∀ vs H Q, sp vs H Q → vs.length = ps.length
  run : ∀ (A : Around) (outer : List Env) (s : Shared) (H : Hp) (args : Args) (us : List Value) (vs : List V) (Q : VK), RoomX k A → Env0 P w K mg base A outer s H →
    BindsTo s fd args (ps.zip us) → Vals vs us → sp vs H Q → codeAny (model P w) A (.call (.ref f) args) (CR CX0 outer P w H s Q E0) s
theorem fnX_of {P : Program} {w : World} {K : PySem.W.Frag} {mg : Str → Option Value} {base : Heap} {k : Nat} {f : Addr} {ps : List Str} {sp : List V → Hp → VK → Prop}
    {name qual : Str} {params : Arguments} {body : List Stmt} {scope : Scope} {dV kV doc pm cdv ct oc : Value} {an od : Option Addr} {osl : Array (Option Value)} {N : List Str}
    (lk : K.lookup f = some ⟨oc, od, .func (PySem.W.fnOf name qual params body scope dV kV doc pm an cdv ct), osl⟩) (hcd : PySem.W.codeIn K cdv qual = true) (S : FnScope N ps scope)
    (len : ∀ vs H Q, sp vs H Q → vs.length = ps.length)
    (hbody : ∀ (A : Around) (outer : List Env) (s : Shared) (H : Hp) (vs : List V) (Q : VK), sp vs H Q →
      ∃ t, PSs (hotX (cxOf CX0 P w K mg base N qual scope f cdv A outer s H E0) (A.deeper (envOfC qual scope s.heap.objs.size f cdv)) (fun _ _ => False)) body t ∧ t { nx := fun _ H' => Q .non H', rt := Q } (start N vs) H) :
    FnX P w K mg base (k + 1) f (PySem.W.fnOf name qual params body scope dV kV doc pm an cdv ct) ps sp := by
  refine ⟨len, fun A outer s H args us vs Q hr e0 hb r hsp => ?_⟩
  have hl := len _ _ _ hsp
  have KX : K.In s.heap := e0.mod.kin.keeps fun b o e => (e0.bs b o e).1
  have lim : s.heap.NoLimit := e0.mod.nolimit.keeps fun b o e => (e0.bs b o e).1
  have kinds : ∀ y ∈ ps.zip us, scope.names.lookup y.1 = some .local ∨ (scope.names.lookup y.1 = some .cell ∧ ((cellsFrom (s.heap.objs.size + 1) scope.names []).lookup y.1).isSome = true) := by
    rintro ⟨n, v⟩ hy
    exact (S.par n (List.of_mem_zip hy).1).imp id fun q => ⟨q, PySem.W.cellsFrom_some _ _ _ (.inl q)⟩
  refine codeAny_call_function (by have := hr.dp; omega) (KX _ _ lk) rfl S.co S.gen rfl (PySem.W.codeRec_of KX hcd) (hb _ _ _ _ ?_)
  refine wpAny_newFunctionEnv_cells S.kind kinds fun env he s1 x => ?_
  subst he
  refine ⟨lim.keeps x.toInCall.keep, codeAny_func ?_⟩
  obtain ⟨t, ht, hq⟩ := hbody A outer s H vs Q hsp
  have e1 : Env0 P w K mg base { A with handled := none } outer s H := { e0 with frames := e0.frames }
  have I0 : Inv (cxOf CX0 P w K mg base N qual scope f cdv { A with handled := none } outer s H E0) [] (start N vs) H s1 := inv_start S rfl e1 hl r x
  have I : Inv (hotX (cxOf CX0 P w K mg base N qual scope f cdv A outer s H E0) (A.deeper (envOfC qual scope s.heap.objs.size f cdv)) (fun _ _ => False)) [] (start N vs) H s1 :=
    inv_hot I0 (Around.frames_deeper e0.frames) _
  refine wpAny_mono (ht.run [] s1 (start N vs) H _ I hq) ?_ fun _ _ z => z.elim
  intro fl s' hs
  rcases fl with _ | _ | _ | u
  · obtain ⟨σ', H', J, q⟩ := hs
    exact ⟨V.non, H', J.os, J.bare, J.base, J.hok, rfl, q⟩
  · obtain ⟨_, _, _, q⟩ := hs
    exact False.elim q
  · obtain ⟨_, _, _, q⟩ := hs
    exact False.elim q
  · obtain ⟨v, σ', H', J, rv, q⟩ := hs
    exact ⟨v, H', J.os, J.bare, J.base, J.hok, rv, q⟩

/-! ### an exception in the air, a call ahead of its going on -/
section
variable {X : Cx} {pins : List (Addr × Obj)} {σ : L2.St} {H : Hp} {sI s : Shared} {B : Heap} {a : Addr} {cls : Value} {d : Option Addr} {l : List Env}
/-- what stands of the exception in the heap h -/
structure Fly (X : Cx) (pins : List (Addr × Obj)) (σ : L2.St) (H : Hp) (a : Addr) (cls : Value) (d : Option Addr) (s : Shared) : Prop where
  ex : ∃ (B : Heap) (sI : Shared), Inv X pins σ H sI ∧ (∀ b o, sI.heap.get? b = some o → b ∉ frs X.stack → B.get? b = some o) ∧ sI.heap.UpToSlots s.heap ∧
    HandSPX.FlyingZ B X.stack a (Zc cls d) s.heap ∧ H a = none ∧ s.os = sI.os ∧ AllBare s.gens
theorem not_fr {h base : Heap} {l : List Env} {b : Addr} {o : Obj} {vs : Array Value} (ff : h.FunFrames base l) (e : h.get? b = some o) (dd : o.data = .fields vs) : b ∉ frs l := by
  intro hm
  obtain ⟨_, o', e', hnf⟩ := ff.mem hm
  rw [e] at e'
  cases e'
  exact hnf _ dd
theorem Fly.inv (F : Fly X pins σ H a cls d s) : Inv X pins σ H s := by
  obtain ⟨B, sI, J, nb, up, fl, na, os, ag⟩ := F.ex
  exact J.landed nb fl.1 up os ag
/-- a call that returns leaves it in the air -/
theorem Fly.call {Q : VK} {u : Value} {s2 : Shared} (F : Fly X pins σ H a cls d s) (c : CE X.stack X.prog X.w H s Q u s2) : ∃ v H2, RelV v u ∧ Q v H2 ∧ Fly X pins σ H2 a cls d s2 := by
  obtain ⟨B, sI, J, nb, up, fl, na, os, ag⟩ := F.ex
  obtain ⟨v, H2, os2, bare2, un, hok2, rv, q⟩ := c
  refine ⟨v, H2, rv, q, ⟨?_⟩⟩
  obtain ⟨stB, nBa, ffB, oe, vs, T, oT, ts, he, hz, hd, h1, hnT, hTa, hT, hdT, h3⟩ := id fl
  -- what is not of the state without the exception
  obtain ⟨G, g1, g2⟩ := restrict s2.heap fun b => (sI.heap.get? b).isSome || (s.heap.get? b).isNone
  have inG : ∀ b o, sI.heap.get? b = some o → G.get? b = s2.heap.get? b := fun b o e => g1 b (by simp [e])
  have gsub : ∀ b o, G.get? b = some o → s2.heap.get? b = some o ∧ ((sI.heap.get? b).isSome = true ∨ s.heap.get? b = none) := by
    intro b o e
    cases q : ((sI.heap.get? b).isSome || (s.heap.get? b).isNone) with
    | false => rw [g2 b q] at e; cases e
    | true =>
      rw [g1 b q] at e
      refine ⟨e, ?_⟩
      rcases Bool.or_eq_true_iff.mp q with z | z
      · exact .inl z
      · exact .inr (by simpa using z)
  have frN : ∀ b ∈ frs X.stack, H b = none := J.stkFree
  have keepS : ∀ b o, sI.heap.get? b = some o → b ∉ frs X.stack → s.heap.get? b = some o := fun b o e hb => stB b o (nb b o e hb)
  have slotS : ∀ b o, sI.heap.get? b = some o → b ∈ frs X.stack → ∃ sl, s.heap.get? b = some { o with slots := sl } := by
    intro b o e hb
    obtain ⟨_, o', e', hnf⟩ := J.stack.mem hb
    rw [e] at e'
    cases e'
    exact up b o e hnf
  have thereS : ∀ b o, sI.heap.get? b = some o → ∃ sl, s.heap.get? b = some { o with slots := sl } := by
    intro b o e
    by_cases hb : b ∈ frs X.stack
    · exact slotS b o e hb
    · exact ⟨o.slots, keepS b o e hb⟩
  have fresh : ∀ b, sI.heap.get? b = none → H b = none := fun b e => J.hok.gone e
  have aI : sI.heap.get? a = none := by
    cases e : sI.heap.get? a with
    | none => rfl
    | some o =>
      have z := nb a o e (not_fr ffB he hd)
      rw [nBa] at z
      cases z
  have TI : sI.heap.get? T = none := by
    cases e : sI.heap.get? T with
    | none => rfl
    | some o =>
      have z := nb T o e (not_fr ffB hT hdT)
      rw [hnT] at z
      cases z
  have gone : ∀ b o, s.heap.get? b = some o → sI.heap.get? b = none → G.get? b = none := by
    intro b o e1 e2
    exact g2 b (by simp [e1, e2])
  have trk : ∀ b o, H2 b = some o → G.get? b = s2.heap.get? b := by
    intro b o e
    refine g1 b ?_
    cases q : sI.heap.get? b with
    | some o' => simp
    | none =>
      cases r : s.heap.get? b with
      | none => simp
      | some o' =>
        have z := un.free b o' r (fresh b q) (by simp)
        rw [e] at z
        cases z
  have U : Un (frs X.stack) [] H H2 sI.heap G := {
    keep := fun b o e n hb hx => by
      rw [inG b o e]
      exact un.keep b o (keepS b o e hb) n hb hx
    slot := fun b o e n hb hx => by
      obtain ⟨sl, e1⟩ := slotS b o e hb
      obtain ⟨sl2, e2⟩ := un.slot b _ e1 n hb hx
      exact ⟨sl2, by rw [inG b o e]; exact e2⟩
    free := fun b o e n hx => by
      obtain ⟨sl, e1⟩ := thereS b o e
      exact un.free b _ e1 n hx
    there := fun b o e hx => by
      obtain ⟨sl, e1⟩ := thereS b o e
      obtain ⟨o', e2⟩ := un.there b _ e1 hx
      exact ⟨o', by rw [inG b o e]; exact e2⟩
    tups := un.tups
    frzs := un.frzs
    tbls := un.tbls }
  have hokG : HOk X.prog X.w H2 G := fun b o e => (hok2 b o e).stay (fun c v hc z => by
      rcases hc with hc | hc
      · rw [hc] at z ⊢
        rw [trk b o e]
        exact z
      · rw [trk c _ hc]
        exact z) (fun _ z => z) fun _ _ z => z
  have J2 : Inv X pins σ H2 { s2 with heap := G } := J.call' (s' := { s2 with heap := G }) (ch := []) (os2.trans os) U hokG bare2 (fun b z => absurd z (by simp))
  refine ⟨PySem.W.hideAll G (frs X.stack), { s2 with heap := G }, J2, fun b o e hb => PySem.W.hideAll_get _ e hb, Heap.UpToSlots.of_keeps fun b o e => (gsub b o e).1, ?_, ?_, rfl, bare2⟩
  · refine ⟨fun b o e => (gsub b o (PySem.W.of_hideAll _ e)).1, ?_, ?_, oe, vs, T, oT, ts, un.keep a oe he na (not_fr ffB he hd) (by simp), hz, hd, h1, ?_, hTa, un.keep T oT hT (fresh T TI) (not_fr ffB hT hdT) (by simp), hdT, h3⟩
    · cases q : (PySem.W.hideAll G (frs X.stack)).get? a with
      | none => rfl
      | some o =>
        have z := PySem.W.of_hideAll _ q
        rw [gone a oe he aI] at z
        cases z
    · refine Heap.FunFrames.of_keeps (fun b o e _ => ⟨o, (gsub b o e).1, rfl⟩) (funFrames_none (h := G) (base := X.base) J2.stack fun b hb => PySem.W.hideAll_none _ hb)
    · cases q : (PySem.W.hideAll G (frs X.stack)).get? T with
      | none => rfl
      | some o =>
        have z := PySem.W.of_hideAll _ q
        rw [gone T oT hT TI] at z
        cases z
  · exact un.free a oe he na (by simp)
/-- it goes on from this frame's hand -/
theorem Fly.on {W : WX} {α : Type} {Q : α → Shared → Prop} {what : String} (F : Fly X pins σ H a cls d s) (hs : X.stack = X.env :: X.outer) (hf : X.env.frame = some X.env.locals) (tk : Takes X W) (w : W cls d σ H) :
    wpAny (model X.prog X.w) X.A (passOn what (.ref a) X.env : Sem α) Q X.xe s := by
  obtain ⟨B, sI, J, nb, up, fl, na, os, ag⟩ := F.ex
  obtain ⟨k1, k2, k3, oe, vs, T, oT, ts', he, hz, hd, h1, hr⟩ := id fl
  unfold PySem.passOn
  refine wpAny_bind (wpAny_field he hd h1 ?_)
  rw [if_neg (show ¬ ((Value.ref T == Value.none) = true) from by simp)]
  have fin : wpAny (model X.prog X.w) X.A (setFlight (.ref a) X.env.frame) (fun _ s4 => wpAny (model X.prog X.w) X.A (throw (.ref a) : Sem α) Q X.xe s4) X.xe s := by
    rw [hf]
    rw [hs] at fl
    refine HandSPX.setFlight_upZ fl fun h4 hh4 up4 => wpAny_throw (tk _ _ ?_)
    exact ⟨a, B, sI, pins, σ, H, cls, d, rfl, J, nb, up.trans up4, .inr (.inr (by rw [hs]; exact hh4)), na, os, ag, w⟩
  first
    | exact wpAny_bind (wpAny_pure (wpAny_bind fin))
    | exact wpAny_bind fin
/-- the traceback that a with statement hands its exit -/
theorem Fly.traceback {Q : Value → Shared → Prop} {E : Value → Shared → Prop} {A : Around} (F : Fly X pins σ H a cls d s) (h : ∀ u v, RelV v u → Q u s) : wpAny (model X.prog X.w) A (tracebackOf (.ref a)) Q E s := by
  obtain ⟨B, sI, J, nb, up, fl, na, os, ag⟩ := F.ex
  obtain ⟨k1, k2, k3, oe, vs, T, oT, ts', he, hz, hd, h1, hnT, hTa, hT, hdT, h3⟩ := id fl
  have hsz : 1 < ts'.size := by
    have := (Array.getElem?_eq_some_iff.mp h3).1
    omega
  unfold tracebackOf
  refine wpAny_bind (wpAny_field he hd h1 ?_)
  show wpAny _ _ (field (.ref T) 1 >>= _) _ _ _
  refine wpAny_bind (wpAny_field hT hdT (Array.getElem?_eq_getElem hsz) ?_)
  split
  · exact wpAny_pure (h .none .non rfl)
  · exact wpAny_pure (h (.ref T) (.ref T) rfl)
end
end Bp

namespace Bp
open PySem PySem.Spec PyProof.Rows L2

/-! ### with o: body, o of an own class -/
/-- what is wished of an exception of the body -/
def wWith (a : Addr) (spH : List V → Hp → VK → Prop) (Wout : WX) : WX := fun cls d σ H =>
  ∃ C, cls = .ref C ∧ ∀ (e : Addr) (tb : V), H e = none → spH [.ref a, .ref C, .ref e, tb] H fun v H' => v = .non ∧ Wout cls d σ H'
/-- the ends of the body: the exit's promise, then the with's own ends -/
def dWith (a : Addr) (spX : Sp) (D : Ends) : Ends where
  nx := fun σ H => spX [.ref a, .non, .non, .non] H (fun _ H' => D.nx σ H') E0
  rt := fun v H => spX [.ref a, .non, .non, .non] H (fun _ H' => D.rt v H') E0
def tWith (C : Addr) (spE spX : Sp) (spH : List V → Hp → VK → Prop) (Wout : WX) (te : TE) (tb : WX → TS) : TS := fun D σ H =>
  te σ H fun x H1 => ∃ a dx fs, x = .ref a ∧ H1 a = some (.ins C dx fs) ∧ spE [.ref a] H1 (fun _ H2 => tb (wWith a spH Wout) (dWith a spX D) σ H2) E0
section
variable {X : Cx} {C fe fx : Addr} {ke kx kh : Nat} {fdE fdX : FuncData} {pE pX : List Str} {spE spX : Sp} {spH : List V → Hp → VK → Prop} {Wout : WX} {ctx : Expr} {body : List Stmt} {pos : Pos} {te : TE} {tb : WX → TS}
theorem ps_with (hs : X.stack = X.env :: X.outer) (hf : X.env.frame = some X.env.locals) (c : Cls X.K C) (mE : Meth X.K C "__enter__" fe) (mX : Meth X.K C "__exit__" fx)
    (FE : FnG X.prog X.w X.K X.mg X.base ke fe fdE pE spE) (FX : FnG X.prog X.w X.K X.mg X.base kx fx fdX pX spX) (FH : FnX X.prog X.w X.K X.mg X.base kh fx fdX pX spH)
    (bE : Binds X.K fdE pE []) (bX : Binds X.K fdX pX []) (hg : X.A.guards = some []) (re : Room ke X.A) (rx : Room kx X.A) (rh : Room kh X.A) (tk : Takes X Wout) (hc : PE X ctx te)
    (hb : ∀ (W : WX) (pn : List (Addr × Obj)) (xe : Value → Shared → Prop), Takes (X.tr pn xe) W → PSs (X.tr pn xe) body (tb W)) :
    PS X (.With [⟨ctx, none⟩] body pos) (tWith C spE spX spH Wout te tb) := by
  constructor
  intro pins s σ H D I h
  have ok := I.ok
  have hfr : X.A.frames = some (X.env :: X.outer) := by rw [ok.frames, hs]
  refine PySem.W.kw_exec0 ?_
  refine thn (hc.run pins s σ H _ I h) ?_
  rintro v s1 ⟨x, H1, I1, rv, a, dx, fs, rfl, ea, q⟩
  obtain rfl : v = Value.ref a := rv
  unfold PySem.W.KwIn
  obtain ⟨mA, O, _⟩ := ins_get I1.hok ea
  obtain ⟨od, J, _⟩ := O.look
  have X1 := I1.kIn
  have inv1 := I1
  obtain ⟨cd, hcd, ae⟩ := PySem.W.kw_along mE.at_
  obtain ⟨cd', hcd', ax⟩ := PySem.W.kw_along mX.at_
  cases hcd.symm.trans hcd'
  obtain ⟨hh, g, d, tt, os⟩ := s1
  have Lo1 : PySem.W.Looks (model X.prog X.w) hh (specialOnItsLine (.ref a) "__enter__") (some (.ref fe), cd.mro) := PySem.W.kw_special X1 J hcd ae
  have Lo2 : PySem.W.Looks (model X.prog X.w) hh (specialOnItsLine (.ref a) "__exit__") (some (.ref fx), cd.mro) := PySem.W.kw_special X1 J hcd ax
  have Lo3 : PySem.W.Looks (model X.prog X.w) hh (bindSpecial (.ref fe) (.ref a)) (.ref fe, [.ref a]) := PySem.W.bind_fn X1 _ (beq_iff_eq.mp mE.fn)
  have Lo4 : PySem.W.Looks (model X.prog X.w) hh (bindSpecial (.ref fx) (.ref a)) (.ref fx, [.ref a]) := PySem.W.bind_fn X1 _ (beq_iff_eq.mp mX.fn)
  have Lo5 : PySem.W.Looks (model X.prog X.w) hh (aMethodOfAnotherBuiltinTypeStops (.ref fe) cd.mro) () := PySem.W.Looks.of_pure rfl
  have Lo6 : PySem.W.Looks (model X.prog X.w) hh (aMethodOfAnotherBuiltinTypeStops (.ref fx) cd.mro) () := PySem.W.Looks.of_pure rfl
  -- the exit, called behind a body that ended
  have exitN : ∀ {σ' : L2.St} {H3 : Hp} {s3 : Shared} {R : Hp → Prop}, Inv X pins σ' H3 s3 → spX [.ref a, .non, .non, .non] H3 (fun _ H' => R H') E0 → ∀ (Q2 : Value → Shared → Prop), (∀ u s4 H4, Inv X pins σ' H4 s4 → R H4 → Q2 u s4) →
      wpAny (model X.prog X.w) X.A (call (.ref fx) [.ref a, .none, .none, .none]) Q2 X.xe s3 := by
    intro σ' H3 s3 R I3 q3 Q2 k
    refine thn (run_fnG (us := [.ref a, .none, .none, .none]) (vs := [.ref a, .non, .non, .non]) FX hg rx bX .nil passL I3 (.cons rfl (.cons rfl (.cons rfl (.cons rfl .nil)))) q3) ?_
    rintro u s4 ⟨v4, H4, I4, _, q4⟩
    exact k u s4 H4 I4 q4
  unfold withItem
  refine wpAny_bind (wpAny_pure ?_)
  refine wpAny_bind (wpAny_standAt ?_)
  simp only [Bool.false_eq_true, if_false]
  kw_lk
  refine thn (run_fnG (us := [.ref a]) (vs := [.ref a]) FE hg re bE .nil passL inv1 (.cons rfl .nil) q) ?_
  rintro v2 s2 ⟨x2, H2, I2, _, q2⟩
  kw_lk
  refine wpAny_attempt (PySem.W.kw_held ?_)
  show wpAny _ _ (execs body X.env) _ _ _
  refine wpAny_mono ((hb (wWith a spH Wout) (X.pn ++ pins) _ ?tk).run [] s2 σ H2 (dWith a spX D) (I2.toTry _) q2) ?ok (fun e s' he => he)
  case ok =>
    intro f s4 hsp
    rcases f with _ | _ | _ | u
    · obtain ⟨σ', H', J', q'⟩ := hsp
      kw_lk
      refine exitN (J'.ofTry ok) q' _ ?_
      intro u5 s5 H5 I5 q5
      kw_lk
      exact ⟨σ', H5, I5, q5⟩
    · obtain ⟨_, _, _, q'⟩ := hsp
      exact False.elim q'
    · obtain ⟨_, _, _, q'⟩ := hsp
      exact False.elim q'
    · obtain ⟨v', σ', H', J', rv', q'⟩ := hsp
      kw_lk
      refine exitN (J'.ofTry ok) q' _ ?_
      intro u5 s5 H5 I5 q5
      kw_lk
      exact ⟨v', σ', H5, I5, rv', q5⟩
  case tk =>
    rintro u s' ⟨e, B, sI, pins', σ', H', cls, d', rfl, J', nb, up, sky, na, os', ag, Ce, rfl, w⟩
    have Jb : Inv X pins σ' H' sI := J'.ofTry ok
    have sky' : Sky B (X.env :: X.outer) e (Zc (.ref Ce) d') X.env.locals s'.heap := by rw [← hs]; exact sky
    show wpAny (model X.prog X.w) X.A (noteFrame (.ref e) X.env >>= fun _ => setFlight (.ref e) none >>= fun _ => _) _ X.xe s'
    refine wpAny_bind (wpAny_mono (Sky.land (E₁ := X.xe) Zc.steady hfr hf sky' fun h3 fl3 up3 => ?fly) (fun _ s5 h5 => wpAny_bind h5) fun _ _ z => z)
    have F3 : Fly X pins σ' H' e (.ref Ce) d' { s' with heap := h3 } := ⟨B, sI, Jb, nb, up.trans up3, by rw [hs]; exact fl3, na, os', ag⟩
    refine wpAny_bind (wpAny_standAt ?_)
    refine wpAny_holding ?_
    obtain ⟨oe3, vs3, he3, hz3, hd3⟩ := fl3.there
    have hty : ∀ {Q : Value → Shared → Prop}, Q (.ref Ce) { s' with heap := h3 } → wpAny (model X.prog X.w) X.A (typeOf (.ref e)) Q X.xe { s' with heap := h3 } := fun {Q} q => wpAny_typeOf_ref he3 (by rw [hz3.1]; exact q)
    refine wpAny_bind (hty ?_)
    refine wpAny_bind (F3.traceback ?_)
    intro ut vt rt
    have e5 : Env0 X.prog X.w X.K X.mg X.base (X.A.mark (some (.ref e))) X.stack { s' with heap := h3 } H' := { F3.inv.env0 with frames := F3.inv.env0.frames }
    have K5 := F3.inv.kIn
    have w5 := w e vt na
    have b5 := bX { s' with heap := h3 } [.ref a, .ref Ce, .ref e, ut] K5 (by simpa using FH.len _ _ _ w5)
    rw [List.append_nil] at b5
    have rv5 : Vals [V.ref a, V.ref Ce, V.ref e, vt] [Value.ref a, .ref Ce, .ref e, ut] := .cons rfl (.cons rfl (.cons rfl (.cons rt .nil)))
    have run5 := FH.run (X.A.mark (some (.ref e))) X.stack { s' with heap := h3 } H' ⟨[.ref a, .ref Ce, .ref e, ut], []⟩ [.ref a, .ref Ce, .ref e, ut] _ _ (RoomX.mk rh.dp rh.un) e5 b5 rv5 w5
    unfold withItem.marked
    refine wpAny_bind (wpAny_bind (wpAny_run (codeAny_mono run5 ?_) (by intro z; cases z)))
    intro r6 s6 h6
    rcases r6 with er | (_ | _ | _ | u6)
    · exact False.elim h6
    · exact False.elim h6
    · exact False.elim h6
    · exact False.elim h6
    · obtain ⟨v6, H6, rv6, ⟨rfl, w6⟩, F6⟩ := F3.call (Q := fun v H' => v = .non ∧ Wout (.ref Ce) d' σ' H') h6
      obtain rfl : u6 = Value.none := rv6
      refine wpAny_pure (wpAny_bind (wpAny_pure ?_))
      refine wpAny_bind (wpAny_pure ?_)
      rw [if_neg Bool.false_ne_true]
      exact F6.on hs hf tk w6
end
end Bp

namespace Bp
open PySem PySem.Spec PyProof.Rows L2

/-! ### a caught exception, held as a value -/
/-- at a: an exception of the class cls, its own dict at d -/
def ErO (a : Addr) (cls : Value) (d : Option Addr) : HO := .ext fun h => ∃ (oe : Obj) (vs : Array Value), h.get? a = some oe ∧ Zc cls d oe ∧ oe.data = .fields vs
theorem erO_ok {P : Program} {w : World} {H : Hp} {h : Heap} {a : Addr} {cls : Value} {d : Option Addr} {oe : Obj} {vs : Array Value} (e : h.get? a = some oe) (z : Zc cls d oe) (dd : oe.data = .fields vs) : ObjOk P w H h a (ErO a cls d) := by
  refine ⟨⟨oe, vs, e, z, dd⟩, ⟨oe, e⟩, ?_⟩
  rintro h1 h2 ⟨o, v, q, r⟩ k
  exact ⟨o, v, k o q, r⟩
theorem erO_at {P : Program} {w : World} {H : Hp} {h : Heap} {a : Addr} {cls : Value} {d : Option Addr} (hok : HOk P w H h) (e : H a = some (ErO a cls d)) : ∃ (oe : Obj) (vs : Array Value), h.get? a = some oe ∧ Zc cls d oe ∧ oe.data = .fields vs :=
  (hok a _ e).1
section
variable {X : Cx} {pins : List (Addr × Obj)} {σ : L2.St} {H : Hp} {s : Shared}
/-- an object of ours that was made behind the entry is tracked from now on -/
theorem inv_track {a : Addr} {o : HO} {oe : Obj} {vs : Array Value} (I : Inv X pins σ H s) (e : s.heap.get? a = some oe) (hd : oe.data = .fields vs) (na : H a = none) (n0 : X.s_0.heap.get? a = none) (nL : a ≠ X.env.locals)
    (np : ∀ p ∈ X.pn ++ pins, p.1 ≠ a) (new : ObjOk X.prog X.w (upd H a o) s.heap a o) : Inv X pins σ (upd H a o) s := by
  have ne0 : ∀ b u, X.s_0.heap.get? b = some u → b ≠ a := fun b u z y => by
    rw [y, n0] at z
    cases z
  have nc : ∀ x c, X.env.cells.lookup x = some c → c ≠ a := fun x c z y => by
    obtain ⟨v, ob, h1, h2⟩ := I.cell x c z
    rw [y, e] at h1
    cases h1
    rw [hd] at h2
    cases h2
  refine { I with base := ?_, free := ?_, freeC := ?_, pin := ?_, hok := ?_ }
  · exact {
      keep := I.base.keep
      slot := I.base.slot
      free := fun b u z n hx => by
        rw [upd_ne (ne0 b u z)]
        exact I.base.free b u z n hx
      there := I.base.there
      tups := fun b xs z => by
        have y := I.base.tups b xs z
        rw [upd_ne (ne_of_none y na)]
        exact y
      frzs := fun b u xs z => by
        have y := I.base.frzs b u xs z
        rw [upd_ne (ne_of_none y na)]
        exact y
      tbls := fun b ps z => by
        obtain ⟨m, y⟩ := I.base.tbls b ps z
        exact ⟨m, by rw [upd_ne (ne_of_none y na)]; exact y⟩ }
  · rw [upd_ne nL.symm]
    exact I.free
  · intro x c z
    rw [upd_ne (nc x c z)]
    exact I.freeC x c z
  · intro p hp
    obtain ⟨h1, h2, h3⟩ := I.pin p hp
    exact ⟨h1, by rw [upd_ne (np p hp)]; exact h2, h3⟩
  · intro b u z
    by_cases hb : b = a
    · subst hb
      rw [upd_same] at z
      cases z
      exact new
    · rw [upd_ne hb] at z
      exact (I.hok b u z).stay (fun _ _ _ y => y) (fun c y => by rw [upd_ne (ne_of_none y na)]; exact y) fun c xs y => by rw [upd_ne (ne_of_none y na)]; exact y
end

/-! ### try: body, except x as n: y = n -/
/-- the wish: slot i is n's, slot j is y's -/
def wKeep (K : PySem.W.Frag) (c : Value) (i j : Nat) (Wout : WX) (D : Ends) : WX := fun cls d σ H =>
  ∃ b, PySem.W.exmOne K cls c = some b ∧ (b = true → ∀ a, H a = none → D.nx (((σ.set i (some (.ref a))).set j (some (.ref a))).set i none) (upd H a (ErO a cls d))) ∧ (b = false → Wout cls d σ H)
section
variable {X : Cx} {x n y : Str} {c : Value} {i j : Nat} {body : List Stmt} {np np2 py pa pos pos' : Pos} {tb : WX → TS} {Wout : WX}
theorem ps_try_keep (hs : X.stack = X.env :: X.outer) (hf : X.env.frame = some X.env.locals) (hex : X.ex = []) (hN : X.N.Nodup) (hi : X.N[i]? = some n) (hj : X.N[j]? = some y) (hij : i ≠ j) (hln : X.env.kindOf n = some .local) (hly : X.env.kindOf y = some .local)
    (hc : Names X x c) (tk : Takes X Wout) (hdn : (n == ("__debug__" : Str)) = false := by decide) (hcn : (n == ("__classdict__" : Str)) = false := by decide)
    (hb : ∀ (W : WX) (pn : List (Addr × Obj)) (xe : Value → Shared → Prop), Takes (X.tr pn xe) W → PassesOwn (model X.prog X.w) X.A X.env xe → PSs (X.tr pn xe) body (tb W))
    (hsw : ∀ (a : Addr) (pn : List (Addr × Obj)), swapsWith (.Name n np2) (some (.Name y py)) pa.line (X.suite a pn).env = pure false := by intro _ _; rfl) :
    PS X (.Try body [.ExceptHandler (some (.Name x np)) (some n) [.Assign [.Name y py] (.Name n np2) pa] pos'] [] [] pos) (fun D σ H => tb (wKeep X.K c i j Wout D) D σ H) := by
  constructor
  intro pins s σ H D I h
  have ok := I.ok
  have hfr : X.A.frames = some (X.env :: X.outer) := by rw [ok.frames, hs]
  refine wpAny_Try_except ?_
  refine wpAny_mono ((hb (wKeep X.K c i j Wout D) (X.pn ++ pins) (fun e s₁ => wpAny (model X.prog X.w) X.A (noteFrame e X.env) (fun _ s₂ => wpAny (model X.prog X.w) X.A (setFlight e none) (fun _ s₃ =>
    wpAny (model X.prog X.w) X.A (handleBy e X.env [.ExceptHandler (some (.Name x np)) (some n) [.Assign [.Name y py] (.Name n np2) pa] pos']) (SP X pins D) X.xe s₃) X.xe s₂) X.xe s₁) ?tk PassesOwn.looking).run [] s σ H D (I.toTry _) h) ?ok (fun e s1 he => he)
  case ok =>
    intro f s1 hsp
    rcases f with _ | _ | _ | u
    · obtain ⟨σ', H', J', q⟩ := hsp
      exact wpAny_execs_nil ⟨σ', H', J'.ofTry ok, q⟩
    · obtain ⟨σ', H', J', q⟩ := hsp
      exact ⟨σ', H', J'.ofTry ok, q⟩
    · obtain ⟨σ', H', J', q⟩ := hsp
      exact ⟨σ', H', J'.ofTry ok, q⟩
    · obtain ⟨v, σ', H', J', r, q⟩ := hsp
      exact ⟨v, σ', H', J'.ofTry ok, r, q⟩
  case tk =>
    rintro u s' ⟨a, B, sI, pins', σ', H', cls, d, rfl, J', nb, up, sky, na, os, ag, b, hb1, hyes, hno⟩
    have J : Inv X pins σ' H' sI := J'.ofTry ok
    have sky' : Sky B (X.env :: X.outer) a (Zc cls d) X.env.locals s'.heap := by rw [← hs]; exact sky
    show wpAny (model X.prog X.w) X.A (noteFrame (.ref a) X.env) _ _ _
    refine Sky.land Zc.steady hfr hf sky' fun h3 fl3 up3 => ?_
    have J3 : Inv X pins σ' H' { s' with heap := h3 } := J.landed nb fl3.1 (up.trans up3) os ag
    obtain ⟨oe3, vs3, he3, hz3, hd3⟩ := fl3.there
    have nfr : a ∉ frs (X.env :: X.outer) := not_fr fl3.2.2.1 he3 hd3
    have nL : a ≠ X.env.locals := fun z => nfr (List.mem_filterMap.mpr ⟨X.env, List.mem_cons_self, by rw [hf, z]⟩)
    have nF : a ∉ X.fs := fun hm => by
      obtain ⟨e, he, q⟩ := List.mem_filterMap.mp hm
      exact nfr (List.mem_filterMap.mpr ⟨e, List.mem_cons_of_mem _ he, q⟩)
    have aI : sI.heap.get? a = none := by
      cases e : sI.heap.get? a with
      | none => rfl
      | some o =>
        have z := nb a o e (by rw [hs]; exact nfr)
        rw [fl3.2.1] at z
        cases z
    have a0 : X.s_0.heap.get? a = none := by
      cases e : X.s_0.heap.get? a with
      | none => rfl
      | some o =>
        obtain ⟨o', z⟩ := J.base.there a o e (by rw [hex]; simp)
        rw [aI] at z
        cases z
    have npin : ∀ p ∈ X.pn ++ pins, p.1 ≠ a := fun p hp z => by
      have y := (J.pin p hp).1
      rw [z, aI] at y
      cases y
    have S3 := J3.suite he3 hd3 na nL nF
    refine wpAny_handleBy_cons (codeAny_handlers_test ?_) (by intro q; cases q)
    have LT : PySem.W.Looks (model X.prog X.w) h3 (typeOf (.ref a)) cls := fun A Q E s k q => wpAny_typeOf_ref (k _ _ he3) (by rw [hz3.1]; exact q)
    have LM := PySem.W.exm_one (M := model X.prog X.w) (J3.kIn) LT hb1
    have test : ∀ {Q : Value → Shared → Prop} {E : Value → Shared → Prop}, Q c { s' with heap := h3 } → wpAny (model X.prog X.w) (X.A.mark (some (.ref a))) (eval (.Name x np) X.env) Q E { s' with heap := h3 } := by
      intro Q E q
      obtain ⟨hg, hdbg, hm | ⟨hm, hv, hnn⟩⟩ := hc
      · exact ld_glob (X := X.suite a ((a, oe3) :: (X.pn ++ pins))) S3 hg hm q hdbg
      · exact ld_blt (X := X.suite a ((a, oe3) :: (X.pn ++ pins))) S3 hg hm hv q hnn hdbg
    refine test (LM.here ?_)
    cases b with
    | true =>
      refine codeAny_handlers_suite_as ?_
      refine HandSPX.lands_againZ fl3 fun h4 fl4 up4 => ?_
      have J4 : Inv X pins σ' H' { s' with heap := h4 } := J.landed nb fl4.1 ((up.trans up3).trans up4) os ag
      obtain ⟨oe4, vs4, he4, hz4, hd4⟩ := fl4.there
      have S4 := J4.suite he4 hd4 na nL nF
      refine store_ok (X := X.suite a ((a, oe4) :: (X.pn ++ pins))) (v := .ref a) S4 hN hi (.inl hln) rfl (fun s5 S5 => ?_) (.inr hln)
      have suite : PSs (X.suite a ((a, oe4) :: (X.pn ++ pins))) [.Assign [.Name y py] (.Name n np2) pa] (tAsg (tVar i) (gName j)) :=
        pss_one (ps_set (i := j) hN hj (.inl hly) (pe_var (i := i) hi (.inl hln) hdn hcn) (hsw a _) (.inr hly))
      have hlen : i < σ'.length := by
        rw [J.len]
        exact (List.getElem?_eq_some_iff.mp hi).1
      refine wpAny_mono (suite.run [] s5 _ H' { nx := fun σ6 H6 => σ6 = (σ'.set i (some (.ref a))).set j (some (.ref a)) ∧ H6 = H', rt := fun _ _ => False } S5 ⟨.ref a, by rw [List.getElem?_set_self hlen], rfl, rfl⟩) (fun f s6 hsp => ?_) (fun _ _ z => False.elim z)
      rcases f with _ | _ | _ | u6
      · obtain ⟨σ6, H6, S6, rfl, rfl⟩ := hsp
        obtain ⟨p1, p2, p3, p4, p5⟩ := S6.pin (a, oe4) (List.mem_append_left _ List.mem_cons_self)
        have J6 : Inv X ((a, oe4) :: pins) _ H6 s6 := (S6.unsuite ok).pins_of fun p hp => by
          rcases List.mem_cons.mp hp with rfl | hp
          · exact ⟨p1, p2, p3, p4, p5⟩
          · exact (S6.unsuite ok).pin p (List.mem_append_right _ hp)
        refine gone_ok J6 hN hi hln fun s7 J7 => ?_
        have q7 := J7.pin (a, oe4) (List.mem_append_right _ List.mem_cons_self)
        have J8 : Inv X pins _ H6 s7 := J7.pins_of fun p hp => J7.pin p (List.mem_append_right _ (List.mem_cons_of_mem _ hp))
        exact ⟨_, _, inv_track J8 q7.1 hd4 q7.2.1 a0 nL npin (erO_ok q7.1 hz4 hd4), hyes rfl a na⟩
      · obtain ⟨_, _, _, q⟩ := hsp
        exact False.elim q
      · obtain ⟨_, _, _, q⟩ := hsp
        exact False.elim q
      · obtain ⟨_, _, _, _, _, q⟩ := hsp
        exact False.elim q
    | false =>
      show wpAny _ X.A (handleBy (.ref a) X.env []) _ _ _
      refine wpAny_handleBy_nil ?_
      have F3 : Fly X pins σ' H' a cls d { s' with heap := h3 } := ⟨B, sI, J, nb, up.trans up3, by rw [hs]; exact fl3, na, os, ag⟩
      exact F3.on hs hf tk (hno rfl)
end
end Bp

namespace Bp
open PySem PySem.Spec PyProof.Rows L2

/-! ### what is asked of a caught exception -/
theorem ans_exact {a C : Addr} {oe : Obj} (hc : oe.cls = .ref C) : PySem.Answers (fun s => s.heap.get? a = some oe) (.ref a) (.ref C) true := by
  intro dep tk prog w A R s hs
  obtain ⟨h0, g, d, tt, os⟩ := s
  obtain ⟨ho, hq⟩ := hs
  have LT : PySem.W.Looks (model prog w) h0 (typeOf (.ref a)) (.ref C) := fun A Q E s k q => wpAny_typeOf_ref (k _ _ ho) (by rw [hc]; exact q)
  unfold Builtin.«isinstance.nested»
  refine wpAny_bind (LT.at ?_)
  rw [if_pos (show (Value.ref C == Value.ref C) = true from by simp)]
  first
    | exact wpAny_bind (wpAny_rule (hq tt))
    | exact wpAny_bind (wpAny_rule (wpAny_pure (hq tt)))
/-- isinstance(x, C): x an exception of the very class C, or None -/
def rIsEr : List V → Hp → VK → Prop := fun xs H Q => ∃ (a C : Addr) (d : Option Addr), xs = [.ref a, .ref C] ∧ H a = some (ErO a (.ref C) d) ∧ Q (.bl true) H
theorem call_isEr {X : Cx} : CallR X (.builtin "isinstance") rIsEr := by
  intro pins s σ H xs us Q I r h
  obtain ⟨a, C, d, rfl, ha, q⟩ := h
  obtain ⟨u1, u2, rfl, r1, r2⟩ := vals2 r
  cases r1
  cases r2
  obtain ⟨oe, vs, ho, hz, hd⟩ := erO_at I.hok ha
  exact call_isinstance (S := fun _ R s => s.heap.get? a = some oe ∧ ∀ tk, R (.ok (.ret (.bool true))) { s with toks := tk })
    (fun prog w A R s hs => isinstance_outer (ans_exact hz.1 0 _ prog w A R s hs) (fun z => nomatch z)) ⟨ho, fun tk => ⟨.bl true, H, I.tok tk, rfl, q⟩⟩
/-- e.value -/
def tErv (K : PySem.W.Frag) (f : Str) (te : TE) : TE := fun σ H Q => te σ H fun x H1 => ∃ (a C dd : Addr) (fs : List (Str × V)) (v : V), x = .ref a ∧ H1 a = some (ErO a (.ref C) (some dd)) ∧ H1 dd = some (.xd fs) ∧ XfC K C ∧ PySem.W.findIn K (.ref C) f = some none ∧
  fs.lookup f = some v ∧ Q v H1
theorem pe_erv {X : Cx} {e : Expr} {te : TE} {pos : Pos} {f : Str} (he : PE X e te) (hb : attributeBase e f X.env (eval e X.env) = eval e X.env := by rfl) : PE X (.Attribute e f pos) (tErv X.K f te) := by
  constructor
  intro pins s σ H Q I h
  refine attr_of hb (thn (he.run pins s σ H _ I h) ?_)
  rintro u s1 ⟨x, H1, I1, rx, a, C, dd, fs, v, rfl, ea, ed, T, hno, l, q⟩
  obtain rfl : u = Value.ref a := rx
  obtain ⟨oe, vs, ho, hz, hd⟩ := erO_at I1.hok ea
  obtain ⟨mA, hns, hr⟩ := (show ObjOk X.prog X.w H1 s1.heap dd (.xd fs) from I1.hok dd _ ed)
  obtain ⟨od, hod, hl⟩ := lookIn_ns hns
  obtain ⟨u, hu, ru⟩ := RelO.some_of (v := v) (o := mA f) (by rw [← l]; exact hr f)
  have J : PySem.W.InstAt s1.heap a oe C (some od) := ⟨ho, hz.1, by unfold PySem.W.notCls; rw [hd] <;> rfl, by rw [hz.2]; exact hod⟩
  exact HandSPX.exc_get I1.kIn J T.ga T.gg T.exC (PySem.W.findObj_own T.hdC hno rfl (by rw [hl, hu])) (handed_of ru) ⟨v, H1, I1.tok _, ru, q⟩
end Bp

namespace Bp
open PySem PySem.Spec PyProof.Rows L2

/-! ### BeatError.__init__: super().__init__(repr(value)); self.value = value -/
/-- an error class of the program -/
structure ErrC (K : PySem.W.Frag) (C : Addr) : Prop where
  ox : OexC K C
  nv : PySem.W.findIn K (.ref C) "value" = some none
  ve : PySem.W.subIn K (.ref C) (.type "ValueError") = some true
  su : PySem.W.ks_superIn K C (He.ga K "BeatError") "__init__" = some (some (.builtin "ValueError.__init__"))
  ob : PySem.W.mroIn K C (.ref (He.ga K "BeatError")) = some true
  ii : PySem.W.findIn K (.ref C) "__init__" = some (some (.ref (fErrInit K)))
  xm : PySem.W.exmOne K (.ref C) (.ref (He.ga K "BeatError")) = some true
  xf : XfC K C
/-- the function object of BeatError.__init__ -/
structure ErrF (K : PySem.W.Frag) : Prop where
  fn : ∃ (od : Option Addr) (osl : Array (Option Value)) (kV doc pm : Value) (an : Option Addr) (ct : Value) (cda cc : Addr) (ccl : Value) (cdd : Option Addr) (vs : Array Value) (ccs : Array (Option Value)) (file : Str) (tf : Tok) (cl : Value) (cld : Option Addr) (csl : Array (Option Value)),
    K.lookup (fErrInit K) = some ⟨.type "function", od, .func (PySem.W.fnX "__init__" "BeatError.__init__" (defArgs s_BeatError_init) (defBody s_BeatError_init) (defScope s_BeatError_init) [("__class__", cc)] .none kV doc pm an (.ref cda) ct), osl⟩ ∧
    PySem.W.codeIn K (.ref cda) "BeatError.__init__" = true ∧ K.lookup cda = some ⟨ccl, cdd, .fields vs, ccs⟩ ∧ vs[2]? = some (.str file tf) ∧ ((PySem.Challenge.pw_beatpatches_k68_whole_undone_tried_and_k.main.file : Str) == file) = true ∧
    K.lookup cc = some ⟨cl, cld, .cell (some (.ref (He.ga K "BeatError"))), csl⟩
  cls : ∃ cd, PySem.W.clsIn K (He.ga K "BeatError") = some cd
  nst : PySem.W.nsIn K cStatics "thirdparty.any" = some none
/-- its promise -/
def spErr (K : PySem.W.Frag) : Sp := fun vs H Q _ => ∃ (a C : Addr) (v : V) (d : PyData), vs = [.ref a, v] ∧ ErrC K C ∧ H a = some (exo a C none) ∧ Dr K H v d ∧ d.showable = true ∧ d.depth ≤ 40 ∧ d.shown.length ≤ sizeLine ∧
  ∀ dx, H dx = none → dx ≠ a → Q .non (upd (upd H dx (exd dx [("value", v)])) a (exo a C (some dx)))
abbrev nfErr (cc cda : Addr) : NdefX.NF := ⟨"__init__", "BeatError.__init__", defArgs s_BeatError_init, defBody s_BeatError_init, defScope s_BeatError_init, [("__class__", cc)], cda⟩
theorem scErr : NdefX.NScope ["self", "value", "__class__"] ["self", "value"] ["__class__"] (defScope s_BeatError_init) := NdefX.nscope_by (by decide +kernel)
section
variable {prog : Program} {w : World} {A : Around} {E : Value → Shared → Prop} {s : Shared} {K : PySem.W.Frag}
/-- ValueError.__init__ bound to the exception x, called -/
theorem call_mw {x C t0 u : Addr} {rest : List Value} {Q : Value → Shared → Prop} {nm qn : Str} {N : Addr} {bs bm : List Value} {hd : Bool} {sn : List Str} {sub : List Value} {ab : Bool} {col : Option Bool} {dd : Option Addr} {k0 k1 k2 k3 k5 : Option Value}
    (hC : s.heap.get? C = some (excClassObj nm qn C N bs bm hd sn sub ab col dd k0 k1 k2 k3 k5 "ValueError.__new__")) (hu : s.heap.get? u = some (PySem.W.kxs_mw "ValueError.__init__" x)) (he : s.heap.get? x = some (HandSPX.excO C t0)) (hz : rest.length ≤ sizeLine)
    (h : ∀ h' t1, (∀ b o, b ≠ x → s.heap.get? b = some o → h'.get? b = some o) → h'.get? x = some (HandSPX.excO C t1) → Q .none { s with heap := h' }) : wpAny (model prog w) A (call (.ref u) rest) Q E s := by
  obtain ⟨hh, g, d, tk, os⟩ := s
  refine wpAny_call (codeAny_of_tree ?_)
  show wpAny _ A.in1 (callAny (.ref u) ⟨rest, []⟩) _ _ _
  simp only [callAny]
  refine wpAny_bind (wpAny_load hu ?_)
  have b1 : (Value.type "method-wrapper" == Value.type "method" || Value.type "method-wrapper" == Value.type "builtin_function_or_method" || Value.type "method-wrapper" == Value.type "method-wrapper") = true := by decide
  simp only [PySem.W.kxs_mw, b1, if_true]
  refine PySem.W.KFB.if_so (by decide) ?_
  refine wpAny_bind (PySem.W.check_bound_init F.excBase_ValueError.toExcCallFacts hC he rfl ?_)
  refine wpAny_bind (wpAny_pure (wpAny_pure ?_))
  refine ⟨PySem.plainId_quiet F.excBase_ValueError.init.plain _, codeAny_builtin F.excBase_ValueError.initEntry ?_⟩
  exact PySem.W.exc_init_tree (cls := .ref C) (t0 := t0) (dv := none) (c2 := .none) (c3 := .none) (b4 := .bool false) he hz fun h' k e' t' => h h' _ k e'
end
/-- the def that stands at f -/
def fdOf (K : PySem.W.Frag) (f : Addr) : FuncData := match K.lookup f with
  | some ⟨_, _, .func fd, _⟩ => fd
  | _ => { name := "", qualname := "", params := { posonlyargs := [], args := [], vararg := none, kwonlyargs := [], kw_defaults := [], kwarg := none, defaults := [] }, body := .stmts [], scope := { kind := .function, names := [], isGenerator := false, isCoroutine := false }, globals := 0, closure := [], defaults := .none, kwdefaults := .none, doc := .none, pyModule := .none, annotations := none, code := .none, closureTuple := .none, builtins := 0 }
theorem fdOf_eq {K : PySem.W.Frag} {f : Addr} {oc : Value} {od : Option Addr} {fd : FuncData} {osl : Array (Option Value)} (lk : K.lookup f = some ⟨oc, od, .func fd, osl⟩) : fdOf K f = fd := by
  unfold fdOf
  rw [lk]
section
variable {P : Program} {w : World} {K : PySem.W.Frag} {mg : Str → Option Value} {base : Heap}
theorem ok_err (EF : ErrF K) (hPf : P.main.file = PySem.Challenge.pw_beatpatches_k68_whole_undone_tried_and_k.main.file) (hPs : (P.main.scope.names.lookup ("super" : Str)).isSome = false) (gS : mg "super" = none) (gR : mg "repr" = none) :
    FnG P w K mg base 2 (fErrInit K) (fdOf K (fErrInit K)) ["self", "value"] (spErr K) := by
  obtain ⟨od, osl, kV, doc, pm, an, ct, cda, cc, ccl, cdd, vsc, ccs, file, tf, cl, cld, csl, lk, hcd, hcode, hvs, hfile, hcell⟩ := EF.fn
  rw [fdOf_eq lk]
  refine ⟨fun vs H Q E h => by obtain ⟨a, C, v, d, rfl, _⟩ := h; rfl, fun A outer s H args us vs Q E hg hr e0 hb r hsp => ?_⟩
  obtain ⟨a, C, v, d, rfl, EC, ha, hdr, hs, hdep, hlen, hq⟩ := hsp
  obtain ⟨u1, u2, rfl, r1, r2⟩ := vals2 r
  have KX : K.In s.heap := e0.mod.kin.keeps fun b o e => (e0.bs b o e).1
  have lim : s.heap.NoLimit := e0.mod.nolimit.keeps fun b o e => (e0.bs b o e).1
  have hcc0 : H cc = none := (e0.bs cc _ (e0.mod.kin _ _ hcell)).2
  have CA : NdefX.CellsAt (nfErr cc cda).cl ["__class__"] [none] s.heap H := by
    refine ⟨rfl, fun y c e => ?_, fun x y c e1 e2 => ?_, fun i y e => ?_⟩
    · have z := PySem.mem_of_lookup e
      simp at z
      obtain ⟨rfl, rfl⟩ := z
      exact ⟨hcc0, _, _, KX _ _ hcell, rfl⟩
    · have z1 := PySem.mem_of_lookup e1
      have z2 := PySem.mem_of_lookup e2
      simp at z1 z2
      rw [z1.1, z2.1]
    · cases i with
      | zero =>
        simp at e
        subst e
        exact ⟨cc, rfl, fun v e => by simp at e⟩
      | succ i => simp at e
  refine PySem.ks_codeAny_call_defAt (body := defBody s_BeatError_init) (binds := (["self", "value"] : List Str).zip [u1, u2]) hr.depth (KX _ _ lk) rfl lim (PySem.W.codeRec_of KX hcd) rfl hb ?_ ?_ (fun h₀ hns hkeep => ?_) (by rfl) (by rfl) (by rfl)
  · intro y hy
    exact scErr.nocell y hy
  · rintro ⟨n, y⟩ hy
    exact scErr.par n (List.of_mem_zip hy).1
  show PySem.wpAt (model P w) (A.deeper (NdefX.envF (nfErr cc cda) (fErrInit K) s.heap.objs.size)) (.func (defBody s_BeatError_init) (NdefX.envF (nfErr cc cda) (fErrInit K) s.heap.objs.size)) (execs (defBody s_BeatError_init) (NdefX.envF (nfErr cc cda) (fErrInit K) s.heap.objs.size)) _ _ _
  have hr' : Room 1 (A.deeper (NdefX.envF (nfErr cc cda) (fErrInit K) s.heap.objs.size)) := hr.deeper _
  have I := NdefX.inv_startN (CX := CXX P w) (N := ["self", "value", "__class__"]) (F := nfErr cc cda) (f := fErrInit K) (E := E) (tk := s.toks + ((["self", "value"] : List Str).zip [u1, u2]).length) scErr hr.hd e0 rfl r CA hns hkeep
  have hst := (rfl : defBody s_BeatError_init = [.Expr (.Call (.Attribute (.Call (.Name "super" _) [] [] _) "__init__" _) [.Call (.Name "repr" _) [.Name "value" _] [] _] [] _) _,
    .Assign [.Attribute (.Name "self" _) "value" _] (.Name "value" _) _])
  let X : Cx := NdefX.ncx (CXX P w) P w K mg base ["self", "value", "__class__"] (nfErr cc cda) (fErrInit K) A outer s H E
  have I0 : Inv X [] (NdefX.startF ["self", "value", "__class__"] [.ref a, v] [none]) H { s with heap := h₀, toks := s.toks + ((["self", "value"] : List Str).zip [u1, u2]).length } := I
  rw [hst]
  have KI := I0.kIn
  obtain ⟨nm, qn, CN, bs, bm, sn, sub, ab, col, dd, k0, k1, k2, k3, k5, hC, hbm⟩ := EC.ox.cls
  obtain ⟨cdD, hcdD⟩ := EF.cls
  obtain ⟨oD, hD1, hD2⟩ : ∃ oD : Obj, h₀.get? (He.ga K "BeatError") = some oD ∧ oD.data = .cls cdD := by
    unfold PySem.W.clsIn at hcdD
    split at hcdD
    · rename_i c d cd' sl ho
      cases hcdD
      exact ⟨_, KI _ _ ho, rfl⟩
    · cases hcdD
  obtain ⟨t1, hea⟩ := exo_at I0.hok ha
  have IA : PySem.W.InstAt h₀ a { cls := .ref C, dict := none, data := .fields #[.ref t1, .none, .none, .none, .bool false, .none] } C none := ⟨hea, rfl, rfl, trivial⟩
  refine PySem.ks_wpAt_execs_cons ?_
  refine PySem.ks_wpAt_Expr_any ?_
  refine PySem.ks_wpAt_MethodCall ?_
  refine PySem.ks_wpAt_super_base (s := { s with heap := h₀, toks := s.toks + ((["self", "value"] : List Str).zip [u1, u2]).length }) (by rfl) (by rfl) (by decide) rfl (KI _ _ lk) rfl (by rfl) rfl (KI _ _ hcode) rfl hvs (by rw [hPf]; exact hfile) hPs ?_
  obtain ⟨mb, hb1, hb2⟩ := I0.mod.blt
  refine PySem.W.ks_loadName_global (by rfl) (by rfl) (Calls.loadGlobal_builtin (by rw [show (NdefX.envF (nfErr cc cda) (fErrInit K) s.heap.objs.size).globals = mainGlobals from rfl]; exact I0.mod.glob.keeps I0.bk) gS (by rw [show (NdefX.envF (nfErr cc cda) (fErrInit K) s.heap.objs.size).builtins = builtinsNs from rfl]; exact hb1.keeps I0.bk) ((hb2 "super" (by decide)).trans (by decide +kernel)) ⟨rfl, ?_⟩)
  refine wpAny_loadName_free (by rfl) (by rfl) rfl ⟨_, KI _ _ hcell, rfl⟩ ?_
  refine wpAny_loadName_local (by rfl) (by rfl) hns rfl ?_
  refine PySem.ks_wpAny_isType_cls hD1 hD2 ⟨rfl, ?_⟩
  obtain rfl : u1 = Value.ref a := r1
  refine PySem.ks_wpAny_call_super hD1 hD2 hea rfl (fun c e => by cases e) (PySem.W.looks_mroIn KI EC.ob) (fun h1 e1 k1 => ?_)
  have I1 : Inv X [] (NdefX.startF ["self", "value", "__class__"] [.ref a, v] [none]) H { s with heap := h1, toks := s.toks + ((["self", "value"] : List Str).zip [Value.ref a, u2]).length } := I0.kept k1
  have K1 := I1.kIn
  obtain ⟨cdC, hcdC⟩ : ∃ cd, PySem.W.clsIn K C = some cd := by unfold PySem.W.clsIn; rw [hC]; exact ⟨_, rfl⟩
  have hm := EC.su
  unfold PySem.W.ks_superIn at hm
  rw [hcdC] at hm
  have IA1 : PySem.W.InstAt h1 a { cls := .ref C, dict := none, data := .fields #[.ref t1, .none, .none, .none, .bool false, .none] } C none := ⟨k1 _ _ hea, rfl, rfl, trivial⟩
  refine PySem.W.kxs_getMethod PySem.W.kxs_ValueError (l₀ := cdC.mro) e1 (PySem.W.looks_opaque K1 EF.nst) (fun A Q E s k q => wpAny_bind ((PySem.W.looks_clsIn K1 hcdC) A _ E s k (wpAny_pure q))) rfl K1 hm (IA1.type.andThen (PySem.W.looks_subIn K1 EC.ve)) (PySem.W.ks_ne K1 IA1 hcdC) (by decide) ?_
  have I2 : Inv X [] (NdefX.startF ["self", "value", "__class__"] [.ref a, v] [none]) H { s with heap := h1.push (PySem.W.kxs_mw "ValueError.__init__" a), toks := s.toks + ((["self", "value"] : List Str).zip [Value.ref a, u2]).length + 1 } := I1.kept fun b o e => Heap.get?_push_of_some _ e
  have I3 : Inv X [(h1.objs.size, PySem.W.kxs_mw "ValueError.__init__" a)] (NdefX.startF ["self", "value", "__class__"] [.ref a, v] [none]) H { s with heap := h1.push (PySem.W.kxs_mw "ValueError.__init__" a), toks := s.toks + ((["self", "value"] : List Str).zip [Value.ref a, u2]).length + 1 } := I2.pins_of fun p hp => by
    obtain rfl : p = (h1.objs.size, PySem.W.kxs_mw "ValueError.__init__" a) := by simpa using hp
    exact ⟨Heap.get?_push_size _ rfl, I1.hok.fresh (Nat.le_refl _), Ne.symm (Nat.ne_of_lt I1.lt), I1.nofs (Nat.le_refl _), fun v z => by cases z⟩
  have hgX : X.A.guards = some [] := hg
  have gRX : X.mg "repr" = none := gR
  have PAr : ∀ p1 p2 p3 : Pos, PA X [.Call (.Name "repr" p1) [.Name "value" p2] [] p3] (tCons (tCB (rRepr X.K) (tCons (tVar 1) tNil)) tNil) := fun p1 p2 p3 =>
    pa_cons (pe_callB (X := X) (call_repr hgX hr'.units) (by rfl) gRX (by decide +kernel) (pa_cons (pv 1) pa_nil)) pa_nil
  refine PySem.W.kxs_callWith (i := "ValueError.__init__") (x := a) (by rfl) (Calls.evalArgs_plain ?_)
  refine thn ((PAr _ _ _).run _ _ _ _ H (fun vs H' => vs = [.str d.shown] ∧ H' = H) I3 ⟨v, rfl, v, d, rfl, hdr, hs, hdep, hlen, rfl, rfl⟩) ?_
  rintro us s3 ⟨vs, H3, I3', rv, rfl, rfl⟩
  have hu3 := (I3'.pin _ (List.mem_append_right _ List.mem_cons_self)).1
  refine ⟨hu3, ?_⟩
  obtain ⟨t3, hea3⟩ := exo_at I3'.hok ha
  refine call_mw (prog := P) (w := w) (I3'.kIn _ _ hC) hu3 hea3 (by have := rv.length; show us.length ≤ _; rw [← this]; exact (by decide : 1 ≤ sizeLine)) fun h' t4 k4 e4 => ?_
  have J := I3'.write (t' := s3.toks) (x := a) (e := a) (o := exo a C none) (by rw [ha]; exact True.intro) (.inl rfl) k4 ⟨_, e4⟩ (exo_ok e4)
  have eu : upd H3 a (exo a C none) = H3 := by
    funext b
    by_cases hb : b = a
    · rw [hb, upd_same, ha]
    · rw [upd_ne hb]
  rw [eu] at J
  refine wpAt_of_wpAny ?_
  have st2 : ∀ p1 p2 p3 p4 : Pos, PSs X [.Assign [.Attribute (.Name "self" p1) "value" p2] (.Name "value" p3) p4] (tOst X.K "value" (tVar 0) (tVar 1)) := fun p1 p2 p3 p4 => pss_one (ps_ost (X := X) (f := "value") (pv 0) (pv 1))
  refine wpAny_mono ((st2 _ _ _ _).run _ _ _ _ { nx := fun _ H' => Q .non H', rt := Q } J ?_) ?_ (fun e s' z => z)
  · exact ⟨v, rfl, .ref a, rfl, a, C, rfl, EC.ox, EC.nv, .inl ⟨ha, hq⟩⟩
  · intro fl s' hs'
    have fin : ∀ {σ' : L2.St} {H' : Hp} {v : V} {u : Value} {pn : List (Addr × Obj)}, Inv X pn σ' H' s' → L2.RelV v u → Q v H' → CE outer P w H3 s Q u s' :=
      fun {σ' H' v u pn} J rv q => ⟨v, H', J.os, J.bare, J.base, J.hok, rv, q⟩
    cases fl with
    | ret u =>
      obtain ⟨v, σ', H', J, rv, q⟩ := hs'
      exact fin J rv q
    | next =>
      obtain ⟨σ', H', J, q⟩ := hs'
      exact fin (v := V.non) (u := Value.none) J rfl q
    | brk =>
      obtain ⟨_, _, _, q⟩ := hs'
      exact False.elim q
    | cont =>
      obtain ⟨_, _, _, q⟩ := hs'
      exact False.elim q
end
end Bp

namespace Bp
open PySem PySem.Spec PyProof.Rows L2

/-! ### what every call keeps -/
structure Kp (H H' : Hp) : Prop where
  tup : ∀ b xs, H b = some (.tup xs) → H' b = some (.tup xs)
  frz : ∀ b o u, H b = some (.frz o u) → H' b = some (.frz o u)
theorem Kp.refl (H : Hp) : Kp H H := ⟨fun _ _ h => h, fun _ _ _ h => h⟩
theorem Kp.trans {H H1 H2 : Hp} (a : Kp H H1) (b : Kp H1 H2) : Kp H H2 := ⟨fun c xs h => b.tup c xs (a.tup c xs h), fun c o u h => b.frz c o u (a.frz c o u h)⟩
theorem Kp.of {H H' : Hp} (e : ∀ b o, H b = some o → H' b = some o) : Kp H H' := ⟨fun b xs h => e b _ h, fun b o u h => e b _ h⟩
/-- a place that holds neither is written -/
theorem Kp.upd {H : Hp} {a : Addr} {o : HO} (h : ∀ u, H a = some u → (∀ xs, u ≠ .tup xs) ∧ ∀ q z, u ≠ .frz q z) : Kp H (upd H a o) :=
  ⟨fun b xs e => by rw [upd_ne (fun z => (h _ (by rw [← z]; exact e)).1 xs rfl)]; exact e, fun b q u e => by rw [upd_ne (fun z => (h _ (by rw [← z]; exact e)).2 q u rfl)]; exact e⟩
theorem Kp.new {H : Hp} {a : Addr} {o : HO} (h : H a = none) : Kp H (L2.upd H a o) := .upd fun u e => by rw [h] at e; cases e
/-! ### a def's promise, its function known by its address -/
structure GF (P : Program) (w : World) (K : PySem.W.Frag) (mg : Str → Option Value) (base : Heap) (k : Nat) (f : Addr) (ps : List Str) (sp : Sp) : Prop where
  ok : FnG P w K mg base k f (fdOf K f) ps sp
  kp : PySem.W.keepIn K (.ref f) = true
  b : Binds K (fdOf K f) ps []
theorem funD_fd {K : PySem.W.Frag} {x qual : Str} {params : Arguments} {body : List Stmt} {scope : Scope} {dvs : List V} {kws : List (Str × V)} {f : Addr} {fd : FuncData} (F : FunD K x qual params body scope dvs kws f fd) : fdOf K f = fd := by
  obtain ⟨oc, od, dV, kV, doc, pm, an, cdv, ct, osl, rfl, lk, _⟩ := F.ex
  exact fdOf_eq lk
/-- THE RULE of a def: its body as a term, and the term's reading -/
theorem gf_of {P : Program} {w : World} {K : PySem.W.Frag} {mg : Str → Option Value} {base : Heap} {k : Nat} {N ps : List Str} {sp : Sp} {x qual : Str} {params : Arguments} {body : List Stmt} {scope : Scope} {f : Addr}
    (F : ∃ fd, FunD K x qual params body scope [] [] f fd) (S : FnScope N ps scope) (len : ∀ vs H Q E, sp vs H Q E → vs.length = ps.length)
    (bnd : ∀ (kV doc pm : Value) (an : Option Addr) (cdv ct : Value) (us : List Value), us.length = ps.length → bindArgs (PySem.W.fnOf x qual params body scope .none kV doc pm an cdv ct) ⟨us, []⟩ = pure (ps.zip us))
    (hbody : ∀ (cdv : Value) (A : Around) (outer : List Env) (s : Shared) (H : Hp) (vs : List V) (Q : VK) (E : XK), A.guards = some [] → Room k (A.deeper (envOfC qual scope s.heap.objs.size f cdv)) → sp vs H Q E →
      ∃ t, PSs (cxOf (CXX P w) P w K mg base N qual scope f cdv A outer s H E) body t ∧ t { nx := fun _ H' => Q .non H', rt := Q } (start N vs) H) :
    GF P w K mg base (k + 1) f ps sp := by
  obtain ⟨fd, F⟩ := F
  have e := funD_fd F
  refine ⟨?_, F.kp, by rw [e]; exact F.bindsN bnd⟩
  rw [e]
  obtain ⟨oc, od, dV, kV, doc, pm, an, cdv, ct, osl, rfl, lk, hcd, _, _⟩ := F.ex
  exact fnG_of lk hcd S len fun A outer s H vs Q E hg hr hsp => hbody cdv A outer s H vs Q E hg hr hsp
theorem GF.mono {P : Program} {w : World} {K : PySem.W.Frag} {mg : Str → Option Value} {base : Heap} {j k : Nat} {f : Addr} {ps : List Str} {sp : Sp} (F : GF P w K mg base j f ps sp) (h : j ≤ k) : GF P w K mg base k f ps sp := ⟨F.ok.mono h, F.kp, F.b⟩
/-! ### calls, what every call keeps told -/
def tCal (sp : Sp) (E : XK) (t : TA) : TE := fun σ H Q => t σ H fun vs H1 => sp vs H1 (fun v H2 => Kp H1 H2 → Q v H2) E
section
variable {X : Cx} {j k : Nat} {f C : Addr} {fd : FuncData} {ps : List Str} {sp : Sp} {E : XK} {x m : Str} {p pos apos : Pos} {e o : Expr} {es : List Expr} {ta : TE} {t : TA}
theorem run_fnK {pins : List (Addr × Obj)} {σ : L2.St} {H : Hp} {s : Shared} {Q : VK} {us : List Value} {vs : List V} (F : GF X.prog X.w X.K X.mg X.base j f ps sp) (hg : X.A.guards = some []) (hr : Room k X.A) (hk : j ≤ k)
    (hx : Passes (CXX X.prog X.w) X E) (I : Inv X pins σ H s) (r : Vals vs us) (h : sp vs H (fun v H2 => Kp H H2 → Q v H2) E) :
    wpAny (model X.prog X.w) X.A (call (.ref f) us) (EP X pins σ Q) X.xe s := by
  have hl : us.length = ps.length := r.length.symm.trans (F.ok.len _ _ _ _ h)
  have hb := F.b s us I.kIn (by rw [List.append_nil]; exact hl)
  rw [List.append_nil] at hb
  refine wpAny_call (codeAny_mono (F.ok.run X.A X.stack s H ⟨us, []⟩ us vs _ E hg (hr.mono hk) I.env0 hb r h) ?_)
  intro r s' hq
  rcases r with er | (u | _ | _ | _)
  · exact hx pins σ H s er s' I hq
  all_goals first
    | exact False.elim hq
    | (obtain ⟨v, H', os, bare, un, hok, rv, q⟩ := hq
       exact I.after ⟨v, H', os, bare, un, hok, rv, q ⟨un.tups, un.frzs⟩⟩)
/-- f(e, ..) -/
theorem pe_fn (hm : X.mg x = some (.ref f)) (F : GF X.prog X.w X.K X.mg X.base j f ps sp) (hg : X.A.guards = some []) (hr : Room k X.A) (hx : Passes (CXX X.prog X.w) X E) (ha : PA X (e :: es) t) (hk : j ≤ k := by decide) (gl : Gl X x := by rfl)
    (hdb : (x == ("__debug__" : Str)) = false := by decide)
    (he : starEach (e :: es) X.env = (false, eval e X.env) :: starEach es X.env := by rfl) (hpl : (backTo pos (starEach es X.env)).any (·.1) = false := by rfl) :
    PE X (.Call (.Name x p) (e :: es) [] pos) (tCal sp E t) := by
  constructor
  intro pins s σ H Q I h
  refine wpAny_Call_Name_kw (ld_glob I gl hm ?_ hdb)
  refine PySem.W.callWith_K (h₀ := X.base) I.ok.mod.kin F.kp ?_ he hpl
  refine thn (ha.run pos pins s σ H _ I h) ?_
  rintro us s1 ⟨vs, H1, I1, r, q⟩
  exact ⟨I1.kIn, run_fnK F hg hr hk hx I1 r q⟩
/-- o.m(e, ..) -/
def tMet (C : Addr) (m : Str) (sp : Sp) (E : XK) (ta : TE) (t : TA) : TE := fun σ H Q => ta σ H fun x H1 => ∃ a dx fs, x = .ref a ∧ H1 a = some (.ins C dx fs) ∧ fs.lookup m = none ∧
  t σ H1 fun vs H2 => sp (x :: vs) H2 (fun v H3 => Kp H2 H3 → Q v H3) E
theorem pe_mt {pl : Sem Bool} (c : Cls X.K C) (hm : Meth X.K C m f) (F : GF X.prog X.w X.K X.mg X.base j f ps sp) (hg : X.A.guards = some []) (hr : Room k X.A) (hx : Passes (CXX X.prog X.w) X E) (he : PE X o ta) (ha : PA X (e :: es) t) (hk : j ≤ k := by decide)
    (hst : starEach (e :: es) X.env = (false, eval e X.env) :: starEach es X.env := by rfl) (hpl : (backTo pos (starEach es X.env)).any (·.1) = false := by rfl)
    (ht : eval (.Call (.Attribute o m apos) (e :: es) [] pos) X.env = (eval o X.env >>= fun ov => standAt apos.atName >>= fun _ => holding [ov] (getMethod ov m pl) >>= fun g =>
      callWith pos g.1 g.2 (backTo pos (starEach (e :: es) X.env)) (backToKw pos (keywordEach [] X.env))) := by rfl) :
    PE X (.Call (.Attribute o m apos) (e :: es) [] pos) (tMet C m sp E ta t) := by
  constructor
  intro pins s σ H Q I h
  refine PySem.W.methodCall_KW (pl := pl) ?_ ht
  refine thn (he.run pins s σ H _ I h) ?_
  rintro u s1 ⟨x, H1, I1, rx, a, dx, fs, rfl, ea, l, q⟩
  obtain rfl : u = Value.ref a := rx
  refine getmeth_ok I1 ea c hm l (PySem.W.callWith_K (first := [.ref a]) (h₀ := X.base) I.ok.mod.kin hm.kp ?_ hst hpl)
  refine thn (ha.run pos pins s1 σ H1 _ I1 q) ?_
  rintro us s2 ⟨vs, H2, I2, r, q2⟩
  exact ⟨I2.kIn, run_fnK (us := .ref a :: us) (vs := .ref a :: vs) F hg hr hk hx I2 (.cons rfl r) q2⟩
/-- o.m() -/
theorem pe_mt0 {pl : Sem Bool} (c : Cls X.K C) (hm : Meth X.K C m f) (F : GF X.prog X.w X.K X.mg X.base j f ps sp) (hg : X.A.guards = some []) (hr : Room k X.A) (hx : Passes (CXX X.prog X.w) X E) (he : PE X o ta) (hk : j ≤ k := by decide)
    (ht : eval (.Call (.Attribute o m apos) [] [] pos) X.env = (eval o X.env >>= fun ov => standAt apos.atName >>= fun _ => holding [ov] (getMethod ov m pl) >>= fun g =>
      callWith pos g.1 g.2 (backTo pos (starEach [] X.env)) (backToKw pos (keywordEach [] X.env))) := by rfl) :
    PE X (.Call (.Attribute o m apos) [] [] pos) (tMet C m sp E ta tNil) := by
  constructor
  intro pins s σ H Q I h
  refine PySem.W.methodCall_KW (pl := pl) ?_ ht
  refine thn (he.run pins s σ H _ I h) ?_
  rintro u s1 ⟨x, H1, I1, rx, a, dx, fs, rfl, ea, l, q⟩
  obtain rfl : u = Value.ref a := rx
  refine getmeth_ok I1 ea c hm l ?_
  exact PySem.W.callWith_K0 (first := [.ref a]) I1.kIn hm.kp (run_fnK (us := [.ref a]) (vs := [.ref a]) F hg hr hk hx I1 (.cons rfl .nil) q)
/-- an exception goes through this def as it is -/
theorem passE {P : Program} {w : World} {K : PySem.W.Frag} {mg : Str → Option Value} {base : Heap} {N : List Str} {qual : Str} {scope : Scope} {f : Addr} {cdv : Value} {A : Around} {outer : List Env} {s : Shared} {H : Hp} {E : XK} :
    Passes (CXX P w) (cxOf (CXX P w) P w K mg base N qual scope f cdv A outer s H E) E := passes_call (takes_of rfl rfl rfl rfl) fun _ _ _ _ h => h
/-! ### C(..) -/
theorem guards_make {A : Around} {C : Addr} {us : List Value} {kw : List (Str × Value)} : (A.under (.builtin "type.__call__" ⟨.ref C :: us, kw⟩)).guards = A.guards := by
  first | rfl | (simp [Around.under, pushGuards, Code.guards, Code.isGuard, guardIds])
def tMk (C : Addr) (sp : Sp) (E : XK) (t : TA) : TE := fun σ H Q => t σ H fun vs H1 => ∀ x dx, H1 x = none → H1 dx = none → dx ≠ x →
  sp (.ref x :: vs) (upd (upd H1 dx (.own x)) x (.ins C dx [])) (fun v H2 => v = .non ∧ (Kp H1 H2 → Q (.ref x) H2)) E
theorem pe_mk (M : Mk X.K C f) (F : GF X.prog X.w X.K X.mg X.base j f ps sp) (hm : X.mg x = some (.ref C)) (hg : X.A.guards = some []) (hr : Room k X.A) (hx : Passes (CXX X.prog X.w) X E) (ha : PA X (e :: es) t) (hk : j + 1 ≤ k := by decide) (gl : Gl X x := by rfl)
    (hdb : (x == ("__debug__" : Str)) = false := by decide) (he : starEach (e :: es) X.env = (false, eval e X.env) :: starEach es X.env := by rfl) (hpl : (backTo pos (starEach es X.env)).any (·.1) = false := by rfl) :
    PE X (.Call (.Name x p) (e :: es) [] pos) (tMk C sp E t) := by
  constructor
  intro pins s σ H Q I h
  refine wpAny_Call_Name_kw (ld_glob I gl hm ?_ hdb)
  refine PySem.W.callWith_K (h₀ := X.base) I.ok.mod.kin M.kp ?_ he hpl
  refine thn (ha.run pos pins s σ H _ I h) ?_
  rintro us s1 ⟨vs, H1, I1, r, q⟩
  refine ⟨I1.kIn, ?_⟩
  show wpAny _ _ (call (.ref C) us) _ _ _
  have n1 := I1.hok.fresh (Nat.le_succ s1.heap.objs.size)
  have n2 := I1.hok.fresh (Nat.le_refl s1.heap.objs.size)
  have hq := q (s1.heap.objs.size + 1) s1.heap.objs.size n1 n2 (Nat.ne_of_lt (Nat.lt_succ_self _))
  have I2 := Inv.made (C := C) I1
  have r2 : Vals (V.ref (s1.heap.objs.size + 1) :: vs) (Value.ref (s1.heap.objs.size + 1) :: us) := .cons rfl r
  have hl : (Value.ref (s1.heap.objs.size + 1) :: us).length = ps.length := r2.length.symm.trans (F.ok.len _ _ _ _ hq)
  have hb := F.b _ (Value.ref (s1.heap.objs.size + 1) :: us) I2.kIn (by rw [List.append_nil]; exact hl)
  rw [List.append_nil] at hb
  refine wpAny_call (make_map (f := f) I1.kIn M.makes M.init (beq_iff_eq.mp M.fn) (codeAny_mono (F.ok.run _ X.stack _ _ ⟨Value.ref (s1.heap.objs.size + 1) :: us, []⟩ (Value.ref (s1.heap.objs.size + 1) :: us) _ _ E (guards_make.trans hg)
    ((hr.mono hk).make C us []) (I2.env0.make C us []) hb r2 hq) fun r s' hq' => ?_))
  cases r with
  | error e => exact hx pins σ _ _ e s' I2 hq'
  | ok fl =>
    cases fl with
    | ret u =>
      obtain ⟨v, H', os, bare, un, hok, rv, ev, q3⟩ := hq'
      subst ev
      have kk : Kp H1 H' := by
        have z : Kp (upd (upd H1 s1.heap.objs.size (.own (s1.heap.objs.size + 1))) (s1.heap.objs.size + 1) (.ins C s1.heap.objs.size [])) H' := ⟨un.tups, un.frzs⟩
        exact ((Kp.new n2).trans (Kp.new (by rw [upd_ne (Nat.ne_of_gt (Nat.lt_succ_self _))]; exact n1))).trans z
      obtain ⟨v', H'', I3, rv', ev', q4⟩ := I2.after (Q := fun v H2 => v = .non ∧ Q (.ref (s1.heap.objs.size + 1)) H2) ⟨.non, H', os, bare, un, hok, rv, rfl, q3 kk⟩
      subst ev'
      exact ⟨rv', ⟨V.ref (s1.heap.objs.size + 1), H'', I3, rfl, q4⟩⟩
    | next => exact False.elim hq'
    | brk => exact False.elim hq'
    | cont => exact False.elim hq'
/-! ### a thing is frozen: written no more -/
def tFrz (t : TE) : TE := fun σ H Q => t σ H fun v H1 => ∃ a u, v = .ref a ∧ H1 a = some u ∧ Mut (some u) ∧ ∀ o, Q (.ref a) (upd H1 a (.frz o u))
theorem pe_frz (he : PE X e ta) : PE X e (tFrz ta) := by
  constructor
  intro pins s σ H Q I h
  refine thn (he.run pins s σ H _ I h) ?_
  rintro u s1 ⟨v, H1, I1, rv, a, o, rfl, ha, mu, q⟩
  obtain ⟨od, I2⟩ := I1.lock ha mu
  exact ⟨.ref a, _, I2, rv, q od⟩
end
/-! ### raise X(v), X an error of the program -/
def tErrMk (K : PySem.W.Frag) (C : Addr) (ta : TA) : L2.St → Hp → XK → Prop := fun σ H Q => ta σ H fun vs H1 => ∃ v d, vs = [v] ∧ Dr K H1 v d ∧ d.showable = true ∧ d.depth ≤ 40 ∧ d.shown.length ≤ sizeLine ∧
  ∀ dx, H1 dx = none → Q (.ref C) (some dx) (upd H1 dx (.xd [("value", v)]))
mutual
theorem Dp.same {K : PySem.W.Frag} {H H' : Hp} (s : Same H H') : ∀ (d : PyData) (v : V), Dp K H v d → Dp K H' v d
  | .none, _, .non => .non
  | .bool _, _, .bl b => .bl b
  | .int _, _, .int i => .int i
  | .str _, _, .str x => .str x
  | .list ds, _, .lst h1 h2 => .lst (s.seq h1) (DpAll.same s ds _ h2)
  | .tuple ds, _, .tup h1 h2 => .tup (by
      rcases h1 with (h | ⟨o, h⟩) | h
      · exact .inl (.inl (s _ _ h))
      · exact .inl (.inr ⟨o, s _ _ h⟩)
      · exact .inr h) (DpAll.same s ds _ h2)
theorem DpAll.same {K : PySem.W.Frag} {H H' : Hp} (s : Same H H') : ∀ (ds : List PyData) (vs : List V), DpAll K H vs ds → DpAll K H' vs ds
  | [], _, .nil => .nil
  | d :: ds, _, .cons h1 h2 => .cons (Dp.same s d _ h1) (DpAll.same s ds _ h2)
end
theorem Dr.same {K : PySem.W.Frag} {H H' : Hp} (s : Same H H') {v : V} {d : PyData} (h : Dr K H v d) : Dr K H' v d := by
  cases h with
  | dp h n => exact .dp (Dp.same s _ _ h) n
  | dict h => exact .dict (s _ _ h)
section
variable {X : Cx} {k : Nat} {C : Addr} {x : Str} {p pos : Pos} {e : Expr} {es : List Expr} {ta : TA}
theorem pmk_err (EC : ErrC X.K C) (tI : PySem.W.typeIn X.K (.ref (fErrInit X.K)) = some (.type "function")) (F : FnG X.prog X.w X.K X.mg X.base 2 (fErrInit X.K) (fdOf X.K (fErrInit X.K)) ["self", "value"] (spErr X.K)) (hb : Binds X.K (fdOf X.K (fErrInit X.K)) ["self", "value"] [])
    (hm : X.mg x = some (.ref C)) (hg : X.A.guards = some []) (hr : Room k X.A) (ha : PA X (e :: es) ta) (hk : 3 ≤ k := by decide) (gl : Gl X x := by rfl)
    (hdb : (x == ("__debug__" : Str)) = false := by decide) (he : starEach (e :: es) X.env = (false, eval e X.env) :: starEach es X.env := by rfl) (hpl : (backTo pos (starEach es X.env)).any (·.1) = false := by rfl) :
    PMk X (.Call (.Name x p) (e :: es) [] pos) (tErrMk X.K C ta) := by
  intro pins s σ H Q I h
  obtain ⟨nm, q, N, bs, bm, sn, sub, ab, col, dd, k0, k1, k2, k3, k5, hC, hbm⟩ := EC.ox.cls
  refine wpAny_Call_Name_kw (ld_glob I gl hm ?_ hdb)
  refine PySem.W.callWith_K (h₀ := X.base) I.ok.mod.kin EC.ox.kC ?_ he hpl
  refine thn (ha.run pos pins s σ H _ I h) ?_
  rintro us s1 ⟨vs, H1, I1, r1, v, d, rfl, hd, h1, h2, h3, q1⟩
  refine ⟨I1.kIn, ?_⟩
  show wpAny _ _ (call (.ref C) us) _ _ _
  obtain ⟨hp, g, dr, tk, os⟩ := s1
  have hsz : hp.objs.size ≤ hp.objs.size + 1 := Nat.le_succ _
  have hn : H1 (hp.objs.size + 1) = none := I1.hok.fresh hsz
  have kk : ∀ b o, hp.get? b = some o → ((hp.push (PySem.W.kdv_tup us)).push (PySem.HandSPX.excO C hp.objs.size)).get? b = some o := fun b o e => Heap.get?_push_of_some _ (Heap.get?_push_of_some _ e)
  have hget : ((hp.push (PySem.W.kdv_tup us)).push (PySem.HandSPX.excO C hp.objs.size)).get? (hp.objs.size + 1) = some (PySem.HandSPX.excO C hp.objs.size) := by heap_get
  have I2 : Inv X pins σ (upd H1 (hp.objs.size + 1) (exo (hp.objs.size + 1) C none)) ⟨(hp.push (PySem.W.kdv_tup us)).push (PySem.HandSPX.excO C hp.objs.size), g, dr, tk, os⟩ :=
    I1.laid (t' := tk) (a := hp.objs.size + 1) (o := exo (hp.objs.size + 1) C none) (h' := (hp.push (PySem.W.kdv_tup us)).push (PySem.HandSPX.excO C hp.objs.size)) kk hsz (exo_ok hget)
  have r2 : Vals [V.ref (hp.objs.size + 1), v] (Value.ref (hp.objs.size + 1) :: us) := .cons rfl r1
  have sm : Same H1 (upd H1 (hp.objs.size + 1) (exo (hp.objs.size + 1) C none)) := fun b o e => (upd_ne (ne_of_none e hn)).trans e
  have hq : spErr X.K [V.ref (hp.objs.size + 1), v] (upd H1 (hp.objs.size + 1) (exo (hp.objs.size + 1) C none)) (fun v' H2 => v' = .non ∧ ∃ dx, H1 dx = none ∧ dx ≠ hp.objs.size + 1 ∧
      H2 = upd (upd (upd H1 (hp.objs.size + 1) (exo (hp.objs.size + 1) C none)) dx (exd dx [("value", v)])) (hp.objs.size + 1) (exo (hp.objs.size + 1) C (some dx))) E0 := by
    refine ⟨_, C, v, d, rfl, EC, upd_same, hd.same sm, h1, h2, h3, fun dx ndx ne => ⟨rfl, dx, ?_, ne, rfl⟩⟩
    rw [upd_ne ne] at ndx
    exact ndx
  have hl : (Value.ref (hp.objs.size + 1) :: us).length = (["self", "value"] : List Str).length := r2.length.symm
  have hbb := hb _ (Value.ref (hp.objs.size + 1) :: us) I2.kIn (by rw [List.append_nil]; exact hl)
  rw [List.append_nil] at hbb
  have hus : us.length ≤ sizeLine := by
    rw [← Paired.length r1]
    exact (by decide : 1 ≤ sizeLine)
  refine wpAny_call (PySem.HandSPX.call_own PySem.F.excBase_ValueError (fun Y => PySem.HandSPX.refsVE_contains Y bm hbm) (I1.kIn _ _ hC) (PySem.W.looks_findIn I1.kIn EC.ii) (fun self => PySem.W.bind_fn I1.kIn self tI) hus
    (codeAny_mono (F.run _ X.stack _ _ ⟨Value.ref (hp.objs.size + 1) :: us, []⟩ (Value.ref (hp.objs.size + 1) :: us) _ _ E0 (guards_make.trans hg) ((hr.mono hk).make C us []) (I2.env0.make C us []) hbb r2 hq) fun r s' hq' => ?_))
  cases r with
  | error er => exact passL pins σ _ _ er s' I2 hq'
  | ok fl =>
    cases fl with
    | ret u =>
      obtain ⟨v', H2, os2, bare2, un2, hok2, rv, ev, dx, ndx, nne, e2⟩ := hq'
      subst ev
      obtain ⟨h2, g2, d2, t2, os'⟩ := s'
      have ea : H2 (hp.objs.size + 1) = some (exo (hp.objs.size + 1) C (some dx)) := by rw [e2, upd_same]
      have ed : H2 dx = some (exd dx [("value", v)]) := by rw [e2, upd_ne nne, upd_same]
      have eH : upd (del H2 (hp.objs.size + 1)) dx (.xd [("value", v)]) = upd H1 dx (.xd [("value", v)]) := by
        funext b
        by_cases hb1 : b = dx
        · rw [hb1, upd_same, upd_same]
        · rw [upd_ne hb1, upd_ne hb1]
          by_cases hb2 : b = hp.objs.size + 1
          · rw [hb2, del_same, hn]
          · rw [del_ne hb2, e2, upd_ne hb2, upd_ne hb1, upd_ne hb2]
      have q2 := q1 dx ndx
      rw [← eH] at q2
      exact ⟨rv, mk_end (raises_own EC.ox.exC EC.ox.tyC) I1 hsz kk un2 hok2 os2 bare2 ea ed ndx q2⟩
    | next => exact False.elim hq'
    | brk => exact False.elim hq'
    | cont => exact False.elim hq'
end
end Bp

namespace Bp
open PySem PySem.Spec PyProof.Rows L2
/-! ### the errors' classes, by their facts -/
theorem excObj_of {K : PySem.W.Frag} {C : Addr} {bmB : List Value} (h1 : PySem.W.excInitIn K C bmB "ValueError.__new__" = true) (h2 : PySem.W.hasDictIn K C = true) (h3 : mroTail K C = true) :
    ∃ nm q N bs bm sn sub ab col dd k0 k1 k2 k3 k5, K.lookup C = some (excClassObj nm q C N bs bm true sn sub ab col dd k0 k1 k2 k3 k5 "ValueError.__new__") ∧ PySem.HandSPX.refsVE bm = true := by
  unfold PySem.W.excInitIn at h1
  cases lk : K.lookup C with
  | none =>
    rw [lk] at h1
    exact Bool.noConfusion h1
  | some ob =>
    rw [lk] at h1
    obtain ⟨c0, d0, dat, sl0⟩ := ob
    split at h1
    · rename_i d1 cd1 sl1 heq
      cases heq
      split at h1
      · rename_i C1 bm1 a0 a1 a2 a3 n1 a5 hmro hsl
        simp only [Bool.and_eq_true, beq_iff_eq, Bool.not_eq_true'] at h1
        obtain ⟨⟨⟨e1, e2⟩, hdel⟩, -⟩ := h1
        subst e1
        subst e2
        have hcl : PySem.W.clsIn K C1 = some cd1 := by
          unfold PySem.W.clsIn
          rw [lk]
        have hhd : cd1.hasDict = true := by
          unfold PySem.W.hasDictIn at h2
          rw [hcl] at h2
          exact h2
        have hve : PySem.HandSPX.refsVE bm1 = true := by
          unfold mroTail at h3
          rw [hcl] at h3
          simp only [hmro] at h3
          exact (Bool.and_eq_true_iff.mp h3).2
        have esl : sl0 = #[a0, a1, a2, a3, some (.builtin "ValueError.__new__"), a5] := Array.toList_inj.mp hsl
        cases cd1
        dsimp only at hmro hdel hhd
        subst hmro hdel hhd esl
        exact ⟨_, _, _, _, _, _, _, _, _, _, _, _, _, _, _, rfl, hve⟩
      · exact Bool.noConfusion h1
    · exact Bool.noConfusion h1
theorem and2 {a b : Bool} (h : (a && b) = true) : a = true ∧ b = true := Bool.and_eq_true_iff.mp h
theorem errC_of {x : Str} {K : PySem.W.Frag} (h : errB x K = true) : ErrC K (He.ga K x) := by
  unfold errB at h
  obtain ⟨h1, h⟩ := and2 h
  obtain ⟨h2, h⟩ := and2 h
  obtain ⟨h3, h⟩ := and2 h
  obtain ⟨h4, h⟩ := and2 h
  obtain ⟨h5, h⟩ := and2 h
  obtain ⟨h6, h⟩ := and2 h
  obtain ⟨h7, h⟩ := and2 h
  obtain ⟨h8, h⟩ := and2 h
  obtain ⟨h9, h⟩ := and2 h
  obtain ⟨h10, h⟩ := and2 h
  obtain ⟨h11, h⟩ := and2 h
  obtain ⟨h12, h⟩ := and2 h
  obtain ⟨h13, h⟩ := and2 h
  obtain ⟨h14, h⟩ := and2 h
  obtain ⟨h15, h16⟩ := and2 h
  exact { ox := ⟨excObj_of h1 h2 h3, He.eqO_ok h4, of_decide_eq_true h5, of_decide_eq_true h6, h7⟩, nv := He.eqO_ok h11, ve := of_decide_eq_true h12, su := He.eqO_ok h13, ob := of_decide_eq_true h16, ii := He.eqO_ok h8, xm := of_decide_eq_true h9, xf := xfB_ok h10 }
theorem errF_of {K : PySem.W.Frag} (h1 : initB K = true) (h2 : fnC K = valC) (h3 : PySem.W.nsIn K cStatics "thirdparty.any" = some none) (h4 : (PySem.W.clsIn K (He.ga K "BeatError")).isSome = true) : ErrF K := by
  refine ⟨?_, Option.isSome_iff_exists.mp h4, h3⟩
  unfold initB at h1
  unfold fnC valC at h2
  cases lk : K.lookup (fErrInit K) with
  | none =>
    rw [lk] at h1
    exact Bool.noConfusion h1
  | some ob =>
    rw [lk] at h1 h2
    obtain ⟨c0, d0, dat, sl0⟩ := ob
    cases dat with
    | func fd =>
      simp only [Option.some.injEq, Prod.mk.injEq] at h2
      obtain ⟨e1, e2, e3, e4, e5, e6, e7, e8, e9⟩ := h2
      split at h1
      · rename_i fd' sl' heq
        cases heq
        obtain ⟨hc, h1⟩ := and2 h1
        obtain ⟨h1, h5⟩ := and2 h1
        cases hcl : fd.closure with
        | nil =>
          rw [hcl] at h1
          exact Bool.noConfusion h1
        | cons p r =>
          obtain ⟨y, c⟩ := p
          rw [hcl] at h1 e7
          cases r with
          | cons _ _ => exact Bool.noConfusion h1
          | nil =>
            obtain rfl : y = "__class__" := by simpa using e7
            dsimp only at h1
            split at h1
            · rename_i cl cld D csl hcell
              obtain rfl := of_decide_eq_true h1
              split at h5
              · rename_i cda hcode
                split at h5
                · rename_i ccl cdd vs ccs hlk
                  split at h5
                  · rename_i f t hvs
                    obtain rfl := of_decide_eq_true h5
                    obtain ⟨name, qualname, params, body, scope, globals, closure, defaults, kwdefaults, doc, pyModule, annotations, code, closureTuple, builtins⟩ := fd
                    dsimp only at *
                    subst e1 e2 e3 e4 e5 e6 e8 e9 hcl hcode
                    exact ⟨_, _, _, _, _, _, _, _, _, _, _, _, _, _, _, _, _, _, rfl, hc, hlk, hvs, by simp, hcell⟩
                  · exact Bool.noConfusion h5
                · exact Bool.noConfusion h5
              · exact Bool.noConfusion h5
            · exact Bool.noConfusion h1
      · exact Bool.noConfusion h1
    | _ => simp at h2
end Bp

namespace Bp
open PySem PySem.Spec PyProof.Rows L2
/-! ### all that is told behind the top -/
structure Th (P : Program) (K : PySem.W.Frag) (mg : Str → Option Value) (base : Heap) : Prop where
  X : K.In base
  G : base.Ns mainGlobals mg
  a : He5.SaysA fas fns K
  i : fnC K = valC
  more : exAll K = true
  hd : ∀ p ∈ tfs, PySem.W.codeHdIn K (He.cT K p).1 (He.cT K p).2 = true
  bm : ∀ p ∈ tfs, base.BuiltinsAt mg (He.cT K p).2
  pf : P.main.file = PySem.Challenge.pw_beatpatches_k68_whole_undone_tried_and_k.main.file
  ps : (P.main.scope.names.lookup ("super" : Str)).isSome = false
section
variable {P : Program} {w : World} {K : PySem.W.Frag} {mg : Str → Option Value} {base : Heap} (T : Th P K mg base)
include T
theorem Th.ex {b : PySem.W.Frag → Bool} (h : b ∈ exs) : b K = true := List.all_eq_true.mp (by have z := T.more; unfold exAll at z; exact z) b h
theorem Th.g_BeatError : mg "BeatError" = some (.ref (He.ga K "BeatError")) := He.glo_ok T.X T.G (T.a.fact 0 rfl)
theorem Th.g_BadShape : mg "BadShape" = some (.ref (He.ga K "BadShape")) := He.glo_ok T.X T.G (T.a.fact 1 rfl)
theorem Th.g_BadDeal : mg "BadDeal" = some (.ref (He.ga K "BadDeal")) := He.glo_ok T.X T.G (T.a.fact 2 rfl)
theorem Th.g_BadCell : mg "BadCell" = some (.ref (He.ga K "BadCell")) := He.glo_ok T.X T.G (T.a.fact 3 rfl)
theorem Th.g_BadNumbers : mg "BadNumbers" = some (.ref (He.ga K "BadNumbers")) := He.glo_ok T.X T.G (T.a.fact 4 rfl)
theorem Th.g_SameDeal : mg "SameDeal" = some (.ref (He.ga K "SameDeal")) := He.glo_ok T.X T.G (T.a.fact 5 rfl)
theorem Th.g_NothingToUndo : mg "NothingToUndo" = some (.ref (He.ga K "NothingToUndo")) := He.glo_ok T.X T.G (T.a.fact 6 rfl)
theorem Th.g_NothingToRedo : mg "NothingToRedo" = some (.ref (He.ga K "NothingToRedo")) := He.glo_ok T.X T.G (T.a.fact 7 rfl)
theorem Th.g_NoTrial : mg "NoTrial" = some (.ref (He.ga K "NoTrial")) := He.glo_ok T.X T.G (T.a.fact 8 rfl)
theorem Th.g_BadJournal : mg "BadJournal" = some (.ref (He.ga K "BadJournal")) := He.glo_ok T.X T.G (T.a.fact 9 rfl)
theorem Th.g_is_integer : mg "is_integer" = some (.ref (He.ga K "is_integer")) := He.glo_ok T.X T.G (T.a.fact 10 rfl)
theorem Th.g_is_cell : mg "is_cell" = some (.ref (He.ga K "is_cell")) := He.glo_ok T.X T.G (T.a.fact 11 rfl)
theorem Th.g_check_cell : mg "check_cell" = some (.ref (He.ga K "check_cell")) := He.glo_ok T.X T.G (T.a.fact 12 rfl)
theorem Th.g_moved : mg "moved" = some (.ref (He.ga K "moved")) := He.glo_ok T.X T.G (T.a.fact 13 rfl)
theorem Th.g_less : mg "less" = some (.ref (He.ga K "less")) := He.glo_ok T.X T.G (T.a.fact 14 rfl)
theorem Th.g_settled : mg "settled" = some (.ref (He.ga K "settled")) := He.glo_ok T.X T.G (T.a.fact 15 rfl)
theorem Th.g_is_lot : mg "is_lot" = some (.ref (He.ga K "is_lot")) := He.glo_ok T.X T.G (T.a.fact 16 rfl)
theorem Th.g_is_shape : mg "is_shape" = some (.ref (He.ga K "is_shape")) := He.glo_ok T.X T.G (T.a.fact 17 rfl)
theorem Th.g_check_shape : mg "check_shape" = some (.ref (He.ga K "check_shape")) := He.glo_ok T.X T.G (T.a.fact 18 rfl)
theorem Th.g_is_deal : mg "is_deal" = some (.ref (He.ga K "is_deal")) := He.glo_ok T.X T.G (T.a.fact 19 rfl)
theorem Th.g_check_deal : mg "check_deal" = some (.ref (He.ga K "check_deal")) := He.glo_ok T.X T.G (T.a.fact 20 rfl)
theorem Th.g_bank_of : mg "bank_of" = some (.ref (He.ga K "bank_of")) := He.glo_ok T.X T.G (T.a.fact 21 rfl)
theorem Th.g_beats_of : mg "beats_of" = some (.ref (He.ga K "beats_of")) := He.glo_ok T.X T.G (T.a.fact 22 rfl)
theorem Th.g_Block : mg "Block" = some (.ref (He.ga K "Block")) := He.glo_ok T.X T.G (T.a.fact 23 rfl)
theorem Th.g_Trial : mg "Trial" = some (.ref (He.ga K "Trial")) := He.glo_ok T.X T.G (T.a.fact 24 rfl)
theorem Th.g_deed_text : mg "deed_text" = some (.ref (He.ga K "deed_text")) := He.glo_ok T.X T.G (T.a.fact 25 rfl)
theorem Th.g_Memory : mg "Memory" = some (.ref (He.ga K "Memory")) := He.glo_ok T.X T.G (T.a.fact 26 rfl)
theorem Th.g_integer_in : mg "integer_in" = some (.ref (He.ga K "integer_in")) := He.glo_ok T.X T.G (T.a.fact 27 rfl)
theorem Th.g_integers_in : mg "integers_in" = some (.ref (He.ga K "integers_in")) := He.glo_ok T.X T.G (T.a.fact 28 rfl)
theorem Th.g_cell_in : mg "cell_in" = some (.ref (He.ga K "cell_in")) := He.glo_ok T.X T.G (T.a.fact 29 rfl)
theorem Th.g_cells_in : mg "cells_in" = some (.ref (He.ga K "cells_in")) := He.glo_ok T.X T.G (T.a.fact 30 rfl)
theorem Th.g_write_in : mg "write_in" = some (.ref (He.ga K "write_in")) := He.glo_ok T.X T.G (T.a.fact 31 rfl)
theorem Th.g_deed_in : mg "deed_in" = some (.ref (He.ga K "deed_in")) := He.glo_ok T.X T.G (T.a.fact 32 rfl)
theorem Th.g_do_deed : mg "do_deed" = some (.ref (He.ga K "do_deed")) := He.glo_ok T.X T.G (T.a.fact 33 rfl)
theorem Th.g_journal : mg "journal" = some (.ref (He.ga K "journal")) := He.glo_ok T.X T.G (T.a.fact 34 rfl)
theorem Th.g_begun : mg "begun" = some (.ref (He.ga K "begun")) := He.glo_ok T.X T.G (T.a.fact 35 rfl)
theorem Th.g_read_journal : mg "read_journal" = some (.ref (He.ga K "read_journal")) := He.glo_ok T.X T.G (T.a.fact 36 rfl)
theorem Th.g_law_pot : mg "_law_pot" = some (.ref (He.ga K "_law_pot")) := He.glo_ok T.X T.G (T.a.fact 37 rfl)
theorem Th.g_law_take : mg "_law_take" = some (.ref (He.ga K "_law_take")) := He.glo_ok T.X T.G (T.a.fact 38 rfl)
theorem Th.g_law_of : mg "_law_of" = some (.ref (He.ga K "_law_of")) := He.glo_ok T.X T.G (T.a.fact 39 rfl)
theorem Th.g_law_some : mg "_law_some" = some (.ref (He.ga K "_law_some")) := He.glo_ok T.X T.G (T.a.fact 40 rfl)
theorem Th.g_law_cells : mg "_law_cells" = some (.ref (He.ga K "_law_cells")) := He.glo_ok T.X T.G (T.a.fact 41 rfl)
theorem Th.g_law_heard : mg "_law_heard" = some (.ref (He.ga K "_law_heard")) := He.glo_ok T.X T.G (T.a.fact 42 rfl)
theorem Th.g_law_odd : mg "_law_odd" = some (.ref (He.ga K "_law_odd")) := He.glo_ok T.X T.G (T.a.fact 43 rfl)
theorem Th.g_law_is_int : mg "_law_is_int" = some (.ref (He.ga K "_law_is_int")) := He.glo_ok T.X T.G (T.a.fact 44 rfl)
theorem Th.g_law_is_cell : mg "_law_is_cell" = some (.ref (He.ga K "_law_is_cell")) := He.glo_ok T.X T.G (T.a.fact 45 rfl)
theorem Th.g_law_moved : mg "_law_moved" = some (.ref (He.ga K "_law_moved")) := He.glo_ok T.X T.G (T.a.fact 46 rfl)
theorem Th.g_law_settled : mg "_law_settled" = some (.ref (He.ga K "_law_settled")) := He.glo_ok T.X T.G (T.a.fact 47 rfl)
theorem Th.g_law_is_lot : mg "_law_is_lot" = some (.ref (He.ga K "_law_is_lot")) := He.glo_ok T.X T.G (T.a.fact 48 rfl)
theorem Th.g_law_is_shape : mg "_law_is_shape" = some (.ref (He.ga K "_law_is_shape")) := He.glo_ok T.X T.G (T.a.fact 49 rfl)
theorem Th.g_law_loose : mg "_law_loose" = some (.ref (He.ga K "_law_loose")) := He.glo_ok T.X T.G (T.a.fact 50 rfl)
theorem Th.g_law_is_deal : mg "_law_is_deal" = some (.ref (He.ga K "_law_is_deal")) := He.glo_ok T.X T.G (T.a.fact 51 rfl)
theorem Th.g_law_bank : mg "_law_bank" = some (.ref (He.ga K "_law_bank")) := He.glo_ok T.X T.G (T.a.fact 52 rfl)
theorem Th.g_law_beats : mg "_law_beats" = some (.ref (He.ga K "_law_beats")) := He.glo_ok T.X T.G (T.a.fact 53 rfl)
theorem Th.g_law_drawn_deal : mg "_law_drawn_deal" = some (.ref (He.ga K "_law_drawn_deal")) := He.glo_ok T.X T.G (T.a.fact 54 rfl)
theorem Th.g_law_a_cell : mg "_law_a_cell" = some (.ref (He.ga K "_law_a_cell")) := He.glo_ok T.X T.G (T.a.fact 55 rfl)
theorem Th.g_law_day : mg "_law_day" = some (.ref (He.ga K "_law_day")) := He.glo_ok T.X T.G (T.a.fact 56 rfl)
theorem Th.g_law_deal_now : mg "_law_deal_now" = some (.ref (He.ga K "_law_deal_now")) := He.glo_ok T.X T.G (T.a.fact 57 rfl)
theorem Th.g_law_spent : mg "_law_spent" = some (.ref (He.ga K "_law_spent")) := He.glo_ok T.X T.G (T.a.fact 58 rfl)
theorem Th.g_law_held : mg "_law_held" = some (.ref (He.ga K "_law_held")) := He.glo_ok T.X T.G (T.a.fact 59 rfl)
theorem Th.g_law_do : mg "_law_do" = some (.ref (He.ga K "_law_do")) := He.glo_ok T.X T.G (T.a.fact 60 rfl)
theorem Th.g_law_refusal : mg "_law_refusal" = some (.ref (He.ga K "_law_refusal")) := He.glo_ok T.X T.G (T.a.fact 61 rfl)
theorem Th.g_law_led : mg "_law_led" = some (.ref (He.ga K "_law_led")) := He.glo_ok T.X T.G (T.a.fact 62 rfl)
theorem Th.g_law_back : mg "_law_back" = some (.ref (He.ga K "_law_back")) := He.glo_ok T.X T.G (T.a.fact 63 rfl)
theorem Th.g_law_again : mg "_law_again" = some (.ref (He.ga K "_law_again")) := He.glo_ok T.X T.G (T.a.fact 64 rfl)
theorem Th.g_law_is_memory : mg "_law_is_memory" = some (.ref (He.ga K "_law_is_memory")) := He.glo_ok T.X T.G (T.a.fact 65 rfl)
theorem Th.g_law_a_deed : mg "_law_a_deed" = some (.ref (He.ga K "_law_a_deed")) := He.glo_ok T.X T.G (T.a.fact 66 rfl)
theorem Th.g_law_around : mg "_law_around" = some (.ref (He.ga K "_law_around")) := He.glo_ok T.X T.G (T.a.fact 67 rfl)
theorem Th.g_law_gone : mg "_law_gone" = some (.ref (He.ga K "_law_gone")) := He.glo_ok T.X T.G (T.a.fact 68 rfl)
theorem Th.g_law_line : mg "_law_line" = some (.ref (He.ga K "_law_line")) := He.glo_ok T.X T.G (T.a.fact 69 rfl)
theorem Th.g_law_journal : mg "_law_journal" = some (.ref (He.ga K "_law_journal")) := He.glo_ok T.X T.G (T.a.fact 70 rfl)
theorem Th.g_law_fro : mg "_law_fro" = some (.ref (He.ga K "_law_fro")) := He.glo_ok T.X T.G (T.a.fact 71 rfl)
theorem Th.g_law_is_outside : mg "_law_is_outside" = some (.ref (He.ga K "_law_is_outside")) := He.glo_ok T.X T.G (T.a.fact 72 rfl)
theorem Th.g_law_inner : mg "_law_inner" = some (.ref (He.ga K "_law_inner")) := He.glo_ok T.X T.G (T.a.fact 73 rfl)
theorem Th.g_law_block : mg "_law_block" = some (.ref (He.ga K "_law_block")) := He.glo_ok T.X T.G (T.a.fact 74 rfl)
theorem Th.g_law_is_long_right : mg "_law_is_long_right" = some (.ref (He.ga K "_law_is_long_right")) := He.glo_ok T.X T.G (T.a.fact 75 rfl)
theorem Th.g_law_right : mg "_law_right" = some (.ref (He.ga K "_law_right")) := He.glo_ok T.X T.G (T.a.fact 76 rfl)
theorem Th.g_law : mg "law" = some (.ref (He.ga K "law")) := He.glo_ok T.X T.G (T.a.fact 77 rfl)
theorem Th.f_isinstance : mg "isinstance" = none := He.free_ok T.X T.G (T.a.fact 78 rfl)
theorem Th.f_int : mg "int" = none := He.free_ok T.X T.G (T.a.fact 79 rfl)
theorem Th.f_bool : mg "bool" = none := He.free_ok T.X T.G (T.a.fact 80 rfl)
theorem Th.f_tuple : mg "tuple" = none := He.free_ok T.X T.G (T.a.fact 81 rfl)
theorem Th.f_len : mg "len" = none := He.free_ok T.X T.G (T.a.fact 82 rfl)
theorem Th.f_all : mg "all" = none := He.free_ok T.X T.G (T.a.fact 83 rfl)
theorem Th.f_min : mg "min" = none := He.free_ok T.X T.G (T.a.fact 84 rfl)
theorem Th.f_max : mg "max" = none := He.free_ok T.X T.G (T.a.fact 85 rfl)
theorem Th.f_sorted : mg "sorted" = none := He.free_ok T.X T.G (T.a.fact 86 rfl)
theorem Th.f_enumerate : mg "enumerate" = none := He.free_ok T.X T.G (T.a.fact 87 rfl)
theorem Th.f_zip : mg "zip" = none := He.free_ok T.X T.G (T.a.fact 88 rfl)
theorem Th.f_sum : mg "sum" = none := He.free_ok T.X T.G (T.a.fact 89 rfl)
theorem Th.f_str : mg "str" = none := He.free_ok T.X T.G (T.a.fact 90 rfl)
theorem Th.f_super : mg "super" = none := He.free_ok T.X T.G (T.a.fact 91 rfl)
theorem Th.f_repr : mg "repr" = none := He.free_ok T.X T.G (T.a.fact 92 rfl)
theorem Th.f_abs : mg "abs" = none := He.free_ok T.X T.G (T.a.fact 93 rfl)
theorem Th.f_list : mg "list" = none := He.free_ok T.X T.G (T.a.fact 94 rfl)
theorem Th.f_range : mg "range" = none := He.free_ok T.X T.G (T.a.fact 95 rfl)
theorem Th.f_set : mg "set" = none := He.free_ok T.X T.G (T.a.fact 96 rfl)
theorem Th.f_ValueError : mg "ValueError" = none := He.free_ok T.X T.G (T.a.fact 97 rfl)
theorem Th.c_MOST_CELLS : ∃ t, mg "MOST_CELLS" = some (.int 16 t) := He.int_ok T.X T.G (T.a.fact 98 rfl)
theorem Th.c_MOST_WIDE : ∃ t, mg "MOST_WIDE" = some (.int 12 t) := He.int_ok T.X T.G (T.a.fact 99 rfl)
theorem Th.c_MOST_NUMBER : ∃ t, mg "MOST_NUMBER" = some (.int 999 t) := He.int_ok T.X T.G (T.a.fact 100 rfl)
theorem Th.c_FEED : ∃ t, mg "FEED" = some (.str "\n" t) := He.str_ok T.X T.G (T.a.fact 101 rfl)
theorem Th.c_KEPT : ∃ t, mg "KEPT" = some (.str "kept" t) := He.str_ok T.X T.G (T.a.fact 102 rfl)
theorem Th.c_WRITE : ∃ t, mg "WRITE" = some (.str "write" t) := He.str_ok T.X T.G (T.a.fact 103 rfl)
theorem Th.c_ANEW : ∃ t, mg "ANEW" = some (.str "anew" t) := He.str_ok T.X T.G (T.a.fact 104 rfl)
theorem Th.c_BLANK : ∃ t, mg "BLANK" = some (.str " " t) := He.str_ok T.X T.G (T.a.fact 105 rfl)
theorem Th.c_DEAL : ∃ t, mg "DEAL" = some (.str "deal" t) := He.str_ok T.X T.G (T.a.fact 106 rfl)
theorem Th.c_FIGURES : ∃ t, mg "FIGURES" = some (.str "0123456789" t) := He.str_ok T.X T.G (T.a.fact 107 rfl)
theorem Th.cl_Memory : Cls K (He.ga K "Memory") := He.cls_ok (T.a.fact 108 rfl)
theorem Th.mk_Memory : Mk K (He.ga K "Memory") (He.ma K (He.ga K "Memory") "__init__") := He.mkr_ok (T.a.fact 109 rfl)
theorem Th.cl_Block : Cls K (He.ga K "Block") := He.cls_ok (T.a.fact 110 rfl)
theorem Th.mk_Block : Mk K (He.ga K "Block") (He.ma K (He.ga K "Block") "__init__") := He.mkr_ok (T.a.fact 111 rfl)
theorem Th.cl_Trial : Cls K (He.ga K "Trial") := He.cls_ok (T.a.fact 112 rfl)
theorem Th.mk_Trial : Mk K (He.ga K "Trial") (He.ma K (He.ga K "Trial") "__init__") := He.mkr_ok (T.a.fact 113 rfl)
theorem Th.n_own_first : NoAttr K (He.ga K "Memory") "own_first" := He.noat_ok (T.a.fact 114 rfl)
theorem Th.n_own_past : NoAttr K (He.ga K "Memory") "own_past" := He.noat_ok (T.a.fact 115 rfl)
theorem Th.n_own_later : NoAttr K (He.ga K "Memory") "own_later" := He.noat_ok (T.a.fact 116 rfl)
theorem Th.n_own_block : NoAttr K (He.ga K "Memory") "own_block" := He.noat_ok (T.a.fact 117 rfl)
theorem Th.n_past_then : NoAttr K (He.ga K "Block") "past_then" := He.noat_ok (T.a.fact 118 rfl)
theorem Th.n_later_then : NoAttr K (He.ga K "Block") "later_then" := He.noat_ok (T.a.fact 119 rfl)
theorem Th.n_around : NoAttr K (He.ga K "Block") "around" := He.noat_ok (T.a.fact 120 rfl)
theorem Th.n_word : NoAttr K (He.ga K "Block") "word" := He.noat_ok (T.a.fact 121 rfl)
theorem Th.n_own_memory : NoAttr K (He.ga K "Trial") "own_memory" := He.noat_ok (T.a.fact 122 rfl)
theorem Th.m_Trial_enter : Meth K (He.ga K "Trial") "__enter__" (He.ma K (He.ga K "Trial") "__enter__") := He.meth_ok (T.a.fact 123 rfl)
theorem Th.m_Trial_exit : Meth K (He.ga K "Trial") "__exit__" (He.ma K (He.ga K "Trial") "__exit__") := He.meth_ok (T.a.fact 124 rfl)
theorem Th.m_Memory_eq : Meth K (He.ga K "Memory") "__eq__" (He.ma K (He.ga K "Memory") "__eq__") := He.meth_ok (T.a.fact 125 rfl)
theorem Th.m_Memory_number_at : Meth K (He.ga K "Memory") "number_at" (He.ma K (He.ga K "Memory") "number_at") := He.meth_ok (T.a.fact 126 rfl)
theorem Th.m_Memory_at : Meth K (He.ga K "Memory") "at" (He.ma K (He.ga K "Memory") "at") := He.meth_ok (T.a.fact 127 rfl)
theorem Th.m_Memory_read : Meth K (He.ga K "Memory") "read" (He.ma K (He.ga K "Memory") "read") := He.meth_ok (T.a.fact 128 rfl)
theorem Th.m_Memory_put : Meth K (He.ga K "Memory") "put" (He.ma K (He.ga K "Memory") "put") := He.meth_ok (T.a.fact 129 rfl)
theorem Th.m_Memory_write : Meth K (He.ga K "Memory") "write" (He.ma K (He.ga K "Memory") "write") := He.meth_ok (T.a.fact 130 rfl)
theorem Th.m_Memory_deal_anew : Meth K (He.ga K "Memory") "deal_anew" (He.ma K (He.ga K "Memory") "deal_anew") := He.meth_ok (T.a.fact 131 rfl)
theorem Th.m_Memory_undo : Meth K (He.ga K "Memory") "undo" (He.ma K (He.ga K "Memory") "undo") := He.meth_ok (T.a.fact 132 rfl)
theorem Th.m_Memory_redo : Meth K (He.ga K "Memory") "redo" (He.ma K (He.ga K "Memory") "redo") := He.meth_ok (T.a.fact 133 rfl)
theorem Th.m_Memory_trial : Meth K (He.ga K "Memory") "trial" (He.ma K (He.ga K "Memory") "trial") := He.meth_ok (T.a.fact 134 rfl)
theorem Th.m_Memory_keep : Meth K (He.ga K "Memory") "keep" (He.ma K (He.ga K "Memory") "keep") := He.meth_ok (T.a.fact 135 rfl)
theorem Th.m_Memory_tried : Meth K (He.ga K "Memory") "tried" (He.ma K (He.ga K "Memory") "tried") := He.meth_ok (T.a.fact 136 rfl)
theorem Th.m_Memory_copy : Meth K (He.ga K "Memory") "copy" (He.ma K (He.ga K "Memory") "copy") := He.meth_ok (T.a.fact 137 rfl)
theorem Th.d_is_integer : ∃ fd, FunD K "is_integer" "is_integer" (defArgs s_is_integer) (defBody s_is_integer) (defScope s_is_integer) [] [] (He.ga K "is_integer") fd := T.a.def_ 0 rfl
theorem Th.d_is_cell : ∃ fd, FunD K "is_cell" "is_cell" (defArgs s_is_cell) (defBody s_is_cell) (defScope s_is_cell) [] [] (He.ga K "is_cell") fd := T.a.def_ 1 rfl
theorem Th.d_check_cell : ∃ fd, FunD K "check_cell" "check_cell" (defArgs s_check_cell) (defBody s_check_cell) (defScope s_check_cell) [] [] (He.ga K "check_cell") fd := T.a.def_ 2 rfl
theorem Th.d_moved : ∃ fd, FunD K "moved" "moved" (defArgs s_moved) (defBody s_moved) (defScope s_moved) [] [] (He.ga K "moved") fd := T.a.def_ 3 rfl
theorem Th.d_less : ∃ fd, FunD K "less" "less" (defArgs s_less) (defBody s_less) (defScope s_less) [] [] (He.ga K "less") fd := T.a.def_ 4 rfl
theorem Th.d_settled : ∃ fd, FunD K "settled" "settled" (defArgs s_settled) (defBody s_settled) (defScope s_settled) [] [] (He.ga K "settled") fd := T.a.def_ 5 rfl
theorem Th.d_is_lot : ∃ fd, FunD K "is_lot" "is_lot" (defArgs s_is_lot) (defBody s_is_lot) (defScope s_is_lot) [] [] (He.ga K "is_lot") fd := T.a.def_ 6 rfl
theorem Th.d_is_shape : ∃ fd, FunD K "is_shape" "is_shape" (defArgs s_is_shape) (defBody s_is_shape) (defScope s_is_shape) [] [] (He.ga K "is_shape") fd := T.a.def_ 7 rfl
theorem Th.d_check_shape : ∃ fd, FunD K "check_shape" "check_shape" (defArgs s_check_shape) (defBody s_check_shape) (defScope s_check_shape) [] [] (He.ga K "check_shape") fd := T.a.def_ 8 rfl
theorem Th.d_is_deal : ∃ fd, FunD K "is_deal" "is_deal" (defArgs s_is_deal) (defBody s_is_deal) (defScope s_is_deal) [] [] (He.ga K "is_deal") fd := T.a.def_ 9 rfl
theorem Th.d_check_deal : ∃ fd, FunD K "check_deal" "check_deal" (defArgs s_check_deal) (defBody s_check_deal) (defScope s_check_deal) [] [] (He.ga K "check_deal") fd := T.a.def_ 10 rfl
theorem Th.d_bank_of : ∃ fd, FunD K "bank_of" "bank_of" (defArgs s_bank_of) (defBody s_bank_of) (defScope s_bank_of) [] [] (He.ga K "bank_of") fd := T.a.def_ 11 rfl
theorem Th.d_beats_of : ∃ fd, FunD K "beats_of" "beats_of" (defArgs s_beats_of) (defBody s_beats_of) (defScope s_beats_of) [] [] (He.ga K "beats_of") fd := T.a.def_ 12 rfl
theorem Th.d_Block_init : ∃ fd, FunD K "__init__" "Block.__init__" (defArgs s_Block_init) (defBody s_Block_init) (defScope s_Block_init) [] [] (He.ma K (He.ga K "Block") "__init__") fd := T.a.def_ 13 rfl
theorem Th.d_Trial_init : ∃ fd, FunD K "__init__" "Trial.__init__" (defArgs s_Trial_init) (defBody s_Trial_init) (defScope s_Trial_init) [] [] (He.ma K (He.ga K "Trial") "__init__") fd := T.a.def_ 14 rfl
theorem Th.d_Trial_enter : ∃ fd, FunD K "__enter__" "Trial.__enter__" (defArgs s_Trial_enter) (defBody s_Trial_enter) (defScope s_Trial_enter) [] [] (He.ma K (He.ga K "Trial") "__enter__") fd := T.a.def_ 15 rfl
theorem Th.d_Trial_exit : ∃ fd, FunD K "__exit__" "Trial.__exit__" (defArgs s_Trial_exit) (defBody s_Trial_exit) (defScope s_Trial_exit) [] [] (He.ma K (He.ga K "Trial") "__exit__") fd := T.a.def_ 16 rfl
theorem Th.d_deed_text : ∃ fd, FunD K "deed_text" "deed_text" (defArgs s_deed_text) (defBody s_deed_text) (defScope s_deed_text) [] [] (He.ga K "deed_text") fd := T.a.def_ 17 rfl
theorem Th.d_Memory_init : ∃ fd, FunD K "__init__" "Memory.__init__" (defArgs s_Memory_init) (defBody s_Memory_init) (defScope s_Memory_init) [] [] (He.ma K (He.ga K "Memory") "__init__") fd := T.a.def_ 18 rfl
theorem Th.d_Memory_eq : ∃ fd, FunD K "__eq__" "Memory.__eq__" (defArgs s_Memory_eq) (defBody s_Memory_eq) (defScope s_Memory_eq) [] [] (He.ma K (He.ga K "Memory") "__eq__") fd := T.a.def_ 19 rfl
theorem Th.d_Memory_first : ∃ fd, FunD K "first" "Memory.first" (defArgs s_Memory_first) (defBody s_Memory_first) (defScope s_Memory_first) [] [] (getterA K (He.ga K "Memory") "first") fd := T.a.def_ 20 rfl
theorem Th.d_Memory_deal : ∃ fd, FunD K "deal" "Memory.deal" (defArgs s_Memory_deal) (defBody s_Memory_deal) (defScope s_Memory_deal) [] [] (getterA K (He.ga K "Memory") "deal") fd := T.a.def_ 21 rfl
theorem Th.d_Memory_done : ∃ fd, FunD K "done" "Memory.done" (defArgs s_Memory_done) (defBody s_Memory_done) (defScope s_Memory_done) [] [] (getterA K (He.ga K "Memory") "done") fd := T.a.def_ 22 rfl
theorem Th.d_Memory_spent : ∃ fd, FunD K "spent" "Memory.spent" (defArgs s_Memory_spent) (defBody s_Memory_spent) (defScope s_Memory_spent) [] [] (getterA K (He.ga K "Memory") "spent") fd := T.a.def_ 23 rfl
theorem Th.d_Memory_number_at : ∃ fd, FunD K "number_at" "Memory.number_at" (defArgs s_Memory_number_at) (defBody s_Memory_number_at) (defScope s_Memory_number_at) [] [] (He.ma K (He.ga K "Memory") "number_at") fd := T.a.def_ 24 rfl
theorem Th.d_Memory_at : ∃ fd, FunD K "at" "Memory.at" (defArgs s_Memory_at) (defBody s_Memory_at) (defScope s_Memory_at) [] [] (He.ma K (He.ga K "Memory") "at") fd := T.a.def_ 25 rfl
theorem Th.d_Memory_read : ∃ fd, FunD K "read" "Memory.read" (defArgs s_Memory_read) (defBody s_Memory_read) (defScope s_Memory_read) [] [] (He.ma K (He.ga K "Memory") "read") fd := T.a.def_ 26 rfl
theorem Th.d_Memory_put : ∃ fd, FunD K "put" "Memory.put" (defArgs s_Memory_put) (defBody s_Memory_put) (defScope s_Memory_put) [] [] (He.ma K (He.ga K "Memory") "put") fd := T.a.def_ 27 rfl
theorem Th.d_Memory_write : ∃ fd, FunD K "write" "Memory.write" (defArgs s_Memory_write) (defBody s_Memory_write) (defScope s_Memory_write) [] [] (He.ma K (He.ga K "Memory") "write") fd := T.a.def_ 28 rfl
theorem Th.d_Memory_deal_anew : ∃ fd, FunD K "deal_anew" "Memory.deal_anew" (defArgs s_Memory_deal_anew) (defBody s_Memory_deal_anew) (defScope s_Memory_deal_anew) [] [] (He.ma K (He.ga K "Memory") "deal_anew") fd := T.a.def_ 29 rfl
theorem Th.d_Memory_undo : ∃ fd, FunD K "undo" "Memory.undo" (defArgs s_Memory_undo) (defBody s_Memory_undo) (defScope s_Memory_undo) [] [] (He.ma K (He.ga K "Memory") "undo") fd := T.a.def_ 30 rfl
theorem Th.d_Memory_redo : ∃ fd, FunD K "redo" "Memory.redo" (defArgs s_Memory_redo) (defBody s_Memory_redo) (defScope s_Memory_redo) [] [] (He.ma K (He.ga K "Memory") "redo") fd := T.a.def_ 31 rfl
theorem Th.d_Memory_trial : ∃ fd, FunD K "trial" "Memory.trial" (defArgs s_Memory_trial) (defBody s_Memory_trial) (defScope s_Memory_trial) [] [] (He.ma K (He.ga K "Memory") "trial") fd := T.a.def_ 32 rfl
theorem Th.d_Memory_keep : ∃ fd, FunD K "keep" "Memory.keep" (defArgs s_Memory_keep) (defBody s_Memory_keep) (defScope s_Memory_keep) [] [] (He.ma K (He.ga K "Memory") "keep") fd := T.a.def_ 33 rfl
theorem Th.d_Memory_tried : ∃ fd, FunD K "tried" "Memory.tried" (defArgs s_Memory_tried) (defBody s_Memory_tried) (defScope s_Memory_tried) [] [("keep", .bl false)] (He.ma K (He.ga K "Memory") "tried") fd := T.a.def_ 34 rfl
theorem Th.d_Memory_copy : ∃ fd, FunD K "copy" "Memory.copy" (defArgs s_Memory_copy) (defBody s_Memory_copy) (defScope s_Memory_copy) [] [] (He.ma K (He.ga K "Memory") "copy") fd := T.a.def_ 35 rfl
theorem Th.d_integer_in : ∃ fd, FunD K "integer_in" "integer_in" (defArgs s_integer_in) (defBody s_integer_in) (defScope s_integer_in) [] [] (He.ga K "integer_in") fd := T.a.def_ 36 rfl
theorem Th.d_integers_in : ∃ fd, FunD K "integers_in" "integers_in" (defArgs s_integers_in) (defBody s_integers_in) (defScope s_integers_in) [] [] (He.ga K "integers_in") fd := T.a.def_ 37 rfl
theorem Th.d_cell_in : ∃ fd, FunD K "cell_in" "cell_in" (defArgs s_cell_in) (defBody s_cell_in) (defScope s_cell_in) [] [] (He.ga K "cell_in") fd := T.a.def_ 38 rfl
theorem Th.d_cells_in : ∃ fd, FunD K "cells_in" "cells_in" (defArgs s_cells_in) (defBody s_cells_in) (defScope s_cells_in) [] [] (He.ga K "cells_in") fd := T.a.def_ 39 rfl
theorem Th.d_write_in : ∃ fd, FunD K "write_in" "write_in" (defArgs s_write_in) (defBody s_write_in) (defScope s_write_in) [] [] (He.ga K "write_in") fd := T.a.def_ 40 rfl
theorem Th.d_deed_in : ∃ fd, FunD K "deed_in" "deed_in" (defArgs s_deed_in) (defBody s_deed_in) (defScope s_deed_in) [] [] (He.ga K "deed_in") fd := T.a.def_ 41 rfl
theorem Th.d_do_deed : ∃ fd, FunD K "do_deed" "do_deed" (defArgs s_do_deed) (defBody s_do_deed) (defScope s_do_deed) [] [] (He.ga K "do_deed") fd := T.a.def_ 42 rfl
theorem Th.d_journal : ∃ fd, FunD K "journal" "journal" (defArgs s_journal) (defBody s_journal) (defScope s_journal) [] [] (He.ga K "journal") fd := T.a.def_ 43 rfl
theorem Th.d_begun : ∃ fd, FunD K "begun" "begun" (defArgs s_begun) (defBody s_begun) (defScope s_begun) [] [] (He.ga K "begun") fd := T.a.def_ 44 rfl
theorem Th.d_read_journal : ∃ fd, FunD K "read_journal" "read_journal" (defArgs s_read_journal) (defBody s_read_journal) (defScope s_read_journal) [] [] (He.ga K "read_journal") fd := T.a.def_ 45 rfl
theorem Th.d_law_pot : ∃ fd, FunD K "_law_pot" "_law_pot" (defArgs s_law_pot) (defBody s_law_pot) (defScope s_law_pot) [] [] (He.ga K "_law_pot") fd := T.a.def_ 46 rfl
theorem Th.d_law_take : ∃ fd, FunD K "_law_take" "_law_take" (defArgs s_law_take) (defBody s_law_take) (defScope s_law_take) [] [] (He.ga K "_law_take") fd := T.a.def_ 47 rfl
theorem Th.d_law_of : ∃ fd, FunD K "_law_of" "_law_of" (defArgs s_law_of) (defBody s_law_of) (defScope s_law_of) [] [] (He.ga K "_law_of") fd := T.a.def_ 48 rfl
theorem Th.d_law_some : ∃ fd, FunD K "_law_some" "_law_some" (defArgs s_law_some) (defBody s_law_some) (defScope s_law_some) [] [] (He.ga K "_law_some") fd := T.a.def_ 49 rfl
theorem Th.d_law_cells : ∃ fd, FunD K "_law_cells" "_law_cells" (defArgs s_law_cells) (defBody s_law_cells) (defScope s_law_cells) [] [] (He.ga K "_law_cells") fd := T.a.def_ 50 rfl
theorem Th.d_law_heard : ∃ fd, FunD K "_law_heard" "_law_heard" (defArgs s_law_heard) (defBody s_law_heard) (defScope s_law_heard) [] [] (He.ga K "_law_heard") fd := T.a.def_ 51 rfl
theorem Th.d_law_odd : ∃ fd, FunD K "_law_odd" "_law_odd" (defArgs s_law_odd) (defBody s_law_odd) (defScope s_law_odd) [] [] (He.ga K "_law_odd") fd := T.a.def_ 52 rfl
theorem Th.d_law_is_int : ∃ fd, FunD K "_law_is_int" "_law_is_int" (defArgs s_law_is_int) (defBody s_law_is_int) (defScope s_law_is_int) [] [] (He.ga K "_law_is_int") fd := T.a.def_ 53 rfl
theorem Th.d_law_is_cell : ∃ fd, FunD K "_law_is_cell" "_law_is_cell" (defArgs s_law_is_cell) (defBody s_law_is_cell) (defScope s_law_is_cell) [] [] (He.ga K "_law_is_cell") fd := T.a.def_ 54 rfl
theorem Th.d_law_moved : ∃ fd, FunD K "_law_moved" "_law_moved" (defArgs s_law_moved) (defBody s_law_moved) (defScope s_law_moved) [] [] (He.ga K "_law_moved") fd := T.a.def_ 55 rfl
theorem Th.d_law_settled : ∃ fd, FunD K "_law_settled" "_law_settled" (defArgs s_law_settled) (defBody s_law_settled) (defScope s_law_settled) [] [] (He.ga K "_law_settled") fd := T.a.def_ 56 rfl
theorem Th.d_law_is_lot : ∃ fd, FunD K "_law_is_lot" "_law_is_lot" (defArgs s_law_is_lot) (defBody s_law_is_lot) (defScope s_law_is_lot) [] [] (He.ga K "_law_is_lot") fd := T.a.def_ 57 rfl
theorem Th.d_law_is_shape : ∃ fd, FunD K "_law_is_shape" "_law_is_shape" (defArgs s_law_is_shape) (defBody s_law_is_shape) (defScope s_law_is_shape) [] [] (He.ga K "_law_is_shape") fd := T.a.def_ 58 rfl
theorem Th.d_law_loose : ∃ fd, FunD K "_law_loose" "_law_loose" (defArgs s_law_loose) (defBody s_law_loose) (defScope s_law_loose) [] [] (He.ga K "_law_loose") fd := T.a.def_ 59 rfl
theorem Th.d_law_is_deal : ∃ fd, FunD K "_law_is_deal" "_law_is_deal" (defArgs s_law_is_deal) (defBody s_law_is_deal) (defScope s_law_is_deal) [] [] (He.ga K "_law_is_deal") fd := T.a.def_ 60 rfl
theorem Th.d_law_bank : ∃ fd, FunD K "_law_bank" "_law_bank" (defArgs s_law_bank) (defBody s_law_bank) (defScope s_law_bank) [] [] (He.ga K "_law_bank") fd := T.a.def_ 61 rfl
theorem Th.d_law_beats : ∃ fd, FunD K "_law_beats" "_law_beats" (defArgs s_law_beats) (defBody s_law_beats) (defScope s_law_beats) [] [] (He.ga K "_law_beats") fd := T.a.def_ 62 rfl
theorem Th.d_law_drawn_deal : ∃ fd, FunD K "_law_drawn_deal" "_law_drawn_deal" (defArgs s_law_drawn_deal) (defBody s_law_drawn_deal) (defScope s_law_drawn_deal) [] [] (He.ga K "_law_drawn_deal") fd := T.a.def_ 63 rfl
theorem Th.d_law_a_cell : ∃ fd, FunD K "_law_a_cell" "_law_a_cell" (defArgs s_law_a_cell) (defBody s_law_a_cell) (defScope s_law_a_cell) [] [] (He.ga K "_law_a_cell") fd := T.a.def_ 64 rfl
theorem Th.d_law_day : ∃ fd, FunD K "_law_day" "_law_day" (defArgs s_law_day) (defBody s_law_day) (defScope s_law_day) [] [] (He.ga K "_law_day") fd := T.a.def_ 65 rfl
theorem Th.d_law_deal_now : ∃ fd, FunD K "_law_deal_now" "_law_deal_now" (defArgs s_law_deal_now) (defBody s_law_deal_now) (defScope s_law_deal_now) [] [] (He.ga K "_law_deal_now") fd := T.a.def_ 66 rfl
theorem Th.d_law_spent : ∃ fd, FunD K "_law_spent" "_law_spent" (defArgs s_law_spent) (defBody s_law_spent) (defScope s_law_spent) [] [] (He.ga K "_law_spent") fd := T.a.def_ 67 rfl
theorem Th.d_law_held : ∃ fd, FunD K "_law_held" "_law_held" (defArgs s_law_held) (defBody s_law_held) (defScope s_law_held) [] [] (He.ga K "_law_held") fd := T.a.def_ 68 rfl
theorem Th.d_law_do : ∃ fd, FunD K "_law_do" "_law_do" (defArgs s_law_do) (defBody s_law_do) (defScope s_law_do) [] [] (He.ga K "_law_do") fd := T.a.def_ 69 rfl
theorem Th.d_law_refusal : ∃ fd, FunD K "_law_refusal" "_law_refusal" (defArgs s_law_refusal) (defBody s_law_refusal) (defScope s_law_refusal) [] [] (He.ga K "_law_refusal") fd := T.a.def_ 70 rfl
theorem Th.d_law_led : ∃ fd, FunD K "_law_led" "_law_led" (defArgs s_law_led) (defBody s_law_led) (defScope s_law_led) [] [] (He.ga K "_law_led") fd := T.a.def_ 71 rfl
theorem Th.d_law_back : ∃ fd, FunD K "_law_back" "_law_back" (defArgs s_law_back) (defBody s_law_back) (defScope s_law_back) [] [] (He.ga K "_law_back") fd := T.a.def_ 72 rfl
theorem Th.d_law_again : ∃ fd, FunD K "_law_again" "_law_again" (defArgs s_law_again) (defBody s_law_again) (defScope s_law_again) [] [] (He.ga K "_law_again") fd := T.a.def_ 73 rfl
theorem Th.d_law_is_memory : ∃ fd, FunD K "_law_is_memory" "_law_is_memory" (defArgs s_law_is_memory) (defBody s_law_is_memory) (defScope s_law_is_memory) [] [] (He.ga K "_law_is_memory") fd := T.a.def_ 74 rfl
theorem Th.d_law_a_deed : ∃ fd, FunD K "_law_a_deed" "_law_a_deed" (defArgs s_law_a_deed) (defBody s_law_a_deed) (defScope s_law_a_deed) [] [] (He.ga K "_law_a_deed") fd := T.a.def_ 75 rfl
theorem Th.d_law_around : ∃ fd, FunD K "_law_around" "_law_around" (defArgs s_law_around) (defBody s_law_around) (defScope s_law_around) [] [] (He.ga K "_law_around") fd := T.a.def_ 76 rfl
theorem Th.d_law_gone : ∃ fd, FunD K "_law_gone" "_law_gone" (defArgs s_law_gone) (defBody s_law_gone) (defScope s_law_gone) [] [] (He.ga K "_law_gone") fd := T.a.def_ 77 rfl
theorem Th.d_law_line : ∃ fd, FunD K "_law_line" "_law_line" (defArgs s_law_line) (defBody s_law_line) (defScope s_law_line) [] [] (He.ga K "_law_line") fd := T.a.def_ 78 rfl
theorem Th.d_law_journal : ∃ fd, FunD K "_law_journal" "_law_journal" (defArgs s_law_journal) (defBody s_law_journal) (defScope s_law_journal) [] [] (He.ga K "_law_journal") fd := T.a.def_ 79 rfl
theorem Th.d_law_fro : ∃ fd, FunD K "_law_fro" "_law_fro" (defArgs s_law_fro) (defBody s_law_fro) (defScope s_law_fro) [] [] (He.ga K "_law_fro") fd := T.a.def_ 80 rfl
theorem Th.d_law_is_outside : ∃ fd, FunD K "_law_is_outside" "_law_is_outside" (defArgs s_law_is_outside) (defBody s_law_is_outside) (defScope s_law_is_outside) [] [] (He.ga K "_law_is_outside") fd := T.a.def_ 81 rfl
theorem Th.d_law_inner : ∃ fd, FunD K "_law_inner" "_law_inner" (defArgs s_law_inner) (defBody s_law_inner) (defScope s_law_inner) [] [] (He.ga K "_law_inner") fd := T.a.def_ 82 rfl
theorem Th.d_law_block : ∃ fd, FunD K "_law_block" "_law_block" (defArgs s_law_block) (defBody s_law_block) (defScope s_law_block) [] [] (He.ga K "_law_block") fd := T.a.def_ 83 rfl
theorem Th.d_law_is_long_right : ∃ fd, FunD K "_law_is_long_right" "_law_is_long_right" (defArgs s_law_is_long_right) (defBody s_law_is_long_right) (defScope s_law_is_long_right) [] [] (He.ga K "_law_is_long_right") fd := T.a.def_ 84 rfl
theorem Th.d_law_right : ∃ fd, FunD K "_law_right" "_law_right" (defArgs s_law_right) (defBody s_law_right) (defScope s_law_right) [] [] (He.ga K "_law_right") fd := T.a.def_ 85 rfl
theorem Th.d_law : ∃ fd, FunD K "law" "law" (defArgs s_law) (defBody s_law) (defScope s_law) [] [] (He.ga K "law") fd := T.a.def_ 86 rfl
theorem Th.e_SameDeal : ErrC K (He.ga K "SameDeal") := errC_of (T.ex (b := errB "SameDeal") (by simp [exs]))
theorem Th.e_NothingToUndo : ErrC K (He.ga K "NothingToUndo") := errC_of (T.ex (b := errB "NothingToUndo") (by simp [exs]))
theorem Th.e_NothingToRedo : ErrC K (He.ga K "NothingToRedo") := errC_of (T.ex (b := errB "NothingToRedo") (by simp [exs]))
theorem Th.e_NoTrial : ErrC K (He.ga K "NoTrial") := errC_of (T.ex (b := errB "NoTrial") (by simp [exs]))
theorem Th.p_first : propB "first" K = true := T.ex (by simp [exs])
theorem Th.p_deal : propB "deal" K = true := T.ex (by simp [exs])
theorem Th.p_done : propB "done" K = true := T.ex (by simp [exs])
theorem Th.p_spent : propB "spent" K = true := T.ex (by simp [exs])
theorem Th.kb : classB K = true := T.ex (by simp [exs])
theorem Th.nst : PySem.W.nsIn K cStatics "thirdparty.any" = some none := by
  have h := T.kb
  unfold classB at h
  exact He.eqO_ok (and2 (and2 (and2 (and2 (and2 (and2 h).2).2).2).2).2).1
theorem Th.k_cls : PySem.W.findIn K (.ref (Memo K)) "__class__" = some (some (.builtin "object.__class__")) := by
  have h := T.kb
  unfold classB at h
  exact He.eqO_ok (and2 h).1
theorem Th.k_get : PySem.W.specialIn K (.builtin "object.__class__") "__get__" = some (some (.builtin "getset_descriptor.__get__")) := by
  have h := T.kb
  unfold classB at h
  exact He.eqO_ok (and2 (and2 h).2).1
theorem Th.k_tk : PySem.W.takesIn K (.builtin "object.__class__") = some true := by
  have h := T.kb
  unfold classB at h
  exact of_decide_eq_true (and2 (and2 (and2 h).2).2).1
theorem Th.k_obj : PySem.W.mroIn K (Memo K) (.type "object") = some true := by
  have h := T.kb
  unfold classB at h
  exact of_decide_eq_true (and2 (and2 (and2 (and2 h).2).2).2).1
theorem Th.k_kit : PySem.W.kitOne K (.ref (Memo K)) (.ref (Memo K)) = some true := by
  have h := T.kb
  unfold classB at h
  exact of_decide_eq_true (and2 (and2 (and2 (and2 (and2 h).2).2).2).2).1
theorem Th.k_ne : PySem.W.findIn K (.ref (Memo K)) "__ne__" = some (some (.builtin "object.__ne__")) := by
  have h := T.kb
  unfold classB at h
  exact He.eqO_ok (and2 (and2 (and2 (and2 (and2 (and2 h).2).2).2).2).2).2
theorem Th.ef : ErrF K := errF_of (T.ex (b := initB) (by simp [exs])) T.i T.nst (T.ex (b := fun K => (PySem.W.clsIn K (He.ga K "BeatError")).isSome) (by simp [exs]))
theorem Th.okE : FnG P w K mg base 2 (fErrInit K) (fdOf K (fErrInit K)) ["self", "value"] (spErr K) := ok_err T.ef T.pf T.ps T.f_super T.f_repr
theorem Th.t1 : (tfs.map fun p => (He.cT K p).2).Nodup := of_decide_eq_true (T.ex (b := tabsB1) (by simp [exs]))
theorem Th.t2 (p : He.Defn) (h : p ∈ tfs) : mainGlobals ≠ (He.cT K p).2 := of_decide_eq_true (List.all_eq_true.mp (T.ex (b := tabsB2) (by simp [exs])) p h)
theorem Th.tI : PySem.W.typeIn K (.ref (fErrInit K)) = some (.type "function") := by
  obtain ⟨od, osl, kV, doc, pm, an, ct, cda, cc, ccl, cdd, vsc, ccs, file, tf, cl, cld, csl, lk, _⟩ := T.ef.fn
  show (K.lookup (fErrInit K)).map (·.cls) = _
  rw [lk]
  rfl
theorem Th.bI : Binds K (fdOf K (fErrInit K)) ["self", "value"] [] := by
  obtain ⟨od, osl, kV, doc, pm, an, ct, cda, cc, ccl, cdd, vsc, ccs, file, tf, cl, cld, csl, lk, _⟩ := T.ef.fn
  rw [fdOf_eq lk]
  exact .all fun us hl => match us, hl with | [_, _], _ => rfl
end
section
variable {X : Cx} {x : Str} {p : Pos}
/-- a constant of the module, an int or a text -/
theorem pe_gi {i : Int} (h : ∃ t, X.mg x = some (.int i t)) (gl : Gl X x := by rfl) (hdb : (x == ("__debug__" : Str)) = false := by decide) : PE X (.Name x p) (tC (.int i)) := by
  obtain ⟨t, h⟩ := h
  exact pe_glob gl h ⟨t, rfl⟩ hdb
theorem pe_gs {z : Str} (h : ∃ t, X.mg x = some (.str z t)) (gl : Gl X x := by rfl) (hdb : (x == ("__debug__" : Str)) = false := by decide) : PE X (.Name x p) (tC (.str z)) := by
  obtain ⟨t, h⟩ := h
  exact pe_glob gl h ⟨t, rfl⟩ hdb
/-- raise X(v) -/
theorem ps_err {P : Program} {w : World} {K : PySem.W.Frag} {mg : Str → Option Value} {base : Heap} {N : List Str} {qual : Str} {scope : Scope} {f : Addr} {cdv : Value} {A : Around} {outer : List Env} {s : Shared} {H : Hp} {E : XK} {k : Nat} {C : Addr} {e : Expr} {ta : TA} {pos p2 : Pos}
    (T : Th P K mg base) (EC : ErrC K C) (hm : mg x = some (.ref C)) (hg : A.guards = some []) (hr : Room k (A.deeper (envOfC qual scope s.heap.objs.size f cdv)))
    (ha : PA (cxOf (CXX P w) P w K mg base N qual scope f cdv A outer s H E) [e] ta) (hk : 3 ≤ k := by decide) (gl : Gl (cxOf (CXX P w) P w K mg base N qual scope f cdv A outer s H E) x := by rfl)
    (hdb : (x == ("__debug__" : Str)) = false := by decide) (he : starEach [e] (cxOf (CXX P w) P w K mg base N qual scope f cdv A outer s H E).env = (false, eval e (cxOf (CXX P w) P w K mg base N qual scope f cdv A outer s H E).env) :: starEach [] (cxOf (CXX P w) P w K mg base N qual scope f cdv A outer s H E).env := by rfl) :
    PS (cxOf (CXX P w) P w K mg base N qual scope f cdv A outer s H E) (.Raise (some (.Call (.Name x p) [e] [] p2)) none pos) (fun _ σ H => tErrMk K C ta σ H fun cls d H' => E cls d H') :=
  ps_raise rfl (takes_of rfl rfl rfl rfl) (pmk_err (X := cxOf (CXX P w) P w K mg base N qual scope f cdv A outer s H E) EC T.tI T.okE T.bI hm hg hr ha hk gl hdb he rfl)
end
abbrev N_is_integer : List Str := ["value"]
theorem sc_is_integer : FnScope N_is_integer ["value"] (defScope s_is_integer) := ⟨rfl, rfl, rfl, by decide +kernel, rfl, by decide +kernel, by decide +kernel⟩
abbrev N_is_cell : List Str := ["value", "one"]
theorem sc_is_cell : FnScope N_is_cell ["value"] (defScope s_is_cell) := ⟨rfl, rfl, rfl, by decide +kernel, rfl, by decide +kernel, by decide +kernel⟩
abbrev N_check_cell : List Str := ["value"]
theorem sc_check_cell : FnScope N_check_cell ["value"] (defScope s_check_cell) := ⟨rfl, rfl, rfl, by decide +kernel, rfl, by decide +kernel, by decide +kernel⟩
abbrev N_moved : List Str := ["cell", "shift"]
theorem sc_moved : FnScope N_moved ["cell", "shift"] (defScope s_moved) := ⟨rfl, rfl, rfl, by decide +kernel, rfl, by decide +kernel, by decide +kernel⟩
abbrev N_less : List Str := ["cell", "other"]
theorem sc_less : FnScope N_less ["cell", "other"] (defScope s_less) := ⟨rfl, rfl, rfl, by decide +kernel, rfl, by decide +kernel, by decide +kernel⟩
abbrev N_settled : List Str := ["cells", "corner", "cell"]
theorem sc_settled : FnScope N_settled ["cells"] (defScope s_settled) := ⟨rfl, rfl, rfl, by decide +kernel, rfl, by decide +kernel, by decide +kernel⟩
abbrev N_is_lot : List Str := ["value", "cell", "at", "place", "some"]
theorem sc_is_lot : FnScope N_is_lot ["value"] (defScope s_is_lot) := ⟨rfl, rfl, rfl, by decide +kernel, rfl, by decide +kernel, by decide +kernel⟩
abbrev N_is_shape : List Str := ["value"]
theorem sc_is_shape : FnScope N_is_shape ["value"] (defScope s_is_shape) := ⟨rfl, rfl, rfl, by decide +kernel, rfl, by decide +kernel, by decide +kernel⟩
abbrev N_check_shape : List Str := ["value"]
theorem sc_check_shape : FnScope N_check_shape ["value"] (defScope s_check_shape) := ⟨rfl, rfl, rfl, by decide +kernel, rfl, by decide +kernel, by decide +kernel⟩
abbrev N_is_deal : List Str := ["value", "one", "p", "q", "r"]
theorem sc_is_deal : FnScope N_is_deal ["value"] (defScope s_is_deal) := ⟨rfl, rfl, rfl, by decide +kernel, rfl, by decide +kernel, by decide +kernel⟩
abbrev N_check_deal : List Str := ["value"]
theorem sc_check_deal : FnScope N_check_deal ["value"] (defScope s_check_deal) := ⟨rfl, rfl, rfl, by decide +kernel, rfl, by decide +kernel, by decide +kernel⟩
abbrev N_bank_of : List Str := ["deal", "cell", "p", "q", "r", "x", "y"]
theorem sc_bank_of : FnScope N_bank_of ["deal", "cell"] (defScope s_bank_of) := ⟨rfl, rfl, rfl, by decide +kernel, rfl, by decide +kernel, by decide +kernel⟩
abbrev N_beats_of : List Str := ["deal", "shape", "banks", "cell", "one"]
theorem sc_beats_of : FnScope N_beats_of ["deal", "shape"] (defScope s_beats_of) := ⟨rfl, rfl, rfl, by decide +kernel, rfl, by decide +kernel, by decide +kernel⟩
abbrev N_Block_init : List Str := ["self", "memory"]
theorem sc_Block_init : FnScope N_Block_init ["self", "memory"] (defScope s_Block_init) := ⟨rfl, rfl, rfl, by decide +kernel, rfl, by decide +kernel, by decide +kernel⟩
abbrev N_Trial_init : List Str := ["self", "memory"]
theorem sc_Trial_init : FnScope N_Trial_init ["self", "memory"] (defScope s_Trial_init) := ⟨rfl, rfl, rfl, by decide +kernel, rfl, by decide +kernel, by decide +kernel⟩
abbrev N_Trial_enter : List Str := ["self"]
theorem sc_Trial_enter : FnScope N_Trial_enter ["self"] (defScope s_Trial_enter) := ⟨rfl, rfl, rfl, by decide +kernel, rfl, by decide +kernel, by decide +kernel⟩
abbrev N_Trial_exit : List Str := ["self", "kind", "error", "trace"]
theorem sc_Trial_exit : FnScope N_Trial_exit ["self", "kind", "error", "trace"] (defScope s_Trial_exit) := ⟨rfl, rfl, rfl, by decide +kernel, rfl, by decide +kernel, by decide +kernel⟩
abbrev N_deed_text : List Str := ["deed", "one", "word", "shape", "place", "numbers", "cells", "x", "y", "number"]
theorem sc_deed_text : FnScope N_deed_text ["deed"] (defScope s_deed_text) := ⟨rfl, rfl, rfl, by decide +kernel, rfl, by decide +kernel, by decide +kernel⟩
abbrev N_Memory_init : List Str := ["self", "deal"]
theorem sc_Memory_init : FnScope N_Memory_init ["self", "deal"] (defScope s_Memory_init) := ⟨rfl, rfl, rfl, by decide +kernel, rfl, by decide +kernel, by decide +kernel⟩
abbrev N_Memory_eq : List Str := ["self", "other"]
theorem sc_Memory_eq : FnScope N_Memory_eq ["self", "other"] (defScope s_Memory_eq) := ⟨rfl, rfl, rfl, by decide +kernel, rfl, by decide +kernel, by decide +kernel⟩
abbrev N_Memory_first : List Str := ["self"]
theorem sc_Memory_first : FnScope N_Memory_first ["self"] (defScope s_Memory_first) := ⟨rfl, rfl, rfl, by decide +kernel, rfl, by decide +kernel, by decide +kernel⟩
abbrev N_Memory_deal : List Str := ["self", "found", "deed", "beats"]
theorem sc_Memory_deal : FnScope N_Memory_deal ["self"] (defScope s_Memory_deal) := ⟨rfl, rfl, rfl, by decide +kernel, rfl, by decide +kernel, by decide +kernel⟩
abbrev N_Memory_done : List Str := ["self"]
theorem sc_Memory_done : FnScope N_Memory_done ["self"] (defScope s_Memory_done) := ⟨rfl, rfl, rfl, by decide +kernel, rfl, by decide +kernel, by decide +kernel⟩
abbrev N_Memory_spent : List Str := ["self", "deed", "beats"]
theorem sc_Memory_spent : FnScope N_Memory_spent ["self"] (defScope s_Memory_spent) := ⟨rfl, rfl, rfl, by decide +kernel, rfl, by decide +kernel, by decide +kernel⟩
abbrev N_Memory_number_at : List Str := ["self", "cell", "deed", "beats"]
theorem sc_Memory_number_at : FnScope N_Memory_number_at ["self", "cell"] (defScope s_Memory_number_at) := ⟨rfl, rfl, rfl, by decide +kernel, rfl, by decide +kernel, by decide +kernel⟩
abbrev N_Memory_at : List Str := ["self", "cell"]
theorem sc_Memory_at : FnScope N_Memory_at ["self", "cell"] (defScope s_Memory_at) := ⟨rfl, rfl, rfl, by decide +kernel, rfl, by decide +kernel, by decide +kernel⟩
abbrev N_Memory_read : List Str := ["self", "shape", "place", "cell"]
theorem sc_Memory_read : FnScope N_Memory_read ["self", "shape", "place"] (defScope s_Memory_read) := ⟨rfl, rfl, rfl, by decide +kernel, rfl, by decide +kernel, by decide +kernel⟩
abbrev N_Memory_put : List Str := ["self", "deed", "beats"]
theorem sc_Memory_put : FnScope N_Memory_put ["self", "deed", "beats"] (defScope s_Memory_put) := ⟨rfl, rfl, rfl, by decide +kernel, rfl, by decide +kernel, by decide +kernel⟩
abbrev N_Memory_write : List Str := ["self", "shape", "place", "numbers", "one"]
theorem sc_Memory_write : FnScope N_Memory_write ["self", "shape", "place", "numbers"] (defScope s_Memory_write) := ⟨rfl, rfl, rfl, by decide +kernel, rfl, by decide +kernel, by decide +kernel⟩
abbrev N_Memory_deal_anew : List Str := ["self", "deal"]
theorem sc_Memory_deal_anew : FnScope N_Memory_deal_anew ["self", "deal"] (defScope s_Memory_deal_anew) := ⟨rfl, rfl, rfl, by decide +kernel, rfl, by decide +kernel, by decide +kernel⟩
abbrev N_Memory_undo : List Str := ["self"]
theorem sc_Memory_undo : FnScope N_Memory_undo ["self"] (defScope s_Memory_undo) := ⟨rfl, rfl, rfl, by decide +kernel, rfl, by decide +kernel, by decide +kernel⟩
abbrev N_Memory_redo : List Str := ["self"]
theorem sc_Memory_redo : FnScope N_Memory_redo ["self"] (defScope s_Memory_redo) := ⟨rfl, rfl, rfl, by decide +kernel, rfl, by decide +kernel, by decide +kernel⟩
abbrev N_Memory_trial : List Str := ["self"]
theorem sc_Memory_trial : FnScope N_Memory_trial ["self"] (defScope s_Memory_trial) := ⟨rfl, rfl, rfl, by decide +kernel, rfl, by decide +kernel, by decide +kernel⟩
abbrev N_Memory_keep : List Str := ["self"]
theorem sc_Memory_keep : FnScope N_Memory_keep ["self"] (defScope s_Memory_keep) := ⟨rfl, rfl, rfl, by decide +kernel, rfl, by decide +kernel, by decide +kernel⟩
abbrev N_Memory_tried : List Str := ["self", "look", "keep", "found"]
theorem sc_Memory_tried : FnScope N_Memory_tried ["self", "look", "keep"] (defScope s_Memory_tried) := ⟨rfl, rfl, rfl, by decide +kernel, rfl, by decide +kernel, by decide +kernel⟩
abbrev N_Memory_copy : List Str := ["self", "found"]
theorem sc_Memory_copy : FnScope N_Memory_copy ["self"] (defScope s_Memory_copy) := ⟨rfl, rfl, rfl, by decide +kernel, rfl, by decide +kernel, by decide +kernel⟩
abbrev N_integer_in : List Str := ["word", "size", "sign"]
theorem sc_integer_in : FnScope N_integer_in ["word"] (defScope s_integer_in) := ⟨rfl, rfl, rfl, by decide +kernel, rfl, by decide +kernel, by decide +kernel⟩
abbrev N_integers_in : List Str := ["words", "found", "word"]
theorem sc_integers_in : FnScope N_integers_in ["words"] (defScope s_integers_in) := ⟨rfl, rfl, rfl, by decide +kernel, rfl, by decide +kernel, by decide +kernel⟩
abbrev N_cell_in : List Str := ["word", "numbers"]
theorem sc_cell_in : FnScope N_cell_in ["word"] (defScope s_cell_in) := ⟨rfl, rfl, rfl, by decide +kernel, rfl, by decide +kernel, by decide +kernel⟩
abbrev N_cells_in : List Str := ["words", "found", "word"]
theorem sc_cells_in : FnScope N_cells_in ["words"] (defScope s_cells_in) := ⟨rfl, rfl, rfl, by decide +kernel, rfl, by decide +kernel, by decide +kernel⟩
abbrev N_write_in : List Str := ["words", "place", "pairs", "word", "pair", "shape", "numbers"]
theorem sc_write_in : FnScope N_write_in ["words"] (defScope s_write_in) := ⟨rfl, rfl, rfl, by decide +kernel, rfl, by decide +kernel, by decide +kernel⟩
abbrev N_deed_in : List Str := ["line", "words", "numbers"]
theorem sc_deed_in : FnScope N_deed_in ["line"] (defScope s_deed_in) := ⟨rfl, rfl, rfl, by decide +kernel, rfl, by decide +kernel, by decide +kernel⟩
abbrev N_do_deed : List Str := ["memory", "deed"]
theorem sc_do_deed : FnScope N_do_deed ["memory", "deed"] (defScope s_do_deed) := ⟨rfl, rfl, rfl, by decide +kernel, rfl, by decide +kernel, by decide +kernel⟩
abbrev N_journal : List Str := ["memory", "head", "one", "deed", "beats"]
theorem sc_journal : FnScope N_journal ["memory"] (defScope s_journal) := ⟨rfl, rfl, rfl, by decide +kernel, rfl, by decide +kernel, by decide +kernel⟩
abbrev N_begun : List Str := ["line", "words", "numbers", "error"]
theorem sc_begun : FnScope N_begun ["line"] (defScope s_begun) := ⟨rfl, rfl, rfl, by decide +kernel, rfl, by decide +kernel, by decide +kernel⟩
abbrev N_read_journal : List Str := ["text", "lines", "memory", "number", "line", "deed", "error"]
theorem sc_read_journal : FnScope N_read_journal ["text"] (defScope s_read_journal) := ⟨rfl, rfl, rfl, by decide +kernel, rfl, by decide +kernel, by decide +kernel⟩
abbrev N_law_pot : List Str := ["_law_script", "_law_place", "_law_cell", "_law_own", "_law_small"]
theorem sc_law_pot : FnScope N_law_pot ["_law_script", "_law_place"] (defScope s_law_pot) := ⟨rfl, rfl, rfl, by decide +kernel, rfl, by decide +kernel, by decide +kernel⟩
abbrev N_law_take : List Str := ["_law_pot_here", "_law_upto", "_law_digit", "_law_prime", "_law_mixed"]
theorem sc_law_take : FnScope N_law_take ["_law_pot_here", "_law_upto"] (defScope s_law_take) := ⟨rfl, rfl, rfl, by decide +kernel, rfl, by decide +kernel, by decide +kernel⟩
abbrev N_law_of : List Str := ["_law_pot_here", "_law_some_here"]
theorem sc_law_of : FnScope N_law_of ["_law_pot_here", "_law_some_here"] (defScope s_law_of) := ⟨rfl, rfl, rfl, by decide +kernel, rfl, by decide +kernel, by decide +kernel⟩
abbrev N_law_some : List Str := ["_law_pot_here", "_law_pool", "_law_many", "_law_rest", "_law_found", "_law_lap"]
theorem sc_law_some : FnScope N_law_some ["_law_pot_here", "_law_pool", "_law_many"] (defScope s_law_some) := ⟨rfl, rfl, rfl, by decide +kernel, rfl, by decide +kernel, by decide +kernel⟩
abbrev N_law_cells : List Str := ["_law_script", "_law_most"]
theorem sc_law_cells : FnScope N_law_cells ["_law_script", "_law_most"] (defScope s_law_cells) := ⟨rfl, rfl, rfl, by decide +kernel, rfl, by decide +kernel, by decide +kernel⟩
abbrev N_law_heard : List Str := ["_law_look_here", "_law_caught", "_law_back_here", "error"]
theorem sc_law_heard : FnScope N_law_heard ["_law_look_here"] (defScope s_law_heard) := ⟨rfl, rfl, rfl, by decide +kernel, rfl, by decide +kernel, by decide +kernel⟩
abbrev N_law_odd : List Str := ["_law_pot_here", "_law_some_here"]
theorem sc_law_odd : FnScope N_law_odd ["_law_pot_here"] (defScope s_law_odd) := ⟨rfl, rfl, rfl, by decide +kernel, rfl, by decide +kernel, by decide +kernel⟩
abbrev N_law_is_int : List Str := ["_law_value"]
theorem sc_law_is_int : FnScope N_law_is_int ["_law_value"] (defScope s_law_is_int) := ⟨rfl, rfl, rfl, by decide +kernel, rfl, by decide +kernel, by decide +kernel⟩
abbrev N_law_is_cell : List Str := ["_law_value", "_law_one"]
theorem sc_law_is_cell : FnScope N_law_is_cell ["_law_value"] (defScope s_law_is_cell) := ⟨rfl, rfl, rfl, by decide +kernel, rfl, by decide +kernel, by decide +kernel⟩
abbrev N_law_moved : List Str := ["_law_cell", "_law_shift"]
theorem sc_law_moved : FnScope N_law_moved ["_law_cell", "_law_shift"] (defScope s_law_moved) := ⟨rfl, rfl, rfl, by decide +kernel, rfl, by decide +kernel, by decide +kernel⟩
abbrev N_law_settled : List Str := ["_law_cells_here", "_law_x", "_law_y", "_law_cell"]
theorem sc_law_settled : FnScope N_law_settled ["_law_cells_here"] (defScope s_law_settled) := ⟨rfl, rfl, rfl, by decide +kernel, rfl, by decide +kernel, by decide +kernel⟩
abbrev N_law_is_lot : List Str := ["_law_value", "_law_cell", "_law_at"]
theorem sc_law_is_lot : FnScope N_law_is_lot ["_law_value"] (defScope s_law_is_lot) := ⟨rfl, rfl, rfl, by decide +kernel, rfl, by decide +kernel, by decide +kernel⟩
abbrev N_law_is_shape : List Str := ["_law_value"]
theorem sc_law_is_shape : FnScope N_law_is_shape ["_law_value"] (defScope s_law_is_shape) := ⟨rfl, rfl, rfl, by decide +kernel, rfl, by decide +kernel, by decide +kernel⟩
abbrev N_law_loose : List Str := ["_law_pot_here", "_law_many", "_law_wide", "_law_cells_here", "_law_x", "_law_y"]
theorem sc_law_loose : FnScope N_law_loose ["_law_pot_here", "_law_many", "_law_wide"] (defScope s_law_loose) := ⟨rfl, rfl, rfl, by decide +kernel, rfl, by decide +kernel, by decide +kernel⟩
abbrev N_law_is_deal : List Str := ["_law_value", "_law_one"]
theorem sc_law_is_deal : FnScope N_law_is_deal ["_law_value"] (defScope s_law_is_deal) := ⟨rfl, rfl, rfl, by decide +kernel, rfl, by decide +kernel, by decide +kernel⟩
abbrev N_law_bank : List Str := ["_law_deal", "_law_cell", "_law_p", "_law_q", "_law_r", "_law_times"]
theorem sc_law_bank : FnScope N_law_bank ["_law_deal", "_law_cell"] (defScope s_law_bank) := ⟨rfl, rfl, rfl, by decide +kernel, rfl, by decide +kernel, by decide +kernel⟩
abbrev N_law_beats : List Str := ["_law_deal", "_law_shape", "_law_banks", "_law_cell", "_law_number"]
theorem sc_law_beats : FnScope N_law_beats ["_law_deal", "_law_shape"] (defScope s_law_beats) := ⟨rfl, rfl, rfl, by decide +kernel, rfl, by decide +kernel, by decide +kernel⟩
abbrev N_law_drawn_deal : List Str := ["_law_pot_here", "_law_most", "_law_p"]
theorem sc_law_drawn_deal : FnScope N_law_drawn_deal ["_law_pot_here", "_law_most"] (defScope s_law_drawn_deal) := ⟨rfl, rfl, rfl, by decide +kernel, rfl, by decide +kernel, by decide +kernel⟩
abbrev N_law_a_cell : List Str := ["_law_pot_here", "_law_wide"]
theorem sc_law_a_cell : FnScope N_law_a_cell ["_law_pot_here", "_law_wide"] (defScope s_law_a_cell) := ⟨rfl, rfl, rfl, by decide +kernel, rfl, by decide +kernel, by decide +kernel⟩
abbrev N_law_day : List Str := ["_law_deal"]
theorem sc_law_day : FnScope N_law_day ["_law_deal"] (defScope s_law_day) := ⟨rfl, rfl, rfl, by decide +kernel, rfl, by decide +kernel, by decide +kernel⟩
abbrev N_law_deal_now : List Str := ["_law_day_here", "_law_deed"]
theorem sc_law_deal_now : FnScope N_law_deal_now ["_law_day_here"] (defScope s_law_deal_now) := ⟨rfl, rfl, rfl, by decide +kernel, rfl, by decide +kernel, by decide +kernel⟩
abbrev N_law_spent : List Str := ["_law_day_here", "_law_deal", "_law_found", "_law_deed"]
theorem sc_law_spent : FnScope N_law_spent ["_law_day_here"] (defScope s_law_spent) := ⟨rfl, rfl, rfl, by decide +kernel, rfl, by decide +kernel, by decide +kernel⟩
abbrev N_law_held : List Str := ["_law_day_here", "_law_found", "_law_deed", "_law_cell", "_law_number"]
theorem sc_law_held : FnScope N_law_held ["_law_day_here"] (defScope s_law_held) := ⟨rfl, rfl, rfl, by decide +kernel, rfl, by decide +kernel, by decide +kernel⟩
abbrev N_law_do : List Str := ["_law_memory", "_law_deed"]
theorem sc_law_do : FnScope N_law_do ["_law_memory", "_law_deed"] (defScope s_law_do) := ⟨rfl, rfl, rfl, by decide +kernel, rfl, by decide +kernel, by decide +kernel⟩
abbrev N_law_refusal : List Str := ["_law_day_here", "_law_deed", "_law_numbers", "_law_is_fine", "_law_one"]
theorem sc_law_refusal : FnScope N_law_refusal ["_law_day_here", "_law_deed"] (defScope s_law_refusal) := ⟨rfl, rfl, rfl, by decide +kernel, rfl, by decide +kernel, by decide +kernel⟩
abbrev N_law_led : List Str := ["_law_memory", "_law_day_here", "_law_deed", "_law_caught", "_law_back_here"]
theorem sc_law_led : FnScope N_law_led ["_law_memory", "_law_day_here", "_law_deed"] (defScope s_law_led) := ⟨rfl, rfl, rfl, by decide +kernel, rfl, by decide +kernel, by decide +kernel⟩
abbrev N_law_back : List Str := ["_law_day_here"]
theorem sc_law_back : FnScope N_law_back ["_law_day_here"] (defScope s_law_back) := ⟨rfl, rfl, rfl, by decide +kernel, rfl, by decide +kernel, by decide +kernel⟩
abbrev N_law_again : List Str := ["_law_day_here"]
theorem sc_law_again : FnScope N_law_again ["_law_day_here"] (defScope s_law_again) := ⟨rfl, rfl, rfl, by decide +kernel, rfl, by decide +kernel, by decide +kernel⟩
abbrev N_law_is_memory : List Str := ["_law_memory", "_law_day_here", "_law_cells_here", "_law_ours", "_law_held_here", "_law_cell"]
theorem sc_law_is_memory : FnScope N_law_is_memory ["_law_memory", "_law_day_here", "_law_cells_here"] (defScope s_law_is_memory) := ⟨rfl, rfl, rfl, by decide +kernel, rfl, by decide +kernel, by decide +kernel⟩
abbrev N_law_a_deed : List Str := ["_law_pot_here", "_law_many", "_law_wide", "_law_shape", "_law_numbers", "_law_cell"]
theorem sc_law_a_deed : FnScope N_law_a_deed ["_law_pot_here"] (defScope s_law_a_deed) := ⟨rfl, rfl, rfl, by decide +kernel, rfl, by decide +kernel, by decide +kernel⟩
abbrev N_law_around : List Str := ["_law_pot_here", "_law_x", "_law_y", "_law_lap"]
theorem sc_law_around : FnScope N_law_around ["_law_pot_here"] (defScope s_law_around) := ⟨rfl, rfl, rfl, by decide +kernel, rfl, by decide +kernel, by decide +kernel⟩
abbrev N_law_gone : List Str := ["_law_memory", "_law_day_here", "_law_way", "_law_caught", "_law_back_here"]
theorem sc_law_gone : FnScope N_law_gone ["_law_memory", "_law_day_here", "_law_way"] (defScope s_law_gone) := ⟨rfl, rfl, rfl, by decide +kernel, rfl, by decide +kernel, by decide +kernel⟩
abbrev N_law_line : List Str := ["_law_deed", "_law_one", "_law_rows", "_law_cell", "_law_number"]
theorem sc_law_line : FnScope N_law_line ["_law_deed"] (defScope s_law_line) := ⟨rfl, rfl, rfl, by decide +kernel, rfl, by decide +kernel, by decide +kernel⟩
abbrev N_law_journal : List Str := ["_law_day_here", "_law_head", "_law_one", "_law_deed"]
theorem sc_law_journal : FnScope N_law_journal ["_law_day_here"] (defScope s_law_journal) := ⟨rfl, rfl, rfl, by decide +kernel, rfl, by decide +kernel, by decide +kernel⟩
abbrev N_law_fro : List Str := ["_law_pot_here", "_law_memory", "_law_day_here", "_law_way"]
theorem sc_law_fro : FnScope N_law_fro ["_law_pot_here", "_law_memory", "_law_day_here"] (defScope s_law_fro) := ⟨rfl, rfl, rfl, by decide +kernel, rfl, by decide +kernel, by decide +kernel⟩
abbrev N_law_is_outside : List Str := ["_law_memory", "_law_caught"]
theorem sc_law_is_outside : FnScope N_law_is_outside ["_law_memory"] (defScope s_law_is_outside) := ⟨rfl, rfl, rfl, by decide +kernel, rfl, by decide +kernel, by decide +kernel⟩
abbrev N_law_inner : List Str := ["_law_pot_here", "_law_memory", "_law_day_here", "_law_plan", "_law_are_ok", "_law_lap", "_law_is_ok", "_law_twin"]
theorem sc_law_inner : FnScope N_law_inner ["_law_pot_here", "_law_memory", "_law_day_here", "_law_plan"] (defScope s_law_inner) := ⟨rfl, rfl, rfl, by decide +kernel, rfl, by decide +kernel, by decide +kernel⟩
abbrev N_law_block : List Str := ["_law_pot_here", "_law_memory", "_law_day_here", "_law_deep", "_law_plan", "_law_is_gone", "_law_keeping", "_law_value", "_law_box", "_law_look", "_law_caught", "_law_back_here", "_law_after"]
theorem sc_law_block : FnScope N_law_block ["_law_pot_here", "_law_memory", "_law_day_here", "_law_deep"] (defScope s_law_block) := ⟨rfl, rfl, rfl, by decide +kernel, rfl, by decide +kernel, by decide +kernel⟩
abbrev N_law_is_long_right : List Str := ["_law_deal", "_law_many", "_law_memory", "_law_day_here", "_law_lap", "_law_is_ok", "_law_way", "_law_number"]
theorem sc_law_is_long_right : FnScope N_law_is_long_right ["_law_deal", "_law_many"] (defScope s_law_is_long_right) := ⟨rfl, rfl, rfl, by decide +kernel, rfl, by decide +kernel, by decide +kernel⟩
abbrev N_law_right : List Str := ["_law_pot_here", "_law_deal", "_law_memory", "_law_day_here", "_law_lap", "_law_is_ok", "_law_went_ok"]
theorem sc_law_right : FnScope N_law_right ["_law_pot_here"] (defScope s_law_right) := ⟨rfl, rfl, rfl, by decide +kernel, rfl, by decide +kernel, by decide +kernel⟩
abbrev N_law : List Str := ["_law_script", "_law_place"]
theorem sc_law : FnScope N_law ["_law_script"] (defScope s_law) := ⟨rfl, rfl, rfl, by decide +kernel, rfl, by decide +kernel, by decide +kernel⟩
end Bp

namespace Bp
open PySem PySem.Spec PyProof.Rows L2

/-! ### data that is written no more: tuples, frozen lists -/
/-- the tuple of a shape -/
def isSh : List PyData → Bool
  | .tuple [.int _, .int _] :: _ => true
  | _ => false
/-- a tuple at a: one of a shape is frozen, of no dict -/
def TupAt (H : Hp) (a : Addr) (xs : List V) (ds : List PyData) : Prop := match isSh ds with
  | true => ∃ o : Obj, H a = some (.frz o (.tup xs)) ∧ o.dict = none
  | false => H a = some (.tup xs)
theorem TupAt.plain {H : Hp} {a : Addr} {xs : List V} {ds : List PyData} (h : TupAt H a xs ds) (n : isSh ds = false) : H a = some (.tup xs) := by
  unfold TupAt at h
  rw [n] at h
  exact h
theorem TupAt.of {H : Hp} {a : Addr} {xs : List V} {ds : List PyData} (h : H a = some (.tup xs)) (n : isSh ds = false) : TupAt H a xs ds := by
  unfold TupAt
  rw [n]
  exact h
theorem TupAt.rd {H : Hp} {a : Addr} {xs : List V} {ds : List PyData} (h : TupAt H a xs ds) : Rd H a (.tup xs) := by
  unfold TupAt at h
  cases n : isSh ds with
  | false =>
    rw [n] at h
    exact .inl h
  | true =>
    rw [n] at h
    obtain ⟨o, h, _⟩ := h
    exact .inr ⟨o, h⟩
theorem TupAt.kp {H H' : Hp} {a : Addr} {xs : List V} {ds : List PyData} (h : TupAt H a xs ds) (k : Kp H H') : TupAt H' a xs ds := by
  unfold TupAt at h ⊢
  cases n : isSh ds with
  | false =>
    rw [n] at h
    exact k.tup _ _ h
  | true =>
    rw [n] at h
    obtain ⟨o, h, d⟩ := h
    exact ⟨o, k.frz _ _ _ h, d⟩
theorem rd_same {H H' : Hp} {a : Addr} {u : HO} (h : Rd H a u) (s : Same H H') : Rd H' a u := by
  rcases h with h | ⟨o, h⟩
  · exact .inl (s _ _ h)
  · exact .inr ⟨o, s _ _ h⟩
mutual
inductive Im (H : Hp) : V → PyData → Prop
  | non : Im H .non .none
  | bl (b : Bool) : Im H (.bl b) (.bool b)
  | int (i : Int) : Im H (.int i) (.int i)
  | str (x : Str) : Im H (.str x) (.str x)
  | tup {a : Addr} {xs : List V} {ds : List PyData} : TupAt H a xs ds → ImAll H xs ds → Im H (.ref a) (.tuple ds)
  | lst {a : Addr} {o : Obj} {xs : List V} {ds : List PyData} : H a = some (.frz o (.lst xs)) → ImAll H xs ds → Im H (.ref a) (.list ds)
inductive ImAll (H : Hp) : List V → List PyData → Prop
  | nil : ImAll H [] []
  | cons {v : V} {vs : List V} {d : PyData} {ds : List PyData} : Im H v d → ImAll H vs ds → ImAll H (v :: vs) (d :: ds)
end
mutual
theorem Im.kp {H H' : Hp} (k : Kp H H') : ∀ (d : PyData) (v : V), Im H v d → Im H' v d
  | .none, _, .non => .non
  | .bool _, _, .bl b => .bl b
  | .int _, _, .int i => .int i
  | .str _, _, .str x => .str x
  | .list ds, _, .lst h1 h2 => .lst (k.frz _ _ _ h1) (ImAll.kp k ds _ h2)
  | .tuple ds, _, .tup h1 h2 => .tup (h1.kp k) (ImAll.kp k ds _ h2)
theorem ImAll.kp {H H' : Hp} (k : Kp H H') : ∀ (ds : List PyData) (vs : List V), ImAll H vs ds → ImAll H' vs ds
  | [], _, .nil => .nil
  | d :: ds, _, .cons h1 h2 => .cons (Im.kp k d _ h1) (ImAll.kp k ds _ h2)
end
mutual
theorem Im.dp {K : PySem.W.Frag} {H : Hp} : ∀ (d : PyData) (v : V), Im H v d → Dp K H v d
  | .none, _, .non => .non
  | .bool _, _, .bl b => .bl b
  | .int _, _, .int i => .int i
  | .str _, _, .str x => .str x
  | .list ds, _, .lst h1 h2 => .lst (.inl (.inr ⟨_, h1⟩)) (ImAll.dp ds _ h2)
  | .tuple ds, _, .tup h1 h2 => .tup (.inl h1.rd) (ImAll.dp ds _ h2)
theorem ImAll.dp {K : PySem.W.Frag} {H : Hp} : ∀ (ds : List PyData) (vs : List V), ImAll H vs ds → DpAll K H vs ds
  | [], _, .nil => .nil
  | d :: ds, _, .cons h1 h2 => .cons (Im.dp d _ h1) (ImAll.dp ds _ h2)
end
theorem Im.k {H H' : Hp} {d : PyData} {v : V} (h : Im H v d) (k : Kp H H') : Im H' v d := Im.kp k d v h
theorem ImAll.k {H H' : Hp} {d : List PyData} {v : List V} (h : ImAll H v d) (k : Kp H H') : ImAll H' v d := ImAll.kp k d v h
theorem Im.d {K : PySem.W.Frag} {H : Hp} {d : PyData} {v : V} (h : Im H v d) : Dp K H v d := Im.dp d v h
theorem Im.s {H H' : Hp} {d : PyData} {v : V} (h : Im H v d) (k : Same H H') : Im H' v d := Im.kp (Kp.of k) d v h
theorem ImAll.s {H H' : Hp} {d : List PyData} {v : List V} (h : ImAll H v d) (k : Same H H') : ImAll H' v d := ImAll.kp (Kp.of k) d v h
theorem ImAll.len {H : Hp} : ∀ {vs : List V} {ds : List PyData}, ImAll H vs ds → vs.length = ds.length
  | _, _, .nil => rfl
  | _, _, .cons _ h => by simp [ImAll.len h]
theorem ImAll.at {H : Hp} : ∀ {vs : List V} {ds : List PyData}, ImAll H vs ds → ∀ {i : Nat} {v : V}, vs[i]? = some v → ∃ d, ds[i]? = some d ∧ Im H v d
  | _, _, .nil, i, v, e => by simp at e
  | _, _, .cons h1 h2, 0, v, e => by
    cases e
    exact ⟨_, rfl, h1⟩
  | _, _, .cons h1 h2, i + 1, v, e => by
    obtain ⟨d, e1, e2⟩ := ImAll.at h2 (i := i) (by simpa using e)
    exact ⟨d, by simpa using e1, e2⟩
theorem ImAll.of_at {H : Hp} : ∀ {vs : List V} {ds : List PyData}, vs.length = ds.length → (∀ (i : Nat) v d, vs[i]? = some v → ds[i]? = some d → Im H v d) → ImAll H vs ds
  | [], [], _, _ => .nil
  | [], _ :: _, e, _ => by simp at e
  | _ :: _, [], e, _ => by simp at e
  | v :: vs, d :: ds, e, h => .cons (h 0 v d rfl rfl) (ImAll.of_at (by simpa using e) fun i v d h1 h2 => h (i + 1) v d (by simpa using h1) (by simpa using h2))
theorem ImAll.app {H : Hp} : ∀ {vs ws : List V} {ds es : List PyData}, ImAll H vs ds → ImAll H ws es → ImAll H (vs ++ ws) (ds ++ es)
  | _, _, _, _, .nil, h => h
  | _, _, _, _, .cons h1 h2, h => .cons h1 (ImAll.app h2 h)
theorem Im.tupI {H : Hp} {v : V} {ds : List PyData} (h : Im H v (.tuple ds)) : ∃ a xs, v = .ref a ∧ TupAt H a xs ds ∧ ImAll H xs ds := by
  cases h with
  | tup h1 h2 => exact ⟨_, _, rfl, h1, h2⟩
theorem Im.lstI {H : Hp} {v : V} {ds : List PyData} (h : Im H v (.list ds)) : ∃ a o xs, v = .ref a ∧ H a = some (.frz o (.lst xs)) ∧ ImAll H xs ds := by
  cases h with
  | lst h1 h2 => exact ⟨_, _, _, rfl, h1, h2⟩
theorem Im.intI {H : Hp} {v : V} {i : Int} (h : Im H v (.int i)) : v = .int i := by cases h; rfl
theorem Im.strI {H : Hp} {v : V} {i : Str} (h : Im H v (.str i)) : v = .str i := by cases h; rfl
theorem ImAll.ints {H : Hp} : ∀ {vs : List V} {ns : List Int}, ImAll H vs (ns.map .int) → vs = ns.map .int
  | _, [], .nil => rfl
  | _, n :: ns, .cons h1 h2 => by rw [h1.intI, ImAll.ints h2]; rfl
theorem ImAll.ofInts {H : Hp} : ∀ (ns : List Int), ImAll H (ns.map .int) (ns.map .int)
  | [] => .nil
  | n :: ns => .cons (.int n) (ImAll.ofInts ns)
/-! ### the things of the program -/
abbrev Cell := Int × Int
abbrev Deal := Int × Int × Int
inductive Deed where
  | anew (d : Deal)
  | write (sh : List Cell) (pl : Cell) (ns : List Int)
deriving DecidableEq
def dCell (c : Cell) : PyData := .tuple [.int c.1, .int c.2]
def dDeal (d : Deal) : PyData := .tuple [.int d.1, .int d.2.1, .int d.2.2]
def dShape (sh : List Cell) : PyData := .tuple (sh.map dCell)
def dInts (ns : List Int) : PyData := .tuple (ns.map .int)
def dDeed : Deed → PyData
  | .anew d => .tuple [.str "anew", dDeal d]
  | .write sh pl ns => .tuple [.str "write", dShape sh, dCell pl, dInts ns]
abbrev Entry := Deed × Int
def dEntry (e : Entry) : PyData := .tuple [dDeed e.1, .int e.2]
def dPast (l : List Entry) : PyData := .tuple (l.map dEntry)
theorem Im.cellI {H : Hp} {v : V} {c : Cell} (h : Im H v (dCell c)) : ∃ a, v = .ref a ∧ H a = some (.tup [.int c.1, .int c.2]) := by
  obtain ⟨a, xs, rfl, ha, hx⟩ := Im.tupI h
  obtain rfl := ImAll.ints (ns := [c.1, c.2]) hx
  exact ⟨a, rfl, ha⟩
theorem Im.cell {H : Hp} {a : Addr} {x y : Int} (h : H a = some (.tup [.int x, .int y])) : Im H (.ref a) (dCell (x, y)) := .tup h (.cons (.int x) (.cons (.int y) .nil))
theorem Im.dealI {H : Hp} {v : V} {d : Deal} (h : Im H v (dDeal d)) : ∃ a, v = .ref a ∧ H a = some (.tup [.int d.1, .int d.2.1, .int d.2.2]) := by
  obtain ⟨a, xs, rfl, ha, hx⟩ := Im.tupI h
  obtain rfl := ImAll.ints (ns := [d.1, d.2.1, d.2.2]) hx
  exact ⟨a, rfl, ha⟩
theorem Im.deal {H : Hp} {a : Addr} {p q r : Int} (h : H a = some (.tup [.int p, .int q, .int r])) : Im H (.ref a) (dDeal (p, q, r)) := .tup h (.cons (.int p) (.cons (.int q) (.cons (.int r) .nil)))
theorem isSh_ints (ns : List Int) : isSh (ns.map .int) = false := by cases ns <;> rfl
theorem Im.intsI {H : Hp} {v : V} {ns : List Int} (h : Im H v (dInts ns)) : ∃ a, v = .ref a ∧ H a = some (.tup (ns.map .int)) := by
  obtain ⟨a, xs, rfl, ha, hx⟩ := Im.tupI h
  obtain rfl := ImAll.ints hx
  exact ⟨a, rfl, ha.plain (isSh_ints ns)⟩
theorem Im.ints {H : Hp} {a : Addr} {ns : List Int} (h : H a = some (.tup (ns.map .int))) : Im H (.ref a) (dInts ns) := .tup (.of h (isSh_ints ns)) (ImAll.ofInts ns)
/-- as list of values -/
structure Shp (H : Hp) (v : V) (sh : List Cell) (a : Addr) (xs : List V) : Prop where
  e : v = .ref a
  t : Rd H a (.tup xs)
  nd : sh ≠ [] → ∃ o : Obj, H a = some (.frz o (.tup xs)) ∧ o.dict = none
  l : xs.length = sh.length
  i : ∀ (i : Nat) x, xs[i]? = some x → ∃ c, sh[i]? = some c ∧ Im H x (dCell c)
theorem Im.shapeI {H : Hp} {v : V} {sh : List Cell} (h : Im H v (dShape sh)) : ∃ a xs, Shp H v sh a xs := by
  obtain ⟨a, xs, rfl, ha, hx⟩ := Im.tupI h
  refine ⟨a, xs, rfl, ha.rd, fun ne => ?_, by simpa using hx.len, fun i x e => ?_⟩
  · cases sh with
    | nil => exact absurd rfl ne
    | cons c r => exact ha
  obtain ⟨d, e1, e2⟩ := hx.at e
  rw [List.getElem?_map] at e1
  cases q : sh[i]? with
  | none => rw [q] at e1; cases e1
  | some c => rw [q] at e1; cases e1; exact ⟨c, rfl, e2⟩
/-! ### a comprehension whose turns write nothing that was -/
/-- the list at D so far: R told of each item -/
def LcP (H1 : Hp) (D : Addr) (R : Nat → V → Hp → Prop) (i : Nat) (H : Hp) : Prop := Same H1 H ∧ ∃ acc, H D = some (.lst acc) ∧ acc.length = i ∧ ∀ (j : Nat) v, acc[j]? = some v → R j v H
def StK (R : Nat → V → Hp → Prop) : Prop := ∀ j v H H', R j v H → Kp H H' → R j v H'
theorem LcP.zero {H1 : Hp} {D : Addr} {R : Nat → V → Hp → Prop} (n : H1 D = none) : LcP H1 D R 0 (upd H1 D (.lst [])) :=
  ⟨fun b o e => (upd_ne (ne_of_none e n)).trans e, [], upd_same, rfl, fun j v e => by simp at e⟩
theorem LcP.next {H1 H H4 : Hp} {D : Addr} {R : Nat → V → Hp → Prop} {i : Nat} {y : V} (st : StK R) (n : H1 D = none) (hi : i < 1000000) (p : LcP H1 D R i H) (s : Same H H4) (r : R i y H4) :
    ∃ acc, H4 D = some (.lst acc) ∧ acc.length < sizeLine ∧ LcP H1 D R (i + 1) (upd H4 D (.lst (acc ++ [y]))) := by
  obtain ⟨s1, acc, e, l, q⟩ := p
  have e4 := s _ _ e
  have kp : Kp H4 (upd H4 D (.lst (acc ++ [y]))) := Kp.upd fun u e => by
    rw [e4] at e
    cases e
    exact ⟨fun xs z => (by cases z), fun q z y => (by cases y)⟩
  refine ⟨acc, e4, by rw [l]; exact Nat.lt_of_lt_of_le hi (by decide), fun b o e => ?_, acc ++ [y], upd_same, by simp [l], fun j v ej => ?_⟩
  · rw [upd_ne (ne_of_none e n)]
    exact s _ _ (s1 _ _ e)
  · by_cases hj : j < acc.length
    · rw [List.getElem?_append_left hj] at ej
      exact st _ _ _ _ (q j v ej) ((Kp.of s).trans kp)
    · rw [List.getElem?_append_right (by omega)] at ej
      have : j = acc.length := by
        cases z : j - acc.length with
        | zero => omega
        | succ k => rw [z] at ej; simp at ej
      subst this
      simp at ej
      subst ej
      rw [l]
      exact st _ _ _ _ r kp
/-- .. as one list -/
theorem LcP.map {H1 H : Hp} {D : Addr} {R : Nat → V → Hp → Prop} {n : Nat} {f : Nat → V} (p : LcP H1 D R n H) (h : ∀ i v, i < n → R i v H → v = f i) : Same H1 H ∧ H D = some (.lst ((List.range n).map f)) := by
  obtain ⟨s, acc, e, l, q⟩ := p
  refine ⟨s, ?_⟩
  rw [e]
  congr 2
  apply List.ext_getElem?
  intro i
  by_cases hi : i < n
  · have h1 : acc[i]? = some acc[i] := List.getElem?_eq_getElem (by omega)
    rw [h1, h i _ hi (q i _ h1)]
    simp [hi]
  · rw [List.getElem?_eq_none (by omega)]
    simp [hi]
end Bp

namespace Bp
open PySem PySem.Spec PyProof.Rows L2
theorem iteD {p B C : Prop} [Decidable p] (hp : p) (h : B) : if decide p = true then B else C := by rw [decide_eq_true hp]; exact iteT h
theorem iteDF {p B C : Prop} [Decidable p] (hp : ¬ p) (h : C) : if decide p = true then B else C := by rw [decide_eq_false hp]; exact iteF h
section
variable {P : Program} {w : World} {K : PySem.W.Frag} {mg : Str → Option Value} {base : Heap}
/-- isinstance(x, T), T a built-in type -/
theorem kit_ii : PySem.W.kitOne K (.type "int") (.type "int") = some true := kit_ty (by decide +kernel)
theorem kit_ib : PySem.W.kitOne K (.type "int") (.type "bool") = some false := kit_ty (by decide +kernel)
theorem kit_tt : PySem.W.kitOne K (.type "tuple") (.type "tuple") = some true := kit_ty (by decide +kernel)
theorem kit_ss : PySem.W.kitOne K (.type "str") (.type "str") = some true := kit_ty (by decide +kernel)
theorem tyT {H : Hp} {a : Addr} {xs : List V} (h : Rd H a (.tup xs)) : TyX K H (.ref a) (.type "tuple") := by
  rcases h with h | ⟨o, h⟩
  · exact .base (.tup h)
  · exact .fTuple h
/-! ### is_integer -/
def sp_is_integer (K : PySem.W.Frag) : Sp := fun vs H Q _ => ∃ i : Int, vs = [.int i] ∧ Q (.bl true) H
theorem ok_is_integer (T : Th P K mg base) : GF P w K mg base 1 (He.ga K "is_integer") ["value"] (sp_is_integer K) := by
  refine gf_of T.d_is_integer sc_is_integer (fun vs H Q E h => by obtain ⟨i, rfl, q⟩ := h; rfl) (fun _ _ _ _ _ _ us hl => match us, hl with | [_], _ => rfl) fun cdv A outer s H vs Q E hg hr hsp => ?_
  obtain ⟨i, rfl, q⟩ := hsp
  refine ⟨_, (pss_one (ps_ret (pe_and (pe_callB call_isi (by rfl) T.f_isinstance (by decide +kernel) (pa_cons (pv 0) (pa_cons (pe_bltn (v := .ty "int") (by rfl) T.f_int (by decide +kernel) rfl) pa_nil))) (pe_one (pe_not (pe_callB call_isi (by rfl) T.f_isinstance (by decide +kernel) (pa_cons (pv 0) (pa_cons (pe_bltn (v := .ty "bool") (by rfl) T.f_bool (by decide +kernel) rfl) pa_nil)))))))), ?_⟩
  refine ⟨_, rfl, _, _, _, _, true, rfl, .ty "int", .base (.int i), kit_ii, true, rfl, iteT ?_⟩
  exact ⟨_, rfl, _, _, _, _, false, rfl, .ty "bool", .base (.int i), kit_ib, false, rfl, q⟩
/-! ### moved, less -/
def sp_moved (K : PySem.W.Frag) : Sp := fun vs H Q _ => ∃ (u v : V) (c d : Cell), vs = [u, v] ∧ Im H u (dCell c) ∧ Im H v (dCell d) ∧ ∀ x H', Same H H' → Im H' x (dCell (c.1 + d.1, c.2 + d.2)) → Q x H'
theorem ok_moved (T : Th P K mg base) : GF P w K mg base 1 (He.ga K "moved") ["cell", "shift"] (sp_moved K) := by
  refine gf_of T.d_moved sc_moved (fun vs H Q E h => by obtain ⟨u, v, c, d, rfl, hu, hv, q⟩ := h; rfl) (fun _ _ _ _ _ _ us hl => match us, hl with | [_, _], _ => rfl) fun cdv A outer s H vs Q E hg hr hsp => ?_
  obtain ⟨u, v, c, d, rfl, hu, hv, q⟩ := hsp
  refine ⟨_, (pss_one (ps_ret (pe_tup (pa_cons (pe_op op_add (pe_ix ix_tup (pv 0) pe_int (fun _ _ => rfl)) (pe_ix ix_tup (pv 1) pe_int (fun _ _ => rfl))) (pa_cons (pe_op op_add (pe_ix ix_tup (pv 0) pe_int (fun _ _ => rfl)) (pe_ix ix_tup (pv 1) pe_int (fun _ _ => rfl))) pa_nil))))), ?_⟩
  obtain ⟨a, rfl, ha⟩ := hu.cellI
  obtain ⟨b, rfl, hb⟩ := hv.cellI
  refine ⟨_, rfl, _, _, _, _, rfl, rfl, SqT.of ha, rfl, _, rfl, _, _, _, _, rfl, rfl, SqT.of hb, rfl, _, _, rfl, rfl, ?_⟩
  refine ⟨_, rfl, _, _, _, _, rfl, rfl, SqT.of ha, rfl, _, rfl, _, _, _, _, rfl, rfl, SqT.of hb, rfl, _, _, rfl, rfl, ?_⟩
  exact ⟨by show 2 ≤ sizeLine; decide, fun p np => q _ _ (fun b o e => (upd_ne (ne_of_none e np)).trans e) (.cell upd_same)⟩
def sp_less (K : PySem.W.Frag) : Sp := fun vs H Q _ => ∃ (u v : V) (c d : Cell), vs = [u, v] ∧ Im H u (dCell c) ∧ Im H v (dCell d) ∧ ∀ x H', Same H H' → Im H' x (dCell (c.1 - d.1, c.2 - d.2)) → Q x H'
theorem ok_less (T : Th P K mg base) : GF P w K mg base 1 (He.ga K "less") ["cell", "other"] (sp_less K) := by
  refine gf_of T.d_less sc_less (fun vs H Q E h => by obtain ⟨u, v, c, d, rfl, hu, hv, q⟩ := h; rfl) (fun _ _ _ _ _ _ us hl => match us, hl with | [_, _], _ => rfl) fun cdv A outer s H vs Q E hg hr hsp => ?_
  obtain ⟨u, v, c, d, rfl, hu, hv, q⟩ := hsp
  refine ⟨_, (pss_one (ps_ret (pe_tup (pa_cons (pe_op op_sub (pe_ix ix_tup (pv 0) pe_int (fun _ _ => rfl)) (pe_ix ix_tup (pv 1) pe_int (fun _ _ => rfl))) (pa_cons (pe_op op_sub (pe_ix ix_tup (pv 0) pe_int (fun _ _ => rfl)) (pe_ix ix_tup (pv 1) pe_int (fun _ _ => rfl))) pa_nil))))), ?_⟩
  obtain ⟨a, rfl, ha⟩ := hu.cellI
  obtain ⟨b, rfl, hb⟩ := hv.cellI
  refine ⟨_, rfl, _, _, _, _, rfl, rfl, SqT.of ha, rfl, _, rfl, _, _, _, _, rfl, rfl, SqT.of hb, rfl, _, _, rfl, rfl, ?_⟩
  refine ⟨_, rfl, _, _, _, _, rfl, rfl, SqT.of ha, rfl, _, rfl, _, _, _, _, rfl, rfl, SqT.of hb, rfl, _, _, rfl, rfl, ?_⟩
  exact ⟨by show 2 ≤ sizeLine; decide, fun p np => q _ _ (fun b o e => (upd_ne (ne_of_none e np)).trans e) (.cell upd_same)⟩
/-! ### is_cell -/
def sp_is_cell (K : PySem.W.Frag) : Sp := fun vs H Q _ => ∃ (u : V) (c : Cell), vs = [u] ∧ Im H u (dCell c) ∧ ∀ H', Same H H' → Q (.bl true) H'
theorem ok_is_cell (T : Th P K mg base) : GF P w K mg base 2 (He.ga K "is_cell") ["value"] (sp_is_cell K) := by
  refine gf_of T.d_is_cell sc_is_cell (fun vs H Q E h => by obtain ⟨u, c, rfl, hu, q⟩ := h; rfl) (fun _ _ _ _ _ _ us hl => match us, hl with | [_], _ => rfl) fun cdv A outer s H vs Q E hg hr hsp => ?_
  obtain ⟨u, c, rfl, hu, q⟩ := hsp
  refine ⟨_, (pss_one (ps_ret (pe_and (pe_callB call_isi (by rfl) T.f_isinstance (by decide +kernel) (pa_cons (pv 0) (pa_cons (pe_bltn (v := .ty "tuple") (by rfl) T.f_tuple (by decide +kernel) rfl) pa_nil))) (pe_and (pe_cmpR op_eq (pe_callB call_len_seq (by rfl) T.f_len (by decide +kernel) (pa_cons (pv 0) pa_nil)) pe_int (nomark _)) (pe_one (pe_callB (cr_all rfl) (by rfl) T.f_all (by decide +kernel) (pa_cons (pe_lc (own := [("one", 1)]) (tt := tYes) rfl sc_is_cell.nd (pi_tup (pv 0)) (blkOk_by (N := N_is_cell) (sc := defScope s_is_cell) (by decide +kernel)) (fun _ _ _ _ _ => (pg_name (i := 1) sc_is_cell.nd rfl (Or.inl rfl))) (fun _ _ _ _ _ => pts_nil) (fun _ _ _ _ _ => (pe_fn T.g_is_integer (ok_is_integer T) hg hr passL (pa_cons (pv 1) pa_nil)))) pa_nil))))))), ?_⟩
  obtain ⟨a, rfl, ha⟩ := hu.cellI
  refine ⟨_, rfl, _, _, _, _, true, rfl, .ty "tuple", .base (.tup ha), kit_tt, true, rfl, iteT ?_⟩
  refine ⟨_, rfl, _, _, rfl, .inr (SqT.of ha), rfl, _, rfl, iteD rfl ?_⟩
  refine ⟨_, rfl, a, rfl, ⟨_, SqT.of ha⟩, fun D hD => lc_it (walk_tup (xs := [.int c.1, .int c.2])) (LcP H D fun _ v _ => v = .bl true) (LcP.zero hD) (fun i H' _ p => SqT.of (p.1 _ _ ha)) (fun i x H' H'' hi p y => ?_) (fun H' p => ?_)⟩
  · obtain ⟨rfl, hx⟩ := y
    obtain ⟨j, rfl⟩ : ∃ j : Int, x = .int j := by
      match i, hi, hx with
      | 0, _, hx => exact ⟨_, (Option.some.inj hx).symm⟩
      | 1, _, hx => exact ⟨_, (Option.some.inj hx).symm⟩
    exact ⟨rfl, _, rfl, j, rfl, fun _ => LcP.next (fun _ _ _ _ h _ => h) hD (Nat.lt_of_lt_of_le hi (by show 2 ≤ 1000000; decide)) p (Same.refl _) rfl⟩
  · obtain ⟨sm, hl⟩ := LcP.map (f := fun _ => .bl true) p fun _ _ _ h => h
    exact ⟨D, [true, true], rfl, SqL.of hl, q _ sm⟩
end
end Bp

namespace Bp
open PySem PySem.Spec PyProof.Rows L2
/-! ### rules within a comprehension: the written part named -/
section
variable {X : Cx} {K : PySem.W.Frag}
theorem ix_tupK (hK : X.K = K) : IxR X (rIxT K) := hK ▸ ix_tup
theorem ix_listK (hK : X.K = K) : IxR X (rIxL K) := hK ▸ ix_list
theorem mt_lcountK (hK : X.K = K) : MtR X "list.count" (rCntI K) := hK ▸ mt_lcount
theorem pe_bmK {T id : String} {name : Str} {r : V → List V → Hp → VK → Prop} {o e : Expr} {es : List Expr} {to : TE} {t : TA} {apos cpos : Pos} (hK : X.K = K) (pa : PlainAttrs T) (slot : Slot T name id) (hty : typeOf (.builtin id) = pure (.type "method_descriptor")) (hm : MtR X id r) (ho : PE X o to) (ha : PA X (e :: es) t)
    (hbase : attributeBase o name X.env (eval o X.env) = eval o X.env := by rfl)
    (hfew : ((backTo cpos (starEach (e :: es) X.env)).all (fun x => !x.1) && (backToKw cpos (keywordEach [] X.env)).all (fun x => x.1.isSome)
      && decide ((e :: es).length + ([] : List Keyword).length + (if ([] : List Keyword).isEmpty then 0 else 1) < 30)) = true := by rfl)
    (hline : (apos.endLine == cpos.line) = true := by rfl) (hs : starEach (e :: es) X.env = (false, eval e X.env) :: starEach es X.env := by rfl) (hplain : (backTo cpos (starEach es X.env)).any (·.1) = false := by rfl) :
    PE X (.Call (.Attribute o name apos) (e :: es) [] cpos) (tBM K T r to t) := by
  subst hK
  exact pe_bm pa slot hty hm ho ha hbase hfew hline hs hplain
theorem pe_fldK {e : Expr} {ta : TE} {f : Str} {pos : Pos} (hK : X.K = K) (he : PE X e ta) (hb : attributeBase e f X.env (eval e X.env) = eval e X.env) : PE X (.Attribute e f pos) (tFld K ta f) := by
  subst hK
  exact pe_fld he hb
/-! ### x in t, t a tuple of data -/
def rInT (K : PySem.W.Frag) : R2 := fun x y H Q => ∃ d ds, Dp K H x d ∧ Dp K H y (.tuple ds) ∧ d.canLay0 = true ∧ PyData.canLayAll0 ds = true ∧ d.depth ≤ 40 ∧ Q (.bl (ds.any fun z => PyData.eqv z d)) H
theorem op_inT (hu : X.A.units + 64 < cLine) : OpR X (compareOp .In) (rInT X.K) := by
  intro pins s σ H x y v u Q I rx ry h
  obtain ⟨d, ds, hd, hds, c1, c2, dep, q⟩ := h
  obtain ⟨as, r1⟩ := Dp.reads I d x v hd rx
  obtain ⟨bs, r2⟩ := Dp.reads I (.tuple ds) y u hds ry
  refine SeqAt.in_tuple_reads r2 r1 c2 c1 ?_ ⟨.bl _, H, I, rfl, q⟩
  have := Nat.min_le_right (PyData.depthAll ds) d.depth
  omega
theorem op_inTK (hK : X.K = K) (hu : X.A.units + 64 < cLine) : OpR X (compareOp .In) (rInT K) := hK ▸ op_inT hu
end
end Bp

namespace Bp
open PySem PySem.Spec PyProof.Rows L2
/-! ### plain -/
theorem LcP.mapL {α : Type} {H1 H : Hp} {D : Addr} {R : Nat → V → Hp → Prop} {n : Nat} {l : List α} {g : α → V} (p : LcP H1 D R n H) (hn : n = l.length) (h : ∀ i v, R i v H → ∃ c, l[i]? = some c ∧ v = g c) : Same H1 H ∧ H D = some (.lst (l.map g)) := by
  obtain ⟨s, acc, e, len, q⟩ := p
  refine ⟨s, ?_⟩
  rw [e]
  congr 2
  apply List.ext_getElem?
  intro i
  rw [List.getElem?_map]
  by_cases hi : i < n
  · have h1 : acc[i]? = some acc[i] := List.getElem?_eq_getElem (by omega)
    obtain ⟨c, e1, e2⟩ := h i _ (q i _ h1)
    rw [h1, e1, e2]
    rfl
  · rw [List.getElem?_eq_none (by omega), List.getElem?_eq_none (by omega)]
    rfl
def maxL : List Int → Int
  | [] => 0
  | [a] => a
  | a :: b :: r => max a (maxL (b :: r))
theorem maxL_mem : ∀ (l : List Int), l ≠ [] → maxL l ∈ l ∧ ∀ y ∈ l, y ≤ maxL l
  | [], h => absurd rfl h
  | [a], _ => ⟨List.mem_cons_self, fun y hy => by simp at hy; rw [hy]; exact Int.le_refl _⟩
  | a :: b :: r, _ => by
    obtain ⟨h1, h2⟩ := maxL_mem (b :: r) (by simp)
    show max a (maxL (b :: r)) ∈ _ ∧ _
    refine ⟨?_, fun y hy => ?_⟩
    · by_cases h : a ≤ maxL (b :: r)
      · rw [Int.max_eq_right h]; exact List.mem_cons_of_mem _ h1
      · rw [Int.max_eq_left (by omega)]; exact List.mem_cons_self
    · show y ≤ max a (maxL (b :: r))
      rcases List.mem_cons.mp hy with e | hy
      · omega
      · have := h2 y hy
        omega
theorem maxL_uniq {l : List Int} {m : Int} (h1 : m ∈ l) (h2 : ∀ y ∈ l, y ≤ m) : m = maxL l := by
  obtain ⟨h3, h4⟩ := maxL_mem l (fun z => by rw [z] at h1; cases h1)
  exact Int.le_antisymm (h4 m h1) (h2 _ h3)
structure DealOk (d : Deal) : Prop where
  p1 : 1 ≤ d.1
  p2 : d.1 ≤ 100
  q1 : 0 ≤ d.2.1
  q2 : d.2.1 < d.1
  r1 : 1 ≤ d.2.2
  r2 : d.2.2 ≤ 100
def bankOf (d : Deal) (c : Cell) : Int := (c.1 - d.2.1 * c.2.fdiv d.2.2).fmod d.1 + d.1 * c.2.fmod d.2.2
def beatsOf (d : Deal) (sh : List Cell) : Int := maxL ((sh.map (bankOf d)).map fun b => ((sh.map (bankOf d)).count b : Int))
section
variable {P : Program} {w : World} {K : PySem.W.Frag} {mg : Str → Option Value} {base : Heap}
/-! ### check_cell -/
def sp_check_cell (K : PySem.W.Frag) : Sp := fun vs H Q _ => ∃ (u : V) (c : Cell), vs = [u] ∧ Im H u (dCell c) ∧ ∀ H', Same H H' → Q .non H'
theorem ok_check_cell (T : Th P K mg base) : GF P w K mg base 3 (He.ga K "check_cell") ["value"] (sp_check_cell K) := by
  refine gf_of T.d_check_cell sc_check_cell (fun vs H Q E h => by obtain ⟨u, c, rfl, hu, q⟩ := h; rfl) (fun _ _ _ _ _ _ us hl => match us, hl with | [_], _ => rfl) fun cdv A outer s H vs Q E hg hr hsp => ?_
  obtain ⟨u, c, rfl, hu, q⟩ := hsp
  refine ⟨_, (pss_one (ps_if (pt_not (pt_val (pe_fn T.g_is_cell (ok_is_cell T) hg hr passL (pa_cons (pv 0) pa_nil)))) (pss_one ps_never) pss_nil)), ?_⟩
  exact ⟨_, rfl, u, c, rfl, hu, fun H' s _ => ⟨true, rfl, iteF (q H' s)⟩⟩
/-! ### is_deal, check_deal -/
def sp_is_deal (K : PySem.W.Frag) : Sp := fun vs H Q _ => ∃ (u : V) (d : Deal), vs = [u] ∧ Im H u (dDeal d) ∧ DealOk d ∧ ∀ H', Same H H' → Q (.bl true) H'
theorem ok_is_deal (T : Th P K mg base) : GF P w K mg base 2 (He.ga K "is_deal") ["value"] (sp_is_deal K) := by
  refine gf_of T.d_is_deal sc_is_deal (fun vs H Q E h => by obtain ⟨u, d, rfl, hu, ok, q⟩ := h; rfl) (fun _ _ _ _ _ _ us hl => match us, hl with | [_], _ => rfl) fun cdv A outer s H vs Q E hg hr hsp => ?_
  obtain ⟨u, d, rfl, hu, ok, q⟩ := hsp
  refine ⟨_, (pss_cons (ps_if (PW.pt (pw_or (pt_not (pt_val (pe_callB call_isi (by rfl) T.f_isinstance (by decide +kernel) (pa_cons (pv 0) (pa_cons (pe_bltn (v := .ty "tuple") (by rfl) T.f_tuple (by decide +kernel) rfl) pa_nil))))) (pw_or (pt_cmpR op_ne (pe_callB call_len_seq (by rfl) T.f_len (by decide +kernel) (pa_cons (pv 0) pa_nil)) pe_int (nomark _)) (pw_or1 (pt_not (pt_val (pe_callB (cr_all rfl) (by rfl) T.f_all (by decide +kernel) (pa_cons (pe_lc (own := [("one", 1)]) (tt := tYes) rfl sc_is_deal.nd (pi_tup (pv 0)) (blkOk_by (N := N_is_deal) (sc := defScope s_is_deal) (by decide +kernel)) (fun _ _ _ _ _ => (pg_name (i := 1) sc_is_deal.nd rfl (Or.inl rfl))) (fun _ _ _ _ _ => pts_nil) (fun _ _ _ _ _ => (pe_fn T.g_is_integer (ok_is_integer T) hg hr passL (pa_cons (pv 1) pa_nil)))) pa_nil)))))))) (pss_one (ps_ret pe_bl)) pss_nil)
    (pss_cons (ps_asg (pv 0) (pg_tup rfl (pgs_cons (pg_name (i := 2) sc_is_deal.nd rfl (Or.inl rfl)) (pgs_cons (pg_name (i := 3) sc_is_deal.nd rfl (Or.inl rfl)) (pgs_cons (pg_name (i := 4) sc_is_deal.nd rfl (Or.inl rfl)) pgs_nil)))))
    (pss_one (ps_ret (pe_and (pe_cmpR op_ge (pv 2) pe_int (nomark _)) (pe_and (pe_cmpR op_ge (pv 4) pe_int (nomark _)) (pe_one (pe_chain op_le op_lt pe_int (pv 3) (pv 2))))))))), ?_⟩
  obtain ⟨a, rfl, ha⟩ := hu.dealI
  refine ⟨_, rfl, _, _, _, _, true, rfl, .ty "tuple", .base (.tup ha), kit_tt, true, rfl, iteF ?_⟩
  refine ⟨_, rfl, _, _, rfl, .inr (SqT.of ha), rfl, _, rfl, iteF ?_⟩
  refine ⟨_, rfl, a, rfl, ⟨_, SqT.of ha⟩, fun D hD => lc_it (walk_tup (xs := [.int d.1, .int d.2.1, .int d.2.2])) (LcP H D fun _ v _ => v = .bl true) (LcP.zero hD) (fun i H' _ p => SqT.of (p.1 _ _ ha)) (fun i x H' H'' hi p y => ?_) (fun H' p => ?_)⟩
  · obtain ⟨rfl, hx⟩ := y
    obtain ⟨j, rfl⟩ : ∃ j : Int, x = .int j := by
      match i, hi, hx with
      | 0, _, hx => exact ⟨_, (Option.some.inj hx).symm⟩
      | 1, _, hx => exact ⟨_, (Option.some.inj hx).symm⟩
      | 2, _, hx => exact ⟨_, (Option.some.inj hx).symm⟩
    exact ⟨rfl, _, rfl, j, rfl, fun _ => LcP.next (fun _ _ _ _ h _ => h) hD (Nat.lt_of_lt_of_le hi (by show 3 ≤ 1000000; decide)) p (Same.refl _) rfl⟩
  · obtain ⟨sm, hl⟩ := LcP.map (f := fun _ => .bl true) p fun _ _ _ h => h
    refine ⟨D, [true, true, true], rfl, SqL.of hl, true, rfl, iteF ?_⟩
    refine ⟨_, rfl, a, _, rfl, SqT.of (sm _ _ ha), rfl, _, _, rfl, _, _, rfl, _, _, rfl, rfl, ?_⟩
    refine ⟨_, rfl, _, _, rfl, rfl, _, rfl, iteD ok.p1 ?_⟩
    refine ⟨_, rfl, _, _, rfl, rfl, _, rfl, iteD ok.r1 ?_⟩
    refine ⟨_, rfl, _, _, rfl, rfl, _, rfl, iteD ok.q1 ?_⟩
    refine ⟨_, rfl, _, _, rfl, rfl, ?_⟩
    show Q (.bl (decide (d.2.1 < d.1))) H'
    rw [decide_eq_true ok.q2]
    exact q _ sm
def sp_check_deal (K : PySem.W.Frag) : Sp := fun vs H Q _ => ∃ (u : V) (d : Deal), vs = [u] ∧ Im H u (dDeal d) ∧ DealOk d ∧ ∀ H', Same H H' → Q .non H'
theorem ok_check_deal (T : Th P K mg base) : GF P w K mg base 3 (He.ga K "check_deal") ["value"] (sp_check_deal K) := by
  refine gf_of T.d_check_deal sc_check_deal (fun vs H Q E h => by obtain ⟨u, d, rfl, hu, ok, q⟩ := h; rfl) (fun _ _ _ _ _ _ us hl => match us, hl with | [_], _ => rfl) fun cdv A outer s H vs Q E hg hr hsp => ?_
  obtain ⟨u, d, rfl, hu, ok, q⟩ := hsp
  refine ⟨_, (pss_one (ps_if (pt_not (pt_val (pe_fn T.g_is_deal (ok_is_deal T) hg hr passL (pa_cons (pv 0) pa_nil)))) (pss_one ps_never) pss_nil)), ?_⟩
  exact ⟨_, rfl, u, d, rfl, hu, ok, fun H' s _ => ⟨true, rfl, iteF (q H' s)⟩⟩
/-! ### bank_of, beats_of -/
def sp_bank_of (K : PySem.W.Frag) : Sp := fun vs H Q _ => ∃ (u v : V) (d : Deal) (c : Cell), vs = [u, v] ∧ Im H u (dDeal d) ∧ Im H v (dCell c) ∧ DealOk d ∧ Q (.int (bankOf d c)) H
theorem ok_bank_of (T : Th P K mg base) : GF P w K mg base 1 (He.ga K "bank_of") ["deal", "cell"] (sp_bank_of K) := by
  refine gf_of T.d_bank_of sc_bank_of (fun vs H Q E h => by obtain ⟨u, v, d, c, rfl, hu, hv, ok, q⟩ := h; rfl) (fun _ _ _ _ _ _ us hl => match us, hl with | [_, _], _ => rfl) fun cdv A outer s H vs Q E hg hr hsp => ?_
  obtain ⟨u, v, d, c, rfl, hu, hv, ok, q⟩ := hsp
  refine ⟨_, (pss_cons (ps_asg (pv 0) (pg_tup rfl (pgs_cons (pg_name (i := 2) sc_bank_of.nd rfl (Or.inl rfl)) (pgs_cons (pg_name (i := 3) sc_bank_of.nd rfl (Or.inl rfl)) (pgs_cons (pg_name (i := 4) sc_bank_of.nd rfl (Or.inl rfl)) pgs_nil)))))
    (pss_cons (ps_asg (pv 1) (pg_tup rfl (pgs_cons (pg_name (i := 5) sc_bank_of.nd rfl (Or.inl rfl)) (pgs_cons (pg_name (i := 6) sc_bank_of.nd rfl (Or.inl rfl)) pgs_nil))))
    (pss_one (ps_ret (pe_op op_add (pe_op op_modN (pe_op op_sub (pv 5) (pe_op op_mul (pv 3) (pe_op op_fdivN (pv 6) (pv 4)))) (pv 2)) (pe_op op_mul (pv 2) (pe_op op_modN (pv 6) (pv 4)))))))), ?_⟩
  obtain ⟨a, rfl, ha⟩ := hu.dealI
  obtain ⟨b, rfl, hb⟩ := hv.cellI
  have h1 := ok.p1
  have h2 := ok.p2
  have h3 := ok.q1
  have h4 := ok.q2
  have h5 := ok.r1
  have h6 := ok.r2
  refine ⟨_, rfl, a, _, rfl, SqT.of ha, rfl, _, _, rfl, _, _, rfl, _, _, rfl, rfl, ?_⟩
  refine ⟨_, rfl, b, _, rfl, SqT.of hb, rfl, _, _, rfl, _, _, rfl, rfl, ?_⟩
  refine ⟨_, rfl, _, rfl, _, rfl, _, rfl, _, _, rfl, rfl, ⟨by omega, by omega⟩, _, _, rfl, rfl, .inl ⟨by omega, by omega⟩, _, _, rfl, rfl, _, rfl, _, _, rfl, rfl, by omega, ?_⟩
  exact ⟨_, rfl, _, rfl, _, rfl, _, _, rfl, rfl, by omega, _, _, rfl, rfl, .inl ⟨by omega, by omega⟩, _, _, rfl, rfl, q⟩
def sp_beats_of (K : PySem.W.Frag) : Sp := fun vs H Q _ => ∃ (u v : V) (d : Deal) (sh : List Cell), vs = [u, v] ∧ Im H u (dDeal d) ∧ Im H v (dShape sh) ∧ DealOk d ∧ sh ≠ [] ∧ sh.length ≤ 1000 ∧ ∀ H', Same H H' → Q (.int (beatsOf d sh)) H'
theorem ok_beats_of (T : Th P K mg base) : GF P w K mg base 2 (He.ga K "beats_of") ["deal", "shape"] (sp_beats_of K) := by
  refine gf_of T.d_beats_of sc_beats_of (fun vs H Q E h => by obtain ⟨u, v, d, sh, rfl, hu, hv, ok, ne, len, q⟩ := h; rfl) (fun _ _ _ _ _ _ us hl => match us, hl with | [_, _], _ => rfl) fun cdv A outer s H vs Q E hg hr hsp => ?_
  obtain ⟨u, v, d, sh, rfl, hu, hv, ok, ne, len, q⟩ := hsp
  refine ⟨_, (pss_cons (ps_set (i := 2) sc_beats_of.nd rfl (Or.inr rfl) (pe_lc (own := [("cell", 3)]) (tt := tYes) rfl sc_beats_of.nd (pi_tup (pv 1)) (blkOk_by (N := N_beats_of) (sc := defScope s_beats_of) (by decide +kernel)) (fun _ _ _ _ _ => (pg_name (i := 3) sc_beats_of.nd rfl (Or.inl rfl))) (fun _ _ _ _ _ => pts_nil) (fun _ _ _ _ _ => (pe_fn T.g_bank_of (ok_bank_of T) hg hr passL (pa_cons (pv 0) (pa_cons (pv 3) pa_nil))))))
    (pss_one (ps_ret (pe_callB (cr_max rfl) (by rfl) T.f_max (by decide +kernel) (pa_cons (pe_lc (own := [("one", 4)]) (tt := tYes) rfl sc_beats_of.nd (pi_list (pv 2)) (blkOk_by (N := N_beats_of) (sc := defScope s_beats_of) (by decide +kernel)) (fun _ _ _ _ _ => (pg_name (i := 4) sc_beats_of.nd rfl (Or.inl rfl))) (fun _ _ _ _ _ => pts_nil) (fun _ _ _ _ _ => (pe_bmK (K := K) rfl PySem.F.plainAttrs_list PySem.F.slot_list_count PySem.F.type_list_count (mt_lcountK (K := K) rfl) (pv 2) (pa_cons (pv 4) pa_nil)))) pa_nil))))), ?_⟩
  obtain ⟨a, xs, S⟩ := hv.shapeI
  obtain rfl := S.e
  refine ⟨_, rfl, a, rfl, ⟨_, Or.inl S.t⟩, fun D hD => lc_it (walk_tup (xs := xs)) (LcP H D fun i v _ => ∃ c, sh[i]? = some c ∧ v = .int (bankOf d c)) (LcP.zero hD) (fun i H' _ p => Or.inl (rd_same S.t p.1)) (fun i x H' H'' hi p y => ?_) (fun H' p => ?_)⟩
  · obtain ⟨rfl, hx⟩ := y
    obtain ⟨c, hc, hxc⟩ := S.i i x hx
    exact ⟨rfl, _, rfl, _, rfl, u, x, d, c, rfl, hu.s p.1, hxc.s p.1, ok, fun _ => LcP.next (fun _ _ _ _ h _ => h) hD (by have := S.l; omega) p (Same.refl _) ⟨c, hc, rfl⟩⟩
  · obtain ⟨sm, hl⟩ := LcP.mapL (l := sh.map (bankOf d)) (g := .int) p (by rw [List.length_map]; exact S.l) fun i v ⟨c, e1, e2⟩ => ⟨bankOf d c, by rw [List.getElem?_map, e1]; rfl, e2⟩
    refine ⟨_, rfl, D, rfl, ⟨_, SqL.of hl⟩, fun D2 hD2 => lc_it (walk_list (xs := (sh.map (bankOf d)).map V.int)) (LcP H' D2 fun i v _ => ∃ b, (sh.map (bankOf d))[i]? = some b ∧ v = .int ((sh.map (bankOf d)).count b : Int)) (LcP.zero hD2) (fun i H' _ p => SqL.of (p.1 _ _ hl)) (fun i x H2 H3 hi p y => ?_) (fun H2 p => ?_)⟩
    · obtain ⟨rfl, hx⟩ := y
      obtain ⟨b, hb, rfl⟩ : ∃ b, (sh.map (bankOf d))[i]? = some b ∧ x = .int b := by
        rw [List.getElem?_map] at hx
        cases e : (sh.map (bankOf d))[i]? with
        | none => rw [e] at hx; cases hx
        | some b => rw [e] at hx; exact ⟨b, rfl, (Option.some.inj hx).symm⟩
      exact ⟨rfl, _, rfl, .inl ⟨rfl, _, SqL.of (p.1 _ _ hl)⟩, _, rfl, D, _, b, rfl, rfl, SqL.of (p.1 _ _ hl), LcP.next (fun _ _ _ _ h _ => h) hD2 (by simp at hi; omega) p (Same.refl _) ⟨b, hb, rfl⟩⟩
    · obtain ⟨sm2, hl2⟩ := LcP.mapL (l := (sh.map (bankOf d)).map fun b => ((sh.map (bankOf d)).count b : Int)) (g := .int) p (by simp) fun i v ⟨b, e1, e2⟩ => ⟨_, by rw [List.getElem?_map, e1]; rfl, e2⟩
      refine ⟨D2, _, rfl, SqL.of hl2, ?_, fun m h1 h2 => ?_⟩
      · have : sh.length ≠ 0 := fun z => ne (List.eq_nil_of_length_eq_zero z)
        simp
        omega
      · rw [maxL_uniq h1 h2]
        exact q _ (sm.trans sm2)
end
end Bp

namespace Bp
open PySem PySem.Spec PyProof.Rows L2
/-! ### enumerate(t), t a tuple; enumerate(xs, k) -/
theorem meets_enum1 {v : Value} {o : Obj} {G : Heap → Prop} (B : Begins v o G) :
    Meets (Builtin.«enumerate.__new__» ⟨[.type "enumerate", v], []⟩) (fun _ R s => G s.heap ∧
      R (.ok (.ret (.ref (s.heap.push o).objs.size))) { s with heap := (s.heap.push o).push { cls := .type "enumerate", data := .fields #[.none, .bool false, .ref s.heap.objs.size, rawInt 0, .none, .none] } }) :=
  .of_wp fun prog w A R s h => by
    obtain ⟨hp0, gs0, dr0, tk0, os0⟩ := s
    obtain ⟨hG, hR⟩ := h
    have hsub := sub_enumerate
    have itr : ∀ {A' : Around} {E' : Value → Shared → Prop} {Q' : Value → Shared → Prop}, Q' (.ref hp0.objs.size) ⟨hp0.push o, gs0, dr0, tk0, os0⟩ → wpAny (model prog w) A' (pyIter v) Q' E' ⟨hp0, gs0, dr0, tk0, os0⟩ :=
      fun z => B.iter prog w _ _ ⟨hp0, gs0, dr0, tk0, os0⟩ _ hG z
    wp_walk using itr
    refine wpAny_stack_any fun stk => wpAny_pure ?_
    split
    · rename_i cc _ _ _ _ _
      cases (cc == Value.type "enumerate")
      · wp_walk using itr
        exact ⟨_, rfl, hR⟩
      · wp_walk using itr
        exact ⟨_, rfl, hR⟩
    · wp_walk using itr
      exact ⟨_, rfl, hR⟩
theorem enum_begins1 {prog : Program} {w : World} {A : Around} {E : Value → Shared → Prop} {s : Shared} {v : Value} {o : Obj} {G : Heap → Prop} {Q : Value → Shared → Prop} (B : Begins v o G) (hG : G s.heap)
    (h : ∀ h1, IsEnum h1 (s.heap.objs.size + 1) s.heap.objs.size 0 .none → h1.get? s.heap.objs.size = some o → (∀ b u, s.heap.get? b = some u → h1.get? b = some u) → Q (.ref (s.heap.objs.size + 1)) { s with heap := h1 }) :
    wpAny (model prog w) A (call (.type "enumerate") [v]) Q E s := by
  refine callType_new F.called_enumerate (by decide) (F.typeCall_enumerate_1 _) (F.newCall_enumerate_1 _) (fun z => F.args_object_init_2 z _) F.entry_enumerate_new (meets_enum1 B) ⟨hG, ?_⟩
  have sz1 : (s.heap.push o).objs.size = s.heap.objs.size + 1 := Heap.size_push ..
  show _ ∧ _
  rw [sz1]
  have en : IsEnum ((s.heap.push o).push { cls := .type "enumerate", data := .fields #[.none, .bool false, .ref s.heap.objs.size, rawInt 0, .none, .none] }) (s.heap.objs.size + 1) s.heap.objs.size 0 .none := by
    have z := Heap.get?_push_size (s.heap.push o) (o := { cls := .type "enumerate", data := .fields #[.none, .bool false, .ref s.heap.objs.size, rawInt 0, .none, .none] }) rfl
    rw [sz1] at z
    exact z
  exact ⟨⟨_, en, rfl⟩, h _ en (Heap.get?_push_of_some _ (Heap.get?_push_size _ B.free)) fun b u y => Heap.get?_push_of_some _ (Heap.get?_push_of_some _ y)⟩
/-- S says what stands at a; its items are drawn by it -/
def ItE (S : Hp → List V → Prop) (k0 : Int) : It :=
  ⟨fun i H => ∃ xs x, S H xs ∧ xs[i]? = some x, fun i H v H' => ∃ t x, v = .ref t ∧ H t = none ∧ H' = upd H t (.tup [.int (k0 + (i : Nat)), x]) ∧ ∀ xs, S H xs → xs[i]? = some x, fun i H => ∃ xs, S H xs ∧ xs.length ≤ i⟩
/-- a tuple or a list at a, and its iterator -/
structure SeqIt (K : PySem.W.Frag) (a : Addr) (S : Hp → List V → Prop) (St : Addr → Nat → Heap → Prop) (T : Heap → Array Value → Prop) : Prop where
  its : ∀ {X : Cx} {pins : List (Addr × Obj)} {σ : L2.St} {H : Hp} {s : Shared} {xs : List V}, X.K = K → Inv X pins σ H s → S H xs → ∃ us : List Value, Vals xs us ∧ T s.heap us.toArray
  inj : ∀ {X : Cx} {pins : List (Addr × Obj)} {σ : L2.St} {H : Hp} {s : Shared} {xs ys : List V}, X.K = K → Inv X pins σ H s → S H xs → S H ys → xs = ys
  dr : ∀ {prog : Program} {w : World} {A : Around} (it : Addr) (us : Array Value), A.handled = none → a ≠ it → Draws prog w A it [it, a] us.size (fun i v => us[i]? = some v) (fun i h => St it i h ∧ T h us)
  at_ : ∀ it i h, St it i h → ∃ o n vs, h.get? it = some o ∧ o.cls = .type n ∧ o.data = .fields vs
  kp : ∀ it i h h', St it i h → (∀ o, h.get? it = some o → h'.get? it = some o) → St it i h'
  end_ : ∀ {prog : Program} {w : World} {A : Around} {E : Value → Shared → Prop} {s : Shared} {e it : Addr} {c : Int} {old : Value} {us : Array Value} {i : Nat} {Q : Option Value → Shared → Prop}, A.handled = none → IsEnum s.heap e it c old → St it i s.heap → T s.heap us → us[i]? = none →
    (∀ h1, Heap.ExtBut it s.heap h1 → Q none { s with heap := h1 }) → wpAny (model prog w) A (pyNext (.ref e)) Q E s
  sq : ∀ {h us}, T h us → ∃ o n, h.get? a = some o ∧ o.data = .seq us n
section
variable {K : PySem.W.Frag} {a : Addr} {S : Hp → List V → Prop} {St : Addr → Nat → Heap → Prop} {T : Heap → Array Value → Prop}
theorem turn_enumS {P : Program} {w : World} {elts : List Expr} {kk : Nat} {tpos : Pos} (q : SeqIt K a S St T) (k0 : Int) (e it : Addr) :
    Turn P w K (.Tuple elts kk tpos) (ItE S k0) [e, it] e (fun i h => (∃ old, IsEnum h e it (k0 + (i : Nat)) old) ∧ St it i h ∧ e ≠ it) where
  mem := by simp
  obj := by
    rintro i h ⟨⟨old, he⟩, hs, _⟩ b hb
    have hb' : b = e ∨ b = it := by simpa using hb
    rcases hb' with z | z
    · rw [z]
      exact ⟨_, he, fun v y => nomatch y⟩
    · rw [z]
      obtain ⟨o, n, vs, h1, h2, h3⟩ := q.at_ _ _ _ hs
      exact ⟨o, h1, fun v y => by rw [h3] at y; cases y⟩
  keep := by
    rintro i h h' ⟨⟨old, he⟩, hs, ne⟩ k
    exact ⟨⟨old, k e (by simp) _ he⟩, q.kp _ _ _ _ hs fun o y => k it (by simp) o y, ne⟩
  item := by
    intro X hP hw hK hc i pins s σ H E I hf st hg
    subst hP hw
    obtain ⟨⟨old, he⟩, hs, ne⟩ := st
    obtain ⟨xs, x, hS, hx⟩ := hg
    obtain ⟨us, rv, hT⟩ := q.its hK I hS
    obtain ⟨u, hu, ru⟩ := rv.get hx
    have lte : e < s.heap.objs.size := Heap.lt_size he
    obtain ⟨oi, ni, vsi, hio, _, _⟩ := q.at_ _ _ _ hs
    have lti : it < s.heap.objs.size := Heap.lt_size hio
    obtain ⟨oa, na, ha1, ha2⟩ := q.sq hT
    have nai : a ≠ it := fun z => by
      obtain ⟨o3, n3, v3, z1, z2, z3⟩ := q.at_ _ _ _ hs
      rw [← z, ha1] at z1
      cases z1
      rw [ha2] at z3
      cases z3
    have nea : e ≠ a := fun z => by
      have he' : s.heap.get? e = some _ := he
      rw [z, ha1] at he'
      cases he'
      cases ha2
    have D := q.dr (prog := X.prog) (w := X.w) (A := X.A.in1) it us.toArray (I.ok.hd hc) nai
    have hlt : i < us.toArray.size := by
      obtain ⟨hl, _⟩ := List.getElem?_eq_some_iff.mp hu
      simpa using hl
    refine wpAny_pyNext_enum_itemC D he ⟨hs, hT⟩ hlt ne (by simp; exact ⟨ne, nea⟩) fun y h1 tk1 hy ho1 hs1 hT1 hz1 hk1 => ?_
    have hyu : y = u := by
      have hy' : us.toArray[i]? = some y := hy
      have : us[i]? = some y := by simpa using hy'
      rw [hu] at this
      exact (Option.some.inj this).symm
    subst hyu
    refine ⟨_, rfl, wpAny_letOwnedTupleGo_enum (s := { s with heap := h1, toks := tk1 + 1 }) ho1 fun h2 he2 sb => ?_⟩
    have hT2 : h2.get? s.heap.objs.size = some { cls := .type "tuple", data := .seq #[.int (k0 + (i : Nat)) tk1, y] } := (sb.2 _ (Nat.ne_of_gt lte)).trans hT1
    have nw : ObjOk X.prog X.w (upd H s.heap.objs.size (.tup [.int (k0 + (i : Nat)), x])) h2 s.heap.objs.size (.tup [.int (k0 + (i : Nat)), x]) :=
      ⟨by show 2 ≤ sizeLine; decide, [.int (k0 + (i : Nat)) tk1, y], .cons ⟨_, rfl⟩ (.cons ru .nil), _, hT2, rfl, _, rfl⟩
    have I1 : Inv X pins σ (upd H s.heap.objs.size (.tup [.int (k0 + (i : Nat)), x])) { s with heap := h2, toks := tk1 + 1 } :=
      I.turnedNew (ch := [e, it]) (fun b ob hb z => (sb.2 b (fun y => hb (by simp [y]))).trans (hk1 b ob (fun y => hb (by simp [y])) (fun y => hb (by simp [y])) z)) hf (Nat.le_refl _) nw
    refine ⟨.ref s.heap.objs.size, _, I1, rfl, ⟨_, x, rfl, I.hok.fresh (Nat.le_refl _), rfl, fun ys hy => by rw [q.inj hK I hy hS]; exact hx⟩, ⟨⟨y, ?_⟩, q.kp _ _ _ _ hs1.1 (fun o z => (sb.2 it (Ne.symm ne)).trans z), ne⟩, fun b hb => ?_⟩
    · have e1 : k0 + ((i + 1 : Nat) : Int) = k0 + (i : Int) + 1 := by omega
      rw [e1]
      exact he2
    · have hb' : b = e ∨ b = it := by simpa using hb
      have lb : b < s.heap.objs.size := by
        rcases hb' with z | z
        · rw [z]; exact lte
        · rw [z]; exact lti
      rw [upd_ne (Nat.ne_of_lt lb)]
      exact (hf b hb).1
  done := by
    intro X hP hw hK hc i pins s σ H E I hf st hg
    subst hP hw
    obtain ⟨⟨old, he⟩, hs, ne⟩ := st
    obtain ⟨xs, hS, hx⟩ := hg
    obtain ⟨us, rv, hT⟩ := q.its hK I hS
    obtain ⟨oa, na, ha1, ha2⟩ := q.sq hT
    have nai : a ≠ it := fun z => by
      obtain ⟨o3, n3, v3, z1, z2, z3⟩ := q.at_ _ _ _ hs
      rw [← z, ha1] at z1
      cases z1
      rw [ha2] at z3
      cases z3
    obtain ⟨f0, f1, f2, f3, f4, f5⟩ := hf it (by simp)
    have hl := rv.length
    exact q.end_ (I.ok.hd hc) he hs hT (by simp; omega) fun h1 hk1 => ⟨rfl, I.turned (t' := s.toks) (fun b o hb z => hk1 b o hb z) f0 f1 f3 f4 f5⟩
  self := fun A i s Q E st h => by
    obtain ⟨⟨_, he⟩, _⟩ := st
    exact wpAny_pyIter_enum he h
theorem enum_over {prog : Program} {w : World} {A : Around} {E : Value → Shared → Prop} {s : Shared} {e it : Addr} {c : Int} {old : Value} {Q : Option Value → Shared → Prop} (he : IsEnum s.heap e it c old)
    (hn : ∀ (E' : Value → Shared → Prop) (Q' : Value → Shared → Prop), (∀ h1 y, Heap.ExtBut it s.heap h1 → (∃ o, h1.get? y = some o ∧ o.cls = .type "StopIteration") → E' (.ref y) { s with heap := h1 }) → wpAny (model prog w) A.in1 (Builtin.SmallTypes.nextOf (.ref it)) Q' E' s)
    (hQ : ∀ h1, Heap.ExtBut it s.heap h1 → Q none { s with heap := h1 }) : wpAny (model prog w) A (pyNext (.ref e)) Q E s := by
  have hT : s.TypeIs (.ref e) "enumerate" := ⟨_, he, rfl⟩
  unfold pyNext
  refine wpAny_bind (wpAny_attempt (wpAny_callSpecial?_slot (name := Str.ofString "__next__") hT F.slot_enumerate_next (wpAny_call_entry F.slot_enumerate_next hT F.entry_enumerate_next ?_ (F.args_enumerate_next_1 _))))
  show wpAny _ _ (field (.ref e) 2 >>= _) _ _ _
  refine wpAny_bind (wpAny_field he rfl (x := .ref it) rfl ?_)
  refine wpAny_bind (hn _ _ fun h1 y hx hs => ?_)
  obtain ⟨o, ho, hcl⟩ := hs
  exact wpAny_bind (wpAny_isInstance (T := "StopIteration") (b := true) ⟨o, ho, hcl⟩ isSubtype_stop (wpAny_pure (hQ _ hx)))
theorem seqIt_tup : SeqIt K a (fun H xs => SqT K H a xs) (fun it i h => h.IsTupleIter it a i) (fun h us => h.IsTuple a us) where
  its := by
    rintro X pins σ H s xs rfl I hS
    obtain ⟨us, rv, ht, _⟩ := I.tuple hS
    exact ⟨us, rv, ht⟩
  inj := by
    rintro X pins σ H s xs ys rfl I h1 h2
    exact I.tuple_inj h1 h2
  dr := fun it us hh ne => Draws.tuple hh it a ne us
  at_ := by
    rintro it i h ⟨o, h1, h2, h3⟩
    exact ⟨o, _, _, h1, h2, h3⟩
  kp := by
    rintro it i h h' ⟨o, h1, h2, h3⟩ k
    exact ⟨o, k o h1, h2, h3⟩
  end_ := fun hh he hs hT hx k => enum_over he (fun E' Q' z => wpAny_nextOf_tuple_end (by exact hh) hs hT hx fun h1 y a b => z h1 y a b) k
  sq := by
    rintro h us ⟨o, h1, _, n, h2⟩
    exact ⟨o, n, h1, h2⟩
theorem seqIt_lst : SeqIt K a (fun H xs => SqL K H a xs) (fun it i h => h.IsListIter it a i) (fun h us => h.IsList a us) where
  its := by
    rintro X pins σ H s xs rfl I hS
    obtain ⟨us, rv, ht, _⟩ := I.list hS
    exact ⟨us, rv, ht.isList⟩
  inj := by
    rintro X pins σ H s xs ys rfl I h1 h2
    exact I.list_inj h1 h2
  dr := fun it us hh ne => Draws.list hh it a ne us
  at_ := by
    rintro it i h ⟨o, h1, h2, h3⟩
    exact ⟨o, _, _, h1, h2, h3⟩
  kp := by
    rintro it i h h' ⟨o, h1, h2, h3⟩ k
    exact ⟨o, k o h1, h2, h3⟩
  end_ := fun hh he hs hT hx k => enum_over he (fun E' Q' z => wpAny_nextOf_list_end (by exact hh) hs hT hx fun h1 y a b => z h1 y a b) k
  sq := by
    rintro h us ⟨o, h1, _, n, h2⟩
    exact ⟨o, n, h1, h2⟩
end
section
variable {X : Cx} {e e2 : Expr} {ta : TA} {p pos tpos : Pos} {elts : List Expr} {kk : Nat}
/-- enumerate(t), t a tuple -/
def iEnT (K : PySem.W.Frag) (ta : TA) : TI := fun σ H R => ta σ H fun vs H1 => ∃ a xs, vs = [.ref a] ∧ SqT K H1 a xs ∧ R (ItE (fun H xs => SqT K H a xs) 0) H1
theorem pi_enT (hg : Gl X "enumerate") (hm : X.mg "enumerate" = none) (ha : PA X [e] ta) (hs : starEach [e] X.env = [(false, eval e X.env)] := by rfl) :
    PI X (.Tuple elts kk tpos) (.Call (.Name "enumerate" p) [e] [] pos) (iEnT X.K ta) := by
  constructor
  intro pins s σ H R I h
  refine Call_ (ld_blt I hg hm boot_enumerate (PyProof.Rows.callWith_type1 (thn (ha.run pos pins s σ H _ I h) ?_) hs rfl))
  rintro us s1 ⟨vs, H1, I1, r1, a, xs, rfl, hq, q⟩
  obtain ⟨u, rfl, ru⟩ := vals1 r1
  obtain rfl : u = Value.ref a := ru
  obtain ⟨its, rv, hT, _⟩ := I1.tuple hq
  refine enum_begins1 (begins_tuple a its.toArray) hT fun h1 he hi k1 => wpAny_pyIter_enum he ?_
  have I2 : Inv X pins σ H1 { s1 with heap := h1 } := I1.kept (t' := s1.toks) k1
  refine ⟨s1.heap.objs.size + 1, [s1.heap.objs.size + 1, s1.heap.objs.size], _, _, H1, rfl, I2, turn_enumS seqIt_tup 0 (s1.heap.objs.size + 1) s1.heap.objs.size, ⟨⟨.none, he⟩, ⟨_, hi, rfl, rfl⟩, Nat.succ_ne_self _⟩, fun b hb => ?_, q⟩
  have hb' : b = s1.heap.objs.size + 1 ∨ b = s1.heap.objs.size := by simpa using hb
  have lb : s1.heap.objs.size ≤ b := by
    rcases hb' with z | z
    · rw [z]; exact Nat.le_add_right _ _
    · rw [z]; exact Nat.le_refl _
  exact I1.fpOk lb (I1.hok.fresh lb)
/-- enumerate(xs, k), xs a list -/
def iEnL (K : PySem.W.Frag) (ta : TA) : TI := fun σ H R => ta σ H fun vs H1 => ∃ a xs k, vs = [.ref a, .int k] ∧ SqL K H1 a xs ∧ -(2 ^ 63) ≤ k ∧ k < 2 ^ 63 ∧ R (ItE (fun H xs => SqL K H a xs) k) H1
theorem pi_enL (hg : Gl X "enumerate") (hm : X.mg "enumerate" = none) (ha : PA X [e, e2] ta) (hs : starEach [e, e2] X.env = (false, eval e X.env) :: starEach [e2] X.env := by rfl) (hpl : (backTo pos (starEach [e2] X.env)).any (·.1) = false := by rfl) :
    PI X (.Tuple elts kk tpos) (.Call (.Name "enumerate" p) [e, e2] [] pos) (iEnL X.K ta) := by
  constructor
  intro pins s σ H R I h
  refine Call_ (ld_blt I hg hm boot_enumerate (PyProof.Rows.callWith_type1 (thn (ha.run pos pins s σ H _ I h) ?_) hs hpl))
  rintro us s1 ⟨vs, H1, I1, r1, a, xs, k, rfl, hq, hk0, hk1, q⟩
  obtain ⟨u, u2, rfl, ru, ru2⟩ := vals2 r1
  obtain rfl : u = Value.ref a := ru
  obtain ⟨t2, rfl⟩ := ru2
  obtain ⟨its, rv, hT, _⟩ := I1.list hq
  refine enum_begins (begins_list a its.toArray) hT.isList hk0 hk1 fun h1 he hi _ k1 => wpAny_pyIter_enum he ?_
  have I2 : Inv X pins σ H1 { s1 with heap := h1 } := I1.kept (t' := s1.toks) k1
  refine ⟨s1.heap.objs.size + 1, [s1.heap.objs.size + 1, s1.heap.objs.size], _, _, H1, rfl, I2, turn_enumS seqIt_lst k (s1.heap.objs.size + 1) s1.heap.objs.size, ⟨⟨.none, by simpa using he⟩, ⟨_, hi, rfl, rfl⟩, Nat.succ_ne_self _⟩, fun b hb => ?_, q⟩
  have hb' : b = s1.heap.objs.size + 1 ∨ b = s1.heap.objs.size := by simpa using hb
  have lb : s1.heap.objs.size ≤ b := by
    rcases hb' with z | z
    · rw [z]; exact Nat.le_add_right _ _
    · rw [z]; exact Nat.le_refl _
  exact I1.fpOk lb (I1.hok.fresh lb)
theorem walk_E {S : Hp → List V → Prop} {k0 : Int} {xs : List V} : Walk (ItE S k0) xs.length (fun H => S H xs) (YPair (fun i => some (.int (k0 + (i : Nat)))) (fun i => xs[i]?)) := by
  refine ⟨fun i _ hi q => ⟨xs, xs[i], q, by simp [hi]⟩, fun _ q => ⟨xs, q, Nat.le_refl _⟩, fun i H v H' _ q y => ?_⟩
  obtain ⟨t, x, h1, h2, h3, h4⟩ := y
  exact ⟨t, .int (k0 + (i : Nat)), x, h1, h2, h3, rfl, h4 xs q⟩
end
end Bp

namespace Bp
open PySem PySem.Spec PyProof.Rows L2
/-! ### plain data: no bools, no dicts; texts that lay -/
mutual
def nb : PyData → Bool
  | .none | .int _ => true
  | .str x => PyData.strOk x
  | .list xs | .tuple xs => nbAll xs
  | .bool _ | .dict _ => false
def nbAll : List PyData → Bool
  | [] => true
  | x :: xs => nb x && nbAll xs
end
mutual
theorem nb_lay : ∀ d, nb d = true → d.canLay0 = true
  | .none, _ => by simp only [PyData.canLay0]
  | .int _, _ => by simp only [PyData.canLay0]
  | .str x, h => by simp only [PyData.canLay0]; simpa only [nb] using h
  | .list xs, h => by simp only [PyData.canLay0]; exact nb_layAll xs (by simpa only [nb] using h)
  | .tuple xs, h => by simp only [PyData.canLay0]; exact nb_layAll xs (by simpa only [nb] using h)
  | .bool _, h => by simp only [nb] at h; cases h
  | .dict _, h => by simp only [nb] at h; cases h
theorem nb_layAll : ∀ ds, nbAll ds = true → PyData.canLayAll0 ds = true
  | [], _ => by simp only [PyData.canLayAll0]
  | x :: xs, h => by
    simp only [nbAll] at h
    obtain ⟨h1, h2⟩ := and2 h
    simp only [PyData.canLayAll0, nb_lay x h1, nb_layAll xs h2, Bool.and_self]
end
mutual
theorem eqv_eq : ∀ d e, nb d = true → nb e = true → (PyData.eqv d e = true ↔ d = e)
  | .none, .none, _, _ => by simp [PyData.eqv]
  | .none, .int _, _, _ => by simp [PyData.eqv]
  | .none, .str _, _, _ => by simp [PyData.eqv]
  | .none, .list _, _, _ => by simp [PyData.eqv]
  | .none, .tuple _, _, _ => by simp [PyData.eqv]
  | .int _, .none, _, _ => by simp [PyData.eqv]
  | .int i, .int j, _, _ => by simp [PyData.eqv]
  | .int _, .str _, _, _ => by simp [PyData.eqv]
  | .int _, .list _, _, _ => by simp [PyData.eqv]
  | .int _, .tuple _, _, _ => by simp [PyData.eqv]
  | .str _, .none, _, _ => by simp [PyData.eqv]
  | .str _, .int _, _, _ => by simp [PyData.eqv]
  | .str x, .str y, _, _ => by simp [PyData.eqv]
  | .str _, .list _, _, _ => by simp [PyData.eqv]
  | .str _, .tuple _, _, _ => by simp [PyData.eqv]
  | .list _, .none, _, _ => by simp [PyData.eqv]
  | .list _, .int _, _, _ => by simp [PyData.eqv]
  | .list _, .str _, _, _ => by simp [PyData.eqv]
  | .list xs, .list ys, h1, h2 => by
    simp only [nb] at h1 h2
    simp only [PyData.eqv, PyData.list.injEq]
    exact eqv_eqAll xs ys h1 h2
  | .list _, .tuple _, _, _ => by simp [PyData.eqv]
  | .tuple _, .none, _, _ => by simp [PyData.eqv]
  | .tuple _, .int _, _, _ => by simp [PyData.eqv]
  | .tuple _, .str _, _, _ => by simp [PyData.eqv]
  | .tuple _, .list _, _, _ => by simp [PyData.eqv]
  | .tuple xs, .tuple ys, h1, h2 => by
    simp only [nb] at h1 h2
    simp only [PyData.eqv, PyData.tuple.injEq]
    exact eqv_eqAll xs ys h1 h2
  | .bool _, _, h, _ => by simp only [nb] at h; cases h
  | .dict _, _, h, _ => by simp only [nb] at h; cases h
  | _, .bool _, _, h => by simp only [nb] at h; cases h
  | _, .dict _, _, h => by simp only [nb] at h; cases h
theorem eqv_eqAll : ∀ ds es, nbAll ds = true → nbAll es = true → (PyData.eqvAll ds es = true ↔ ds = es)
  | [], [], _, _ => by simp [PyData.eqvAll]
  | [], _ :: _, _, _ => by simp [PyData.eqvAll]
  | _ :: _, [], _, _ => by simp [PyData.eqvAll]
  | x :: xs, y :: ys, h1, h2 => by
    simp only [nbAll] at h1 h2
    obtain ⟨a1, a2⟩ := and2 h1
    obtain ⟨b1, b2⟩ := and2 h2
    simp only [PyData.eqvAll, Bool.and_eq_true, List.cons.injEq, eqv_eq x y a1 b1, eqv_eqAll xs ys a2 b2]
end
theorem eqv_no {d e : PyData} (h1 : nb d = true) (h2 : nb e = true) (h : d ≠ e) : PyData.eqv d e = false := by
  cases q : PyData.eqv d e with
  | false => rfl
  | true => exact absurd ((eqv_eq d e h1 h2).mp q) h
theorem eqv_yes {d : PyData} (h1 : nb d = true) : PyData.eqv d d = true := (eqv_eq d d h1 h1).mpr rfl
/-- the data may be compared -/
theorem shp {d : PyData} (h : nb d = true) (h2 : d.depth ≤ 64) : SeqAt.shaped d = true := by
  show (d.canLay0 && decide (d.depth ≤ 64)) = true
  rw [nb_lay d h, decide_eq_true h2]
  rfl
theorem nbAll_map {α : Type} (f : α → PyData) : ∀ l : List α, (∀ x ∈ l, nb (f x) = true) → nbAll (l.map f) = true
  | [], _ => by simp only [List.map_nil, nbAll]
  | x :: xs, h => by
    simp only [List.map_cons, nbAll, h x List.mem_cons_self, nbAll_map f xs fun y hy => h y (List.mem_cons_of_mem _ hy), Bool.and_self]
theorem depthAll_map {α : Type} (f : α → PyData) (k : Nat) : ∀ l : List α, (∀ x ∈ l, (f x).depth ≤ k) → PyData.depthAll (l.map f) ≤ k
  | [], _ => by simp [PyData.depthAll]
  | x :: xs, h => by
    have h1 := h x List.mem_cons_self
    have h2 := depthAll_map f k xs fun y hy => h y (List.mem_cons_of_mem _ hy)
    simp only [List.map_cons, PyData.depthAll]
    omega
theorem nb_cell (c : Cell) : nb (dCell c) = true := by simp only [dCell, nb, nbAll, Bool.and_self]
theorem dep_cell (c : Cell) : (dCell c).depth ≤ 2 := by simp [dCell, PyData.depth, PyData.depthAll]
theorem nb_deal (d : Deal) : nb (dDeal d) = true := by simp only [dDeal, nb, nbAll, Bool.and_self]
theorem dep_deal (d : Deal) : (dDeal d).depth ≤ 2 := by simp [dDeal, PyData.depth, PyData.depthAll]
theorem nb_shape (sh : List Cell) : nb (dShape sh) = true := by
  simp only [dShape, nb]
  exact nbAll_map _ _ fun c _ => nb_cell c
theorem dep_shape (sh : List Cell) : (dShape sh).depth ≤ 3 := by
  have := depthAll_map dCell 2 sh fun c _ => dep_cell c
  simp only [dShape, PyData.depth]
  omega
theorem nb_ints (ns : List Int) : nb (dInts ns) = true := by
  simp only [dInts, nb]
  exact nbAll_map _ _ fun c _ => by simp only [nb]
theorem dep_ints (ns : List Int) : (dInts ns).depth ≤ 2 := by
  have := depthAll_map PyData.int 1 ns fun c _ => by simp [PyData.depth]
  simp only [dInts, PyData.depth]
  omega
theorem nb_deed (d : Deed) : nb (dDeed d) = true := by
  cases d with
  | anew d =>
    have := nb_deal d
    have h : PyData.strOk "anew" = true := by decide +kernel
    simp only [dDeed, nb, nbAll, this, h, Bool.and_self]
  | write sh pl ns =>
    have h1 := nb_shape sh
    have h2 := nb_cell pl
    have h3 := nb_ints ns
    have h : PyData.strOk "write" = true := by decide +kernel
    simp only [dDeed, nb, nbAll, h1, h2, h3, h, Bool.and_self]
theorem dep_deed (d : Deed) : (dDeed d).depth ≤ 4 := by
  cases d with
  | anew d =>
    have := dep_deal d
    simp only [dDeed, PyData.depth, PyData.depthAll]
    omega
  | write sh pl ns =>
    have h1 := dep_shape sh
    have h2 := dep_cell pl
    have h3 := dep_ints ns
    simp only [dDeed, PyData.depth, PyData.depthAll]
    omega
theorem nb_entry (e : Entry) : nb (dEntry e) = true := by
  have := nb_deed e.1
  simp only [dEntry, nb, nbAll, this, Bool.and_self]
theorem dep_entry (e : Entry) : (dEntry e).depth ≤ 5 := by
  have := dep_deed e.1
  simp only [dEntry, PyData.depth, PyData.depthAll]
  omega
theorem nb_past (l : List Entry) : nb (dPast l) = true := by
  simp only [dPast, nb]
  exact nbAll_map _ _ fun c _ => nb_entry c
theorem dep_past (l : List Entry) : (dPast l).depth ≤ 6 := by
  have := depthAll_map dEntry 5 l fun c _ => dep_entry c
  simp only [dPast, PyData.depth]
  omega
theorem map_inj {α β : Type} {f : α → β} (h : ∀ x y, f x = f y → x = y) : ∀ {l m : List α}, l.map f = m.map f → l = m
  | [], [], _ => rfl
  | [], _ :: _, e => by cases e
  | _ :: _, [], e => by cases e
  | x :: xs, y :: ys, e => by
    simp only [List.map_cons, List.cons.injEq] at e
    rw [h _ _ e.1, map_inj h e.2]
theorem cell_inj (c d : Cell) (h : dCell c = dCell d) : c = d := by
  simp only [dCell, PyData.tuple.injEq, List.cons.injEq, PyData.int.injEq, and_true] at h
  exact Prod.ext h.1 h.2
theorem deal_inj (c d : Deal) (h : dDeal c = dDeal d) : c = d := by
  simp only [dDeal, PyData.tuple.injEq, List.cons.injEq, PyData.int.injEq, and_true] at h
  exact Prod.ext h.1 (Prod.ext h.2.1 h.2.2)
theorem shape_inj (c d : List Cell) (h : dShape c = dShape d) : c = d := by
  simp only [dShape, PyData.tuple.injEq] at h
  exact map_inj cell_inj h
theorem ints_inj (c d : List Int) (h : dInts c = dInts d) : c = d := by
  simp only [dInts, PyData.tuple.injEq] at h
  exact map_inj (fun x y e => by cases e; rfl) h
end Bp

namespace Bp
open PySem PySem.Spec PyProof.Rows L2
/-! ### tuple(xs), the new tuple frozen -/
theorem call_tuple_frz {X : Cx} : CallR X (.type "tuple") (fun xs H Q => ∃ p ys, xs = [.ref p] ∧ SqL X.K H p ys ∧ ∀ l (o : Obj), H l = none → o.dict = none → Q (.ref l) (upd H l (.frz o (.tup ys)))) := by
  intro pins s σ H xs us Q I r h
  obtain ⟨p, ys, rfl, hq, q⟩ := h
  obtain ⟨u, rfl, rx⟩ := vals1 r
  cases rx
  obtain ⟨its, rv, pl, hz⟩ := I.list hq
  have hlen := rv.length
  refine call_tuple_list pl.isList (fun h1 kp => ?_) (by simp only [List.size_toArray] <;> omega)
  have I1 : Inv X pins σ H { s with heap := h1 } := I.kept (t' := s.toks) kp
  have I2 : Inv X pins σ (upd H h1.objs.size (.frz { cls := .type "tuple", data := .seq its.toArray } (.tup ys))) { s with heap := h1.push { cls := .type "tuple", data := .seq its.toArray } } :=
    I1.laid (t' := s.toks) (fun b o e => Heap.get?_push_of_some _ e) (Nat.le_refl _) (show ObjOk X.prog X.w _ _ _ (.frz _ (.tup ys)) from ⟨Heap.get?_push_size _ rfl, hz, its, rv, IsTup.new _ _⟩)
  exact ⟨.ref h1.objs.size, _, I2, rfl, q _ _ (I1.hok.fresh (Nat.le_refl _)) rfl⟩
theorem Im.shape {H : Hp} {a : Addr} {ys : List V} {sh : List Cell} {o : Obj} (h : H a = some (.frz o (.tup ys))) (d : o.dict = none) (i : ImAll H ys (sh.map dCell)) (ne : sh ≠ []) : Im H (.ref a) (dShape sh) := by
  refine .tup ?_ i
  cases sh with
  | nil => exact absurd rfl ne
  | cons c r => exact ⟨o, h, d⟩
/-! ### a list or a tuple of cells, walked -/
def SqR (K : PySem.W.Frag) (a : Addr) (H : Hp) (R : It → Hp → Prop) : Prop := (∃ xs, SqL K H a xs) ∧ R (Itl K a) H ∨ (∃ xs, SqT K H a xs) ∧ R (Itt K a) H
def iSeq (K : PySem.W.Frag) (tl : TE) : TI := fun σ H R => tl σ H fun x H1 => ∃ a, x = .ref a ∧ SqR K a H1 R
theorem pi_seq {X : Cx} {tg l : Expr} {tl : TE} (hl : PE X l tl) : PI X tg l (iSeq X.K tl) := by
  constructor
  intro pins s σ H R I h
  refine thn (hl.run pins s σ H _ I h) ?_
  rintro v s1 ⟨x, H1, I1, r1, a, rfl, ⟨⟨xs, hq⟩, q⟩ | ⟨⟨xs, hq⟩, q⟩⟩
  · cases r1
    obtain ⟨its, rv, pl, _⟩ := I1.list hq
    have fp : ∀ b ∈ [s1.heap.objs.size], FpOk X pins H1 b := fun b hb => by
      obtain rfl : b = s1.heap.objs.size := by simpa using hb
      exact I1.fpOk (Nat.le_refl _) (I1.hok.fresh (Nat.le_refl _))
    exact wpAny_pyIter_list pl.isList ⟨s1.heap.objs.size, [s1.heap.objs.size], _, _, H1, rfl, I1.kept (t' := s1.toks) fun b o e => Heap.get?_push_of_some _ e, turn_list a _, ⟨_, Heap.get?_push_size _ rfl, rfl, rfl⟩, fp, q⟩
  · cases r1
    obtain ⟨its, rv, pt, _⟩ := I1.tuple hq
    have fp : ∀ b ∈ [s1.heap.objs.size], FpOk X pins H1 b := fun b hb => by
      obtain rfl : b = s1.heap.objs.size := by simpa using hb
      exact I1.fpOk (Nat.le_refl _) (I1.hok.fresh (Nat.le_refl _))
    exact wpAny_pyIter_tuple (show s1.heap.IsTuple a its.toArray from pt) ⟨s1.heap.objs.size, [s1.heap.objs.size], _, _, H1, rfl, I1.kept (t' := s1.toks) fun b o e => Heap.get?_push_of_some _ e, turn_tuple a _, ⟨_, Heap.get?_push_size _ rfl, rfl, rfl⟩, fp, q⟩
/-- cells cs, in a list or a tuple -/
structure SqC (K : PySem.W.Frag) (H : Hp) (u : V) (cs : List Cell) (a : Addr) (xs : List V) : Prop where
  e : u = .ref a
  s : SqL K H a xs ∨ SqT K H a xs
  l : xs.length = cs.length
  i : ∀ (i : Nat) x, xs[i]? = some x → ∃ c, cs[i]? = some c ∧ Im H x (dCell c)
theorem Same.sqt {K : PySem.W.Frag} {H H' : Hp} {a : Addr} {xs : List V} (e : Same H H') (h : SqT K H a xs) : SqT K H' a xs := by
  rcases h with (h | ⟨o, h⟩) | h
  · exact .inl (.inl (e _ _ h))
  · exact .inl (.inr ⟨o, e _ _ h⟩)
  · exact .inr h
theorem SqC.same {K : PySem.W.Frag} {H H' : Hp} {u : V} {cs : List Cell} {a : Addr} {xs : List V} (h : SqC K H u cs a xs) (s : Same H H') : SqC K H' u cs a xs :=
  ⟨h.e, h.s.imp s.seq (Same.sqt s), h.l, fun i x e => by
    obtain ⟨c, h1, h2⟩ := h.i i x e
    exact ⟨c, h1, h2.s s⟩⟩
theorem Shp.sqc {K : PySem.W.Frag} {H : Hp} {v : V} {sh : List Cell} {a : Addr} {xs : List V} (h : Shp H v sh a xs) : SqC K H v sh a xs := ⟨h.e, .inr (.inl h.t), h.l, h.i⟩
theorem seq_walk {K : PySem.W.Frag} {H : Hp} {a : Addr} {xs : List V} {R : It → Hp → Prop} (hs : SqL K H a xs ∨ SqT K H a xs) (k : ∀ (J : It) (G : Hp → Prop), Walk J xs.length G (YAt xs) → (∀ H', Same H H' → G H') → R J H) :
    SqR K a H R := by
  rcases hs with h | h
  · exact .inl ⟨⟨_, h⟩, k _ _ walk_list fun H' s => s.seq h⟩
  · exact .inr ⟨⟨_, h⟩, k _ _ walk_tup fun H' s => Same.sqt s h⟩
/-! ### min, sorting -/
def minL : List Int → Int
  | [] => 0
  | [a] => a
  | a :: b :: r => min a (minL (b :: r))
theorem minL_mem : ∀ (l : List Int), l ≠ [] → minL l ∈ l ∧ ∀ y ∈ l, minL l ≤ y
  | [], h => absurd rfl h
  | [a], _ => ⟨List.mem_cons_self, fun y hy => by simp at hy; rw [hy]; exact Int.le_refl _⟩
  | a :: b :: r, _ => by
    obtain ⟨h1, h2⟩ := minL_mem (b :: r) (by simp)
    show min a (minL (b :: r)) ∈ _ ∧ _
    refine ⟨?_, fun y hy => ?_⟩
    · by_cases h : a ≤ minL (b :: r)
      · rw [Int.min_eq_left h]; exact List.mem_cons_self
      · rw [Int.min_eq_right (by omega)]; exact List.mem_cons_of_mem _ h1
    · show min a (minL (b :: r)) ≤ y
      rcases List.mem_cons.mp hy with e | hy
      · omega
      · have := h2 y hy
        omega
theorem minL_uniq {l : List Int} {m : Int} (h1 : m ∈ l) (h2 : ∀ y ∈ l, m ≤ y) : m = minL l := by
  obtain ⟨h3, h4⟩ := minL_mem l (fun z => by rw [z] at h1; cases h1)
  exact Int.le_antisymm (h2 _ h3) (h4 m h1)
theorem lexB_swo : SrtO.Swo SrtO.lexB := by
  refine ⟨fun x y h => ?_, fun x y z h1 h2 => ?_⟩
  · have q := SrtO.lexB_iff.mp h
    exact SrtO.lexB_no.mpr (by omega)
  · have q1 := SrtO.lexB_no.mp h1
    have q2 := SrtO.lexB_no.mp h2
    exact SrtO.lexB_no.mpr (by omega)
/-- the ints of a pair at its address -/
def kAt (H : Hp) (v : V) : Int × Int := match v with
  | .ref t => (match H t with
    | some (.tup [.int a, .int b]) => (a, b)
    | _ => (0, 0))
  | _ => (0, 0)
theorem kAt_cell {H : Hp} {v : V} {c : Cell} (h : Im H v (dCell c)) : kAt H v = c := by
  obtain ⟨a, rfl, ha⟩ := h.cellI
  unfold kAt
  simp only [ha]
def shiftBy (cs : List Cell) : List Cell := cs.map fun c => (c.1 - minL (cs.map Prod.fst), c.2 - minL (cs.map Prod.snd))
/-- the list of the sorted values: cells again -/
theorem sort_cells {H : Hp} {acc ys : List V} {sh : List Cell} (hl : acc.length = sh.length) (hi : ∀ (i : Nat) v, acc[i]? = some v → ∃ c, sh[i]? = some c ∧ Im H v (dCell c)) (h1 : SrtO.Srtd (ltP (kAt H)) ys) (h2 : SrtO.Stb (ltP (kAt H)) ys acc) :
    ImAll H ys ((ys.map (kAt H)).map dCell) ∧ SrtO.Srtd SrtO.lexB (ys.map (kAt H)) ∧ SrtO.Stb SrtO.lexB (ys.map (kAt H)) sh := by
  have e : acc.map (kAt H) = sh := by
    apply List.ext_getElem?
    intro i
    rw [List.getElem?_map]
    cases q : acc[i]? with
    | none =>
      rw [List.getElem?_eq_none_iff] at q
      rw [List.getElem?_eq_none (by omega)]
      rfl
    | some v =>
      obtain ⟨c, e1, e2⟩ := hi i v q
      rw [e1, ← kAt_cell e2]
      rfl
  refine ⟨?_, SrtO.srtd_map h1, ?_⟩
  · refine ImAll.of_at (by simp) fun i v d q1 q2 => ?_
    rw [List.map_map, List.getElem?_map, q1] at q2
    cases q2
    obtain ⟨j, hj⟩ := List.mem_iff_getElem?.mp (h2.perm.mem_iff.mp (List.mem_of_getElem? q1))
    obtain ⟨c, e1, e2⟩ := hi j v hj
    show Im H v (dCell (kAt H v))
    rw [kAt_cell e2]
    exact e2
  · have z := SrtO.Stb.map (lt := SrtO.lexB) lexB_swo (kAt H) h2
    rw [e] at z
    exact z
section
variable {P : Program} {w : World} {K : PySem.W.Frag} {mg : Str → Option Value} {base : Heap}
/-! ### settled: slots cells 0, corner 1, cell 2 -/
def sp_settled (K : PySem.W.Frag) : Sp := fun vs H Q _ => ∃ (u : V) (cs : List Cell) (a : Addr) (xs : List V), vs = [u] ∧ SqC K H u cs a xs ∧ cs ≠ [] ∧ cs.length ≤ 1000 ∧
  ∀ x H' out, Same H H' → Im H' x (dShape out) → SrtO.Srtd SrtO.lexB out → SrtO.Stb SrtO.lexB out (shiftBy cs) → Q x H'
theorem ok_settled (T : Th P K mg base) : GF P w K mg base 2 (He.ga K "settled") ["cells"] (sp_settled K) := by
  refine gf_of T.d_settled sc_settled (fun vs H Q E h => by obtain ⟨u, cs, a, xs, rfl, S, ne, len, q⟩ := h; rfl) (fun _ _ _ _ _ _ us hl => match us, hl with | [_], _ => rfl) fun cdv A outer s H vs Q E hg hr hsp => ?_
  obtain ⟨u, cs, a, xs, rfl, S, ne, len, q⟩ := hsp
  refine ⟨_, (pss_cons (ps_set (i := 1) sc_settled.nd rfl (Or.inr rfl) (pe_tup (pa_cons (pe_callB (cr_min rfl) (by rfl) T.f_min (by decide +kernel) (pa_cons (pe_lc (own := [("cell", 2)]) (tt := tYes) rfl sc_settled.nd (pi_seq (pv 0)) (blkOk_by (N := N_settled) (sc := defScope s_settled) (by decide +kernel)) (fun _ _ _ _ _ => (pg_name (i := 2) sc_settled.nd rfl (Or.inl rfl))) (fun _ _ _ _ _ => pts_nil) (fun _ _ _ _ _ => (pe_ix (ix_tupK (K := K) rfl) (pv 2) pe_int (fun _ _ => rfl)))) pa_nil)) (pa_cons (pe_callB (cr_min rfl) (by rfl) T.f_min (by decide +kernel) (pa_cons (pe_lc (own := [("cell", 2)]) (tt := tYes) rfl sc_settled.nd (pi_seq (pv 0)) (blkOk_by (N := N_settled) (sc := defScope s_settled) (by decide +kernel)) (fun _ _ _ _ _ => (pg_name (i := 2) sc_settled.nd rfl (Or.inl rfl))) (fun _ _ _ _ _ => pts_nil) (fun _ _ _ _ _ => (pe_ix (ix_tupK (K := K) rfl) (pv 2) pe_int (fun _ _ => rfl)))) pa_nil)) pa_nil))))
    (pss_one (ps_ret (pe_callTy call_tuple_frz (by rfl) T.f_tuple (by decide +kernel) (pa_cons (pe_callB cr_sortedPO (by rfl) T.f_sorted (by decide +kernel) (pa_cons (pe_lc (own := [("cell", 2)]) (tt := tYes) rfl sc_settled.nd (pi_seq (pv 0)) (blkOk_by (N := N_settled) (sc := defScope s_settled) (by decide +kernel)) (fun _ _ _ _ _ => (pg_name (i := 2) sc_settled.nd rfl (Or.inl rfl))) (fun _ _ _ _ _ => pts_nil) (fun _ _ _ _ _ => (pe_fn T.g_less (ok_less T) hg hr passL (pa_cons (pv 2) (pa_cons (pv 1) pa_nil))))) pa_nil)) pa_nil))))), ?_⟩
  obtain rfl := S.e
  have hne : xs.length ≠ 0 := by
    have : cs.length ≠ 0 := fun z => ne (List.eq_nil_of_length_eq_zero z)
    have := S.l
    omega
  have hS := S.l
  -- the two least
  have half : ∀ (H1 : Hp) (S1 : SqC K H1 (.ref a) cs a xs) (f : Cell → Int) (j : Int) (hj : ∀ c : Cell, atI [V.int c.1, V.int c.2] j = some (.int (f c))) (R : VK), (∀ H2, Same H1 H2 → R (.int (minL (cs.map f))) H2) →
      tCB (rMin K) (tCons (tLc (iSeq K (tVar 0)) (gName 2) tYes (tOp (rIxT K) (tVar 2) (tC (.int j))) [2]) tNil) (start N_settled [.ref a]) H1 R := by
    intro H1 S1 f j hj R hR
    refine ⟨_, rfl, a, rfl, seq_walk S1.s fun J G W hG D hD => lc_it W (LcP H1 D fun i v _ => ∃ c, cs[i]? = some c ∧ v = .int (f c)) (LcP.zero hD) (fun i H' _ p => hG _ p.1) (fun i x H' H'' hi p y => ?_) (fun H' p => ?_)⟩
    · obtain ⟨rfl, hx⟩ := y
      obtain ⟨c, hc, hxc⟩ := S1.i i x hx
      obtain ⟨b, rfl, hb⟩ := (hxc.s p.1).cellI
      exact ⟨rfl, _, rfl, b, _, j, _, rfl, rfl, SqT.of hb, hj c, LcP.next (fun _ _ _ _ h _ => h) hD (by omega) p (Same.refl _) ⟨c, hc, rfl⟩⟩
    · obtain ⟨sm, hl⟩ := LcP.mapL (l := cs.map f) (g := .int) p (by rw [List.length_map]; exact S1.l) fun i v ⟨c, e1, e2⟩ => ⟨f c, by rw [List.getElem?_map, e1]; rfl, e2⟩
      refine ⟨D, cs.map f, rfl, SqL.of hl, by rw [List.length_map]; omega, fun m h1 h2 => ?_⟩
      rw [minL_uniq h1 h2]
      exact hR _ sm
  refine half H S Prod.fst 0 (fun c => rfl) _ fun H2 s2 => ?_
  refine half H2 (S.same s2) Prod.snd 1 (fun c => rfl) _ fun H3 s3 => ?_
  refine ⟨by show 2 ≤ sizeLine; decide, fun p np => ?_⟩
  have s4 : Same H (upd H3 p (.tup [.int (minL (cs.map Prod.fst)), .int (minL (cs.map Prod.snd))])) := (s2.trans s3).trans fun b o e => (upd_ne (ne_of_none e np)).trans e
  have S4 := S.same s4
  have hp : Im (upd H3 p (.tup [.int (minL (cs.map Prod.fst)), .int (minL (cs.map Prod.snd))])) (.ref p) (dCell (minL (cs.map Prod.fst), minL (cs.map Prod.snd))) := .cell upd_same
  generalize upd H3 p (.tup [.int (minL (cs.map Prod.fst)), .int (minL (cs.map Prod.snd))]) = H4 at s4 S4 hp
  refine ⟨_, rfl, a, rfl, seq_walk S4.s fun J G W hG D hD => lc_it W (LcP H4 D fun i v H => ∃ c, (shiftBy cs)[i]? = some c ∧ Im H v (dCell c)) (LcP.zero hD) (fun i H' _ p => hG _ p.1) (fun i x H' H'' hi pp y => ?_) (fun H' pp => ?_)⟩
  · obtain ⟨rfl, hx⟩ := y
    obtain ⟨c, hc, hxc⟩ := S4.i i x hx
    refine ⟨rfl, _, rfl, _, rfl, x, .ref p, c, _, rfl, hxc.s pp.1, hp.s pp.1, fun z H5 s5 hz _ => ?_⟩
    refine LcP.next (fun j v H H' ⟨c, e1, e2⟩ k => ⟨c, e1, e2.k k⟩) hD (by omega) pp s5 ⟨_, ?_, hz⟩
    unfold shiftBy
    rw [List.getElem?_map, hc]
    rfl
  · obtain ⟨s5, acc, e5, l5, q5⟩ := pp
    have lsh : acc.length = (shiftBy cs).length := by
      unfold shiftBy
      rw [List.length_map]
      omega
    refine ⟨D, acc, kAt H', rfl, SqL.of e5, fun x hx => ?_, fun ys p2 h1 h2 np2 => ?_⟩
    · obtain ⟨i, hi⟩ := List.mem_iff_getElem?.mp hx
      obtain ⟨c, _, hc⟩ := q5 i x hi
      have ek := kAt_cell hc
      obtain ⟨t, rfl, ht⟩ := hc.cellI
      exact ⟨t, rfl, by rw [ek]; exact ht⟩
    · obtain ⟨g1, g2, g3⟩ := sort_cells lsh q5 h1 h2
      refine ⟨p2, ys, rfl, SqL.of upd_same, fun l ol nl dl => ?_⟩
      have s6 : Same H' (upd (upd H' p2 (.lst ys)) l (.frz ol (.tup ys))) := Same.trans (fun b o e => (upd_ne (ne_of_none e np2)).trans e) (fun b o e => (upd_ne (ne_of_none e nl)).trans e)
      refine q _ _ _ ((s4.trans s5).trans s6) (.shape upd_same dl (g1.s s6) fun z => ?_) g2 g3
      have hp := g3.perm.length_eq
      rw [z] at hp
      unfold shiftBy at hp
      rw [List.length_map] at hp
      have : cs.length ≠ 0 := fun z => ne (List.eq_nil_of_length_eq_zero z)
      simp at hp
      omega
end
end Bp

namespace Bp
open PySem PySem.Spec PyProof.Rows L2
theorem sIx_nat (n d i : Nat) : HT.sIx n d (some (0 + (i : Nat))) = min i n := by
  have h : ¬ ((i : Int) < 0) := by omega
  unfold HT.sIx
  simp [h]
structure ShapeOk (sh : List Cell) : Prop where
  ne : sh ≠ []
  len : sh.length ≤ 16
  nd : sh.Nodup
  lo : ∀ c ∈ sh, 0 ≤ c.1 ∧ c.1 < 12 ∧ 0 ≤ c.2 ∧ c.2 < 12
  mx : minL (sh.map Prod.fst) = 0
  my : minL (sh.map Prod.snd) = 0
  srt : SrtO.Srtd SrtO.lexB sh
theorem ShapeOk.shift {sh : List Cell} (h : ShapeOk sh) : shiftBy sh = sh := by
  unfold shiftBy
  rw [h.mx, h.my]
  simp
theorem ShapeOk.settled {sh out : List Cell} (h : ShapeOk sh) (h1 : SrtO.Srtd SrtO.lexB out) (h2 : SrtO.Stb SrtO.lexB out (shiftBy sh)) : out = sh := by
  rw [h.shift] at h2
  exact SrtO.stb_uniq lexB_swo h1 h.srt h2
theorem ShapeOk.pos {sh : List Cell} (h : ShapeOk sh) : 1 ≤ sh.length := by
  have : sh.length ≠ 0 := fun z => h.ne (List.eq_nil_of_length_eq_zero z)
  omega
theorem nodup_at {α : Type} {l : List α} (h : l.Nodup) {i j : Nat} {x y : α} (hi : l[i]? = some x) (hj : l[j]? = some y) (ne : i ≠ j) : x ≠ y := fun e => by
  rw [e] at hi
  exact ne (nd_ix h hi hj)
theorem Im.tups {H : Hp} {v : V} {sh : List Cell} {a : Addr} {xs : List V} (S : Shp H v sh a xs) (n : Nat) : ImAll H (xs.take n) ((sh.take n).map dCell) := by
  refine ImAll.of_at (by simp [S.l]) fun i v d h1 h2 => ?_
  rw [List.getElem?_take] at h1
  split at h1
  · rename_i hi
    obtain ⟨c, e1, e2⟩ := S.i i v h1
    rw [List.getElem?_map, List.getElem?_take_of_lt hi, e1] at h2
    cases h2
    exact e2
  · cases h1
section
variable {P : Program} {w : World} {K : PySem.W.Frag} {mg : Str → Option Value} {base : Heap}
/-! ### is_lot: slots value 0, cell 1, at 2, place 3, some 4 -/
def sp_is_lot (K : PySem.W.Frag) : Sp := fun vs H Q _ => ∃ (u : V) (sh : List Cell), vs = [u] ∧ Im H u (dShape sh) ∧ ShapeOk sh ∧ ∀ H', Same H H' → Q (.bl true) H'
theorem ok_is_lot (T : Th P K mg base) : GF P w K mg base 3 (He.ga K "is_lot") ["value"] (sp_is_lot K) := by
  refine gf_of T.d_is_lot sc_is_lot (fun vs H Q E h => by obtain ⟨u, sh, rfl, hu, ok, q⟩ := h; rfl) (fun _ _ _ _ _ _ us hl => match us, hl with | [_], _ => rfl) fun cdv A outer s H vs Q E hg hr hsp => ?_
  obtain ⟨u, sh, rfl, hu, ok, q⟩ := hsp
  refine ⟨_, (pss_cons (ps_if (PW.pt (pw_or (pt_not (pt_val (pe_callB call_isi (by rfl) T.f_isinstance (by decide +kernel) (pa_cons (pv 0) (pa_cons (pe_bltn (v := .ty "tuple") (by rfl) T.f_tuple (by decide +kernel) rfl) pa_nil))))) (pw_or1 (pt_not (pt_chain op_le op_le pe_int (pe_callB call_len_seq (by rfl) T.f_len (by decide +kernel) (pa_cons (pv 0) pa_nil)) (pe_gi T.c_MOST_CELLS)))))) (pss_one (ps_ret pe_bl)) pss_nil)
    (pss_cons (ps_if (pt_not (pt_val (pe_callB (cr_all rfl) (by rfl) T.f_all (by decide +kernel) (pa_cons (pe_lc (own := [("cell", 1)]) (tt := tYes) rfl sc_is_lot.nd (pi_tup (pv 0)) (blkOk_by (N := N_is_lot) (sc := defScope s_is_lot) (by decide +kernel)) (fun _ _ _ _ _ => (pg_name (i := 1) sc_is_lot.nd rfl (Or.inl rfl))) (fun _ _ _ _ _ => pts_nil) (fun _ _ _ _ _ => (pe_fn T.g_is_cell (ok_is_cell T) hg hr passL (pa_cons (pv 1) pa_nil)))) pa_nil)))) (pss_one (ps_ret pe_bl)) pss_nil)
    (pss_cons (ps_for PassesOwn.leaving rfl (pi_enT (by rfl) T.f_enumerate (pa_cons (pv 0) pa_nil)) (pg_tup rfl (pgs_cons (pg_name (i := 2) sc_is_lot.nd rfl (Or.inl rfl)) (pgs_cons (pg_name (i := 1) sc_is_lot.nd rfl (Or.inl rfl)) pgs_nil)))
      (pss_one (ps_if (pt_cmpR (op_inT hr.units) (pv 1) (pe_slice sl_tup (pv 0) po_none (po_some (pv 2))) (by rfl)) (pss_one (ps_ret pe_bl)) pss_nil)))
    (pss_cons (ps_for PassesOwn.leaving rfl (pi_tup (pe_tup (pa_cons pe_int (pa_cons pe_int pa_nil)))) (pg_name (i := 3) sc_is_lot.nd rfl (Or.inr rfl))
      (pss_cons (ps_setLc (i := 4) (own := [("cell", 1)]) (tt := tYes) rfl sc_is_lot.nd rfl rfl (sw_true rfl rfl rfl (by decide +kernel)) (pi_tup (pv 0)) (blkOk_by (N := N_is_lot) (sc := defScope s_is_lot) (by decide +kernel)) (fun _ _ _ _ _ => (pg_name (i := 1) sc_is_lot.nd rfl (Or.inl rfl))) (fun _ _ _ _ _ => pts_nil) (fun _ _ _ _ _ => (pe_ix (ix_tupK (K := K) rfl) (pv 1) (pv 3) (fun _ _ => rfl))))
      (pss_one (ps_if (pt_cmpR op_ge (pe_op op_sub (pe_callB (cr_max rfl) (by rfl) T.f_max (by decide +kernel) (pa_cons (pv 4) pa_nil)) (pe_callB (cr_min rfl) (by rfl) T.f_min (by decide +kernel) (pa_cons (pv 4) pa_nil))) (pe_gi T.c_MOST_WIDE) (nomark _)) (pss_one (ps_ret pe_bl)) pss_nil))))
    (pss_one (ps_ret pe_bl)))))), ?_⟩
  obtain ⟨a, xs, S⟩ := hu.shapeI
  obtain rfl := S.e
  have hl := S.l
  have h16 := ok.len
  have hpos := ok.pos
  refine ⟨_, rfl, _, _, _, _, true, rfl, .ty "tuple", tyT S.t, kit_tt, true, rfl, iteF ?_⟩
  refine ⟨_, rfl, _, _, rfl, .inr (Or.inl S.t), _, _, rfl, rfl, _, rfl, iteD (by omega) ?_⟩
  refine ⟨_, _, rfl, rfl, _, rfl, ?_⟩
  have e16 : decide ((xs.length : Int) ≤ 16) = true := decide_eq_true (by omega)
  rw [e16]
  refine iteF ?_
  refine ⟨_, rfl, a, rfl, ⟨_, Or.inl S.t⟩, fun D hD => lc_it (walk_tup (xs := xs)) (LcP H D fun _ v _ => v = .bl true) (LcP.zero hD) (fun i H' _ p => Or.inl (rd_same S.t p.1)) (fun i x H' H'' hi p y => ?_) (fun H1 p => ?_)⟩
  · obtain ⟨rfl, hx⟩ := y
    obtain ⟨c, hc, hxc⟩ := S.i i x hx
    exact ⟨rfl, _, rfl, x, c, rfl, hxc.s p.1, fun H5 s5 _ => LcP.next (fun _ _ _ _ h _ => h) hD (by omega) p s5 rfl⟩
  obtain ⟨s1, hl1⟩ := LcP.map (f := fun _ => .bl true) p fun _ _ _ h => h
  refine ⟨D, (List.range xs.length).map fun _ => true, rfl, SqL.of (by rw [List.map_map]; exact hl1), true, ?_, iteF ?_⟩
  · have : ((List.range xs.length).map fun _ => true).all id = true := by simp
    rw [this]
  -- no cell twice
  refine ⟨_, rfl, a, xs, rfl, Or.inl (rd_same S.t s1), for_it walk_E (fun i σ H2 => Same H1 H2 ∧ ∃ x y, σ = [some (.ref a), x, y, none, none]) ⟨Same.refl _, none, none, rfl⟩ (fun i σ H2 _ p => Or.inl (rd_same (rd_same S.t s1) p.1)) (fun i v σ H2 H3 hi p y => ?_) (fun σ H2 p => ?_)⟩
  · obtain ⟨s2, x0, y0, rfl⟩ := p
    obtain ⟨t, x', x, rfl, nt, rfl, e1, hx⟩ := y
    cases e1
    have s3 : Same H2 (upd H2 t (.tup [.int (0 + (i : Nat)), x])) := fun b o e => (upd_ne (ne_of_none e nt)).trans e
    refine ⟨t, _, rfl, SqT.of upd_same, rfl, _, _, rfl, _, _, rfl, rfl, ?_⟩
    have hS := rd_same S.t ((s1.trans s2).trans s3)
    refine ⟨_, rfl, _, rfl, _, rfl, _, rfl, a, xs, rfl, Or.inl hS, ?_, fun p2 np2 => ?_⟩
    · intro z
      have z2 := z.2
      have e : HT.sIx xs.length xs.length (some (0 + (i : Nat))) = i := by
        rw [sIx_nat]
        omega
      rw [e] at z2
      omega
    · obtain ⟨c, hc, hxc⟩ := S.i i x hx
      have s4 : Same (upd H2 t (.tup [.int (0 + (i : Nat)), x])) (upd (upd H2 t (.tup [.int (0 + (i : Nat)), x])) p2 (.tup (cutV xs none (some (0 + (i : Nat)))))) := fun b o e => (upd_ne (ne_of_none e np2)).trans e
      have e : cutV xs none (some (0 + (i : Nat))) = xs.take i := by
        unfold cutV
        rw [sIx_nat, show HT.sIx xs.length 0 none = 0 from rfl, Nat.min_eq_left (by omega)]
        rfl
      rw [e] at s4 ⊢
      have sA := ((s1.trans s2).trans s3).trans s4
      refine ⟨dCell c, (sh.take i).map dCell, (hxc.s sA).d, .tup (.inl (.inl upd_same)) (ImAll.dp _ _ ((Im.tups S i).s sA)), nb_lay _ (nb_cell c), nb_layAll _ (nbAll_map _ _ fun c _ => nb_cell c), by have := dep_cell c; omega, _, rfl, ?_⟩
      have hno : ((sh.take i).map dCell).any (fun z => PyData.eqv z (dCell c)) = false := by
        rw [List.any_eq_false]
        intro z hz
        obtain ⟨c', hc', rfl⟩ := List.mem_map.mp hz
        obtain ⟨j, hj⟩ := List.mem_iff_getElem?.mp hc'
        rw [List.getElem?_take] at hj
        split at hj
        · rename_i hji
          rw [eqv_no (nb_cell _) (nb_cell _) fun e => nodup_at ok.nd hj hc (by omega) (cell_inj _ _ e)]
          decide
        · cases hj
      rw [hno]
      exact iteF ⟨(s2.trans s3).trans s4, _, _, rfl⟩
  obtain ⟨s2, x0, y0, rfl⟩ := p
  have S2 : SqT K H2 a xs := Or.inl (rd_same S.t (s1.trans s2))
  -- not too wide
  refine ⟨by show 2 ≤ sizeLine; decide, fun p2 np2 => ?_⟩
  have s3 : Same H2 (upd H2 p2 (.tup [.int 0, .int 1])) := fun b o e => (upd_ne (ne_of_none e np2)).trans e
  refine ⟨p2, rfl, ⟨_, SqT.of upd_same⟩, for_it (walk_tup (xs := [.int 0, .int 1])) (fun i σ H3 => Same (upd H2 p2 (.tup [.int 0, .int 1])) H3 ∧ ∃ x y z u, σ = [some (.ref a), x, y, z, u]) ⟨Same.refl _, x0, y0, none, none, rfl⟩ (fun i σ H3 _ p => SqT.of (p.1 _ _ upd_same)) (fun i v σ H3 H4 hi p y => ?_) (fun σ H3 p => ?_)⟩
  · obtain ⟨s4, x1, y1, z1, u1, rfl⟩ := p
    obtain ⟨rfl, hv⟩ := y
    have sA := ((s1.trans s2).trans s3).trans s4
    obtain ⟨f, j, rfl, hj, hf⟩ : ∃ (f : Cell → Int) (j : Int), v = .int j ∧ (∀ c : Cell, atI [V.int c.1, V.int c.2] j = some (.int (f c))) ∧ ∀ c ∈ sh, 0 ≤ f c ∧ f c < 12 := by
      match i, hi, hv with
      | 0, _, hv => exact ⟨Prod.fst, 0, (Option.some.inj hv).symm, fun c => rfl, fun c hc => by have := ok.lo c hc; omega⟩
      | 1, _, hv => exact ⟨Prod.snd, 1, (Option.some.inj hv).symm, fun c => rfl, fun c hc => by have := ok.lo c hc; omega⟩
    refine ⟨_, rfl, a, rfl, ⟨_, Or.inl (rd_same S.t sA)⟩, fun D hD => lc_it (walk_tup (xs := xs)) (LcP H4 D fun i v _ => ∃ c, sh[i]? = some c ∧ v = .int (f c)) (LcP.zero hD) (fun i H' _ p => Or.inl (rd_same (rd_same S.t sA) p.1)) (fun i x H' H'' hi p y => ?_) (fun H5 p => ?_)⟩
    · obtain ⟨rfl, hx⟩ := y
      obtain ⟨c, hc, hxc⟩ := S.i i x hx
      obtain ⟨b, rfl, hb⟩ := (hxc.s (sA.trans p.1)).cellI
      exact ⟨rfl, _, rfl, _, rfl, b, _, j, _, rfl, rfl, SqT.of hb, hj c, LcP.next (fun _ _ _ _ h _ => h) hD (by omega) p (Same.refl _) ⟨c, hc, rfl⟩⟩
    · obtain ⟨sm, hl5⟩ := LcP.mapL (l := sh.map f) (g := .int) p (by rw [List.length_map]; exact hl) fun i v ⟨c, e1, e2⟩ => ⟨f c, by rw [List.getElem?_map, e1]; rfl, e2⟩
      refine ⟨_, rfl, D, sh.map f, rfl, SqL.of hl5, by rw [List.length_map]; omega, fun m1 m1m m1g => ?_⟩
      refine ⟨_, rfl, D, sh.map f, rfl, SqL.of hl5, by rw [List.length_map]; omega, fun m2 m2m m2l => ?_⟩
      refine ⟨_, _, rfl, rfl, _, _, rfl, rfl, _, rfl, ?_⟩
      obtain ⟨c1, hc1, rfl⟩ := List.mem_map.mp m1m
      obtain ⟨c2, hc2, rfl⟩ := List.mem_map.mp m2m
      refine iteDF ?_ ⟨s4.trans sm, _, _, _, _, rfl⟩
      have := hf c1 hc1
      have := hf c2 hc2
      omega
  obtain ⟨s4, _⟩ := p
  exact q _ (((s1.trans s2).trans s3).trans s4)
/-! ### is_shape, check_shape -/
def sp_is_shape (K : PySem.W.Frag) : Sp := sp_is_lot K
theorem ok_is_shape (T : Th P K mg base) : GF P w K mg base 4 (He.ga K "is_shape") ["value"] (sp_is_shape K) := by
  refine gf_of T.d_is_shape sc_is_shape (fun vs H Q E h => by obtain ⟨u, sh, rfl, hu, ok, q⟩ := h; rfl) (fun _ _ _ _ _ _ us hl => match us, hl with | [_], _ => rfl) fun cdv A outer s H vs Q E hg hr hsp => ?_
  obtain ⟨u, sh, rfl, hu, ok, q⟩ := hsp
  refine ⟨_, (pss_one (ps_ret (pe_and (pe_fn T.g_is_lot (ok_is_lot T) hg hr passL (pa_cons (pv 0) pa_nil)) (pe_one (pe_cmpR (op_eqD hr.units) (pv 0) (pe_fn T.g_settled (ok_settled T) hg hr passL (pa_cons (pv 0) pa_nil)) (nomark _)))))), ?_⟩
  obtain ⟨a, xs, S⟩ := hu.shapeI
  refine ⟨_, rfl, u, sh, rfl, hu, ok, fun H1 s1 _ => ⟨true, rfl, iteT ?_⟩⟩
  refine ⟨_, rfl, _, rfl, u, sh, a, xs, rfl, S.sqc.same s1, ok.ne, by have := ok.len; omega, fun x H2 out s2 hx h1 h2 _ => ?_⟩
  obtain rfl := ok.settled h1 h2
  refine ⟨_, _, (hu.s (s1.trans s2)).d, hx.d, shp (nb_shape _) (by have := dep_shape out; omega), shp (nb_shape _) (by have := dep_shape out; omega), ?_⟩
  rw [eqv_yes (nb_shape out)]
  exact q _ (s1.trans s2)
def sp_check_shape (K : PySem.W.Frag) : Sp := fun vs H Q _ => ∃ (u : V) (sh : List Cell), vs = [u] ∧ Im H u (dShape sh) ∧ ShapeOk sh ∧ ∀ H', Same H H' → Q .non H'
theorem ok_check_shape (T : Th P K mg base) : GF P w K mg base 5 (He.ga K "check_shape") ["value"] (sp_check_shape K) := by
  refine gf_of T.d_check_shape sc_check_shape (fun vs H Q E h => by obtain ⟨u, sh, rfl, hu, ok, q⟩ := h; rfl) (fun _ _ _ _ _ _ us hl => match us, hl with | [_], _ => rfl) fun cdv A outer s H vs Q E hg hr hsp => ?_
  obtain ⟨u, sh, rfl, hu, ok, q⟩ := hsp
  refine ⟨_, (pss_one (ps_if (pt_not (pt_val (pe_fn T.g_is_shape (ok_is_shape T) hg hr passL (pa_cons (pv 0) pa_nil)))) (pss_one ps_never) pss_nil)), ?_⟩
  exact ⟨_, rfl, u, sh, rfl, hu, ok, fun H' s _ => ⟨true, rfl, iteF (q H' s)⟩⟩
end
end Bp

namespace Bp
open PySem PySem.Spec PyProof.Rows L2
/-! ### t[::-1], t a tuple -/
section
variable {prog : Program} {w : World} {A : Around} {E : Value → Shared → Prop} {s : Shared}
theorem adjust_rev (n : Nat) : Builtin.Slice.sliceAdjust none none (-1) (n : Int) = ((n : Int) - 1, -1) := by
  have h : ((-1 : Int) < 0) := by omega
  unfold Builtin.Slice.sliceAdjust
  simp only [h, if_true]
theorem places_rev (n : Nat) : Builtin.Slice.slicePlaces ((n : Int) - 1) (-1) (-1) = n := by
  unfold Builtin.Slice.slicePlaces
  have h1 : ¬ ((-1 : Int) > 0) := by omega
  simp only [h1, if_false, show (- (-1 : Int)) = 1 from rfl, Int.ediv_one]
  split <;> omega
theorem fm_congr {α β : Type} {f g : α → Option β} : ∀ {l : List α}, (∀ x ∈ l, f x = g x) → l.filterMap f = l.filterMap g
  | [], _ => rfl
  | x :: xs, h => by
    rw [List.filterMap_cons, List.filterMap_cons, h x List.mem_cons_self, fm_congr fun y hy => h y (List.mem_cons_of_mem _ hy)]
theorem pick_rev (xs : Array Value) : ((List.range xs.size).filterMap fun (m : Nat) => xs[(((xs.size : Int) - 1) + (m : Int) * (-1)).toNat]?).toArray = xs.toList.reverse.toArray := by
  have e : ∀ m ∈ List.range xs.size, xs[(((xs.size : Int) - 1) + (m : Int) * (-1)).toNat]? = xs[xs.size - 1 - m]? := by
    intro m hm
    have := List.mem_range.mp hm
    have z : (((xs.size : Int) - 1) + (m : Int) * (-1)).toNat = xs.size - 1 - m := by omega
    rw [z]
  rw [fm_congr e]
  have r := PySem.W.krv_range xs.size
  have q : (List.range xs.size).filterMap (fun m => xs[xs.size - 1 - m]?) = ((List.range xs.size).map fun k => xs.size - 1 - k).filterMap (xs[·]?) := by
    rw [List.filterMap_map]
    rfl
  rw [q, r, List.filterMap_reverse, PySem.W.krv_all]
theorem getItem_rev {t sl : Addr} {items : Array Value} {vl vu vs : Value} {Q : Value → Shared → Prop} (ht : IsTup s.heap t items) (hs : s.heap.IsSliceOf sl vl vu vs) (pl : IsPart vl none) (pu : IsPart vu none) (ps : IsPart vs (some (-1)))
    (h : Q (.ref s.heap.objs.size) { s with heap := s.heap.push { cls := .type "tuple", data := .seq items.toList.reverse.toArray } }) (hsz : items.size ≤ sizeLine) : wpAny (model prog w) A (getItem (.ref t) (.ref sl)) Q E s := by
  have hz : sizeOk (.seq items.toList.reverse.toArray) := by
    show items.toList.reverse.toArray.size ≤ sizeLine
    rw [List.size_toArray, List.length_reverse, Array.length_toList]
    exact hsz
  obtain ⟨ob, hob, hcb, hdb⟩ := id hs
  have hTs : s.TypeIs (.ref sl) "slice" := ⟨ob, hob, hcb⟩
  cases pl
  cases pu
  unfold getItem
  try with_reducible refine wpAny_holding ?_
  first | refine wpAny_bind (wpAny_pure ?_) | skip
  refine wpAny_bind (wpAny_sequenceKey ht.typeIs (by decide) ?_)
  refine wpAny_bind (wpAny_callSpecial?_slot (name := Str.ofString "__getitem__") ht.typeIs PyProof.Rows.slot_tuple_getitem (wpAny_call_entry PyProof.Rows.slot_tuple_getitem ht.typeIs entry_tuple_getitem ?_ (args_tuple_getitem _ _)))
  show wpAny _ _ (Builtin.Tuple.tupleItemsOf (.ref t) >>= _) _ _ s
  refine wpAny_bind (tupleItemsOf_ ht ?_)
  refine wpAny_bind (wpAny_typeOf hTs ?_)
  rw [if_pos (by decide)]
  refine wpAny_bind ?_
  unfold Builtin.Slice.sliceApplied Builtin.Slice.sliceFields
  refine wpAny_bind (wpAny_bind (wpAny_field hob hdb (x := .none) rfl (wpAny_bind (wpAny_field hob hdb (x := .none) rfl (wpAny_bind (wpAny_field hob hdb (x := vs) rfl (wpAny_pure ?_)))))))
  refine wpAny_bind (HT.slicePart_ ps ?_)
  show wpAny _ _ (if ((-1 : Int) == 0) = true then _ else _) _ _ s
  rw [if_neg (by decide)]
  refine wpAny_bind (HT.slicePart_ .none (wpAny_bind (HT.slicePart_ .none (wpAny_bind (wpAny_pure ?_)))))
  show wpAny _ _ (match Builtin.Slice.sliceAdjust none none (-1) (items.size : Int) with | (lo, hi) => pure (lo, (-1 : Int), Builtin.Slice.slicePlaces lo hi (-1))) _ _ s
  rw [adjust_rev]
  show wpAny _ _ (pure ((items.size : Int) - 1, (-1 : Int), Builtin.Slice.slicePlaces ((items.size : Int) - 1) (-1) (-1))) _ _ s
  rw [places_rev]
  refine wpAny_pure ?_
  show wpAny _ _ (if (((items.size : Int) - 1) == 0 && (-1 : Int) == 1 && items.size == items.size) = true then _ else _) _ _ s
  rw [if_neg (by simp), pick_rev]
  first
    | exact wpAny_bind (m := Builtin.Tuple.tupleExact _) (wpAny_newObj_type (wpAny_pure ⟨_, rfl, wpAny_pure h⟩) hz)
    | exact wpAny_bind (m := Builtin.Tuple.tupleExact _) (wpAny_newObj_type (wpAny_bind (wpAny_pure (wpAny_pure ⟨_, rfl, wpAny_pure h⟩))) hz)
    | exact wpAny_bind (wpAny_bind (m := Builtin.Tuple.tupleExact _) (wpAny_newObj_type (wpAny_pure (wpAny_pure ⟨_, rfl, wpAny_pure h⟩)) hz))
    | exact wpAny_bind (wpAny_bind (m := Builtin.Tuple.tupleExact _) (wpAny_newObj_type (wpAny_pure ⟨_, rfl, wpAny_pure h⟩) hz))
end
def tRevT (K : PySem.W.Frag) (te : TE) : TE := fun σ H Q => te σ H fun x H1 => ∃ a xs, x = .ref a ∧ SqT K H1 a xs ∧ ∀ p, H1 p = none → Q (.ref p) (upd H1 p (.tup xs.reverse))
theorem pe_revT {X : Cx} {e : Expr} {te : TE} {k : Nat} {p1 p2 p3 pos : Pos} (he : PE X e te) : PE X (.Subscript e (.Slice none none (some (.UnaryOp .USub (.Constant (.int 1) k p1) p2)) p3) pos) (tRevT X.K te) := by
  constructor
  intro pins s σ H Q I h
  refine Subscript_ (thn (he.run pins s σ H _ I h) ?_)
  rintro v s1 ⟨x, H1, I1, r1, a, xs, rfl, hx, q⟩
  cases r1
  have hst : PO X (some (.UnaryOp .USub (.Constant (.int 1) k p1) p2)) (tPart (tUn (rU fun i => .int (-i)) (tC (.int 1)))) := po_some (pe_un un_neg pe_int)
  refine wpAny_Slice (thn (po_none.run pins s1 σ H1 (fun o H2 => o = none ∧ H2 = H1) I1 ⟨rfl, rfl⟩) ?_)
  rintro vl s2 ⟨l, H2, I2, pl, rfl, rfl⟩
  refine thn (po_none.run pins s2 σ H2 (fun o H3 => o = none ∧ H3 = H2) I2 ⟨rfl, rfl⟩) ?_
  rintro vu s3 ⟨u, H3, I3, pu, rfl, rfl⟩
  refine thn (hst.run pins s3 σ H3 (fun o H4 => o = some (-1) ∧ H4 = H3) I3 ⟨1, rfl, -1, rfl, rfl, rfl⟩) ?_
  rintro vs s4 ⟨o, H4, I4, ps, rfl, rfl⟩
  have I5 : Inv X pins σ H4 { s4 with heap := s4.heap.push { cls := .type "slice", data := .fields #[vl, vu, vs] } } := I4.kept (t' := s4.toks) fun b ob z => Heap.get?_push_of_some _ z
  obtain ⟨its, r, ht, hz⟩ := I5.tuple hx
  have hlen := r.length
  show wpAny (model X.prog X.w) X.A (subscriptTail e (.Slice none none (some (.UnaryOp .USub (.Constant (.int 1) k p1) p2)) p3) (.ref a) (.ref s4.heap.objs.size)) (EP X pins σ Q) X.xe { s4 with heap := s4.heap.push { cls := .type "slice", data := .fields #[vl, vu, vs] } }
  refine tail_any (ops := [.ref a, .ref s4.heap.objs.size]) ht.typeIs (PyProof.Rows.slot_tuple_getitem.lookup) ?_ (by with_unfolding_all rfl)
  refine getItem_rev ht (Heap.IsSliceOf.new _ vl vu vs) pl pu ps ?_ (by rw [List.size_toArray]; omega)
  refine ⟨.ref _, _, I5.laid (t' := s4.toks) (o := .tup xs.reverse) (fun b ob z => Heap.get?_push_of_some _ z) (Nat.le_refl _) ?_, rfl, q _ (I5.hok.fresh (Nat.le_refl _))⟩
  exact ⟨by rw [List.length_reverse]; exact hz, _, r.reverse, IsTup.new _ _⟩
/-! ### o.f, a property of Memory -/
def tPrp (C : Addr) (sp : Sp) (ta : TE) : TE := fun σ H Q => ta σ H fun x H1 => ∃ a dx fs, x = .ref a ∧ H1 a = some (.ins C dx fs) ∧ sp [.ref a] H1 (fun v H2 => Kp H1 H2 → Q v H2) E0
theorem prop_of {K : PySem.W.Frag} {m : Str} (h : propB m K = true) : PropOf K (Memo K) m (He.ma K (Memo K) m) (getterA K (Memo K) m) := by
  unfold propB at h
  obtain ⟨h1, h⟩ := and2 h
  obtain ⟨h2, h⟩ := and2 h
  obtain ⟨h3, h4⟩ := and2 h
  refine ⟨He.eqO_ok h1, He.eqO_ok h2, of_decide_eq_true h3, ?_⟩
  unfold getterA
  split at h4
  · rename_i g r e
    rw [e]
    exact ⟨r, rfl⟩
  · cases h4
theorem pe_prp {X : Cx} {j k : Nat} {f : Str} {ps : List Str} {sp : Sp} {e : Expr} {pos : Pos} {ta : TE} (c : Cls X.K (Memo X.K)) (hp : propB f X.K = true) (F : GF X.prog X.w X.K X.mg X.base j (getterA X.K (Memo X.K) f) ps sp) (hg : X.A.guards = some []) (hr : Room k X.A)
    (he : PE X e ta) (hab : attributeBase e f X.env (eval e X.env) = eval e X.env) (hk : j + 1 ≤ k := by decide) : PE X (.Attribute e f pos) (tPrp (Memo X.K) sp ta) := by
  constructor
  intro pins s σ H Q I h
  refine attr_of hab (thn (he.run pins s σ H _ I h) ?_)
  rintro u s1 ⟨x, H1, I1, rx, a, dx, fs, rfl, ea, q⟩
  obtain rfl : u = Value.ref a := rx
  have hp' := prop_of hp
  obtain ⟨mA, O, _, _, _, _⟩ := ins_get I1.hok ea
  obtain ⟨od, J, _⟩ := O.look
  obtain ⟨rest, hrec⟩ := hp'.rec_
  have I2 := I1.tok (s1.toks + 1)
  have hl : ([Value.ref a]).length = ps.length := by
    have z := F.ok.len _ _ _ _ q
    exact z
  have hc : (PySem.W.clsIn X.K (Memo X.K)).isSome = true := by
    obtain ⟨cd, z, _⟩ := PySem.W.any_some c.hd
    rw [z]
    rfl
  have hb := F.b { s1 with toks := s1.toks + 1 } [.ref a] I2.kIn (by rw [List.append_nil]; exact hl)
  rw [List.append_nil] at hb
  refine PySem.W.get_bind I1.kIn J (PySem.W.plainGet_of (c.get f)).1 (PySem.W.findObj_data hc hp'.at_ hp'.get hp'.tak) (PySem.W.plainGet_of (c.get f)).2 (wpAny_call (PySem.W.prop_get (s := { s1 with toks := s1.toks + 1 }) I1.kIn hrec ?_))
  refine codeAny_mono (F.ok.run X.A.in1 X.stack { s1 with toks := s1.toks + 1 } H1 ⟨[.ref a], []⟩ [.ref a] [.ref a] _ E0 hg (hr.mono hk).in1 I2.env0.in1 hb (.cons rfl .nil) q) fun r s' hq => ?_
  cases r with
  | error er => exact False.elim (passL (X := X.nox) pins σ H1 { s1 with toks := s1.toks + 1 } er s' (I2.wish _) hq)
  | ok fl =>
    cases fl with
    | ret u =>
      obtain ⟨v, H', os, bare, un, hok, rv0, q3⟩ := hq
      obtain ⟨v, H', I3, rv, q3⟩ := I2.after (Q := Q) ⟨v, H', os, bare, un, hok, rv0, q3 ⟨un.tups, un.frzs⟩⟩
      show wpAny _ _ (handedOut u) _ _ _
      rw [PySem.W.handedOut_of (handed_of rv)]
      exact wpAny_pure ⟨v, H', I3, rv, q3⟩
    | next => exact False.elim hq
    | brk => exact False.elim hq
    | cont => exact False.elim hq
end Bp

namespace Bp
open PySem PySem.Spec PyProof.Rows L2
theorem cell_eqv (c d : Cell) : PyData.eqv (dCell c) (dCell d) = decide (c = d) := by
  by_cases h : c = d
  · rw [h, eqv_yes (nb_cell d), decide_eq_true rfl]
  · rw [eqv_no (nb_cell c) (nb_cell d) fun e => h (cell_inj _ _ e), decide_eq_false h]
def idxC (c : Cell) (sh : List Cell) : Nat := @List.idxOf Cell instBEqOfDecidableEq c sh
theorem idxC_lt {c : Cell} {sh : List Cell} (h : c ∈ sh) : idxC c sh < sh.length := (@List.idxOf_lt_length_iff Cell instBEqOfDecidableEq inferInstance sh c).mpr h
section
variable {X : Cx} {K : PySem.W.Frag}
theorem pg_tupK {es : List Expr} {k : Nat} {t : TGs} {n : Nat} {pos : Pos} (hK : X.K = K) (hc : X.calm = true) (h : PGs X es t)
    (hn : (assignEach es X.env).length = n := by rfl) (hst : (assignEach es X.env).findIdx? (·.1) = none := by rfl) : PG X (.Tuple es k pos) (gTup K n t) := by
  subst hK
  exact pg_tup hc h hn hst
/-- t.index(c), t a tuple of cells, c in it -/
def rIdxC : V → List V → Hp → VK → Prop := fun x xs H Q => ∃ (p : Addr) (u : V) (ys : List V) (sh : List Cell) (c : Cell), x = .ref p ∧ xs = [u] ∧ Shp H (.ref p) sh p ys ∧ Im H u (dCell c) ∧ c ∈ sh ∧ Q (.int (idxC c sh : Nat)) H
theorem mt_idxC (hu : X.A.units + 64 < cLine) : MtR X "tuple.index" rIdxC := by
  intro pins s σ H x xs v us Q I rx rxs h
  obtain ⟨p, u, ys, sh, c, rfl, rfl, S, hc, hm, q⟩ := h
  cases rx
  obtain ⟨uc, rfl, ru⟩ := rxs.one
  obtain ⟨its, rv, ht, _⟩ := I.tuple (Or.inl S.t)
  obtain ⟨bs, r2⟩ := Dp.reads I (dCell c) u uc hc.d ru
  have hlen := rv.length
  have hS := S.l
  refine SeqAt.call_tuple_index (ks := sh) (k := c) (show s.heap.IsTuple p its.toArray from ht) ⟨by omega, fun j h1 h2 => ?_⟩ hm ⟨.int (idxC c sh : Nat), H, I.tok _, ⟨_, rfl⟩, q⟩
  have hj : j < ys.length := by omega
  have ej : ys[j]? = some ys[j] := List.getElem?_eq_getElem hj
  obtain ⟨d, hd, hdi⟩ := S.i j _ ej
  obtain ⟨uj, hu1, ru1⟩ := rv.get ej
  have e1 : its[j] = uj := by
    rw [List.getElem?_eq_getElem h1] at hu1
    exact Option.some.inj hu1
  have e2 : sh[j] = d := by
    rw [List.getElem?_eq_getElem h2] at hd
    exact Option.some.inj hd
  obtain ⟨as, r1⟩ := Dp.reads I (dCell d) _ uj hdi.d ru1
  have z := SeqAt.eqAt_reads (dCell d) (dCell c) X.A.in1 s uj uc as bs r1 r2 (nb_lay _ (nb_cell _)) (nb_lay _ (nb_cell _)) (by
    have := dep_cell d
    have := Nat.min_le_left (dCell d).depth (dCell c).depth
    show X.A.units + 1 + _ < _
    omega)
  rw [cell_eqv] at z
  rw [e1, e2]
  exact z
end
/-- t.m(e, ..), t a frozen tuple -/
def tBMT (r : V → List V → Hp → VK → Prop) (to : TE) (t : TA) : TE := fun σ H Q => to σ H fun x H1 => (∃ (a : Addr) (o : Obj) (xs : List V), x = .ref a ∧ H1 a = some (.frz o (.tup xs)) ∧ o.dict = none) ∧ t σ H1 fun ys H2 => r x ys H2 Q
theorem pe_bmT {X : Cx} {id : String} {name : Str} {r : V → List V → Hp → VK → Prop} {o e : Expr} {es : List Expr} {to : TE} {t : TA} {apos cpos : Pos} (pa : PlainAttrs "tuple") (slot : Slot "tuple" name id) (hty : typeOf (.builtin id) = pure (.type "method_descriptor")) (hm : MtR X id r) (ho : PE X o to) (ha : PA X (e :: es) t)
    (hbase : attributeBase o name X.env (eval o X.env) = eval o X.env := by rfl)
    (hfew : ((backTo cpos (starEach (e :: es) X.env)).all (fun x => !x.1) && (backToKw cpos (keywordEach [] X.env)).all (fun x => x.1.isSome)
      && decide ((e :: es).length + ([] : List Keyword).length + (if ([] : List Keyword).isEmpty then 0 else 1) < 30)) = true := by rfl)
    (hline : (apos.endLine == cpos.line) = true := by rfl) (hs : starEach (e :: es) X.env = (false, eval e X.env) :: starEach es X.env := by rfl) (hplain : (backTo cpos (starEach es X.env)).any (·.1) = false := by rfl) :
    PE X (.Call (.Attribute o name apos) (e :: es) [] cpos) (tBMT r to t) := by
  constructor
  intro pins s σ H Q I h
  refine wpAny_Call_method_late hbase hfew hline rfl (thn (ho.run pins s σ H _ I h) ?_)
  rintro v s1 ⟨x, H1, I1, r1, ⟨a, ob, xs, rfl, hf, hd⟩, q1⟩
  obtain rfl : v = Value.ref a := r1
  obtain ⟨hob, _, _, _, ot, h1, h2, _⟩ := (show ObjOk X.prog X.w H1 s1.heap a (.frz ob (.tup xs)) from I1.hok a _ hf)
  refine ⟨"tuple", id, pa, slot, hty, ⟨ot, h1, h2⟩, fun b e => ?_, ?_⟩
  · cases e
    exact ⟨ob, hob, hd⟩
  have hA := ha.run cpos pins s1 σ H1 _ I1 q1
  rw [hs] at hA ⊢
  refine Calls.callWith_builtin (by show (false || (backTo cpos (starEach es X.env)).any (·.1)) = false; rw [hplain] <;> rfl) (Calls.evalArgs_plain (thn hA ?_))
  rintro us s2 ⟨vs, H2, I2, r2, q2⟩
  exact hm pins s2 σ H2 (.ref a) vs (.ref a) us Q I2 rfl r2 q2
/-! ### deeds as they stand -/
def word : Deed → Str
  | .anew _ => "anew"
  | .write _ _ _ => "write"
theorem Im.entryI {H : Hp} {v : V} {e : Entry} (h : Im H v (dEntry e)) : ∃ a vd, v = .ref a ∧ H a = some (.tup [vd, .int e.2]) ∧ Im H vd (dDeed e.1) := by
  obtain ⟨a, xs, rfl, ha, hx⟩ := Im.tupI h
  cases hx with
  | cons h1 h2 =>
    cases h2 with
    | cons h3 h4 =>
      cases h4
      obtain rfl := h3.intI
      exact ⟨a, _, rfl, ha.plain (by cases e.1 <;> rfl), h1⟩
theorem isSh_entry (d : Deed) (b : Int) : isSh [dDeed d, .int b] = false := by cases d <;> rfl
theorem Im.entry {H : Hp} {a : Addr} {vd : V} {d : Deed} {b : Int} (h : H a = some (.tup [vd, .int b])) (hd : Im H vd (dDeed d)) : Im H (.ref a) (dEntry (d, b)) := .tup (.of h (isSh_entry d b)) (.cons hd (.cons (.int b) .nil))
theorem Im.anewI {H : Hp} {v : V} {d : Deal} (h : Im H v (dDeed (.anew d))) : ∃ a vd, v = .ref a ∧ H a = some (.tup [.str "anew", vd]) ∧ Im H vd (dDeal d) := by
  obtain ⟨a, xs, rfl, ha, hx⟩ := Im.tupI h
  cases hx with
  | cons h1 h2 =>
    cases h2 with
    | cons h3 h4 =>
      cases h4
      obtain rfl := h1.strI
      exact ⟨a, _, rfl, ha, h3⟩
theorem Im.anew {H : Hp} {a : Addr} {vd : V} {d : Deal} (h : H a = some (.tup [.str "anew", vd])) (hd : Im H vd (dDeal d)) : Im H (.ref a) (dDeed (.anew d)) := .tup h (.cons (.str _) (.cons hd .nil))
theorem Im.writeI {H : Hp} {v : V} {sh : List Cell} {pl : Cell} {ns : List Int} (h : Im H v (dDeed (.write sh pl ns))) :
    ∃ a v1 v2 v3, v = .ref a ∧ H a = some (.tup [.str "write", v1, v2, v3]) ∧ Im H v1 (dShape sh) ∧ Im H v2 (dCell pl) ∧ Im H v3 (dInts ns) := by
  obtain ⟨a, xs, rfl, ha, hx⟩ := Im.tupI h
  cases hx with
  | cons h1 h2 =>
    cases h2 with
    | cons h3 h4 =>
      cases h4 with
      | cons h5 h6 =>
        cases h6 with
        | cons h7 h8 =>
          cases h8
          obtain rfl := h1.strI
          exact ⟨a, _, _, _, rfl, ha, h3, h5, h7⟩
theorem Im.write {H : Hp} {a : Addr} {v1 v2 v3 : V} {sh : List Cell} {pl : Cell} {ns : List Int} (h : H a = some (.tup [.str "write", v1, v2, v3])) (h1 : Im H v1 (dShape sh)) (h2 : Im H v2 (dCell pl)) (h3 : Im H v3 (dInts ns)) :
    Im H (.ref a) (dDeed (.write sh pl ns)) := .tup h (.cons (.str _) (.cons h1 (.cons h2 (.cons h3 .nil))))
/-- the first item -/
theorem Im.deedW {H : Hp} {v : V} {d : Deed} (h : Im H v (dDeed d)) : ∃ a xs, v = .ref a ∧ H a = some (.tup xs) ∧ xs[0]? = some (.str (word d)) := by
  cases d with
  | anew d =>
    obtain ⟨a, vd, rfl, ha, _⟩ := h.anewI
    exact ⟨a, _, rfl, ha, rfl⟩
  | write sh pl ns =>
    obtain ⟨a, v1, v2, v3, rfl, ha, _⟩ := h.writeI
    exact ⟨a, _, rfl, ha, rfl⟩
structure Pst (H : Hp) (v : V) (l : List Entry) (a : Addr) (xs : List V) : Prop where
  e : v = .ref a
  t : H a = some (.tup xs)
  n : xs.length = l.length
  i : ∀ (i : Nat) x, xs[i]? = some x → ∃ e, l[i]? = some e ∧ Im H x (dEntry e)
theorem isSh_past (l : List Entry) : isSh (l.map dEntry) = false := by
  cases l with
  | nil => rfl
  | cons e r => obtain ⟨d, b⟩ := e; cases d <;> rfl
theorem Im.pastI {H : Hp} {v : V} {l : List Entry} (h : Im H v (dPast l)) : ∃ a xs, Pst H v l a xs := by
  obtain ⟨a, xs, rfl, ha, hx⟩ := Im.tupI h
  refine ⟨a, xs, rfl, ha.plain (isSh_past l), by simpa using hx.len, fun i x e => ?_⟩
  obtain ⟨d, e1, e2⟩ := hx.at e
  rw [List.getElem?_map] at e1
  cases q : l[i]? with
  | none => rw [q] at e1; cases e1
  | some c => rw [q] at e1; cases e1; exact ⟨c, rfl, e2⟩
/-! ### a memory as it stands -/
structure MemS where
  first : Deal
  past : List Entry
  later : List Entry
  blk : V
def MemF (f p l b : V) : List (Str × V) := [("own_first", f), ("own_past", p), ("own_later", l), ("own_block", b)]
structure Mem (K : PySem.W.Frag) (H : Hp) (m : Addr) (M : MemS) (dx : Addr) (f p l : V) : Prop where
  i : H m = some (.ins (Memo K) dx (MemF f p l M.blk))
  f : Im H f (dDeal M.first)
  p : Im H p (dPast M.past)
  l : Im H l (dPast M.later)
def MemAt (K : PySem.W.Frag) (H : Hp) (m : Addr) (M : MemS) : Prop := ∃ dx f p l, Mem K H m M dx f p l
theorem MemAt.same {K : PySem.W.Frag} {H H' : Hp} {m : Addr} {M : MemS} (h : MemAt K H m M) (s : Same H H') : MemAt K H' m M := by
  obtain ⟨dx, f, p, l, h⟩ := h
  exact ⟨dx, f, p, l, s _ _ h.i, h.f.s s, h.p.s s, h.l.s s⟩
/-- all that is tracked, but what stands at S, is as it was -/
def So (S : List Addr) (H H' : Hp) : Prop := ∀ b o, H b = some o → b ∉ S → H' b = some o
theorem So.refl (S : List Addr) (H : Hp) : So S H H := fun _ _ h _ => h
theorem So.same {S : List Addr} {H H' : Hp} (s : Same H H') : So S H H' := fun b o h _ => s b o h
theorem So.trans {S : List Addr} {H H1 H2 : Hp} (a : So S H H1) (b : So S H1 H2) : So S H H2 := fun c o h n => b c o (a c o h n) n
theorem So.mono {S S' : List Addr} {H H' : Hp} (a : So S H H') (h : ∀ b ∈ S, b ∈ S') : So S' H H' := fun c o e n => a c o e fun z => n (h c z)
theorem So.upd {S : List Addr} {H : Hp} {a : Addr} {o : HO} (h : a ∈ S) : So S H (L2.upd H a o) := fun b u e n => (upd_ne (fun z => n (by rw [z]; exact h))).trans e
theorem So.new {S : List Addr} {H : Hp} {a : Addr} {o : HO} (h : H a = none) : So S H (L2.upd H a o) := fun b u e _ => (upd_ne (ne_of_none e h)).trans e
/-! ### mirrors -/
def dealStep (d : Deal) (e : Entry) : Deal := match e.1 with
  | .anew x => x
  | .write _ _ _ => d
def dealOf (first : Deal) (past : List Entry) : Deal := past.foldl dealStep first
def hit (c : Cell) (d : Deed) : Option Int := match d with
  | .anew _ => none
  | .write sh pl ns => if (c.1 - pl.1, c.2 - pl.2) ∈ sh then ns[idxC (c.1 - pl.1, c.2 - pl.2) sh]? else none
def numAt (past : List Entry) (c : Cell) : Int := (past.reverse.findSome? fun e => hit c e.1).getD 0
def DeedOk : Deed → Prop
  | .anew d => DealOk d
  | .write sh pl ns => ShapeOk sh ∧ ns.length = sh.length ∧ (∀ n ∈ ns, -999 ≤ n ∧ n ≤ 999) ∧ -1000 ≤ pl.1 ∧ pl.1 ≤ 1000 ∧ -1000 ≤ pl.2 ∧ pl.2 ≤ 1000
structure MemOk (M : MemS) : Prop where
  f : DealOk M.first
  p : ∀ e ∈ M.past, DeedOk e.1
  l : ∀ e ∈ M.later, DeedOk e.1
  n : M.past.length + M.later.length ≤ 5000
end Bp

namespace Bp
open PySem PySem.Spec PyProof.Rows L2
section
variable {P : Program} {w : World} {K : PySem.W.Frag} {mg : Str → Option Value} {base : Heap}
def sp_Memory_first (K : PySem.W.Frag) : Sp := fun vs H Q _ => ∃ (m : Addr) (M : MemS), vs = [.ref m] ∧ MemAt K H m M ∧ ∀ v, Im H v (dDeal M.first) → Q v H
theorem ok_Memory_first (T : Th P K mg base) : GF P w K mg base 1 (getterA K (He.ga K "Memory") "first") ["self"] (sp_Memory_first K) := by
  refine gf_of T.d_Memory_first sc_Memory_first (fun vs H Q E h => by obtain ⟨m, M, rfl, ⟨dx, f, p, l, h⟩, q⟩ := h; rfl) (fun _ _ _ _ _ _ us hl => match us, hl with | [_], _ => rfl) fun cdv A outer s H vs Q E hg hr hsp => ?_
  obtain ⟨m, M, rfl, ⟨dx, f, p, l, h⟩, q⟩ := hsp
  refine ⟨_, (pss_one (ps_ret (pe_fld (pv 0) rfl))), ?_⟩
  exact ⟨_, rfl, m, _, dx, _, _, rfl, h.i, T.cl_Memory, T.n_own_first, rfl, q _ h.f⟩
def sp_Memory_deal (K : PySem.W.Frag) : Sp := fun vs H Q _ => ∃ (m : Addr) (M : MemS), vs = [.ref m] ∧ MemAt K H m M ∧ ∀ v, Im H v (dDeal (dealOf M.first M.past)) → Q v H
theorem ok_Memory_deal (T : Th P K mg base) : GF P w K mg base 1 (getterA K (He.ga K "Memory") "deal") ["self"] (sp_Memory_deal K) := by
  refine gf_of T.d_Memory_deal sc_Memory_deal (fun vs H Q E h => by obtain ⟨m, M, rfl, ⟨dx, f, p, l, h⟩, q⟩ := h; rfl) (fun _ _ _ _ _ _ us hl => match us, hl with | [_], _ => rfl) fun cdv A outer s H vs Q E hg hr hsp => ?_
  obtain ⟨m, M, rfl, ⟨dx, f, p, l, h⟩, q⟩ := hsp
  refine ⟨_, (pss_cons (ps_set (i := 1) sc_Memory_deal.nd rfl (Or.inl rfl) (pe_fld (pv 0) rfl))
    (pss_cons (ps_for PassesOwn.leaving rfl (pi_tup (pe_fld (pv 0) rfl)) (pg_tup rfl (pgs_cons (pg_name (i := 2) sc_Memory_deal.nd rfl (Or.inl rfl)) (pgs_cons (pg_name (i := 3) sc_Memory_deal.nd rfl (Or.inl rfl)) pgs_nil)))
      (pss_one (ps_if (pt_cmpR op_eq (pe_ix ix_tup (pv 2) pe_int (fun _ _ => rfl)) (pe_gs T.c_ANEW) (nomark _)) (pss_one (ps_set (i := 1) sc_Memory_deal.nd rfl (Or.inl rfl) (pe_ix ix_tup (pv 2) pe_int (fun _ _ => rfl)))) pss_nil)))
    (pss_one (ps_ret (pv 1))))), ?_⟩
  obtain ⟨a, xs, S⟩ := h.p.pastI
  have hp := S.e
  refine ⟨_, rfl, m, _, dx, _, _, rfl, h.i, T.cl_Memory, T.n_own_first, rfl, ?_⟩
  refine ⟨_, rfl, m, _, dx, _, _, rfl, h.i, T.cl_Memory, T.n_own_past, rfl, a, hp, ⟨xs, SqT.of S.t⟩, ?_⟩
  refine for_it (walk_tup (xs := xs)) (fun i σ H' => H' = H ∧ ∃ vf x y, Im H vf (dDeal (dealOf M.first (M.past.take i))) ∧ σ = [some (.ref m), some vf, x, y]) ⟨rfl, f, none, none, h.f, rfl⟩ (fun i σ H' _ q => by rw [q.1]; exact SqT.of S.t) (fun i v σ H1 H2 hi pq y => ?_) (fun σ H1 pq => ?_)
  · obtain ⟨rfl, vf, x0, y0, hvf, rfl⟩ := pq
    obtain ⟨rfl, hv⟩ := y
    obtain ⟨e, he, hve⟩ := S.i i v hv
    obtain ⟨b, vd, rfl, hb, hd⟩ := hve.entryI
    refine ⟨b, _, rfl, SqT.of hb, rfl, _, _, rfl, _, _, rfl, rfl, ?_⟩
    obtain ⟨c, ys, rfl, hc, hw⟩ := hd.deedW
    have hst : dealOf M.first (M.past.take (i + 1)) = dealStep (dealOf M.first (M.past.take i)) e := by
      unfold dealOf
      rw [List.take_add_one, he, List.foldl_append]
      rfl
    refine ⟨_, rfl, c, ys, 0, _, rfl, rfl, SqT.of hc, atI_nat hw, rfl, _, rfl, ?_⟩
    obtain ⟨d, bt⟩ := e
    cases d with
    | anew x =>
      obtain ⟨c', v', e1, e2, e3⟩ := hd.anewI
      cases e1
      rw [hc] at e2
      cases e2
      refine iteD rfl ⟨_, rfl, c, _, 1, v', rfl, rfl, SqT.of hc, rfl, rfl, _, _, _, ?_, rfl⟩
      rw [hst]
      exact e3
    | write sh pl ns =>
      refine iteDF (show ¬ V.str "write" = V.str "anew" by decide) ⟨rfl, vf, _, _, ?_, rfl⟩
      rw [hst]
      exact hvf
  · obtain ⟨rfl, vf, x0, y0, hvf, rfl⟩ := pq
    rw [List.take_of_length_le (by have := S.n; omega)] at hvf
    exact ⟨_, rfl, q _ hvf⟩
def sp_Memory_done (K : PySem.W.Frag) : Sp := fun vs H Q _ => ∃ (m : Addr) (M : MemS), vs = [.ref m] ∧ MemAt K H m M ∧ Q (.int M.past.length) H
theorem ok_Memory_done (T : Th P K mg base) : GF P w K mg base 1 (getterA K (He.ga K "Memory") "done") ["self"] (sp_Memory_done K) := by
  refine gf_of T.d_Memory_done sc_Memory_done (fun vs H Q E h => by obtain ⟨m, M, rfl, ⟨dx, f, p, l, h⟩, q⟩ := h; rfl) (fun _ _ _ _ _ _ us hl => match us, hl with | [_], _ => rfl) fun cdv A outer s H vs Q E hg hr hsp => ?_
  obtain ⟨m, M, rfl, ⟨dx, f, p, l, h⟩, q⟩ := hsp
  refine ⟨_, (pss_one (ps_ret (pe_callB call_len_seq (by rfl) T.f_len (by decide +kernel) (pa_cons (pe_fld (pv 0) rfl) pa_nil)))), ?_⟩
  obtain ⟨a, xs, S⟩ := h.p.pastI
  have hp := S.e
  refine ⟨_, rfl, m, _, dx, _, _, rfl, h.i, T.cl_Memory, T.n_own_past, rfl, a, xs, by rw [hp], .inr (SqT.of S.t), ?_⟩
  rw [S.n]
  exact q
def sp_Memory_spent (K : PySem.W.Frag) : Sp := fun vs H Q _ => ∃ (m : Addr) (M : MemS), vs = [.ref m] ∧ MemAt K H m M ∧ M.past.length ≤ 5000 ∧ ∀ H', Same H H' → Q (.int (M.past.map Prod.snd).sum) H'
theorem ok_Memory_spent (T : Th P K mg base) : GF P w K mg base 1 (getterA K (He.ga K "Memory") "spent") ["self"] (sp_Memory_spent K) := by
  refine gf_of T.d_Memory_spent sc_Memory_spent (fun vs H Q E h => by obtain ⟨m, M, rfl, ⟨dx, f, p, l, h⟩, len, q⟩ := h; rfl) (fun _ _ _ _ _ _ us hl => match us, hl with | [_], _ => rfl) fun cdv A outer s H vs Q E hg hr hsp => ?_
  obtain ⟨m, M, rfl, ⟨dx, f, p, l, h⟩, len, q⟩ := hsp
  refine ⟨_, (pss_one (ps_ret (pe_callB (cr_sum rfl) (by rfl) T.f_sum (by decide +kernel) (pa_cons (pe_lc (own := [("deed", 1), ("beats", 2)]) (tt := tYes) rfl sc_Memory_spent.nd (pi_tup (pe_fld (pv 0) rfl)) (blkOk_by (N := N_Memory_spent) (sc := defScope s_Memory_spent) (by decide +kernel)) (fun _ _ _ _ _ => (pg_tupK (K := K) (n := 2) rfl rfl (pgs_cons (pg_name (i := 1) sc_Memory_spent.nd rfl (Or.inl rfl)) (pgs_cons (pg_name (i := 2) sc_Memory_spent.nd rfl (Or.inl rfl)) pgs_nil)))) (fun _ _ _ _ _ => pts_nil) (fun _ _ _ _ _ => (pv 2))) pa_nil)))), ?_⟩
  obtain ⟨a, xs, S⟩ := h.p.pastI
  have hp := S.e
  have hn := S.n
  refine ⟨_, rfl, m, _, dx, _, _, rfl, h.i, T.cl_Memory, T.n_own_past, rfl, a, hp, ⟨xs, SqT.of S.t⟩, fun D hD => ?_⟩
  refine lc_it (walk_tup (xs := xs)) (LcP H D fun i v _ => ∃ e, M.past[i]? = some e ∧ v = .int e.2) (LcP.zero hD) (fun i H' _ p => SqT.of (p.1 _ _ S.t)) (fun i x H' H'' hi pq y => ?_) (fun H' pq => ?_)
  · obtain ⟨rfl, hx⟩ := y
    obtain ⟨e, he, hxe⟩ := S.i i x hx
    obtain ⟨b, vd, rfl, hb, hd⟩ := (hxe.s pq.1).entryI
    exact ⟨b, _, rfl, SqT.of hb, rfl, _, _, rfl, _, _, rfl, rfl, rfl, _, rfl, LcP.next (fun _ _ _ _ h _ => h) hD (by omega) pq (Same.refl _) ⟨e, he, rfl⟩⟩
  · obtain ⟨sm, hl⟩ := LcP.mapL (l := M.past.map Prod.snd) (g := .int) pq (by rw [List.length_map]; exact hn) fun i v ⟨e, e1, e2⟩ => ⟨e.2, by rw [List.getElem?_map, e1]; rfl, e2⟩
    exact ⟨D, _, rfl, SqL.of hl, q _ sm⟩
theorem Shp.s {H H' : Hp} {v : V} {sh : List Cell} {a : Addr} {xs : List V} (h : Shp H v sh a xs) (s : Same H H') : Shp H' v sh a xs :=
  ⟨h.e, rd_same h.t s, fun ne => by
    obtain ⟨o, h1, h2⟩ := h.nd ne
    exact ⟨o, s _ _ h1, h2⟩, h.l, fun i x e => by
    obtain ⟨c, h1, h2⟩ := h.i i x e
    exact ⟨c, h1, h2.s s⟩⟩
/-! ### number_at, at -/
def sp_Memory_number_at (K : PySem.W.Frag) : Sp := fun vs H Q _ => ∃ (m : Addr) (M : MemS) (u : V) (c : Cell), vs = [.ref m, u] ∧ MemAt K H m M ∧ MemOk M ∧ Im H u (dCell c) ∧ ∀ H', Same H H' → Q (.int (numAt M.past c)) H'
theorem ok_Memory_number_at (T : Th P K mg base) : GF P w K mg base 2 (He.ma K (He.ga K "Memory") "number_at") ["self", "cell"] (sp_Memory_number_at K) := by
  refine gf_of T.d_Memory_number_at sc_Memory_number_at (fun vs H Q E h => by obtain ⟨m, M, u, c, rfl, ⟨dx, f, p, l, h⟩, ok, hu, q⟩ := h; rfl) (fun _ _ _ _ _ _ us hl => match us, hl with | [_, _], _ => rfl) fun cdv A outer s H vs Q E hg hr hsp => ?_
  obtain ⟨m, M, u, c, rfl, ⟨dx, f, p, l, h⟩, ok, hu, q⟩ := hsp
  refine ⟨_, (pss_cons (ps_for PassesOwn.leaving rfl (pi_tup (pe_revT (pe_fld (pv 0) rfl))) (pg_tup rfl (pgs_cons (pg_name (i := 2) sc_Memory_number_at.nd rfl (Or.inl rfl)) (pgs_cons (pg_name (i := 3) sc_Memory_number_at.nd rfl (Or.inl rfl)) pgs_nil)))
      (pss_one (ps_if (PW.pt (pw_and (pt_cmpR op_eq (pe_ix ix_tup (pv 2) pe_int (fun _ _ => rfl)) (pe_gs T.c_WRITE) (nomark _)) (pw_and1 (pt_cmpR (op_inT hr.units) (pe_fn T.g_less (ok_less T) hg hr passL (pa_cons (pv 1) (pa_cons (pe_ix ix_tup (pv 2) pe_int (fun _ _ => rfl)) pa_nil))) (pe_ix ix_tup (pv 2) pe_int (fun _ _ => rfl)) (by rfl))))) (pss_one (ps_ret (pe_ix ix_tup (pe_ix ix_tup (pv 2) pe_int (fun _ _ => rfl)) (pe_bmT PySem.F.plainAttrs_tuple PySem.F.slot_tuple_index PySem.F.type_tuple_index (mt_idxC hr.units) (pe_ix ix_tup (pv 2) pe_int (fun _ _ => rfl)) (pa_cons (pe_fn T.g_less (ok_less T) hg hr passL (pa_cons (pv 1) (pa_cons (pe_ix ix_tup (pv 2) pe_int (fun _ _ => rfl)) pa_nil))) pa_nil)) (fun _ _ => rfl)))) pss_nil)))
    (pss_one (ps_ret pe_int))), ?_⟩
  obtain ⟨a, xs, S⟩ := h.p.pastI
  have hp := S.e
  have hn := S.n
  refine ⟨_, rfl, m, _, dx, _, _, rfl, h.i, T.cl_Memory, T.n_own_past, rfl, a, xs, hp, SqT.of S.t, fun t nt => ?_⟩
  have s0 : Same H (upd H t (.tup xs.reverse)) := fun b o e => (upd_ne (ne_of_none e nt)).trans e
  refine ⟨t, rfl, ⟨_, SqT.of upd_same⟩, ?_⟩
  have et : upd H t (.tup xs.reverse) t = some (.tup xs.reverse) := upd_same
  generalize upd H t (.tup xs.reverse) = H0 at s0 et
  refine for_it (walk_tup (xs := xs.reverse)) (fun i σ H' => Same H0 H' ∧ ((M.past.reverse.take i).findSome? fun e => hit c e.1) = none ∧ ∃ x y, σ = [some (.ref m), some u, x, y]) ⟨Same.refl _, rfl, none, none, rfl⟩ (fun i σ H' _ q => SqT.of (q.1 _ _ et)) (fun i v σ H1 H2 hi pq y => ?_) (fun σ H1 pq => ?_)
  · obtain ⟨s1, hno, x0, y0, rfl⟩ := pq
    obtain ⟨rfl, hv⟩ := y
    have hi' : i < xs.length := by simpa using hi
    have hv' : xs[xs.length - 1 - i]? = some v := by
      rw [List.getElem?_reverse hi'] at hv
      exact hv
    obtain ⟨e, he0, hve⟩ := S.i _ v hv'
    have he : M.past.reverse[i]? = some e := by
      rw [List.getElem?_reverse (by omega), ← hn]
      exact he0
    have s01 := s0.trans s1
    obtain ⟨b, vd, rfl, hb, hd⟩ := (hve.s s01).entryI
    refine ⟨b, _, rfl, SqT.of hb, rfl, _, _, rfl, _, _, rfl, rfl, ?_⟩
    obtain ⟨g, ys, rfl, hg', hw⟩ := hd.deedW
    have hst : ((M.past.reverse.take (i + 1)).findSome? fun e => hit c e.1) = hit c e.1 := by
      rw [List.take_add_one, he, List.findSome?_append, hno]
      show (List.findSome? (fun e => hit c e.1) [e]) = _
      cases z : hit c e.1 <;> simp [z]
    refine ⟨_, rfl, g, ys, 0, _, rfl, rfl, SqT.of hg', atI_nat hw, rfl, _, rfl, ?_⟩
    obtain ⟨d, bt⟩ := e
    cases d with
    | anew x => exact iteDF (show ¬ V.str "anew" = V.str "write" by decide) (iteF ⟨s1, hst, _, _, rfl⟩)
    | write sh pl ns =>
      obtain ⟨g', v1, v2, v3, e1, e2, h1, h2, h3⟩ := hd.writeI
      cases e1
      rw [hg'] at e2
      cases e2
      obtain ⟨okS, okl, _⟩ := ok.p _ (List.mem_of_getElem? he0)
      refine iteD rfl ?_
      refine ⟨_, rfl, _, rfl, g, _, 2, _, rfl, rfl, SqT.of hg', rfl, u, v2, c, pl, rfl, hu.s s01, h2, fun z H3 s3 hz _ => ?_⟩
      have hg3 := s3 _ _ hg'
      refine ⟨_, rfl, g, _, 1, _, rfl, rfl, SqT.of hg3, rfl, ?_⟩
      refine ⟨dCell (c.1 - pl.1, c.2 - pl.2), sh.map dCell, hz.d, (h1.s s3).d, nb_lay _ (nb_cell _), nb_layAll _ (nbAll_map _ _ fun c _ => nb_cell c), by have := dep_cell (c.1 - pl.1, c.2 - pl.2); omega, _, rfl, ?_⟩
      have hany : (sh.map dCell).any (fun z => PyData.eqv z (dCell (c.1 - pl.1, c.2 - pl.2))) = decide ((c.1 - pl.1, c.2 - pl.2) ∈ sh) := by
        rw [List.any_map]
        show sh.any (fun z => PyData.eqv (dCell z) (dCell (c.1 - pl.1, c.2 - pl.2))) = _
        by_cases hm : (c.1 - pl.1, c.2 - pl.2) ∈ sh
        · rw [decide_eq_true hm]
          exact List.any_eq_true.mpr ⟨_, hm, by rw [cell_eqv]; exact decide_eq_true rfl⟩
        · rw [decide_eq_false hm]
          refine List.any_eq_false.mpr fun z hz => ?_
          rw [cell_eqv, decide_eq_false fun e => hm (by rw [← e]; exact hz)]
          decide
      rw [hany]
      by_cases hm : (c.1 - pl.1, c.2 - pl.2) ∈ sh
      · refine iteD hm ?_
        have hv3 : Im H3 v3 (dInts ns) := h3.s s3
        obtain ⟨n3, rfl, hn3⟩ := hv3.intsI
        obtain ⟨sa, sxs, SS⟩ := (h1.s s3).shapeI
        have hidx : idxC (c.1 - pl.1, c.2 - pl.2) sh < sh.length := idxC_lt hm
        obtain ⟨nv, hnv⟩ : ∃ nv, ns[idxC (c.1 - pl.1, c.2 - pl.2) sh]? = some nv := ⟨_, List.getElem?_eq_getElem (by omega)⟩
        refine ⟨_, rfl, g, _, 3, _, rfl, rfl, SqT.of hg3, rfl, ?_⟩
        refine ⟨_, rfl, g, _, 1, _, rfl, rfl, SqT.of hg3, rfl, ?_⟩
        obtain ⟨so, hso, hsd⟩ := SS.nd okS.ne
        refine ⟨⟨sa, so, sxs, SS.e, hso, hsd⟩, ?_⟩
        refine ⟨_, rfl, _, rfl, g, _, 2, _, rfl, rfl, SqT.of hg3, rfl, u, v2, c, pl, rfl, hu.s (s01.trans s3), h2.s s3, fun z4 H4 s4 hz4 _ => ?_⟩
        have se := SS.e
        subst se
        refine ⟨sa, z4, sxs, sh, _, rfl, rfl, SS.s s4, hz4, hm, ?_⟩
        refine ⟨n3, _, _, .int nv, rfl, rfl, SqT.of (s4 _ _ hn3), atI_nat (by rw [List.getElem?_map, hnv]; rfl), ?_⟩
        have zz := q H4 (((s0.trans s1).trans s3).trans s4)
        have hfin : numAt M.past c = nv := by
          unfold numAt
          have e1 : M.past.reverse = M.past.reverse.take (i + 1) ++ M.past.reverse.drop (i + 1) := (List.take_append_drop _ _).symm
          rw [e1, List.findSome?_append, hst]
          show (Option.or (if (c.1 - pl.1, c.2 - pl.2) ∈ sh then _ else none) _).getD 0 = nv
          rw [if_pos hm, hnv]
          rfl
        rw [hfin] at zz
        exact zz
      · refine iteDF hm ⟨s1.trans s3, ?_, _, _, rfl⟩
        rw [hst]
        show (if (c.1 - pl.1, c.2 - pl.2) ∈ sh then _ else none) = none
        rw [if_neg hm]
  · obtain ⟨s1, hno, x0, y0, rfl⟩ := pq
    rw [List.take_of_length_le (by simp [hn])] at hno
    have z := q H1 (s0.trans s1)
    unfold numAt at z
    rw [hno] at z
    exact z
def sp_Memory_at (K : PySem.W.Frag) : Sp := sp_Memory_number_at K
theorem ok_Memory_at (T : Th P K mg base) : GF P w K mg base 4 (He.ma K (He.ga K "Memory") "at") ["self", "cell"] (sp_Memory_at K) := by
  refine gf_of T.d_Memory_at sc_Memory_at (fun vs H Q E h => by obtain ⟨m, M, u, c, rfl, hM, ok, hu, q⟩ := h; rfl) (fun _ _ _ _ _ _ us hl => match us, hl with | [_, _], _ => rfl) fun cdv A outer s H vs Q E hg hr hsp => ?_
  obtain ⟨m, M, u, c, rfl, hM, ok, hu, q⟩ := hsp
  refine ⟨_, (pss_cons (ps_expr (pe_fn T.g_check_cell (ok_check_cell T) hg hr passL (pa_cons (pv 1) pa_nil)))
    (pss_one (ps_ret (pe_mt T.cl_Memory T.m_Memory_number_at (ok_Memory_number_at T) hg hr passL (pv 0) (pa_cons (pv 1) pa_nil))))), ?_⟩
  refine ⟨_, rfl, u, c, rfl, hu, fun H1 s1 _ => ?_⟩
  obtain ⟨dx, f, p, l, h⟩ := hM.same s1
  exact ⟨_, rfl, m, dx, _, rfl, h.i, rfl, _, rfl, m, M, u, c, rfl, ⟨dx, f, p, l, h⟩, ok, hu.s s1, fun H2 s2 _ => q _ (s1.trans s2)⟩
end
end Bp

namespace Bp
open PySem PySem.Spec PyProof.Rows L2
theorem putF_f (y f p l b : V) : putF "own_first" y (MemF f p l b) = MemF y p l b := by simp [putF, MemF]
theorem putF_p (y f p l b : V) : putF "own_past" y (MemF f p l b) = MemF f y l b := by
  unfold MemF
  rw [putF, if_neg (by decide), putF, if_pos rfl]
theorem putF_l (y f p l b : V) : putF "own_later" y (MemF f p l b) = MemF f p y b := by
  unfold MemF
  rw [putF, if_neg (by decide), putF, if_neg (by decide), putF, if_pos rfl]
theorem putF_b (y f p l b : V) : putF "own_block" y (MemF f p l b) = MemF f p l y := by
  unfold MemF
  rw [putF, if_neg (by decide), putF, if_neg (by decide), putF, if_neg (by decide), putF, if_pos rfl]
theorem Pst.all {H : Hp} {v : V} {l : List Entry} {a : Addr} {xs : List V} (S : Pst H v l a xs) : ImAll H xs (l.map dEntry) :=
  ImAll.of_at (by simp [S.n]) fun i v d e1 e2 => by
    obtain ⟨e, h1, h2⟩ := S.i i v e1
    rw [List.getElem?_map, h1] at e2
    cases e2
    exact h2
theorem Im.past {H : Hp} {a : Addr} {xs : List V} {l : List Entry} (h : H a = some (.tup xs)) (i : ImAll H xs (l.map dEntry)) : Im H (.ref a) (dPast l) := .tup (.of h (isSh_past l)) i
theorem sameN {H : Hp} {a : Addr} {o : HO} (h : H a = none) : Same H (upd H a o) := fun b u e => (upd_ne (ne_of_none e h)).trans e
/-- the instance at m is written: what is not it stays, and immutable things stay -/
theorem kp_ins {H : Hp} {m C dx C' dx' : Addr} {fs fs' : List (Str × V)} (h : H m = some (.ins C dx fs)) : Kp H (upd H m (.ins C' dx' fs')) := Kp.upd fun u e => by
  rw [h] at e
  cases e
  exact ⟨fun xs z => (by cases z), fun q z y => (by cases y)⟩
theorem lenP {f : Str} {v : V} {fs : List (Str × V)} {n : Nat} (h : fs.length ≤ n) : (putF f v fs).length ≤ n + 1 := Nat.le_trans (length_putF f v fs) (Nat.succ_le_succ h)
theorem len0 : ([] : List (Str × V)).length ≤ 0 := Nat.le_refl _
theorem ltK {n : Nat} {fs : List (Str × V)} (h : fs.length ≤ n) (hn : n < 1000) : fs.length < 1000 := Nat.lt_of_le_of_lt h hn
theorem memF_of (f p l b : V) : putF "own_block" b (putF "own_later" l (putF "own_past" p (putF "own_first" f []))) = MemF f p l b := by
  have e1 : putF "own_first" f [] = [(("own_first" : Str), f)] := rfl
  have e2 : putF "own_past" p [(("own_first" : Str), f)] = [(("own_first" : Str), f), (("own_past" : Str), p)] := by rw [putF, if_neg (by decide)]; rfl
  have e3 : putF "own_later" l [(("own_first" : Str), f), (("own_past" : Str), p)] = [(("own_first" : Str), f), (("own_past" : Str), p), (("own_later" : Str), l)] := by rw [putF, if_neg (by decide), putF, if_neg (by decide)]; rfl
  rw [e1, e2, e3, putF, if_neg (by decide), putF, if_neg (by decide), putF, if_neg (by decide)]
  rfl
theorem Mem.ks {K : PySem.W.Frag} {H H' : Hp} {m dx : Addr} {M : MemS} {f p l : V} (h : Mem K H m M dx f p l) (k : Same H H') : Mem K H' m M dx f p l := ⟨k _ _ h.i, h.f.s k, h.p.s k, h.l.s k⟩
theorem lenM (f p l b : V) : (MemF f p l b).length < 1000 := by show 4 < 1000; decide
section
variable {P : Program} {w : World} {K : PySem.W.Frag} {mg : Str → Option Value} {base : Heap}
/-! ### Memory.__init__ -/
def sp_Memory_init (K : PySem.W.Frag) : Sp := fun vs H Q _ => ∃ (m dx : Addr) (u : V) (d : Deal), vs = [.ref m, u] ∧ H m = some (.ins (Memo K) dx []) ∧ Im H u (dDeal d) ∧ DealOk d ∧ ∀ H', So [m] H H' → MemAt K H' m ⟨d, [], [], .non⟩ → Q .non H'
theorem ok_Memory_init (T : Th P K mg base) : GF P w K mg base 4 (He.ma K (He.ga K "Memory") "__init__") ["self", "deal"] (sp_Memory_init K) := by
  refine gf_of T.d_Memory_init sc_Memory_init (fun vs H Q E h => by obtain ⟨m, dx, u, d, rfl, hm, hu, ok, q⟩ := h; rfl) (fun _ _ _ _ _ _ us hl => match us, hl with | [_, _], _ => rfl) fun cdv A outer s H vs Q E hg hr hsp => ?_
  obtain ⟨m, dx, u, d, rfl, hm, hu, ok, q⟩ := hsp
  refine ⟨_, (pss_cons (ps_expr (pe_fn T.g_check_deal (ok_check_deal T) hg hr passL (pa_cons (pv 1) pa_nil)))
    (pss_cons (ps_fld (pv 0) (pv 1) rfl)
    (pss_cons (ps_fld (pv 0) (pe_tup pa_nil) rfl)
    (pss_cons (ps_fld (pv 0) (pe_tup pa_nil) rfl)
    (pss_one (ps_fld (pv 0) pe_non rfl)))))), ?_⟩
  refine ⟨_, rfl, u, d, rfl, hu, ok, fun H1 s1 _ => ?_⟩
  have hm1 := s1 _ _ hm
  have hu1 := hu.s s1
  refine ⟨_, rfl, _, rfl, m, _, dx, _, rfl, hm1, T.cl_Memory, T.n_own_first, ltK len0 (by decide), ?_⟩
  have k2 := kp_ins (C' := Memo K) (dx' := dx) (fs' := putF "own_first" u []) hm1
  have o2 : So [m] H1 (upd H1 m (.ins (Memo K) dx (putF "own_first" u []))) := .upd (by simp)
  have e2 : upd H1 m (.ins (Memo K) dx (putF "own_first" u [])) m = some (.ins (Memo K) dx (putF "own_first" u [])) := upd_same
  generalize upd H1 m (.ins (Memo K) dx (putF "own_first" u [])) = H2 at k2 o2 e2
  refine ⟨Nat.zero_le _, fun p np => ?_⟩
  have s3 : Same H2 (upd H2 p (.tup [])) := sameN np
  have ep : upd H2 p (.tup []) p = some (.tup []) := upd_same
  generalize upd H2 p (.tup []) = H3 at s3 ep
  refine ⟨_, rfl, m, _, dx, _, rfl, s3 _ _ e2, T.cl_Memory, T.n_own_past, ltK (lenP len0) (by decide), ?_⟩
  have k4 := kp_ins (C' := Memo K) (dx' := dx) (fs' := putF "own_past" (.ref p) (putF "own_first" u [])) (s3 _ _ e2)
  have o4 : So [m] H3 (upd H3 m (.ins (Memo K) dx (putF "own_past" (.ref p) (putF "own_first" u [])))) := .upd (by simp)
  have e4 : upd H3 m (.ins (Memo K) dx (putF "own_past" (.ref p) (putF "own_first" u []))) m = some (.ins (Memo K) dx (putF "own_past" (.ref p) (putF "own_first" u []))) := upd_same
  generalize upd H3 m (.ins (Memo K) dx (putF "own_past" (.ref p) (putF "own_first" u []))) = H4 at k4 o4 e4
  refine ⟨Nat.zero_le _, fun l nl => ?_⟩
  have s5 : Same H4 (upd H4 l (.tup [])) := sameN nl
  have el : upd H4 l (.tup []) l = some (.tup []) := upd_same
  generalize upd H4 l (.tup []) = H5 at s5 el
  refine ⟨_, rfl, m, _, dx, _, rfl, s5 _ _ e4, T.cl_Memory, T.n_own_later, ltK (lenP (lenP len0)) (by decide), ?_⟩
  refine ⟨_, rfl, m, _, dx, _, rfl, upd_same, T.cl_Memory, T.n_own_block, ltK (lenP (lenP (lenP len0))) (by decide), ?_⟩
  rw [memF_of]
  have k6 := kp_ins (C' := Memo K) (dx' := dx) (fs' := putF "own_later" (.ref l) (putF "own_past" (.ref p) (putF "own_first" u []))) (s5 _ _ e4)
  have o6 : So [m] H5 (upd H5 m (.ins (Memo K) dx (putF "own_later" (.ref l) (putF "own_past" (.ref p) (putF "own_first" u []))))) := .upd (by simp)
  have e6 : upd H5 m (.ins (Memo K) dx (putF "own_later" (.ref l) (putF "own_past" (.ref p) (putF "own_first" u [])))) m = some (.ins (Memo K) dx (putF "own_later" (.ref l) (putF "own_past" (.ref p) (putF "own_first" u [])))) := upd_same
  generalize upd H5 m (.ins (Memo K) dx (putF "own_later" (.ref l) (putF "own_past" (.ref p) (putF "own_first" u [])))) = H6 at k6 o6 e6
  have k7 := kp_ins (C' := Memo K) (dx' := dx) (fs' := MemF u (.ref p) (.ref l) .non) e6
  have o7 : So [m] H6 (upd H6 m (.ins (Memo K) dx (MemF u (.ref p) (.ref l) .non))) := .upd (by simp)
  have kl := k6.trans k7
  have kpp := ((k4.trans (Kp.of s5)).trans k6).trans k7
  refine q _ ((((((So.same s1).trans o2).trans (So.same s3)).trans o4).trans (So.same s5)).trans (o6.trans o7)) ⟨dx, u, .ref p, .ref l, upd_same, ?_, ?_, ?_⟩
  · exact hu1.k ((k2.trans (Kp.of s3)).trans kpp)
  · exact Im.past (l := []) (kpp.tup _ _ ep) .nil
  · exact Im.past (l := []) (kl.tup _ _ el) .nil
/-! ### put -/
def sp_Memory_put (K : PySem.W.Frag) : Sp := fun vs H Q _ => ∃ (m : Addr) (M : MemS) (u : V) (d : Deed) (b : Int), vs = [.ref m, u, .int b] ∧ MemAt K H m M ∧ Im H u (dDeed d) ∧ M.past.length ≤ 5000 ∧
  ∀ H', So [m] H H' → MemAt K H' m { M with past := M.past ++ [(d, b)], later := [] } → Q .non H'
theorem ok_Memory_put (T : Th P K mg base) : GF P w K mg base 1 (He.ma K (He.ga K "Memory") "put") ["self", "deed", "beats"] (sp_Memory_put K) := by
  refine gf_of T.d_Memory_put sc_Memory_put (fun vs H Q E h => by obtain ⟨m, M, u, d, b, rfl, ⟨dx, f, p, l, h⟩, hu, len, q⟩ := h; rfl) (fun _ _ _ _ _ _ us hl => match us, hl with | [_, _, _], _ => rfl) fun cdv A outer s H vs Q E hg hr hsp => ?_
  obtain ⟨m, M, u, d, b, rfl, ⟨dx, f, p, l, h⟩, hu, len, q⟩ := hsp
  refine ⟨_, (pss_cons (ps_fld (pv 0) (pe_tup (StX.pa_star (pe_fld (pv 0) rfl) (pa_cons (pe_tup (pa_cons (pv 1) (pa_cons (pv 2) pa_nil))) pa_nil))) rfl)
    (pss_one (ps_fld (pv 0) (pe_tup pa_nil) rfl))), ?_⟩
  obtain ⟨a, xs, S⟩ := h.p.pastI
  have hp := S.e
  have hn := S.n
  refine ⟨_, rfl, m, _, dx, _, _, rfl, h.i, T.cl_Memory, T.n_own_past, rfl, a, xs, hp, .inl (SqT.of S.t), ?_⟩
  refine ⟨_, rfl, _, rfl, by show 2 ≤ sizeLine; decide, fun t nt => ?_⟩
  have s1 : Same H (upd H t (.tup [u, .int b])) := sameN nt
  have et : upd H t (.tup [u, .int b]) t = some (.tup [u, .int b]) := upd_same
  generalize upd H t (.tup [u, .int b]) = H1 at s1 et
  refine ⟨by show (xs ++ [V.ref t]).length ≤ sizeLine; rw [List.length_append]; exact Nat.le_trans (show _ ≤ 5001 by show xs.length + 1 ≤ 5001; omega) (by decide), fun p2 np2 => ?_⟩
  have s2 : Same H1 (upd H1 p2 (.tup (xs ++ [.ref t]))) := sameN np2
  have ep2 : upd H1 p2 (.tup (xs ++ [.ref t])) p2 = some (.tup (xs ++ [.ref t])) := upd_same
  generalize upd H1 p2 (.tup (xs ++ [.ref t])) = H2 at s2 ep2
  have h2 := h.ks (s1.trans s2)
  refine ⟨_, rfl, m, _, dx, _, rfl, h2.i, T.cl_Memory, T.n_own_past, lenM _ _ _ _, ?_⟩
  rw [putF_p]
  have k3 := kp_ins (C' := Memo K) (dx' := dx) (fs' := MemF f (.ref p2) l M.blk) h2.i
  have o3 : So [m] H2 (upd H2 m (.ins (Memo K) dx (MemF f (.ref p2) l M.blk))) := .upd (by simp)
  have e3 : upd H2 m (.ins (Memo K) dx (MemF f (.ref p2) l M.blk)) m = some (.ins (Memo K) dx (MemF f (.ref p2) l M.blk)) := upd_same
  generalize upd H2 m (.ins (Memo K) dx (MemF f (.ref p2) l M.blk)) = H3 at k3 o3 e3
  refine ⟨Nat.zero_le _, fun l2 nl => ?_⟩
  have s4 : Same H3 (upd H3 l2 (.tup [])) := sameN nl
  have el : upd H3 l2 (.tup []) l2 = some (.tup []) := upd_same
  generalize upd H3 l2 (.tup []) = H4 at s4 el
  refine ⟨_, rfl, m, _, dx, _, rfl, s4 _ _ e3, T.cl_Memory, T.n_own_later, lenM _ _ _ _, ?_⟩
  rw [putF_l]
  have k5 := kp_ins (C' := Memo K) (dx' := dx) (fs' := MemF f (.ref p2) (.ref l2) M.blk) (s4 _ _ e3)
  have o5 : So [m] H4 (upd H4 m (.ins (Memo K) dx (MemF f (.ref p2) (.ref l2) M.blk))) := .upd (by simp)
  have kk := (k3.trans (Kp.of s4)).trans k5
  refine q _ ((((So.same s1).trans (So.same s2)).trans o3).trans ((So.same s4).trans o5)) ⟨dx, f, .ref p2, .ref l2, upd_same, (h2.f).k kk, ?_, Im.past (l := []) (k5.tup _ _ el) .nil⟩
  refine Im.past (kk.tup _ _ ep2) ?_
  rw [List.map_append]
  exact (S.all.k ((Kp.of (s1.trans s2)).trans kk)).app (.cons (Im.entry (((Kp.of s2).trans kk).tup _ _ et) (hu.k ((Kp.of (s1.trans s2)).trans kk))) .nil)
end
end Bp

namespace Bp
open PySem PySem.Spec PyProof.Rows L2
theorem dealOf_ok {M : MemS} (h : MemOk M) : DealOk (dealOf M.first M.past) := by
  obtain ⟨h1, h2, h3, h4⟩ := h
  obtain ⟨fi, pa, la, b⟩ := M
  dsimp only at *
  unfold dealOf
  clear h3 h4 la b
  induction pa generalizing fi with
  | nil => exact h1
  | cons e r ih =>
    rw [List.foldl_cons]
    refine ih (dealStep fi e) ?_ fun x hx => h2 x (List.mem_cons_of_mem _ hx)
    have := h2 e List.mem_cons_self
    obtain ⟨d, bt⟩ := e
    cases d with
    | anew x => exact this
    | write sh pl ns => exact h1
theorem deal_eqv (c d : Deal) : PyData.eqv (dDeal c) (dDeal d) = decide (c = d) := by
  by_cases h : c = d
  · rw [h, eqv_yes (nb_deal d), decide_eq_true rfl]
  · rw [eqv_no (nb_deal c) (nb_deal d) fun e => h (deal_inj _ _ e), decide_eq_false h]
theorem past_nil (l : List Entry) : PyData.eqv (dPast l) (.tuple []) = decide (l = []) := by
  cases l with
  | nil => rfl
  | cons e r =>
    rw [decide_eq_false (by simp)]
    exact eqv_no (nb_past _) (by simp only [nb, nbAll]) (by simp [dPast])
/-- short data: what repr shows of it has at most so many signs -/
structure Sm (n : Nat) (d : PyData) : Prop where
  s : d.showable = true
  h : d.hasDict = false
  l : d.shown.length ≤ n
structure SmAll (n : Nat) (ds : List PyData) : Prop where
  s : PyData.showableAll ds = true
  h : PyData.hasDictAll ds = false
  l : ((PyData.shownAll ds).map (·.length)).sum ≤ n
theorem Sm.int {i : Int} (h : i.natAbs < 10 ^ 12) : Sm 13 (.int i) := by
  refine ⟨?_, by simp only [PyData.hasDict], PyData.shown_int_le h⟩
  simp only [PyData.showable, decide_eq_true_eq]
  by_cases z : i.natAbs = 0
  · rw [z]; decide
  · exact (Nat.log2_lt z).2 (Nat.lt_trans h (by decide))
theorem SmAll.nil : SmAll 0 [] := ⟨by simp only [PyData.showableAll], by simp only [PyData.hasDictAll], by simp [PyData.shownAll]⟩
theorem SmAll.cons {n m : Nat} {d : PyData} {ds : List PyData} (a : Sm n d) (b : SmAll m ds) : SmAll (n + m) (d :: ds) := by
  refine ⟨by simp only [PyData.showableAll, a.s, b.s, Bool.and_self], by simp only [PyData.hasDictAll, a.h, b.h, Bool.or_self], ?_⟩
  have h1 := a.l
  have h2 := b.l
  simp only [PyData.shownAll, List.map_cons, List.sum_cons]
  omega
theorem SmAll.tup {n : Nat} {ds : List PyData} (a : SmAll n ds) : Sm (n + 2 * ds.length + 3) (.tuple ds) := by
  refine ⟨by simp only [PyData.showable, a.s], by simp only [PyData.hasDict, a.h], ?_⟩
  have h := tupleText_len_le (PyData.shownAll ds)
  have h3 := PyData.shownAll_length ds
  have h1 := a.l
  simp only [PyData.shown]
  omega
theorem SmAll.lst {n : Nat} {ds : List PyData} (a : SmAll n ds) : Sm (n + 2 * ds.length + 3) (.list ds) := by
  refine ⟨by simp only [PyData.showable, a.s], by simp only [PyData.hasDict, a.h], ?_⟩
  have h := listText_len_le (PyData.shownAll ds)
  have h3 := PyData.shownAll_length ds
  have h1 := a.l
  simp only [PyData.shown]
  omega
theorem SmAll.ints : ∀ {ns : List Int}, (∀ i ∈ ns, i.natAbs < 10 ^ 12) → SmAll (13 * ns.length) (ns.map .int)
  | [], _ => .nil
  | i :: r, h => by
    have z := SmAll.cons (Sm.int (h i List.mem_cons_self)) (SmAll.ints (ns := r) fun j hj => h j (List.mem_cons_of_mem _ hj))
    refine ⟨z.s, z.h, Nat.le_trans z.l ?_⟩
    simp only [List.length_cons]
    omega
theorem deal_sm (d : Deal) (h : DealOk d) : Sm 48 (dDeal d) := by
  obtain ⟨p, q, r⟩ := d
  obtain ⟨h1, h2, h3, h4, h5, h6⟩ := h
  dsimp only at h1 h2 h3 h4 h5 h6
  have e : (10 : Nat) ^ 12 = 1000000000000 := by decide
  exact (SmAll.cons (Sm.int (show p.natAbs < 10 ^ 12 by rw [e]; omega)) (SmAll.cons (Sm.int (show q.natAbs < 10 ^ 12 by rw [e]; omega)) (SmAll.cons (Sm.int (show r.natAbs < 10 ^ 12 by rw [e]; omega)) .nil))).tup
theorem deal_shown (d : Deal) (h : DealOk d) : (dDeal d).showable = true ∧ (dDeal d).hasDict = false ∧ (dDeal d).shown.length ≤ 1000 := by
  have z := deal_sm d h
  exact ⟨z.s, z.h, Nat.le_trans z.l (by decide)⟩
/-- what stands where an error of the program is in the air -/
def Raised (K : PySem.W.Frag) (x : Str) (v : V) (S : List Addr) (H : Hp) (E : XK) : Prop := ∀ dd H', So S H H' → H' dd = some (.xd [("value", v)]) → E (.ref (He.ga K x)) (some dd) H'
section
variable {P : Program} {w : World} {K : PySem.W.Frag} {mg : Str → Option Value} {base : Heap}
/-! ### write: slots self 0, shape 1, place 2, numbers 3, one 4 -/
def sp_Memory_write (K : PySem.W.Frag) : Sp := fun vs H Q _ => ∃ (m : Addr) (M : MemS) (u1 u2 u3 : V) (sh : List Cell) (pl : Cell) (ns : List Int), vs = [.ref m, u1, u2, u3] ∧ MemAt K H m M ∧ MemOk M ∧ Im H u1 (dShape sh) ∧ Im H u2 (dCell pl) ∧ Im H u3 (dInts ns) ∧ DeedOk (.write sh pl ns) ∧
  ∀ H', So [m] H H' → MemAt K H' m { M with past := M.past ++ [(.write sh pl ns, beatsOf (dealOf M.first M.past) sh)], later := [] } → Q .non H'
theorem ok_Memory_write (T : Th P K mg base) : GF P w K mg base 6 (He.ma K (He.ga K "Memory") "write") ["self", "shape", "place", "numbers"] (sp_Memory_write K) := by
  refine gf_of T.d_Memory_write sc_Memory_write (fun vs H Q E h => by obtain ⟨m, M, u1, u2, u3, sh, pl, ns, rfl, hM, ok, h1, h2, h3, ⟨okS, okl, okn, _⟩, q⟩ := h; rfl) (fun _ _ _ _ _ _ us hl => match us, hl with | [_, _, _, _], _ => rfl) fun cdv A outer s H vs Q E hg hr hsp => ?_
  obtain ⟨m, M, u1, u2, u3, sh, pl, ns, rfl, hM, ok, h1, h2, h3, ⟨okS, okl, okn, _⟩, q⟩ := hsp
  refine ⟨_, (pss_cons (ps_expr (pe_fn T.g_check_shape (ok_check_shape T) hg hr passL (pa_cons (pv 1) pa_nil)))
    (pss_cons (ps_expr (pe_fn T.g_check_cell (ok_check_cell T) hg hr passL (pa_cons (pv 2) pa_nil)))
    (pss_cons (ps_if (PW.pt (pw_or (pt_not (pt_val (pe_callB call_isi (by rfl) T.f_isinstance (by decide +kernel) (pa_cons (pv 3) (pa_cons (pe_bltn (v := .ty "tuple") (by rfl) T.f_tuple (by decide +kernel) rfl) pa_nil))))) (pw_or1 (pt_cmpR op_ne (pe_callB call_len_seq (by rfl) T.f_len (by decide +kernel) (pa_cons (pv 3) pa_nil)) (pe_callB call_len_seq (by rfl) T.f_len (by decide +kernel) (pa_cons (pv 1) pa_nil)) (nomark _))))) (pss_one ps_never) pss_nil)
    (pss_cons (ps_if (pt_not (pt_val (pe_callB (cr_all rfl) (by rfl) T.f_all (by decide +kernel) (pa_cons (pe_lc (own := [("one", 4)]) (tt := tYes) rfl sc_Memory_write.nd (pi_tup (pv 3)) (blkOk_by (N := N_Memory_write) (sc := defScope s_Memory_write) (by decide +kernel)) (fun _ _ _ _ _ => (pg_name (i := 4) sc_Memory_write.nd rfl (Or.inl rfl))) (fun _ _ _ _ _ => pts_nil) (fun _ _ _ _ _ => (pe_and (pe_fn T.g_is_integer (ok_is_integer T) hg hr passL (pa_cons (pv 4) pa_nil)) (pe_one (pe_chain op_le op_le (pe_un un_neg (pe_gi T.c_MOST_NUMBER)) (pv 4) (pe_gi T.c_MOST_NUMBER)))))) pa_nil)))) (pss_one ps_never) pss_nil)
    (pss_one (ps_expr (pe_mt T.cl_Memory T.m_Memory_put (ok_Memory_put T) hg hr passL (pv 0) (pa_cons (pe_tup (pa_cons (pe_gs T.c_WRITE) (pa_cons (pv 1) (pa_cons (pv 2) (pa_cons (pv 3) pa_nil))))) (pa_cons (pe_fn T.g_beats_of (ok_beats_of T) hg hr passL (pa_cons (pe_prp T.cl_Memory T.p_deal (ok_Memory_deal T) hg hr (pv 0) (by rfl)) (pa_cons (pv 1) pa_nil))) pa_nil))))))))), ?_⟩
  refine ⟨_, rfl, u1, sh, rfl, h1, okS, fun H1 s1 _ => ?_⟩
  refine ⟨_, rfl, u2, pl, rfl, h2.s s1, fun H2 s2 _ => ?_⟩
  have s12 := s1.trans s2
  obtain ⟨n3, rfl, hn3⟩ := (h3.s s12).intsI
  obtain ⟨a, xs, S⟩ := (h1.s s12).shapeI
  have hS := S.l
  have h16 := okS.len
  refine ⟨_, rfl, _, _, _, _, true, rfl, .ty "tuple", .base (.tup hn3), kit_tt, true, rfl, iteF ?_⟩
  refine ⟨_, rfl, n3, _, rfl, .inr (SqT.of hn3), _, rfl, a, xs, by rw [S.e], .inr (.inl S.t), rfl, _, rfl, ?_⟩
  have hlen : (!decide (V.int ((ns.map V.int).length : Nat) = V.int (xs.length : Nat))) = false := by
    rw [List.length_map, okl, hS, decide_eq_true rfl]
    rfl
  rw [hlen]
  refine iteF ?_
  refine ⟨_, rfl, n3, rfl, ⟨_, SqT.of hn3⟩, fun D hD => lc_it (walk_tup (xs := ns.map V.int)) (LcP H2 D fun _ v _ => v = .bl true) (LcP.zero hD) (fun i H' _ p => SqT.of (p.1 _ _ hn3)) (fun i x H' H'' hi p y => ?_) (fun H3 p => ?_)⟩
  · obtain ⟨rfl, hx⟩ := y
    rw [List.getElem?_map] at hx
    cases hz : ns[i]? with
    | none => rw [hz] at hx; cases hx
    | some z =>
      rw [hz] at hx
      cases hx
      have hb := okn z (List.mem_of_getElem? hz)
      refine ⟨rfl, _, rfl, z, rfl, fun _ => ⟨true, rfl, iteT ?_⟩⟩
      refine ⟨_, rfl, _, rfl, _, _, rfl, rfl, _, rfl, iteD (by show -(999 : Int) ≤ z; omega) ⟨_, _, rfl, rfl, ?_⟩⟩
      have e : decide (z ≤ 999) = true := decide_eq_true hb.2
      exact LcP.next (fun _ _ _ _ h _ => h) hD (by simp at hi; omega) p (Same.refl _) (by show V.bl (decide (z ≤ 999)) = .bl true; rw [e])
  obtain ⟨s3, hl3⟩ := LcP.map (f := fun _ => .bl true) p fun _ _ _ h => h
  refine ⟨D, (List.range (ns.map V.int).length).map fun _ => true, rfl, SqL.of (by rw [List.map_map]; exact hl3), true, ?_, iteF ?_⟩
  · have : ((List.range (ns.map V.int).length).map fun _ => true).all id = true := by simp
    rw [this]
  obtain ⟨dx, f, pp, l, hm⟩ := hM.same (s12.trans s3)
  refine ⟨_, rfl, m, dx, _, rfl, hm.i, rfl, ?_⟩
  refine ⟨_, rfl, _, rfl, _, rfl, by show 4 ≤ sizeLine; decide, fun t nt => ?_⟩
  have s4 : Same H3 (upd H3 t (.tup [.str "write", u1, u2, .ref n3])) := sameN nt
  have et : upd H3 t (.tup [.str "write", u1, u2, .ref n3]) t = some (.tup [.str "write", u1, u2, .ref n3]) := upd_same
  generalize upd H3 t (.tup [.str "write", u1, u2, .ref n3]) = H4 at s4 et
  have s14 := (s12.trans s3).trans s4
  have hM4 := hM.same s14
  refine ⟨_, rfl, m, dx, _, rfl, s4 _ _ hm.i, m, M, rfl, hM4, fun vd hd _ => ?_⟩
  refine ⟨_, rfl, vd, u1, _, sh, rfl, hd, h1.s s14, dealOf_ok ok, okS.ne, by omega, fun H5 s5 _ => ?_⟩
  have s15 := s14.trans s5
  refine ⟨m, M, .ref t, .write sh pl ns, _, rfl, hM.same s15, Im.write (s5 _ _ et) (h1.s s15) (h2.s s15) (h3.s s15), by have := ok.n; omega, fun H6 o6 hM6 _ => ?_⟩
  exact q _ ((So.same s15).trans o6) hM6
/-! ### deal_anew: slots self 0, deal 1 -/
def sp_Memory_deal_anew (K : PySem.W.Frag) : Sp := fun vs H Q E => ∃ (m : Addr) (M : MemS) (u : V) (d : Deal), vs = [.ref m, u] ∧ MemAt K H m M ∧ MemOk M ∧ Im H u (dDeal d) ∧ DealOk d ∧
  (d ≠ dealOf M.first M.past → ∀ H', So [m] H H' → MemAt K H' m { M with past := M.past ++ [(.anew d, 0)], later := [] } → Q .non H') ∧ (d = dealOf M.first M.past → Raised K "SameDeal" u [] H E)
theorem ok_Memory_deal_anew (T : Th P K mg base) : GF P w K mg base 4 (He.ma K (He.ga K "Memory") "deal_anew") ["self", "deal"] (sp_Memory_deal_anew K) := by
  refine gf_of T.d_Memory_deal_anew sc_Memory_deal_anew (fun vs H Q E h => by obtain ⟨m, M, u, d, rfl, hM, ok, hu, okd, q, qe⟩ := h; rfl) (fun _ _ _ _ _ _ us hl => match us, hl with | [_, _], _ => rfl) fun cdv A outer s H vs Q E hg hr hsp => ?_
  obtain ⟨m, M, u, d, rfl, hM, ok, hu, okd, q, qe⟩ := hsp
  refine ⟨_, (pss_cons (ps_expr (pe_fn T.g_check_deal (ok_check_deal T) hg hr passL (pa_cons (pv 1) pa_nil)))
    (pss_cons (ps_if (pt_cmpR (op_eqD hr.units) (pv 1) (pe_prp T.cl_Memory T.p_deal (ok_Memory_deal T) hg hr (pv 0) (by rfl)) (nomark _)) (pss_one (ps_err T T.e_SameDeal T.g_SameDeal hg hr (pa_cons (pv 1) pa_nil))) pss_nil)
    (pss_one (ps_expr (pe_mt T.cl_Memory T.m_Memory_put (ok_Memory_put T) hg hr passL (pv 0) (pa_cons (pe_tup (pa_cons (pe_gs T.c_ANEW) (pa_cons (pv 1) pa_nil))) (pa_cons pe_int pa_nil))))))), ?_⟩
  refine ⟨_, rfl, u, d, rfl, hu, okd, fun H1 s1 _ => ?_⟩
  obtain ⟨dx, f, pp, l, hm⟩ := hM.same s1
  refine ⟨_, rfl, _, rfl, m, dx, _, rfl, hm.i, m, M, rfl, ⟨dx, f, pp, l, hm⟩, fun vd hd _ => ?_⟩
  refine ⟨_, _, (hu.s s1).d, hd.d, shp (nb_deal _) (by have := dep_deal d; omega), shp (nb_deal _) (by have := dep_deal (dealOf M.first M.past); omega), _, rfl, ?_⟩
  rw [deal_eqv]
  by_cases e : d = dealOf M.first M.past
  · refine iteD e ?_
    obtain ⟨g1, g2, g3⟩ := deal_shown d okd
    refine ⟨_, rfl, u, _, rfl, .dp (hu.s s1).d g2, g1, by have := dep_deal d; omega, Nat.le_trans g3 (by decide), fun dd nd => ?_⟩
    exact qe e dd _ ((So.same s1).trans (.new nd)) upd_same
  · refine iteDF e ?_
    refine ⟨_, rfl, m, dx, _, rfl, hm.i, rfl, ?_⟩
    refine ⟨_, rfl, by show 2 ≤ sizeLine; decide, fun t nt => ?_⟩
    have s2 : Same H1 (upd H1 t (.tup [.str "anew", u])) := sameN nt
    have et : upd H1 t (.tup [.str "anew", u]) t = some (.tup [.str "anew", u]) := upd_same
    generalize upd H1 t (.tup [.str "anew", u]) = H2 at s2 et
    refine ⟨m, M, .ref t, .anew d, 0, rfl, hM.same (s1.trans s2), Im.anew et (hu.s (s1.trans s2)), by have := ok.n; omega, fun H6 o6 hM6 _ => ?_⟩
    exact q e _ ((So.same (s1.trans s2)).trans o6) hM6
end
end Bp

namespace Bp
open PySem PySem.Spec PyProof.Rows L2
theorem getLast_at {α : Type} {l : List α} {e : α} {r : List α} (h : l = r ++ [e]) : l[l.length - 1]? = some e := by
  rw [h]
  simp
theorem cut_m1 (xs : List V) : cutV xs none (some (-1)) = xs.take (xs.length - 1) := by
  unfold cutV
  have e : HT.sIx xs.length xs.length (some (-1)) = xs.length - 1 := by
    show (if (-1 : Int) < 0 then ((-1 : Int) + (xs.length : Int)).toNat else min (-1 : Int).toNat xs.length) = _
    rw [if_pos (by decide)]
    omega
  rw [e, show HT.sIx xs.length 0 none = 0 from rfl]
  rfl
theorem not_whole (n : Nat) (h : 0 < n) : ¬ (HT.sIx n 0 none = 0 ∧ HT.sIx n n (some (-1)) = n) := by
  rintro ⟨_, z⟩
  have e : HT.sIx n n (some (-1)) = n - 1 := by
    show (if (-1 : Int) < 0 then ((-1 : Int) + (n : Int)).toNat else min (-1 : Int).toNat n) = _
    rw [if_pos (by decide)]
    omega
  omega
theorem snoc_of {α : Type} {l : List α} (h : l ≠ []) : ∃ r e, l = r ++ [e] := ⟨l.dropLast, l.getLast h, (List.dropLast_concat_getLast h).symm⟩
theorem atI_m1 {xs : List V} {v : V} (h : xs[xs.length - 1]? = some v) (hp : 0 < xs.length) : atI xs (-1) = some v := by
  obtain ⟨r, u, rfl⟩ := snoc_of (l := xs) fun z => by rw [z] at hp; cases hp
  have e : u = v := by simpa using h
  rw [e]
  exact atI_last r v
/-- a list of entries in a tuple, its last item moved behind another -/
theorem Pst.split {H : Hp} {v : V} {r : List Entry} {e : Entry} {a : Addr} {xs : List V} (S : Pst H v (r ++ [e]) a xs) : ∃ x, xs[xs.length - 1]? = some x ∧ Im H x (dEntry e) ∧ 0 < xs.length ∧ ImAll H (xs.take (xs.length - 1)) (r.map dEntry) := by
  have hn := S.n
  have hl : (r ++ [e]).length = r.length + 1 := by simp
  have h0 : xs[xs.length - 1]? = some xs[xs.length - 1] := List.getElem?_eq_getElem (by omega)
  obtain ⟨e', h1, h2⟩ := S.i _ _ h0
  have e1 : xs.length - 1 = r.length := by omega
  rw [e1] at h1
  have : e' = e := by simpa using h1.symm
  subst this
  refine ⟨_, h0, h2, by omega, ImAll.of_at (by simp; omega) fun i v d q1 q2 => ?_⟩
  rw [List.getElem?_take] at q1
  split at q1
  · rename_i hi
    obtain ⟨e2, g1, g2⟩ := S.i i v q1
    rw [List.getElem?_append_left (by omega)] at g1
    rw [List.getElem?_map, g1] at q2
    cases q2
    exact g2
  · cases q1
/-! ### blocks -/
def BlkF (p l a w : V) : List (Str × V) := [("past_then", p), ("later_then", l), ("around", a), ("word", w)]
theorem putB_w (y p l a w : V) : putF "word" y (BlkF p l a w) = BlkF p l a y := by
  unfold BlkF
  rw [putF, if_neg (by decide), putF, if_neg (by decide), putF, if_neg (by decide), putF, if_pos rfl]
theorem lenB (p l a w : V) : (BlkF p l a w).length < 1000 := by show 4 < 1000; decide
section
variable {P : Program} {w : World} {K : PySem.W.Frag} {mg : Str → Option Value} {base : Heap}
/-! ### undo, redo -/
def sp_Memory_undo (K : PySem.W.Frag) : Sp := fun vs H Q E => ∃ (m : Addr) (M : MemS), vs = [.ref m] ∧ MemAt K H m M ∧ M.past.length + M.later.length ≤ 5000 ∧
  (∀ r e, M.past = r ++ [e] → ∀ H', So [m] H H' → MemAt K H' m { M with past := r, later := M.later ++ [e] } → Q .non H') ∧ (M.past = [] → Raised K "NothingToUndo" .non [] H E)
theorem ok_Memory_undo (T : Th P K mg base) : GF P w K mg base 4 (He.ma K (He.ga K "Memory") "undo") ["self"] (sp_Memory_undo K) := by
  refine gf_of T.d_Memory_undo sc_Memory_undo (fun vs H Q E h => by obtain ⟨m, M, rfl, ⟨dx, f, p, l, h⟩, len, q, qe⟩ := h; rfl) (fun _ _ _ _ _ _ us hl => match us, hl with | [_], _ => rfl) fun cdv A outer s H vs Q E hg hr hsp => ?_
  obtain ⟨m, M, rfl, ⟨dx, f, p, l, h⟩, len, q, qe⟩ := hsp
  refine ⟨_, (pss_cons (ps_if (pt_cmpR (op_eqD hr.units) (pe_fld (pv 0) rfl) (pe_tup pa_nil) (nomark _)) (pss_one (ps_err T T.e_NothingToUndo T.g_NothingToUndo hg hr (pa_cons pe_non pa_nil))) pss_nil)
    (pss_cons (ps_fld (pv 0) (pe_tup (StX.pa_star (pe_fld (pv 0) rfl) (pa_cons (pe_ix ix_tup (pe_fld (pv 0) rfl) (pe_un un_neg pe_int) (fun _ _ => rfl)) pa_nil))) rfl)
    (pss_one (ps_fld (pv 0) (pe_slice sl_tup (pe_fld (pv 0) rfl) po_none (po_some (pe_un un_neg pe_int))) rfl)))), ?_⟩
  obtain ⟨a, xs, S⟩ := h.p.pastI
  refine ⟨_, rfl, m, _, dx, _, _, rfl, h.i, T.cl_Memory, T.n_own_past, rfl, ?_⟩
  refine ⟨Nat.zero_le _, fun p0 np0 => ?_⟩
  have s1 : Same H (upd H p0 (.tup [])) := sameN np0
  have ep0 : upd H p0 (.tup []) p0 = some (.tup []) := upd_same
  generalize upd H p0 (.tup []) = H1 at s1 ep0
  have h1 := h.ks s1
  refine ⟨_, _, h1.p.d, .tup (SqT.of ep0) .nil, shp (nb_past _) (by have := dep_past M.past; omega), shp (by simp only [nb, nbAll]) (by simp [PyData.depth, PyData.depthAll]), _, rfl, ?_⟩
  rw [past_nil]
  by_cases hp : M.past = []
  · refine iteD hp ⟨.non, _, rfl, .dp .non rfl, rfl, by decide, by decide +kernel, fun dd nd => ?_⟩
    exact qe hp dd _ ((So.same s1).trans (.new nd)) upd_same
  · refine iteDF hp ?_
    obtain ⟨r, e, hre⟩ := snoc_of hp
    obtain ⟨b, ys, S2⟩ := h1.l.pastI
    obtain ⟨a1, xs1, S1⟩ := h1.p.pastI
    rw [hre] at S1
    obtain ⟨x, hx, hxe, hpos, htk⟩ := S1.split
    have e1 := S1.e
    have e2 := S2.e
    subst e1 e2
    have hn1 := S1.n
    have hn2 := S2.n
    have hlen : (r ++ [e]).length = M.past.length := by rw [hre]
    refine ⟨_, rfl, m, _, dx, _, _, rfl, h1.i, T.cl_Memory, T.n_own_later, rfl, b, ys, rfl, .inl (SqT.of S2.t), ?_⟩
    refine ⟨_, rfl, m, _, dx, _, _, rfl, h1.i, T.cl_Memory, T.n_own_past, rfl, 1, rfl, a1, xs1, -1, x, rfl, rfl, SqT.of S1.t, atI_m1 hx hpos, ?_⟩
    refine ⟨by show (ys ++ [x]).length ≤ sizeLine; rw [List.length_append]; exact Nat.le_trans (show _ ≤ 5001 by show ys.length + 1 ≤ 5001; omega) (by decide), fun l2 nl2 => ?_⟩
    have s2 : Same H1 (upd H1 l2 (.tup (ys ++ [x]))) := sameN nl2
    have el2 : upd H1 l2 (.tup (ys ++ [x])) l2 = some (.tup (ys ++ [x])) := upd_same
    generalize upd H1 l2 (.tup (ys ++ [x])) = H2 at s2 el2
    have h2 := h1.ks s2
    refine ⟨_, rfl, m, _, dx, _, rfl, h2.i, T.cl_Memory, T.n_own_later, lenM _ _ _ _, ?_⟩
    rw [putF_l]
    have k3 := kp_ins (C' := Memo K) (dx' := dx) (fs' := MemF f (.ref a1) (.ref l2) M.blk) h2.i
    have o3 : So [m] H2 (upd H2 m (.ins (Memo K) dx (MemF f (.ref a1) (.ref l2) M.blk))) := .upd (by simp)
    have e3 : upd H2 m (.ins (Memo K) dx (MemF f (.ref a1) (.ref l2) M.blk)) m = some (.ins (Memo K) dx (MemF f (.ref a1) (.ref l2) M.blk)) := upd_same
    generalize upd H2 m (.ins (Memo K) dx (MemF f (.ref a1) (.ref l2) M.blk)) = H3 at k3 o3 e3
    refine ⟨_, rfl, m, _, dx, _, _, rfl, e3, T.cl_Memory, T.n_own_past, rfl, 1, rfl, _, rfl, a1, xs1, rfl, SqT.of (((Kp.of s2).trans k3).tup _ _ S1.t), not_whole _ hpos, fun p2 np2 => ?_⟩
    rw [cut_m1]
    have s4 : Same H3 (upd H3 p2 (.tup (xs1.take (xs1.length - 1)))) := sameN np2
    have ep2 : upd H3 p2 (.tup (xs1.take (xs1.length - 1))) p2 = some (.tup (xs1.take (xs1.length - 1))) := upd_same
    generalize upd H3 p2 (.tup (xs1.take (xs1.length - 1))) = H4 at s4 ep2
    refine ⟨_, rfl, m, _, dx, _, rfl, s4 _ _ e3, T.cl_Memory, T.n_own_past, lenM _ _ _ _, ?_⟩
    rw [putF_p]
    have k5 := kp_ins (C' := Memo K) (dx' := dx) (fs' := MemF f (.ref p2) (.ref l2) M.blk) (s4 _ _ e3)
    have o5 : So [m] H4 (upd H4 m (.ins (Memo K) dx (MemF f (.ref p2) (.ref l2) M.blk))) := .upd (by simp)
    have kk := (k3.trans (Kp.of s4)).trans k5
    refine q r e hre _ ((((So.same (s1.trans s2)).trans o3).trans (So.same s4)).trans o5) ⟨dx, f, .ref p2, .ref l2, upd_same, h2.f.k kk, Im.past (k5.tup _ _ ep2) (htk.k ((Kp.of s2).trans kk)), Im.past (kk.tup _ _ el2) ?_⟩
    rw [List.map_append]
    exact (S2.all.k ((Kp.of s2).trans kk)).app (.cons (hxe.k ((Kp.of s2).trans kk)) .nil)
def sp_Memory_redo (K : PySem.W.Frag) : Sp := fun vs H Q E => ∃ (m : Addr) (M : MemS), vs = [.ref m] ∧ MemAt K H m M ∧ M.past.length + M.later.length ≤ 5000 ∧
  (∀ r e, M.later = r ++ [e] → ∀ H', So [m] H H' → MemAt K H' m { M with past := M.past ++ [e], later := r } → Q .non H') ∧ (M.later = [] → Raised K "NothingToRedo" .non [] H E)
theorem ok_Memory_redo (T : Th P K mg base) : GF P w K mg base 4 (He.ma K (He.ga K "Memory") "redo") ["self"] (sp_Memory_redo K) := by
  refine gf_of T.d_Memory_redo sc_Memory_redo (fun vs H Q E h => by obtain ⟨m, M, rfl, ⟨dx, f, p, l, h⟩, len, q, qe⟩ := h; rfl) (fun _ _ _ _ _ _ us hl => match us, hl with | [_], _ => rfl) fun cdv A outer s H vs Q E hg hr hsp => ?_
  obtain ⟨m, M, rfl, ⟨dx, f, p, l, h⟩, len, q, qe⟩ := hsp
  refine ⟨_, (pss_cons (ps_if (pt_cmpR (op_eqD hr.units) (pe_fld (pv 0) rfl) (pe_tup pa_nil) (nomark _)) (pss_one (ps_err T T.e_NothingToRedo T.g_NothingToRedo hg hr (pa_cons pe_non pa_nil))) pss_nil)
    (pss_cons (ps_fld (pv 0) (pe_tup (StX.pa_star (pe_fld (pv 0) rfl) (pa_cons (pe_ix ix_tup (pe_fld (pv 0) rfl) (pe_un un_neg pe_int) (fun _ _ => rfl)) pa_nil))) rfl)
    (pss_one (ps_fld (pv 0) (pe_slice sl_tup (pe_fld (pv 0) rfl) po_none (po_some (pe_un un_neg pe_int))) rfl)))), ?_⟩
  refine ⟨_, rfl, m, _, dx, _, _, rfl, h.i, T.cl_Memory, T.n_own_later, rfl, ?_⟩
  refine ⟨Nat.zero_le _, fun p0 np0 => ?_⟩
  have s1 : Same H (upd H p0 (.tup [])) := sameN np0
  have ep0 : upd H p0 (.tup []) p0 = some (.tup []) := upd_same
  generalize upd H p0 (.tup []) = H1 at s1 ep0
  have h1 := h.ks s1
  refine ⟨_, _, h1.l.d, .tup (SqT.of ep0) .nil, shp (nb_past _) (by have := dep_past M.later; omega), shp (by simp only [nb, nbAll]) (by simp [PyData.depth, PyData.depthAll]), _, rfl, ?_⟩
  rw [past_nil]
  by_cases hp : M.later = []
  · refine iteD hp ⟨.non, _, rfl, .dp .non rfl, rfl, by decide, by decide +kernel, fun dd nd => ?_⟩
    exact qe hp dd _ ((So.same s1).trans (.new nd)) upd_same
  · refine iteDF hp ?_
    obtain ⟨r, e, hre⟩ := snoc_of hp
    obtain ⟨b, ys, S2⟩ := h1.p.pastI
    obtain ⟨a1, xs1, S1⟩ := h1.l.pastI
    rw [hre] at S1
    obtain ⟨x, hx, hxe, hpos, htk⟩ := S1.split
    have e1 := S1.e
    have e2 := S2.e
    subst e1 e2
    have hn1 := S1.n
    have hn2 := S2.n
    have hlen : (r ++ [e]).length = M.later.length := by rw [hre]
    refine ⟨_, rfl, m, _, dx, _, _, rfl, h1.i, T.cl_Memory, T.n_own_past, rfl, b, ys, rfl, .inl (SqT.of S2.t), ?_⟩
    refine ⟨_, rfl, m, _, dx, _, _, rfl, h1.i, T.cl_Memory, T.n_own_later, rfl, 1, rfl, a1, xs1, -1, x, rfl, rfl, SqT.of S1.t, atI_m1 hx hpos, ?_⟩
    refine ⟨by show (ys ++ [x]).length ≤ sizeLine; rw [List.length_append]; exact Nat.le_trans (show _ ≤ 5001 by show ys.length + 1 ≤ 5001; omega) (by decide), fun l2 nl2 => ?_⟩
    have s2 : Same H1 (upd H1 l2 (.tup (ys ++ [x]))) := sameN nl2
    have el2 : upd H1 l2 (.tup (ys ++ [x])) l2 = some (.tup (ys ++ [x])) := upd_same
    generalize upd H1 l2 (.tup (ys ++ [x])) = H2 at s2 el2
    have h2 := h1.ks s2
    refine ⟨_, rfl, m, _, dx, _, rfl, h2.i, T.cl_Memory, T.n_own_past, lenM _ _ _ _, ?_⟩
    rw [putF_p]
    have k3 := kp_ins (C' := Memo K) (dx' := dx) (fs' := MemF f (.ref l2) (.ref a1) M.blk) h2.i
    have o3 : So [m] H2 (upd H2 m (.ins (Memo K) dx (MemF f (.ref l2) (.ref a1) M.blk))) := .upd (by simp)
    have e3 : upd H2 m (.ins (Memo K) dx (MemF f (.ref l2) (.ref a1) M.blk)) m = some (.ins (Memo K) dx (MemF f (.ref l2) (.ref a1) M.blk)) := upd_same
    generalize upd H2 m (.ins (Memo K) dx (MemF f (.ref l2) (.ref a1) M.blk)) = H3 at k3 o3 e3
    refine ⟨_, rfl, m, _, dx, _, _, rfl, e3, T.cl_Memory, T.n_own_later, rfl, 1, rfl, _, rfl, a1, xs1, rfl, SqT.of (((Kp.of s2).trans k3).tup _ _ S1.t), not_whole _ hpos, fun p2 np2 => ?_⟩
    rw [cut_m1]
    have s4 : Same H3 (upd H3 p2 (.tup (xs1.take (xs1.length - 1)))) := sameN np2
    have ep2 : upd H3 p2 (.tup (xs1.take (xs1.length - 1))) p2 = some (.tup (xs1.take (xs1.length - 1))) := upd_same
    generalize upd H3 p2 (.tup (xs1.take (xs1.length - 1))) = H4 at s4 ep2
    refine ⟨_, rfl, m, _, dx, _, rfl, s4 _ _ e3, T.cl_Memory, T.n_own_later, lenM _ _ _ _, ?_⟩
    rw [putF_l]
    have k5 := kp_ins (C' := Memo K) (dx' := dx) (fs' := MemF f (.ref l2) (.ref p2) M.blk) (s4 _ _ e3)
    have o5 : So [m] H4 (upd H4 m (.ins (Memo K) dx (MemF f (.ref l2) (.ref p2) M.blk))) := .upd (by simp)
    have kk := (k3.trans (Kp.of s4)).trans k5
    refine q r e hre _ ((((So.same (s1.trans s2)).trans o3).trans (So.same s4)).trans o5) ⟨dx, f, .ref l2, .ref p2, upd_same, h2.f.k kk, Im.past (kk.tup _ _ el2) ?_, Im.past (k5.tup _ _ ep2) (htk.k ((Kp.of s2).trans kk))⟩
    rw [List.map_append]
    exact (S2.all.k ((Kp.of s2).trans kk)).app (.cons (hxe.k ((Kp.of s2).trans kk)) .nil)
/-! ### keep -/
def sp_Memory_keep (K : PySem.W.Frag) : Sp := fun vs H Q E => ∃ (m dx : Addr) (f p l b0 : V), vs = [.ref m] ∧ H m = some (.ins (Memo K) dx (MemF f p l b0)) ∧ (b0 = .non → Raised K "NoTrial" .non [] H E) ∧
  (b0 ≠ .non → ∃ b bdx p l a w, b0 = .ref b ∧ H b = some (.ins (He.ga K "Block") bdx (BlkF p l a w)) ∧ Q .non (upd H b (.ins (He.ga K "Block") bdx (BlkF p l a (.str "kept")))))
theorem ok_Memory_keep (T : Th P K mg base) : GF P w K mg base 4 (He.ma K (He.ga K "Memory") "keep") ["self"] (sp_Memory_keep K) := by
  refine gf_of T.d_Memory_keep sc_Memory_keep (fun vs H Q E h => by obtain ⟨m, dx, f, p, l, b0, rfl, hm, qe, q⟩ := h; rfl) (fun _ _ _ _ _ _ us hl => match us, hl with | [_], _ => rfl) fun cdv A outer s H vs Q E hg hr hsp => ?_
  obtain ⟨m, dx, f, p, l, b0, rfl, hm, qe, q⟩ := hsp
  refine ⟨_, (pss_cons (ps_if (pt_cmpR op_isN (pe_fld (pv 0) rfl) pe_non (nomark _)) (pss_one (ps_err T T.e_NoTrial T.g_NoTrial hg hr (pa_cons pe_non pa_nil))) pss_nil)
    (pss_one (ps_fld (pe_fld (pv 0) rfl) (pe_gs T.c_KEPT) rfl))), ?_⟩
  refine ⟨_, rfl, m, _, dx, _, _, rfl, hm, T.cl_Memory, T.n_own_block, rfl, rfl, _, rfl, ?_⟩
  by_cases e : b0 = .non
  · refine iteD e ⟨.non, _, rfl, .dp .non rfl, rfl, by decide, by decide +kernel, fun dd nd => ?_⟩
    exact qe e dd _ (.new nd) upd_same
  · refine iteDF e ?_
    obtain ⟨b, bdx, p1, l1, a1, w1, eb, hb, q⟩ := q e
    refine ⟨_, rfl, m, _, dx, _, _, rfl, hm, T.cl_Memory, T.n_own_block, rfl, b, _, bdx, _, eb, hb, T.cl_Block, T.n_word, lenB _ _ _ _, ?_⟩
    rw [putB_w]
    exact q
end
end Bp

namespace Bp
open PySem PySem.Spec PyProof.Rows L2
theorem blkF_of (p l a w : V) : putF "word" w (putF "around" a (putF "later_then" l (putF "past_then" p []))) = BlkF p l a w := by
  have e1 : putF "past_then" p [] = [(("past_then" : Str), p)] := rfl
  have e2 : putF "later_then" l [(("past_then" : Str), p)] = [(("past_then" : Str), p), (("later_then" : Str), l)] := by rw [putF, if_neg (by decide)]; rfl
  have e3 : putF "around" a [(("past_then" : Str), p), (("later_then" : Str), l)] = [(("past_then" : Str), p), (("later_then" : Str), l), (("around" : Str), a)] := by rw [putF, if_neg (by decide), putF, if_neg (by decide)]; rfl
  rw [e1, e2, e3, putF, if_neg (by decide), putF, if_neg (by decide), putF, if_neg (by decide)]
  rfl
abbrev Blk (K : PySem.W.Frag) : Addr := He.ga K "Block"
abbrev Tri (K : PySem.W.Frag) : Addr := He.ga K "Trial"
theorem ne_ins {H : Hp} {a b C dx : Addr} {fs : List (Str × V)} (h : H a = some (.ins C dx fs)) (n : H b = none) : a ≠ b := ne_of_none h n
section
variable {P : Program} {w : World} {K : PySem.W.Frag} {mg : Str → Option Value} {base : Heap}
def sp_Trial_init (K : PySem.W.Frag) : Sp := fun vs H Q _ => ∃ (t tdx m : Addr), vs = [.ref t, .ref m] ∧ H t = some (.ins (Tri K) tdx []) ∧ Q .non (upd H t (.ins (Tri K) tdx [("own_memory", .ref m)]))
theorem ok_Trial_init (T : Th P K mg base) : GF P w K mg base 1 (He.ma K (He.ga K "Trial") "__init__") ["self", "memory"] (sp_Trial_init K) := by
  refine gf_of T.d_Trial_init sc_Trial_init (fun vs H Q E h => by obtain ⟨t, tdx, m, rfl, ht, q⟩ := h; rfl) (fun _ _ _ _ _ _ us hl => match us, hl with | [_, _], _ => rfl) fun cdv A outer s H vs Q E hg hr hsp => ?_
  obtain ⟨t, tdx, m, rfl, ht, q⟩ := hsp
  refine ⟨_, (pss_one (ps_fld (pv 0) (pv 1) rfl)), ?_⟩
  exact ⟨_, rfl, _, rfl, t, _, tdx, _, rfl, ht, T.cl_Trial, T.n_own_memory, ltK len0 (by decide), q⟩
def sp_Memory_trial (K : PySem.W.Frag) : Sp := fun vs H Q _ => ∃ (m : Addr), vs = [.ref m] ∧ ∀ H' t tdx, Same H H' → H t = none → H' t = some (.ins (Tri K) tdx [("own_memory", .ref m)]) → Q (.ref t) H'
theorem ok_Memory_trial (T : Th P K mg base) : GF P w K mg base 3 (He.ma K (He.ga K "Memory") "trial") ["self"] (sp_Memory_trial K) := by
  refine gf_of T.d_Memory_trial sc_Memory_trial (fun vs H Q E h => by obtain ⟨m, rfl, q⟩ := h; rfl) (fun _ _ _ _ _ _ us hl => match us, hl with | [_], _ => rfl) fun cdv A outer s H vs Q E hg hr hsp => ?_
  obtain ⟨m, rfl, q⟩ := hsp
  refine ⟨_, (pss_one (ps_ret (pe_mk T.mk_Trial (ok_Trial_init T) T.g_Trial hg hr passL (pa_cons (pv 0) pa_nil)))), ?_⟩
  refine ⟨_, rfl, fun t tdx nt ntd ne => ⟨t, tdx, m, rfl, upd_same, rfl, fun _ => ?_⟩⟩
  refine q _ t tdx (fun b o e => ?_) nt upd_same
  rw [upd_ne (ne_of_none e nt), upd_ne (ne_of_none e nt), upd_ne (ne_of_none e ntd)]
  exact e
def sp_Block_init (K : PySem.W.Frag) : Sp := fun vs H Q _ => ∃ (b bdx m dx : Addr) (f p l b0 : V), vs = [.ref b, .ref m] ∧ H b = some (.ins (Blk K) bdx []) ∧ H m = some (.ins (Memo K) dx (MemF f p l b0)) ∧ b ≠ m ∧
  ∀ H', So [b] H H' → H' b = some (.ins (Blk K) bdx (BlkF p l b0 .non)) → Q .non H'
theorem ok_Block_init (T : Th P K mg base) : GF P w K mg base 1 (He.ma K (He.ga K "Block") "__init__") ["self", "memory"] (sp_Block_init K) := by
  refine gf_of T.d_Block_init sc_Block_init (fun vs H Q E h => by obtain ⟨b, bdx, m, dx, f, p, l, b0, rfl, hb, hm, ne, q⟩ := h; rfl) (fun _ _ _ _ _ _ us hl => match us, hl with | [_, _], _ => rfl) fun cdv A outer s H vs Q E hg hr hsp => ?_
  obtain ⟨b, bdx, m, dx, f, p, l, b0, rfl, hb, hm, ne, q⟩ := hsp
  refine ⟨_, (pss_cons (ps_fld (pv 0) (pe_fld (pv 1) rfl) rfl)
    (pss_cons (ps_fld (pv 0) (pe_fld (pv 1) rfl) rfl)
    (pss_cons (ps_fld (pv 0) (pe_fld (pv 1) rfl) rfl)
    (pss_one (ps_fld (pv 0) pe_non rfl))))), ?_⟩
  have nm := Ne.symm ne
  refine ⟨_, rfl, m, _, dx, _, _, rfl, hm, T.cl_Memory, T.n_own_past, rfl, _, rfl, b, _, bdx, _, rfl, hb, T.cl_Block, T.n_past_then, ltK len0 (by decide), ?_⟩
  refine ⟨_, rfl, m, _, dx, _, _, rfl, (upd_ne nm).trans hm, T.cl_Memory, T.n_own_later, rfl, _, rfl, b, _, bdx, _, rfl, upd_same, T.cl_Block, T.n_later_then, ltK (lenP len0) (by decide), ?_⟩
  refine ⟨_, rfl, m, _, dx, _, _, rfl, (upd_ne nm).trans ((upd_ne nm).trans hm), T.cl_Memory, T.n_own_block, rfl, _, rfl, b, _, bdx, _, rfl, upd_same, T.cl_Block, T.n_around, ltK (lenP (lenP len0)) (by decide), ?_⟩
  refine ⟨_, rfl, b, _, bdx, _, rfl, upd_same, T.cl_Block, T.n_word, ltK (lenP (lenP (lenP len0))) (by decide), ?_⟩
  rw [blkF_of]
  exact q _ (((So.upd (by simp)).trans (So.upd (by simp))).trans ((So.upd (by simp)).trans (So.upd (by simp)))) upd_same
def sp_Trial_enter (K : PySem.W.Frag) : Sp := fun vs H Q _ => ∃ (t tdx m dx : Addr) (f p l b0 : V), vs = [.ref t] ∧ H t = some (.ins (Tri K) tdx [("own_memory", .ref m)]) ∧ H m = some (.ins (Memo K) dx (MemF f p l b0)) ∧ t ≠ m ∧
  ∀ H' b bdx, So [m] H H' → H b = none → H' b = some (.ins (Blk K) bdx (BlkF p l b0 .non)) → H' m = some (.ins (Memo K) dx (MemF f p l (.ref b))) → Q (.ref m) H'
theorem ok_Trial_enter (T : Th P K mg base) : GF P w K mg base 3 (He.ma K (He.ga K "Trial") "__enter__") ["self"] (sp_Trial_enter K) := by
  refine gf_of T.d_Trial_enter sc_Trial_enter (fun vs H Q E h => by obtain ⟨t, tdx, m, dx, f, p, l, b0, rfl, ht, hm, tm, q⟩ := h; rfl) (fun _ _ _ _ _ _ us hl => match us, hl with | [_], _ => rfl) fun cdv A outer s H vs Q E hg hr hsp => ?_
  obtain ⟨t, tdx, m, dx, f, p, l, b0, rfl, ht, hm, tm, q⟩ := hsp
  refine ⟨_, (pss_cons (ps_fld (pe_fld (pv 0) rfl) (pe_mk T.mk_Block (ok_Block_init T) T.g_Block hg hr passL (pa_cons (pe_fld (pv 0) rfl) pa_nil)) rfl)
    (pss_one (ps_ret (pe_fld (pv 0) rfl)))), ?_⟩
  refine ⟨_, rfl, t, _, tdx, _, _, rfl, ht, T.cl_Trial, T.n_own_memory, rfl, fun b bdx nb ndx ne => ?_⟩
  have mb : m ≠ b := ne_ins hm nb
  have md : m ≠ bdx := ne_ins hm ndx
  have tb : t ≠ b := ne_ins ht nb
  have td : t ≠ bdx := ne_ins ht ndx
  refine ⟨b, bdx, m, dx, f, p, l, b0, rfl, upd_same, by rw [upd_ne mb, upd_ne md]; exact hm, Ne.symm mb, fun H1 o1 hb1 => ⟨rfl, fun _ => ?_⟩⟩
  have hm1 : H1 m = some (.ins (Memo K) dx (MemF f p l b0)) := o1 m _ (by rw [upd_ne mb, upd_ne md]; exact hm) (by simpa using mb)
  have ht1 : H1 t = some (.ins (Tri K) tdx [("own_memory", .ref m)]) := o1 t _ (by rw [upd_ne tb, upd_ne td]; exact ht) (by simpa using tb)
  have o2 : So [m] H H1 := fun c u e n => o1 c u (by rw [upd_ne (ne_of_none e nb), upd_ne (ne_of_none e ndx)]; exact e) (by simpa using ne_of_none e nb)
  refine ⟨_, rfl, t, _, tdx, _, _, rfl, ht1, T.cl_Trial, T.n_own_memory, rfl, m, _, dx, _, rfl, hm1, T.cl_Memory, T.n_own_block, lenM _ _ _ _, ?_⟩
  rw [putF_b]
  refine ⟨_, rfl, t, _, tdx, _, _, rfl, (upd_ne tm).trans ht1, T.cl_Trial, T.n_own_memory, rfl, ?_⟩
  exact q _ b bdx (o2.trans (.upd (by simp))) nb ((upd_ne (Ne.symm mb)).trans hb1) upd_same
/-! ### __exit__ -/
def ExitP (K : PySem.W.Frag) (vs : List V) (H : Hp) (Q : VK) : Prop := ∃ (t tdx m dx b bdx : Addr) (f p l p0 l0 a0 w kind e tb : V), vs = [.ref t, kind, e, tb] ∧ H t = some (.ins (Tri K) tdx [("own_memory", .ref m)]) ∧ H m = some (.ins (Memo K) dx (MemF f p l (.ref b))) ∧
  H b = some (.ins (Blk K) bdx (BlkF p0 l0 a0 w)) ∧ t ≠ m ∧ b ≠ m ∧
  (∀ H', So [m] H H' → H' m = some (.ins (Memo K) dx (if kind ≠ .non ∨ w = .non then MemF f p0 l0 a0 else MemF f p l a0)) → Q .non H')
def sp_Trial_exit (K : PySem.W.Frag) : Sp := fun vs H Q _ => ExitP K vs H Q
theorem ok_Trial_exit (T : Th P K mg base) : GF P w K mg base 1 (He.ma K (He.ga K "Trial") "__exit__") ["self", "kind", "error", "trace"] (sp_Trial_exit K) := by
  refine gf_of T.d_Trial_exit sc_Trial_exit (fun vs H Q E h => by obtain ⟨t, tdx, m, dx, b, bdx, f, p, l, p0, l0, a0, w, kind, e, tb, rfl, ht, hm, hb, tm, bm, q⟩ := h; rfl) (fun _ _ _ _ _ _ us hl => match us, hl with | [_, _, _, _], _ => rfl) fun cdv A outer s H vs Q E hg hr hsp => ?_
  obtain ⟨t, tdx, m, dx, b, bdx, f, p, l, p0, l0, a0, w, kind, e, tb, rfl, ht, hm, hb, tm, bm, q⟩ := hsp
  refine ⟨_, (pss_cons (ps_if (PW.pt (pw_or (pt_cmpR op_notN (pv 1) pe_non (nomark _)) (pw_or1 (pt_cmpR op_isN (pe_fld (pe_fld (pe_fld (pv 0) rfl) rfl) rfl) pe_non (nomark _))))) (pss_cons (ps_fld (pe_fld (pv 0) rfl) (pe_fld (pe_fld (pe_fld (pv 0) rfl) rfl) rfl) rfl)
      (pss_one (ps_fld (pe_fld (pv 0) rfl) (pe_fld (pe_fld (pe_fld (pv 0) rfl) rfl) rfl) rfl))) pss_nil)
    (pss_one (ps_fld (pe_fld (pv 0) rfl) (pe_fld (pe_fld (pe_fld (pv 0) rfl) rfl) rfl) rfl))), ?_⟩
  have fin : ∀ (H1 : Hp) (p1 l1 : V) (σ : L2.St) (q1 : So [m] H H1) (hm1 : H1 m = some (.ins (Memo K) dx (MemF f p1 l1 (.ref b)))), (∀ H', So [m] H H' → H' m = some (.ins (Memo K) dx (MemF f p1 l1 a0)) → Q .non H') →
      ∀ (hs : σ[0]? = some (some (.ref t))), sFld K (tFld K (tVar 0) "own_memory") (tFld K (tFld K (tFld K (tVar 0) "own_memory") "own_block") "around") "own_block" { nx := fun _ H' => Q .non H', rt := Q } σ H1 := by
    intro H1 p1 l1 σ o1 hm1 qq hs
    have ht1 := o1 t _ ht (by simpa using tm)
    have hb1 := o1 b _ hb (by simpa using bm)
    refine ⟨_, hs, t, _, tdx, _, _, rfl, ht1, T.cl_Trial, T.n_own_memory, rfl, m, _, dx, _, _, rfl, hm1, T.cl_Memory, T.n_own_block, rfl, b, _, bdx, _, _, rfl, hb1, T.cl_Block, T.n_around, rfl, ?_⟩
    refine ⟨_, hs, t, _, tdx, _, _, rfl, ht1, T.cl_Trial, T.n_own_memory, rfl, m, _, dx, _, rfl, hm1, T.cl_Memory, T.n_own_block, lenM _ _ _ _, ?_⟩
    rw [putF_b]
    exact qq _ (o1.trans (.upd (by simp))) upd_same
  have back : kind ≠ .non ∨ w = .non → tSeq (sFld K (tFld K (tVar 0) "own_memory") (tFld K (tFld K (tFld K (tVar 0) "own_memory") "own_block") "past_then") "own_past") (sFld K (tFld K (tVar 0) "own_memory") (tFld K (tFld K (tFld K (tVar 0) "own_memory") "own_block") "later_then") "own_later")
      { nx := fun σ H1 => sFld K (tFld K (tVar 0) "own_memory") (tFld K (tFld K (tFld K (tVar 0) "own_memory") "own_block") "around") "own_block" { nx := fun _ H' => Q .non H', rt := Q } σ H1, rt := Q } (start N_Trial_exit [.ref t, kind, e, tb]) H := by
    intro hc
    have ht1 : ∀ fs, upd H m (.ins (Memo K) dx fs) t = some (.ins (Tri K) tdx [("own_memory", .ref m)]) := fun fs => (upd_ne tm).trans ht
    have hb1 : ∀ fs, upd H m (.ins (Memo K) dx fs) b = some (.ins (Blk K) bdx (BlkF p0 l0 a0 w)) := fun fs => (upd_ne bm).trans hb
    refine ⟨_, rfl, t, _, tdx, _, _, rfl, ht, T.cl_Trial, T.n_own_memory, rfl, m, _, dx, _, _, rfl, hm, T.cl_Memory, T.n_own_block, rfl, b, _, bdx, _, _, rfl, hb, T.cl_Block, T.n_past_then, rfl, ?_⟩
    refine ⟨_, rfl, t, _, tdx, _, _, rfl, ht, T.cl_Trial, T.n_own_memory, rfl, m, _, dx, _, rfl, hm, T.cl_Memory, T.n_own_past, lenM _ _ _ _, ?_⟩
    rw [putF_p]
    refine ⟨_, rfl, t, _, tdx, _, _, rfl, ht1 _, T.cl_Trial, T.n_own_memory, rfl, m, _, dx, _, _, rfl, upd_same, T.cl_Memory, T.n_own_block, rfl, b, _, bdx, _, _, rfl, hb1 _, T.cl_Block, T.n_later_then, rfl, ?_⟩
    refine ⟨_, rfl, t, _, tdx, _, _, rfl, ht1 _, T.cl_Trial, T.n_own_memory, rfl, m, _, dx, _, rfl, upd_same, T.cl_Memory, T.n_own_later, lenM _ _ _ _, ?_⟩
    rw [putF_l]
    exact fin _ p0 l0 _ ((So.upd (by simp)).trans (So.upd (by simp))) upd_same (fun H' o h => q H' o (by rw [if_pos hc]; exact h)) rfl
  refine ⟨_, rfl, rfl, _, rfl, ?_⟩
  by_cases hk : kind = .non
  · rw [decide_eq_true hk]
    refine iteF ?_
    refine ⟨_, rfl, t, _, tdx, _, _, rfl, ht, T.cl_Trial, T.n_own_memory, rfl, m, _, dx, _, _, rfl, hm, T.cl_Memory, T.n_own_block, rfl, b, _, bdx, _, _, rfl, hb, T.cl_Block, T.n_word, rfl, rfl, _, rfl, ?_⟩
    by_cases hw : w = .non
    · exact iteD hw (back (.inr hw))
    · exact iteDF hw (fin H p l _ (.refl _ _) hm (fun H' o h => q H' o (by rw [if_neg (by simp [hk, hw])]; exact h)) rfl)
  · rw [decide_eq_false hk]
    exact iteT (back (.inl hk))
/-- .. while an exception is handled -/
theorem ok_Trial_exitX (T : Th P K mg base) : FnX P w K mg base 1 (He.ma K (He.ga K "Trial") "__exit__") (fdOf K (He.ma K (He.ga K "Trial") "__exit__")) ["self", "kind", "error", "trace"] (ExitP K) := by
  obtain ⟨fd, F⟩ := T.d_Trial_exit
  have e0 := funD_fd F
  rw [e0]
  obtain ⟨oc, od, dV, kV, doc, pm, an, cdv, ct, osl, rfl, lk, hcd, _, _⟩ := F.ex
  refine fnX_of lk hcd sc_Trial_exit (fun vs H Q h => by obtain ⟨t, tdx, m, dx, b, bdx, f, p, l, p0, l0, a0, w, kind, e, tb, rfl, ht, hm, hb, tm, bm, q⟩ := h; rfl) fun A outer s H vs Q hsp => ?_
  obtain ⟨t, tdx, m, dx, b, bdx, f, p, l, p0, l0, a0, w, kind, e, tb, rfl, ht, hm, hb, tm, bm, q⟩ := hsp
  refine ⟨_, (pss_cons (ps_if (PW.pt (pw_or (pt_cmpR op_notN (pv 1) pe_non (nomark _)) (pw_or1 (pt_cmpR op_isN (pe_fld (pe_fld (pe_fld (pv 0) rfl) rfl) rfl) pe_non (nomark _))))) (pss_cons (ps_fld (pe_fld (pv 0) rfl) (pe_fld (pe_fld (pe_fld (pv 0) rfl) rfl) rfl) rfl)
      (pss_one (ps_fld (pe_fld (pv 0) rfl) (pe_fld (pe_fld (pe_fld (pv 0) rfl) rfl) rfl) rfl))) pss_nil)
    (pss_one (ps_fld (pe_fld (pv 0) rfl) (pe_fld (pe_fld (pe_fld (pv 0) rfl) rfl) rfl) rfl))), ?_⟩
  have fin : ∀ (H1 : Hp) (p1 l1 : V) (σ : L2.St) (q1 : So [m] H H1) (hm1 : H1 m = some (.ins (Memo K) dx (MemF f p1 l1 (.ref b)))), (∀ H', So [m] H H' → H' m = some (.ins (Memo K) dx (MemF f p1 l1 a0)) → Q .non H') →
      ∀ (hs : σ[0]? = some (some (.ref t))), sFld K (tFld K (tVar 0) "own_memory") (tFld K (tFld K (tFld K (tVar 0) "own_memory") "own_block") "around") "own_block" { nx := fun _ H' => Q .non H', rt := Q } σ H1 := by
    intro H1 p1 l1 σ o1 hm1 qq hs
    have ht1 := o1 t _ ht (by simpa using tm)
    have hb1 := o1 b _ hb (by simpa using bm)
    refine ⟨_, hs, t, _, tdx, _, _, rfl, ht1, T.cl_Trial, T.n_own_memory, rfl, m, _, dx, _, _, rfl, hm1, T.cl_Memory, T.n_own_block, rfl, b, _, bdx, _, _, rfl, hb1, T.cl_Block, T.n_around, rfl, ?_⟩
    refine ⟨_, hs, t, _, tdx, _, _, rfl, ht1, T.cl_Trial, T.n_own_memory, rfl, m, _, dx, _, rfl, hm1, T.cl_Memory, T.n_own_block, lenM _ _ _ _, ?_⟩
    rw [putF_b]
    exact qq _ (o1.trans (.upd (by simp))) upd_same
  have back : kind ≠ .non ∨ w = .non → tSeq (sFld K (tFld K (tVar 0) "own_memory") (tFld K (tFld K (tFld K (tVar 0) "own_memory") "own_block") "past_then") "own_past") (sFld K (tFld K (tVar 0) "own_memory") (tFld K (tFld K (tFld K (tVar 0) "own_memory") "own_block") "later_then") "own_later")
      { nx := fun σ H1 => sFld K (tFld K (tVar 0) "own_memory") (tFld K (tFld K (tFld K (tVar 0) "own_memory") "own_block") "around") "own_block" { nx := fun _ H' => Q .non H', rt := Q } σ H1, rt := Q } (start N_Trial_exit [.ref t, kind, e, tb]) H := by
    intro hc
    have ht1 : ∀ fs, upd H m (.ins (Memo K) dx fs) t = some (.ins (Tri K) tdx [("own_memory", .ref m)]) := fun fs => (upd_ne tm).trans ht
    have hb1 : ∀ fs, upd H m (.ins (Memo K) dx fs) b = some (.ins (Blk K) bdx (BlkF p0 l0 a0 w)) := fun fs => (upd_ne bm).trans hb
    refine ⟨_, rfl, t, _, tdx, _, _, rfl, ht, T.cl_Trial, T.n_own_memory, rfl, m, _, dx, _, _, rfl, hm, T.cl_Memory, T.n_own_block, rfl, b, _, bdx, _, _, rfl, hb, T.cl_Block, T.n_past_then, rfl, ?_⟩
    refine ⟨_, rfl, t, _, tdx, _, _, rfl, ht, T.cl_Trial, T.n_own_memory, rfl, m, _, dx, _, rfl, hm, T.cl_Memory, T.n_own_past, lenM _ _ _ _, ?_⟩
    rw [putF_p]
    refine ⟨_, rfl, t, _, tdx, _, _, rfl, ht1 _, T.cl_Trial, T.n_own_memory, rfl, m, _, dx, _, _, rfl, upd_same, T.cl_Memory, T.n_own_block, rfl, b, _, bdx, _, _, rfl, hb1 _, T.cl_Block, T.n_later_then, rfl, ?_⟩
    refine ⟨_, rfl, t, _, tdx, _, _, rfl, ht1 _, T.cl_Trial, T.n_own_memory, rfl, m, _, dx, _, rfl, upd_same, T.cl_Memory, T.n_own_later, lenM _ _ _ _, ?_⟩
    rw [putF_l]
    exact fin _ p0 l0 _ ((So.upd (by simp)).trans (So.upd (by simp))) upd_same (fun H' o h => q H' o (by rw [if_pos hc]; exact h)) rfl
  refine ⟨_, rfl, rfl, _, rfl, ?_⟩
  by_cases hk : kind = .non
  · rw [decide_eq_true hk]
    refine iteF ?_
    refine ⟨_, rfl, t, _, tdx, _, _, rfl, ht, T.cl_Trial, T.n_own_memory, rfl, m, _, dx, _, _, rfl, hm, T.cl_Memory, T.n_own_block, rfl, b, _, bdx, _, _, rfl, hb, T.cl_Block, T.n_word, rfl, rfl, _, rfl, ?_⟩
    by_cases hw : w = .non
    · exact iteD hw (back (.inr hw))
    · exact iteDF hw (fin H p l _ (.refl _ _) hm (fun H' o h => q H' o (by rw [if_neg (by simp [hk, hw])]; exact h)) rfl)
  · rw [decide_eq_false hk]
    exact iteT (back (.inl hk))
end
end Bp

namespace Bp
open PySem PySem.Spec PyProof.Rows L2

/-! ### functions made while the program runs -/
/-- what must be so that the function may be called: kept by whatever keeps what is tracked as a thing of its own -/
abbrev GP : Type := Heap → Hp → Prop
def Prs (H H' : Hp) : Prop := ∀ b φ, H b = some (.ext φ) → H' b = some (.ext φ)
theorem Prs.refl (H : Hp) : Prs H H := fun _ _ h => h
theorem Prs.trans {H H1 H2 : Hp} (a : Prs H H1) (b : Prs H1 H2) : Prs H H2 := fun c φ h => b c φ (a c φ h)
def GSt (G : GP) : Prop := ∀ (fs : List Addr) (H H' : Hp) (h h' : Heap), Un fs [] H H' h h' → Prs H H' → G h H → G h' H'
theorem GSt.and {G G' : GP} (a : GSt G) (b : GSt G') : GSt (fun h H => G h H ∧ G' h H) := fun fs H H' h h' u p ⟨x, y⟩ => ⟨a fs H H' h h' u p x, b fs H H' h h' u p y⟩
/-- the function at f keeps the promise where G stands -/
structure LiveF (P : Program) (w : World) (K : PySem.W.Frag) (mg : Str → Option Value) (base : Heap) (k : Nat) (f : Addr) (n : Nat) (G : GP) (sp : Sp) : Prop where
  len : ∀ vs H Q E, sp vs H Q E → vs.length = n
  run : ∀ (A : Around) (outer : List Env) (s : Shared) (H : Hp) (us : List Value) (vs : List V) (Q : VK) (E : XK), A.guards = some [] → Room k A → Env0 P w K mg base A outer s H → G s.heap H → Vals vs us → sp vs H Q E →
    codeAny (model P w) A (.call (.ref f) ⟨us, []⟩) (CR (CXX P w) outer P w H s Q E) s
  fn : ∀ (s : Shared) (H : Hp), HOk P w H s.heap → G s.heap H → PySem.W.FnAt f s.heap
section
variable {P : Program} {w : World} {K : PySem.W.Frag} {mg : Str → Option Value} {base : Heap} {j k n : Nat} {f : Addr} {G : GP} {sp sp' : Sp}
theorem LiveF.mono (L : LiveF P w K mg base j f n G sp) (h : j ≤ k) : LiveF P w K mg base k f n G sp := ⟨L.len, fun A outer s H us vs Q E hg hr => L.run A outer s H us vs Q E hg (hr.mono h), L.fn⟩
/-! ### a lambda as it stands -/
/-- the object at f is the lambda F of that body -/
def LmO (f : Addr) (F : NdefX.NF) (body : Expr) : HO := .ext fun h => ∃ (od : Option Addr) (sl : Array (Option Value)) (pm ctv : Value), h.get? f = some (⟨.type "function", od, .func (PySem.W.kla_fn F.name F.qual F.params body F.scope F.cl pm (.ref F.c) ctv), sl⟩ : Obj)
theorem lmO_ne {f : Addr} {F : NdefX.NF} {body : Expr} (ps : Array Value) : LmO f F body ≠ .tbl ps := fun z => by
  unfold LmO at z
  cases z
theorem lmO_at {P : Program} {w : World} {H : Hp} {h : Heap} {f : Addr} {F : NdefX.NF} {body : Expr} (hok : HOk P w H h) (e : H f = some (LmO f F body)) :
    ∃ (od : Option Addr) (sl : Array (Option Value)) (pm ctv : Value), h.get? f = some (⟨.type "function", od, .func (PySem.W.kla_fn F.name F.qual F.params body F.scope F.cl pm (.ref F.c) ctv), sl⟩ : Obj) := by
  obtain ⟨z, _, _⟩ := hok f _ e
  exact z
/-- its function, its code, what it captured -/
def GLam (f : Addr) (F : NdefX.NF) (body : Expr) (fr : List Str) (ws : List (Option V)) : GP := fun h H => H f = some (LmO f F body) ∧ H F.c = some (LamX.CodeO F.c F.qual) ∧ NdefX.CellsAt F.cl fr ws h H
def GDef (f : Addr) (F : NdefX.NF) (fr : List Str) (ws : List (Option V)) : GP := fun h H => H f = some (NdefX.FnO f F) ∧ H F.c = some (LamX.CodeO F.c F.qual) ∧ NdefX.CellsAt F.cl fr ws h H
theorem cells_st {cl : List (Str × Addr)} {fr : List Str} {ws : List (Option V)} {fs : List Addr} {H H' : Hp} {h h' : Heap} (u : Un fs [] H H' h h') (C : NdefX.CellsAt cl fr ws h H) : NdefX.CellsAt cl fr ws h' H' := by
  have kp : ∀ c v, H c = none → h.IsCell c v → h'.IsCell c v := by
    rintro c v n ⟨o, ho, hd⟩
    obtain ⟨sl, z⟩ := u.any ho n (by simp)
    exact ⟨_, z, hd⟩
  refine ⟨C.len, fun y c e => ?_, C.inj, fun i y e => ?_⟩
  · obtain ⟨n, v, z⟩ := C.all y c e
    refine ⟨?_, v, kp c v n z⟩
    obtain ⟨o, ho, _⟩ := z
    exact u.free c o ho n (by simp)
  · obtain ⟨c, hc, hv⟩ := C.has i y e
    refine ⟨c, hc, fun v ev => ?_⟩
    obtain ⟨x, r, z⟩ := hv v ev
    exact ⟨x, r, kp c _ (C.all y c hc).1 z⟩
theorem gst_lam {F : NdefX.NF} {body : Expr} {fr : List Str} {ws : List (Option V)} : GSt (GLam f F body fr ws) := fun fs H H' h h' u p ⟨h1, h2, h3⟩ => ⟨p _ _ h1, p _ _ h2, cells_st u h3⟩
theorem gst_def {F : NdefX.NF} {fr : List Str} {ws : List (Option V)} : GSt (GDef f F fr ws) := fun fs H H' h h' u p ⟨h1, h2, h3⟩ => ⟨p _ _ h1, p _ _ h2, cells_st u h3⟩
/-- a lambda by its body -/
theorem lam_live {N ps fr : List Str} {F : NdefX.NF} {body : Expr} {ws : List (Option V)} {G2 : GP} (S : NdefX.NScope N ps fr F.scope) (hb : ∀ (pm ctv : Value) (us : List Value), us.length = ps.length → bindArgs (PySem.W.kla_fn F.name F.qual F.params body F.scope F.cl pm (.ref F.c) ctv) ⟨us, []⟩ = pure (ps.zip us))
    (len : ∀ vs H Q E, sp vs H Q E → vs.length = ps.length)
    (hbody : ∀ (A : Around) (outer : List Env) (s : Shared) (H : Hp) (vs : List V) (Q : VK) (E : XK), A.guards = some [] → Room k (A.deeper (NdefX.envF F f s.heap.objs.size)) → G2 s.heap H → sp vs H Q E →
      ∃ t, PE (NdefX.ncx (CXX P w) P w K mg base N F f A outer s H E) body t ∧ t (NdefX.startF N vs ws) H Q) :
    LiveF P w K mg base (k + 1) f ps.length (fun h H => GLam f F body fr ws h H ∧ G2 h H) sp := by
  refine ⟨len, fun A outer s H us vs Q E hg hr e0 hG r hsp => ?_, fun s H hok hG => ?_⟩
  · obtain ⟨⟨hf, hc, C⟩, g2⟩ := hG
    have hl := len _ _ _ _ hsp
    have lim : s.heap.NoLimit := e0.mod.nolimit.keeps fun b o e => (e0.bs b o e).1
    obtain ⟨od, sl, pm, ctv, ho⟩ := lmO_at e0.hok hf
    refine PySem.W.kla_callFunE hr.depth ho rfl S.co S.gen rfl (NdefX.codeO_at e0.hok hc) ?_
    rw [hb pm ctv us (by rw [← r.length]; exact hl)]
    refine wpAny_pure (wpAny_newFunctionEnv S.nocell (fun ⟨n, _⟩ hy => S.par n (List.of_mem_zip hy).1) (fun h₁ hns hsb => ⟨lim.fresh _ hsb, ?_⟩) S.kind)
    show codeAny _ _ (.expr body (NdefX.envF F f s.heap.objs.size)) _ _
    have kp : ∀ b o, s.heap.get? b = some o → h₁.get? b = some o := fun b o e => hsb.extBut b o (Nat.ne_of_lt (Heap.lt_size e)) (Heap.get?_push_of_some _ e)
    obtain ⟨t, ht, hq⟩ := hbody A outer s H vs Q E hg (hr.deeper _) g2 hsp
    have I : Inv (NdefX.ncx (CXX P w) P w K mg base N F f A outer s H E) [] (NdefX.startF N vs ws) H { s with heap := h₁, toks := s.toks + (ps.zip us).length } := NdefX.inv_startN S hr.hd e0 hl r C hns kp
    refine PySem.W.kla_codeExpr (wpAny_mono (ht.run [] _ _ H Q I hq) (fun v s' hv => ?_) fun e s' z => z)
    obtain ⟨x, H', J, rv, q⟩ := hv
    exact ⟨x, H', J.os, J.bare, J.base, J.hok, rv, q⟩
  · obtain ⟨od, sl, pm, ctv, ho⟩ := lmO_at hok hG.1.1
    exact ⟨_, _, _, _, ho⟩
/-- a nested def by its body -/
theorem def_live {N ps fr : List Str} {F : NdefX.NF} {ws : List (Option V)} {G2 : GP} (S : NdefX.NScope N ps fr F.scope) (hb : ∀ (doc pm ctv : Value) (us : List Value), us.length = ps.length → bindArgs (F.fd doc pm ctv) ⟨us, []⟩ = pure (ps.zip us)) (len : ∀ vs H Q E, sp vs H Q E → vs.length = ps.length)
    (hbody : ∀ (A : Around) (outer : List Env) (s : Shared) (H : Hp) (vs : List V) (Q : VK) (E : XK), A.guards = some [] → Room k (A.deeper (NdefX.envF F f s.heap.objs.size)) → G2 s.heap H → sp vs H Q E →
      ∃ t, PSs (NdefX.ncx (CXX P w) P w K mg base N F f A outer s H E) F.body t ∧ t { nx := fun _ H' => Q .non H', rt := Q } (NdefX.startF N vs ws) H) :
    LiveF P w K mg base (k + 1) f ps.length (fun h H => GDef f F fr ws h H ∧ G2 h H) sp := by
  refine ⟨len, fun A outer s H us vs Q E hg hr e0 hG r hsp => ?_, fun s H hok hG => ?_⟩
  · obtain ⟨⟨hf, hc, C⟩, g2⟩ := hG
    have hl := len _ _ _ _ hsp
    have lim : s.heap.NoLimit := e0.mod.nolimit.keeps fun b o e => (e0.bs b o e).1
    obtain ⟨od, sl, doc, pm, ctv, ho⟩ := NdefX.fnO_at e0.hok hf
    refine codeAny_call_function hr.depth ho rfl S.co S.gen rfl (NdefX.codeO_at e0.hok hc) ?_
    rw [hb doc pm ctv us (by rw [← r.length]; exact hl)]
    refine wpAny_pure (wpAny_newFunctionEnv S.nocell (fun ⟨n, _⟩ hy => S.par n (List.of_mem_zip hy).1) (fun h₁ hns hsb => ⟨lim.fresh _ hsb, ?_⟩) S.kind)
    show codeAny _ _ (.func F.body (NdefX.envF F f s.heap.objs.size)) _ _
    refine codeAny_func ?_
    have kp : ∀ b o, s.heap.get? b = some o → h₁.get? b = some o := fun b o e => hsb.extBut b o (Nat.ne_of_lt (Heap.lt_size e)) (Heap.get?_push_of_some _ e)
    obtain ⟨t, ht, hq⟩ := hbody A outer s H vs Q E hg (hr.deeper _) g2 hsp
    have I : Inv (NdefX.ncx (CXX P w) P w K mg base N F f A outer s H E) [] (NdefX.startF N vs ws) H { s with heap := h₁, toks := s.toks + (ps.zip us).length } := NdefX.inv_startN S hr.hd e0 hl r C hns kp
    refine wpAny_mono (ht.run [] _ (NdefX.startF N vs ws) H _ I hq) (fun fl s' hs => ?_) fun e s' z => z
    rcases fl with _ | _ | _ | u
    · obtain ⟨σ', H', J, q⟩ := hs
      exact ⟨V.non, H', J.os, J.bare, J.base, J.hok, rfl, q⟩
    · obtain ⟨_, _, _, q⟩ := hs
      exact False.elim q
    · obtain ⟨_, _, _, q⟩ := hs
      exact False.elim q
    · obtain ⟨v, σ', H', J, rv, q⟩ := hs
      exact ⟨v, H', J.os, J.bare, J.base, J.hok, rv, q⟩
  · obtain ⟨od, sl, doc, pm, ctv, ho⟩ := NdefX.fnO_at hok hG.1.1
    exact ⟨_, _, _, _, ho⟩
end
/-! ### x(..), x holds such a function -/
def tLive (i : Nat) (f : Addr) (H0 : Hp) (sp : Sp) (E : L2.St → XK) (t : TA) : TE := fun σ H Q => σ[i]? = some (some (.ref f)) ∧ Prs H0 H ∧ t σ H fun vs H1 => Prs H0 H1 ∧ sp vs H1 (fun v H2 => Kp H1 H2 → Q v H2) (E σ)
section
variable {X : Cx} {j k n i : Nat} {f : Addr} {G : GP} {sp : Sp} {E : L2.St → XK} {x : Str} {p pos : Pos} {e : Expr} {es : List Expr} {t : TA}
theorem run_live {pins : List (Addr × Obj)} {σ : L2.St} {H : Hp} {s : Shared} {Q : VK} {us : List Value} {vs : List V} (L : LiveF X.prog X.w X.K X.mg X.base j f n G sp) (hg : X.A.guards = some []) (hr : Room k X.A) (hk : j ≤ k) (hx : PassesAt (CXX X.prog X.w) X σ (E σ))
    (I : Inv X pins σ H s) (hG : G s.heap H) (r : Vals vs us) (h : sp vs H (fun v H2 => Kp H H2 → Q v H2) (E σ)) : wpAny (model X.prog X.w) X.A (call (.ref f) us) (EP X pins σ Q) X.xe s := by
  refine wpAny_call (codeAny_mono (L.run X.A X.stack s H us vs _ (E σ) hg (hr.mono hk) I.env0 hG r h) ?_)
  intro r s' hq
  rcases r with er | (u | _ | _ | _)
  · exact hx pins H s er s' I hq
  all_goals first
    | exact False.elim hq
    | (obtain ⟨v, H', os, bare, un, hok, rv, q⟩ := hq
       exact I.after ⟨v, H', os, bare, un, hok, rv, q ⟨un.tups, un.frzs⟩⟩)
theorem g_now {pins : List (Addr × Obj)} {σ : L2.St} {H : Hp} {s : Shared} (I : Inv X pins σ H s) (hex : X.ex = []) (st : GSt G) (hG0 : G X.s_0.heap X.H_0) (pr : Prs X.H_0 H) : G s.heap H := by
  have u := I.base
  rw [hex] at u
  exact st _ _ _ _ _ u pr hG0
theorem pe_live (L : LiveF X.prog X.w X.K X.mg X.base j f n G sp) (st : GSt G) (hG0 : G X.s_0.heap X.H_0) (hg : X.A.guards = some []) (hr : Room k X.A) (hx : ∀ σ, PassesAt (CXX X.prog X.w) X σ (E σ)) (hN : X.N[i]? = some x) (hv : Vis X.env.scope x) (ha : PA X (e :: es) t) (hk : j ≤ k := by decide) (hex : X.ex = [] := by rfl)
    (hd : (x == ("__debug__" : Str)) = false := by decide) (hcd : (x == ("__classdict__" : Str)) = false := by decide)
    (he : starEach (e :: es) X.env = (false, eval e X.env) :: starEach es X.env := by rfl) (hpl : (backTo pos (starEach es X.env)).any (·.1) = false := by rfl) :
    PE X (.Call (.Name x p) (e :: es) [] pos) (tLive i f X.H_0 sp E t) := by
  constructor
  intro pins s σ H Q I h
  obtain ⟨hs, pr0, ht⟩ := h
  refine wpAny_Call_Name_kw (thn ((pe_var (pos := p) hN hv hd hcd).run pins s σ H (fun v H1 => v = .ref f ∧ H1 = H) I ⟨.ref f, hs, rfl, rfl⟩) ?_)
  rintro u s1 ⟨v, H1, I1, r1, rfl, rfl⟩
  obtain rfl : u = Value.ref f := r1
  refine PySem.W.callWith_F (first := []) (L.fn _ _ I1.hok (g_now I1 hex st hG0 pr0)) (thn (ha.run pos pins s1 σ H1 _ I1 ht) ?_) he hpl
  rintro us s2 ⟨vs, H2, I2, r, pr, q⟩
  have g2 := g_now I2 hex st hG0 pr
  exact ⟨L.fn _ _ I2.hok g2, run_live L hg hr hk (hx σ) I2 g2 r q⟩
theorem pe_live0 (L : LiveF X.prog X.w X.K X.mg X.base j f n G sp) (st : GSt G) (hG0 : G X.s_0.heap X.H_0) (hg : X.A.guards = some []) (hr : Room k X.A) (hx : ∀ σ, PassesAt (CXX X.prog X.w) X σ (E σ)) (hN : X.N[i]? = some x) (hv : Vis X.env.scope x) (hk : j ≤ k := by decide) (hex : X.ex = [] := by rfl)
    (hd : (x == ("__debug__" : Str)) = false := by decide) (hcd : (x == ("__classdict__" : Str)) = false := by decide) : PE X (.Call (.Name x p) [] [] pos) (tLive i f X.H_0 sp E tNil) := by
  constructor
  intro pins s σ H Q I h
  obtain ⟨hs, pr0, pr, ht⟩ := h
  refine wpAny_Call_Name_kw (thn ((pe_var (pos := p) hN hv hd hcd).run pins s σ H (fun v H1 => v = .ref f ∧ H1 = H) I ⟨.ref f, hs, rfl, rfl⟩) ?_)
  rintro u s1 ⟨v, H1, I1, r1, rfl, rfl⟩
  obtain rfl : u = Value.ref f := r1
  have g1 := g_now I1 hex st hG0 pr0
  refine PySem.W.callWith_F0 (first := []) (L.fn _ _ I1.hok g1) ?_
  show wpAny _ _ (call (.ref f) []) _ _ _
  exact run_live L hg hr hk (hx σ) I1 g1 .nil ht
end
end Bp

namespace Bp
open PySem PySem.Spec PyProof.Rows L2 LamX NdefX

/-! ### a lambda is made, its maker's table tells several names -/
section
variable {X : Cx} {pins : List (Addr × Obj)} {σ : L2.St} {H : Hp} {s : Shared}
theorem inv_lam {F : NdefX.NF} {body : Expr} {o : Obj} {t1 : Nat} {pm ctv : Value} (I : Inv X pins σ H s) (ho : o = { cls := .type "function", data := .func (PySem.W.kla_fn F.name F.qual F.params body F.scope F.cl pm (.ref F.c) ctv) }) :
    Inv X pins σ (upd H s.heap.objs.size (LmO s.heap.objs.size F body)) { s with heap := s.heap.push o, toks := t1 } := by
  subst ho
  refine I.laid (a := s.heap.objs.size) (fun b u e => Heap.get?_push_of_some _ e) (Nat.le_refl _) ?_
  have e : (s.heap.push ({ cls := .type "function", data := .func (PySem.W.kla_fn F.name F.qual F.params body F.scope F.cl pm (.ref F.c) ctv) } : Obj)).get? s.heap.objs.size = some ({ cls := .type "function", data := .func (PySem.W.kla_fn F.name F.qual F.params body F.scope F.cl pm (.ref F.c) ctv) } : Obj) := Heap.get?_push_size _ rfl
  exact ⟨⟨_, _, pm, ctv, e⟩, ⟨_, e⟩, fun h1 h2 ⟨od, sl, p, t, z⟩ st => ⟨od, sl, p, t, st _ z⟩⟩
abbrev lamF (X : Cx) (params : Arguments) (scope : Scope) (c' : Addr) : NdefX.NF := ⟨"<lambda>", X.env.qual ++ "<lambda>", params, [], scope, cloFrom X.env.cells scope.names [], c'⟩
theorem lamn_make {T : List NTab} {nm : Nat → Nat → Str} {c P : Addr} {params : Arguments} {body : Expr} {scope : Scope} {pos : Pos} {E : Value → Shared → Prop} {Q : Value → Shared → Prop} (I : Inv X pins σ H s) (TB : TabB X.base X.mg c P) (hcode : X.env.code = .ref c)
    (hm : (P, nm) ∈ T) (hn : nm pos.line pos.col = X.env.qual ++ "<lambda>") (hu : ∀ p ∈ T, p.1 = P → p.2 = nm) (hT : TabsN T H) (hdef : defaultsOf params X.env = ([], [])) (hfree : ∀ y ∈ scope.names, y.2 = .free → ∃ c, X.env.cells.lookup y.1 = some c)
    (h : ∀ (f c' : Addr) (H1 : Hp) (s1 : Shared), Inv X pins σ H1 s1 → ExtN H H1 → (∀ b, H1 b = Option.none → H b = Option.none) → TabsN T H1 → H f = none → H1 f = some (LmO f (lamF X params scope c') body) → H1 c' = some (CodeO c' (X.env.qual ++ "<lambda>")) → Q (.ref f) s1) :
    wpAny (model X.prog X.w) X.A (eval (.Lambda params body scope pos) X.env) Q E s := by
  obtain ⟨ps, hP, ht, ha⟩ := (show TabN H P nm from hT _ hm)
  refine PySem.W.kla_eval hdef ?_
  have bP : s.heap.BuiltinsAt X.mg P := TB.bm.keeps I.bk
  have hP1 : s.heap.get? P = some { cls := .none, data := .fields ps } := I.hok P _ hP
  cases hc : codeAmong pos ps.toList with
  | none =>
    refine PySem.W.kla_makeFunction (mg := X.mg) (c := c) (P := P) (ps := ps) (closure_ok hfree) I.ok.glob (I.mod.glob.keeps I.bk) hcode (TB.code.keeps I.bk) hP1 ht hc TB.gP bP fun c' ctv h1 tk hx hge hlt hrec htb => ?_
    obtain ⟨c2, oc, vs, t, e2, hoc, hd, hv⟩ := hrec
    cases e2
    have nC : H c' = none := I.hok.fresh hge
    have I1 := inv_table (t' := tk) (more := #[rawInt pos.line, rawInt pos.col, .ref c']) (h' := h1) I hP (fun b o hb e => hx b o hb e) htb hge ⟨oc, vs, t, hoc, hd, hv⟩
    have hE : ExtN H (upd (upd H P (.tbl (ps ++ #[rawInt pos.line, rawInt pos.col, .ref c']))) c' (CodeO c' (X.env.qual ++ "<lambda>"))) := fun b o e n => by
      rw [upd_ne (ne_of_none e nC), upd_ne (fun z => n ps (Option.some.inj (e.symm.trans (by rw [z]; exact hP))))]
      exact e
    have eL : (ps ++ #[rawInt pos.line, rawInt pos.col, .ref c']).toList = ps.toList ++ [rawInt pos.line, rawInt pos.col, .ref c'] := by simp
    have T1 : TabsN T (upd (upd H P (.tbl (ps ++ #[rawInt pos.line, rawInt pos.col, .ref c']))) c' (CodeO c' (X.env.qual ++ "<lambda>"))) := fun p hp => by
      by_cases hb : p.1 = P
      · rw [hu p hp hb, hb]
        refine ⟨_, by rw [upd_ne (ne_of_none hP nC), upd_same], by rw [eL]; exact PySem.TriplesOk_snoc _ _ _ _ ht, fun p2 cv hcv => ?_⟩
        rw [eL] at hcv
        rcases among_app2 _ ht hcv with z | ⟨z, z1, z2⟩
        · obtain ⟨c0, e1, e2⟩ := ha p2 cv z
          exact ⟨c0, e1, hE _ _ e2 codeO_ne⟩
        · exact ⟨c', z, by rw [← z1, ← z2, hn]; exact upd_same⟩
      · obtain ⟨ps2, a1, a2, a3⟩ := hT p hp
        refine ⟨ps2, by rw [upd_ne (ne_of_none a1 nC), upd_ne hb]; exact a1, a2, fun p2 cv hcv => ?_⟩
        obtain ⟨c0, e1, e2⟩ := a3 p2 cv hcv
        exact ⟨c0, e1, hE _ _ e2 codeO_ne⟩
    have nF := I1.hok.fresh (Nat.le_refl _)
    have I2 := inv_lam (F := lamF X params scope c') (body := body) (t1 := tk) (pm := (X.mg "__name__").getD .none) (ctv := ctv) I1 rfl
    refine h h1.objs.size c' _ _ I2 (fun b o e n => ?_) (fun b e => upd_none (upd_none (upd_none e))) (T1.ext fun b o e => ?_) (I.hok.fresh (Nat.le_trans hge (Nat.le_of_lt hlt))) upd_same ?_
    · have e1 := hE b o e n
      exact (upd_ne (ne_of_none e1 nF)).trans e1
    · exact (upd_ne (ne_of_none e nF)).trans e
    · exact (upd_ne (Nat.ne_of_lt hlt)).trans upd_same
  | some cv =>
    obtain ⟨c', e, hco⟩ := ha pos cv hc
    subst e
    rw [hn] at hco
    refine PySem.W.kla_makeFunctionHit (mg := X.mg) (c := c) (P := P) (ps := ps) (closure_ok hfree) I.ok.glob (I.mod.glob.keeps I.bk) hcode (TB.code.keeps I.bk) hP1 ht hc bP fun ctv h1 tk hx hsz => ?_
    have I1 : Inv X pins σ H { s with heap := h1, toks := tk } := I.kept hx
    have nF : H h1.objs.size = none := I1.hok.fresh (Nat.le_refl _)
    have I2 := inv_lam (F := lamF X params scope c') (body := body) (t1 := tk) (pm := (X.mg "__name__").getD .none) (ctv := ctv) I1 rfl
    refine h h1.objs.size c' _ _ I2 (fun b o e n => ?_) (fun b e => upd_none e) (hT.ext fun b o e => ?_) nF upd_same ?_
    · exact (upd_ne (ne_of_none e nF)).trans e
    · exact (upd_ne (ne_of_none e nF)).trans e
    · exact (upd_ne (ne_of_none hco nF)).trans hco
end
/-! ### _law_heard -/
/-- what heard makes of the function's promise -/
def HeardSp (K : PySem.W.Frag) (sp : Sp) (H : Hp) (Q : VK) (E : XK) : Prop := ∀ H0, Same H H0 →
  sp [] H0 (fun v H1 => Kp H0 H1 → ∀ p, H1 p = none → Q (.ref p) (upd H1 p (.tup [.non, v])))
    (fun cls d H1 => ∃ b, PySem.W.exmOne K cls (.ref (He.ga K "BeatError")) = some b ∧ (b = true → ∀ a p, H1 a = none → upd H1 a (ErO a cls d) p = none → Q (.ref p) (upd (upd H1 a (ErO a cls d)) p (.tup [.ref a, .non]))) ∧ (b = false → E cls d H1))
section
variable {P : Program} {w : World} {K : PySem.W.Frag} {mg : Str → Option Value} {base : Heap} {k : Nat} {f : Addr} {G : GP} {sp : Sp}
theorem run_heard (T : Th P K mg base) {A : Around} {outer : List Env} {s : Shared} {H : Hp} {Q : VK} {E : XK} (hg : A.guards = some []) (hr : Room (k + 2) A) (e0 : Env0 P w K mg base A outer s H) (L : LiveF P w K mg base k f 0 G sp) (st : GSt G) (hG : G s.heap H) (h : HeardSp K sp H Q E) :
    codeAny (model P w) A (.call (.ref (He.ga K "_law_heard")) ⟨[.ref f], []⟩) (CR (CXX P w) outer P w H s Q E) s := by
  obtain ⟨fd, F⟩ := T.d_law_heard
  have hb := F.bindsN (ps := ["_law_look_here"]) fun _ _ _ _ _ _ us hl => match us, hl with | [_], _ => rfl
  obtain ⟨oc, od, dV, kV, doc, pm, an, cdv, ct, osl, rfl, lk, hcd, _, _⟩ := F.ex
  have KX : K.In s.heap := e0.mod.kin.keeps fun b o e => (e0.bs b o e).1
  have hbb := hb s [.ref f] KX rfl
  rw [List.append_nil] at hbb
  refine LamX.run_ofS (N := N_law_heard) (ps := ["_law_look_here"]) (us := [.ref f]) (vs := [.ref f]) lk hcd sc_law_heard hr e0 hbb (.cons rfl .nil) rfl fun hr' => ?_
  refine ⟨_, pss_cons (ps_asg (pe_tup (pa_cons pe_non (pa_cons pe_non pa_nil))) (pg_tup rfl (pgs_cons (pg_name (i := 1) sc_law_heard.nd rfl (Or.inl rfl)) (pgs_cons (pg_name (i := 2) sc_law_heard.nd rfl (Or.inl rfl)) pgs_nil))))
    (pss_cons (ps_try_keep (i := 3) (j := 1) (c := .ref (He.ga K "BeatError")) (Wout := fun cls d _ H => E cls d H)
        (tb := fun W => tAsg (tLive 0 f H sp (fun σ => WE W σ) tNil) (gName 2))
        rfl rfl rfl sc_law_heard.nd rfl rfl (by decide) rfl rfl ⟨by rfl, by decide, .inl T.g_BeatError⟩ (takes_of rfl rfl rfl rfl) (by decide) (by decide)
        (fun W pn xe tk _ => pss_one (ps_set (i := 2) sc_law_heard.nd rfl (Or.inl rfl) (pe_live0 (k := k + 1) (i := 0) L st hG hg hr' (fun σ => passAt tk σ) rfl (Or.inl rfl) (Nat.le_succ k)))))
      (pss_one (ps_ret (pe_tup (pa_cons (pv 1) (pa_cons (pv 2) pa_nil)))))), ?_⟩
  refine ⟨by show 2 ≤ sizeLine; decide, fun p0 np0 => ?_⟩
  have s0 : Same H (upd H p0 (.tup [.non, .non])) := sameN np0
  have h0 := h _ s0
  have e0' : upd H p0 (.tup [.non, .non]) p0 = some (.tup [.non, .non]) := upd_same
  generalize upd H p0 (.tup [.non, .non]) = H0 at s0 h0 e0'
  have pr : Prs H H0 := fun b φ z => s0 b _ z
  refine ⟨p0, _, rfl, SqT.of e0', rfl, _, _, rfl, _, _, rfl, rfl, ?_⟩
  refine ⟨rfl, pr, pr, ?_⟩
  have conv : ∀ {Q1 Q2 : VK} {E1 E2 : XK}, Q1 = Q2 → E1 = E2 → sp [] H0 Q1 E1 → sp [] H0 Q2 E2 := fun a b z => by rw [← a, ← b]; exact z
  refine conv ?_ ?_ h0
  · funext v H1
    apply propext
    constructor
    · exact fun z kp => ⟨_, rfl, _, rfl, by show 2 ≤ sizeLine; decide, z kp⟩
    · intro z kp
      obtain ⟨w1, h1, w2, h2, _, z⟩ := z kp
      cases (show some (some V.non) = some (some w1) from h1)
      cases (show some (some v) = some (some w2) from h2)
      exact z
  · funext cls d H1
    apply propext
    constructor
    · rintro ⟨b, e1, e2, e3⟩
      exact ⟨b, e1, fun hb a na => ⟨_, rfl, _, rfl, by show 2 ≤ sizeLine; decide, fun p np => e2 hb a p na np⟩, e3⟩
    · rintro ⟨b, e1, e2, e3⟩
      refine ⟨b, e1, fun hb a p na np => ?_, e3⟩
      obtain ⟨w1, h1, w2, h2, _, z⟩ := e2 hb a na
      cases (show some (some (V.ref a)) = some (some w1) from h1)
      cases (show some (some V.non) = some (some w2) from h2)
      exact z p np
end
end Bp

namespace Bp
open PySem PySem.Spec PyProof.Rows L2 LamX NdefX
/-! ### the tables -/
/-- the names of the code objects that _law_block makes, by their places -/
def nmBlk (line : Nat) (l0 : Nat) : Str := if line = l0 then "_law_block.<locals>._law_look" else "_law_block.<locals>.<lambda>"
def blkLine : Nat := match defBody s_law_block with
  | _ :: _ :: _ :: .FunctionDef _ _ _ _ _ _ _ _ _ p :: _ => p.line
  | _ => 0
abbrev tbA (K : PySem.W.Frag) (x : Str) : Addr := (He.cT K (x, none)).2
def tabs (K : PySem.W.Frag) : List NTab := [(tbA K "_law_do", fun _ _ => "_law_do.<locals>.<lambda>"), (tbA K "_law_gone", fun _ _ => "_law_gone.<locals>.<lambda>"), (tbA K "_law_is_outside", fun _ _ => "_law_is_outside.<locals>.<lambda>"),
  (tbA K "_law_block", fun l _ => nmBlk l blkLine), (tbA K "_law_right", fun _ _ => "_law_right.<locals>.<lambda>")]
abbrev Tb (K : PySem.W.Frag) (H : Hp) : Prop := TabsN (tabs K) H
theorem Th.tab {P : Program} {K : PySem.W.Frag} {mg : Str → Option Value} {base : Heap} (T : Th P K mg base) {p : He.Defn} (h : p ∈ tfs) : TabB base mg (He.cT K p).1 (He.cT K p).2 := tabB_of_K T.X (T.hd p h) (T.bm p h) (T.t2 p h)
theorem Th.tu {P : Program} {K : PySem.W.Frag} {mg : Str → Option Value} {base : Heap} (T : Th P K mg base) {q : NTab} (hq : q ∈ tabs K) : ∀ p ∈ tabs K, p.1 = q.1 → p.2 = q.2 := by
  have nd : ((tabs K).map (·.1)).Nodup := T.t1
  intro p hp e
  obtain ⟨i, hi⟩ := List.mem_iff_getElem?.mp hp
  obtain ⟨j, hj⟩ := List.mem_iff_getElem?.mp hq
  have h1 : ((tabs K).map (·.1))[i]? = some p.1 := by rw [List.getElem?_map, hi]; rfl
  have h2 : ((tabs K).map (·.1))[j]? = some p.1 := by rw [List.getElem?_map, hj, e]; rfl
  have ij := nd_ix nd h1 h2
  rw [ij, hj] at hi
  cases hi
  rfl
/-- all that is tracked but tables, and what stands at S, stays; the tables stand -/
structure Fr (K : PySem.W.Frag) (S : List Addr) (H H' : Hp) : Prop where
  e : ∀ b o, H b = some o → b ∉ S → (∀ ps, o ≠ .tbl ps) → H' b = some o
  t : Tb K H → Tb K H'
theorem Fr.refl {K : PySem.W.Frag} {S : List Addr} (H : Hp) : Fr K S H H := ⟨fun _ _ h _ _ => h, id⟩
theorem Fr.trans {K : PySem.W.Frag} {S : List Addr} {H H1 H2 : Hp} (a : Fr K S H H1) (b : Fr K S H1 H2) : Fr K S H H2 := ⟨fun c o h n t => b.e c o (a.e c o h n t) n t, fun h => b.t (a.t h)⟩
theorem Fr.same {K : PySem.W.Frag} {S : List Addr} {H H' : Hp} (s : Same H H') : Fr K S H H' := ⟨fun b o h _ _ => s b o h, fun t => t.ext s⟩
theorem Fr.mono {K : PySem.W.Frag} {S S' : List Addr} {H H' : Hp} (a : Fr K S H H') (h : ∀ b ∈ S, b ∈ S') : Fr K S' H H' := ⟨fun c o e n t => a.e c o e (fun z => n (h c z)) t, a.t⟩
/-- of a plain kind: no table, nothing of its own -/
def Pl (o : HO) : Prop := (∀ ps, o ≠ .tbl ps) ∧ ∀ φ, o ≠ .ext φ
theorem pl_lst {xs : List V} : Pl (.lst xs) := ⟨fun _ z => (by cases z), fun _ z => (by cases z)⟩
theorem pl_ins {C dx : Addr} {fs : List (Str × V)} : Pl (.ins C dx fs) := ⟨fun _ z => (by cases z), fun _ z => (by cases z)⟩
theorem Fr.so {K : PySem.W.Frag} {S : List Addr} {H H' : Hp} (s : So S H H') (p : ∀ b ∈ S, ∀ o, H b = some o → Pl o) : Fr K S H H' := by
  refine ⟨fun b o h n _ => s b o h n, fun t q hq => ?_⟩
  obtain ⟨ps, h1, h2, h3⟩ := t q hq
  have ex : ∀ b φ, H b = some (.ext φ) → H' b = some (.ext φ) := fun b φ e => s b _ e fun hm => (p b hm _ e).2 _ rfl
  refine ⟨ps, s _ _ h1 fun hm => (p _ hm _ h1).1 _ rfl, h2, fun pos cv hc => ?_⟩
  obtain ⟨c, e1, e2⟩ := h3 pos cv hc
  exact ⟨c, e1, ex _ _ e2⟩
theorem Fr.prs {K : PySem.W.Frag} {S : List Addr} {H H' : Hp} (a : Fr K S H H') (p : ∀ b ∈ S, ∀ o, H b = some o → Pl o) : Prs H H' := fun b φ e => a.e b _ e (fun hm => (p b hm _ e).2 _ rfl) fun ps z => by cases z
/-- what is new at the start may be left out -/
theorem Fr.drop {K : PySem.W.Frag} {S S' : List Addr} {H H' : Hp} (a : Fr K S H H') (h : ∀ b ∈ S, b ∈ S' ∨ H b = none) : Fr K S' H H' := ⟨fun b o e n t => a.e b o e (fun hm => (h b hm).elim n fun z => by rw [z] at e; cases e) t, a.t⟩
theorem Fr.made {K : PySem.W.Frag} {S : List Addr} {H H' : Hp} (e : ExtN H H') (t : Tb K H') : Fr K S H H' := ⟨fun b o h _ n => e b o h n, fun _ => t⟩
/-! ### a def whose code object is named -/
theorem gf_ofC {P : Program} {w : World} {K : PySem.W.Frag} {mg : Str → Option Value} {base : Heap} {k : Nat} {N ps : List Str} {sp : Sp} {x qual : Str} {params : Arguments} {body : List Stmt} {scope : Scope}
    (F : ∃ fd, FunD K x qual params body scope [] [] (He.ga K x) fd) (S : FnScope N ps scope) (len : ∀ vs H Q E, sp vs H Q E → vs.length = ps.length)
    (bnd : ∀ (kV doc pm : Value) (an : Option Addr) (cdv ct : Value) (us : List Value), us.length = ps.length → bindArgs (PySem.W.fnOf x qual params body scope .none kV doc pm an cdv ct) ⟨us, []⟩ = pure (ps.zip us))
    (hbody : ∀ (A : Around) (outer : List Env) (s : Shared) (H : Hp) (vs : List V) (Q : VK) (E : XK), A.guards = some [] → Room k (A.deeper (envOfC qual scope s.heap.objs.size (He.ga K x) (.ref (He.cT K (x, none)).1))) → sp vs H Q E →
      ∃ t, PSs (cxOf (CXX P w) P w K mg base N qual scope (He.ga K x) (.ref (He.cT K (x, none)).1) A outer s H E) body t ∧ t { nx := fun _ H' => Q .non H', rt := Q } (start N vs) H) :
    GF P w K mg base (k + 1) (He.ga K x) ps sp := by
  obtain ⟨fd, F⟩ := F
  have e := funD_fd F
  refine ⟨?_, F.kp, by rw [e]; exact F.bindsN bnd⟩
  rw [e]
  obtain ⟨oc, od, dV, kV, doc, pm, an, cdv, ct, osl, rfl, lk, hcd, _, _⟩ := F.ex
  obtain ⟨c, rfl⟩ := He.codeIn_ref hcd
  have ec : He.codeOf K (x, none) = c := He.codeOf_eq lk rfl
  subst ec
  exact fnG_of lk hcd S len fun A outer s H vs Q E hg hr hsp => hbody A outer s H vs Q E hg hr hsp
/-! ### _law_heard(lambda: ..) -/
def tHeardL (K : PySem.W.Frag) (mk : Addr → NdefX.NF) (body : Expr) (js : List Nat) (pre : L2.St → Hp → Prop) (sp : L2.St → Sp) (E : XK) : TE := fun σ H Q => Tb K H ∧ ∀ f c' H1, ExtN H H1 → (∀ b, H1 b = none → H b = none) → Tb K H1 → H f = none → H1 f = some (LmO f (mk c') body) →
  H1 c' = some (CodeO c' (mk c').qual) → pre σ H1 ∧ HeardSp K (sp σ) H1 (fun v H2 => Kp H1 H2 → Q v H2) E
theorem pe_heardL {P : Program} {w : World} {K : PySem.W.Frag} {mg : Str → Option Value} {base : Heap} {X : Cx} {x : Str} {k j : Nat} {fr : List Str} {js : List Nat} {params : Arguments} {body : Expr} {scope : Scope} {lpos pos p : Pos} {nm : Nat → Nat → Str} {pre : L2.St → Hp → Prop} {sp : L2.St → Sp} {E : XK} {G2 : L2.St → GP}
    (T : Th P K mg base) (eX : X.prog = P ∧ X.w = w ∧ X.K = K ∧ X.mg = mg ∧ X.base = base) (hx0 : (x, none) ∈ tfs) (hcode : X.env.code = .ref (He.cT K (x, none)).1) (hmT : (tbA K x, nm) ∈ tabs K) (hn : nm lpos.line lpos.col = X.env.qual ++ "<lambda>") (hdef : defaultsOf params X.env = ([], []))
    (hB : ndefB X.env.scope scope fr = true) (hjs : js.map (fun j => X.N[j]?) = fr.map some)
    (live : ∀ (σ : L2.St) (f c' : Addr), LiveF P w K mg base j f 0 (fun h H => GLam f (lamF X params scope c') body fr (js.map (slotAt σ)) h H ∧ G2 σ h H) (sp σ)) (st : ∀ σ, GSt (G2 σ))
    (hg2 : ∀ (pins : List (Addr × Obj)) (σ : L2.St) (H : Hp) (s : Shared), Inv X pins σ H s → pre σ H → G2 σ s.heap H)
    (hg : X.A.guards = some []) (hr : Room k X.A) (hx : Passes (CXX P w) X E) (hk : j + 2 ≤ k) (gl : Gl X "_law_heard" := by rfl) :
    PE X (.Call (.Name "_law_heard" p) [.Lambda params body scope lpos] [] pos) (tHeardL K (fun c' => lamF X params scope c') body js pre sp E) := by
  obtain ⟨rfl, rfl, rfl, rfl, rfl⟩ := eX
  have hfree := ndef_free hB
  have hfr := ndef_fr hB
  constructor
  intro pins s σ H Q I h
  obtain ⟨hT, h⟩ := h
  obtain ⟨fd, F⟩ := T.d_law_heard
  refine wpAny_Call_Name_kw (ld_glob I gl T.g_law_heard ?_ (by decide))
  refine PySem.W.callWith_K (h₀ := X.base) I.ok.mod.kin F.kp ?_ (by rfl) (by rfl)
  show wpAny _ _ (spliced ((false, eval (.Lambda params body scope lpos) X.env) :: backTo pos (starEach [] X.env))) _ _ s
  have hf : ∀ y ∈ scope.names, y.2 = .free → ∃ c, X.env.cells.lookup y.1 = some c := fun y hy e => (hfree y hy e).elim (fun z => I.ok.has _ (.inl z)) fun z => I.ok.has _ (.inr z)
  refine Calls.spliced_cons (lamn_make I (T.tab hx0) hcode hmT hn (T.tu hmT) hT hdef hf fun f c' H1 s1 I1 eN nn T1 f0 f1 c1 => ?_)
  obtain ⟨hp, hsp⟩ := h f c' H1 eN nn T1 f0 f1 c1
  refine Calls.spliced_nil ⟨I1.kIn, ?_⟩
  show wpAny _ _ (call (.ref (He.ga X.K "_law_heard")) [.ref f]) _ _ _
  have C : CellsAt (lamF X params scope c').cl fr (js.map (slotAt σ)) s1.heap H1 := cells_of I1 (Caps.made I1.ok hfree hfr hjs)
  have run := run_heard T hg (hr.mono hk) I1.env0 (live σ f c') (gst_lam.and (st σ)) ⟨⟨f1, c1, C⟩, hg2 pins σ H1 s1 I1 hp⟩ hsp
  refine wpAny_call (codeAny_mono run fun r s2 hq => ?_)
  cases r with
  | error e => exact hx pins σ H1 s1 e s2 I1 hq
  | ok fl =>
    cases fl with
    | ret u =>
      obtain ⟨v, H', os, bare, un, hok, rv, q⟩ := hq
      exact I1.after ⟨v, H', os, bare, un, hok, rv, q ⟨un.tups, un.frzs⟩⟩
    | next => exact False.elim hq
    | brk => exact False.elim hq
    | cont => exact False.elim hq
end Bp

namespace Bp
open PySem PySem.Spec PyProof.Rows L2 LamX NdefX
/-! ### deeds done -/
def beatsFor (M : MemS) : Deed → Int
  | .anew _ => 0
  | .write sh _ _ => beatsOf (dealOf M.first M.past) sh
def did (M : MemS) (d : Deed) : MemS := { M with past := M.past ++ [(d, beatsFor M d)], later := [] }
def isSame (M : MemS) : Deed → Bool
  | .anew x => decide (x = dealOf M.first M.past)
  | .write _ _ _ => false
/-- an exception goes through a made function as it is -/
theorem passN {P : Program} {w : World} {K : PySem.W.Frag} {mg : Str → Option Value} {base : Heap} {N : List Str} {F : NdefX.NF} {f : Addr} {A : Around} {outer : List Env} {s : Shared} {H : Hp} {E : XK} :
    Passes (CXX P w) (NdefX.ncx (CXX P w) P w K mg base N F f A outer s H E) E := passes_call (takes_of rfl rfl rfl rfl) fun _ _ _ _ h => h
def G0 : GP := fun _ _ => True
theorem gst0 : GSt G0 := fun _ _ _ _ _ _ _ _ => True.intro
theorem nd_str {C : Addr} {H : Hp} {d : Option Addr} {a : Addr} : True := True.intro
theorem ext_kp {H H' : Hp} (e : ExtN H H') : Kp H H' := ⟨fun b xs h => e b _ h fun ps z => (by cases z), fun b o u h => e b _ h fun ps z => (by cases z)⟩
theorem MemAt.k {K : PySem.W.Frag} {H H' : Hp} {m : Addr} {M : MemS} (h : MemAt K H m M) (k : Kp H H') (hm : ∀ C dx fs, H m = some (.ins C dx fs) → H' m = some (.ins C dx fs)) : MemAt K H' m M := by
  obtain ⟨dx, f, p, l, h⟩ := h
  exact ⟨dx, f, p, l, hm _ _ _ h.i, h.f.k k, h.p.k k, h.l.k k⟩
theorem MemAt.pl {K : PySem.W.Frag} {H : Hp} {m : Addr} {M : MemS} (h : MemAt K H m M) : ∀ o, H m = some o → Pl o := by
  obtain ⟨dx, f, p, l, h⟩ := h
  intro o e
  rw [h.i] at e
  cases e
  exact pl_ins
section
variable {P : Program} {w : World} {K : PySem.W.Frag} {mg : Str → Option Value} {base : Heap}
/-! ### _law_do: slots memory 0, deed 1 -/
def sp_law_do (K : PySem.W.Frag) : Sp := fun vs H Q _ => ∃ (m : Addr) (M : MemS) (u : V) (d : Deed), vs = [.ref m, u] ∧ MemAt K H m M ∧ MemOk M ∧ Im H u (dDeed d) ∧ DeedOk d ∧ Tb K H ∧
  (isSame M d = false → ∀ H' r, Fr K [m] H H' → MemAt K H' m (did M d) → H' r = some (.tup [.non, .non]) → Q (.ref r) H') ∧
  (isSame M d = true → ∀ H' r a, Fr K [] H H' → H' r = some (.tup [.ref a, .non]) → Q (.ref r) H')
theorem ok_law_do (T : Th P K mg base) : GF P w K mg base 10 (He.ga K "_law_do") ["_law_memory", "_law_deed"] (sp_law_do K) := by
  refine gf_ofC T.d_law_do sc_law_do (fun vs H Q E h => by obtain ⟨m, M, u, d, rfl, hM, ok, hu, okd, tb, q, qs⟩ := h; rfl) (fun _ _ _ _ _ _ us hl => match us, hl with | [_, _], _ => rfl) fun A outer s H vs Q E hg hr hsp => ?_
  obtain ⟨m, M, u, d, rfl, hM, ok, hu, okd, tb, q, qs⟩ := hsp
  refine ⟨_, (pss_cons (ps_if (pt_cmpR op_eq (pe_ix ix_tup (pv 1) pe_int (fun _ _ => rfl)) pe_str (nomark _)) (pss_one (ps_ret (pe_heardL (k := 9) (j := 5) (x := "_law_do") (fr := ["_law_memory", "_law_deed"]) (js := [0, 1]) (E := E0) (pre := fun _ _ => True) (G2 := fun _ => G0) (sp := fun σ vs H Q E => ∃ m a u, vs = [] ∧ slotAt σ 0 = some (.ref m) ∧ slotAt σ 1 = some (.ref a) ∧ H a = some (.tup [.str "anew", u]) ∧ sp_Memory_deal_anew K [.ref m, u] H Q E) T ⟨rfl, rfl, rfl, rfl, rfl⟩ (by simp [tfs]) rfl (List.mem_cons_self) (by rfl) (by rfl) (by rfl) (by rfl) ?_ (fun _ => gst0) (fun _ _ _ _ _ _ => True.intro) hg hr passL (by decide)))) pss_nil)
    (pss_one (ps_ret (pe_heardL (k := 9) (j := 7) (x := "_law_do") (fr := ["_law_memory", "_law_deed"]) (js := [0, 1]) (E := E0) (pre := fun _ _ => True) (G2 := fun _ => G0) (sp := fun σ vs H Q E => ∃ m a u1 u2 u3, vs = [] ∧ slotAt σ 0 = some (.ref m) ∧ slotAt σ 1 = some (.ref a) ∧ H a = some (.tup [.str "write", u1, u2, u3]) ∧ sp_Memory_write K [.ref m, u1, u2, u3] H Q E) T ⟨rfl, rfl, rfl, rfl, rfl⟩ (by simp [tfs]) rfl (List.mem_cons_self) (by rfl) (by rfl) (by rfl) (by rfl) ?_ (fun _ => gst0) (fun _ _ _ _ _ _ => True.intro) hg hr passL (by decide))))), ?_⟩
  · refine fun σ f c' => lam_live (N := ["_law_memory", "_law_deed"]) (ps := []) (nscope_by (by rfl)) (fun _ _ us hl => match us, hl with | [], _ => rfl) (fun vs H Q E h => by obtain ⟨m, a, u, rfl, _⟩ := h; rfl) fun A outer s H vs Q E hg hr _ hsp => ?_
    obtain ⟨m, a, u, rfl, h0, h1, ha, m', M', u', d', e, hM', okM, hu', okd', q1, q2⟩ := hsp
    cases e
    refine ⟨_, pe_mt T.cl_Memory T.m_Memory_deal_anew (ok_Memory_deal_anew T) hg hr passN (pv 0) (pa_cons (pe_ix ix_tup (pv 1) pe_int (fun _ _ => rfl)) pa_nil), ?_⟩
    obtain ⟨dx, f, p, l, hm⟩ := id hM'
    exact ⟨.ref m, congrArg some h0, m, dx, _, rfl, hm.i, rfl, .ref a, congrArg some h1, a, _, 1, u, rfl, rfl, SqT.of ha, rfl, m, M', u, d', rfl, hM', okM, hu', okd', fun ne H' o h _ => q1 ne H' o h, q2⟩
  · refine fun σ f c' => lam_live (N := ["_law_memory", "_law_deed"]) (ps := []) (nscope_by (by rfl)) (fun _ _ us hl => match us, hl with | [], _ => rfl) (fun vs H Q E h => by obtain ⟨m, a, u1, u2, u3, rfl, _⟩ := h; rfl) fun A outer s H vs Q E hg hr _ hsp => ?_
    obtain ⟨m, a, u1, u2, u3, rfl, h0, h1, ha, m', M', v1, v2, v3, sh, pl, ns, e, hM', okM, g1, g2, g3, okd', q1⟩ := hsp
    cases e
    refine ⟨_, pe_mt T.cl_Memory T.m_Memory_write (ok_Memory_write T) hg hr passL (pv 0) (pa_cons (pe_ix ix_tup (pv 1) pe_int (fun _ _ => rfl)) (pa_cons (pe_ix ix_tup (pv 1) pe_int (fun _ _ => rfl)) (pa_cons (pe_ix ix_tup (pv 1) pe_int (fun _ _ => rfl)) pa_nil))), ?_⟩
    obtain ⟨dx, f, p, l, hm⟩ := id hM'
    exact ⟨.ref m, congrArg some h0, m, dx, _, rfl, hm.i, rfl, .ref a, congrArg some h1, a, _, 1, u1, rfl, rfl, SqT.of ha, rfl, .ref a, congrArg some h1, a, _, 2, u2, rfl, rfl, SqT.of ha, rfl, .ref a, congrArg some h1, a, _, 3, u3, rfl, rfl, SqT.of ha, rfl,
      m, M', u1, u2, u3, sh, pl, ns, rfl, hM', okM, g1, g2, g3, okd', fun H' o h _ => q1 H' o h⟩
  obtain ⟨a, xs, rfl, ha, hw⟩ := hu.deedW
  refine ⟨_, rfl, a, xs, 0, _, rfl, rfl, SqT.of ha, atI_nat hw, rfl, _, rfl, ?_⟩
  cases d with
  | anew x =>
    obtain ⟨a', u, e, ha', hd⟩ := hu.anewI
    cases e
    refine iteD rfl ⟨tb, fun f c' H1 eN nn tb1 f0 f1 c1 => ⟨True.intro, fun H2 s2 => ?_⟩⟩
    have k12 := (ext_kp eN).trans (Kp.of s2)
    have hM2 : MemAt K H2 m M := hM.k k12 fun C dx fs e => s2 _ _ (eN _ _ e fun ps z => by cases z)
    refine ⟨m, a, u, rfl, rfl, rfl, k12.tup _ _ ha', m, M, u, x, rfl, hM2, ok, hd.k k12, okd, fun ne H3 o3 hM3 kp p np => ?_, fun e dd H3 o3 hx3 => ?_⟩
    · intro kp2
      have fr : Fr K [m] H H3 := ((Fr.made eN tb1).trans (Fr.same s2)).trans (Fr.so o3 (by intro b hb o e; rw [List.mem_singleton.mp hb] at e; exact hM2.pl o e))
      have fr4 : Fr K [m] H (upd H3 p (.tup [.non, .non])) := fr.trans (Fr.same (sameN np))
      exact q (decide_eq_false ne) _ p fr4 (hM3.same (sameN np)) upd_same
    · refine ⟨true, T.e_SameDeal.xm, fun _ a2 p na np kp => ?_, fun z => by cases z⟩
      have s4 : Same H3 (upd (upd H3 a2 (ErO a2 (.ref (He.ga K "SameDeal")) (some dd))) p (.tup [.ref a2, .non])) := (sameN na).trans (sameN np)
      have fr : Fr K [] H H3 := ((Fr.made eN tb1).trans (Fr.same s2)).trans (Fr.so o3 (by intro b hb; cases hb))
      exact qs (decide_eq_true e) _ p a2 (fr.trans (Fr.same s4)) upd_same
  | write sh pl ns =>
    obtain ⟨a', u1, u2, u3, e, ha', g1, g2, g3⟩ := hu.writeI
    cases e
    refine iteDF (show ¬ V.str "write" = V.str "anew" by decide) ⟨tb, fun f c' H1 eN nn tb1 f0 f1 c1 => ⟨True.intro, fun H2 s2 => ?_⟩⟩
    have k12 := (ext_kp eN).trans (Kp.of s2)
    have hM2 : MemAt K H2 m M := hM.k k12 fun C dx fs e => s2 _ _ (eN _ _ e fun ps z => by cases z)
    refine ⟨m, a, u1, u2, u3, rfl, rfl, rfl, k12.tup _ _ ha', m, M, u1, u2, u3, sh, pl, ns, rfl, hM2, ok, g1.k k12, g2.k k12, g3.k k12, okd, fun H3 o3 hM3 kp p np => ?_⟩
    intro kp2
    have fr : Fr K [m] H H3 := ((Fr.made eN tb1).trans (Fr.same s2)).trans (Fr.so o3 (by intro b hb o e; rw [List.mem_singleton.mp hb] at e; exact hM2.pl o e))
    exact q rfl _ p (fr.trans (Fr.same (sameN np))) (hM3.same (sameN np)) upd_same
end
end Bp

namespace Bp
open PySem PySem.Spec PyProof.Rows L2
/-! ### lists of any standing, added -/
theorem lstR {X : Cx} {pins : List (Addr × Obj)} {σ : L2.St} {H : Hp} {s : Shared} {l : Addr} {xs : List V} (I : Inv X pins σ H s) (h : Rd H l (.lst xs)) : ∃ (its : List Value) (n : Nat), Vals xs its ∧ s.heap.get? l = some { cls := .type "list", data := .seq its.toArray n } := by
  rcases h with h | ⟨o, h⟩
  · obtain ⟨_, its, n, r, e⟩ := I.hok _ _ h
    exact ⟨its, n, r, e⟩
  · obtain ⟨_, _, its, n, r, e⟩ := I.hok _ _ h
    exact ⟨its, n, r, e⟩
def rCatR : R2 := fun x y H Q => ∃ l b xs zs, x = .ref l ∧ y = .ref b ∧ Rd H l (.lst xs) ∧ Rd H b (.lst zs) ∧ xs.length + zs.length ≤ sizeLine ∧ ∀ p, H p = none → Q (.ref p) (upd H p (.lst (xs ++ zs)))
theorem op_catR {X : Cx} : OpR X (binaryOp .Add) rCatR := by
  intro pins s σ H x y v u Q I rx ry h
  obtain ⟨l, b, xs, zs, rfl, rfl, hH, hB, hz, q⟩ := h
  cases rx
  cases ry
  obtain ⟨its, n, r, e⟩ := lstR I hH
  obtain ⟨its2, n2, r2, e2⟩ := lstR I hB
  have l1 := r.length
  have l2 := r2.length
  refine PySem.P.add_list e e2 ?_ (by rw [List.size_toArray, List.size_toArray]; omega)
  have ea : its.toArray ++ its2.toArray = (its ++ its2).toArray := by simp
  rw [ea]
  exact ⟨.ref _, _, I.lnew (t' := s.toks) (r.append r2) (by rw [List.length_append]; omega), rfl, q _ I.fresh⟩
/-! ### a day as it stands -/
structure DayS where
  first : Deal
  past : List Deed
  later : List Deed
def dayK (v1 v2 v3 : V) : List (Key × V) := [(Sum.inr "first", v1), (Sum.inr "past", v2), (Sum.inr "later", v3)]
theorem ns1 : ¬ Str.ofString "first" = Str.ofString "past" := by decide +kernel
theorem ns2 : ¬ Str.ofString "first" = Str.ofString "later" := by decide +kernel
theorem ns3 : ¬ Str.ofString "past" = Str.ofString "later" := by decide +kernel
theorem day_merge (v1 v2 v3 : V) : mergeK [] (dayK v1 v2 v3) = dayK v1 v2 v3 := by simp [mergeK, dayK, putK, ns1, ns2, ns3]
theorem day_first (v1 v2 v3 : V) : valV (dayK v1 v2 v3) (Sum.inr "first") = some v1 := by simp [dayK, valV]
theorem day_past (v1 v2 v3 : V) : valV (dayK v1 v2 v3) (Sum.inr "past") = some v2 := by simp [dayK, valV, ns1]
theorem day_later (v1 v2 v3 : V) : valV (dayK v1 v2 v3) (Sum.inr "later") = some v3 := by simp [dayK, valV, ns2, ns3]
/-- deeds in a frozen list -/
structure Dds (H : Hp) (v : V) (l : List Deed) (a : Addr) (xs : List V) : Prop where
  e : v = .ref a
  t : Rd H a (.lst xs)
  n : xs.length = l.length
  i : ∀ (i : Nat) x, xs[i]? = some x → ∃ d, l[i]? = some d ∧ Im H x (dDeed d)
theorem Im.ddsI {H : Hp} {v : V} {l : List Deed} (h : Im H v (.list (l.map dDeed))) : ∃ a xs, Dds H v l a xs := by
  obtain ⟨a, o, xs, rfl, ha, hx⟩ := Im.lstI h
  refine ⟨a, xs, rfl, .inr ⟨o, ha⟩, by simpa using hx.len, fun i x e => ?_⟩
  obtain ⟨d, e1, e2⟩ := hx.at e
  rw [List.getElem?_map] at e1
  cases q : l[i]? with
  | none => rw [q] at e1; cases e1
  | some c => rw [q] at e1; cases e1; exact ⟨c, rfl, e2⟩
theorem Dds.all {H : Hp} {v : V} {l : List Deed} {a : Addr} {xs : List V} (S : Dds H v l a xs) : ImAll H xs (l.map dDeed) :=
  ImAll.of_at (by simp [S.n]) fun i v d e1 e2 => by
    obtain ⟨e, h1, h2⟩ := S.i i v e1
    rw [List.getElem?_map, h1] at e2
    cases e2
    exact h2
structure Day (H : Hp) (v : V) (D : DayS) (a : Addr) (v1 v2 v3 : V) : Prop where
  e : v = .ref a
  d : Rd H a (.dK (dayK v1 v2 v3))
  z : ∃ o, H a = some (.frz o (.dK (dayK v1 v2 v3)))
  f : Im H v1 (dDeal D.first)
  p : Im H v2 (.list (D.past.map dDeed))
  l : Im H v3 (.list (D.later.map dDeed))
def DayAt (H : Hp) (v : V) (D : DayS) : Prop := ∃ a v1 v2 v3, Day H v D a v1 v2 v3
theorem Day.k {H H' : Hp} {v : V} {D : DayS} {a : Addr} {v1 v2 v3 : V} (h : Day H v D a v1 v2 v3) (k : Kp H H') : Day H' v D a v1 v2 v3 := by
  obtain ⟨o, z⟩ := h.z
  exact ⟨h.e, .inr ⟨o, k.frz _ _ _ z⟩, ⟨o, k.frz _ _ _ z⟩, h.f.k k, h.p.k k, h.l.k k⟩
theorem DayAt.k {H H' : Hp} {v : V} {D : DayS} (h : DayAt H v D) (k : Kp H H') : DayAt H' v D := by
  obtain ⟨a, v1, v2, v3, h⟩ := h
  exact ⟨a, v1, v2, v3, h.k k⟩
theorem Day.get1 {H : Hp} {v : V} {D : DayS} {a : Addr} {v1 v2 v3 : V} (h : Day H v D a v1 v2 v3) : DGet H a (.str "first") (some v1) := .inl ⟨_, Sum.inr "first", h.d, rfl, (day_first _ _ _).symm⟩
theorem Day.get2 {H : Hp} {v : V} {D : DayS} {a : Addr} {v1 v2 v3 : V} (h : Day H v D a v1 v2 v3) : DGet H a (.str "past") (some v2) := .inl ⟨_, Sum.inr "past", h.d, rfl, (day_past _ _ _).symm⟩
theorem Day.get3 {H : Hp} {v : V} {D : DayS} {a : Addr} {v1 v2 v3 : V} (h : Day H v D a v1 v2 v3) : DGet H a (.str "later") (some v3) := .inl ⟨_, Sum.inr "later", h.d, rfl, (day_later _ _ _).symm⟩
theorem kp_frz {H : Hp} {a : Addr} {o : Obj} {u : HO} (h : H a = some u) (n : (∀ xs, u ≠ .tup xs) ∧ ∀ q z, u ≠ .frz q z) : Kp H (upd H a (.frz o u)) := Kp.upd fun w e => by
  rw [h] at e
  cases e
  exact n
theorem nf_lst {xs : List V} : (∀ ys, HO.lst xs ≠ .tup ys) ∧ ∀ q z, HO.lst xs ≠ .frz q z := ⟨fun ys z => (by cases z), fun q z y => (by cases y)⟩
theorem nf_dK {xs : List (Key × V)} : (∀ ys, HO.dK xs ≠ .tup ys) ∧ ∀ q z, HO.dK xs ≠ .frz q z := ⟨fun ys z => (by cases z), fun q z y => (by cases y)⟩
/-- a new thing frozen at once -/
theorem frz_new {H : Hp} {p : Addr} {u : HO} {o : Obj} (n : H p = none) : Same H (upd (upd H p u) p (.frz o u)) ∧ upd (upd H p u) p (.frz o u) p = some (.frz o u) :=
  ⟨fun b w e => by rw [upd_ne (ne_of_none e n), upd_ne (ne_of_none e n)]; exact e, upd_same⟩
def backD (D : DayS) : DayS := ⟨D.first, D.past.take (D.past.length - 1), D.past.drop (D.past.length - 1) ++ D.later⟩
def againD (D : DayS) : DayS := ⟨D.first, D.past ++ D.later.take 1, D.later.drop 1⟩
theorem cut_m1s (xs : List V) : cutV xs (some (-1)) none = xs.drop (xs.length - 1) := by
  unfold cutV
  have e : HT.sIx xs.length 0 (some (-1)) = xs.length - 1 := by
    show (if (-1 : Int) < 0 then ((-1 : Int) + (xs.length : Int)).toNat else min (-1 : Int).toNat xs.length) = _
    rw [if_pos (by decide)]
    omega
  rw [e, show HT.sIx xs.length xs.length none = xs.length from rfl]
  rw [List.take_of_length_le (by rw [List.length_drop]; omega)]
theorem cut_1 (xs : List V) : cutV xs none (some 1) = xs.take 1 := by
  unfold cutV
  rw [show HT.sIx xs.length 0 none = 0 from rfl, show HT.sIx xs.length xs.length (some 1) = min 1 xs.length from rfl, List.drop_zero, Nat.sub_zero]
  cases xs with
  | nil => rfl
  | cons x r => simp
theorem cut_1s (xs : List V) : cutV xs (some 1) none = xs.drop 1 := by
  unfold cutV
  rw [show HT.sIx xs.length 0 (some 1) = min 1 xs.length from rfl, show HT.sIx xs.length xs.length none = xs.length from rfl]
  cases xs with
  | nil => rfl
  | cons x r => simp
theorem ImAll.drop {H : Hp} {α : Type} {g : α → PyData} : ∀ {xs : List V} {l : List α} (n : Nat), ImAll H xs (l.map g) → ImAll H (xs.drop n) ((l.drop n).map g)
  | _, _, 0, h => h
  | [], [], _ + 1, _ => .nil
  | _ :: xs, _ :: l, n + 1, .cons _ h => ImAll.drop n h
theorem ImAll.take {H : Hp} {α : Type} {g : α → PyData} : ∀ {xs : List V} {l : List α} (n : Nat), ImAll H xs (l.map g) → ImAll H (xs.take n) ((l.take n).map g)
  | _, _, 0, _ => .nil
  | [], [], _ + 1, _ => .nil
  | _ :: xs, _ :: l, n + 1, .cons h1 h => .cons h1 (ImAll.take n h)
section
variable {P : Program} {w : World} {K : PySem.W.Frag} {mg : Str → Option Value} {base : Heap}
/-- a day made of three values -/
theorem day_done {H H2 : Hp} {p : Addr} {v1 v2 v3 : V} {D : DayS} {Q : VK} {o : Obj} (s : Same H H2) (np : H p = none) (f : Im H2 v1 (dDeal D.first)) (h2 : Im H2 v2 (.list (D.past.map dDeed))) (h3 : Im H2 v3 (.list (D.later.map dDeed))) (e : H2 p = some (.dK []))
    (q : ∀ v H', Same H H' → DayAt H' v D → Q v H') : Q (.ref p) (upd (upd H2 p (.dK (mergeK [] (dayK v1 v2 v3)))) p (.frz o (.dK (mergeK [] (dayK v1 v2 v3))))) := by
  rw [day_merge]
  have k1 : Kp H2 (upd H2 p (.dK (dayK v1 v2 v3))) := Kp.upd fun u z => by rw [e] at z; cases z; exact nf_dK
  have k2 : Kp (upd H2 p (.dK (dayK v1 v2 v3))) (upd (upd H2 p (.dK (dayK v1 v2 v3))) p (.frz o (.dK (dayK v1 v2 v3)))) := kp_frz upd_same nf_dK
  have k := k1.trans k2
  refine q _ _ (fun b u z => ?_) ⟨p, v1, v2, v3, rfl, .inr ⟨o, upd_same⟩, ⟨o, upd_same⟩, f.k k, h2.k k, h3.k k⟩
  rw [upd_ne (ne_of_none z np), upd_ne (ne_of_none z np)]
  exact s _ _ z
def sp_law_day (K : PySem.W.Frag) : Sp := fun vs H Q _ => ∃ (u : V) (d : Deal), vs = [u] ∧ Im H u (dDeal d) ∧ ∀ v H', Same H H' → DayAt H' v ⟨d, [], []⟩ → Q v H'
theorem ok_law_day (T : Th P K mg base) : GF P w K mg base 1 (He.ga K "_law_day") ["_law_deal"] (sp_law_day K) := by
  refine gf_of T.d_law_day sc_law_day (fun vs H Q E h => by obtain ⟨u, d, rfl, hu, q⟩ := h; rfl) (fun _ _ _ _ _ _ us hl => match us, hl with | [_], _ => rfl) fun cdv A outer s H vs Q E hg hr hsp => ?_
  obtain ⟨u, d, rfl, hu, q⟩ := hsp
  refine ⟨_, (pss_one (ps_ret (pe_frz (pe_disp (pps_cons pe_str (pv 0) (pps_cons pe_str (pe_frz (pe_lst pa_nil)) (pps_cons pe_str (pe_frz (pe_lst pa_nil)) pps_nil))) (by rfl) (by rfl) (fun z => by cases z) (by decide))))), ?_⟩
  refine fun p np => ⟨_, rfl, Nat.zero_le _, fun p2 np2 => ⟨p2, _, rfl, upd_same, True.intro, fun o2 => ?_⟩⟩
  have s1 : Same H (upd H p (.dK [])) := sameN np
  have e1 : upd H p (.dK []) p = some (.dK []) := upd_same
  generalize upd H p (.dK []) = H1 at s1 e1 np2
  obtain ⟨s2, e2⟩ := frz_new (u := .lst []) (o := o2) np2
  generalize upd (upd H1 p2 (.lst [])) p2 (.frz o2 (.lst [])) = H2 at s2 e2
  refine ⟨Nat.zero_le _, fun p3 np3 => ⟨p3, _, rfl, upd_same, True.intro, fun o3 => ?_⟩⟩
  obtain ⟨s3, e3⟩ := frz_new (u := .lst []) (o := o3) np3
  generalize upd (upd H2 p3 (.lst [])) p3 (.frz o3 (.lst [])) = H3 at s3 e3
  refine ⟨s3 _ _ (s2 _ _ e1), dayK u (.ref p2) (.ref p3), rfl, by show 3 ≤ 15; decide, p, _, rfl, upd_same, True.intro, fun o => ?_⟩
  exact day_done (D := ⟨d, [], []⟩) ((s1.trans s2).trans s3) np (hu.s ((s1.trans s2).trans s3)) (.lst (s3 _ _ e2) .nil) (.lst e3 .nil) (s3 _ _ (s2 _ _ e1)) q
def sp_law_back (K : PySem.W.Frag) : Sp := fun vs H Q _ => ∃ (u : V) (D : DayS), vs = [u] ∧ DayAt H u D ∧ D.past.length + D.later.length ≤ 5000 ∧ ∀ v H', Same H H' → DayAt H' v (backD D) → Q v H'
theorem ok_law_back (T : Th P K mg base) : GF P w K mg base 1 (He.ga K "_law_back") ["_law_day_here"] (sp_law_back K) := by
  refine gf_of T.d_law_back sc_law_back (fun vs H Q E h => by obtain ⟨u, D, rfl, ⟨a, v1, v2, v3, h⟩, len, q⟩ := h; rfl) (fun _ _ _ _ _ _ us hl => match us, hl with | [_], _ => rfl) fun cdv A outer s H vs Q E hg hr hsp => ?_
  obtain ⟨u, D, rfl, ⟨a, v1, v2, v3, h⟩, len, q⟩ := hsp
  refine ⟨_, (pss_one (ps_ret (pe_frz (pe_disp (pps_cons pe_str (pe_dget (hu_of hr) (pv 0) pe_str (fun _ _ => rfl)) (pps_cons pe_str (pe_frz (pe_slice sl_list (pe_dget (hu_of hr) (pv 0) pe_str (fun _ _ => rfl)) po_none (po_some (pe_un un_neg pe_int)))) (pps_cons pe_str (pe_frz (pe_op op_catR (pe_slice sl_list (pe_dget (hu_of hr) (pv 0) pe_str (fun _ _ => rfl)) (po_some (pe_un un_neg pe_int)) po_none) (pe_dget (hu_of hr) (pv 0) pe_str (fun _ _ => rfl)))) pps_nil))) (by rfl) (by rfl) (fun z => by cases z) (by decide))))), ?_⟩
  obtain rfl := h.e
  refine fun p np => ?_
  have s1 : Same H (upd H p (.dK [])) := sameN np
  have e1 : upd H p (.dK []) p = some (.dK []) := upd_same
  generalize upd H p (.dK []) = H1 at s1 e1
  have h1 := h.k (Kp.of s1)
  refine ⟨_, rfl, a, v1, rfl, h1.get1, ?_⟩
  obtain ⟨b, xs, S⟩ := h1.p.ddsI
  have hn := S.n
  refine ⟨_, rfl, a, v2, rfl, h1.get2, 1, rfl, _, rfl, b, xs, S.e, .inl S.t, fun p2 np2 => ⟨p2, _, rfl, upd_same, True.intro, fun o2 => ?_⟩⟩
  rw [cut_m1]
  obtain ⟨s2, e2⟩ := frz_new (u := .lst (xs.take (xs.length - 1))) (o := o2) np2
  generalize upd (upd H1 p2 (.lst (xs.take (xs.length - 1)))) p2 (.frz o2 (.lst (xs.take (xs.length - 1)))) = H2 at s2 e2
  have h2 := h1.k (Kp.of s2)
  refine ⟨_, rfl, a, v2, rfl, h2.get2, 1, rfl, _, rfl, b, xs, S.e, .inl (rd_same S.t s2), fun p3 np3 => ?_⟩
  rw [cut_m1s]
  have s3 : Same H2 (upd H2 p3 (.lst (xs.drop (xs.length - 1)))) := sameN np3
  have e3 : upd H2 p3 (.lst (xs.drop (xs.length - 1))) p3 = some (.lst (xs.drop (xs.length - 1))) := upd_same
  generalize upd H2 p3 (.lst (xs.drop (xs.length - 1))) = H3 at s3 e3
  have h3 := h2.k (Kp.of s3)
  obtain ⟨c, ys, R⟩ := h3.l.ddsI
  have hm := R.n
  refine ⟨_, rfl, a, v3, rfl, h3.get3, p3, c, _, ys, rfl, R.e, .inl e3, R.t, by rw [List.length_drop]; exact Nat.le_trans (show _ ≤ 10000 by omega) (by decide), fun p4 np4 => ⟨p4, _, rfl, upd_same, True.intro, fun o4 => ?_⟩⟩
  obtain ⟨s4, e4⟩ := frz_new (u := .lst (xs.drop (xs.length - 1) ++ ys)) (o := o4) np4
  generalize upd (upd H3 p4 (.lst (xs.drop (xs.length - 1) ++ ys))) p4 (.frz o4 (.lst (xs.drop (xs.length - 1) ++ ys))) = H4 at s4 e4
  have s24 := (s2.trans s3).trans s4
  refine ⟨s24 _ _ e1, dayK v1 (.ref p2) (.ref p4), rfl, by show 3 ≤ 15; decide, p, _, rfl, upd_same, True.intro, fun o => ?_⟩
  refine day_done (D := backD D) (s1.trans s24) np (h1.f.s s24) (.lst ((s3.trans s4) _ _ e2) ?_) (.lst e4 ?_) (s24 _ _ e1) q
  · have z := (S.all.take (xs.length - 1)).s s24
    rw [hn] at z ⊢
    exact z
  · show ImAll H4 _ ((D.past.drop (D.past.length - 1) ++ D.later).map dDeed)
    rw [List.map_append]
    refine ImAll.app ?_ (R.all.s s4)
    have z := (S.all.drop (xs.length - 1)).s s24
    rw [hn] at z ⊢
    exact z
def sp_law_again (K : PySem.W.Frag) : Sp := fun vs H Q _ => ∃ (u : V) (D : DayS), vs = [u] ∧ DayAt H u D ∧ D.past.length + D.later.length ≤ 5000 ∧ ∀ v H', Same H H' → DayAt H' v (againD D) → Q v H'
theorem ok_law_again (T : Th P K mg base) : GF P w K mg base 1 (He.ga K "_law_again") ["_law_day_here"] (sp_law_again K) := by
  refine gf_of T.d_law_again sc_law_again (fun vs H Q E h => by obtain ⟨u, D, rfl, ⟨a, v1, v2, v3, h⟩, len, q⟩ := h; rfl) (fun _ _ _ _ _ _ us hl => match us, hl with | [_], _ => rfl) fun cdv A outer s H vs Q E hg hr hsp => ?_
  obtain ⟨u, D, rfl, ⟨a, v1, v2, v3, h⟩, len, q⟩ := hsp
  refine ⟨_, (pss_one (ps_ret (pe_frz (pe_disp (pps_cons pe_str (pe_dget (hu_of hr) (pv 0) pe_str (fun _ _ => rfl)) (pps_cons pe_str (pe_frz (pe_op op_catR (pe_dget (hu_of hr) (pv 0) pe_str (fun _ _ => rfl)) (pe_slice sl_list (pe_dget (hu_of hr) (pv 0) pe_str (fun _ _ => rfl)) po_none (po_some pe_int)))) (pps_cons pe_str (pe_frz (pe_slice sl_list (pe_dget (hu_of hr) (pv 0) pe_str (fun _ _ => rfl)) (po_some pe_int) po_none)) pps_nil))) (by rfl) (by rfl) (fun z => by cases z) (by decide))))), ?_⟩
  obtain rfl := h.e
  refine fun p np => ?_
  have s1 : Same H (upd H p (.dK [])) := sameN np
  have e1 : upd H p (.dK []) p = some (.dK []) := upd_same
  generalize upd H p (.dK []) = H1 at s1 e1
  have h1 := h.k (Kp.of s1)
  refine ⟨_, rfl, a, v1, rfl, h1.get1, ?_⟩
  obtain ⟨b, xs, S⟩ := h1.p.ddsI
  obtain ⟨c, ys, R⟩ := h1.l.ddsI
  have hn := S.n
  have hm := R.n
  refine ⟨_, rfl, a, v2, rfl, h1.get2, _, rfl, a, v3, rfl, h1.get3, _, rfl, c, ys, R.e, .inl R.t, fun p3 np3 => ?_⟩
  rw [cut_1]
  have s3 : Same H1 (upd H1 p3 (.lst (ys.take 1))) := sameN np3
  have e3 : upd H1 p3 (.lst (ys.take 1)) p3 = some (.lst (ys.take 1)) := upd_same
  generalize upd H1 p3 (.lst (ys.take 1)) = H3 at s3 e3
  have h3 := h1.k (Kp.of s3)
  refine ⟨b, p3, xs, _, S.e, rfl, rd_same S.t s3, .inl e3, by rw [List.length_take]; exact Nat.le_trans (show _ ≤ 10000 by omega) (by decide), fun p4 np4 => ⟨p4, _, rfl, upd_same, True.intro, fun o4 => ?_⟩⟩
  obtain ⟨s4, e4⟩ := frz_new (u := .lst (xs ++ ys.take 1)) (o := o4) np4
  generalize upd (upd H3 p4 (.lst (xs ++ ys.take 1))) p4 (.frz o4 (.lst (xs ++ ys.take 1))) = H4 at s4 e4
  have h4 := h3.k (Kp.of s4)
  refine ⟨_, rfl, a, v3, rfl, h4.get3, _, rfl, c, ys, R.e, .inl (rd_same R.t (s3.trans s4)), fun p5 np5 => ⟨p5, _, rfl, upd_same, True.intro, fun o5 => ?_⟩⟩
  rw [cut_1s]
  obtain ⟨s5, e5⟩ := frz_new (u := .lst (ys.drop 1)) (o := o5) np5
  generalize upd (upd H4 p5 (.lst (ys.drop 1))) p5 (.frz o5 (.lst (ys.drop 1))) = H5 at s5 e5
  have s35 := (s3.trans s4).trans s5
  refine ⟨s35 _ _ e1, dayK v1 (.ref p4) (.ref p5), rfl, by show 3 ≤ 15; decide, p, _, rfl, upd_same, True.intro, fun o => ?_⟩
  refine day_done (D := againD D) (s1.trans s35) np (h1.f.s s35) (.lst (s5 _ _ e4) ?_) (.lst e5 ((R.all.drop 1).s s35)) (s35 _ _ e1) q
  show ImAll H5 _ ((D.past ++ D.later.take 1).map dDeed)
  rw [List.map_append]
  exact (S.all.s s35).app ((R.all.take 1).s s35)
end
end Bp

namespace Bp
open PySem PySem.Spec PyProof.Rows L2 LamX NdefX
/-! ### memory and day together -/
def undoM (M : MemS) : MemS := { M with past := M.past.take (M.past.length - 1), later := M.later ++ M.past.drop (M.past.length - 1) }
def redoM (M : MemS) : MemS := { M with past := M.past ++ M.later.drop (M.later.length - 1), later := M.later.take (M.later.length - 1) }
def beatsD (d : Deal) : Deed → Int
  | .anew _ => 0
  | .write sh _ _ => beatsOf d sh
def wb : Deal → List Entry → Prop
  | _, [] => True
  | d, e :: r => e.2 = beatsD d e.1 ∧ wb (dealStep d e) r
structure Syn (M : MemS) (D : DayS) : Prop where
  f : D.first = M.first
  p : D.past = M.past.map Prod.fst
  l : D.later = (M.later.map Prod.fst).reverse
  w : wb M.first (M.past ++ M.later.reverse)
  ok : MemOk M
theorem Syn.np {M : MemS} {D : DayS} (h : Syn M D) : D.past.length = M.past.length := by rw [h.p, List.length_map]
theorem Syn.nl {M : MemS} {D : DayS} (h : Syn M D) : D.later.length = M.later.length := by rw [h.l, List.length_reverse, List.length_map]
theorem rev_drop {α : Type} (l : List α) : (l.drop (l.length - 1)).reverse = l.drop (l.length - 1) := by
  by_cases h : l = []
  · rw [h]; rfl
  · obtain ⟨r, e, rfl⟩ := snoc_of h
    simp
theorem Syn.undo {M : MemS} {D : DayS} (h : Syn M D) : Syn (undoM M) (backD D) := by
  refine ⟨h.f, ?_, ?_, ?_, ?_⟩
  · show D.past.take (D.past.length - 1) = (M.past.take (M.past.length - 1)).map Prod.fst
    rw [h.np, h.p, List.map_take]
  · show D.past.drop (D.past.length - 1) ++ D.later = ((M.later ++ M.past.drop (M.past.length - 1)).map Prod.fst).reverse
    rw [List.map_append, List.reverse_append, ← h.l, h.np, h.p, ← List.map_drop, ← List.map_reverse, rev_drop]
  · show wb M.first (M.past.take (M.past.length - 1) ++ (M.later ++ M.past.drop (M.past.length - 1)).reverse)
    rw [List.reverse_append, rev_drop, ← List.append_assoc, List.take_append_drop]
    exact h.w
  · refine ⟨h.ok.f, fun e he => h.ok.p e (List.mem_of_mem_take he), fun e he => ?_, ?_⟩
    · rcases List.mem_append.mp he with z | z
      · exact h.ok.l e z
      · exact h.ok.p e (List.mem_of_mem_drop z)
    · have := h.ok.n
      show (M.past.take (M.past.length - 1)).length + (M.later ++ M.past.drop (M.past.length - 1)).length ≤ 5000
      rw [List.length_append, List.length_take, List.length_drop]
      omega
theorem take1_rev {α : Type} (l : List α) : l.reverse.take 1 = l.drop (l.length - 1) := by
  by_cases h : l = []
  · rw [h]; rfl
  · obtain ⟨r, e, rfl⟩ := snoc_of h
    simp
theorem drop1_rev {α : Type} (l : List α) : l.reverse.drop 1 = (l.take (l.length - 1)).reverse := by
  by_cases h : l = []
  · rw [h]; rfl
  · obtain ⟨r, e, rfl⟩ := snoc_of h
    simp
theorem Syn.redo {M : MemS} {D : DayS} (h : Syn M D) : Syn (redoM M) (againD D) := by
  refine ⟨h.f, ?_, ?_, ?_, ?_⟩
  · show D.past ++ D.later.take 1 = (M.past ++ M.later.drop (M.later.length - 1)).map Prod.fst
    rw [List.map_append, h.p, h.l, take1_rev, List.length_map, List.map_drop]
  · show D.later.drop 1 = ((M.later.take (M.later.length - 1)).map Prod.fst).reverse
    rw [h.l, drop1_rev, List.length_map, List.map_take]
  · show wb M.first ((M.past ++ M.later.drop (M.later.length - 1)) ++ (M.later.take (M.later.length - 1)).reverse)
    have e : M.later.reverse = M.later.drop (M.later.length - 1) ++ (M.later.take (M.later.length - 1)).reverse := by
      rw [← take1_rev, ← drop1_rev, List.take_append_drop]
    rw [List.append_assoc, ← e]
    exact h.w
  · refine ⟨h.ok.f, fun e he => ?_, fun e he => h.ok.l e (List.mem_of_mem_take he), ?_⟩
    · rcases List.mem_append.mp he with z | z
      · exact h.ok.p e z
      · exact h.ok.l e (List.mem_of_mem_drop z)
    · have := h.ok.n
      show (M.past ++ M.later.drop (M.later.length - 1)).length + (M.later.take (M.later.length - 1)).length ≤ 5000
      rw [List.length_append, List.length_take, List.length_drop]
      omega
theorem undoM_of {M : MemS} {r : List Entry} {e : Entry} (h : M.past = r ++ [e]) : undoM M = { M with past := r, later := M.later ++ [e] } := by
  unfold undoM
  rw [h]
  simp
theorem redoM_of {M : MemS} {r : List Entry} {e : Entry} (h : M.later = r ++ [e]) : redoM M = { M with past := M.past ++ [e], later := r } := by
  unfold redoM
  rw [h]
  simp
theorem undoM_nil {M : MemS} (h : M.past = []) : undoM M = M := by
  obtain ⟨f, p, l, b⟩ := M
  dsimp only at h
  subst h
  simp [undoM]
theorem redoM_nil {M : MemS} (h : M.later = []) : redoM M = M := by
  obtain ⟨f, p, l, b⟩ := M
  dsimp only at h
  subst h
  simp [redoM]
theorem backD_nil {D : DayS} (h : D.past = []) : backD D = D := by
  obtain ⟨f, p, l⟩ := D
  dsimp only at h
  subst h
  simp [backD]
theorem againD_nil {D : DayS} (h : D.later = []) : againD D = D := by
  obtain ⟨f, p, l⟩ := D
  dsimp only at h
  subst h
  simp [againD]
theorem dds_nil (l : List Deed) : PyData.eqv (.list (l.map dDeed)) (.list []) = decide (l = []) := by
  have n1 : nb (.list (l.map dDeed)) = true := by
    simp only [nb]
    exact nbAll_map _ _ fun d _ => nb_deed d
  cases l with
  | nil => rfl
  | cons e r =>
    rw [decide_eq_false (by simp)]
    exact eqv_no n1 (by simp only [nb, nbAll]) (by simp)
theorem shp_dds (l : List Deed) : SeqAt.shaped (.list (l.map dDeed)) = true := by
  refine shp (by simp only [nb]; exact nbAll_map _ _ fun d _ => nb_deed d) ?_
  have := depthAll_map dDeed 4 l fun d _ => dep_deed d
  simp only [PyData.depth]
  omega
theorem shp_nil : SeqAt.shaped (.list []) = true := shp (by simp only [nb, nbAll]) (by simp [PyData.depth, PyData.depthAll])
section
variable {P : Program} {w : World} {K : PySem.W.Frag} {mg : Str → Option Value} {base : Heap}
/-! ### _law_is_outside: slots memory 0, caught 1 -/
def sp_law_is_outside (K : PySem.W.Frag) : Sp := fun vs H Q _ => ∃ (m : Addr) (M : MemS), vs = [.ref m] ∧ MemAt K H m M ∧ M.blk = .non ∧ Tb K H ∧ ∀ H', Fr K [] H H' → Q (.bl true) H'
theorem ok_law_is_outside (T : Th P K mg base) : GF P w K mg base 8 (He.ga K "_law_is_outside") ["_law_memory"] (sp_law_is_outside K) := by
  refine gf_ofC T.d_law_is_outside sc_law_is_outside (fun vs H Q E h => by obtain ⟨m, M, rfl, hM, nb, tb, q⟩ := h; rfl) (fun _ _ _ _ _ _ us hl => match us, hl with | [_], _ => rfl) fun A outer s H vs Q E hg hr hsp => ?_
  obtain ⟨m, M, rfl, hM, nb, tb, q⟩ := hsp
  refine ⟨_, (pss_cons (ps_set (i := 1) sc_law_is_outside.nd rfl (Or.inl rfl) (pe_ix ix_tup (pe_heardL (k := 7) (j := 5) (x := "_law_is_outside") (fr := ["_law_memory"]) (js := [0]) (E := E0) (pre := fun _ _ => True) (G2 := fun _ => G0) (sp := fun σ vs H Q E => ∃ m M, vs = [] ∧ slotAt σ 0 = some (.ref m) ∧ MemAt K H m M ∧ M.blk = .non ∧ Raised K "NoTrial" .non [] H E) T ⟨rfl, rfl, rfl, rfl, rfl⟩ (by simp [tfs]) rfl (List.mem_cons_of_mem _ (List.mem_cons_of_mem _ List.mem_cons_self)) (by rfl) (by rfl) (by rfl) (by rfl) ?_ (fun _ => gst0) (fun _ _ _ _ _ _ => True.intro) hg hr passL (by decide)) pe_int (fun _ _ => rfl)))
    (pss_one (ps_ret (pe_and (pe_callB call_isEr (by rfl) T.f_isinstance (by decide +kernel) (pa_cons (pv 1) (pa_cons (pe_glob (v := .ref _) (by rfl) T.g_NoTrial rfl) pa_nil))) (pe_one (pe_cmpR op_isN (pe_erv (pv 1)) pe_non (nomark _))))))), ?_⟩
  · refine fun σ f c' => lam_live (N := ["_law_memory"]) (ps := []) (nscope_by (by rfl)) (fun _ _ us hl => match us, hl with | [], _ => rfl) (fun vs H Q E h => by obtain ⟨m, M, rfl, _⟩ := h; rfl) fun A outer s H vs Q E hg hr _ hsp => ?_
    obtain ⟨m, M, rfl, h0, hM, nb, qe⟩ := hsp
    refine ⟨_, pe_mt0 T.cl_Memory T.m_Memory_keep (ok_Memory_keep T) hg hr passN (pv 0), ?_⟩
    obtain ⟨dx, f, p, l, hm⟩ := id hM
    exact ⟨.ref m, congrArg some h0, m, dx, _, rfl, hm.i, rfl, m, dx, f, p, l, M.blk, rfl, hm.i, fun _ => qe, fun z => absurd nb z⟩
  refine ⟨tb, fun f c' H1 eN nn tb1 f0 f1 c1 => ⟨True.intro, fun H2 s2 => ?_⟩⟩
  have k12 := (ext_kp eN).trans (Kp.of s2)
  have hM2 : MemAt K H2 m M := hM.k k12 fun C dx fs e => s2 _ _ (eN _ _ e fun ps z => by cases z)
  refine ⟨m, M, rfl, rfl, hM2, nb, fun dd H3 o3 hx3 => ⟨true, T.e_NoTrial.xm, fun _ a p na np kp => ?_, fun z => by cases z⟩⟩
  have s4 : Same H3 (upd (upd H3 a (ErO a (.ref (He.ga K "NoTrial")) (some dd))) p (.tup [.ref a, .non])) := (sameN na).trans (sameN np)
  have ep : upd (upd H3 a (ErO a (.ref (He.ga K "NoTrial")) (some dd))) p (.tup [.ref a, .non]) p = some (.tup [.ref a, .non]) := upd_same
  have ea : upd (upd H3 a (ErO a (.ref (He.ga K "NoTrial")) (some dd))) p (.tup [.ref a, .non]) a = some (ErO a (.ref (He.ga K "NoTrial")) (some dd)) := by
    rw [upd_ne (fun z => by rw [← z, upd_same] at np; cases np)]
    exact upd_same
  have fr : Fr K [] H H3 := ((Fr.made eN tb1).trans (Fr.same s2)).trans (Fr.so o3 (by intro b hb; cases hb))
  have fr4 := fr.trans (Fr.same s4)
  have ex := s4 _ _ hx3
  generalize upd (upd H3 a (ErO a (.ref (He.ga K "NoTrial")) (some dd))) p (.tup [.ref a, .non]) = H4 at ep ea fr4 ex
  refine ⟨p, _, 0, _, rfl, rfl, SqT.of ep, rfl, ?_⟩
  refine ⟨_, rfl, a, _, _, rfl, ea, true, rfl, iteT ?_⟩
  exact ⟨_, rfl, a, _, dd, _, .non, rfl, ea, ex, T.e_NoTrial.xf, T.e_NoTrial.nv, rfl, rfl, q _ fr4⟩
end
end Bp

namespace Bp
open PySem PySem.Spec PyProof.Rows L2 LamX NdefX
def stepM (w : Int) (M : MemS) : MemS := if w = 0 then undoM M else redoM M
def stepD (w : Int) (D : DayS) : DayS := if w = 0 then backD D else againD D
theorem Syn.step {M : MemS} {D : DayS} (h : Syn M D) (w : Int) : Syn (stepM w M) (stepD w D) := by
  unfold stepM stepD
  split
  · exact h.undo
  · exact h.redo
section
variable {P : Program} {w : World} {K : PySem.W.Frag} {mg : Str → Option Value} {base : Heap}
/-! ### _law_gone: slots memory 0, day 1, way 2, caught 3, back 4 -/
def sp_law_gone (K : PySem.W.Frag) : Sp := fun vs H Q _ => ∃ (m : Addr) (M : MemS) (u : V) (D : DayS) (w : Int), vs = [.ref m, u, .int w] ∧ (w = 0 ∨ w = 1) ∧ MemAt K H m M ∧ DayAt H u D ∧ Syn M D ∧ Tb K H ∧
  ∀ H' r v, Fr K [m] H H' → MemAt K H' m (stepM w M) → DayAt H' v (stepD w D) → H' r = some (.tup [.bl true, v]) → Q (.ref r) H'
theorem ok_law_gone (T : Th P K mg base) : GF P w K mg base 8 (He.ga K "_law_gone") ["_law_memory", "_law_day_here", "_law_way"] (sp_law_gone K) := by
  refine gf_ofC T.d_law_gone sc_law_gone (fun vs H Q E h => by obtain ⟨m, M, u, D, w, rfl, hw, hM, hD, sy, tb, q⟩ := h; rfl) (fun _ _ _ _ _ _ us hl => match us, hl with | [_, _, _], _ => rfl) fun A outer s H vs Q E hg hr hsp => ?_
  obtain ⟨m, M, u, D, w, rfl, hw, hM, hD, sy, tb, q⟩ := hsp
  refine ⟨_, (pss_cons (ps_asg (pe_heardL (k := 7) (j := 5) (x := "_law_gone") (fr := ["_law_memory", "_law_way"]) (js := [0, 2]) (E := E0) (pre := fun _ _ => True) (G2 := fun _ => G0) (sp := fun σ vs H Q E => ∃ m w, vs = [] ∧ slotAt σ 0 = some (.ref m) ∧ slotAt σ 2 = some (.int w) ∧ (w = 0 ∧ sp_Memory_undo K [.ref m] H Q E ∨ w = 1 ∧ sp_Memory_redo K [.ref m] H Q E)) T ⟨rfl, rfl, rfl, rfl, rfl⟩ (by simp [tfs]) rfl (List.mem_cons_of_mem _ List.mem_cons_self) (by rfl) (by rfl) (by rfl) (by rfl) ?_ (fun _ => gst0) (fun _ _ _ _ _ _ => True.intro) hg hr passL (by decide)) (pg_tup rfl (pgs_cons (pg_name (i := 3) sc_law_gone.nd rfl (Or.inl rfl)) (pgs_cons (pg_name (i := 4) sc_law_gone.nd rfl (Or.inl rfl)) pgs_nil))))
    (pss_cons (ps_if (PW.pt (pw_and (pt_cmpR op_eq (pv 2) pe_int (nomark _)) (pw_and1 (pt_cmpR (op_eqD hr.units) (pe_dget (hu_of hr) (pv 1) pe_str (fun _ _ => rfl)) (pe_lst pa_nil) (nomark _))))) (pss_one (ps_ret (pe_tup (pa_cons (pe_and (pe_callB call_isEr (by rfl) T.f_isinstance (by decide +kernel) (pa_cons (pv 3) (pa_cons (pe_glob (v := .ref _) (by rfl) T.g_NothingToUndo rfl) pa_nil))) (pe_one (pe_cmpR op_isN (pe_erv (pv 3)) pe_non (nomark _)))) (pa_cons (pv 1) pa_nil))))) pss_nil)
    (pss_cons (ps_if (PW.pt (pw_and (pt_cmpR op_eq (pv 2) pe_int (nomark _)) (pw_and1 (pt_cmpR (op_eqD hr.units) (pe_dget (hu_of hr) (pv 1) pe_str (fun _ _ => rfl)) (pe_lst pa_nil) (nomark _))))) (pss_one (ps_ret (pe_tup (pa_cons (pe_and (pe_callB call_isEr (by rfl) T.f_isinstance (by decide +kernel) (pa_cons (pv 3) (pa_cons (pe_glob (v := .ref _) (by rfl) T.g_NothingToRedo rfl) pa_nil))) (pe_one (pe_cmpR op_isN (pe_erv (pv 3)) pe_non (nomark _)))) (pa_cons (pv 1) pa_nil))))) pss_nil)
    (pss_one (ps_ret (pe_tup (pa_cons (pe_and (pe_cmpR op_isN (pv 3) pe_non (nomark _)) (pe_one (pe_cmpR op_isN (pv 4) pe_non (nomark _)))) (pa_cons (pe_ifExp (pt_cmpR op_eq (pv 2) pe_int (nomark _)) (pe_fn T.g_law_back (ok_law_back T) hg hr passL (pa_cons (pv 1) pa_nil)) (pe_fn T.g_law_again (ok_law_again T) hg hr passL (pa_cons (pv 1) pa_nil))) pa_nil)))))))), ?_⟩
  · refine fun σ f c' => lam_live (N := ["_law_memory", "_law_way"]) (ps := []) (nscope_by (by rfl)) (fun _ _ us hl => match us, hl with | [], _ => rfl) (fun vs H Q E h => by obtain ⟨m, w, rfl, _⟩ := h; rfl) fun A outer s H vs Q E hg hr _ hsp => ?_
    obtain ⟨m, w, rfl, h0, h2, hsp⟩ := hsp
    refine ⟨_, pe_ifExp (pt_cmpR op_eq (pv 1) pe_int (nomark _)) (pe_mt0 T.cl_Memory T.m_Memory_undo (ok_Memory_undo T) hg hr passN (pv 0)) (pe_mt0 T.cl_Memory T.m_Memory_redo (ok_Memory_redo T) hg hr passN (pv 0)), ?_⟩
    rcases hsp with ⟨rfl, m', M', e, hM', len, q1, q2⟩ | ⟨rfl, m', M', e, hM', len, q1, q2⟩
    · cases e
      obtain ⟨dx, f, p, l, hm⟩ := id hM'
      exact ⟨.int 0, congrArg some h2, rfl, _, rfl, iteD rfl ⟨.ref m, congrArg some h0, m, dx, _, rfl, hm.i, rfl, m, M', rfl, hM', len, fun r e h H' o hh _ => q1 r e h H' o hh, q2⟩⟩
    · cases e
      obtain ⟨dx, f, p, l, hm⟩ := id hM'
      exact ⟨.int 1, congrArg some h2, rfl, _, rfl, iteDF (by decide) ⟨.ref m, congrArg some h0, m, dx, _, rfl, hm.i, rfl, m, M', rfl, hM', len, fun r e h H' o hh _ => q1 r e h H' o hh, q2⟩⟩
  have hlen := sy.ok.n
  have hnp := sy.np
  have hnl := sy.nl
  refine ⟨tb, fun f c' H1 eN nn tb1 f0 f1 c1 => ⟨True.intro, fun H2 s2 => ?_⟩⟩
  have k12 := (ext_kp eN).trans (Kp.of s2)
  have hM2 : MemAt K H2 m M := hM.k k12 fun C dx fs e => s2 _ _ (eN _ _ e fun ps z => by cases z)
  have hD2 := hD.k k12
  have fr2 : Fr K [m] H H2 := (Fr.made eN tb1).trans (Fr.same s2)
  have pl2 : ∀ b ∈ [m], ∀ o, H2 b = some o → Pl o := by
    intro b hb o e
    rw [List.mem_singleton.mp hb] at e
    exact hM2.pl o e
  -- behind: nothing caught
  have good : ∀ (M2 : MemS) (D2 : DayS) (H3 : Hp), So [m] H2 H3 → Kp H2 H3 → MemAt K H3 m M2 → M2 = stepM w M → (w = 0 → D.past ≠ []) → (w = 1 → D.later ≠ []) → ∀ p, H3 p = none → (∀ Q' : VK, (∀ v H4, Same H3 H4 → DayAt H4 v (stepD w D) → True) → True) → True := fun _ _ _ _ _ _ _ _ _ _ _ _ => True.intro
  clear good
  have raised : ∀ (x : Str) (EC : ErrC K (He.ga K x)) (H3 : Hp) (dd a p : Addr), So [] H2 H3 → H3 dd = some (.xd [("value", .non)]) → H3 a = none → upd H3 a (ErO a (.ref (He.ga K x)) (some dd)) p = none →
      ∃ H4, upd (upd H3 a (ErO a (.ref (He.ga K x)) (some dd))) p (.tup [.ref a, .non]) = H4 ∧ Same H2 H4 ∧ H4 p = some (.tup [.ref a, .non]) ∧ H4 a = some (ErO a (.ref (He.ga K x)) (some dd)) ∧ H4 dd = some (.xd [("value", .non)]) := by
    intro x EC H3 dd a p o3 hx3 na np
    have s4 : Same H3 (upd (upd H3 a (ErO a (.ref (He.ga K x)) (some dd))) p (.tup [.ref a, .non])) := (sameN na).trans (sameN np)
    refine ⟨_, rfl, fun b o e => s4 _ _ (o3 b o e (by simp)), upd_same, ?_, s4 _ _ hx3⟩
    rw [upd_ne (fun z => by rw [← z, upd_same] at np; cases np)]
    exact upd_same
  rcases hw with rfl | rfl
  · -- undo
    refine ⟨m, 0, rfl, rfl, rfl, .inl ⟨rfl, m, M, rfl, hM2, by omega, fun r e hre H3 o3 hM3 kp p np kp2 => ?_, fun hnil dd H3 o3 hx3 => ?_⟩⟩
    · have hne : D.past ≠ [] := fun z => by rw [sy.p, hre] at z; simp at z
      have s4 := sameN (o := .tup [.non, .non]) np
      have ep : upd H3 p (.tup [.non, .non]) p = some (.tup [.non, .non]) := upd_same
      have fr4 := (fr2.trans (Fr.so o3 pl2)).trans (Fr.same s4)
      have hM4 := hM3.same s4
      have hD4 := (hD2.k kp).k (Kp.of s4)
      generalize upd H3 p (.tup [.non, .non]) = H4 at ep fr4 hM4 hD4
      obtain ⟨a, v1, v2, v3, hd⟩ := id hD4
      obtain rfl := hd.e
      refine ⟨p, _, rfl, SqT.of ep, rfl, _, _, rfl, _, _, rfl, rfl, ?_⟩
      refine ⟨_, rfl, rfl, _, rfl, iteD rfl ?_⟩
      refine ⟨_, rfl, a, v2, rfl, hd.get2, Nat.zero_le _, fun p5 np5 => ⟨_, _, (hd.p.s (sameN np5)).d, .lst (SqL.of upd_same) .nil, shp_dds _, shp_nil, _, rfl, ?_⟩⟩
      rw [dds_nil, decide_eq_false hne]
      refine iteF ?_
      have s5 := sameN (o := .lst []) np5
      have hd5 := hd.k (Kp.of s5)
      have fr5 := fr4.trans (Fr.same (K := K) (S := [m]) s5)
      have hM5 := hM4.same s5
      generalize upd H4 p5 (.lst []) = H5 at hd5 fr5 hM5
      refine ⟨_, rfl, rfl, _, rfl, iteDF (by decide) (iteF ?_)⟩
      refine ⟨_, rfl, rfl, true, rfl, iteT ⟨_, rfl, rfl, _, rfl, rfl, _, rfl, iteD rfl ⟨_, rfl, .ref a, D, rfl, ⟨a, v1, v2, v3, hd5⟩, by omega, fun v H6 s6 hD6 _ => ⟨by show 2 ≤ sizeLine; decide, fun p7 np7 => ?_⟩⟩⟩⟩
      have s7 := s6.trans (sameN (o := .tup [.bl true, v]) np7)
      refine q _ p7 v (fr5.trans (Fr.same s7)) ?_ (hD6.k (Kp.of (sameN np7))) upd_same
      show MemAt K _ m (undoM M)
      rw [undoM_of hre]
      exact hM5.same s7
    · refine ⟨true, T.e_NothingToUndo.xm, fun _ a p na np kp => ?_, fun z => by cases z⟩
      obtain ⟨H4, e4, s4, ep, ea, ex⟩ := raised "NothingToUndo" T.e_NothingToUndo H3 dd a p o3 hx3 na np
      rw [e4]
      have hM4 := hM2.same s4
      have fr4 := fr2.trans (Fr.same (K := K) (S := [m]) s4)
      obtain ⟨b, v1, v2, v3, hd⟩ := hD2.k (Kp.of s4)
      obtain rfl := hd.e
      have hDn : D.past = [] := by rw [sy.p, hnil]; rfl
      refine ⟨p, _, rfl, SqT.of ep, rfl, _, _, rfl, _, _, rfl, rfl, ?_⟩
      refine ⟨_, rfl, rfl, _, rfl, iteD rfl ?_⟩
      refine ⟨_, rfl, b, v2, rfl, hd.get2, Nat.zero_le _, fun p5 np5 => ⟨_, _, (hd.p.s (sameN np5)).d, .lst (SqL.of upd_same) .nil, shp_dds _, shp_nil, _, rfl, ?_⟩⟩
      rw [dds_nil]
      refine iteD hDn ?_
      have s5 := sameN (o := .lst []) np5
      have hd5 := hd.k (Kp.of s5)
      have fr5 := fr4.trans (Fr.same (K := K) (S := [m]) s5)
      have hM5 := hM4.same s5
      have ea5 := s5 _ _ ea
      have ex5 := s5 _ _ ex
      generalize upd H4 p5 (.lst []) = H5 at hd5 fr5 hM5 ea5 ex5
      refine ⟨_, rfl, a, _, _, rfl, ea5, true, rfl, iteT ⟨_, rfl, a, _, dd, _, .non, rfl, ea5, ex5, T.e_NothingToUndo.xf, T.e_NothingToUndo.nv, rfl, rfl, _, rfl, by show 2 ≤ sizeLine; decide, fun p7 np7 => ?_⟩⟩
      have s7 := sameN (o := .tup [.bl true, .ref b]) np7
      refine q _ p7 (.ref b) (fr5.trans (Fr.same s7)) ?_ ?_ upd_same
      · show MemAt K _ m (undoM M)
        rw [undoM_nil hnil]
        exact hM5.same s7
      · show DayAt _ _ (backD D)
        rw [backD_nil hDn]
        exact ⟨b, v1, v2, v3, hd5.k (Kp.of s7)⟩
  · -- redo
    refine ⟨m, 1, rfl, rfl, rfl, .inr ⟨rfl, m, M, rfl, hM2, by omega, fun r e hre H3 o3 hM3 kp p np kp2 => ?_, fun hnil dd H3 o3 hx3 => ?_⟩⟩
    · have hne : D.later ≠ [] := fun z => by rw [sy.l, hre] at z; simp at z
      have s4 := sameN (o := .tup [.non, .non]) np
      have ep : upd H3 p (.tup [.non, .non]) p = some (.tup [.non, .non]) := upd_same
      have fr4 := (fr2.trans (Fr.so o3 pl2)).trans (Fr.same s4)
      have hM4 := hM3.same s4
      have hD4 := (hD2.k kp).k (Kp.of s4)
      generalize upd H3 p (.tup [.non, .non]) = H4 at ep fr4 hM4 hD4
      obtain ⟨a, v1, v2, v3, hd⟩ := id hD4
      obtain rfl := hd.e
      refine ⟨p, _, rfl, SqT.of ep, rfl, _, _, rfl, _, _, rfl, rfl, ?_⟩
      refine ⟨_, rfl, rfl, _, rfl, iteDF (by decide) (iteF ?_)⟩
      refine ⟨_, rfl, rfl, _, rfl, iteD rfl ?_⟩
      refine ⟨_, rfl, a, v3, rfl, hd.get3, Nat.zero_le _, fun p5 np5 => ⟨_, _, (hd.l.s (sameN np5)).d, .lst (SqL.of upd_same) .nil, shp_dds _, shp_nil, _, rfl, ?_⟩⟩
      rw [dds_nil, decide_eq_false hne]
      refine iteF ?_
      have s5 := sameN (o := .lst []) np5
      have hd5 := hd.k (Kp.of s5)
      have fr5 := fr4.trans (Fr.same (K := K) (S := [m]) s5)
      have hM5 := hM4.same s5
      generalize upd H4 p5 (.lst []) = H5 at hd5 fr5 hM5
      refine ⟨_, rfl, rfl, true, rfl, iteT ⟨_, rfl, rfl, _, rfl, rfl, _, rfl, iteDF (by decide) ⟨_, rfl, .ref a, D, rfl, ⟨a, v1, v2, v3, hd5⟩, by omega, fun v H6 s6 hD6 _ => ⟨by show 2 ≤ sizeLine; decide, fun p7 np7 => ?_⟩⟩⟩⟩
      have s7 := s6.trans (sameN (o := .tup [.bl true, v]) np7)
      refine q _ p7 v (fr5.trans (Fr.same s7)) ?_ (hD6.k (Kp.of (sameN np7))) upd_same
      show MemAt K _ m (redoM M)
      rw [redoM_of hre]
      exact hM5.same s7
    · refine ⟨true, T.e_NothingToRedo.xm, fun _ a p na np kp => ?_, fun z => by cases z⟩
      obtain ⟨H4, e4, s4, ep, ea, ex⟩ := raised "NothingToRedo" T.e_NothingToRedo H3 dd a p o3 hx3 na np
      rw [e4]
      have hM4 := hM2.same s4
      have fr4 := fr2.trans (Fr.same (K := K) (S := [m]) s4)
      obtain ⟨b, v1, v2, v3, hd⟩ := hD2.k (Kp.of s4)
      obtain rfl := hd.e
      have hDn : D.later = [] := by rw [sy.l, hnil]; rfl
      refine ⟨p, _, rfl, SqT.of ep, rfl, _, _, rfl, _, _, rfl, rfl, ?_⟩
      refine ⟨_, rfl, rfl, _, rfl, iteDF (by decide) (iteF ?_)⟩
      refine ⟨_, rfl, rfl, _, rfl, iteD rfl ?_⟩
      refine ⟨_, rfl, b, v3, rfl, hd.get3, Nat.zero_le _, fun p5 np5 => ⟨_, _, (hd.l.s (sameN np5)).d, .lst (SqL.of upd_same) .nil, shp_dds _, shp_nil, _, rfl, ?_⟩⟩
      rw [dds_nil]
      refine iteD hDn ?_
      have s5 := sameN (o := .lst []) np5
      have hd5 := hd.k (Kp.of s5)
      have fr5 := fr4.trans (Fr.same (K := K) (S := [m]) s5)
      have hM5 := hM4.same s5
      have ea5 := s5 _ _ ea
      have ex5 := s5 _ _ ex
      generalize upd H4 p5 (.lst []) = H5 at hd5 fr5 hM5 ea5 ex5
      refine ⟨_, rfl, a, _, _, rfl, ea5, true, rfl, iteT ⟨_, rfl, a, _, dd, _, .non, rfl, ea5, ex5, T.e_NothingToRedo.xf, T.e_NothingToRedo.nv, rfl, rfl, _, rfl, by show 2 ≤ sizeLine; decide, fun p7 np7 => ?_⟩⟩
      have s7 := sameN (o := .tup [.bl true, .ref b]) np7
      refine q _ p7 (.ref b) (fr5.trans (Fr.same s7)) ?_ ?_ upd_same
      · show MemAt K _ m (redoM M)
        rw [redoM_nil hnil]
        exact hM5.same s7
      · show DayAt _ _ (againD D)
        rw [againD_nil hDn]
        exact ⟨b, v1, v2, v3, hd5.k (Kp.of s7)⟩
end
end Bp

namespace Bp
open PySem PySem.Spec PyProof.Rows L2 LamX NdefX
/-! ### x is True -/
def Scal : V → Prop
  | .bl _ => True
  | .int _ => True
  | .non => True
  | .str _ => True
  | _ => False
def rIsT : R2 := fun x y H Q => y = .bl true ∧ Scal x ∧ Q (.bl (decide (x = .bl true))) H
theorem op_isT {X : Cx} : OpR X (compareOp .Is) rIsT := by
  intro pins s σ H x y v u Q I rx ry h
  obtain ⟨rfl, sc, q⟩ := h
  cases (show u = Value.bool true from ry)
  cases x with
  | bl b =>
    cases (show v = Value.bool b from rx)
    cases b
    · exact wpAny_is_other rfl (by simp) ⟨.bl false, H, I, rfl, by simpa using q⟩
    · exact wpAny_is_self rfl ⟨.bl true, H, I, rfl, by simpa using q⟩
  | int n =>
    obtain ⟨k, rfl⟩ : ∃ k, v = Value.int n k := rx
    exact wpAny_is_other rfl (by simp) ⟨.bl false, H, I, rfl, by simpa using q⟩
  | non =>
    cases (show v = Value.none from rx)
    exact wpAny_is_other rfl (by simp) ⟨.bl false, H, I, rfl, by simpa using q⟩
  | str t =>
    obtain ⟨k, rfl⟩ : ∃ k, v = Value.str t k := rx
    exact wpAny_is_other rfl (by simp) ⟨.bl false, H, I, rfl, by simpa using q⟩
  | _ => exact False.elim sc

/-! ### Memory.tried: slots self 0, look 1, keep 2, found 3 -/
/-- behind look, no error -/
def TrdOk (K : PySem.W.Frag) (m t tdx b bdx : Addr) (p l b0 kV : V) (Q : VK) (v : V) (H3 : Hp) : Prop := ∃ dx fi3 p3 l3 w3, H3 t = some (.ins (Tri K) tdx [("own_memory", .ref m)]) ∧ H3 m = some (.ins (Memo K) dx (MemF fi3 p3 l3 (.ref b))) ∧ H3 b = some (.ins (Blk K) bdx (BlkF p l b0 w3)) ∧
  ∀ H4, So [m, b] H3 H4 → H4 m = some (.ins (Memo K) dx (if kV = .bl true ∨ w3 ≠ .non then MemF fi3 p3 l3 b0 else MemF fi3 p l b0)) → Q v H4
/-- behind look, an error -/
def TrdEr (K : PySem.W.Frag) (m t tdx b bdx : Addr) (p l b0 : V) (E : XK) (cls : Value) (d : Option Addr) (H3 : Hp) : Prop := (∃ C, cls = .ref C) ∧ ∃ dx fi3 p3 l3 w3, H3 t = some (.ins (Tri K) tdx [("own_memory", .ref m)]) ∧ H3 m = some (.ins (Memo K) dx (MemF fi3 p3 l3 (.ref b))) ∧ H3 b = some (.ins (Blk K) bdx (BlkF p l b0 w3)) ∧
  ∀ H4, So [m] H3 H4 → H4 m = some (.ins (Memo K) dx (MemF fi3 p l b0)) → E cls d H4
/-- what tried makes of look's promise: look is called within a block -/
def TriedSp (K : PySem.W.Frag) (sp : Sp) (m : Addr) (kV : V) (H : Hp) (Q : VK) (E : XK) : Prop := Scal kV ∧ ∃ (dx : Addr) (fi p l b0 : V), H m = some (.ins (Memo K) dx (MemF fi p l b0)) ∧
  ∀ (H2 : Hp) (t tdx b bdx : Addr), So [m] H H2 → H t = none → H b = none → t ≠ b → H2 t = some (.ins (Tri K) tdx [("own_memory", .ref m)]) → H2 b = some (.ins (Blk K) bdx (BlkF p l b0 .non)) → H2 m = some (.ins (Memo K) dx (MemF fi p l (.ref b))) →
    ∀ (Q' : VK) (E' : XK), (∀ v H3, (Kp H2 H3 → TrdOk K m t tdx b bdx p l b0 kV Q v H3) → Q' v H3) → (∀ cls d H3, TrdEr K m t tdx b bdx p l b0 E cls d H3 → E' cls d H3) → sp [.ref m] H2 Q' E'
section
variable {P : Program} {w : World} {K : PySem.W.Frag} {mg : Str → Option Value} {base : Heap} {k : Nat} {f : Addr} {G : GP} {sp : Sp}
theorem run_tried (T : Th P K mg base) {A : Around} {outer : List Env} {s : Shared} {H : Hp} {Q : VK} {E : XK} {args : Args} {m : Addr} {kV : V} {kv : Value} (hg : A.guards = some []) (hr : Room (k + 6) A) (e0 : Env0 P w K mg base A outer s H) (L : LiveF P w K mg base k f 1 G sp) (st : GSt G) (hG : G s.heap H)
    (hb : BindsTo s (fdOf K (He.ma K (He.ga K "Memory") "tried")) args ((["self", "look", "keep"] : List Str).zip [.ref m, .ref f, kv])) (rk : L2.RelV kV kv) (h : TriedSp K sp m kV H Q E) :
    codeAny (model P w) A (.call (.ref (He.ma K (He.ga K "Memory") "tried")) args) (CR (CXX P w) outer P w H s Q E) s := by
  obtain ⟨fd, F⟩ := T.d_Memory_tried
  have e1 := funD_fd F
  rw [e1] at hb
  obtain ⟨oc, od, dV, kV', doc, pm, an, cdv, ct, osl, rfl, lk, hcd, _, _⟩ := F.ex
  refine LamX.run_ofS (N := N_Memory_tried) (ps := ["self", "look", "keep"]) (us := [.ref m, .ref f, kv]) (vs := [.ref m, .ref f, kV]) lk hcd sc_Memory_tried (hr.mono (show (k + 5) + 1 ≤ k + 6 by omega)) e0 hb (.cons rfl (.cons rfl (.cons rk .nil))) rfl fun hr' => ?_
  refine ⟨_, pss_cons (ps_with (C := Tri K) (Wout := fun cls d _ H => E cls d H) (spE := sp_Trial_enter K) (spX := sp_Trial_exit K) (spH := ExitP K)
      (tb := fun W => tSeq (tAsg (tLive 1 f H sp (fun σ => WE W σ) (tCons (tVar 0) tNil)) (gName 3)) (tIfS (tTest (tOp rIsT (tVar 2) (tC (.bl true)))) (tDrop (tMet (Memo K) "keep" (sp_Memory_keep K) E0 (tVar 0) tNil)) tNext))
      rfl rfl T.cl_Trial T.m_Trial_enter T.m_Trial_exit (ok_Trial_enter (w := w) T).ok (ok_Trial_exit (w := w) T).ok (ok_Trial_exitX (w := w) T) (ok_Trial_enter (w := w) T).b (ok_Trial_exit (w := w) T).b hg (hr'.mono (by omega)) (hr'.mono (by omega)) (hr'.mono (by omega)) (takes_of rfl rfl rfl rfl)
      (pe_mt0 T.cl_Memory T.m_Memory_trial (ok_Memory_trial T) hg hr' passL (pv 0) (by omega))
      (fun W pn xe tk => pss_cons (ps_set (i := 3) sc_Memory_tried.nd rfl (Or.inl rfl) (pe_live (k := k + 5) (i := 1) L st hG hg hr' (fun σ => passAt tk σ) rfl (Or.inl rfl) (pa_cons (pv 0) pa_nil) (by omega)))
        (pss_one (ps_if (pt_cmpR op_isT (pv 2) pe_bl (nomark _)) (pss_one (ps_expr (pe_mt0 T.cl_Memory T.m_Memory_keep (ok_Memory_keep T) hg hr' passL (pv 0) (by omega)))) pss_nil))))
    (pss_one (ps_ret (pv 3))), ?_⟩
  obtain ⟨sc, dx, fi, p, l, b0, hm, h⟩ := h
  refine ⟨.ref m, rfl, m, dx, _, rfl, hm, rfl, m, rfl, fun H1 t tdx s1 nt ht1 _ => ?_⟩
  have tm : t ≠ m := fun z => by rw [z, hm] at nt; cases nt
  refine ⟨t, tdx, _, rfl, ht1, t, tdx, m, dx, fi, p, l, b0, rfl, ht1, s1 _ _ hm, tm, fun H2 b bdx o2 nb hb2 hm2 => ?_⟩
  have bm : b ≠ m := fun z => by rw [z, s1 _ _ hm] at nb; cases nb
  have tb : t ≠ b := fun z => by rw [← z, ht1] at nb; cases nb
  have o12 : So [m] H H2 := (So.same s1).trans o2
  have nbH : H b = none := by
    cases e : H b with
    | none => rfl
    | some u => rw [s1 _ _ e] at nb; cases nb
  have pr : Prs H H2 := fun c φ z => o12 c _ z (by intro hc; rw [List.mem_singleton.mp hc, hm] at z; cases z)
  have ht2 : H2 t = some (.ins (Tri K) tdx [("own_memory", .ref m)]) := o2 _ _ ht1 (by simpa using tm)
  refine ⟨rfl, pr, _, rfl, pr, ?_⟩
  refine h H2 t tdx b bdx o12 nt nbH tb ht2 hb2 hm2 _ _ (fun v H3 ok kp => ?_) (fun cls d H3 bad => ?_)
  · obtain ⟨dx, fi3, p3, l3, w3, ht3, hm3, hb3, q⟩ := ok kp
    refine ⟨_, rfl, rfl, sc, _, rfl, ?_⟩
    by_cases hk : kV = .bl true
    · refine iteD hk ⟨.ref m, rfl, m, dx, _, rfl, hm3, rfl, m, dx, fi3, p3, l3, .ref b, rfl, hm3, fun z => (by cases z), fun _ => ⟨b, bdx, p, l, b0, w3, rfl, hb3, fun _ => ?_⟩⟩
      have e4 : upd H3 b (.ins (Blk K) bdx (BlkF p l b0 (.str "kept"))) b = some (.ins (Blk K) bdx (BlkF p l b0 (.str "kept"))) := upd_same
      have o4 : So [b] H3 (upd H3 b (.ins (Blk K) bdx (BlkF p l b0 (.str "kept")))) := .upd (by simp)
      generalize upd H3 b (.ins (Blk K) bdx (BlkF p l b0 (.str "kept"))) = H4 at e4 o4
      refine ⟨t, tdx, m, dx, b, bdx, fi3, p3, l3, p, l, b0, .str "kept", .non, .non, .non, rfl, o4 _ _ ht3 (by simpa using tb), o4 _ _ hm3 (by simpa using Ne.symm bm), e4, tm, bm, fun H5 o5 hm5 => ⟨_, rfl, ?_⟩⟩
      refine q H5 (fun c o e n => o5 c o (o4 c o e (by simpa using fun z => n (by simp [z]))) (by simpa using fun z => n (by simp [z]))) ?_
      rw [hm5, if_pos (Or.inl hk), if_neg (by simp)]
    · refine iteDF hk ⟨t, tdx, m, dx, b, bdx, fi3, p3, l3, p, l, b0, w3, .non, .non, .non, rfl, ht3, hm3, hb3, tm, bm, fun H4 o4 hm4 => ⟨_, rfl, ?_⟩⟩
      refine q H4 (fun c o e n => o4 c o e (by simpa using fun z => n (by simp [z]))) ?_
      rw [hm4]
      by_cases hw : w3 = .non <;> simp [hk, hw]
  · obtain ⟨⟨C, rfl⟩, dx, fi3, p3, l3, w3, ht3, hm3, hb3, q⟩ := bad
    refine ⟨C, rfl, fun e tb' ne => ⟨t, tdx, m, dx, b, bdx, fi3, p3, l3, p, l, b0, w3, .ref C, .ref e, tb', rfl, ht3, hm3, hb3, tm, bm, fun H4 o4 hm4 => ⟨rfl, q H4 o4 ?_⟩⟩⟩
    rw [hm4, if_pos (.inl (by simp))]
theorem tried_b0 (T : Th P K mg base) : ∃ ds, Vals [V.bl false] ds ∧ Binds K (fdOf K (He.ma K (He.ga K "Memory") "tried")) ["self", "look", "keep"] ds := by
  obtain ⟨fd, F⟩ := T.d_Memory_tried
  rw [funD_fd F]
  exact F.binds0 2 (by simp) rfl fun D doc pm an cdv ct us ks hu hk => match us, ks, hu, hk with
    | [_, _], [_], _, _ => ⟨_, _, _, _, _, _, rfl, rfl, rfl⟩
theorem tried_bk (T : Th P K mg base) : ∃ mv : List Value, KBn K (fdOf K (He.ma K (He.ga K "Memory") "tried")) ["self", "look", "keep"] 2 ["keep"] (fun us ws => us ++ ws) (fun vs zs => vs ++ zs) := by
  obtain ⟨fd, F⟩ := T.d_Memory_tried
  rw [funD_fd F]
  exact F.kbinds0 2 ["keep"] [] (fun us _ ws => us ++ ws) (by simp) (by simp) (fun r1 _ r3 => r1.append r3) fun D doc pm an cdv ct us mv ws hu hm hk => match us, mv, ws, hu, hm, hk with
    | [_, _], [], [_], _, _, _ => rfl
end
end Bp

namespace Bp
open PySem PySem.Spec PyProof.Rows L2 LamX NdefX
/-! ### o.tried(look), o.tried(look, keep=v), o.tried(lambda ..) -/
def tTried (K : PySem.W.Frag) (f : Addr) (H0 : Hp) (sp : Sp) (kw : Bool) (E : XK) (ta : TE) (t tk : TA) : TE := fun σ H Q => ta σ H fun x H1 => ∃ m dx fs, x = .ref m ∧ H1 m = some (.ins (Memo K) dx fs) ∧ fs.lookup ("tried" : Str) = none ∧
  t σ H1 fun vs H2 => vs = [.ref f] ∧ tk σ H2 fun zs H3 => (∃ kV, zs = (if kw then [kV] else []) ∧ (kw = false → kV = .bl false) ∧ Prs H0 H3 ∧ TriedSp K sp m kV H3 (fun v H4 => Kp H3 H4 → Q v H4) E)
section
variable {X : Cx} {j k : Nat} {f : Addr} {G : GP} {sp : Sp} {E : XK} {o e : Expr} {kws : List Keyword} {apos pos : Pos} {ta : TE} {t tk : TA}
theorem run_triedX {pins : List (Addr × Obj)} {σ : L2.St} {H : Hp} {s : Shared} {Q : VK} {args : List Value} {kwa : List (Str × Value)} {m : Addr} {kV : V} {kv : Value} (T : Th X.prog X.K X.mg X.base) (L : LiveF X.prog X.w X.K X.mg X.base j f 1 G sp) (st : GSt G) (hg : X.A.guards = some []) (hr : Room k X.A) (hk : j + 6 ≤ k) (hx : Passes (CXX X.prog X.w) X E)
    (I : Inv X pins σ H s) (hG : G s.heap H) (hb : BindsTo s (fdOf X.K (He.ma X.K (He.ga X.K "Memory") "tried")) ⟨args, kwa⟩ ((["self", "look", "keep"] : List Str).zip [.ref m, .ref f, kv])) (rk : L2.RelV kV kv) (h : TriedSp X.K sp m kV H (fun v H4 => Kp H H4 → Q v H4) E) :
    wpAny (model X.prog X.w) X.A (call (.ref (He.ma X.K (He.ga X.K "Memory") "tried")) args kwa) (EP X pins σ Q) X.xe s := by
  refine wpAny_call (codeAny_mono (run_tried T hg (hr.mono hk) I.env0 L st hG hb rk h) ?_)
  intro r s' hq
  rcases r with er | (u | _ | _ | _)
  · exact hx pins σ H s er s' I hq
  all_goals first
    | exact False.elim hq
    | (obtain ⟨v, H', os, bare, un, hok, rv, q⟩ := hq
       exact I.after ⟨v, H', os, bare, un, hok, rv, q ⟨un.tups, un.frzs⟩⟩)
theorem pe_tried0 {pl : Sem Bool} (T : Th X.prog X.K X.mg X.base) (L : LiveF X.prog X.w X.K X.mg X.base j f 1 G sp) (st : GSt G) (hG0 : G X.s_0.heap X.H_0) (hg : X.A.guards = some []) (hr : Room k X.A) (hx : Passes (CXX X.prog X.w) X E) (he : PE X o ta) (ha : PA X [e] t) (hk : j + 6 ≤ k := by decide) (hex : X.ex = [] := by rfl)
    (hst : starEach [e] X.env = (false, eval e X.env) :: starEach [] X.env := by rfl)
    (ht : eval (.Call (.Attribute o "tried" apos) [e] [] pos) X.env = (eval o X.env >>= fun ov => standAt apos.atName >>= fun _ => holding [ov] (getMethod ov "tried" pl) >>= fun g =>
      callWith pos g.1 g.2 (backTo pos (starEach [e] X.env)) (backToKw pos (keywordEach [] X.env))) := by rfl) :
    PE X (.Call (.Attribute o "tried" apos) [e] [] pos) (tTried X.K f X.H_0 sp false E ta t tNil) := by
  constructor
  intro pins s σ H Q I h
  refine PySem.W.methodCall_KW (pl := pl) ?_ ht
  refine thn (he.run pins s σ H _ I h) ?_
  rintro u s1 ⟨x, H1, I1, rx, m, dx, fs, rfl, ea, l, q⟩
  obtain rfl : u = Value.ref m := rx
  refine getmeth_ok I1 ea T.cl_Memory T.m_Memory_tried l (PySem.W.callWith_K (first := [.ref m]) (h₀ := X.base) I.ok.mod.kin T.m_Memory_tried.kp ?_ hst rfl)
  refine thn (ha.run pos pins s1 σ H1 _ I1 q) ?_
  rintro us s2 ⟨vs, H2, I2, r, rfl, kV, _, ek, pr, q2⟩
  obtain rfl := ek rfl
  obtain ⟨u, rfl, ru⟩ : ∃ u, us = [u] ∧ L2.RelV (.ref f) u := by
    cases r with
    | cons r1 r2 => cases r2; exact ⟨_, rfl, r1⟩
  obtain rfl : u = Value.ref f := ru
  obtain ⟨ds, rd, hb⟩ := tried_b0 T
  obtain ⟨kv, rfl, rkv⟩ : ∃ u, ds = [u] ∧ L2.RelV (.bl false) u := by
    cases rd with
    | cons r1 r2 => cases r2; exact ⟨_, rfl, r1⟩
  refine ⟨I2.kIn, ?_⟩
  exact run_triedX (args := [.ref m, .ref f]) T L st hg hr hk hx I2 (g_now I2 hex st hG0 pr) (hb s2 [.ref m, .ref f] I2.kIn rfl) rkv q2
theorem pe_triedK {pl : Sem Bool} {ke : Expr} {kpos : Pos} {tke : TE} (T : Th X.prog X.K X.mg X.base) (L : LiveF X.prog X.w X.K X.mg X.base j f 1 G sp) (st : GSt G) (hG0 : G X.s_0.heap X.H_0) (hg : X.A.guards = some []) (hr : Room k X.A) (hx : Passes (CXX X.prog X.w) X E) (he : PE X o ta) (ha : PA X [e] t) (hke : PE X ke tke) (hk : j + 6 ≤ k := by decide) (hex : X.ex = [] := by rfl)
    (hst : starEach [e] X.env = (false, eval e X.env) :: starEach [] X.env := by rfl)
    (hpl : ((backTo pos (starEach [e] X.env)).any (·.1) || (backToKw pos (keywordEach [⟨some "keep", ke, kpos⟩] X.env)).any (·.1.isNone)) = false := by rfl)
    (ht : eval (.Call (.Attribute o "tried" apos) [e] [⟨some "keep", ke, kpos⟩] pos) X.env = (eval o X.env >>= fun ov => standAt apos.atName >>= fun _ => holding [ov] (getMethod ov "tried" pl) >>= fun g =>
      callWith pos g.1 g.2 (backTo pos (starEach [e] X.env)) (backToKw pos (keywordEach [⟨some "keep", ke, kpos⟩] X.env))) := by rfl) :
    PE X (.Call (.Attribute o "tried" apos) [e] [⟨some "keep", ke, kpos⟩] pos) (tTried X.K f X.H_0 sp true E ta t (tCons tke tNil)) := by
  constructor
  intro pins s σ H Q I h
  refine PySem.W.methodCall_KW (pl := pl) ?_ ht
  refine thn (he.run pins s σ H _ I h) ?_
  rintro u s1 ⟨x, H1, I1, rx, m, dx, fs, rfl, ea, l, q⟩
  obtain rfl : u = Value.ref m := rx
  refine getmeth_ok I1 ea T.cl_Memory T.m_Memory_tried l (PySem.W.callWith_KW (first := [.ref m]) (h₀ := X.base) I.ok.mod.kin T.m_Memory_tried.kp rfl ?_ hpl hst)
  refine thn (ha.run pos pins s1 σ H1 _ I1 q) ?_
  rintro us s2 ⟨vs, H2, I2, r, rfl, q1⟩
  refine thn ((pk_cons (nm := some "keep") (kpos := kpos) hke pk_nil).run pos pins s2 σ H2 _ I2 q1) ?_
  rintro ws s3 ⟨zs, H3, I3, rz, kV, ez, _, pr, q2⟩
  obtain ⟨u, rfl, ru⟩ : ∃ u, us = [u] ∧ L2.RelV (.ref f) u := by
    cases r with
    | cons r1 r2 => cases r2; exact ⟨_, rfl, r1⟩
  obtain rfl : u = Value.ref f := ru
  obtain rfl : zs = [kV] := ez
  obtain ⟨kv, rfl, rkv⟩ : ∃ u, ws = [u] ∧ L2.RelV kV u := by
    cases rz with
    | cons r1 r2 => cases r2; exact ⟨_, rfl, r1⟩
  obtain ⟨mv, hb⟩ := tried_bk T
  refine ⟨I3.kIn, ?_⟩
  exact run_triedX (args := [.ref m, .ref f]) (kwa := [("keep", kv)]) T L st hg hr hk hx I3 (g_now I3 hex st hG0 pr) (hb.to s3 [.ref m, .ref f] [kv] I3.kIn rfl rfl) rkv q2
end
end Bp

namespace Bp
open PySem PySem.Spec PyProof.Rows L2
theorem Th.tyM {P : Program} {K : PySem.W.Frag} {mg : Str → Option Value} {base : Heap} (T : Th P K mg base) {H : Hp} {a dx : Addr} {fs : List (Str × V)} (e : H a = some (.ins (Memo K) dx fs)) : TyX K H (.ref a) (.ref (Memo K)) :=
  .base (.ins e T.cl_Memory T.k_cls T.k_get T.k_tk T.k_obj)
section
variable {P : Program} {w : World} {K : PySem.W.Frag} {mg : Str → Option Value} {base : Heap}
/-! ### __eq__ -/
def sp_Memory_eq (K : PySem.W.Frag) : Sp := fun vs H Q _ => ∃ (a b : Addr) (M M' : MemS), vs = [.ref a, .ref b] ∧ MemAt K H a M ∧ MemAt K H b M' ∧ M.first = M'.first ∧ M.past = M'.past ∧ Q (.bl true) H
theorem ok_Memory_eq (T : Th P K mg base) : GF P w K mg base 4 (He.ma K (He.ga K "Memory") "__eq__") ["self", "other"] (sp_Memory_eq K) := by
  refine gf_of T.d_Memory_eq sc_Memory_eq (fun vs H Q E h => by obtain ⟨a, b, M, M', rfl, ⟨dx, f, p, l, h⟩, ⟨dx', f', p', l', h'⟩, ef, ep, q⟩ := h; rfl) (fun _ _ _ _ _ _ us hl => match us, hl with | [_, _], _ => rfl) fun cdv A outer s H vs Q E hg hr hsp => ?_
  obtain ⟨a, b, M, M', rfl, ⟨dx, f, p, l, h⟩, ⟨dx', f', p', l', h'⟩, ef, ep, q⟩ := hsp
  refine ⟨_, (pss_one (ps_ret (pe_and (pe_callB call_isi (by rfl) T.f_isinstance (by decide +kernel) (pa_cons (pv 1) (pa_cons (pe_glob (v := .ref _) (by rfl) T.g_Memory rfl) pa_nil))) (pe_and (pe_cmpR (op_eqD hr.units) (pe_fld (pv 0) rfl) (pe_fld (pv 1) rfl) (nomark _)) (pe_one (pe_cmpR (op_eqD hr.units) (pe_fld (pv 0) rfl) (pe_fld (pv 1) rfl) (nomark _))))))), ?_⟩
  have e1 : PyData.eqv (dDeal M.first) (dDeal M'.first) = true := by rw [ef]; exact eqv_yes (nb_deal _)
  have e2 : PyData.eqv (dPast M.past) (dPast M'.past) = true := by rw [ep]; exact eqv_yes (nb_past _)
  refine ⟨_, rfl, _, _, _, _, _, rfl, .own _, T.tyM h'.i, T.k_kit, true, rfl, iteT ?_⟩
  refine ⟨_, rfl, a, _, dx, _, _, rfl, h.i, T.cl_Memory, T.n_own_first, rfl, _, rfl, b, _, dx', _, _, rfl, h'.i, T.cl_Memory, T.n_own_first, rfl, ?_⟩
  refine ⟨_, _, h.f.d, h'.f.d, shp (nb_deal _) (by have := dep_deal M.first; omega), shp (nb_deal _) (by have := dep_deal M'.first; omega), true, by rw [e1], iteT ?_⟩
  refine ⟨_, rfl, a, _, dx, _, _, rfl, h.i, T.cl_Memory, T.n_own_past, rfl, _, rfl, b, _, dx', _, _, rfl, h'.i, T.cl_Memory, T.n_own_past, rfl, ?_⟩
  refine ⟨_, _, h.p.d, h'.p.d, shp (nb_past _) (by have := dep_past M.past; omega), shp (nb_past _) (by have := dep_past M'.past; omega), ?_⟩
  rw [e2]
  exact q
/-! ### copy -/
def sp_Memory_copy (K : PySem.W.Frag) : Sp := fun vs H Q _ => ∃ (m : Addr) (M : MemS), vs = [.ref m] ∧ MemAt K H m M ∧ DealOk M.first ∧ ∀ H' t, Same H H' → H t = none → MemAt K H' t { M with blk := .non } → Q (.ref t) H'
theorem ok_Memory_copy (T : Th P K mg base) : GF P w K mg base 6 (He.ma K (He.ga K "Memory") "copy") ["self"] (sp_Memory_copy K) := by
  refine gf_of T.d_Memory_copy sc_Memory_copy (fun vs H Q E h => by obtain ⟨m, M, rfl, ⟨dx, f, p, l, h⟩, ok, q⟩ := h; rfl) (fun _ _ _ _ _ _ us hl => match us, hl with | [_], _ => rfl) fun cdv A outer s H vs Q E hg hr hsp => ?_
  obtain ⟨m, M, rfl, ⟨dx, f, p, l, h⟩, ok, q⟩ := hsp
  refine ⟨_, (pss_cons (ps_set (i := 1) sc_Memory_copy.nd rfl (Or.inl rfl) (pe_mk T.mk_Memory (ok_Memory_init T) T.g_Memory hg hr passL (pa_cons (pe_fld (pv 0) rfl) pa_nil)))
    (pss_cons (ps_fld (pv 1) (pe_fld (pv 0) rfl) rfl)
    (pss_cons (ps_fld (pv 1) (pe_fld (pv 0) rfl) rfl)
    (pss_one (ps_ret (pv 1)))))), ?_⟩
  refine ⟨_, rfl, m, _, dx, _, _, rfl, h.i, T.cl_Memory, T.n_own_first, rfl, fun t tdx nt ntd ne => ?_⟩
  have s0 : Same H (upd (upd H tdx (.own t)) t (.ins (Memo K) tdx [])) := fun b o e => by
    rw [upd_ne (ne_of_none e nt), upd_ne (ne_of_none e ntd)]
    exact e
  refine ⟨t, tdx, f, M.first, rfl, upd_same, h.f.s s0, ok, fun H1 o1 hM1 => ⟨rfl, fun _ => ?_⟩⟩
  have s1 : Same H H1 := fun b o e => o1 b o (s0 b o e) (by simpa using ne_of_none e nt)
  obtain ⟨dx1, f1, p1, l1, h1⟩ := hM1
  have hi1 : H1 t = some (.ins (Memo K) dx1 (MemF f1 p1 l1 .non)) := h1.i
  have h1m := h.ks s1
  refine ⟨_, rfl, m, _, dx, _, _, rfl, h1m.i, T.cl_Memory, T.n_own_past, rfl, ?_⟩
  refine ⟨_, rfl, t, _, dx1, _, rfl, hi1, T.cl_Memory, T.n_own_past, lenM _ _ _ _, ?_⟩
  rw [putF_p]
  have tm : m ≠ t := ne_ins h.i nt
  have k2 := kp_ins (C' := Memo K) (dx' := dx1) (fs' := MemF f1 p l1 (V.non)) hi1
  have o2 : So [t] H1 (upd H1 t (.ins (Memo K) dx1 (MemF f1 p l1 V.non))) := .upd (by simp)
  have e2 : upd H1 t (.ins (Memo K) dx1 (MemF f1 p l1 V.non)) t = some (.ins (Memo K) dx1 (MemF f1 p l1 V.non)) := upd_same
  generalize upd H1 t (.ins (Memo K) dx1 (MemF f1 p l1 V.non)) = H2 at k2 o2 e2
  refine ⟨_, rfl, m, _, dx, _, _, rfl, o2 _ _ h1m.i (by simpa using tm), T.cl_Memory, T.n_own_later, rfl, ?_⟩
  refine ⟨_, rfl, t, _, dx1, _, rfl, e2, T.cl_Memory, T.n_own_later, lenM _ _ _ _, ?_⟩
  rw [putF_l]
  have k3 := kp_ins (C' := Memo K) (dx' := dx1) (fs' := MemF f1 p l (V.non)) e2
  have o3 : So [t] H2 (upd H2 t (.ins (Memo K) dx1 (MemF f1 p l V.non))) := .upd (by simp)
  have e3 : upd H2 t (.ins (Memo K) dx1 (MemF f1 p l V.non)) t = some (.ins (Memo K) dx1 (MemF f1 p l V.non)) := upd_same
  generalize upd H2 t (.ins (Memo K) dx1 (MemF f1 p l V.non)) = H3 at k3 o3 e3
  have kk := k2.trans k3
  refine ⟨_, rfl, q H3 t (fun b o e => o3 b o (o2 b o (s1 b o e) (by simpa using ne_of_none e nt)) (by simpa using ne_of_none e nt)) nt ⟨dx1, f1, p, l, e3, h1.f.k kk, h1m.p.k kk, h1m.l.k kk⟩⟩
end
end Bp

namespace Bp
open PySem PySem.Spec PyProof.Rows L2
/-! ### memories compared -/
def rCmpM (r : Bool) (K : PySem.W.Frag) : R2 := fun x y H Q => ∃ a b M M', x = .ref a ∧ y = .ref b ∧ MemAt K H a M ∧ MemAt K H b M' ∧ M.first = M'.first ∧ M.past = M'.past ∧ Q (.bl r) H
section
variable {X : Cx} {k : Nat}
theorem op_eqM (T : Th X.prog X.K X.mg X.base) (hg : X.A.guards = some []) (hr : Room k X.A) (hk : 4 ≤ k := by decide) : OpR X (compareOp .Eq) (rCmpM true X.K) := by
  intro pins s σ H x y v u Q I rx ry h
  obtain ⟨a, b, M, M', rfl, rfl, hM, hM', ef, ep, q⟩ := h
  cases rx
  cases ry
  obtain ⟨dx, f, p, l, ha⟩ := id hM
  obtain ⟨dx', f', p', l', hb⟩ := id hM'
  obtain ⟨mA, J, _⟩ := ins_get I.hok ha.i
  obtain ⟨mB, J', _⟩ := ins_get I.hok hb.i
  obtain ⟨od, J, _⟩ := J.look
  obtain ⟨od', J', _⟩ := J'.look
  obtain ⟨m, hF⟩ := I.fr
  show wpAny (model X.prog X.w) X.A (richCompare .Eq (.ref a) (.ref b)) (EP X pins σ Q) X.xe s
  refine PySem.W.cmp_K (op := .Eq) (tb := .ref (Memo X.K)) (f := He.ma X.K (He.ga X.K "Memory") "__eq__") hr.units0 hF I.ok.mod.kin J J'.type (by simp [PySem.W.notFirst]) T.m_Memory_eq.at_ T.m_Memory_eq.fn ?_
  refine wpAny_mono (run_fnK (E := E0) (us := [.ref a, .ref b]) (vs := [.ref a, .ref b]) (Q := fun v H' => v = .bl true ∧ Q (.bl true) H') ((ok_Memory_eq T).mono hk) hg hr (Nat.le_refl _) passL I (.cons rfl (.cons rfl .nil)) ⟨a, b, M, M', rfl, hM, hM', ef, ep, fun _ => ⟨rfl, q⟩⟩) (fun v s' hv => ?_) fun _ _ z => z
  obtain ⟨w, H', I', rw', rfl, q'⟩ := hv
  cases rw'
  exact ⟨.bl true, H', I', rfl, q'⟩
end
section
variable {M : Model} {prog : Program} {w : World} {A : Around} {E : Value → Shared → Prop} {s : Shared} {K : PySem.W.Frag} {x C : Addr} {ox : Obj} {od : Option Obj}
theorem ifBound_objNe {args : List Value} {Q : Option Value → Shared → Prop} (X : K.In s.heap) (I : PySem.W.InstAt s.heap x ox C od) (hs : PySem.W.findIn K (.ref C) "__ne__" = some (some (.builtin "object.__ne__")))
    (h : wpAny M A (call (.builtin "object.__ne__") (.ref x :: args)) (fun v => Q (some v)) E s) : wpAny M A (callSpecialIfBound? (.ref x) "__ne__" args) Q E s := by
  simp only [callSpecialIfBound?, bindSpecialIfBound?]
  refine wpAny_holding (wpAny_bind (wpAny_bind (wpAny_bind (I.type.here ((PySem.W.looks_findIn X hs).here ?_)))))
  refine wpAny_bind (wpAny_askSetting (wpAny_ite ?_))
  have fin : wpAny M A (call (.builtin "object.__ne__") ([.ref x] ++ args) >>= fun v => pure (some v)) Q E s := wpAny_bind (wpAny_mono h (fun v s' h' => wpAny_pure h') fun _ _ h' => h')
  split
  · exact wpAny_bind (wpAny_of_eq (F.cmp_object.ne.bind _) (wpAny_pure (by exact fin)))
  · exact wpAny_tryCatch (wpAny_bind (wpAny_of_eq (F.cmp_object.ne.bind _) (wpAny_pure (by exact fin))))
theorem rc_ne {b f : Addr} {ob : Obj} {od' : Option Obj} {Q : Value → Shared → Prop} (hu : A.units + 1 < cLine) (X : K.In s.heap) (I : PySem.W.InstAt s.heap x ox C od) (I' : PySem.W.InstAt s.heap b ob C od') (hm : PySem.W.mroIn K C (.type "object") = some true)
    (hs : PySem.W.findIn K (.ref C) "__ne__" = some (some (.builtin "object.__ne__"))) (he : PySem.W.findIn K (.ref C) "__eq__" = some (some (.ref f))) (hf : PySem.W.isFn K (.ref f) = true)
    (h : wpAny (model prog w) A.in1 (call (.ref f) [.ref x, .ref b]) (fun v s' => v = .bool true ∧ Q (.bool false) s') E s) : wpAny (model prog w) A (richCompare .NotEq (.ref x) (.ref b)) Q E s := by
  have ent : wpAny (model prog w) A.in1 (Builtin.«object.__ne__» ⟨[.ref x, .ref b], []⟩) (fun fin s' => fin = .done (.ret (.bool false)) ∧ Q (.bool false) s') E s := by
    have hu1 : A.in1.units < cLine := hu
    unfold Builtin.«object.__ne__»
    repeat (first
      | with_reducible refine wpAny_cRoomFor hu1 ?_
      | (refine wpAny_bind (m := callSpecialIfBound? (.ref x) (Str.ofString "__eq__") [.ref b]) (PySem.W.ifBound_K X I he hf (wpAny_mono h (fun r s' hr => by
          obtain ⟨rfl, hq⟩ := hr
          repeat (first | exact ⟨rfl, hq⟩ | exact wpAny_pure ⟨rfl, hq⟩ | exact wpAny_truthy_bool ⟨rfl, hq⟩ | (refine wpAny_bind (m := truthy (.bool _)) (wpAny_truthy_bool ?_)) | wp_step)) fun _ _ e => e)))
      | wp_step)
  have one : wpAny (model prog w) A (tryCompare (.ref x) "__ne__" (.ref b)) (fun r s' => r = some (.bool false) ∧ Q (.bool false) s') E s := by
    unfold tryCompare
    refine wpAny_bind (ifBound_objNe X I hs (wpAny_call (codeAny_call_builtin F.cmp_object.ne.plain F.cmpEntry_ne (PySem.W.check_slot F.cmpKind_ne F.cmpSplit_ne (I.type.andThen (PySem.W.looks_mroIn X hm)) (F.cmpArgs_ne _ _) (wpAny_mono ent (fun fin s' z => ?_) fun _ _ z => z)))))
    obtain ⟨rfl, q⟩ := z
    exact wpAny_pure ⟨rfl, q⟩
  simp only [richCompare, cmpInfo_NotEq, oneThing_ref]
  refine wpAny_holding (wpAny_bind (wpAny_cRoomFor (Nat.lt_of_succ_lt hu) ?_))
  refine wpAny_bind (I.type.here (wpAny_bind (I'.type.here ?_)))
  split
  · rename_i q
    simp at q
  · refine wpAny_bind (wpAny_pure ?_)
    simp only [Bool.false_eq_true, if_false]
    refine wpAny_bind (wpAny_mono one (fun r s1 z => ?_) fun _ _ e => e)
    obtain ⟨rfl, q⟩ := z
    exact wpAny_pure q
end
section
variable {X : Cx} {k : Nat}
theorem op_neM (T : Th X.prog X.K X.mg X.base) (hg : X.A.guards = some []) (hr : Room k X.A) (hk : 5 ≤ k := by decide) : OpR X (compareOp .NotEq) (rCmpM false X.K) := by
  intro pins s σ H x y v u Q I rx ry h
  obtain ⟨a, b, M, M', rfl, rfl, hM, hM', ef, ep, q⟩ := h
  cases rx
  cases ry
  obtain ⟨dx, f, p, l, ha⟩ := id hM
  obtain ⟨dx', f', p', l', hb⟩ := id hM'
  obtain ⟨mA, J, _⟩ := ins_get I.hok ha.i
  obtain ⟨mB, J', _⟩ := ins_get I.hok hb.i
  obtain ⟨od, J, _⟩ := J.look
  obtain ⟨od', J', _⟩ := J'.look
  have hr5 : Room (4 + 1) X.A := hr.mono hk
  show wpAny (model X.prog X.w) X.A (richCompare .NotEq (.ref a) (.ref b)) (EP X pins σ Q) X.xe s
  refine rc_ne (f := He.ma X.K (He.ga X.K "Memory") "__eq__") hr5.in1.units0 I.kIn J J' T.k_obj T.k_ne T.m_Memory_eq.at_ T.m_Memory_eq.fn ?_
  have F := (ok_Memory_eq (w := X.w) T).ok
  have e0 : Env0 X.prog X.w X.K X.mg X.base X.A.in1 X.stack s H := by
    have e := I.env0
    exact ⟨e.frames, e.mod, e.bs, e.bsz, e.funs, e.frf, e.hok, e.bare⟩
  have hbb := (ok_Memory_eq (w := X.w) T).b s [.ref a, .ref b] I.kIn rfl
  refine wpAny_call (codeAny_mono (F.run X.A.in1 X.stack s H ⟨[.ref a, .ref b], []⟩ [.ref a, .ref b] [.ref a, .ref b] (fun v H' => v = .bl true ∧ Q (.bl false) H') E0 hg hr5.in1 e0 hbb (.cons rfl (.cons rfl .nil)) ⟨a, b, M, M', rfl, hM, hM', ef, ep, rfl, q⟩) ?_)
  intro r s' hq
  rcases r with er | (w | _ | _ | _)
  · exact passL pins σ H s er s' I hq
  all_goals first
    | exact False.elim hq
    | (obtain ⟨v', H', os, bare, un, hok, rv, rfl, q'⟩ := hq
       cases rv
       obtain ⟨z, H2, I2, rz, ez⟩ := I.after (Q := fun v H' => v = .bl true ∧ Q (.bl false) H') ⟨.bl true, H', os, bare, un, hok, rfl, rfl, q'⟩
       exact ⟨rfl, ⟨.bl false, H2, I2, rfl, ez.2⟩⟩)
end
end Bp

namespace Bp
open PySem PySem.Spec PyProof.Rows L2
/-! ### len(set(v)), v a tuple of tuples of ints -/
abbrev set0 (w : World) : Obj := { cls := .type "set", dict := none, data := .set #[] 0 (.fresh 0 0 (!w.params.followText "set-order")) }
section
variable {P : Program} {w : World} {A : Around} {E : Value → Shared → Prop} {s : Shared}
/-- what stands behind the set's making -/
def SetMade (P : Program) (w : World) (s : Shared) (ks : List (Addr × List Int)) (s2 : Shared) : Prop := ∃ h' tk L es ep t, s2 = { s with heap := h', toks := tk } ∧ SetTR P w h' s.heap.objs.size L es ep t ∧ Got ks ks.length L ∧ ∀ b o, s.heap.get? b = some o → h'.get? b = some o
theorem fresh_none {h : Heap} {b : Addr} (hb : h.objs.size ≤ b) : h.get? b = none := by
  cases q : h.get? b with
  | none => rfl
  | some o => exact absurd (Heap.lt_size q) (Nat.not_lt.mpr hb)
theorem at_refs {items : Array Value} {ks : List (Addr × List Int)} (hit : items.toList = ks.map fun p => Value.ref p.1) (i : Nat) (u : Value) (hu : items[i]? = some u) : ∃ p, ks[i]? = some p ∧ u = .ref p.1 := by
  rw [← Array.getElem?_toList, hit, List.getElem?_map] at hu
  cases e : ks[i]? with
  | none => rw [e] at hu; cases hu
  | some p => rw [e] at hu; exact ⟨p, rfl, (Option.some.inj hu).symm⟩
theorem set_of_tup {v : Addr} {items : Array Value} (ks : List (Addr × List Int)) {Q : Value → Shared → Prop} (hh : A.handled = none) (hv : s.heap.IsTuple v items) (hit : items.toList = ks.map fun p => Value.ref p.1) (hk : ∀ p ∈ ks, IsT P w s.heap p.2 p.1)
    (few : ks.length < 64) (room : A.units + 3 < cLine) (h : ∀ s2, SetMade P w s ks s2 → Q (.ref s.heap.objs.size) s2) : wpAny (model P w) A (call (.type "set") [.ref v]) Q E s := by
  have nks : items.size = ks.length := by rw [← Array.length_toList, hit, List.length_map]
  obtain ⟨c, tl, f1⟩ := PySem.F.called_set.mro
  have f2 := PySem.F.called_set.made
  have f3 := PySem.F.called_set.sub
  refine wpAny_call (codeAny_of_tree (show wpAny _ _ (callAny (.type "set") _) _ _ _ from wpAny_pure ⟨Code.quiet_builtin _ (by decide +kernel), codeAny_builtin PySem.F.entry_type_call ?_⟩))
  rw [Around.under_plain (weight_type_call_type "set" [.ref v] []) rfl]
  have f4 := PySem.F.called_set.notType
  have f5 := PySem.F.called_set.canCreate
  have f6 := PySem.F.typeCall_set_1 (.ref v)
  repeat any_goals first | assumption | wp_step
  refine codeAny_mono (code_set_led1 (.ref v) (E := E) (Q₁ := fun obj s1 => obj = .ref s.heap.objs.size ∧ s1 = { s with heap := s.heap.push (set0 w) }) ⟨rfl, rfl⟩) fun r s1 hr => ?_
  rcases r with e | (_ | _ | _ | obj)
  · exact hr
  iterate 3 exact hr.elim
  · obtain ⟨rfl, rfl⟩ := hr
    have hS : (s.heap.push (set0 w)).get? s.heap.objs.size = some (set0 w) := Heap.get?_push_size _ rfl
    have hT : Shared.TypeIs { s with heap := s.heap.push (set0 w) } (.ref s.heap.objs.size) "set" := ⟨_, hS, rfl⟩
    have f7 := PySem.F.called_set.init.lookup
    have f8 := PySem.F.called_set.init.bind (.ref s.heap.objs.size)
    repeat any_goals first | assumption | wp_step
    refine codeAny_mono (codeAny_call_builtin (R := wants (fun r s2 => r = .none ∧ SetMade P w s ks s2) E) PySem.F.called_set.init.plain PySem.F.entry_set_init (check_set_init_1 hT ?_)) fun r2 s2 hr2 => ?_
    · obtain ⟨⟨oc, od, oda, osl⟩, ho, hc, nl, hd⟩ := hv
      dsimp only at hc hd
      subst hc hd
      have vlt : v < s.heap.objs.size := Heap.lt_size ho
      have hv1 : (s.heap.push (set0 w)).IsTuple v items := ⟨_, Heap.get?_push_of_some _ ho, rfl, nl, rfl⟩
      have ho1 := Heap.get?_push_of_some (set0 w) ho
      have g1 := PySem.F.sub_tuple_set
      have g2 := PySem.F.sub_tuple_frozenset
      have g3 : (Value.type "tuple" == Value.type "dict") = false := by decide
      unfold Builtin.«set.__init__» noKeywords Builtin.Frozenset.updateFrom
      generalize hPI : pyIter = PI
      wp_walk
      subst hPI
      refine wpAny_pyIter_tuple hv1 (wpAny_bind (wpAny_runValue ?_))
      have hh3 : A.in1.in1.in1.handled = none := by simp [hh]
      have sz1 : (s.heap.push (set0 w)).objs.size = s.heap.objs.size + 1 := Heap.size_push ..
      refine set_update_tups ((Walks.tuple hh3 _ v (by rw [sz1]; exact Nat.ne_of_lt (Nat.lt_succ_of_lt vlt)) items).toS) s.heap.objs.size (by rw [sz1]; simp; exact Nat.ne_of_gt vlt) ks nks few (at_refs hit) s.heap hk (fresh_none (Nat.le_refl _))
        (fun b hb => fresh_none (by rw [List.mem_singleton.mp hb, sz1]; exact Nat.le_succ _)) room (items.size - 0) 0 _ (by omega) (Nat.zero_le _) ⟨⟨_, Heap.get?_push_size _ rfl, rfl, rfl⟩, hv1.push _⟩ (fun b o e => Heap.get?_push_of_some _ (Heap.get?_push_of_some _ e))
        ⟨[], #[], 0, _, setTR_fresh (Heap.get?_push_of_some _ hS), Got.zero ks⟩ ?_
      intro s' L es ep t hm hS' got hkp
      obtain ⟨h', g', d', tk', os'⟩ := s'
      obtain rfl : g' = s.gens := hm.gens
      obtain rfl : d' = s.drawn := hm.drawn
      obtain rfl : os' = s.os := hm.os
      rw [nks] at got
      show wpAny _ _ _ _ _ _
      refine wpAny_pure ?_
      show wpAny _ _ (ret Value.none) _ _ _
      exact wpAny_pure ⟨rfl, h', tk', L, es, ep, t, rfl, hS', got, hkp⟩
    · rcases r2 with e | (_ | _ | _ | r)
      · exact hr2
      iterate 3 exact hr2.elim
      · obtain ⟨rfl, md⟩ := hr2
        have hmd := h s2 md
        obtain ⟨h', tk, L, es, ep, t, rfl, _⟩ := md
        repeat any_goals first | assumption | wp_step
end
end Bp

namespace Bp
open PySem PySem.Spec PyProof.Rows L2
def tLenSetT (K : PySem.W.Frag) (ta : TE) : TE := fun σ H Q => ta σ H fun x H1 => ∃ (l : Addr) (ks : List (Addr × List Int)), x = .ref l ∧ SqT K H1 l (ks.map fun p => V.ref p.1) ∧ (∀ p ∈ ks, SqT K H1 p.1 (p.2.map V.int)) ∧ ks.length < 64 ∧ (ks.map Prod.snd).Nodup ∧ Q (.int ks.length) H1
theorem len_sub {α : Type} [DecidableEq α] : ∀ {l m : List α}, l.Nodup → (∀ x ∈ l, x ∈ m) → l.length ≤ m.length
  | [], m, _, _ => Nat.zero_le _
  | a :: l, m, nd, h => by
    have ha := h a List.mem_cons_self
    obtain ⟨na, nd'⟩ := List.nodup_cons.mp nd
    have := len_sub (m := m.erase a) nd' fun x hx => (List.mem_erase_of_ne (fun z => na (by rw [← z]; exact hx))).mpr (h x (List.mem_cons_of_mem _ hx))
    rw [List.length_erase_of_mem ha] at this
    have pos : 0 < m.length := List.length_pos_of_mem ha
    show l.length + 1 ≤ m.length
    omega
section
variable {X : Cx} {a : Expr} {ta : TE} {p p2 q pos : Pos}
theorem pe_lenSetT (hc : X.calm = true) (hu : X.A.units + 64 < cLine) (gl : Gl X "len") (hm : X.mg "len" = none) (gl2 : Gl X "set") (hm2 : X.mg "set" = none) (ha : PE X a ta)
    (na : starEach [a] X.env = (false, eval a X.env) :: starEach [] X.env := by rfl) : PE X (.Call (.Name "len" p) [.Call (.Name "set" p2) [a] [] q] [] pos) (tLenSetT X.K ta) := by
  constructor
  intro pins s σ H Q I h
  refine Call_ (ld_blt I gl hm PySem.boot_len (PyProof.Rows.callWith_builtin1 (PyProof.Rows.args_cons ?_ rfl) rfl rfl))
  refine Call_ (ld_blt I gl2 hm2 PyProof.Rows.boot_set (PyProof.Rows.callWith_type1 (PyProof.Rows.args_cons (thn (ha.run pins s σ H _ I h) ?_) na) na rfl))
  rintro v s1 ⟨x, H1, I1, r1, l, ks, rfl, hl, hk, few, nd, q1⟩
  refine PyProof.Rows.args_nil ?_
  cases r1
  obtain ⟨its, r, pt, hz⟩ := I1.tuple hl
  refine set_of_tup (P := X.prog) (w := X.w) ks (I1.ok.hd hc) (show s1.heap.IsTuple l its.toArray from pt) (by simpa using refs_of_vals r) (fun p hp => I1.isT (hk p hp)) few (by omega) ?_
  rintro s2 ⟨h', tk, L, es, ep, t, rfl, R, got, keep⟩
  refine PyProof.Rows.args_nil ?_
  obtain ⟨o, ho, hex, hd⟩ := R.ob
  have I2 : Inv X pins σ H1 { s1 with heap := h', toks := tk } := I1.kept keep
  have e : es.size = ks.length := by
    rw [SetTR.size (s := { s1 with heap := h', toks := tk }) R]
    have h1 : L.length ≤ ks.length := got.len
    have h2 := len_sub (l := ks.map Prod.snd) (m := L.map Prod.snd) nd fun y hy => by
      obtain ⟨p, hp, rfl⟩ := List.mem_map.mp hy
      exact got.all p (by rw [List.take_length]; exact hp)
    rw [List.length_map, List.length_map] at h2
    omega
  refine call_len_set ho hex hd (SetTR.fits (s := { s1 with heap := h', toks := tk }) R) (by rw [e]; omega) ⟨.int ks.length, H1, I2.tok _, ⟨_, by rw [e]⟩, q1⟩
theorem cr_maxK {K : PySem.W.Frag} (hK : X.K = K) (hc : X.calm = true) : CallR X (.builtin "max") (rMax K) := hK ▸ cr_max hc
theorem cr_minK {K : PySem.W.Frag} (hK : X.K = K) (hc : X.calm = true) : CallR X (.builtin "min") (rMin K) := hK ▸ cr_min hc
theorem pi_tupK {K : PySem.W.Frag} {tg l : Expr} {tl : TE} (hK : X.K = K) (hl : PE X l tl) : PI X tg l (iTup K tl) := hK ▸ pi_tup hl
theorem pi_listK {K : PySem.W.Frag} {tg l : Expr} {tl : TE} (hK : X.K = K) (hl : PE X l tl) : PI X tg l (iList K tl) := hK ▸ pi_list hl
end
end Bp

namespace Bp
open PySem PySem.Spec PyProof.Rows L2
section
variable {P : Program} {w : World} {K : PySem.W.Frag} {mg : Str → Option Value} {base : Heap}
/-! ### _law_is_int, _law_moved, _law_is_cell -/
def sp_law_is_int (K : PySem.W.Frag) : Sp := sp_is_integer K
theorem ok_law_is_int (T : Th P K mg base) : GF P w K mg base 1 (He.ga K "_law_is_int") ["_law_value"] (sp_law_is_int K) := by
  refine gf_of T.d_law_is_int sc_law_is_int (fun vs H Q E h => by obtain ⟨i, rfl, q⟩ := h; rfl) (fun _ _ _ _ _ _ us hl => match us, hl with | [_], _ => rfl) fun cdv A outer s H vs Q E hg hr hsp => ?_
  obtain ⟨i, rfl, q⟩ := hsp
  refine ⟨_, (pss_one (ps_ret (pe_and (pe_callB call_isi (by rfl) T.f_isinstance (by decide +kernel) (pa_cons (pv 0) (pa_cons (pe_bltn (v := .ty "int") (by rfl) T.f_int (by decide +kernel) rfl) pa_nil))) (pe_one (pe_not (pe_callB call_isi (by rfl) T.f_isinstance (by decide +kernel) (pa_cons (pv 0) (pa_cons (pe_bltn (v := .ty "bool") (by rfl) T.f_bool (by decide +kernel) rfl) pa_nil)))))))), ?_⟩
  refine ⟨_, rfl, _, _, _, _, true, rfl, .ty "int", .base (.int i), kit_ii, true, rfl, iteT ?_⟩
  exact ⟨_, rfl, _, _, _, _, false, rfl, .ty "bool", .base (.int i), kit_ib, false, rfl, q⟩
def sp_law_moved (K : PySem.W.Frag) : Sp := sp_moved K
theorem ok_law_moved (T : Th P K mg base) : GF P w K mg base 1 (He.ga K "_law_moved") ["_law_cell", "_law_shift"] (sp_law_moved K) := by
  refine gf_of T.d_law_moved sc_law_moved (fun vs H Q E h => by obtain ⟨u, v, c, d, rfl, hu, hv, q⟩ := h; rfl) (fun _ _ _ _ _ _ us hl => match us, hl with | [_, _], _ => rfl) fun cdv A outer s H vs Q E hg hr hsp => ?_
  obtain ⟨u, v, c, d, rfl, hu, hv, q⟩ := hsp
  refine ⟨_, (pss_one (ps_ret (pe_tup (pa_cons (pe_op op_add (pe_ix ix_tup (pv 0) pe_int (fun _ _ => rfl)) (pe_ix ix_tup (pv 1) pe_int (fun _ _ => rfl))) (pa_cons (pe_op op_add (pe_ix ix_tup (pv 0) pe_int (fun _ _ => rfl)) (pe_ix ix_tup (pv 1) pe_int (fun _ _ => rfl))) pa_nil))))), ?_⟩
  obtain ⟨a, rfl, ha⟩ := hu.cellI
  obtain ⟨b, rfl, hb⟩ := hv.cellI
  refine ⟨_, rfl, _, _, _, _, rfl, rfl, SqT.of ha, rfl, _, rfl, _, _, _, _, rfl, rfl, SqT.of hb, rfl, _, _, rfl, rfl, ?_⟩
  refine ⟨_, rfl, _, _, _, _, rfl, rfl, SqT.of ha, rfl, _, rfl, _, _, _, _, rfl, rfl, SqT.of hb, rfl, _, _, rfl, rfl, ?_⟩
  exact ⟨by show 2 ≤ sizeLine; decide, fun p np => q _ _ (sameN np) (.cell upd_same)⟩
def sp_law_is_cell (K : PySem.W.Frag) : Sp := sp_is_cell K
theorem ok_law_is_cell (T : Th P K mg base) : GF P w K mg base 2 (He.ga K "_law_is_cell") ["_law_value"] (sp_law_is_cell K) := by
  refine gf_of T.d_law_is_cell sc_law_is_cell (fun vs H Q E h => by obtain ⟨u, c, rfl, hu, q⟩ := h; rfl) (fun _ _ _ _ _ _ us hl => match us, hl with | [_], _ => rfl) fun cdv A outer s H vs Q E hg hr hsp => ?_
  obtain ⟨u, c, rfl, hu, q⟩ := hsp
  refine ⟨_, (pss_one (ps_ret (pe_and (pe_callB call_isi (by rfl) T.f_isinstance (by decide +kernel) (pa_cons (pv 0) (pa_cons (pe_bltn (v := .ty "tuple") (by rfl) T.f_tuple (by decide +kernel) rfl) pa_nil))) (pe_and (pe_cmpR op_eq (pe_callB call_len_seq (by rfl) T.f_len (by decide +kernel) (pa_cons (pv 0) pa_nil)) pe_int (nomark _)) (pe_one (pe_callB (cr_all rfl) (by rfl) T.f_all (by decide +kernel) (pa_cons (pe_lc (own := [("_law_one", 1)]) (tt := tYes) rfl sc_law_is_cell.nd (pi_tup (pv 0)) (blkOk_by (N := N_law_is_cell) (sc := defScope s_law_is_cell) (by decide +kernel)) (fun _ _ _ _ _ => (pg_name (i := 1) sc_law_is_cell.nd rfl (Or.inl rfl))) (fun _ _ _ _ _ => pts_nil) (fun _ _ _ _ _ => (pe_fn T.g_law_is_int (ok_law_is_int T) hg hr passL (pa_cons (pv 1) pa_nil)))) pa_nil))))))), ?_⟩
  obtain ⟨a, rfl, ha⟩ := hu.cellI
  refine ⟨_, rfl, _, _, _, _, true, rfl, .ty "tuple", .base (.tup ha), kit_tt, true, rfl, iteT ?_⟩
  refine ⟨_, rfl, _, _, rfl, .inr (SqT.of ha), rfl, _, rfl, iteD rfl ?_⟩
  refine ⟨_, rfl, a, rfl, ⟨_, SqT.of ha⟩, fun D hD => lc_it (walk_tup (xs := [.int c.1, .int c.2])) (LcP H D fun _ v _ => v = .bl true) (LcP.zero hD) (fun i H' _ p => SqT.of (p.1 _ _ ha)) (fun i x H' H'' hi p y => ?_) (fun H' p => ?_)⟩
  · obtain ⟨rfl, hx⟩ := y
    obtain ⟨j, rfl⟩ : ∃ j : Int, x = .int j := by
      match i, hi, hx with
      | 0, _, hx => exact ⟨_, (Option.some.inj hx).symm⟩
      | 1, _, hx => exact ⟨_, (Option.some.inj hx).symm⟩
    exact ⟨rfl, _, rfl, j, rfl, fun _ => LcP.next (fun _ _ _ _ h _ => h) hD (Nat.lt_of_lt_of_le hi (by show 2 ≤ 1000000; decide)) p (Same.refl _) rfl⟩
  · obtain ⟨sm, hl⟩ := LcP.map (f := fun _ => .bl true) p fun _ _ _ h => h
    exact ⟨D, [true, true], rfl, SqL.of hl, q _ sm⟩
/-! ### _law_is_deal -/
def sp_law_is_deal (K : PySem.W.Frag) : Sp := sp_is_deal K
theorem ok_law_is_deal (T : Th P K mg base) : GF P w K mg base 2 (He.ga K "_law_is_deal") ["_law_value"] (sp_law_is_deal K) := by
  refine gf_of T.d_law_is_deal sc_law_is_deal (fun vs H Q E h => by obtain ⟨u, d, rfl, hu, ok, q⟩ := h; rfl) (fun _ _ _ _ _ _ us hl => match us, hl with | [_], _ => rfl) fun cdv A outer s H vs Q E hg hr hsp => ?_
  obtain ⟨u, d, rfl, hu, ok, q⟩ := hsp
  refine ⟨_, (pss_cons (ps_if (PW.pt (pw_or (pt_not (pt_val (pe_callB call_isi (by rfl) T.f_isinstance (by decide +kernel) (pa_cons (pv 0) (pa_cons (pe_bltn (v := .ty "tuple") (by rfl) T.f_tuple (by decide +kernel) rfl) pa_nil))))) (pw_or (pt_cmpR op_ne (pe_callB call_len_seq (by rfl) T.f_len (by decide +kernel) (pa_cons (pv 0) pa_nil)) pe_int (nomark _)) (pw_or1 (pt_not (pt_val (pe_callB (cr_all rfl) (by rfl) T.f_all (by decide +kernel) (pa_cons (pe_lc (own := [("_law_one", 1)]) (tt := tYes) rfl sc_law_is_deal.nd (pi_tup (pv 0)) (blkOk_by (N := N_law_is_deal) (sc := defScope s_law_is_deal) (by decide +kernel)) (fun _ _ _ _ _ => (pg_name (i := 1) sc_law_is_deal.nd rfl (Or.inl rfl))) (fun _ _ _ _ _ => pts_nil) (fun _ _ _ _ _ => (pe_fn T.g_law_is_int (ok_law_is_int T) hg hr passL (pa_cons (pv 1) pa_nil)))) pa_nil)))))))) (pss_one (ps_ret pe_bl)) pss_nil)
    (pss_one (ps_ret (pe_and (pe_cmpR op_gt (pe_ix ix_tup (pv 0) pe_int (fun _ _ => rfl)) pe_int (nomark _)) (pe_and (pe_cmpR op_gt (pe_ix ix_tup (pv 0) pe_int (fun _ _ => rfl)) pe_int (nomark _)) (pe_one (pe_chain op_le op_lt pe_int (pe_ix ix_tup (pv 0) pe_int (fun _ _ => rfl)) (pe_ix ix_tup (pv 0) pe_int (fun _ _ => rfl))))))))), ?_⟩
  obtain ⟨a, rfl, ha⟩ := hu.dealI
  have h1 := ok.p1
  have h5 := ok.r1
  refine ⟨_, rfl, _, _, _, _, true, rfl, .ty "tuple", .base (.tup ha), kit_tt, true, rfl, iteF ?_⟩
  refine ⟨_, rfl, _, _, rfl, .inr (SqT.of ha), rfl, _, rfl, iteF ?_⟩
  refine ⟨_, rfl, a, rfl, ⟨_, SqT.of ha⟩, fun D hD => lc_it (walk_tup (xs := [.int d.1, .int d.2.1, .int d.2.2])) (LcP H D fun _ v _ => v = .bl true) (LcP.zero hD) (fun i H' _ p => SqT.of (p.1 _ _ ha)) (fun i x H' H'' hi p y => ?_) (fun H' p => ?_)⟩
  · obtain ⟨rfl, hx⟩ := y
    obtain ⟨j, rfl⟩ : ∃ j : Int, x = .int j := by
      match i, hi, hx with
      | 0, _, hx => exact ⟨_, (Option.some.inj hx).symm⟩
      | 1, _, hx => exact ⟨_, (Option.some.inj hx).symm⟩
      | 2, _, hx => exact ⟨_, (Option.some.inj hx).symm⟩
    exact ⟨rfl, _, rfl, j, rfl, fun _ => LcP.next (fun _ _ _ _ h _ => h) hD (Nat.lt_of_lt_of_le hi (by show 3 ≤ 1000000; decide)) p (Same.refl _) rfl⟩
  · obtain ⟨sm, hl⟩ := LcP.map (f := fun _ => .bl true) p fun _ _ _ h => h
    refine ⟨D, [true, true, true], rfl, SqL.of hl, true, rfl, iteF ?_⟩
    have ha' : SqT K H' a [.int d.1, .int d.2.1, .int d.2.2] := SqT.of (sm _ _ ha)
    refine ⟨_, rfl, a, _, 0, _, rfl, rfl, ha', rfl, _, _, rfl, rfl, _, rfl, iteD (by show (0 : Int) < d.1; omega) ?_⟩
    refine ⟨_, rfl, a, _, 2, _, rfl, rfl, ha', rfl, _, _, rfl, rfl, _, rfl, iteD (by show (0 : Int) < d.2.2; omega) ?_⟩
    refine ⟨_, rfl, a, _, 1, _, rfl, rfl, ha', rfl, _, _, rfl, rfl, _, rfl, iteD ok.q1 ?_⟩
    refine ⟨_, rfl, a, _, 0, _, rfl, rfl, ha', rfl, _, _, rfl, rfl, ?_⟩
    show Q (.bl (decide (d.2.1 < d.1))) H'
    rw [decide_eq_true ok.q2]
    exact q _ sm
end
end Bp

namespace Bp
open PySem PySem.Spec PyProof.Rows L2
theorem fdiv_rest (x y : Int) : x - y * x.fdiv y = x.fmod y := by
  have := Int.mul_fdiv_add_fmod x y
  omega
section
variable {P : Program} {w : World} {K : PySem.W.Frag} {mg : Str → Option Value} {base : Heap}
/-! ### _law_bank, _law_beats -/
def sp_law_bank (K : PySem.W.Frag) : Sp := sp_bank_of K
theorem ok_law_bank (T : Th P K mg base) : GF P w K mg base 1 (He.ga K "_law_bank") ["_law_deal", "_law_cell"] (sp_law_bank K) := by
  refine gf_of T.d_law_bank sc_law_bank (fun vs H Q E h => by obtain ⟨u, v, d, c, rfl, hu, hv, ok, q⟩ := h; rfl) (fun _ _ _ _ _ _ us hl => match us, hl with | [_, _], _ => rfl) fun cdv A outer s H vs Q E hg hr hsp => ?_
  obtain ⟨u, v, d, c, rfl, hu, hv, ok, q⟩ := hsp
  refine ⟨_, (pss_cons (ps_asg (pv 0) (pg_tup rfl (pgs_cons (pg_name (i := 2) sc_law_bank.nd rfl (Or.inl rfl)) (pgs_cons (pg_name (i := 3) sc_law_bank.nd rfl (Or.inl rfl)) (pgs_cons (pg_name (i := 4) sc_law_bank.nd rfl (Or.inl rfl)) pgs_nil)))))
    (pss_cons (ps_set (i := 5) sc_law_bank.nd rfl (Or.inl rfl) (pe_op op_fdivN (pe_ix ix_tup (pv 1) pe_int (fun _ _ => rfl)) (pv 4)))
    (pss_one (ps_ret (pe_op op_add (pe_op op_modN (pe_callTy call_int1 (by rfl) T.f_int (by decide +kernel) (pa_cons (pe_op op_sub (pe_ix ix_tup (pv 1) pe_int (fun _ _ => rfl)) (pe_op op_mul (pv 3) (pv 5))) pa_nil)) (pv 2)) (pe_op op_mul (pv 2) (pe_callTy call_int1 (by rfl) T.f_int (by decide +kernel) (pa_cons (pe_op op_sub (pe_ix ix_tup (pv 1) pe_int (fun _ _ => rfl)) (pe_op op_mul (pv 4) (pv 5))) pa_nil)))))))), ?_⟩
  obtain ⟨a, rfl, ha⟩ := hu.dealI
  obtain ⟨b, rfl, hb⟩ := hv.cellI
  have h1 := ok.p1
  have h2 := ok.p2
  have h3 := ok.q1
  have h4 := ok.q2
  have h5 := ok.r1
  have h6 := ok.r2
  refine ⟨_, rfl, a, _, rfl, SqT.of ha, rfl, _, _, rfl, _, _, rfl, _, _, rfl, rfl, ?_⟩
  refine ⟨_, rfl, b, _, 1, _, rfl, rfl, SqT.of hb, rfl, _, rfl, _, _, rfl, rfl, ⟨by omega, by omega⟩, ?_⟩
  have e1 : (Q (.int (bankOf d c)) H) = (Q (.int ((c.1 - d.2.1 * c.2.fdiv d.2.2).fmod d.1 + d.1 * (c.2 - d.2.2 * c.2.fdiv d.2.2))) H) := by
    unfold bankOf
    rw [fdiv_rest]
  rw [e1] at q
  exact ⟨_, rfl, b, _, 0, _, rfl, rfl, SqT.of hb, rfl, _, rfl, _, rfl, _, _, rfl, rfl, .inl ⟨by omega, by omega⟩, _, _, rfl, rfl, .inl ⟨_, rfl, _, rfl, _, _, rfl, rfl, by omega,
    _, rfl, _, rfl, b, _, 1, _, rfl, rfl, SqT.of hb, rfl, _, rfl, _, rfl, _, _, rfl, rfl, .inl ⟨by omega, by omega⟩, _, _, rfl, rfl, .inl ⟨_, rfl, _, _, rfl, rfl, .inl ⟨by omega, by omega⟩, _, _, rfl, rfl, q⟩⟩⟩
def sp_law_beats (K : PySem.W.Frag) : Sp := sp_beats_of K
theorem ok_law_beats (T : Th P K mg base) : GF P w K mg base 2 (He.ga K "_law_beats") ["_law_deal", "_law_shape"] (sp_law_beats K) := by
  refine gf_of T.d_law_beats sc_law_beats (fun vs H Q E h => by obtain ⟨u, v, d, sh, rfl, hu, hv, ok, ne, len, q⟩ := h; rfl) (fun _ _ _ _ _ _ us hl => match us, hl with | [_, _], _ => rfl) fun cdv A outer s H vs Q E hg hr hsp => ?_
  obtain ⟨u, v, d, sh, rfl, hu, hv, ok, ne, len, q⟩ := hsp
  refine ⟨_, (pss_cons (ps_set (i := 2) sc_law_beats.nd rfl (Or.inr rfl) (pe_lc (own := [("_law_cell", 3)]) (tt := tYes) rfl sc_law_beats.nd (pi_tup (pv 1)) (blkOk_by (N := N_law_beats) (sc := defScope s_law_beats) (by decide +kernel)) (fun _ _ _ _ _ => (pg_name (i := 3) sc_law_beats.nd rfl (Or.inl rfl))) (fun _ _ _ _ _ => pts_nil) (fun _ _ _ _ _ => (pe_fn T.g_law_bank (ok_law_bank T) hg hr passL (pa_cons (pv 0) (pa_cons (pv 3) pa_nil))))))
    (pss_one (ps_ret (pe_callB (cr_max rfl) (by rfl) T.f_max (by decide +kernel) (pa_cons (pe_lc (own := [("_law_number", 4)]) (tt := tYes) rfl sc_law_beats.nd (pi_list (pv 2)) (blkOk_by (N := N_law_beats) (sc := defScope s_law_beats) (by decide +kernel)) (fun _ _ _ _ _ => (pg_name (i := 4) sc_law_beats.nd rfl (Or.inl rfl))) (fun _ _ _ _ _ => pts_nil) (fun _ _ _ _ _ => (pe_bmK (K := K) rfl PySem.F.plainAttrs_list PySem.F.slot_list_count PySem.F.type_list_count (mt_lcountK (K := K) rfl) (pv 2) (pa_cons (pv 4) pa_nil)))) pa_nil))))), ?_⟩
  obtain ⟨a, xs, S⟩ := hv.shapeI
  obtain rfl := S.e
  refine ⟨_, rfl, a, rfl, ⟨_, Or.inl S.t⟩, fun D hD => lc_it (walk_tup (xs := xs)) (LcP H D fun i v _ => ∃ c, sh[i]? = some c ∧ v = .int (bankOf d c)) (LcP.zero hD) (fun i H' _ p => Or.inl (rd_same S.t p.1)) (fun i x H' H'' hi p y => ?_) (fun H' p => ?_)⟩
  · obtain ⟨rfl, hx⟩ := y
    obtain ⟨c, hc, hxc⟩ := S.i i x hx
    exact ⟨rfl, _, rfl, _, rfl, u, x, d, c, rfl, hu.s p.1, hxc.s p.1, ok, fun _ => LcP.next (fun _ _ _ _ h _ => h) hD (by have := S.l; omega) p (Same.refl _) ⟨c, hc, rfl⟩⟩
  · obtain ⟨sm, hl⟩ := LcP.mapL (l := sh.map (bankOf d)) (g := .int) p (by rw [List.length_map]; exact S.l) fun i v ⟨c, e1, e2⟩ => ⟨bankOf d c, by rw [List.getElem?_map, e1]; rfl, e2⟩
    refine ⟨_, rfl, D, rfl, ⟨_, SqL.of hl⟩, fun D2 hD2 => lc_it (walk_list (xs := (sh.map (bankOf d)).map V.int)) (LcP H' D2 fun i v _ => ∃ b, (sh.map (bankOf d))[i]? = some b ∧ v = .int ((sh.map (bankOf d)).count b : Int)) (LcP.zero hD2) (fun i H' _ p => SqL.of (p.1 _ _ hl)) (fun i x H2 H3 hi p y => ?_) (fun H2 p => ?_)⟩
    · obtain ⟨rfl, hx⟩ := y
      obtain ⟨b, hb, rfl⟩ : ∃ b, (sh.map (bankOf d))[i]? = some b ∧ x = .int b := by
        rw [List.getElem?_map] at hx
        cases e : (sh.map (bankOf d))[i]? with
        | none => rw [e] at hx; cases hx
        | some b => rw [e] at hx; exact ⟨b, rfl, (Option.some.inj hx).symm⟩
      exact ⟨rfl, _, rfl, .inl ⟨rfl, _, SqL.of (p.1 _ _ hl)⟩, _, rfl, D, _, b, rfl, rfl, SqL.of (p.1 _ _ hl), LcP.next (fun _ _ _ _ h _ => h) hD2 (by simp at hi; omega) p (Same.refl _) ⟨b, hb, rfl⟩⟩
    · obtain ⟨sm2, hl2⟩ := LcP.mapL (l := (sh.map (bankOf d)).map fun b => ((sh.map (bankOf d)).count b : Int)) (g := .int) p (by simp) fun i v ⟨b, e1, e2⟩ => ⟨_, by rw [List.getElem?_map, e1]; rfl, e2⟩
      refine ⟨D2, _, rfl, SqL.of hl2, ?_, fun m h1 h2 => ?_⟩
      · have : sh.length ≠ 0 := fun z => ne (List.eq_nil_of_length_eq_zero z)
        simp
        omega
      · rw [maxL_uniq h1 h2]
        exact q _ (sm.trans sm2)
end
end Bp

namespace Bp
open PySem PySem.Spec PyProof.Rows L2
section
variable {P : Program} {w : World} {K : PySem.W.Frag} {mg : Str → Option Value} {base : Heap}
/-! ### _law_settled: slots cells 0, x 1, y 2, cell 3 -/
def sp_law_settled (K : PySem.W.Frag) : Sp := sp_settled K
theorem ok_law_settled (T : Th P K mg base) : GF P w K mg base 2 (He.ga K "_law_settled") ["_law_cells_here"] (sp_law_settled K) := by
  refine gf_of T.d_law_settled sc_law_settled (fun vs H Q E h => by obtain ⟨u, cs, a, xs, rfl, S, ne, len, q⟩ := h; rfl) (fun _ _ _ _ _ _ us hl => match us, hl with | [_], _ => rfl) fun cdv A outer s H vs Q E hg hr hsp => ?_
  obtain ⟨u, cs, a, xs, rfl, S, ne, len, q⟩ := hsp
  refine ⟨_, (pss_cons (ps_asg (pe_tup (pa_cons (pe_callB (cr_min rfl) (by rfl) T.f_min (by decide +kernel) (pa_cons (pe_lc (own := [("_law_cell", 3)]) (tt := tYes) rfl sc_law_settled.nd (pi_seq (pv 0)) (blkOk_by (N := N_law_settled) (sc := defScope s_law_settled) (by decide +kernel)) (fun _ _ _ _ _ => (pg_name (i := 3) sc_law_settled.nd rfl (Or.inl rfl))) (fun _ _ _ _ _ => pts_nil) (fun _ _ _ _ _ => (pe_ix (ix_tupK (K := K) rfl) (pv 3) pe_int (fun _ _ => rfl)))) pa_nil)) (pa_cons (pe_callB (cr_min rfl) (by rfl) T.f_min (by decide +kernel) (pa_cons (pe_lc (own := [("_law_cell", 3)]) (tt := tYes) rfl sc_law_settled.nd (pi_seq (pv 0)) (blkOk_by (N := N_law_settled) (sc := defScope s_law_settled) (by decide +kernel)) (fun _ _ _ _ _ => (pg_name (i := 3) sc_law_settled.nd rfl (Or.inl rfl))) (fun _ _ _ _ _ => pts_nil) (fun _ _ _ _ _ => (pe_ix (ix_tupK (K := K) rfl) (pv 3) pe_int (fun _ _ => rfl)))) pa_nil)) pa_nil))) (pg_tup rfl (pgs_cons (pg_name (i := 1) sc_law_settled.nd rfl (Or.inr rfl)) (pgs_cons (pg_name (i := 2) sc_law_settled.nd rfl (Or.inr rfl)) pgs_nil))))
    (pss_one (ps_ret (pe_callTy call_tuple_frz (by rfl) T.f_tuple (by decide +kernel) (pa_cons (pe_callB cr_sortedPO (by rfl) T.f_sorted (by decide +kernel) (pa_cons (pe_lc (own := [("_law_cell", 3)]) (tt := tYes) rfl sc_law_settled.nd (pi_seq (pv 0)) (blkOk_by (N := N_law_settled) (sc := defScope s_law_settled) (by decide +kernel)) (fun _ _ _ _ _ => (pg_name (i := 3) sc_law_settled.nd rfl (Or.inl rfl))) (fun _ _ _ _ _ => pts_nil) (fun _ _ _ _ _ => (pe_tup (pa_cons (pe_op op_sub (pe_ix (ix_tupK (K := K) rfl) (pv 3) pe_int (fun _ _ => rfl)) (pv 1)) (pa_cons (pe_op op_sub (pe_ix (ix_tupK (K := K) rfl) (pv 3) pe_int (fun _ _ => rfl)) (pv 2)) pa_nil))))) pa_nil)) pa_nil))))), ?_⟩
  obtain rfl := S.e
  have hne : xs.length ≠ 0 := by
    have : cs.length ≠ 0 := fun z => ne (List.eq_nil_of_length_eq_zero z)
    have := S.l
    omega
  have hS := S.l
  -- the two least
  have half : ∀ (H1 : Hp) (S1 : SqC K H1 (.ref a) cs a xs) (f : Cell → Int) (j : Int) (hj : ∀ c : Cell, atI [V.int c.1, V.int c.2] j = some (.int (f c))) (R : VK), (∀ H2, Same H1 H2 → R (.int (minL (cs.map f))) H2) →
      tCB (rMin K) (tCons (tLc (iSeq K (tVar 0)) (gName 3) tYes (tOp (rIxT K) (tVar 3) (tC (.int j))) [3]) tNil) (start N_law_settled [.ref a]) H1 R := by
    intro H1 S1 f j hj R hR
    refine ⟨_, rfl, a, rfl, seq_walk S1.s fun J G W hG D hD => lc_it W (LcP H1 D fun i v _ => ∃ c, cs[i]? = some c ∧ v = .int (f c)) (LcP.zero hD) (fun i H' _ p => hG _ p.1) (fun i x H' H'' hi p y => ?_) (fun H' p => ?_)⟩
    · obtain ⟨rfl, hx⟩ := y
      obtain ⟨c, hc, hxc⟩ := S1.i i x hx
      obtain ⟨b, rfl, hb⟩ := (hxc.s p.1).cellI
      exact ⟨rfl, _, rfl, b, _, j, _, rfl, rfl, SqT.of hb, hj c, LcP.next (fun _ _ _ _ h _ => h) hD (by omega) p (Same.refl _) ⟨c, hc, rfl⟩⟩
    · obtain ⟨sm, hl⟩ := LcP.mapL (l := cs.map f) (g := .int) p (by rw [List.length_map]; exact S1.l) fun i v ⟨c, e1, e2⟩ => ⟨f c, by rw [List.getElem?_map, e1]; rfl, e2⟩
      refine ⟨D, cs.map f, rfl, SqL.of hl, by rw [List.length_map]; omega, fun m h1 h2 => ?_⟩
      rw [minL_uniq h1 h2]
      exact hR _ sm
  refine half H S Prod.fst 0 (fun c => rfl) _ fun H2 s2 => ?_
  refine half H2 (S.same s2) Prod.snd 1 (fun c => rfl) _ fun H3 s3 => ?_
  refine ⟨by show 2 ≤ sizeLine; decide, fun p np => ?_⟩
  have s4 : Same H (upd H3 p (.tup [.int (minL (cs.map Prod.fst)), .int (minL (cs.map Prod.snd))])) := (s2.trans s3).trans (sameN np)
  have S4 := S.same s4
  have hp : upd H3 p (.tup [.int (minL (cs.map Prod.fst)), .int (minL (cs.map Prod.snd))]) p = some (.tup [.int (minL (cs.map Prod.fst)), .int (minL (cs.map Prod.snd))]) := upd_same
  generalize upd H3 p (.tup [.int (minL (cs.map Prod.fst)), .int (minL (cs.map Prod.snd))]) = H4 at s4 S4 hp
  refine ⟨p, _, rfl, SqT.of hp, rfl, _, _, rfl, _, _, rfl, rfl, ?_⟩
  refine ⟨_, rfl, a, rfl, seq_walk S4.s fun J G W hG D hD => lc_it W (LcP H4 D fun i v H => ∃ c, (shiftBy cs)[i]? = some c ∧ Im H v (dCell c)) (LcP.zero hD) (fun i H' _ p => hG _ p.1) (fun i x H' H'' hi pp y => ?_) (fun H' pp => ?_)⟩
  · obtain ⟨rfl, hx⟩ := y
    obtain ⟨c, hc, hxc⟩ := S4.i i x hx
    obtain ⟨b, rfl, hb⟩ := (hxc.s pp.1).cellI
    refine ⟨rfl, _, rfl, b, _, 0, _, rfl, rfl, SqT.of hb, rfl, _, rfl, _, _, rfl, rfl, _, rfl, b, _, 1, _, rfl, rfl, SqT.of hb, rfl, _, rfl, _, _, rfl, rfl, by show 2 ≤ sizeLine; decide, fun p5 np5 => ?_⟩
    refine LcP.next (fun j v H H' ⟨c, e1, e2⟩ k => ⟨c, e1, e2.k k⟩) hD (by omega) pp (sameN np5) ⟨(c.1 - minL (cs.map Prod.fst), c.2 - minL (cs.map Prod.snd)), ?_, .cell upd_same⟩
    unfold shiftBy
    rw [List.getElem?_map, hc]
    rfl
  · obtain ⟨s5, acc, e5, l5, q5⟩ := pp
    have lsh : acc.length = (shiftBy cs).length := by
      unfold shiftBy
      rw [List.length_map]
      omega
    refine ⟨D, acc, kAt H', rfl, SqL.of e5, fun x hx => ?_, fun ys p2 h1 h2 np2 => ?_⟩
    · obtain ⟨i, hi⟩ := List.mem_iff_getElem?.mp hx
      obtain ⟨c, _, hc⟩ := q5 i x hi
      have ek := kAt_cell hc
      obtain ⟨t, rfl, ht⟩ := hc.cellI
      exact ⟨t, rfl, by rw [ek]; exact ht⟩
    · obtain ⟨g1, g2, g3⟩ := sort_cells lsh q5 h1 h2
      refine ⟨p2, ys, rfl, SqL.of upd_same, fun l ol nl dl => ?_⟩
      have s6 : Same H' (upd (upd H' p2 (.lst ys)) l (.frz ol (.tup ys))) := (sameN np2).trans (sameN nl)
      refine q _ _ _ ((s4.trans s5).trans s6) (.shape upd_same dl (g1.s s6) fun z => ?_) g2 g3
      have hp := g3.perm.length_eq
      rw [z] at hp
      unfold shiftBy at hp
      rw [List.length_map] at hp
      have : cs.length ≠ 0 := fun z => ne (List.eq_nil_of_length_eq_zero z)
      simp at hp
      omega
end
end Bp

namespace Bp
open PySem PySem.Spec PyProof.Rows L2
theorem tyes_if {σ : L2.St} {H : Hp} {B C : Hp → Prop} (h : B H) : tYes σ H (fun b H' => if b = true then B H' else C H') := (if_pos rfl : (if true = true then B H else C H) = B H).mpr h
def adr : V → Addr
  | .ref a => a
  | _ => 0
/-- cells in a tuple, as addresses and numbers -/
theorem refs_of {H : Hp} : ∀ {xs : List V} {sh : List Cell}, ImAll H xs (sh.map dCell) → ∃ ks : List (Addr × List Int), xs = ks.map (fun p => V.ref p.1) ∧ ks.map Prod.snd = sh.map (fun c => [c.1, c.2]) ∧ ∀ p ∈ ks, H p.1 = some (.tup (p.2.map V.int))
  | [], [], _ => ⟨[], rfl, rfl, fun p h => by cases h⟩
  | _ :: _, [], h => by cases h
  | [], _ :: _, h => by cases h
  | x :: xs, c :: sh, h => by
    rw [List.map_cons] at h
    cases h with
    | cons h1 h2 =>
      obtain ⟨ks, e1, e2, e3⟩ := refs_of h2
      obtain ⟨a, rfl, ha⟩ := h1.cellI
      refine ⟨(a, [c.1, c.2]) :: ks, by rw [e1]; rfl, by rw [List.map_cons, e2]; rfl, fun p hp => ?_⟩
      rcases List.mem_cons.mp hp with rfl | hp
      · exact ha
      · exact e3 p hp
theorem pairs_nodup {sh : List Cell} (h : sh.Nodup) : (sh.map (fun c => [c.1, c.2])).Nodup := List.Pairwise.map _ (fun a b ne e => ne (by
  obtain ⟨a1, a2⟩ := a
  obtain ⟨b1, b2⟩ := b
  simp at e
  rw [e.1, e.2])) h
/-- the scope of the outer comprehension -/
def lotSc : Scope := match defBody s_law_is_lot with
  | [_, _, .Return (some (.Call _ [.ListComp _ _ sc _] _ _)) _] => { sc with names := sc.names.map fun (n, k) => if (k == .free && (defScope s_law_is_lot).kind == .function && (defScope s_law_is_lot).names.lookup n == some .cell) then (n, .cell) else (n, k) }
  | _ => defScope s_law_is_lot
section
variable {P : Program} {w : World} {K : PySem.W.Frag} {mg : Str → Option Value} {base : Heap}
/-! ### _law_is_lot: slots value 0, cell 1, at 2 -/
def sp_law_is_lot (K : PySem.W.Frag) : Sp := sp_is_lot K
theorem ok_law_is_lot (T : Th P K mg base) : GF P w K mg base 3 (He.ga K "_law_is_lot") ["_law_value"] (sp_law_is_lot K) := by
  refine gf_of T.d_law_is_lot sc_law_is_lot (fun vs H Q E h => by obtain ⟨u, sh, rfl, hu, ok, q⟩ := h; rfl) (fun _ _ _ _ _ _ us hl => match us, hl with | [_], _ => rfl) fun cdv A outer s H vs Q E hg hr hsp => ?_
  obtain ⟨u, sh, rfl, hu, ok, q⟩ := hsp
  refine ⟨_, (pss_cons (ps_if (PW.pt (pw_or (pt_not (pt_val (pe_callB call_isi (by rfl) T.f_isinstance (by decide +kernel) (pa_cons (pv 0) (pa_cons (pe_bltn (v := .ty "tuple") (by rfl) T.f_tuple (by decide +kernel) rfl) pa_nil))))) (pw_or (pt_not (pt_chain op_lt op_lt pe_int (pe_callB call_len_seq (by rfl) T.f_len (by decide +kernel) (pa_cons (pv 0) pa_nil)) pe_int)) (pw_or1 (pt_not (pt_val (pe_callB (cr_all rfl) (by rfl) T.f_all (by decide +kernel) (pa_cons (pe_lc (own := [("_law_cell", 1)]) (tt := tYes) rfl sc_law_is_lot.nd (pi_tup (pv 0)) (blkOk_by (N := N_law_is_lot) (sc := defScope s_law_is_lot) (by decide +kernel)) (fun _ _ _ _ _ => (pg_name (i := 1) sc_law_is_lot.nd rfl (Or.inl rfl))) (fun _ _ _ _ _ => pts_nil) (fun _ _ _ _ _ => (pe_fn T.g_law_is_cell (ok_law_is_cell T) hg hr passL (pa_cons (pv 1) pa_nil)))) pa_nil)))))))) (pss_one (ps_ret pe_bl)) pss_nil)
    (pss_cons (ps_if (pt_cmpR op_ne (pe_lenSetT rfl hr.units (by rfl) T.f_len (by rfl) T.f_set (pv 0)) (pe_callB call_len_seq (by rfl) T.f_len (by decide +kernel) (pa_cons (pv 0) pa_nil)) (nomark _)) (pss_one (ps_ret pe_bl)) pss_nil)
    (pss_one (ps_ret (pe_callB (cr_all rfl) (by rfl) T.f_all (by decide +kernel) (pa_cons (pe_lc (own := [("_law_at", 2)]) (tt := tYes) rfl sc_law_is_lot.nd (pi_tup (pe_tup (pa_cons pe_int (pa_cons pe_int pa_nil)))) (blkOk_by (N := N_law_is_lot) (sc := defScope s_law_is_lot) (by decide +kernel)) (fun _ _ _ _ _ => (pg_name (i := 2) sc_law_is_lot.nd rfl (Or.inr rfl))) (fun _ _ _ _ _ => pts_nil) (fun _ _ _ _ _ => (pe_cmpR op_lt (pe_op op_sub (pe_callB (cr_maxK (K := K) rfl rfl) (by rfl) T.f_max (by decide +kernel) (pa_cons (pe_lc (own := [("_law_cell", 1)]) (tt := tYes) rfl sc_law_is_lot.nd (pi_tupK (K := K) rfl (pv 0)) (blkOk_by (N := N_law_is_lot) (sc := lotSc) (by decide +kernel)) (fun _ _ _ _ _ => (pg_name (i := 1) sc_law_is_lot.nd rfl (Or.inl rfl))) (fun _ _ _ _ _ => pts_nil) (fun _ _ _ _ _ => (pe_ix (ix_tupK (K := K) rfl) (pv 1) (pv 2) (fun _ _ => rfl)))) pa_nil)) (pe_callB (cr_minK (K := K) rfl rfl) (by rfl) T.f_min (by decide +kernel) (pa_cons (pe_lc (own := [("_law_cell", 1)]) (tt := tYes) rfl sc_law_is_lot.nd (pi_tupK (K := K) rfl (pv 0)) (blkOk_by (N := N_law_is_lot) (sc := lotSc) (by decide +kernel)) (fun _ _ _ _ _ => (pg_name (i := 1) sc_law_is_lot.nd rfl (Or.inl rfl))) (fun _ _ _ _ _ => pts_nil) (fun _ _ _ _ _ => (pe_ix (ix_tupK (K := K) rfl) (pv 1) (pv 2) (fun _ _ => rfl)))) pa_nil))) pe_int (nomark _)))) pa_nil)))))), ?_⟩
  obtain ⟨a, xs, S⟩ := hu.shapeI
  obtain rfl := S.e
  have hl := S.l
  have h16 := ok.len
  have hpos := ok.pos
  refine ⟨_, rfl, _, _, _, _, true, rfl, .ty "tuple", tyT S.t, kit_tt, true, rfl, iteF ?_⟩
  refine ⟨_, rfl, _, _, rfl, .inr (Or.inl S.t), _, _, rfl, rfl, _, rfl, iteD (by omega) ?_⟩
  refine ⟨_, _, rfl, rfl, _, rfl, ?_⟩
  have e17 : decide ((xs.length : Int) < 17) = true := decide_eq_true (by omega)
  rw [e17]
  refine iteF ?_
  refine ⟨_, rfl, a, rfl, ⟨_, Or.inl S.t⟩, fun D hD => lc_it (walk_tup (xs := xs)) (LcP H D fun _ v _ => v = .bl true) (LcP.zero hD) (fun i H' _ p => Or.inl (rd_same S.t p.1)) (fun i x H' H'' hi p y => ?_) (fun H1 p => ?_)⟩
  · obtain ⟨rfl, hx⟩ := y
    obtain ⟨c, hc, hxc⟩ := S.i i x hx
    exact ⟨rfl, _, rfl, x, c, rfl, hxc.s p.1, fun H5 s5 _ => LcP.next (fun _ _ _ _ h _ => h) hD (by omega) p s5 rfl⟩
  obtain ⟨s1, hl1⟩ := LcP.map (f := fun _ => .bl true) p fun _ _ _ h => h
  refine ⟨D, (List.range xs.length).map fun _ => true, rfl, SqL.of (by rw [List.map_map]; exact hl1), true, ?_, iteF ?_⟩
  · have : ((List.range xs.length).map fun _ => true).all id = true := by simp
    rw [this]
  -- no cell twice
  have S1 : Rd H1 a (.tup xs) := rd_same S.t s1
  obtain ⟨ks, ek, e2, e3⟩ := refs_of (ImAll.of_at (by simp [hl]) fun i v d q1 q2 => by
    obtain ⟨c, h1, h2⟩ := S.i i v q1
    rw [List.getElem?_map, h1] at q2
    cases q2
    exact h2.s s1 : ImAll H1 xs (sh.map dCell))
  have nk : ks.length = sh.length := by rw [← List.length_map (f := Prod.snd), e2, List.length_map]
  refine ⟨_, rfl, a, ks, rfl, by rw [← ek]; exact Or.inl S1, fun p hp => SqT.of (e3 p hp), by omega, by rw [e2]; exact pairs_nodup ok.nd, ?_⟩
  have en : (ks.length : Int) = (xs.length : Int) := by omega
  rw [en]
  refine ⟨_, rfl, _, _, rfl, .inr (Or.inl S1), rfl, _, rfl, ?_⟩
  rw [show (!decide (V.int (xs.length : Int) = V.int (xs.length : Int))) = false by simp]
  refine iteF ?_
  -- not too wide
  refine ⟨by show 2 ≤ sizeLine; decide, fun p2 np2 => ?_⟩
  have s2 : Same H1 (upd H1 p2 (.tup [.int 0, .int 1])) := sameN np2
  have ep2 : upd H1 p2 (.tup [.int 0, .int 1]) p2 = some (.tup [.int 0, .int 1]) := upd_same
  generalize upd H1 p2 (.tup [.int 0, .int 1]) = H2 at s2 ep2
  refine ⟨p2, rfl, ⟨_, SqT.of ep2⟩, fun D2 hD2 => lc_it (walk_tup (xs := [.int 0, .int 1])) (LcP H2 D2 fun _ v _ => v = .bl true) (LcP.zero hD2) (fun i H' _ p => SqT.of (p.1 _ _ ep2)) (fun i v H3 H4 hi p y => ?_) (fun H3 p => ?_)⟩
  · obtain ⟨rfl, hv⟩ := y
    have sA := (s1.trans s2).trans p.1
    obtain ⟨f, j, rfl, hj, hf⟩ : ∃ (f : Cell → Int) (j : Int), v = .int j ∧ (∀ c : Cell, atI [V.int c.1, V.int c.2] j = some (.int (f c))) ∧ ∀ c ∈ sh, 0 ≤ f c ∧ f c < 12 := by
      match i, hi, hv with
      | 0, _, hv => exact ⟨Prod.fst, 0, (Option.some.inj hv).symm, fun c => rfl, fun c hc => by have := ok.lo c hc; omega⟩
      | 1, _, hv => exact ⟨Prod.snd, 1, (Option.some.inj hv).symm, fun c => rfl, fun c hc => by have := ok.lo c hc; omega⟩
    -- the numbers of one side, in a list
    have side : ∀ (r : List V → Hp → VK → Prop) (H5 : Hp) (_ : Same H4 H5) (R : VK), (∀ D H6, Same H5 H6 → H6 D = some (.lst ((sh.map f).map V.int)) → r [.ref D] H6 R) →
        tCB r (tCons (tLc (iTup K (tVar 0)) (gName 1) tYes (tOp (rIxT K) (tVar 1) (tVar 2)) [1]) tNil) [some (.ref a), none, some (.int j)] H5 R := by
      intro r H5 s5 R hR
      have sB := sA.trans s5
      refine ⟨_, rfl, a, rfl, ⟨_, Or.inl (rd_same S.t sB)⟩, fun D hD => lc_it (walk_tup (xs := xs)) (LcP H5 D fun i v _ => ∃ c, sh[i]? = some c ∧ v = .int (f c)) (LcP.zero hD) (fun i H' _ p => Or.inl (rd_same (rd_same S.t sB) p.1)) (fun i x H' H'' hi p y => ?_) (fun H6 p => ?_)⟩
      · obtain ⟨rfl, hx⟩ := y
        obtain ⟨c, hc, hxc⟩ := S.i i x hx
        obtain ⟨b, rfl, hb⟩ := (hxc.s (sB.trans p.1)).cellI
        exact ⟨rfl, _, rfl, _, rfl, b, _, j, _, rfl, rfl, SqT.of hb, hj c, LcP.next (fun _ _ _ _ h _ => h) hD (by omega) p (Same.refl _) ⟨c, hc, rfl⟩⟩
      · obtain ⟨sm, hl5⟩ := LcP.mapL (l := sh.map f) (g := .int) p (by rw [List.length_map]; exact hl) fun i v ⟨c, e1, e2⟩ => ⟨f c, by rw [List.getElem?_map, e1]; rfl, e2⟩
        exact hR D H6 sm hl5
    refine ⟨rfl, tyes_if ?_⟩
    refine side _ H4 (Same.refl _) _ fun D5 H5 s5 hl5 => ⟨D5, sh.map f, rfl, SqL.of hl5, by rw [List.length_map]; omega, fun m1 m1m m1g => ?_⟩
    refine side _ H5 s5 _ fun D6 H6 s6 hl6 => ⟨D6, sh.map f, rfl, SqL.of hl6, by rw [List.length_map]; omega, fun m2 m2m m2l => ?_⟩
    refine ⟨_, _, rfl, rfl, _, _, rfl, rfl, ?_⟩
    have ev : decide (m1 - m2 < 12) = true := by
      obtain ⟨c1, hc1, rfl⟩ := List.mem_map.mp m1m
      obtain ⟨c2, hc2, rfl⟩ := List.mem_map.mp m2m
      have := hf c1 hc1
      have := hf c2 hc2
      exact decide_eq_true (by omega)
    show ∃ acc, _ ∧ _ ∧ LcP H2 D2 _ (i + 1) (upd H6 D2 (.lst (acc ++ [.bl (decide (m1 - m2 < 12))])))
    rw [ev]
    exact LcP.next (fun _ _ _ _ h _ => h) hD2 (Nat.lt_of_lt_of_le hi (by show 2 ≤ 1000000; decide)) p (s5.trans s6) rfl
  obtain ⟨s3, hl3⟩ := LcP.map (f := fun _ => .bl true) p fun _ _ _ h => h
  exact ⟨D2, [true, true], rfl, SqL.of hl3, q _ ((s1.trans s2).trans s3)⟩
/-! ### _law_is_shape -/
def sp_law_is_shape (K : PySem.W.Frag) : Sp := sp_law_is_lot K
theorem ok_law_is_shape (T : Th P K mg base) : GF P w K mg base 4 (He.ga K "_law_is_shape") ["_law_value"] (sp_law_is_shape K) := by
  refine gf_of T.d_law_is_shape sc_law_is_shape (fun vs H Q E h => by obtain ⟨u, sh, rfl, hu, ok, q⟩ := h; rfl) (fun _ _ _ _ _ _ us hl => match us, hl with | [_], _ => rfl) fun cdv A outer s H vs Q E hg hr hsp => ?_
  obtain ⟨u, sh, rfl, hu, ok, q⟩ := hsp
  refine ⟨_, (pss_one (ps_ret (pe_and (pe_fn T.g_law_is_lot (ok_law_is_lot T) hg hr passL (pa_cons (pv 0) pa_nil)) (pe_one (pe_cmpR (op_eqD hr.units) (pv 0) (pe_fn T.g_law_settled (ok_law_settled T) hg hr passL (pa_cons (pv 0) pa_nil)) (nomark _)))))), ?_⟩
  obtain ⟨a, xs, S⟩ := hu.shapeI
  refine ⟨_, rfl, u, sh, rfl, hu, ok, fun H1 s1 _ => ⟨true, rfl, iteT ?_⟩⟩
  refine ⟨_, rfl, _, rfl, u, sh, a, xs, rfl, S.sqc.same s1, ok.ne, by have := ok.len; omega, fun x H2 out s2 hx h1 h2 _ => ?_⟩
  obtain rfl := ok.settled h1 h2
  refine ⟨_, _, (hu.s (s1.trans s2)).d, hx.d, shp (nb_shape _) (by have := dep_shape out; omega), shp (nb_shape _) (by have := dep_shape out; omega), ?_⟩
  rw [eqv_yes (nb_shape out)]
  exact q _ (s1.trans s2)
end
end Bp

namespace Bp
open PySem PySem.Spec PyProof.Rows L2
/-- a pot of draws, at most n of them mixed -/
def PotAt (H : Hp) (p : Addr) (n : Nat) : Prop := ∃ a b c : Int, H p = some (.lst [.int a, .int b, .int c]) ∧ 0 ≤ a ∧ 0 ≤ b ∧ b < 2305843009213693921 ∧ 0 ≤ c ∧ c ≤ n
theorem PotAt.mono {H : Hp} {p : Addr} {n m : Nat} (h : PotAt H p n) (l : n ≤ m) : PotAt H p m := by
  obtain ⟨a, b, c, h1, h2, h3, h4, h5, h6⟩ := h
  exact ⟨a, b, c, h1, h2, h3, h4, h5, by omega⟩
theorem PotAt.of {H H' : Hp} {p : Addr} {n : Nat} (h : PotAt H p n) (e : ∀ xs, H p = some (.lst xs) → H' p = some (.lst xs)) : PotAt H' p n := by
  obtain ⟨a, b, c, h1, h2⟩ := h
  exact ⟨a, b, c, e _ h1, h2⟩
theorem PotAt.s {H H' : Hp} {p : Addr} {n : Nat} (h : PotAt H p n) (s : Same H H') : PotAt H' p n := h.of fun _ z => s _ _ z
theorem PotAt.pl {H : Hp} {p : Addr} {n : Nat} (h : PotAt H p n) : ∀ o, H p = some o → Pl o := by
  obtain ⟨a, b, c, h1, h2⟩ := h
  intro o e
  rw [h1] at e
  cases e
  exact pl_lst
theorem fm_pos (i : Int) {u : Int} (h : 0 < u) : 0 ≤ i.fmod u ∧ i.fmod u < u := ⟨Int.fmod_nonneg_of_pos i h, Int.fmod_lt_of_pos i h⟩
section
variable {P : Program} {w : World} {K : PySem.W.Frag} {mg : Str → Option Value} {base : Heap}
/-! ### _law_take: slots pot 0, upto 1, digit 2, prime 3, mixed 4 -/
def sp_law_take (K : PySem.W.Frag) : Sp := fun vs H Q _ => ∃ (p : Addr) (u : Int) (n : Nat), vs = [.ref p, .int u] ∧ PotAt H p n ∧ 1 ≤ u ∧ u ≤ 1000000 ∧ n ≤ 1000000 ∧ ∀ H' d, So [p] H H' → PotAt H' p (n + 1) → 0 ≤ d → d < u → Q (.int d) H'
theorem ok_law_take (T : Th P K mg base) : GF P w K mg base 1 (He.ga K "_law_take") ["_law_pot_here", "_law_upto"] (sp_law_take K) := by
  refine gf_of T.d_law_take sc_law_take (fun vs H Q E h => by obtain ⟨p, u, n, rfl, ⟨a, b, c, hp, a0, b0, b1, c0, c1⟩, u1, u2, nn, q⟩ := h; rfl) (fun _ _ _ _ _ _ us hl => match us, hl with | [_, _], _ => rfl) fun cdv A outer s H vs Q E hg hr hsp => ?_
  obtain ⟨p, u, n, rfl, ⟨a, b, c, hp, a0, b0, b1, c0, c1⟩, u1, u2, nn, q⟩ := hsp
  refine ⟨_, (pss_cons (ps_if (pt_cmpR op_gt (pe_ix ix_list (pv 0) pe_int (fun _ _ => rfl)) pe_int (nomark _)) (pss_cons (ps_set (i := 2) sc_law_take.nd rfl (Or.inl rfl) (pe_op op_modN (pe_callTy call_int1 (by rfl) T.f_int (by decide +kernel) (pa_cons (pe_ix ix_list (pv 0) pe_int (fun _ _ => rfl)) pa_nil)) (pv 1)))
      (pss_cons (ps_asg (pe_op op_fdivN (pe_ix ix_list (pv 0) pe_int (fun _ _ => rfl)) (pv 1)) (pg_sub (pv 0) pe_int set_list))
      (pss_one (ps_ret (pv 2))))) pss_nil)
    (pss_cons (ps_asg (pe_op op_add (pe_ix ix_list (pv 0) pe_int (fun _ _ => rfl)) pe_int) (pg_sub (pv 0) pe_int set_list))
    (pss_cons (ps_set (i := 3) sc_law_take.nd rfl (Or.inl rfl) (pe_ix ix_list (pe_lst (pa_cons pe_int (pa_cons pe_int (pa_cons pe_int (pa_cons pe_int (pa_cons pe_int pa_nil)))))) (pe_op op_modN (pe_callTy call_int1 (by rfl) T.f_int (by decide +kernel) (pa_cons (pe_ix ix_list (pv 0) pe_int (fun _ _ => rfl)) pa_nil)) pe_int) (fun _ _ => rfl)))
    (pss_cons (ps_set (i := 4) sc_law_take.nd rfl (Or.inl rfl) (pe_op op_modN (pe_callTy call_int1 (by rfl) T.f_int (by decide +kernel) (pa_cons (pe_op op_pow (pe_callTy call_int1 (by rfl) T.f_int (by decide +kernel) (pa_cons (pe_op op_add (pe_op op_add (pe_ix ix_list (pv 0) pe_int (fun _ _ => rfl)) (pe_op op_mul (pe_op op_mul pe_int (pe_ix ix_list (pv 0) pe_int (fun _ _ => rfl))) (pe_ix ix_list (pv 0) pe_int (fun _ _ => rfl)))) pe_int) pa_nil)) pe_int) pa_nil)) (pv 3)))
    (pss_cons (ps_set (i := 4) sc_law_take.nd rfl (Or.inl rfl) (pe_op op_modN (pe_callTy call_int1 (by rfl) T.f_int (by decide +kernel) (pa_cons (pe_op op_mul (pv 4) (pe_op op_add (pe_op op_modN (pe_callTy call_int1 (by rfl) T.f_int (by decide +kernel) (pa_cons (pv 4) pa_nil)) pe_int) (pe_op op_mul pe_int (pe_ix ix_list (pv 0) pe_int (fun _ _ => rfl))))) pa_nil)) pe_int))
    (pss_one (ps_ret (pe_op op_modN (pe_callTy call_int1 (by rfl) T.f_int (by decide +kernel) (pa_cons (pe_op op_fdivN (pv 4) pe_int) pa_nil)) (pv 1))))))))), ?_⟩
  refine ⟨_, rfl, p, _, 0, _, rfl, rfl, SqL.of hp, rfl, _, _, rfl, rfl, _, rfl, ?_⟩
  by_cases ha : 0 < a
  · refine iteD ha ?_
    have hd := fm_pos a (show 0 < u by omega)
    refine ⟨_, rfl, p, _, 0, _, rfl, rfl, SqL.of hp, rfl, .inl ⟨_, rfl, _, rfl, _, _, rfl, rfl, by omega, ?_⟩⟩
    refine ⟨_, rfl, p, _, 0, _, rfl, rfl, SqL.of hp, rfl, _, rfl, _, _, rfl, rfl, ⟨by omega, by omega⟩, ?_⟩
    refine ⟨_, rfl, p, _, 0, 0, rfl, rfl, hp, rfl, _, rfl, ?_⟩
    exact q _ _ (.upd (by simp)) ⟨_, b, c, upd_same, Int.fdiv_nonneg a0 (by omega), b0, b1, c0, by omega⟩ hd.1 hd.2
  · refine iteDF ha ?_
    refine ⟨_, rfl, p, _, 2, _, rfl, rfl, SqL.of hp, rfl, _, _, rfl, rfl, ?_⟩
    refine ⟨_, rfl, p, _, 2, 2, rfl, rfl, hp, rfl, ?_⟩
    have o1 : So [p] H (upd H p (.lst [.int a, .int b, .int (c + 1)])) := .upd (by simp)
    have e1 : upd H p (.lst [.int a, .int b, .int (c + 1)]) p = some (.lst [.int a, .int b, .int (c + 1)]) := upd_same
    show tSeq _ _ _ _ (upd H p (.lst [.int a, .int b, .int (c + 1)]))
    generalize upd H p (.lst [.int a, .int b, .int (c + 1)]) = H1 at o1 e1
    obtain ⟨k, hk, k0, k1⟩ : ∃ k, k = c + 1 ∧ 1 ≤ k ∧ k ≤ 1000001 := ⟨_, rfl, by omega, by omega⟩
    rw [← hk] at e1
    refine ⟨by show 5 ≤ sizeLine; decide, fun l nl => ?_⟩
    have o2 : So [p] H1 (upd H1 l (.lst [.int 2147483647, .int 2147483629, .int 2147483587, .int 2147483579, .int 2147483563])) := .new nl
    have el : upd H1 l (.lst [.int 2147483647, .int 2147483629, .int 2147483587, .int 2147483579, .int 2147483563]) l = some (.lst [.int 2147483647, .int 2147483629, .int 2147483587, .int 2147483579, .int 2147483563]) := upd_same
    have e2 : upd H1 l (.lst [.int 2147483647, .int 2147483629, .int 2147483587, .int 2147483579, .int 2147483563]) p = some (.lst [.int a, .int b, .int k]) := (upd_ne (ne_of_none e1 nl)).trans e1
    generalize upd H1 l (.lst [.int 2147483647, .int 2147483629, .int 2147483587, .int 2147483579, .int 2147483563]) = H2 at o2 el e2
    obtain ⟨m, hm, m0, m1⟩ : ∃ m, atI [V.int 2147483647, .int 2147483629, .int 2147483587, .int 2147483579, .int 2147483563] (k.fmod 5) = some (.int m) ∧ 2147483563 ≤ m ∧ m ≤ 2147483647 := by
      have h5 := fm_pos k (show (0 : Int) < 5 by omega)
      have : k.fmod 5 = 0 ∨ k.fmod 5 = 1 ∨ k.fmod 5 = 2 ∨ k.fmod 5 = 3 ∨ k.fmod 5 = 4 := by omega
      rcases this with z | z | z | z | z <;> rw [z] <;> exact ⟨_, rfl, by decide, by decide⟩
    refine ⟨_, rfl, p, _, 2, _, rfl, rfl, SqL.of e2, rfl, .inl ⟨_, rfl, _, _, rfl, rfl, by omega, l, _, _, _, rfl, rfl, SqL.of el, hm, ?_⟩⟩
    have n1 : 98861 * k ≤ 98861 * 1000001 := by omega
    have n2 : 98861 * k * k ≤ 98861 * 1000001 * 1000001 := Int.mul_le_mul n1 k1 (by omega) (by omega)
    have n3 : 0 ≤ 98861 * k * k := Int.mul_nonneg (by omega) (by omega)
    refine ⟨_, rfl, p, _, 1, _, rfl, rfl, SqL.of e2, rfl, _, rfl, p, _, 2, _, rfl, rfl, SqL.of e2, rfl, _, _, rfl, rfl, .inl ⟨by omega, by omega⟩, _, rfl, p, _, 2, _, rfl, rfl, SqL.of e2, rfl, _, _, rfl, rfl, .inr ⟨by omega, by omega⟩, _, _, rfl, rfl, _, _, rfl, rfl,
      .inl ⟨_, rfl, _, _, rfl, rfl, ⟨by omega, by omega, by omega⟩, .inl ⟨_, rfl, _, rfl, _, _, rfl, rfl, by omega, ?_⟩⟩⟩
    have h4 := fm_pos ((b + 98861 * k * k + 71) ^ (3 : Int).toNat) (show 0 < m by omega)
    show tSeq _ _ _ [some (.ref p), some (.int u), none, some (.int m), some (.int (((b + 98861 * k * k + 71) ^ (3 : Int).toNat).fmod m))] H2
    generalize ((b + 98861 * k * k + 71) ^ (3 : Int).toNat).fmod m = x at h4
    have h6 := fm_pos x (show (0 : Int) < 10337 by omega)
    refine ⟨_, rfl, _, rfl, .inl ⟨_, rfl, _, _, rfl, rfl, by omega, _, rfl, p, _, 2, _, rfl, rfl, SqL.of e2, rfl, _, _, rfl, rfl, .inl ⟨by omega, by omega⟩, _, _, rfl, rfl, _, _, rfl, rfl, .inl ⟨by omega, by omega⟩, .inl ⟨_, rfl, _, _, rfl, rfl, by omega, ?_⟩⟩⟩
    refine ⟨_, rfl, _, _, rfl, rfl, ⟨by omega, by omega⟩, .inl ⟨_, rfl, _, rfl, _, _, rfl, rfl, by omega, ?_⟩⟩
    have hd := fm_pos (((x * (x.fmod 10337 + 323 * k)).fmod 2305843009213693907).fdiv 153) (show 0 < u by omega)
    exact q _ _ (o1.trans o2) ⟨a, b, k, e2, a0, b0, b1, by omega, by omega⟩ hd.1 hd.2
end
end Bp

namespace Bp
open PySem PySem.Spec PyProof.Rows L2
theorem atI_of {xs : List V} {d : Int} (h0 : 0 ≤ d) (h1 : d < xs.length) : ∃ v, atI xs d = some v ∧ v ∈ xs := by
  obtain ⟨k, rfl⟩ := Int.eq_ofNat_of_zero_le h0
  have hk : k < xs.length := by omega
  exact ⟨xs[k], atI_nat (by rw [List.getElem?_eq_getElem hk]), List.getElem_mem hk⟩
theorem seqIx {d : Int} {n : Nat} (h0 : 0 ≤ d) (h1 : d < n) : seqIndex? d n = some d.toNat := by
  unfold seqIndex?
  simp [show ¬ d < 0 by omega, h0, h1]
theorem perm_erase {α : Type} : ∀ (l : List α) (k : Nat) (h : k < l.length), ([l[k]] ++ l.eraseIdx k).Perm l
  | x :: l, 0, _ => .refl _
  | x :: l, k + 1, h => by
    have hk : k < l.length := by simpa using h
    have ih := perm_erase l k hk
    show (l[k] :: x :: l.eraseIdx k).Perm (x :: l)
    exact (List.Perm.swap x l[k] _).trans (List.Perm.cons x ih)
theorem ne_lst {H : Hp} {a b : Addr} {o : HO} (h : H a = some o) (n : H b = none) : a ≠ b := ne_of_none h n
theorem So.get {S : List Addr} {H H' : Hp} (s : So S H H') {b : Addr} {o : HO} (h : H b = some o) (n : b ∉ S) : H' b = some o := s b o h n
section
variable {P : Program} {w : World} {K : PySem.W.Frag} {mg : Str → Option Value} {base : Heap}
/-! ### _law_of -/
def sp_law_of (K : PySem.W.Frag) : Sp := fun vs H Q _ => ∃ (p l : Addr) (xs : List V) (n : Nat), vs = [.ref p, .ref l] ∧ PotAt H p n ∧ H l = some (.lst xs) ∧ l ≠ p ∧ 1 ≤ xs.length ∧ xs.length ≤ 1000000 ∧ n ≤ 1000000 ∧ ∀ H' v, So [p] H H' → PotAt H' p (n + 1) → v ∈ xs → Q v H'
theorem ok_law_of (T : Th P K mg base) : GF P w K mg base 2 (He.ga K "_law_of") ["_law_pot_here", "_law_some_here"] (sp_law_of K) := by
  refine gf_of T.d_law_of sc_law_of (fun vs H Q E h => by obtain ⟨p, l, xs, n, rfl, hp, hl, lp, x1, x2, nn, q⟩ := h; rfl) (fun _ _ _ _ _ _ us hl => match us, hl with | [_, _], _ => rfl) fun cdv A outer s H vs Q E hg hr hsp => ?_
  obtain ⟨p, l, xs, n, rfl, hp, hl, lp, x1, x2, nn, q⟩ := hsp
  refine ⟨_, (pss_one (ps_ret (pe_ix ix_list (pv 1) (pe_fn T.g_law_take (ok_law_take T) hg hr passL (pa_cons (pv 0) (pa_cons (pe_callB call_len_seq (by rfl) T.f_len (by decide +kernel) (pa_cons (pv 1) pa_nil)) pa_nil))) (fun _ _ => rfl)))), ?_⟩
  refine ⟨_, rfl, _, rfl, _, rfl, l, _, rfl, .inl (SqL.of hl), p, _, n, rfl, hp, by omega, by omega, nn, fun H' d o hp' d0 d1 _ => ?_⟩
  obtain ⟨v, e, m⟩ := atI_of d0 d1
  exact ⟨l, xs, d, v, rfl, rfl, SqL.of (o.get hl (by simpa using lp)), e, q H' v o hp' m⟩
/-! ### _law_some: slots pot 0, pool 1, many 2, rest 3, found 4, lap 5 -/
def sp_law_some (K : PySem.W.Frag) : Sp := fun vs H Q _ => ∃ (p l : Addr) (xs : List V) (m n : Nat), vs = [.ref p, .ref l, .int m] ∧ PotAt H p n ∧ H l = some (.lst xs) ∧ m ≤ xs.length ∧ xs.length ≤ 1000 ∧ n ≤ 900000 ∧
  ∀ H' f fs rs, So [p] H H' → PotAt H' p (n + m) → H f = none → H' f = some (.lst fs) → (fs ++ rs).Perm xs → fs.length = m → Q (.ref f) H'
theorem ok_law_some (T : Th P K mg base) : GF P w K mg base 2 (He.ga K "_law_some") ["_law_pot_here", "_law_pool", "_law_many"] (sp_law_some K) := by
  refine gf_of T.d_law_some sc_law_some (fun vs H Q E h => by obtain ⟨p, l, xs, m, n, rfl, hp, hl, mx, x1, nn, q⟩ := h; rfl) (fun _ _ _ _ _ _ us hl => match us, hl with | [_, _, _], _ => rfl) fun cdv A outer s H vs Q E hg hr hsp => ?_
  obtain ⟨p, l, xs, m, n, rfl, hp, hl, mx, x1, nn, q⟩ := hsp
  refine ⟨_, (pss_cons (ps_par (by rfl) sc_law_some.nd (i := 3) (j := 4) rfl rfl (by decide) rfl rfl (pa_cons (pe_callTy call_list_of (by rfl) T.f_list (by decide +kernel) (pa_cons (pv 1) pa_nil)) (pa_cons (pe_lst pa_nil) pa_nil)) (by rfl))
    (pss_cons (ps_for PassesOwn.leaving rfl (pi_range1 (by rfl) T.f_range (pa_cons (pv 2) pa_nil)) (pg_name (i := 5) sc_law_some.nd rfl (Or.inl rfl))
      (pss_one (ps_expr (pe_bm PySem.F.plainAttrs_list PySem.F.slot_list_append PySem.F.type_list_append mt_append (pv 4) (pa_cons (pe_bm PySem.F.plainAttrs_list PySem.F.slot_list_pop PySem.F.type_list_pop mt_popAt (pv 3) (pa_cons (pe_fn T.g_law_take (ok_law_take T) hg hr passL (pa_cons (pv 0) (pa_cons (pe_callB call_len_seq (by rfl) T.f_len (by decide +kernel) (pa_cons (pv 3) pa_nil)) pa_nil))) pa_nil)) pa_nil)))))
    (pss_one (ps_ret (pv 4))))), ?_⟩
  refine ⟨_, rfl, l, xs, rfl, .inl (SqL.of hl), fun r nr => ?_⟩
  have s1 : Same H (upd H r (.lst xs)) := sameN nr
  have er : upd H r (.lst xs) r = some (.lst xs) := upd_same
  generalize upd H r (.lst xs) = H1 at s1 er
  refine ⟨Nat.zero_le _, fun f nf => ⟨_, _, rfl, ?_⟩⟩
  have s2 : Same H1 (upd H1 f (.lst [])) := sameN nf
  have ef : upd H1 f (.lst []) f = some (.lst []) := upd_same
  have rf : r ≠ f := ne_lst er nf
  have er2 : upd H1 f (.lst []) r = some (.lst xs) := s2 _ _ er
  generalize upd H1 f (.lst []) = H2 at s2 ef er2
  have s12 := s1.trans s2
  have hp2 := hp.s s12
  have pr : p ≠ r := by
    obtain ⟨a, b, c, h, _⟩ := id hp
    exact ne_lst h nr
  have pf : p ≠ f := by
    obtain ⟨a, b, c, h, _⟩ := hp.s s1
    exact ne_lst h nf
  have nfH : H f = none := by
    cases e : H f with
    | none => rfl
    | some u => rw [s1 _ _ e] at nf; cases nf
  refine ⟨_, rfl, (m : Int), rfl, by omega, by omega, for_it (walk_range (lo := 0) (n := m)) (fun i σ H' => ∃ fs rs y, σ = [some (.ref p), some (.ref l), some (.int m), some (.ref r), some (.ref f), y] ∧ So [p, r, f] H2 H' ∧ PotAt H' p (n + i) ∧ H' r = some (.lst rs) ∧ H' f = some (.lst fs) ∧ (fs ++ rs).Perm xs ∧ fs.length = i)
    ⟨[], xs, none, rfl, .refl _ _, hp2, er2, ef, .refl _, rfl⟩ (fun _ _ _ _ _ => True.intro) (fun i v σ H3 H4 hi pv y => ?_) (fun σ H3 pv => ?_)⟩
  · obtain ⟨fs, rs, y0, rfl, o3, hp3, hr3, hf3, pm, lf⟩ := pv
    obtain ⟨rfl, rfl⟩ := y
    have hlen := pm.length_eq
    rw [List.length_append] at hlen
    refine ⟨_, rfl, .inl ⟨rfl, _, SqL.of hf3⟩, _, rfl, .inl ⟨rfl, _, SqL.of hr3⟩, _, rfl, _, rfl, r, rs, rfl, .inl (SqL.of hr3), ?_⟩
    refine ⟨p, rs.length, n + i, rfl, hp3, by omega, by omega, by omega, fun H5 d o5 hp5 d0 d1 _ => ?_⟩
    have hr5 := o5.get hr3 (by simpa using Ne.symm pr)
    have hf5 := o5.get hf3 (by simpa using Ne.symm pf)
    have hd : d.toNat < rs.length := by omega
    refine ⟨r, rs, d, d.toNat, rs[d.toNat], rfl, rfl, hr5, by omega, by omega, seqIx d0 d1, List.getElem?_eq_getElem hd, ?_⟩
    have hf6 : upd H5 r (.lst (rs.eraseIdx d.toNat)) f = some (.lst fs) := (upd_ne (Ne.symm rf)).trans hf5
    have hr6 : upd H5 r (.lst (rs.eraseIdx d.toNat)) r = some (.lst (rs.eraseIdx d.toNat)) := upd_same
    have hp6 : PotAt (upd H5 r (.lst (rs.eraseIdx d.toNat))) p (n + i + 1) := hp5.of fun _ z => (upd_ne pr).trans z
    have o6 : So [p, r, f] H5 (upd H5 r (.lst (rs.eraseIdx d.toNat))) := .upd (by simp)
    generalize upd H5 r (.lst (rs.eraseIdx d.toNat)) = H6 at hf6 hr6 hp6 o6
    refine ⟨f, fs, _, rfl, rfl, hf6, Nat.lt_of_le_of_lt (show fs.length ≤ 1000 by omega) (by decide), ?_⟩
    refine ⟨fs ++ [rs[d.toNat]], rs.eraseIdx d.toNat, _, rfl, ((o3.trans (o5.mono (by simp))).trans o6).trans (.upd (by simp)), hp6.of fun _ z => (upd_ne pf).trans z, (upd_ne rf).trans hr6, upd_same, ?_, by simp [lf]⟩
    refine List.Perm.trans ?_ pm
    rw [List.append_assoc]
    refine List.Perm.append_left _ ?_
    exact perm_erase rs _ hd
  · obtain ⟨fs, rs, y0, rfl, o3, hp3, hr3, hf3, pm, lf⟩ := pv
    refine ⟨_, rfl, q H3 f fs rs (fun b o e nb => o3 b o (s12 b o e) ?_) hp3 nfH hf3 pm lf⟩
    simp only [List.mem_cons, List.not_mem_nil, or_false, not_or]
    exact ⟨by simpa using nb, ne_lst e nr, ne_lst e nfH⟩
/-! ### _law_drawn_deal, _law_a_cell -/
def sp_law_drawn_deal (K : PySem.W.Frag) : Sp := fun vs H Q _ => ∃ (p : Addr) (m : Int) (n : Nat), vs = [.ref p, .int m] ∧ PotAt H p n ∧ 1 ≤ m ∧ m ≤ 100 ∧ n ≤ 900000 ∧ ∀ H' u d, So [p] H H' → PotAt H' p (n + 3) → Im H' u (dDeal d) → DealOk d → Q u H'
theorem ok_law_drawn_deal (T : Th P K mg base) : GF P w K mg base 2 (He.ga K "_law_drawn_deal") ["_law_pot_here", "_law_most"] (sp_law_drawn_deal K) := by
  refine gf_of T.d_law_drawn_deal sc_law_drawn_deal (fun vs H Q E h => by obtain ⟨p, m, n, rfl, hp, m1, m2, nn, q⟩ := h; rfl) (fun _ _ _ _ _ _ us hl => match us, hl with | [_, _], _ => rfl) fun cdv A outer s H vs Q E hg hr hsp => ?_
  obtain ⟨p, m, n, rfl, hp, m1, m2, nn, q⟩ := hsp
  refine ⟨_, (pss_cons (ps_set (i := 2) sc_law_drawn_deal.nd rfl (Or.inl rfl) (pe_op op_add pe_int (pe_fn T.g_law_take (ok_law_take T) hg hr passL (pa_cons (pv 0) (pa_cons (pv 1) pa_nil)))))
    (pss_one (ps_ret (pe_tup (pa_cons (pv 2) (pa_cons (pe_fn T.g_law_take (ok_law_take T) hg hr passL (pa_cons (pv 0) (pa_cons (pv 2) pa_nil))) (pa_cons (pe_op op_add pe_int (pe_fn T.g_law_take (ok_law_take T) hg hr passL (pa_cons (pv 0) (pa_cons (pv 1) pa_nil)))) pa_nil))))))), ?_⟩
  refine ⟨_, rfl, _, rfl, p, m, n, rfl, hp, m1, by omega, by omega, fun H1 d o1 hp1 d0 d1 _ => ⟨_, _, rfl, rfl, ?_⟩⟩
  refine ⟨_, rfl, _, rfl, _, rfl, p, 1 + d, n + 1, rfl, hp1, by omega, by omega, by omega, fun H2 e o2 hp2 e0 e1 _ => ?_⟩
  refine ⟨_, rfl, _, rfl, p, m, n + 2, rfl, hp2, m1, by omega, by omega, fun H3 g o3 hp3 g0 g1 _ => ⟨_, _, rfl, rfl, ?_⟩⟩
  exact ⟨by show 3 ≤ sizeLine; decide, fun t nt => q _ _ (1 + d, e, 1 + g) (((o1.trans o2).trans o3).trans (.new nt)) (hp3.s (sameN nt)) (.deal upd_same) ⟨by omega, by omega, e0, e1, by show 1 ≤ 1 + g; omega, by show 1 + g ≤ 100; omega⟩⟩
def sp_law_a_cell (K : PySem.W.Frag) : Sp := fun vs H Q _ => ∃ (p : Addr) (m : Int) (n : Nat), vs = [.ref p, .int m] ∧ PotAt H p n ∧ 0 ≤ m ∧ m ≤ 100 ∧ n ≤ 900000 ∧ ∀ H' u c, So [p] H H' → PotAt H' p (n + 2) → Im H' u (dCell c) → -m ≤ c.1 → c.1 ≤ m → -m ≤ c.2 → c.2 ≤ m → Q u H'
theorem ok_law_a_cell (T : Th P K mg base) : GF P w K mg base 2 (He.ga K "_law_a_cell") ["_law_pot_here", "_law_wide"] (sp_law_a_cell K) := by
  refine gf_of T.d_law_a_cell sc_law_a_cell (fun vs H Q E h => by obtain ⟨p, m, n, rfl, hp, m1, m2, nn, q⟩ := h; rfl) (fun _ _ _ _ _ _ us hl => match us, hl with | [_, _], _ => rfl) fun cdv A outer s H vs Q E hg hr hsp => ?_
  obtain ⟨p, m, n, rfl, hp, m1, m2, nn, q⟩ := hsp
  refine ⟨_, (pss_one (ps_ret (pe_tup (pa_cons (pe_op op_sub (pe_fn T.g_law_take (ok_law_take T) hg hr passL (pa_cons (pv 0) (pa_cons (pe_op op_add (pe_op op_mul pe_int (pv 1)) pe_int) pa_nil))) (pv 1)) (pa_cons (pe_op op_sub (pe_fn T.g_law_take (ok_law_take T) hg hr passL (pa_cons (pv 0) (pa_cons (pe_op op_add (pe_op op_mul pe_int (pv 1)) pe_int) pa_nil))) (pv 1)) pa_nil))))), ?_⟩
  refine ⟨_, rfl, _, rfl, _, _, rfl, rfl, .inl ⟨by omega, by omega⟩, _, _, rfl, rfl, p, 2 * m + 1, n, rfl, hp, by omega, by omega, by omega, fun H1 d o1 hp1 d0 d1 _ => ⟨_, rfl, _, _, rfl, rfl, ?_⟩⟩
  refine ⟨_, rfl, _, rfl, _, _, rfl, rfl, .inl ⟨by omega, by omega⟩, _, _, rfl, rfl, p, 2 * m + 1, n + 1, rfl, hp1, by omega, by omega, by omega, fun H2 e o2 hp2 e0 e1 _ => ⟨_, rfl, _, _, rfl, rfl, ?_⟩⟩
  exact ⟨by show 2 ≤ sizeLine; decide, fun t nt => q _ _ (d - m, e - m) ((o1.trans o2).trans (.new nt)) (hp2.s (sameN nt)) (.cell upd_same) (by show -m ≤ d - m; omega) (by show d - m ≤ m; omega) (by show -m ≤ e - m; omega) (by show e - m ≤ m; omega)⟩
end
end Bp

namespace Bp
open PySem PySem.Spec PyProof.Rows L2
/-! ### a drawn shape is one -/
theorem nd_map {α β : Type} {f : α → β} : ∀ {l : List α}, l.Nodup → (∀ a ∈ l, ∀ b ∈ l, f a = f b → a = b) → (l.map f).Nodup
  | [], _, _ => List.nodup_nil
  | a :: l, h, inj => by
    obtain ⟨na, nd⟩ := List.nodup_cons.mp h
    refine List.nodup_cons.mpr ⟨fun hm => ?_, nd_map nd fun x hx y hy => inj x (List.mem_cons_of_mem _ hx) y (List.mem_cons_of_mem _ hy)⟩
    obtain ⟨b, hb, e⟩ := List.mem_map.mp hm
    exact na (by rw [inj a List.mem_cons_self b (List.mem_cons_of_mem _ hb) e.symm]; exact hb)
theorem shape_ok {cs out : List Cell} (ne : cs ≠ []) (nd : cs.Nodup) (lo : ∀ c ∈ cs, 0 ≤ c.1 ∧ c.1 < 12 ∧ 0 ≤ c.2 ∧ c.2 < 12) (len : cs.length ≤ 16) (h1 : SrtO.Srtd SrtO.lexB out) (h2 : SrtO.Stb SrtO.lexB out (shiftBy cs)) : ShapeOk out ∧ out.length = cs.length := by
  have pm := h2.perm
  have lsh : (shiftBy cs).length = cs.length := by unfold shiftBy; rw [List.length_map]
  have el : out.length = cs.length := pm.length_eq.trans lsh
  obtain ⟨mx1, mx2⟩ := minL_mem (cs.map Prod.fst) (by simpa using ne)
  obtain ⟨my1, my2⟩ := minL_mem (cs.map Prod.snd) (by simpa using ne)
  have mem : ∀ c ∈ out, ∃ d ∈ cs, c = (d.1 - minL (cs.map Prod.fst), d.2 - minL (cs.map Prod.snd)) := fun c hc => by
    have := pm.mem_iff.mp hc
    unfold shiftBy at this
    obtain ⟨d, hd, e⟩ := List.mem_map.mp this
    exact ⟨d, hd, e.symm⟩
  have mem' : ∀ d ∈ cs, (d.1 - minL (cs.map Prod.fst), d.2 - minL (cs.map Prod.snd)) ∈ out := fun d hd => pm.mem_iff.mpr (by unfold shiftBy; exact List.mem_map_of_mem hd)
  obtain ⟨d1, hd1, e1⟩ := List.mem_map.mp mx1
  obtain ⟨d2, hd2, e2⟩ := List.mem_map.mp my1
  have fst0 : ∀ d ∈ cs, minL (cs.map Prod.fst) ≤ d.1 := fun d hd => mx2 _ (List.mem_map_of_mem hd)
  have snd0 : ∀ d ∈ cs, minL (cs.map Prod.snd) ≤ d.2 := fun d hd => my2 _ (List.mem_map_of_mem hd)
  have b1 := lo d1 hd1
  have b2 := lo d2 hd2
  refine ⟨⟨fun z => ?_, by omega, ?_, fun c hc => ?_, ?_, ?_, h1⟩, el⟩
  · rw [z] at el
    exact ne (List.eq_nil_of_length_eq_zero el.symm)
  · refine pm.nodup_iff.mpr ?_
    unfold shiftBy
    refine nd_map nd fun a _ b _ e => ?_
    have x1 := congrArg Prod.fst e
    have x2 := congrArg Prod.snd e
    dsimp only at x1 x2
    exact Prod.ext (by omega) (by omega)
  · obtain ⟨d, hd, rfl⟩ := mem c hc
    have q1 := fst0 d hd
    have q2 := snd0 d hd
    have q3 := lo d hd
    refine ⟨?_, ?_, ?_, ?_⟩ <;> dsimp only <;> omega
  · refine (minL_uniq (List.mem_map.mpr ⟨_, mem' d1 hd1, ?_⟩) fun y hy => ?_).symm
    · dsimp only
      omega
    · obtain ⟨c, hc, rfl⟩ := List.mem_map.mp hy
      obtain ⟨d, hd, rfl⟩ := mem c hc
      have q1 := fst0 d hd
      dsimp only
      omega
  · refine (minL_uniq (List.mem_map.mpr ⟨_, mem' d2 hd2, ?_⟩) fun y hy => ?_).symm
    · dsimp only
      omega
    · obtain ⟨c, hc, rfl⟩ := List.mem_map.mp hy
      obtain ⟨d, hd, rfl⟩ := mem c hc
      have q1 := snd0 d hd
      dsimp only
      omega
/-- the cells of a box, the first i columns -/
def row (w x : Nat) : List Cell := (List.range w).map fun (y : Nat) => ((x : Int), (y : Int))
def box (w : Nat) : Nat → List Cell
  | 0 => []
  | i + 1 => box w i ++ row w i
theorem row_len (w x : Nat) : (row w x).length = w := by simp [row]
theorem box_len (w : Nat) : ∀ i, (box w i).length = i * w
  | 0 => by simp [box]
  | i + 1 => by
    rw [box, List.length_append, box_len w i, row_len]
    exact (Nat.succ_mul i w).symm
theorem row_mem {w x : Nat} {c : Cell} (h : c ∈ row w x) : c.1 = x ∧ 0 ≤ c.2 ∧ c.2 < w := by
  obtain ⟨y, hy, rfl⟩ := List.mem_map.mp h
  have := List.mem_range.mp hy
  refine ⟨rfl, ?_, ?_⟩ <;> dsimp only <;> omega
theorem box_mem {w : Nat} : ∀ {i : Nat} {c : Cell}, c ∈ box w i → 0 ≤ c.1 ∧ c.1 < i ∧ 0 ≤ c.2 ∧ c.2 < w
  | 0, c, h => by cases h
  | i + 1, c, h => by
    rcases List.mem_append.mp h with h | h
    · have := box_mem h
      omega
    · have := row_mem h
      omega
theorem row_nd (w x : Nat) : (row w x).Nodup := nd_map List.nodup_range fun a _ b _ e => by
  have := congrArg Prod.snd e
  dsimp only at this
  omega
theorem box_nd (w : Nat) : ∀ i, (box w i).Nodup
  | 0 => List.nodup_nil
  | i + 1 => List.nodup_append.mpr ⟨box_nd w i, row_nd w i, fun a ha b hb e => by
      have := box_mem ha
      have := row_mem hb
      subst e
      omega⟩
end Bp

namespace Bp
open PySem PySem.Spec PyProof.Rows L2
theorem kAts {H : Hp} : ∀ {xs : List V} {l : List Cell}, ImAll H xs (l.map dCell) → xs.map (kAt H) = l ∧ ∀ v ∈ xs, Im H v (dCell (kAt H v))
  | [], [], _ => ⟨rfl, fun v h => by cases h⟩
  | _ :: _, [], h => by cases h
  | [], _ :: _, h => by cases h
  | x :: xs, c :: l, h => by
    rw [List.map_cons] at h
    cases h with
    | cons h1 h2 =>
      obtain ⟨e, i⟩ := kAts h2
      have ek := kAt_cell h1
      refine ⟨by rw [List.map_cons, e, ek], fun v hv => ?_⟩
      rcases List.mem_cons.mp hv with rfl | hv
      · rw [ek]
        exact h1
      · exact i v hv
section
variable {P : Program} {w : World} {K : PySem.W.Frag} {mg : Str → Option Value} {base : Heap}
/-! ### _law_loose: slots pot 0, many 1, wide 2, cells 3, x 4, y 5 -/
def sp_law_loose (K : PySem.W.Frag) : Sp := fun vs H Q _ => ∃ (p : Addr) (m wd n : Nat), vs = [.ref p, .int m, .int wd] ∧ PotAt H p n ∧ 1 ≤ m ∧ m ≤ wd * wd ∧ m ≤ 16 ∧ wd ≤ 5 ∧ n ≤ 900000 ∧
  ∀ H' u sh, So [p] H H' → PotAt H' p (n + m) → Im H' u (dShape sh) → ShapeOk sh → sh.length = m → Q u H'
theorem ok_law_loose (T : Th P K mg base) : GF P w K mg base 4 (He.ga K "_law_loose") ["_law_pot_here", "_law_many", "_law_wide"] (sp_law_loose K) := by
  refine gf_of T.d_law_loose sc_law_loose (fun vs H Q E h => by obtain ⟨p, m, wd, n, rfl, hp, m0, m1, m2, w5, nn, q⟩ := h; rfl) (fun _ _ _ _ _ _ us hl => match us, hl with | [_, _, _], _ => rfl) fun cdv A outer s H vs Q E hg hr hsp => ?_
  obtain ⟨p, m, wd, n, rfl, hp, m0, m1, m2, w5, nn, q⟩ := hsp
  refine ⟨_, (pss_cons (ps_set (i := 3) sc_law_loose.nd rfl (Or.inl rfl) (pe_lst pa_nil))
    (pss_cons (ps_for PassesOwn.leaving rfl (pi_range1 (by rfl) T.f_range (pa_cons (pv 2) pa_nil)) (pg_name (i := 4) sc_law_loose.nd rfl (Or.inr rfl))
      (pss_one (ps_expr (pe_bm PySem.F.plainAttrs_list PySem.F.slot_list_extend PySem.F.type_list_extend mt_extend (pv 3) (pa_cons (pe_lc (own := [("_law_y", 5)]) (tt := tYes) rfl sc_law_loose.nd (pi_range1 (by rfl) T.f_range (pa_cons (pv 2) pa_nil)) (blkOk_by (N := N_law_loose) (sc := defScope s_law_loose) (by decide +kernel)) (fun _ _ _ _ _ => (pg_name (i := 5) sc_law_loose.nd rfl (Or.inl rfl))) (fun _ _ _ _ _ => pts_nil) (fun _ _ _ _ _ => (pe_tup (pa_cons (pv 4) (pa_cons (pv 5) pa_nil))))) pa_nil)))))
    (pss_one (ps_ret (pe_fn T.g_law_settled (ok_law_settled T) hg hr passL (pa_cons (pe_fn T.g_law_some (ok_law_some T) hg hr passL (pa_cons (pv 0) (pa_cons (pv 3) (pa_cons (pv 1) pa_nil)))) pa_nil)))))), ?_⟩
  refine ⟨Nat.zero_le _, fun l nl => ?_⟩
  have s1 : Same H (upd H l (.lst [])) := sameN nl
  have el : upd H l (.lst []) l = some (.lst []) := upd_same
  have hp1 := hp.s s1
  generalize upd H l (.lst []) = H1 at s1 el hp1
  have pl : p ≠ l := by
    obtain ⟨a, b, c, h, _⟩ := id hp
    exact ne_lst h nl
  have mul25 : wd * wd ≤ 25 := Nat.mul_le_mul w5 w5
  refine ⟨_, rfl, (wd : Int), rfl, by omega, by omega, for_it (walk_range (lo := 0) (n := wd)) (fun i σ H' => ∃ ys x, σ = [some (.ref p), some (.int m), some (.int wd), some (.ref l), x, none] ∧ So [l] H1 H' ∧ H' l = some (.lst ys) ∧ ImAll H' ys ((box wd i).map dCell))
    ⟨[], none, rfl, .refl _ _, el, .nil⟩ (fun _ _ _ _ _ => True.intro) (fun i v σ H3 H4 hi pv y => ?_) (fun σ H3 pv => ?_)⟩
  · obtain ⟨ys, x0, rfl, o3, hl, hys⟩ := pv
    obtain ⟨rfl, rfl⟩ := y
    refine ⟨_, rfl, .inl ⟨rfl, _, SqL.of hl⟩, _, rfl, (wd : Int), rfl, by omega, by omega, fun D hD => lc_it (walk_range (lo := 0) (n := wd)) (LcP H4 D fun j v H => ∃ c, (row wd i)[j]? = some c ∧ Im H v (dCell c)) (LcP.zero hD) (fun _ _ _ _ => True.intro) (fun j x H5 H6 hj pp yy => ?_) (fun H5 pp => ?_)⟩
    · obtain ⟨rfl, rfl⟩ := yy
      refine ⟨rfl, _, rfl, _, rfl, by show 2 ≤ sizeLine; decide, fun t nt => ?_⟩
      refine LcP.next (fun j v H H' ⟨c, e1, e2⟩ k => ⟨c, e1, e2.k k⟩) hD (by omega) pp (sameN nt) ⟨(0 + (i : Int), 0 + (j : Int)), ?_, .cell upd_same⟩
      unfold row
      rw [List.getElem?_map, List.getElem?_range hj]
      simp
    · obtain ⟨s5, acc, e5, l5, q5⟩ := pp
      have ly : ys.length = i * wd := by rw [hys.len, List.length_map, box_len]
      have i25 : i * wd ≤ 25 := Nat.le_trans (Nat.mul_le_mul (Nat.le_of_lt hi) (Nat.le_refl wd)) mul25
      have hacc : ImAll H5 acc ((row wd i).map dCell) := ImAll.of_at (by rw [List.length_map, row_len]; exact l5) fun j v d e1 e2 => by
        obtain ⟨c, g1, g2⟩ := q5 j v e1
        rw [List.getElem?_map, g1] at e2
        cases e2
        exact g2
      refine ⟨l, D, ys, acc, rfl, rfl, s5 _ _ hl, e5, Nat.le_trans (show _ ≤ 30 by omega) (by decide), ?_⟩
      have k6 : Kp H5 (upd H5 l (.lst (ys ++ acc))) := Kp.upd fun u e => by
        rw [s5 _ _ hl] at e
        cases e
        exact nf_lst
      refine ⟨ys ++ acc, _, rfl, (o3.trans (.same s5)).trans (.upd (by simp)), upd_same, ?_⟩
      rw [box, List.map_append]
      exact (hys.k ((Kp.of s5).trans k6)).app (hacc.k k6)
  · obtain ⟨ys, x0, rfl, o3, hl, hys⟩ := pv
    obtain ⟨ek, hk⟩ := kAts hys
    have ly : ys.length = wd * wd := by rw [hys.len, List.length_map, box_len]
    have hp3 : PotAt H3 p n := hp1.of fun xs z => o3 _ _ z (by simpa using pl)
    refine ⟨_, rfl, _, rfl, _, rfl, p, l, ys, m, n, rfl, hp3, hl, by omega, by omega, by omega, fun H4 f fs rs o4 hp4 nf hf pm lf k4 => ?_⟩
    have pm2 := pm.map (kAt H3)
    rw [ek, List.map_append] at pm2
    have sub : ∀ v ∈ fs, v ∈ ys := fun v hv => pm.mem_iff.mp (List.mem_append_left _ hv)
    have S : SqC K H4 (.ref f) (fs.map (kAt H3)) f fs := ⟨rfl, .inl (SqL.of hf), by rw [List.length_map], fun i x e => ⟨kAt H3 x, by rw [List.getElem?_map, e]; rfl, (hk x (sub x (List.mem_of_getElem? e))).k k4⟩⟩
    have cl : (fs.map (kAt H3)).length = m := by rw [List.length_map]; exact lf
    have ne : fs.map (kAt H3) ≠ [] := fun z => by rw [z] at cl; simp at cl; omega
    refine ⟨.ref f, fs.map (kAt H3), f, fs, rfl, S, ne, by omega, fun x H5 out s5 hx h1 h2 _ => ?_⟩
    have nd : (fs.map (kAt H3)).Nodup := (List.nodup_append.mp (pm2.nodup_iff.mpr (box_nd wd wd))).1
    obtain ⟨ok, lo⟩ := shape_ok ne nd (fun c hc => by
      have := box_mem (pm2.mem_iff.mp (List.mem_append_left _ hc))
      omega) (by omega) h1 h2
    have o34 : So [p] H H5 := fun b o e nb => s5 _ _ (o4 b o (o3 b o (s1 b o e) (by simpa using ne_lst e nl)) nb)
    exact q H5 x out o34 (hp4.s s5) hx ok (by omega)
end
end Bp

namespace Bp
open PySem PySem.Spec PyProof.Rows L2
/-! ### a tuple just made, frozen at once -/
def tTupF (t : TA) : TE := fun σ H Q => t σ H fun xs H1 => xs.length ≤ sizeLine ∧ ∀ p (o : Obj), H1 p = none → o.dict = none → Q (.ref p) (upd H1 p (.frz o (.tup xs)))
section
variable {X : Cx} {es : List Expr} {t : TA} {pos : Pos}
theorem pe_tupF {x1} (h : PA X es t) : PE X (.Tuple es x1 pos) (tTupF t) := by
  constructor
  intro pins s σ H Q I hq
  refine wpAny_Tuple_spliced (thn (h.run pos pins s σ H _ I hq) ?_)
  rintro us s1 ⟨xs, H1, I1, r, z, q⟩
  refine ⟨by rw [← r.length]; exact z, ?_⟩
  have hf : H1 s1.heap.objs.size = none := I1.hok.fresh (Nat.le_refl _)
  have I2 : Inv X pins σ (upd H1 s1.heap.objs.size (.frz { cls := .type "tuple", data := .seq us.toArray } (.tup xs))) { s1 with heap := s1.heap.push { cls := .type "tuple", data := .seq us.toArray } } :=
    I1.laid (t' := s1.toks) (fun b u e => Heap.get?_push_of_some _ e) (Nat.le_refl _) (show ObjOk X.prog X.w _ _ _ (.frz _ (.tup xs)) from ⟨Heap.get?_push_size _ rfl, z, us, r, IsTup.new _ _⟩)
  exact ⟨.ref s1.heap.objs.size, _, I2, rfl, q _ _ hf rfl⟩
end
/-! ### values of any kind, as far as repr looks -/
inductive OddD (H : Hp) : V → PyData → Prop where
  | im {v : V} {d : PyData} (h : Im H v d) (n : d.hasDict = false) : OddD H v d
  | dict {a : Addr} {o : Obj} (h : H a = some (.frz o (.dK []))) : OddD H (.ref a) (.dict [])
theorem OddD.k {H H' : Hp} {v : V} {d : PyData} (h : OddD H v d) (k : Kp H H') : OddD H' v d := by
  cases h with
  | im h n => exact .im (h.k k) n
  | dict h => exact .dict (k.frz _ _ _ h)
def OddV (H : Hp) (v : V) (d : PyData) : Prop := OddD H v d ∧ d.showable = true ∧ d.depth ≤ 40 ∧ d.shown.length ≤ sizeLine
theorem OddV.k {H H' : Hp} {v : V} {d : PyData} (h : OddV H v d) (k : Kp H H') : OddV H' v d := ⟨h.1.k k, h.2⟩
def rReprX : List V → Hp → VK → Prop := fun xs H Q => ∃ x d, xs = [x] ∧ OddV H x d ∧ Q (.str d.shown) H
theorem call_reprX {X : Cx} (hg : X.A.guards = some []) (hu : X.A.units + 64 < cLine) : CallR X (.builtin "repr") rReprX := by
  intro pins s σ H xs us Q I r h
  obtain ⟨x, d, rfl, ⟨hd, h1, h2, h3⟩, q⟩ := h
  cases hd with
  | im h n => exact call_repr hg hu pins s σ H [x] us Q I r ⟨x, d, rfl, .dp h.d n, h1, h2, h3, q⟩
  | @dict a o h =>
    obtain ⟨u, rfl, ru⟩ := vals1 r
    cases ru
    obtain ⟨e0, hl, hne, vs, kv, o', es, ep, e1, e2, e3⟩ := I.hok a _ h
    cases kv
    have hes : es.toList = [] := by
      have z := e3.2.2.1
      generalize es.toList = l at z
      cases z
      rfl
    have rd : Reads s.heap (.ref a) (.dict []) (a :: [] ++ []) := .dict e1 e2.1 e3.1 (by rw [hes]; exact .nil) (by rw [hes]; exact .nil)
    refine PySem.repr_of_reads' rd h1 (fun _ hm => ?_) hg (by omega) (fun _ _ e => e) (fun h' t tk k => ⟨.str _, H, I.kept (t' := tk) k, ⟨t, rfl⟩, q⟩) h3
    have e : sysModules = a := by simpa using hm
    rw [e] at hne
    simp at hne
end Bp

namespace Bp
open PySem PySem.Spec PyProof.Rows L2
/-! ### literals -/
def GvD (te : TE) (d : PyData) : Prop := ∀ (σ : L2.St) (H : Hp) (Q : VK), (∀ H' v, Same H H' → Im H' v d → Q v H') → te σ H Q
def GvA (ta : TA) (ds : List PyData) : Prop := ∀ (σ : L2.St) (H : Hp) (Q : List V → Hp → Prop), (∀ H' vs, Same H H' → ImAll H' vs ds → Q vs H') → ta σ H Q
def GvO (te : TE) : Prop := ∀ (σ : L2.St) (H : Hp) (Q : VK), (∀ H' v d, Same H H' → OddV H' v d → Q v H') → te σ H Q
def GvOs (ta : TA) (k : Nat) : Prop := ∀ (σ : L2.St) (H : Hp) (Q : List V → Hp → Prop), (∀ H' vs, Same H H' → vs.length = k → (∀ v ∈ vs, ∃ d, OddV H' v d) → Q vs H') → ta σ H Q
theorem gv_non : GvD (tC .non) .none := fun _ H _ q => q H _ (Same.refl _) .non
theorem gv_bl {b : Bool} : GvD (tC (.bl b)) (.bool b) := fun _ H _ q => q H _ (Same.refl _) (.bl b)
theorem gv_int {i : Int} : GvD (tC (.int i)) (.int i) := fun _ H _ q => q H _ (Same.refl _) (.int i)
theorem gv_str {x : Str} : GvD (tC (.str x)) (.str x) := fun _ H _ q => q H _ (Same.refl _) (.str x)
theorem gv_nil : GvA tNil [] := fun _ H _ q => q H [] (Same.refl _) .nil
theorem gv_cons {te : TE} {ta : TA} {d : PyData} {ds : List PyData} (h1 : GvD te d) (h2 : GvA ta ds) : GvA (tCons te ta) (d :: ds) := fun σ H Q q =>
  h1 σ H _ fun H1 v s1 i1 => h2 σ H1 _ fun H2 vs s2 i2 => q H2 (v :: vs) (s1.trans s2) (.cons (i1.s s2) i2)
theorem gv_tup {ta : TA} {ds : List PyData} (h : GvA ta ds) (l : ds.length ≤ 30 := by decide) (n : isSh ds = false := by rfl) : GvD (tTup ta) (.tuple ds) := fun σ H Q q =>
  h σ H _ fun H1 vs s1 i1 => ⟨by rw [i1.len]; exact Nat.le_trans l (by decide), fun p np => q _ _ (s1.trans (sameN np)) (.tup (.of upd_same n) (i1.s (sameN np)))⟩
theorem gv_tupF {ta : TA} {ds : List PyData} (h : GvA ta ds) (l : ds.length ≤ 30 := by decide) (n : isSh ds = true := by rfl) : GvD (tTupF ta) (.tuple ds) := fun σ H Q q =>
  h σ H _ fun H1 vs s1 i1 => ⟨by rw [i1.len]; exact Nat.le_trans l (by decide), fun p o np dn => q _ _ (s1.trans (sameN np)) (.tup (by unfold TupAt; rw [n]; exact ⟨o, upd_same, dn⟩) (i1.s (sameN np)))⟩
theorem gv_lstF {ta : TA} {ds : List PyData} (h : GvA ta ds) (l : ds.length ≤ 30 := by decide) : GvD (tFrz (tLst ta)) (.list ds) := fun σ H Q q =>
  h σ H _ fun H1 vs s1 i1 => ⟨by rw [i1.len]; exact Nat.le_trans l (by decide), fun p np => ⟨p, _, rfl, upd_same, True.intro, fun o => by
    obtain ⟨f1, f2⟩ := frz_new (u := .lst vs) (o := o) np
    exact q _ _ (s1.trans f1) (.lst f2 (i1.s f1))⟩⟩
theorem gv_o {te : TE} {d : PyData} (h : GvD te d) (f : (d.hasDict = false ∧ d.showable = true ∧ d.depth ≤ 40) ∧ d.shown.length ≤ sizeLine := by decide +kernel) : GvO te := fun σ H Q q => h σ H Q fun H' v s i => q H' v d s ⟨.im i f.1.1, f.1.2.1, f.1.2.2, f.2⟩
theorem gv_dict : GvO (tFrz tDNewK) := fun σ H Q q => fun p np => ⟨p, _, rfl, upd_same, True.intro, fun o => by
  obtain ⟨f1, f2⟩ := frz_new (u := .dK []) (o := o) np
  exact q _ _ _ f1 ⟨.dict f2, by decide +kernel, by decide +kernel, by decide +kernel⟩⟩
theorem gos_nil : GvOs tNil 0 := fun _ H _ q => q H [] (Same.refl _) rfl fun v h => by cases h
theorem gos_cons {te : TE} {ta : TA} {k : Nat} (h1 : GvO te) (h2 : GvOs ta k) : GvOs (tCons te ta) (k + 1) := fun σ H Q q =>
  h1 σ H _ fun H1 v d s1 i1 => h2 σ H1 _ fun H2 vs s2 l2 i2 => q H2 (v :: vs) (s1.trans s2) (by rw [List.length_cons, l2]) fun x hx => by
    rcases List.mem_cons.mp hx with rfl | hx
    · exact ⟨d, i1.k (Kp.of s2)⟩
    · exact i2 x hx
theorem gv_list {ta : TA} {k : Nat} (h : GvOs ta k) (hk : k ≤ 100) {σ : L2.St} {H : Hp} {Q : VK} (q : ∀ H' a vs, Same H H' → H' a = some (.lst vs) → H a = none → vs.length = k → (∀ v ∈ vs, ∃ d, OddV H' v d) → Q (.ref a) H') : tLst ta σ H Q :=
  h σ H _ fun H1 vs s1 l1 i1 => ⟨by rw [l1]; exact Nat.le_trans hk (by decide), fun a na => q _ a vs (s1.trans (sameN na)) upd_same (by
    cases e : H a with
    | none => rfl
    | some u => rw [s1 _ _ e] at na; cases na) l1 fun v hv => by
      obtain ⟨d, h⟩ := i1 v hv
      exact ⟨d, h.k (Kp.of (sameN na))⟩⟩
theorem seq_asg {te : TE} {g : TG} {u : TS} {D : Ends} {σ : L2.St} {H : Hp} (h : te σ H fun v H1 => g v σ H1 (u D)) : tSeq (tAsg te g) u D σ H := h
theorem gv_neg {i : Int} : GvD (tUn (rU fun i => V.int (-i)) (tC (.int i))) (.int (-i)) := fun _ H _ q => ⟨i, rfl, q H _ (Same.refl _) (.int _)⟩
theorem gv_pow {i j : Int} (c : CPow i j) : GvD (tOp (rI CPow fun i j => V.int (i ^ j.toNat)) (tC (.int i)) (tC (.int j))) (.int (i ^ j.toNat)) := fun _ H _ q => ⟨i, j, rfl, rfl, c, q H _ (Same.refl _) (.int _)⟩
section
variable {P : Program} {w : World} {K : PySem.W.Frag} {mg : Str → Option Value} {base : Heap}
/-! ### _law_odd: slots pot 0, some 1 -/
def sp_law_odd (K : PySem.W.Frag) : Sp := fun vs H Q _ => ∃ (p : Addr) (n : Nat), vs = [.ref p] ∧ PotAt H p n ∧ n ≤ 900000 ∧ ∀ H' v d, So [p] H H' → PotAt H' p (n + 1) → OddV H' v d → Q v H'
theorem ok_law_odd (T : Th P K mg base) : GF P w K mg base 3 (He.ga K "_law_odd") ["_law_pot_here"] (sp_law_odd K) := by
  refine gf_of T.d_law_odd sc_law_odd (fun vs H Q E h => by obtain ⟨p, n, rfl, hp, nn, q⟩ := h; rfl) (fun _ _ _ _ _ _ us hl => match us, hl with | [_], _ => rfl) fun cdv A outer s H vs Q E hg hr hsp => ?_
  obtain ⟨p, n, rfl, hp, nn, q⟩ := hsp
  refine ⟨_, (pss_cons (ps_set (i := 1) sc_law_odd.nd rfl (Or.inl rfl) (pe_lst (pa_cons pe_non (pa_cons pe_bl (pa_cons pe_bl (pa_cons pe_int (pa_cons pe_int (pa_cons (pe_un un_neg pe_int) (pa_cons pe_int (pa_cons pe_str (pa_cons pe_str (pa_cons pe_str (pa_cons (pe_tup pa_nil) (pa_cons (pe_frz (pe_lst pa_nil)) (pa_cons (pe_frz pe_dnewK) (pa_cons (pe_tup (pa_cons pe_int pa_nil)) (pa_cons (pe_tup (pa_cons (pe_tup pa_nil) pa_nil)) (pa_cons (pe_frz (pe_lst (pa_cons pe_int pa_nil))) (pa_cons (pe_tup (pa_cons pe_int (pa_cons pe_int pa_nil))) (pa_cons (pe_tup (pa_cons pe_int (pa_cons pe_int (pa_cons pe_int pa_nil)))) (pa_cons pe_str pa_nil)))))))))))))))))))))
    (pss_cons (ps_set (i := 1) sc_law_odd.nd rfl (Or.inl rfl) (pe_op op_cat (pv 1) (pe_lst (pa_cons (pe_tupF (pa_cons (pe_tup (pa_cons pe_int (pa_cons pe_int pa_nil))) pa_nil)) (pa_cons (pe_tupF (pa_cons (pe_tup (pa_cons pe_int (pa_cons pe_int pa_nil))) pa_nil)) (pa_cons (pe_tup (pa_cons pe_int (pa_cons pe_int (pa_cons pe_int pa_nil)))) (pa_cons (pe_tup (pa_cons pe_bl (pa_cons pe_int pa_nil))) (pa_cons (pe_tup (pa_cons pe_non pa_nil)) (pa_cons (pe_tup (pa_cons pe_str (pa_cons (pe_tup (pa_cons pe_int (pa_cons pe_int pa_nil))) pa_nil))) (pa_cons (pe_tup (pa_cons pe_str (pa_cons (pe_tup (pa_cons pe_int (pa_cons pe_int (pa_cons pe_int pa_nil)))) pa_nil))) (pa_cons (pe_op op_pow pe_int pe_int) pa_nil)))))))))))
    (pss_one (ps_ret (pe_fn T.g_law_of (ok_law_of T) hg hr passL (pa_cons (pv 0) (pa_cons (pv 1) pa_nil))))))), ?_⟩
  refine seq_asg (gv_list (k := 19) ?_ (by decide) fun H1 a vs s1 ea _ l1 i1 => seq_asg ⟨_, rfl, ?_⟩)
  · exact gos_cons (gv_o gv_non) (gos_cons (gv_o gv_bl) (gos_cons (gv_o gv_bl) (gos_cons (gv_o gv_int) (gos_cons (gv_o gv_int) (gos_cons (gv_o gv_neg) (gos_cons (gv_o gv_int) (gos_cons (gv_o gv_str) (gos_cons (gv_o gv_str) (gos_cons (gv_o gv_str)
      (gos_cons (gv_o (gv_tup gv_nil)) (gos_cons (gv_o (gv_lstF gv_nil)) (gos_cons gv_dict (gos_cons (gv_o (gv_tup (gv_cons gv_int gv_nil))) (gos_cons (gv_o (gv_tup (gv_cons (gv_tup gv_nil) gv_nil))) (gos_cons (gv_o (gv_lstF (gv_cons gv_int gv_nil)))
      (gos_cons (gv_o (gv_tup (gv_cons gv_int (gv_cons gv_int gv_nil)))) (gos_cons (gv_o (gv_tup (gv_cons gv_int (gv_cons gv_int (gv_cons gv_int gv_nil))))) (gos_cons (gv_o gv_str) gos_nil))))))))))))))))))
  show tLst _ _ _ _
  refine gv_list (k := 8) ?_ (by decide) fun H4 b us s4 eb _ l3 i3 => ?_
  · exact gos_cons (gv_o (gv_tupF (gv_cons (gv_tup (gv_cons gv_int (gv_cons gv_int gv_nil))) gv_nil))) (gos_cons (gv_o (gv_tupF (gv_cons (gv_tup (gv_cons gv_int (gv_cons gv_int gv_nil))) gv_nil))) (gos_cons (gv_o (gv_tup (gv_cons gv_int (gv_cons gv_int (gv_cons gv_int gv_nil)))))
      (gos_cons (gv_o (gv_tup (gv_cons gv_bl (gv_cons gv_int gv_nil)))) (gos_cons (gv_o (gv_tup (gv_cons gv_non gv_nil))) (gos_cons (gv_o (gv_tup (gv_cons gv_str (gv_cons (gv_tup (gv_cons gv_int (gv_cons gv_int gv_nil))) gv_nil))))
      (gos_cons (gv_o (gv_tup (gv_cons gv_str (gv_cons (gv_tup (gv_cons gv_int (gv_cons gv_int (gv_cons gv_int gv_nil)))) gv_nil)))) (gos_cons (gv_o (gv_pow ⟨by decide, by decide, by decide⟩)) gos_nil)))))))
  have ea4 := s4 _ _ ea
  refine ⟨a, b, vs, us, rfl, rfl, ea4, eb, Nat.le_trans (show _ ≤ 100 by omega) (by decide), fun c nc => ?_⟩
  have s5 : Same H4 (upd H4 c (.lst (vs ++ us))) := sameN nc
  have ec : upd H4 c (.lst (vs ++ us)) c = some (.lst (vs ++ us)) := upd_same
  have sA := s1.trans s4
  have pc : p ≠ c := by
    obtain ⟨x, y, z, h, _⟩ := hp.s sA
    exact ne_lst h nc
  generalize upd H4 c (.lst (vs ++ us)) = H5 at s5 ec
  refine ⟨_, rfl, _, rfl, p, c, vs ++ us, n, rfl, hp.s (sA.trans s5), ec, Ne.symm pc, by rw [List.length_append, l1]; omega, by rw [List.length_append, l1, l3]; omega, by omega, fun H6 v o6 hp6 hv k6 => ?_⟩
  have od : ∃ d, OddV H5 v d := by
    rcases List.mem_append.mp hv with h | h
    · obtain ⟨d, h⟩ := i1 v h
      exact ⟨d, h.k (Kp.of (s4.trans s5))⟩
    · obtain ⟨d, h⟩ := i3 v h
      exact ⟨d, h.k (Kp.of s5)⟩
  obtain ⟨d, od⟩ := od
  exact q H6 v d (fun x o e nx => o6 x o ((sA.trans s5) x o e) nx) hp6 (od.k k6)
end
end Bp

namespace Bp
open PySem PySem.Spec PyProof.Rows L2
/-- numbers gathered while a pot is drawn from -/
def LcQ (p : Addr) (n : Nat) (H1 : Hp) (D : Addr) (i : Nat) (H : Hp) : Prop := So [p] H1 H ∧ PotAt H p (n + i) ∧ ∃ ns : List Int, H D = some (.lst (ns.map .int)) ∧ ns.length = i ∧ ∀ x ∈ ns, -999 ≤ x ∧ x ≤ 999
section
variable {P : Program} {w : World} {K : PySem.W.Frag} {mg : Str → Option Value} {base : Heap}
/-! ### _law_a_deed: slots pot 0, many 1, wide 2, shape 3, numbers 4, cell 5 -/
def sp_law_a_deed (K : PySem.W.Frag) : Sp := fun vs H Q _ => ∃ (p : Addr) (n : Nat), vs = [.ref p] ∧ PotAt H p n ∧ n ≤ 800000 ∧ ∀ H' u d, So [p] H H' → PotAt H' p (n + 60) → Im H' u (dDeed d) → DeedOk d → Q u H'
theorem ok_law_a_deed (T : Th P K mg base) : GF P w K mg base 5 (He.ga K "_law_a_deed") ["_law_pot_here"] (sp_law_a_deed K) := by
  refine gf_of T.d_law_a_deed sc_law_a_deed (fun vs H Q E h => by obtain ⟨p, n, rfl, hp, nn, q⟩ := h; rfl) (fun _ _ _ _ _ _ us hl => match us, hl with | [_], _ => rfl) fun cdv A outer s H vs Q E hg hr hsp => ?_
  obtain ⟨p, n, rfl, hp, nn, q⟩ := hsp
  refine ⟨_, (pss_cons (ps_if (pt_cmpR op_eq (pe_fn T.g_law_take (ok_law_take T) hg hr passL (pa_cons (pv 0) (pa_cons pe_int pa_nil))) pe_int (nomark _)) (pss_one (ps_ret (pe_tup (pa_cons pe_str (pa_cons (pe_fn T.g_law_drawn_deal (ok_law_drawn_deal T) hg hr passL (pa_cons (pv 0) (pa_cons (pe_fn T.g_law_of (ok_law_of T) hg hr passL (pa_cons (pv 0) (pa_cons (pe_lst (pa_cons pe_int (pa_cons pe_int (pa_cons pe_int pa_nil)))) pa_nil))) pa_nil))) pa_nil))))) pss_nil)
    (pss_cons (ps_asg (pe_ifExp (pt_cmpR op_gt (pe_fn T.g_law_take (ok_law_take T) hg hr passL (pa_cons (pv 0) (pa_cons pe_int pa_nil))) pe_int (nomark _)) (pe_tup (pa_cons (pe_op op_add pe_int (pe_fn T.g_law_take (ok_law_take T) hg hr passL (pa_cons (pv 0) (pa_cons pe_int pa_nil)))) (pa_cons pe_int pa_nil))) (pe_tup (pa_cons (pe_op op_add pe_int (pe_fn T.g_law_take (ok_law_take T) hg hr passL (pa_cons (pv 0) (pa_cons pe_int pa_nil)))) (pa_cons pe_int pa_nil)))) (pg_tup rfl (pgs_cons (pg_name (i := 1) sc_law_a_deed.nd rfl (Or.inl rfl)) (pgs_cons (pg_name (i := 2) sc_law_a_deed.nd rfl (Or.inl rfl)) pgs_nil))))
    (pss_cons (ps_set (i := 3) sc_law_a_deed.nd rfl (Or.inl rfl) (pe_fn T.g_law_loose (ok_law_loose T) hg hr passL (pa_cons (pv 0) (pa_cons (pv 1) (pa_cons (pv 2) pa_nil)))))
    (pss_cons (ps_set (i := 4) sc_law_a_deed.nd rfl (Or.inl rfl) (pe_callTy call_tuple_of (by rfl) T.f_tuple (by decide +kernel) (pa_cons (pe_lc (own := [("_law_cell", 5)]) (tt := tYes) rfl sc_law_a_deed.nd (pi_tup (pv 3)) (blkOk_by (N := N_law_a_deed) (sc := defScope s_law_a_deed) (by decide +kernel)) (fun _ _ _ _ _ => (pg_name (i := 5) sc_law_a_deed.nd rfl (Or.inl rfl))) (fun _ _ _ _ _ => pts_nil) (fun _ _ _ _ _ => (pe_fn T.g_law_of (ok_law_of T) hg hr passL (pa_cons (pv 0) (pa_cons (pe_lst (pa_cons pe_int (pa_cons pe_int (pa_cons (pe_un un_neg pe_int) (pa_cons pe_int (pa_cons pe_int (pa_cons (pe_un un_neg pe_int) (pa_cons pe_int pa_nil)))))))) pa_nil))))) pa_nil)))
    (pss_one (ps_ret (pe_tup (pa_cons pe_str (pa_cons (pv 3) (pa_cons (pe_fn T.g_law_a_cell (ok_law_a_cell T) hg hr passL (pa_cons (pv 0) (pa_cons pe_int pa_nil))) (pa_cons (pv 4) pa_nil))))))))))), ?_⟩
  refine ⟨_, rfl, p, 4, n, rfl, hp, by omega, by omega, by omega, fun H1 d o1 hp1 d0 d1 _ => ⟨rfl, _, rfl, ?_⟩⟩
  by_cases hd : d = 0
  · refine iteD (by rw [hd]) ?_
    refine ⟨_, rfl, _, rfl, by show 3 ≤ sizeLine; decide, fun l nl => ⟨p, l, [.int 3, .int 3, .int 30], n + 1, rfl, hp1.s (sameN nl), upd_same, ?_, by decide, by decide, by omega, fun H2 v o2 hp2 hv _ => ?_⟩⟩
    · obtain ⟨x, y, z, h, _⟩ := id hp1
      exact Ne.symm (ne_lst h nl)
    obtain ⟨m, rfl, m1, m2⟩ : ∃ m, v = .int m ∧ 1 ≤ m ∧ m ≤ 100 := by
      rcases List.mem_cons.mp hv with rfl | hv
      · exact ⟨3, rfl, by decide, by decide⟩
      rcases List.mem_cons.mp hv with rfl | hv
      · exact ⟨3, rfl, by decide, by decide⟩
      rcases List.mem_cons.mp hv with rfl | hv
      · exact ⟨30, rfl, by decide, by decide⟩
      cases hv
    refine ⟨p, m, n + 2, rfl, hp2, m1, m2, by omega, fun H3 u x o3 hp3 hx okx _ => ⟨by show 2 ≤ sizeLine; decide, fun t nt => ?_⟩⟩
    exact q _ _ (.anew x) (((o1.trans (.new nl)).trans o2).trans (o3.trans (.new nt))) ((hp3.mono (by omega)).s (sameN nt)) (.anew upd_same (hx.s (sameN nt))) okx
  refine iteDF (fun z => hd (by simpa using z)) ?_
  have pick : ∀ (Q : VK), (∀ H' t (m wd : Nat), So [p] H1 H' → PotAt H' p (n + 3) → 1 ≤ m → m ≤ wd * wd → m ≤ 16 → wd ≤ 5 → H' t = some (.tup [.int m, .int wd]) → Q (.ref t) H') →
      tIf (tTest (tOp (rI0 fun i j => V.bl (decide (j < i))) (tCal (sp_law_take K) E0 (tCons (tVar 0) (tCons (tC (V.int 4)) tNil))) (tC (V.int 0))))
        (tTup (tCons (tOp (rI0 fun i j => V.int (i + j)) (tC (V.int 1)) (tCal (sp_law_take K) E0 (tCons (tVar 0) (tCons (tC (V.int 5)) tNil)))) (tCons (tC (V.int 3)) tNil)))
        (tTup (tCons (tOp (rI0 fun i j => V.int (i + j)) (tC (V.int 1)) (tCal (sp_law_take K) E0 (tCons (tVar 0) (tCons (tC (V.int 16)) tNil)))) (tCons (tC (V.int 5)) tNil))) (start N_law_a_deed [.ref p]) H1 Q := by
    intro R hR
    refine ⟨_, rfl, p, 4, n + 1, rfl, hp1, by omega, by omega, by omega, fun H2 e o2 hp2 e0 e1 _ => ⟨_, _, rfl, rfl, _, rfl, ?_⟩⟩
    by_cases he : 0 < e
    · refine iteD he ⟨_, rfl, p, 5, n + 2, rfl, hp2, by omega, by omega, by omega, fun H3 g o3 hp3 g0 g1 _ => ⟨_, _, rfl, rfl, by show 2 ≤ sizeLine; decide, fun t nt => ?_⟩⟩
      obtain ⟨k, rfl⟩ := Int.eq_ofNat_of_zero_le g0
      refine hR _ t (1 + k) 3 ((o2.trans o3).trans (.new nt)) (hp3.s (sameN nt)) (by omega) (by omega) (by omega) (by omega) ?_
      rw [upd_same]
      simp
    · refine iteDF he ⟨_, rfl, p, 16, n + 2, rfl, hp2, by omega, by omega, by omega, fun H3 g o3 hp3 g0 g1 _ => ⟨_, _, rfl, rfl, by show 2 ≤ sizeLine; decide, fun t nt => ?_⟩⟩
      obtain ⟨k, rfl⟩ := Int.eq_ofNat_of_zero_le g0
      refine hR _ t (1 + k) 5 ((o2.trans o3).trans (.new nt)) (hp3.s (sameN nt)) (by omega) (by omega) (by omega) (by omega) ?_
      rw [upd_same]
      simp
  refine seq_asg (pick _ fun H3 t m wd o3 hp3 m0 m1 m2 w5 et => ?_)
  refine ⟨t, _, rfl, SqT.of et, rfl, _, _, rfl, _, _, rfl, rfl, ?_⟩
  refine ⟨_, rfl, _, rfl, _, rfl, p, m, wd, n + 3, rfl, hp3, m0, m1, m2, w5, by omega, fun H4 u sh o4 hp4 hu oks lsh _ => ?_⟩
  obtain ⟨a, xs, S⟩ := hu.shapeI
  obtain rfl := S.e
  have hl := S.l
  obtain ⟨x4, y4, z4, hl4, _⟩ := id hp4
  have ap : a ≠ p := fun z => by
    have ht := S.t
    rw [z] at ht
    rcases ht with ht | ⟨o', ht⟩ <;> rw [hl4] at ht <;> cases ht
  have rdS : ∀ H', So [p] H4 H' → Rd H' a (.tup xs) := fun H' o => S.t.elim (fun h => .inl (o _ _ h (by simpa using ap))) fun ⟨o', h⟩ => .inr ⟨o', o _ _ h (by simpa using ap)⟩
  refine ⟨_, rfl, a, rfl, ⟨_, Or.inl S.t⟩, fun D hD => lc_it (walk_tup (xs := xs)) (LcQ p (n + 3 + m) H4 D) ⟨.new hD, hp4.s (sameN hD), [], upd_same, rfl, by simp⟩ (fun i H' _ pp => Or.inl (rdS _ pp.1)) (fun i x H' H5 hi pp y => ?_) (fun H5 pp => ?_)⟩
  · obtain ⟨rfl, hx⟩ := y
    obtain ⟨o5, hp5, ns, hD5, ln, hns⟩ := pp
    have Dp : D ≠ p := fun z => by rw [z, hl4] at hD; cases hD
    refine ⟨rfl, _, rfl, 1, rfl, 999, rfl, by show 7 ≤ sizeLine; decide, fun l nl => ⟨p, l, [.int 0, .int 1, .int (-1), .int 7, .int 999, .int (-999), .int 30], n + 3 + m + i, rfl, hp5.s (sameN nl), upd_same, ?_, by decide, by decide, by omega, fun H6 v o6 hp6 hv _ => ?_⟩⟩
    · obtain ⟨x, y, z, h, _⟩ := id hp5
      exact Ne.symm (ne_lst h nl)
    obtain ⟨k, rfl, k1, k2⟩ : ∃ k, v = .int k ∧ -999 ≤ k ∧ k ≤ 999 := by
      simp only [List.mem_cons, List.not_mem_nil, or_false] at hv
      rcases hv with rfl | rfl | rfl | rfl | rfl | rfl | rfl <;> exact ⟨_, rfl, by decide, by decide⟩
    have hD6 : H6 D = some (.lst (ns.map .int)) := o6 _ _ ((sameN nl) _ _ hD5) (by simpa using Dp)
    refine ⟨ns.map .int, hD6, Nat.lt_of_le_of_lt (show _ ≤ 1000 by rw [List.length_map]; omega) (by decide), ?_, hp6.of fun _ z => (upd_ne (Ne.symm Dp)).trans z, ns ++ [k], by rw [upd_same, List.map_append]; rfl, by simp [ln], fun y hy => ?_⟩
    · exact fun b o e nb => (upd_ne (fun z => by rw [z, hD] at e; cases e)).trans (o6 _ _ ((sameN nl) _ _ (o5 _ _ e nb)) nb)
    · rcases List.mem_append.mp hy with hy | hy
      · exact hns y hy
      · rw [List.mem_singleton.mp hy]
        exact ⟨k1, k2⟩
  · obtain ⟨o5, hp5, ns, hD5, ln, hns⟩ := pp
    refine ⟨D, _, rfl, .inl ⟨SqL.of hD5, fun l nl => ?_⟩⟩
    have s6 : Same H5 (upd H5 l (.tup (ns.map .int))) := sameN nl
    have el : upd H5 l (.tup (ns.map .int)) l = some (.tup (ns.map .int)) := upd_same
    generalize upd H5 l (.tup (ns.map .int)) = H6 at s6 el
    have k46 : Kp H4 H6 := by
      have nt : ∀ b u, H4 b = some u → (∃ ys, u = .tup ys) ∨ (∃ o' z, u = .frz o' z) → b ∉ [p] := fun b u e h z => by
        rw [List.mem_singleton.mp z, hl4] at e
        cases e
        rcases h with ⟨_, h⟩ | ⟨_, _, h⟩ <;> cases h
      exact ⟨fun b ys e => s6 _ _ (o5 b _ e (nt b _ e (.inl ⟨_, rfl⟩))), fun b o' z e => s6 _ _ (o5 b _ e (nt b _ e (.inr ⟨_, _, rfl⟩)))⟩
    have hp6 := hp5.s s6
    refine ⟨_, rfl, _, rfl, p, 2, n + 3 + m + xs.length, rfl, hp6, by omega, by omega, by omega, fun H7 u c o7 hp7 hc c1 c2 c3 c4 k7 => ⟨_, rfl, by show 4 ≤ sizeLine; decide, fun t2 nt2 => ?_⟩⟩
    have s8 : Same H7 (upd H7 t2 (.tup [.str "write", .ref a, u, .ref l])) := sameN nt2
    refine q _ _ (.write sh c ns) (((o1.trans o3).trans o4).trans (((o5.trans (.same s6)).trans o7).trans (.same s8))) ((hp7.mono (by omega)).s s8) (.write upd_same ((hu.k (k46.trans k7)).s s8) (hc.s s8) ((Im.ints (k7.tup _ _ el)).s s8)) ⟨oks, by omega, hns, by omega, by omega, by omega, by omega⟩
end
end Bp

namespace Bp
open PySem PySem.Spec PyProof.Rows L2
/-- cells gathered while a pot is drawn from -/
def LcC (p : Addr) (n : Nat) (H1 : Hp) (D : Addr) (i : Nat) (H : Hp) : Prop := So [p] H1 H ∧ PotAt H p (n + 2 * i) ∧ ∃ (vs : List V) (cs : List Cell), H D = some (.lst vs) ∧ cs.length = i ∧ ImAll H vs (cs.map dCell)
section
variable {P : Program} {w : World} {K : PySem.W.Frag} {mg : Str → Option Value} {base : Heap}
/-! ### _law_around: slots pot 0, lap .., x, y -/
def sp_law_around (K : PySem.W.Frag) : Sp := fun vs H Q _ => ∃ (p : Addr) (n : Nat), vs = [.ref p] ∧ PotAt H p n ∧ n ≤ 800000 ∧ ∀ (H' : Hp) (l : Addr) (xs : List V) (cs : List Cell), So [p] H H' → PotAt H' p (n + 18) → H' l = some (.lst xs) → H l = none → ImAll H' xs (cs.map dCell) → cs.length = 10 → Q (.ref l) H'
theorem ok_law_around (T : Th P K mg base) : GF P w K mg base 3 (He.ga K "_law_around") ["_law_pot_here"] (sp_law_around K) := by
  refine gf_of T.d_law_around sc_law_around (fun vs H Q E h => by obtain ⟨p, n, rfl, hp, nn, q⟩ := h; rfl) (fun _ _ _ _ _ _ us hl => match us, hl with | [_], _ => rfl) fun cdv A outer s H vs Q E hg hr hsp => ?_
  obtain ⟨p, n, rfl, hp, nn, q⟩ := hsp
  refine ⟨_, (pss_one (ps_ret (pe_op op_cat (pe_lc (own := [("_law_x", 1), ("_law_y", 2)]) (tt := tYes) rfl sc_law_around.nd (pi_list (pe_lc (own := [("_law_lap", 3)]) (tt := tYes) rfl sc_law_around.nd (pi_range1 (by rfl) T.f_range (pa_cons pe_int pa_nil)) (blkOk_by (N := N_law_around) (sc := defScope s_law_around) (by decide +kernel)) (fun _ _ _ _ _ => (pg_name (i := 3) sc_law_around.nd rfl (Or.inl rfl))) (fun _ _ _ _ _ => pts_nil) (fun _ _ _ _ _ => (pe_fn T.g_law_a_cell (ok_law_a_cell T) hg hr passL (pa_cons (pv 0) (pa_cons pe_int pa_nil)))))) (blkOk_by (N := N_law_around) (sc := defScope s_law_around) (by decide +kernel)) (fun _ _ _ _ _ => (pg_tupK (K := K) (n := 2) rfl rfl (pgs_cons (pg_name (i := 1) sc_law_around.nd rfl (Or.inl rfl)) (pgs_cons (pg_name (i := 2) sc_law_around.nd rfl (Or.inl rfl)) pgs_nil)))) (fun _ _ _ _ _ => pts_nil) (fun _ _ _ _ _ => (pe_tup (pa_cons (pv 1) (pa_cons (pv 2) pa_nil))))) (pe_lst (pa_cons (pe_tup (pa_cons pe_int (pa_cons (pe_un un_neg pe_int) pa_nil))) pa_nil))))), ?_⟩
  obtain ⟨x0, y0, z0, hl0, _⟩ := id hp
  refine ⟨9, rfl, by decide, by decide, fun D hD => lc_it (walk_range (lo := 0) (n := 9)) (LcC p n H D) ⟨.new hD, hp.s (sameN hD), [], [], upd_same, rfl, .nil⟩ (fun _ _ _ _ => True.intro) (fun i x H' H5 hi pp y => ?_) (fun H1 pp => ?_)⟩
  · obtain ⟨rfl, rfl⟩ := y
    obtain ⟨o5, hp5, vs, cs, hD5, ln, hcs⟩ := pp
    have Dp : D ≠ p := fun z => by rw [z, hl0] at hD; cases hD
    refine ⟨rfl, _, rfl, p, 4, n + 2 * i, rfl, hp5, by omega, by omega, by omega, fun H6 u c o6 hp6 hc _ _ _ _ k6 => ?_⟩
    have hD6 : H6 D = some (.lst vs) := o6 _ _ hD5 (by simpa using Dp)
    have k7 : Kp H6 (upd H6 D (.lst (vs ++ [u]))) := Kp.upd fun w e => by
      rw [hD6] at e
      cases e
      exact nf_lst
    have lv : vs.length = i := by rw [hcs.len, List.length_map, ln]
    refine ⟨vs, hD6, Nat.lt_of_le_of_lt (show _ ≤ 1000 by omega) (by decide), fun b o e nb => (upd_ne (fun z => by rw [z, hD] at e; cases e)).trans (o6 _ _ (o5 _ _ e nb) nb), hp6.of fun _ z => (upd_ne (Ne.symm Dp)).trans z, vs ++ [u], cs ++ [c], upd_same, by simp [ln], ?_⟩
    rw [List.map_append]
    exact (hcs.k (k6.trans k7)).app (.cons (hc.k k7) .nil)
  obtain ⟨o1, hp1, vs, cs, hD1, ln, hcs⟩ := pp
  have lv : vs.length = 9 := by rw [hcs.len, List.length_map, ln]
  refine ⟨D, rfl, ⟨_, SqL.of hD1⟩, fun D2 hD2 => lc_it (walk_list (xs := vs)) (LcP H1 D2 fun i v H => ∃ c, cs[i]? = some c ∧ Im H v (dCell c)) (LcP.zero hD2) (fun i H' _ p => SqL.of (p.1 _ _ hD1)) (fun i x H' H'' hi pp y => ?_) (fun H2 pp => ?_)⟩
  · obtain ⟨rfl, hx⟩ := y
    obtain ⟨d, hd, hxd⟩ := hcs.at hx
    obtain ⟨c, hc, rfl⟩ : ∃ c, cs[i]? = some c ∧ d = dCell c := by
      rw [List.getElem?_map] at hd
      cases e : cs[i]? with
      | none => rw [e] at hd; cases hd
      | some c => rw [e] at hd; exact ⟨c, rfl, (Option.some.inj hd).symm⟩
    obtain ⟨b, rfl, hb⟩ := (hxd.s pp.1).cellI
    refine ⟨b, _, rfl, SqT.of hb, rfl, _, _, rfl, _, _, rfl, rfl, rfl, _, rfl, _, rfl, by show 2 ≤ sizeLine; decide, fun t nt => ?_⟩
    exact LcP.next (fun j v H H' ⟨c, e1, e2⟩ k => ⟨c, e1, e2.k k⟩) hD2 (by omega) pp (sameN nt) ⟨c, hc, .cell upd_same⟩
  obtain ⟨s2, acc, e2, l2, q2⟩ := pp
  have hacc : ImAll H2 acc (cs.map dCell) := ImAll.of_at (by rw [List.length_map]; omega) fun j v d g1 g2 => by
    obtain ⟨c, h1, h2⟩ := q2 j v g1
    rw [List.getElem?_map, h1] at g2
    cases g2
    exact h2
  refine ⟨90, rfl, by show 2 ≤ sizeLine; decide, fun t nt => ⟨by show 1 ≤ sizeLine; decide, fun l nl => ?_⟩⟩
  have s3 : Same H2 (upd H2 t (.tup [.int 90, .int (-90)])) := sameN nt
  have et : upd H2 t (.tup [.int 90, .int (-90)]) t = some (.tup [.int 90, .int (-90)]) := upd_same
  generalize upd H2 t (.tup [.int 90, .int (-90)]) = H3 at s3 et nl
  have s4 : Same H3 (upd H3 l (.lst [.ref t])) := sameN nl
  have el : upd H3 l (.lst [.ref t]) l = some (.lst [.ref t]) := upd_same
  generalize upd H3 l (.lst [.ref t]) = H4 at s4 el
  have e4 := s4 _ _ (s3 _ _ e2)
  refine ⟨D2, l, acc, _, rfl, rfl, e4, el, Nat.le_trans (show acc.length + 1 ≤ 100 by omega) (by decide), fun r nr => ?_⟩
  have s5 : Same H4 (upd H4 r (.lst (acc ++ [.ref t]))) := sameN nr
  have sA : Same H1 (upd H4 r (.lst (acc ++ [.ref t]))) := ((s2.trans s3).trans s4).trans s5
  refine q _ r (acc ++ [.ref t]) (cs ++ [(90, -90)]) (o1.trans (.same sA)) (hp1.s sA) upd_same ?_ ?_ (by simp [ln])
  · cases e : H r with
    | none => rfl
    | some u =>
      have z : r ∉ [p] ∨ r ∈ [p] := by simp; exact Classical.em _ |>.symm
      rcases z with z | z
      · have := ((s2.trans s3).trans s4) _ _ (o1 _ _ e z)
        rw [this] at nr
        cases nr
      · obtain ⟨x, y, c, h, _⟩ := hp1
        rw [List.mem_singleton.mp z] at nr
        rw [((s2.trans s3).trans s4) _ _ h] at nr
        cases nr
  · rw [List.map_append]
    exact ((hacc.s ((s3.trans s4).trans s5))).app (.cons (.cell (s5 _ _ (s4 _ _ et))) .nil)
end
end Bp

namespace Bp
open PySem PySem.Spec PyProof.Rows L2
def dealTo (d : Deal) : Deed → Deal
  | .anew x => x
  | .write _ _ _ => d
def dealD (d : Deal) (l : List Deed) : Deal := l.foldl dealTo d
def spentL : Deal → List Deed → Int
  | _, [] => 0
  | d, e :: r => beatsD d e + spentL (dealTo d e) r
theorem dealD_snoc (d : Deal) (l : List Deed) (e : Deed) : dealD d (l ++ [e]) = dealTo (dealD d l) e := by simp [dealD]
theorem spentL_snoc : ∀ (d : Deal) (l : List Deed) (e : Deed), spentL d (l ++ [e]) = spentL d l + beatsD (dealD d l) e
  | d, [], e => by simp [spentL, dealD]
  | d, x :: r, e => by
    have ih := spentL_snoc (dealTo d x) r e
    show beatsD d x + spentL (dealTo d x) (r ++ [e]) = beatsD d x + spentL (dealTo d x) r + beatsD (dealD (dealTo d x) r) e
    omega
theorem dealTo_ok {d : Deal} (h : DealOk d) : ∀ {e : Deed}, DeedOk e → DealOk (dealTo d e)
  | .anew _, k => k
  | .write _ _ _, _ => h
theorem dealD_ok : ∀ {l : List Deed} {d : Deal}, DealOk d → (∀ e ∈ l, DeedOk e) → DealOk (dealD d l)
  | [], _, h, _ => h
  | e :: r, d, h, hl => dealD_ok (l := r) (dealTo_ok h (hl e List.mem_cons_self)) fun x hx => hl x (List.mem_cons_of_mem _ hx)
theorem take_snoc {α : Type} {l : List α} {i : Nat} {x : α} (h : l[i]? = some x) : l.take (i + 1) = l.take i ++ [x] := by
  rw [List.take_succ, h]
  rfl
section
variable {P : Program} {w : World} {K : PySem.W.Frag} {mg : Str → Option Value} {base : Heap}
/-! ### _law_spent: slots day 0, deal 1, found 2, deed 3 -/
def DayOk (D : DayS) : Prop := DealOk D.first ∧ (∀ e ∈ D.past, DeedOk e) ∧ D.past.length + D.later.length ≤ 5000
def sp_law_spent (K : PySem.W.Frag) : Sp := fun vs H Q _ => ∃ (u : V) (D : DayS), vs = [u] ∧ DayAt H u D ∧ DayOk D ∧ ∀ H', Same H H' → Q (.int (spentL D.first D.past)) H'
theorem ok_law_spent (T : Th P K mg base) : GF P w K mg base 3 (He.ga K "_law_spent") ["_law_day_here"] (sp_law_spent K) := by
  refine gf_of T.d_law_spent sc_law_spent (fun vs H Q E h => by obtain ⟨u, D, rfl, ⟨a, v1, v2, v3, h⟩, ok, q⟩ := h; rfl) (fun _ _ _ _ _ _ us hl => match us, hl with | [_], _ => rfl) fun cdv A outer s H vs Q E hg hr hsp => ?_
  obtain ⟨u, D, rfl, ⟨a, v1, v2, v3, h⟩, ok, q⟩ := hsp
  refine ⟨_, (pss_cons (ps_par (by rfl) sc_law_spent.nd (i := 1) (j := 2) rfl rfl (by decide) rfl rfl (pa_cons (pe_dget (hu_of hr) (pv 0) pe_str (fun _ _ => rfl)) (pa_cons pe_int pa_nil)) (by rfl))
    (pss_cons (ps_for PassesOwn.leaving rfl (pi_list (pe_dget (hu_of hr) (pv 0) pe_str (fun _ _ => rfl))) (pg_name (i := 3) sc_law_spent.nd rfl (Or.inl rfl))
      (pss_one (ps_if (pt_cmpR op_eq (pe_ix ix_tup (pv 3) pe_int (fun _ _ => rfl)) pe_str (nomark _)) (pss_one (ps_set (i := 1) sc_law_spent.nd rfl (Or.inl rfl) (pe_ix ix_tup (pv 3) pe_int (fun _ _ => rfl)))) (pss_one (ps_set (i := 2) sc_law_spent.nd rfl (Or.inl rfl) (pe_op op_add (pv 2) (pe_fn T.g_law_beats (ok_law_beats T) hg hr passL (pa_cons (pv 1) (pa_cons (pe_ix ix_tup (pv 3) pe_int (fun _ _ => rfl)) pa_nil)))))))))
    (pss_one (ps_ret (pv 2))))), ?_⟩
  obtain rfl := h.e
  obtain ⟨b, xs, S⟩ := h.p.ddsI
  obtain rfl := S.e
  obtain ⟨ok1, ok2, ok3⟩ := ok
  have hn := S.n
  refine ⟨_, rfl, a, v1, rfl, h.get1, _, _, rfl, ?_⟩
  refine ⟨_, rfl, a, .ref b, rfl, h.get2, b, rfl, ⟨_, Or.inl S.t⟩, for_it (walk_list (xs := xs)) (fun i σ H' => Same H H' ∧ ∃ vd y, σ = [some (.ref a), some vd, some (.int (spentL D.first (D.past.take i))), y] ∧ Im H' vd (dDeal (dealD D.first (D.past.take i))))
    ⟨.refl _, v1, none, rfl, h.f⟩ (fun i σ H' _ p => Or.inl (rd_same S.t p.1)) (fun i v σ H' H'' hi p y => ?_) (fun σ H' p => ?_)⟩
  · obtain ⟨s1, vd, y0, rfl, hvd⟩ := p
    obtain ⟨rfl, hx⟩ := y
    obtain ⟨e, he, hxe⟩ := S.i i v hx
    have hxe1 := hxe.s s1
    have okt : DealOk (dealD D.first (D.past.take i)) := dealD_ok ok1 fun x hx => ok2 x (List.mem_of_mem_take hx)
    have oke := ok2 e (List.mem_of_getElem? he)
    obtain ⟨c, ys, rfl, hc, hw⟩ := hxe1.deedW
    refine ⟨_, rfl, c, ys, 0, _, rfl, rfl, SqT.of hc, atI_nat hw, rfl, _, rfl, ?_⟩
    cases e with
    | anew x =>
      obtain ⟨c', u, e, hc', hd⟩ := hxe1.anewI
      cases e
      refine iteD rfl ?_
      refine ⟨_, rfl, c, _, 1, u, rfl, rfl, SqT.of hc', rfl, s1, u, some (.ref c), ?_, ?_⟩
      · rw [take_snoc he, spentL_snoc]
        simp [beatsD]
      · rw [take_snoc he, dealD_snoc]
        exact hd
    | write sh pl ns =>
      obtain ⟨c', u1, u2, u3, e, hc', g1, g2, g3⟩ := hxe1.writeI
      cases e
      refine iteDF (show ¬ V.str "write" = V.str "anew" by decide) ?_
      refine ⟨_, rfl, _, rfl, _, rfl, c, _, 1, u1, rfl, rfl, SqT.of hc', rfl, vd, u1, _, sh, rfl, hvd, g1, okt, oke.1.ne, by have := oke.1.len; omega, fun H3 s3 _ => ⟨_, _, rfl, rfl, s1.trans s3, vd, some (.ref c), ?_, ?_⟩⟩
      · rw [take_snoc he, spentL_snoc]
        rfl
      · rw [take_snoc he, dealD_snoc]
        exact hvd.s s3
  · obtain ⟨s1, vd, y0, rfl, hvd⟩ := p
    rw [hn, List.take_length] at *
    exact ⟨_, rfl, q _ s1⟩
end
end Bp

namespace Bp
open PySem PySem.Spec PyProof.Rows L2
def anews : List Deed → List Deal
  | [] => []
  | .anew x :: r => x :: anews r
  | .write _ _ _ :: r => anews r
theorem anews_app : ∀ (l m : List Deed), anews (l ++ m) = anews l ++ anews m
  | [], _ => rfl
  | .anew x :: r, m => by
    show x :: anews (r ++ m) = x :: (anews r ++ anews m)
    rw [anews_app r m]
  | .write _ _ _ :: r, m => anews_app r m
theorem last_deal : ∀ (l : List Deed) (d : Deal), ∃ r, d :: anews l = r ++ [dealD d l]
  | [], d => ⟨[], rfl⟩
  | .anew x :: l, d => by
    obtain ⟨r, e⟩ := last_deal l x
    exact ⟨d :: r, by show d :: x :: anews l = _; rw [e]; rfl⟩
  | .write _ _ _ :: l, d => last_deal l d
section
variable {P : Program} {w : World} {K : PySem.W.Frag} {mg : Str → Option Value} {base : Heap}
/-! ### _law_deal_now: slots day 0, deed 1 -/
def sp_law_deal_now (K : PySem.W.Frag) : Sp := fun vs H Q _ => ∃ (u : V) (D : DayS), vs = [u] ∧ DayAt H u D ∧ D.past.length ≤ 5000 ∧ ∀ H' v, Same H H' → Im H' v (dDeal (dealD D.first D.past)) → Q v H'
theorem ok_law_deal_now (T : Th P K mg base) : GF P w K mg base 1 (He.ga K "_law_deal_now") ["_law_day_here"] (sp_law_deal_now K) := by
  refine gf_of T.d_law_deal_now sc_law_deal_now (fun vs H Q E h => by obtain ⟨u, D, rfl, ⟨a, v1, v2, v3, h⟩, len, q⟩ := h; rfl) (fun _ _ _ _ _ _ us hl => match us, hl with | [_], _ => rfl) fun cdv A outer s H vs Q E hg hr hsp => ?_
  obtain ⟨u, D, rfl, ⟨a, v1, v2, v3, h⟩, len, q⟩ := hsp
  refine ⟨_, (pss_one (ps_ret (pe_ix ix_list (pe_op op_cat (pe_lst (pa_cons (pe_dget (hu_of hr) (pv 0) pe_str (fun _ _ => rfl)) pa_nil)) (pe_lc (own := [("_law_deed", 1)]) rfl sc_law_deal_now.nd (pi_list (pe_dget (hu_of hr) (pv 0) pe_str (fun _ _ => rfl))) (blkOk_by (N := N_law_deal_now) (sc := defScope s_law_deal_now) (by decide +kernel)) (fun _ _ _ _ _ => (pg_name (i := 1) sc_law_deal_now.nd rfl (Or.inl rfl))) (fun _ _ _ _ _ => (pts_one (pt_cmpR op_eq (pe_ix (ix_tupK (K := K) rfl) (pv 1) pe_int (fun _ _ => rfl)) pe_str (nomark _)))) (fun _ _ _ _ _ => (pe_ix (ix_tupK (K := K) rfl) (pv 1) pe_int (fun _ _ => rfl))))) (pe_un un_neg pe_int) (fun _ _ => rfl)))), ?_⟩
  obtain rfl := h.e
  refine ⟨_, rfl, a, v1, rfl, h.get1, by show 1 ≤ sizeLine; decide, fun l nl => ?_⟩
  have s1 : Same H (upd H l (.lst [v1])) := sameN nl
  have el : upd H l (.lst [v1]) l = some (.lst [v1]) := upd_same
  have h1 := h.k (Kp.of s1)
  generalize upd H l (.lst [v1]) = H1 at s1 el h1
  obtain ⟨b, xs, S⟩ := h1.p.ddsI
  obtain rfl := S.e
  have hn := S.n
  refine ⟨_, rfl, a, .ref b, rfl, h1.get2, b, rfl, ⟨_, Or.inl S.t⟩, fun E0 hE => lc_it (walk_list (xs := xs)) (fun i H' => Same H1 H' ∧ ∃ vs, H' E0 = some (.lst vs) ∧ ImAll H' vs ((anews (D.past.take i)).map dDeal) ∧ vs.length ≤ i)
    ⟨sameN hE, [], upd_same, .nil, Nat.le_refl _⟩ (fun i H' _ p => Or.inl (rd_same S.t p.1)) (fun i x H' H2 hi p y => ?_) (fun H2 p => ?_)⟩
  · obtain ⟨rfl, hx⟩ := y
    obtain ⟨s2, vs, eE, hvs, lv⟩ := p
    obtain ⟨e, he, hxe⟩ := S.i i x hx
    have hxe1 := hxe.s s2
    obtain ⟨c, ys, rfl, hc, hw⟩ := hxe1.deedW
    refine ⟨rfl, _, rfl, c, ys, 0, _, rfl, rfl, SqT.of hc, atI_nat hw, rfl, _, rfl, ?_⟩
    cases e with
    | anew x =>
      obtain ⟨c', u, e, hc', hd⟩ := hxe1.anewI
      cases e
      refine iteD rfl ?_
      have k3 : Kp H2 (upd H2 E0 (.lst (vs ++ [u]))) := Kp.upd fun w e => by
        rw [eE] at e
        cases e
        exact nf_lst
      refine ⟨_, rfl, c, _, 1, u, rfl, rfl, SqT.of hc', rfl, vs, eE, Nat.lt_of_le_of_lt (show vs.length ≤ 5000 by omega) (by decide), fun z o e => ?_, vs ++ [u], upd_same, ?_, by simp; omega⟩
      · rw [upd_ne (ne_of_none e hE)]
        exact s2 _ _ e
      · rw [take_snoc he, anews_app, List.map_append]
        exact (hvs.k k3).app (.cons (hd.k k3) .nil)
    | write sh pl ns =>
      obtain ⟨c', u1, u2, u3, e, hc', g1, g2, g3⟩ := hxe1.writeI
      cases e
      refine iteDF (show ¬ V.str "write" = V.str "anew" by decide) ⟨s2, vs, eE, ?_, by omega⟩
      rw [take_snoc he, anews_app]
      simpa [anews] using hvs
  · obtain ⟨s2, vs, eE, hvs, lv⟩ := p
    rw [hn, List.take_length] at hvs
    have el2 := s2 _ _ el
    refine ⟨l, E0, [v1], vs, rfl, rfl, el2, eE, Nat.le_trans (show 1 + vs.length ≤ 6000 by omega) (by decide), fun r nr => ?_⟩
    have s3 : Same H2 (upd H2 r (.lst ([v1] ++ vs))) := sameN nr
    have er : upd H2 r (.lst ([v1] ++ vs)) r = some (.lst ([v1] ++ vs)) := upd_same
    generalize upd H2 r (.lst ([v1] ++ vs)) = H3 at s3 er
    have all : ImAll H3 ([v1] ++ vs) ((D.first :: anews D.past).map dDeal) := .cons (h1.f.s (s2.trans s3)) (hvs.s s3)
    obtain ⟨rr, e⟩ := last_deal D.past D.first
    rw [e] at all
    have ll := all.len
    have h0 : ([v1] ++ vs)[([v1] ++ vs).length - 1]? = some ([v1] ++ vs)[([v1] ++ vs).length - 1] := List.getElem?_eq_getElem (by simp)
    obtain ⟨dd, g1, g2⟩ := all.at h0
    have e9 : ([v1] ++ vs).length - 1 = rr.length := by rw [ll]; simp
    rw [e9, List.map_append, List.getElem?_append_right (by simp)] at g1
    simp at g1
    subst g1
    exact ⟨1, rfl, r, _, -1, _, rfl, rfl, SqL.of er, atI_m1 h0 (by simp), q H3 _ ((s1.trans s2).trans s3) g2⟩
end
end Bp

namespace Bp
open PySem PySem.Spec PyProof.Rows L2
section
variable {P : Program} {w : World} {K : PySem.W.Frag} {mg : Str → Option Value} {base : Heap}
/-! ### _law_fro: slots pot 0, memory 1, day 2, way 3 -/
def sp_law_fro (K : PySem.W.Frag) : Sp := fun vs H Q _ => ∃ (p m : Addr) (u : V) (n : Nat) (M : MemS) (D : DayS), vs = [.ref p, .ref m, u] ∧ PotAt H p n ∧ n ≤ 800000 ∧ MemAt K H m M ∧ DayAt H u D ∧ Syn M D ∧
  ∀ H' v M' D', So [p, m] H H' → PotAt H' p (n + 1) → MemAt K H' m M' → DayAt H' v D' → Syn M' D' → M'.blk = M.blk → M'.first = M.first → M'.past.length + M'.later.length = M.past.length + M.later.length → Q v H'
theorem ok_law_fro (T : Th P K mg base) : GF P w K mg base 5 (He.ga K "_law_fro") ["_law_pot_here", "_law_memory", "_law_day_here"] (sp_law_fro K) := by
  refine gf_of T.d_law_fro sc_law_fro (fun vs H Q E h => by obtain ⟨p, m, u, n, M, D, rfl, hp, nn, hM, hD, sy, q⟩ := h; rfl) (fun _ _ _ _ _ _ us hl => match us, hl with | [_, _, _], _ => rfl) fun cdv A outer s H vs Q E hg hr hsp => ?_
  obtain ⟨p, m, u, n, M, D, rfl, hp, nn, hM, hD, sy, q⟩ := hsp
  refine ⟨_, (pss_cons (ps_set (i := 3) sc_law_fro.nd rfl (Or.inl rfl) (pe_fn T.g_law_take (ok_law_take T) hg hr passL (pa_cons (pv 0) (pa_cons pe_int pa_nil))))
    (pss_cons (ps_if (PW.pt (pw_and (pt_cmpR op_in_seq (pv 3) (pe_tup (pa_cons pe_int (pa_cons pe_int pa_nil))) (by rfl)) (pw_and1 (pt_cmpR (op_neD hr.units) (pe_dget (hu_of hr) (pv 2) pe_str (fun _ _ => rfl)) (pe_lst pa_nil) (nomark _))))) (pss_cons (ps_expr (pe_mt0 T.cl_Memory T.m_Memory_undo (ok_Memory_undo T) hg hr passL (pv 1)))
      (pss_one (ps_set (i := 2) sc_law_fro.nd rfl (Or.inl rfl) (pe_fn T.g_law_back (ok_law_back T) hg hr passL (pa_cons (pv 2) pa_nil))))) pss_nil)
    (pss_cons (ps_if (PW.pt (pw_and (pt_cmpR op_in_seq (pv 3) (pe_tup (pa_cons pe_int (pa_cons pe_int pa_nil))) (by rfl)) (pw_and1 (pt_cmpR (op_neD hr.units) (pe_dget (hu_of hr) (pv 2) pe_str (fun _ _ => rfl)) (pe_lst pa_nil) (nomark _))))) (pss_cons (ps_expr (pe_mt0 T.cl_Memory T.m_Memory_redo (ok_Memory_redo T) hg hr passL (pv 1)))
      (pss_one (ps_set (i := 2) sc_law_fro.nd rfl (Or.inl rfl) (pe_fn T.g_law_again (ok_law_again T) hg hr passL (pa_cons (pv 2) pa_nil))))) pss_nil)
    (pss_one (ps_ret (pv 2)))))), ?_⟩
  have hU : ∀ (H1 : Hp) (M1 : MemS) (D1 : DayS) (u1 : V) (dz : Int) (Z : Ends), MemAt K H1 m M1 → DayAt H1 u1 D1 → Syn M1 D1 → (∀ H' v M' D', So [m] H1 H' → MemAt K H' m M' → DayAt H' v D' → Syn M' D' → M'.blk = M1.blk → M'.first = M1.first → M'.past.length + M'.later.length = M1.past.length + M1.later.length → Z.nx [some (.ref p), some (.ref m), some v, some (.int dz)] H') →
      tIfS (tAnd (tTest (tOp (rIn K false) (tVar 3) (tTup (tCons (tC (V.int 1)) (tCons (tC (V.int 3)) tNil))))) (tTest (tOp (rNeD K) (tDGet (tVar 2) (tC (V.str "past"))) (tLst tNil))))
        (tSeq (tDrop (tMet (He.ga K "Memory") "undo" (sp_Memory_undo K) E0 (tVar 1) tNil)) (tAsg (tCal (sp_law_back K) E0 (tCons (tVar 2) tNil)) (gName 2))) tNext Z [some (.ref p), some (.ref m), some u1, some (.int dz)] H1 := by
    intro H1 M1 D1 u1 dz Z hM1 hD1 sy1 k
    have stay : ∀ H', Same H1 H' → Z.nx [some (.ref p), some (.ref m), some u1, some (.int dz)] H' := fun H' s => k H' u1 M1 D1 (.same s) (hM1.same s) (hD1.k (Kp.of s)) sy1 rfl rfl rfl
    refine ⟨_, rfl, by show 2 ≤ sizeLine; decide, fun t nt => ⟨t, _, rfl, .inr (SqT.of upd_same), rfl, rfl, _, rfl, ?_⟩⟩
    have s2 : Same H1 (upd H1 t (.tup [.int 1, .int 3])) := sameN nt
    generalize upd H1 t (.tup [.int 1, .int 3]) = H2 at s2
    by_cases c : inV (.int dz) [.int 1, .int 3] = true
    · rw [if_neg (by decide), c]
      refine iteT ?_
      obtain ⟨a1, v1, v2, v3, hd⟩ := hD1.k (Kp.of s2)
      obtain rfl := hd.e
      refine ⟨_, rfl, a1, v2, rfl, hd.get2, Nat.zero_le _, fun p5 np5 => ⟨_, _, (hd.p.s (sameN np5)).d, .lst (SqL.of upd_same) .nil, shp_dds _, shp_nil, _, rfl, ?_⟩⟩
      rw [dds_nil]
      have s3 := s2.trans (sameN (o := .lst []) np5)
      have hd5 := hd.k (Kp.of (sameN (o := .lst []) np5))
      generalize upd H2 p5 (.lst []) = H3 at s3 hd5
      by_cases e : D1.past = []
      · rw [decide_eq_true e]
        exact iteF (stay H3 s3)
      · rw [decide_eq_false e]
        refine iteT ?_
        have hM3 := hM1.same s3
        have hok := sy1.ok.n
        obtain ⟨dx, f, pp, l, hm⟩ := id hM3
        refine ⟨.ref m, rfl, m, dx, _, rfl, hm.i, rfl, m, M1, rfl, hM3, by omega, fun r e' hre H4 o4 hM4 k4 => ?_, fun z => absurd ?_ e⟩
        · refine ⟨_, rfl, .ref a1, D1, rfl, ⟨a1, v1, v2, v3, hd5.k k4⟩, by have := sy1.np; have := sy1.nl; omega, fun v H5 s5 hD5 _ => ?_⟩
          have hs := sy1.undo
          refine k H5 v (undoM M1) _ (((So.same s3).trans o4).trans (.same s5)) ?_ hD5 hs rfl rfl ?_
          · rw [undoM_of hre]
            exact hM4.same s5
          · rw [undoM_of hre, hre]
            simp
            omega
        · rw [sy1.p, z]; rfl
    · rw [if_neg (by decide), Bool.eq_false_iff.mpr c]
      exact iteF (stay H2 s2)
  have hR : ∀ (H1 : Hp) (M1 : MemS) (D1 : DayS) (u1 : V) (dz : Int) (Z : Ends), MemAt K H1 m M1 → DayAt H1 u1 D1 → Syn M1 D1 → (∀ H' v M' D', So [m] H1 H' → MemAt K H' m M' → DayAt H' v D' → Syn M' D' → M'.blk = M1.blk → M'.first = M1.first → M'.past.length + M'.later.length = M1.past.length + M1.later.length → Z.nx [some (.ref p), some (.ref m), some v, some (.int dz)] H') →
      tIfS (tAnd (tTest (tOp (rIn K false) (tVar 3) (tTup (tCons (tC (V.int 2)) (tCons (tC (V.int 3)) tNil))))) (tTest (tOp (rNeD K) (tDGet (tVar 2) (tC (V.str "later"))) (tLst tNil))))
        (tSeq (tDrop (tMet (He.ga K "Memory") "redo" (sp_Memory_redo K) E0 (tVar 1) tNil)) (tAsg (tCal (sp_law_again K) E0 (tCons (tVar 2) tNil)) (gName 2))) tNext Z [some (.ref p), some (.ref m), some u1, some (.int dz)] H1 := by
    intro H1 M1 D1 u1 dz Z hM1 hD1 sy1 k
    have stay : ∀ H', Same H1 H' → Z.nx [some (.ref p), some (.ref m), some u1, some (.int dz)] H' := fun H' s => k H' u1 M1 D1 (.same s) (hM1.same s) (hD1.k (Kp.of s)) sy1 rfl rfl rfl
    refine ⟨_, rfl, by show 2 ≤ sizeLine; decide, fun t nt => ⟨t, _, rfl, .inr (SqT.of upd_same), rfl, rfl, _, rfl, ?_⟩⟩
    have s2 : Same H1 (upd H1 t (.tup [.int 2, .int 3])) := sameN nt
    generalize upd H1 t (.tup [.int 2, .int 3]) = H2 at s2
    by_cases c : inV (.int dz) [.int 2, .int 3] = true
    · rw [if_neg (by decide), c]
      refine iteT ?_
      obtain ⟨a1, v1, v2, v3, hd⟩ := hD1.k (Kp.of s2)
      obtain rfl := hd.e
      refine ⟨_, rfl, a1, v3, rfl, hd.get3, Nat.zero_le _, fun p5 np5 => ⟨_, _, (hd.l.s (sameN np5)).d, .lst (SqL.of upd_same) .nil, shp_dds _, shp_nil, _, rfl, ?_⟩⟩
      rw [dds_nil]
      have s3 := s2.trans (sameN (o := .lst []) np5)
      have hd5 := hd.k (Kp.of (sameN (o := .lst []) np5))
      generalize upd H2 p5 (.lst []) = H3 at s3 hd5
      by_cases e : D1.later = []
      · rw [decide_eq_true e]
        exact iteF (stay H3 s3)
      · rw [decide_eq_false e]
        refine iteT ?_
        have hM3 := hM1.same s3
        have hok := sy1.ok.n
        obtain ⟨dx, f, pp, l, hm⟩ := id hM3
        refine ⟨.ref m, rfl, m, dx, _, rfl, hm.i, rfl, m, M1, rfl, hM3, by omega, fun r e' hre H4 o4 hM4 k4 => ?_, fun z => absurd ?_ e⟩
        · refine ⟨_, rfl, .ref a1, D1, rfl, ⟨a1, v1, v2, v3, hd5.k k4⟩, by have := sy1.np; have := sy1.nl; omega, fun v H5 s5 hD5 _ => ?_⟩
          have hs := sy1.redo
          refine k H5 v (redoM M1) _ (((So.same s3).trans o4).trans (.same s5)) ?_ hD5 hs rfl rfl ?_
          · rw [redoM_of hre]
            exact hM4.same s5
          · rw [redoM_of hre, hre]
            simp
            omega
        · rw [sy1.l, z]; rfl
    · rw [if_neg (by decide), Bool.eq_false_iff.mpr c]
      exact iteF (stay H2 s2)
  refine ⟨_, rfl, p, 4, n, rfl, hp, by omega, by omega, by omega, fun H1 dz o1 hp1 _ _ k1 => ?_⟩
  obtain ⟨x0, y0, z0, hl0, _⟩ := id hp
  obtain ⟨dx, f, pp, l, hm⟩ := id hM
  have mp : m ≠ p := fun z => by
    have h := hm.i
    rw [z, hl0] at h
    cases h
  have hM1 : MemAt K H1 m M := hM.k k1 fun C dx fs e => o1 _ _ e (by simpa using mp)
  refine hU H1 M D u dz _ hM1 (hD.k k1) sy fun H2 v M2 D2 o2 hM2 hD2 sy2 b2 f2 n2 => hR H2 M2 D2 v dz _ hM2 hD2 sy2 fun H3 v3 M3 D3 o3 hM3 hD3 sy3 b3 f3 n3 => ⟨_, rfl, ?_⟩
  have op : ∀ xs, H1 p = some (.lst xs) → H3 p = some (.lst xs) := fun xs z => o3 _ _ (o2 _ _ z (by simpa using Ne.symm mp)) (by simpa using Ne.symm mp)
  exact q H3 v3 M3 D3 (((o1.mono (by simp)).trans (o2.mono (by simp))).trans (o3.mono (by simp))) (hp1.of op) hM3 hD3 sy3 (b3.trans b2) (f3.trans f2) (n3.trans n2)
end
end Bp

namespace Bp
open PySem PySem.Spec PyProof.Rows L2
def sameD (D : DayS) : Deed → Bool
  | .anew x => decide (x = dealD D.first D.past)
  | .write _ _ _ => false
section
variable {P : Program} {w : World} {K : PySem.W.Frag} {mg : Str → Option Value} {base : Heap}
/-! ### _law_refusal: slots day 0, deed 1, numbers 2, fine 3, one 4 -/
def sp_law_refusal (K : PySem.W.Frag) : Sp := fun vs H Q _ => ∃ (u v : V) (D : DayS) (d : Deed), vs = [u, v] ∧ DayAt H u D ∧ DayOk D ∧ Im H v (dDeed d) ∧ DeedOk d ∧
  (sameD D d = false → ∀ H', Same H H' → Q .non H') ∧ (sameD D d = true → ∀ H' r, Same H H' → Q (.ref r) H')
theorem ok_law_refusal (T : Th P K mg base) : GF P w K mg base 6 (He.ga K "_law_refusal") ["_law_day_here", "_law_deed"] (sp_law_refusal K) := by
  refine gf_of T.d_law_refusal sc_law_refusal (fun vs H Q E h => by obtain ⟨u, v, D, d, rfl, hD, okD, hv, okd, qn, qy⟩ := h; rfl) (fun _ _ _ _ _ _ us hl => match us, hl with | [_, _], _ => rfl) fun cdv A outer s H vs Q E hg hr hsp => ?_
  obtain ⟨u, v, D, d, rfl, hD, okD, hv, okd, qn, qy⟩ := hsp
  refine ⟨_, (pss_cons (ps_if (pt_cmpR op_eq (pe_ix ix_tup (pv 1) pe_int (fun _ _ => rfl)) pe_str (nomark _)) (pss_cons (ps_if (pt_not (pt_val (pe_fn T.g_law_is_deal (ok_law_is_deal T) hg hr passL (pa_cons (pe_ix ix_tup (pv 1) pe_int (fun _ _ => rfl)) pa_nil)))) (pss_one (ps_ret (pe_tup (pa_cons pe_str (pa_cons (pe_ix ix_tup (pv 1) pe_int (fun _ _ => rfl)) pa_nil))))) pss_nil)
      (pss_one (ps_ret (pe_ifExp (pt_cmpR (op_eqD hr.units) (pe_ix ix_tup (pv 1) pe_int (fun _ _ => rfl)) (pe_fn T.g_law_deal_now (ok_law_deal_now T) hg hr passL (pa_cons (pv 0) pa_nil)) (nomark _)) (pe_tup (pa_cons pe_str (pa_cons (pe_ix ix_tup (pv 1) pe_int (fun _ _ => rfl)) pa_nil))) pe_non)))) pss_nil)
    (pss_cons (ps_if (pt_not (pt_val (pe_fn T.g_law_is_shape (ok_law_is_shape T) hg hr passL (pa_cons (pe_ix ix_tup (pv 1) pe_int (fun _ _ => rfl)) pa_nil)))) (pss_one (ps_ret (pe_tup (pa_cons pe_str (pa_cons (pe_ix ix_tup (pv 1) pe_int (fun _ _ => rfl)) pa_nil))))) pss_nil)
    (pss_cons (ps_if (pt_not (pt_val (pe_fn T.g_law_is_cell (ok_law_is_cell T) hg hr passL (pa_cons (pe_ix ix_tup (pv 1) pe_int (fun _ _ => rfl)) pa_nil)))) (pss_one (ps_ret (pe_tup (pa_cons pe_str (pa_cons (pe_ix ix_tup (pv 1) pe_int (fun _ _ => rfl)) pa_nil))))) pss_nil)
    (pss_cons (ps_set (i := 2) sc_law_refusal.nd rfl (Or.inl rfl) (pe_ix ix_tup (pv 1) pe_int (fun _ _ => rfl)))
    (pss_cons (ps_if (PW.pt (pw_or (pt_not (pt_val (pe_callB call_isi (by rfl) T.f_isinstance (by decide +kernel) (pa_cons (pv 2) (pa_cons (pe_bltn (v := .ty "tuple") (by rfl) T.f_tuple (by decide +kernel) rfl) pa_nil))))) (pw_or1 (pt_cmpR op_ne (pe_callB call_len_seq (by rfl) T.f_len (by decide +kernel) (pa_cons (pv 2) pa_nil)) (pe_callB call_len_seq (by rfl) T.f_len (by decide +kernel) (pa_cons (pe_ix ix_tup (pv 1) pe_int (fun _ _ => rfl)) pa_nil)) (nomark _))))) (pss_one (ps_ret (pe_tup (pa_cons pe_str (pa_cons (pv 2) pa_nil))))) pss_nil)
    (pss_cons (ps_set (i := 3) sc_law_refusal.nd rfl (Or.inl rfl) (pe_callB (cr_all rfl) (by rfl) T.f_all (by decide +kernel) (pa_cons (pe_lc (own := [("_law_one", 4)]) (tt := tYes) rfl sc_law_refusal.nd (pi_tup (pv 2)) (blkOk_by (N := N_law_refusal) (sc := defScope s_law_refusal) (by decide +kernel)) (fun _ _ _ _ _ => (pg_name (i := 4) sc_law_refusal.nd rfl (Or.inl rfl))) (fun _ _ _ _ _ => pts_nil) (fun _ _ _ _ _ => (pe_and (pe_fn T.g_law_is_int (ok_law_is_int T) hg hr passL (pa_cons (pv 4) pa_nil)) (pe_one (pe_chain op_le op_le (pe_un un_neg pe_int) (pv 4) pe_int))))) pa_nil)))
    (pss_one (ps_ret (pe_ifExp (pt_val (pv 3)) pe_non (pe_tup (pa_cons pe_str (pa_cons (pv 2) pa_nil)))))))))))), ?_⟩
  obtain ⟨a, xs, rfl, ha, hw⟩ := hv.deedW
  refine ⟨_, rfl, a, xs, 0, _, rfl, rfl, SqT.of ha, atI_nat hw, rfl, _, rfl, ?_⟩
  cases d with
  | anew x =>
    obtain ⟨a', y, e, ha', hd⟩ := hv.anewI
    cases e
    refine iteD rfl ?_
    refine ⟨_, rfl, a, _, 1, y, rfl, rfl, SqT.of ha', rfl, y, x, rfl, hd, okd, fun H1 s1 _ => ⟨true, rfl, iteF ?_⟩⟩
    refine ⟨_, rfl, a, _, 1, y, rfl, rfl, SqT.of (s1 _ _ ha'), rfl, _, rfl, u, D, rfl, hD.k (Kp.of s1), by have := okD.2.2; omega, fun H2 z s2 hz _ => ?_⟩
    have s12 := s1.trans s2
    refine ⟨_, _, (hd.s s12).d, hz.d, shp (nb_deal _) (by have := dep_deal x; omega), shp (nb_deal _) (by have := dep_deal (dealD D.first D.past); omega), _, rfl, ?_⟩
    rw [deal_eqv]
    by_cases e : x = dealD D.first D.past
    · refine iteD e ⟨_, rfl, a, _, 1, y, rfl, rfl, SqT.of (s12 _ _ ha'), rfl, by show 2 ≤ sizeLine; decide, fun t nt => qy (decide_eq_true e) _ t (s12.trans (sameN nt))⟩
    · exact iteDF e (qn (decide_eq_false e) H2 s12)
  | write sh pl ns =>
    obtain ⟨a', u1, u2, u3, e, ha', g1, g2, g3⟩ := hv.writeI
    cases e
    obtain ⟨oks, okl, okn, _⟩ := okd
    refine iteDF (show ¬ V.str "write" = V.str "anew" by decide) ?_
    refine ⟨_, rfl, a, _, 1, u1, rfl, rfl, SqT.of ha', rfl, u1, sh, rfl, g1, oks, fun H1 s1 _ => ⟨true, rfl, iteF ?_⟩⟩
    refine ⟨_, rfl, a, _, 2, u2, rfl, rfl, SqT.of (s1 _ _ ha'), rfl, u2, pl, rfl, g2.s s1, fun H2 s2 _ => ⟨true, rfl, iteF ?_⟩⟩
    have s12 := s1.trans s2
    refine ⟨_, rfl, a, _, 3, u3, rfl, rfl, SqT.of (s12 _ _ ha'), rfl, ?_⟩
    obtain ⟨b, rfl, hb⟩ := (g3.s s12).intsI
    obtain ⟨c, cs, S⟩ := (g1.s s12).shapeI
    obtain rfl := S.e
    have hl := S.l
    refine ⟨_, rfl, _, _, _, _, true, rfl, .ty "tuple", .base (.tup hb), kit_tt, true, rfl, iteF ?_⟩
    have en : ((ns.map V.int).length : Int) = (cs.length : Int) := by rw [List.length_map]; omega
    refine ⟨_, rfl, b, _, rfl, .inr (SqT.of hb), _, rfl, a, _, 1, .ref c, rfl, rfl, SqT.of (s12 _ _ ha'), rfl, c, cs, rfl, .inr (Or.inl S.t), rfl, _, rfl, ?_⟩
    rw [show (!decide (V.int ((ns.map V.int).length : Int) = V.int (cs.length : Int))) = false by rw [en]; simp]
    refine iteF ?_
    have h16 := oks.len
    refine ⟨_, rfl, b, rfl, ⟨_, SqT.of hb⟩, fun D2 hD2 => lc_it (walk_tup (xs := ns.map V.int)) (LcP H2 D2 fun _ v _ => v = .bl true) (LcP.zero hD2) (fun i H' _ p => SqT.of (p.1 _ _ hb)) (fun i x H' H'' hi p y => ?_) (fun H3 p => ?_)⟩
    · obtain ⟨rfl, hx⟩ := y
      obtain ⟨k, hk, rfl⟩ : ∃ k, ns[i]? = some k ∧ x = .int k := by
        rw [List.getElem?_map] at hx
        cases e : ns[i]? with
        | none => rw [e] at hx; cases hx
        | some k => rw [e] at hx; exact ⟨k, rfl, (Option.some.inj hx).symm⟩
      obtain ⟨k1, k2⟩ := okn k (List.mem_of_getElem? hk)
      refine ⟨rfl, _, rfl, k, rfl, fun _ => ⟨true, rfl, iteT ?_⟩⟩
      refine ⟨999, rfl, _, rfl, _, _, rfl, rfl, _, rfl, iteD k1 ?_⟩
      refine ⟨_, _, rfl, rfl, ?_⟩
      show ∃ acc, _ ∧ _ ∧ LcP H2 D2 _ (i + 1) (upd H'' D2 (.lst (acc ++ [.bl (decide (k ≤ 999))])))
      rw [decide_eq_true k2]
      exact LcP.next (fun _ _ _ _ h _ => h) hD2 (by rw [List.length_map] at hi; omega) p (Same.refl _) rfl
    · obtain ⟨s3, hl3⟩ := LcP.map (f := fun _ => .bl true) p fun _ _ _ h => h
      refine ⟨D2, (List.range (ns.map V.int).length).map fun _ => true, rfl, SqL.of (by rw [List.map_map]; exact hl3), ?_⟩
      have : ((List.range (ns.map V.int).length).map fun _ => true).all id = true := by simp
      rw [this]
      exact ⟨_, rfl, true, rfl, iteT (qn rfl H3 (s12.trans s3))⟩
end
end Bp

namespace Bp
open PySem PySem.Spec PyProof.Rows L2
def doD (D : DayS) (d : Deed) : DayS := ⟨D.first, D.past ++ [d], []⟩
theorem dealD_of (first : Deal) : ∀ (l : List Entry), dealD first (l.map Prod.fst) = dealOf first l := by
  intro l
  unfold dealD dealOf
  rw [List.foldl_map]
  congr 1
theorem same_eq {M : MemS} {D : DayS} (h : Syn M D) (d : Deed) : sameD D d = isSame M d := by
  cases d with
  | anew x =>
    show decide _ = decide _
    rw [h.f, h.p, dealD_of]
  | write _ _ _ => rfl
theorem wb_app : ∀ (l : List Entry) (d : Deal) (e : Entry), wb d l → e.2 = beatsD (dealOf d l) e.1 → wb d (l ++ [e])
  | [], d, e, _, h => ⟨h, True.intro⟩
  | x :: r, d, e, ⟨h1, h2⟩, h => ⟨h1, wb_app r (dealStep d x) e h2 h⟩
theorem wb_pre : ∀ (l m : List Entry) (d : Deal), wb d (l ++ m) → wb d l
  | [], _, _, _ => True.intro
  | _ :: r, m, d, ⟨h1, h2⟩ => ⟨h1, wb_pre r m _ h2⟩
theorem Syn.did {M : MemS} {D : DayS} (h : Syn M D) {d : Deed} (okd : DeedOk d) (n : M.past.length + 1 ≤ 5000) : Syn (did M d) (doD D d) := by
  refine ⟨h.f, ?_, rfl, ?_, ⟨h.ok.f, fun e he => ?_, fun e he => (by cases he), ?_⟩⟩
  · show D.past ++ [d] = (M.past ++ [(d, beatsFor M d)]).map Prod.fst
    rw [List.map_append, h.p]
    rfl
  · show wb M.first ((M.past ++ [(d, beatsFor M d)]) ++ [])
    rw [List.append_nil]
    refine wb_app _ _ _ (wb_pre _ _ _ h.w) ?_
    cases d <;> rfl
  · rcases List.mem_append.mp he with he | he
    · exact h.ok.p e he
    · rw [List.mem_singleton.mp he]
      exact okd
  · show (M.past ++ [(d, beatsFor M d)]).length + 0 ≤ 5000
    simp
    omega
section
variable {P : Program} {w : World} {K : PySem.W.Frag} {mg : Str → Option Value} {base : Heap}
/-! ### _law_led: slots memory 0, day 1, deed 2, caught 3, back 4 -/
def ledM (M : MemS) (d : Deed) : MemS := if isSame M d then M else did M d
def ledD (M : MemS) (D : DayS) (d : Deed) : DayS := if isSame M d then D else doD D d
def sp_law_led (K : PySem.W.Frag) : Sp := fun vs H Q _ => ∃ (m : Addr) (u v : V) (M : MemS) (D : DayS) (d : Deed), vs = [.ref m, u, v] ∧ MemAt K H m M ∧ DayAt H u D ∧ Syn M D ∧ Im H v (dDeed d) ∧ DeedOk d ∧ M.past.length + M.later.length + 1 ≤ 5000 ∧ Tb K H ∧
  ∀ H' r v', Fr K [m] H H' → MemAt K H' m (ledM M d) → DayAt H' v' (ledD M D d) → H' r = some (.tup [.bl true, v']) → Q (.ref r) H'
theorem ok_law_led (T : Th P K mg base) : GF P w K mg base 12 (He.ga K "_law_led") ["_law_memory", "_law_day_here", "_law_deed"] (sp_law_led K) := by
  refine gf_of T.d_law_led sc_law_led (fun vs H Q E h => by obtain ⟨m, u, v, M, D, d, rfl, hM, hD, sy, hv, okd, len, tb, q⟩ := h; rfl) (fun _ _ _ _ _ _ us hl => match us, hl with | [_, _, _], _ => rfl) fun cdv A outer s H vs Q E hg hr hsp => ?_
  obtain ⟨m, u, v, M, D, d, rfl, hM, hD, sy, hv, okd, len, tb, q⟩ := hsp
  refine ⟨_, (pss_cons (ps_asg (pe_fn T.g_law_do (ok_law_do T) hg hr passL (pa_cons (pv 0) (pa_cons (pv 2) pa_nil))) (pg_tup rfl (pgs_cons (pg_name (i := 3) sc_law_led.nd rfl (Or.inl rfl)) (pgs_cons (pg_name (i := 4) sc_law_led.nd rfl (Or.inl rfl)) pgs_nil))))
    (pss_cons (ps_if (pt_cmpR op_notN (pe_fn T.g_law_refusal (ok_law_refusal T) hg hr passL (pa_cons (pv 1) (pa_cons (pv 2) pa_nil))) pe_non (nomark _)) (pss_one (ps_ret (pe_tup (pa_cons (pe_cmpR op_notN (pv 3) pe_non (nomark _)) (pa_cons (pv 1) pa_nil))))) pss_nil)
    (pss_one (ps_ret (pe_tup (pa_cons (pe_and (pe_cmpR op_isN (pv 3) pe_non (nomark _)) (pe_one (pe_cmpR op_isN (pv 4) pe_non (nomark _)))) (pa_cons (pe_frz (pe_disp (pps_cons pe_str (pe_dget (hu_of hr) (pv 1) pe_str (fun _ _ => rfl)) (pps_cons pe_str (pe_frz (pe_op op_catR (pe_dget (hu_of hr) (pv 1) pe_str (fun _ _ => rfl)) (pe_lst (pa_cons (pv 2) pa_nil)))) (pps_cons pe_str (pe_frz (pe_lst pa_nil)) pps_nil))) (by rfl) (by rfl) (fun z => by cases z) (by decide))) pa_nil))))))), ?_⟩
  refine ⟨_, rfl, _, rfl, m, M, v, d, rfl, hM, sy.ok, hv, okd, tb, fun ns H1 r fr hM1 er k1 => ?_, fun ys H1 r a fr er k1 => ?_⟩
  · have hD1 := hD.k k1
    have okD : DayOk D := ⟨by rw [sy.f]; exact sy.ok.f, fun e he => by
      rw [sy.p] at he
      obtain ⟨x, hx, rfl⟩ := List.mem_map.mp he
      exact sy.ok.p x hx, by rw [sy.np, sy.nl]; omega⟩
    refine ⟨r, _, rfl, SqT.of er, rfl, _, _, rfl, _, _, rfl, rfl, ?_⟩
    refine ⟨_, rfl, _, rfl, u, v, D, d, rfl, hD1, okD, hv.k k1, okd, fun _ H2 s2 _ => ⟨rfl, _, rfl, iteF ?_⟩, fun z => by rw [same_eq sy, ns] at z; cases z⟩
    obtain ⟨a, v1, v2, v3, h⟩ := hD1.k (Kp.of s2)
    obtain rfl := h.e
    have fr2 := fr.trans (Fr.same (K := K) (S := [m]) s2)
    have hM2 := hM1.same s2
    have hv2 := (hv.k k1).k (Kp.of s2)
    refine ⟨_, rfl, rfl, true, rfl, iteT ⟨_, rfl, rfl, fun p np => ?_⟩⟩
    have s3 : Same H2 (upd H2 p (.dK [])) := sameN np
    have e3 : upd H2 p (.dK []) p = some (.dK []) := upd_same
    generalize upd H2 p (.dK []) = H3 at s3 e3
    have h3 := h.k (Kp.of s3)
    refine ⟨_, rfl, a, v1, rfl, h3.get1, ?_⟩
    refine ⟨_, rfl, a, v2, rfl, h3.get2, _, rfl, by show 1 ≤ sizeLine; decide, fun l nl => ?_⟩
    have s4 : Same H3 (upd H3 l (.lst [v])) := sameN nl
    have e4 : upd H3 l (.lst [v]) l = some (.lst [v]) := upd_same
    generalize upd H3 l (.lst [v]) = H4 at s4 e4
    have h4 := h3.k (Kp.of s4)
    obtain ⟨b, xs, S⟩ := h4.p.ddsI
    have hn := S.n
    have np' := sy.np
    refine ⟨b, l, xs, [v], S.e, rfl, S.t, .inl e4, Nat.le_trans (show xs.length + 1 ≤ 10000 by omega) (by decide), fun p2 np2 => ⟨p2, _, rfl, upd_same, True.intro, fun o2 => ?_⟩⟩
    obtain ⟨s5, e5⟩ := frz_new (u := .lst (xs ++ [v])) (o := o2) np2
    generalize upd (upd H4 p2 (.lst (xs ++ [v]))) p2 (.frz o2 (.lst (xs ++ [v]))) = H5 at s5 e5
    refine ⟨Nat.zero_le _, fun p3 np3 => ⟨p3, _, rfl, upd_same, True.intro, fun o3 => ?_⟩⟩
    obtain ⟨s6, e6⟩ := frz_new (u := .lst []) (o := o3) np3
    generalize upd (upd H5 p3 (.lst [])) p3 (.frz o3 (.lst [])) = H6 at s6 e6
    have s36 := (s4.trans s5).trans s6
    refine ⟨s36 _ _ e3, dayK v1 (.ref p2) (.ref p3), rfl, by show 3 ≤ 15; decide, p, _, rfl, upd_same, True.intro, fun o => ?_⟩
    refine day_done (D := doD D d) (s3.trans s36) np (h3.f.s s36) (.lst (s6 _ _ e5) ?_) (.lst e6 .nil) (s36 _ _ e3) (o := o) (Q := fun w H' => 2 ≤ sizeLine ∧ ∀ pp, H' pp = none → Q (.ref pp) (upd H' pp (.tup [.bl true, w]))) fun v' H7 s7 hD7 => ⟨by decide, fun t nt => ?_⟩
    · rw [show (doD D d).past = D.past ++ [d] from rfl, List.map_append]
      exact (S.all.s (s5.trans s6)).app (.cons (((hv2.s s3).s s4).s (s5.trans s6)) .nil)
    · have s8 : Same H2 (upd H7 t (.tup [.bl true, v'])) := s7.trans (sameN nt)
      refine q _ t v' (fr2.trans (Fr.same (K := K) (S := [m]) s8)) ?_ ?_ upd_same
      · unfold ledM
        rw [ns, if_neg (by decide)]
        exact hM2.same s8
      · unfold ledD
        rw [ns, if_neg (by decide)]
        exact hD7.k (Kp.of (sameN nt))
  · have hD1 := hD.k k1
    have okD : DayOk D := ⟨by rw [sy.f]; exact sy.ok.f, fun e he => by
      rw [sy.p] at he
      obtain ⟨x, hx, rfl⟩ := List.mem_map.mp he
      exact sy.ok.p x hx, by rw [sy.np, sy.nl]; omega⟩
    refine ⟨r, _, rfl, SqT.of er, rfl, _, _, rfl, _, _, rfl, rfl, ?_⟩
    refine ⟨_, rfl, _, rfl, u, v, D, d, rfl, hD1, okD, hv.k k1, okd, fun z => by (rw [same_eq sy, ys] at z; cases z), fun _ H2 r2 s2 _ => ⟨rfl, _, rfl, ?_⟩⟩
    refine iteT ⟨_, rfl, rfl, _, rfl, by show 2 ≤ sizeLine; decide, fun t nt => ?_⟩
    have s8 : Same H1 (upd H2 t (.tup [.bl true, u])) := s2.trans (sameN nt)
    refine q _ t u ((fr.mono (by simp)).trans (Fr.same (K := K) (S := [m]) s8)) ?_ ?_ upd_same
    · unfold ledM
      rw [ys, if_pos rfl]
      exact (hM.k k1 fun C dx fs e => fr.e _ _ e (by simp) fun ps z => by cases z).same s8
    · unfold ledD
      rw [ys, if_pos rfl]
      exact hD1.k (Kp.of s8)
end
end Bp

namespace Bp
open PySem PySem.Spec PyProof.Rows L2
theorem walk_zipT {K : PySem.W.Frag} {a b : Addr} {xs ys : List V} {n : Nat} (h1 : xs.length = n) (h2 : ys.length = n) : Walk (RZ.ItzT K a b) n (fun H => SqT K H a xs ∧ SqT K H b ys) (YPair (fun i => xs[i]?) (fun i => ys[i]?)) := by
  refine ⟨fun i H hi q => ⟨xs, ys, xs[i]'(by omega), ys[i]'(by omega), q.1, q.2, List.getElem?_eq_getElem _, List.getElem?_eq_getElem _⟩, fun H q => ⟨xs, ys, q.1, q.2, .inl (by omega)⟩, fun i H v H' _ q y => ?_⟩
  obtain ⟨T, x, y, e, nT, e2, g1, g2⟩ := y
  exact ⟨T, x, y, e, nT, e2, g1 xs q.1, g2 ys q.2⟩
/-! ### what cells hold -/
def keyC (c : Cell) : List Key := [Sum.inl c.1, Sum.inl c.2]
theorem keyC_inj {c d : Cell} (h : keyC c = keyC d) : c = d := by
  obtain ⟨c1, c2⟩ := c
  obtain ⟨d1, d2⟩ := d
  simp [keyC] at h
  rw [h.1, h.2]
def hitL (l : List Deed) (c : Cell) : Option Int := l.reverse.findSome? (hit c)
theorem hitL_snoc (l : List Deed) (d : Deed) (c : Cell) : hitL (l ++ [d]) c = (hit c d).or (hitL l c) := by
  unfold hitL
  rw [List.reverse_append, List.reverse_singleton, List.singleton_append, List.findSome?_cons]
  cases hit c d <;> rfl
theorem hitL_num (past : List Entry) (c : Cell) : (hitL (past.map Prod.fst) c).getD 0 = numAt past c := by
  unfold hitL numAt
  rw [← List.map_reverse, List.findSome?_map]
  rfl
/-- what the first j cells of a deed write -/
def hitJ (sh : List Cell) (pl : Cell) (ns : List Int) (j : Nat) (c : Cell) : Option Int := if (c.1 - pl.1, c.2 - pl.2) ∈ sh.take j then ns[idxC (c.1 - pl.1, c.2 - pl.2) sh]? else none
theorem hitJ_all (sh : List Cell) (pl : Cell) (ns : List Int) (c : Cell) : hitJ sh pl ns sh.length c = hit c (.write sh pl ns) := by
  unfold hitJ hit
  rw [List.take_length]
theorem idxC_at {sh : List Cell} (nd : sh.Nodup) {j : Nat} {x : Cell} (h : sh[j]? = some x) : idxC x sh = j := by
  have hx : x ∈ sh := List.mem_of_getElem? h
  have h1 : sh[idxC x sh]? = some x := by
    rw [List.getElem?_eq_getElem (idxC_lt hx)]
    exact congrArg some (@List.getElem_idxOf Cell instBEqOfDecidableEq inferInstance x sh (idxC_lt hx))
  exact nd_ix nd h1 h
theorem hitJ_put {sh : List Cell} {pl : Cell} {ns : List Int} (nd : sh.Nodup) {j : Nat} {x : Cell} {k : Int} (hx : sh[j]? = some x) (hk : ns[j]? = some k) {kvs : List (List Key × V)} {o : Cell → Option Int}
    (h : ∀ c, valV kvs (keyC c) = ((hitJ sh pl ns j c).or (o c)).map V.int) : ∀ c, valV (putK kvs (keyC (x.1 + pl.1, x.2 + pl.2)) (.int k)) (keyC c) = ((hitJ sh pl ns (j + 1) c).or (o c)).map V.int := by
  intro c
  rw [valV_put]
  have ts := take_snoc hx
  by_cases e : (c.1 - pl.1, c.2 - pl.2) = x
  · have ec : keyC c = keyC (x.1 + pl.1, x.2 + pl.2) := by
      rw [← e]
      unfold keyC
      simp
    rw [if_pos ec]
    unfold hitJ
    rw [e, ts, if_pos (List.mem_append_right _ List.mem_cons_self), idxC_at nd hx, hk]
    rfl
  · have ec : ¬ keyC c = keyC (x.1 + pl.1, x.2 + pl.2) := fun z => e (by
      have := keyC_inj z
      rw [this]
      simp)
    rw [if_neg ec, h c]
    have : hitJ sh pl ns (j + 1) c = hitJ sh pl ns j c := by
      unfold hitJ
      rw [ts]
      simp [e]
    rw [this]
end Bp

namespace Bp
open PySem PySem.Spec PyProof.Rows L2
theorem nf_dT {xs : List (List Key × V)} : (∀ ys, HO.dT xs ≠ .tup ys) ∧ ∀ q z, HO.dT xs ≠ .frz q z := ⟨fun ys z => (by cases z), fun q z y => (by cases y)⟩
theorem rd_kp {H H' : Hp} {a : Addr} {xs : List V} (h : Rd H a (.tup xs)) (k : Kp H H') : Rd H' a (.tup xs) := by
  rcases h with h | ⟨o, h⟩
  · exact .inl (k.tup _ _ h)
  · exact .inr ⟨o, k.frz _ _ _ h⟩
section
variable {P : Program} {w : World} {K : PySem.W.Frag} {mg : Str → Option Value} {base : Heap}
/-! ### _law_held: slots day 0, found 1, deed 2, cell 3, number 4 -/
def sp_law_held (K : PySem.W.Frag) : Sp := fun vs H Q _ => ∃ (u : V) (D : DayS), vs = [u] ∧ DayAt H u D ∧ DayOk D ∧ ∀ H' f kvs, Same H H' → H' f = some (.dT kvs) → (∀ c, valV kvs (keyC c) = (hitL D.past c).map V.int) → Q (.ref f) H'
theorem ok_law_held (T : Th P K mg base) : GF P w K mg base 3 (He.ga K "_law_held") ["_law_day_here"] (sp_law_held K) := by
  refine gf_of T.d_law_held sc_law_held (fun vs H Q E h => by obtain ⟨u, D, rfl, ⟨a, v1, v2, v3, h⟩, ok, q⟩ := h; rfl) (fun _ _ _ _ _ _ us hl => match us, hl with | [_], _ => rfl) fun cdv A outer s H vs Q E hg hr hsp => ?_
  obtain ⟨u, D, rfl, ⟨a, v1, v2, v3, h⟩, ok, q⟩ := hsp
  refine ⟨_, (pss_cons (ps_set (i := 1) sc_law_held.nd rfl (Or.inl rfl) pe_dnewT)
    (pss_cons (ps_for PassesOwn.leaving rfl (pi_list (pe_dget (hu_of hr) (pv 0) pe_str (fun _ _ => rfl))) (pg_name (i := 2) sc_law_held.nd rfl (Or.inl rfl))
      (pss_one (ps_if (pt_cmpR op_eq (pe_ix ix_tup (pv 2) pe_int (fun _ _ => rfl)) pe_str (nomark _)) (pss_one (ps_for PassesOwn.leaving rfl (RZ.pi_zipA (by rfl) T.f_zip (pa_cons (pe_ix ix_tup (pv 2) pe_int (fun _ _ => rfl)) (pa_cons (pe_ix ix_tup (pv 2) pe_int (fun _ _ => rfl)) pa_nil))) (pg_tup rfl (pgs_cons (pg_name (i := 3) sc_law_held.nd rfl (Or.inl rfl)) (pgs_cons (pg_name (i := 4) sc_law_held.nd rfl (Or.inl rfl)) pgs_nil)))
          (pss_one (ps_asg (pv 4) (pg_sub (pv 1) (pe_fn T.g_law_moved (ok_law_moved T) hg hr passL (pa_cons (pv 3) (pa_cons (pe_ix ix_tup (pv 2) pe_int (fun _ _ => rfl)) pa_nil))) (set_dict (hu_of hr))))))) pss_nil)))
    (pss_one (ps_ret (pv 1))))), ?_⟩
  obtain rfl := h.e
  obtain ⟨ok1, ok2, ok3⟩ := ok
  refine fun f nf => ?_
  have s1 : Same H (upd H f (.dT [])) := sameN nf
  have ef : upd H f (.dT []) f = some (.dT []) := upd_same
  generalize upd H f (.dT []) = H1 at s1 ef
  have h1 := h.k (Kp.of s1)
  obtain ⟨b, xs, S⟩ := h1.p.ddsI
  obtain rfl := S.e
  have hn := S.n
  have bf : b ≠ f := by
    intro z
    have ht := S.t
    rw [z, ] at ht
    rcases ht with ht | ⟨o, ht⟩ <;> rw [ef] at ht <;> cases ht
  refine ⟨_, rfl, a, .ref b, rfl, h1.get2, b, rfl, ⟨_, Or.inl S.t⟩, for_it (walk_list (xs := xs)) (fun i σ H' => ∃ kvs x y z, σ = [some (.ref a), some (.ref f), x, y, z] ∧ So [f] H1 H' ∧ Kp H1 H' ∧ H' f = some (.dT kvs) ∧ kvs.length ≤ 16 * i ∧ ∀ c, valV kvs (keyC c) = (hitL (D.past.take i) c).map V.int)
    ⟨[], none, none, none, rfl, .refl _ _, .refl _, ef, Nat.zero_le _, fun c => rfl⟩ (fun i σ H' _ p => ?_) (fun i v σ H' H'' hi p y => ?_) (fun σ H' p => ?_)⟩
  · obtain ⟨kvs, x, y, z, rfl, o, k, _⟩ := p
    exact Or.inl (S.t.elim (fun e => .inl (o _ _ e (by simpa using bf))) fun ⟨o', e⟩ => .inr ⟨o', o _ _ e (by simpa using bf)⟩)
  · obtain ⟨kvs, x, y', z, rfl, o1, k1, e1, l1, hk1⟩ := p
    obtain ⟨rfl, hx⟩ := y
    obtain ⟨e, he, hxe⟩ := S.i i v hx
    have hxe1 := hxe.k k1
    have oke := ok2 e (List.mem_of_getElem? he)
    obtain ⟨c, ys, rfl, hc, hw⟩ := hxe1.deedW
    refine ⟨_, rfl, c, ys, 0, _, rfl, rfl, SqT.of hc, atI_nat hw, rfl, _, rfl, ?_⟩
    cases e with
    | anew x =>
      obtain ⟨c', u, e, hc', hd⟩ := hxe1.anewI
      cases e
      refine iteDF (show ¬ V.str "anew" = V.str "write" by decide) ⟨kvs, some (.ref c), y', z, rfl, o1, k1, e1, by omega, fun d => ?_⟩
      rw [take_snoc he, hitL_snoc, hk1 d]
      rfl
    | write sh pl ns =>
      obtain ⟨c', u1, u2, u3, e, hc', g1, g2, g3⟩ := hxe.writeI
      cases e
      have hc2 := k1.tup _ _ hc'
      rw [hc2] at hc
      cases hc
      refine iteD rfl ?_
      obtain ⟨oks, okl, okn, _⟩ := oke
      obtain ⟨cb, cs, Sh⟩ := g1.shapeI
      obtain ⟨b3, rfl, h3⟩ := g3.intsI
      obtain rfl := Sh.e
      have hl := Sh.l
      have h16 := oks.len
      refine ⟨_, rfl, c, _, 1, .ref cb, rfl, rfl, SqT.of hc2, rfl, _, rfl, c, _, 3, .ref b3, rfl, rfl, SqT.of hc2, rfl, cb, b3, cs, ns.map V.int, rfl, .inr ⟨Or.inl (rd_kp Sh.t k1), SqT.of (k1.tup _ _ h3), for_it (walk_zipT (n := sh.length) hl ((List.length_map (f := V.int) (as := ns)).trans okl)) (fun j σ H4 => ∃ kvs y z, σ = [some (.ref a), some (.ref f), some (.ref c), y, z] ∧ So [f] H1 H4 ∧ Kp H1 H4 ∧ H4 f = some (.dT kvs) ∧ kvs.length ≤ 16 * i + j ∧ ∀ d, valV kvs (keyC d) = ((hitJ sh pl ns j d).or (hitL (D.past.take i) d)).map V.int)
        ⟨kvs, y', z, rfl, o1, k1, e1, l1, fun d => by rw [hk1 d]; simp [hitJ]⟩ (fun j σ H4 _ p => ?_) (fun j v σ H4 H5 hj p y => ?_) (fun σ H4 p => ?_)⟩⟩
      · obtain ⟨_, _, _, _, _, k4, _⟩ := p
        exact ⟨Or.inl (rd_kp Sh.t k4), SqT.of (k4.tup _ _ h3)⟩
      · obtain ⟨kvs, y1, z1, rfl, o4, k4, e4, l4, hk4⟩ := p
        obtain ⟨t, x, k, rfl, nt, rfl, hx, hk⟩ := y
        have hk : (ns.map V.int)[j]? = some k := hk
        have hx : cs[j]? = some x := hx
        obtain ⟨cc, hcc, hxc⟩ := Sh.i j x hx
        obtain ⟨m, hm, rfl⟩ : ∃ m, ns[j]? = some m ∧ k = .int m := by
          rw [List.getElem?_map] at hk
          cases e : ns[j]? with
          | none => rw [e] at hk; cases hk
          | some m => rw [e] at hk; exact ⟨m, rfl, (Option.some.inj hk).symm⟩
        have s5 : Same H4 (upd H4 t (.tup [x, .int m])) := sameN nt
        have et : upd H4 t (.tup [x, .int m]) t = some (.tup [x, .int m]) := upd_same
        generalize upd H4 t (.tup [x, .int m]) = H5 at s5 et
        have k5 := k4.trans (Kp.of s5)
        refine ⟨t, _, rfl, SqT.of et, rfl, _, _, rfl, _, _, rfl, rfl, ?_⟩
        refine ⟨_, rfl, _, rfl, _, rfl, _, rfl, c, _, 2, u2, rfl, rfl, SqT.of (k5.tup _ _ hc'), rfl, x, u2, cc, pl, rfl, hxc.k k5, g2.k k5, fun v H6 s6 hv _ => ?_⟩
        obtain ⟨tv, rfl, ev⟩ := hv.cellI
        have e6 := s6 _ _ (s5 _ _ e4)
        have hi' : i < D.past.length := (List.getElem?_eq_some_iff.mp he).1
        have hkl : kvs.length ≤ 100000 := by omega
        refine ⟨f, _, rfl, DPut.t (k := keyC (cc.1 + pl.1, cc.2 + pl.2)) e6 ev (Nat.lt_of_le_of_lt hkl (by decide)), ?_⟩
        have s46 := s5.trans s6
        refine ⟨_, _, _, rfl, ((o4.trans (.same s46))).trans (.upd (by simp)), (k4.trans (Kp.of s46)).trans (Kp.upd fun w e => by rw [e6] at e; cases e; exact nf_dT), upd_same, ?_, hitJ_put oks.nd hcc hm hk4⟩
        have := length_putK kvs (keyC (cc.1 + pl.1, cc.2 + pl.2)) (.int m)
        omega
      · obtain ⟨kvs, y1, z1, rfl, o4, k4, e4, l4, hk4⟩ := p
        refine ⟨kvs, _, _, _, rfl, o4, k4, e4, by omega, fun d => ?_⟩
        rw [hk4 d, take_snoc he, hitL_snoc, hitJ_all]
  · obtain ⟨kvs, x, y', z, rfl, o1, k1, e1, l1, hk1⟩ := p
    rw [hn, List.take_length] at hk1
    refine ⟨_, rfl, q H' f kvs (fun b o e => o1 _ _ (s1 _ _ e) (by simpa using ne_of_none e nf)) e1 hk1⟩
end
end Bp

namespace Bp
open PySem PySem.Spec PyProof.Rows L2
/-! ### plain -/
theorem maxL_bd {l : List Int} {k : Int} (k0 : 0 ≤ k) (h : ∀ y ∈ l, 0 ≤ y ∧ y ≤ k) : 0 ≤ maxL l ∧ maxL l ≤ k := by
  cases l with
  | nil => exact ⟨Int.le_refl _, k0⟩
  | cons a r => exact h _ (maxL_mem (a :: r) (by simp)).1
theorem beatsOf_bd (d : Deal) (sh : List Cell) : 0 ≤ beatsOf d sh ∧ beatsOf d sh ≤ sh.length := by
  refine maxL_bd (by omega) fun y hy => ?_
  obtain ⟨b, _, rfl⟩ := List.mem_map.mp hy
  have := List.count_le_length (a := b) (l := sh.map (bankOf d))
  rw [List.length_map] at this
  omega
theorem spentL_bd : ∀ (l : List Deed) (d : Deal), (∀ e ∈ l, DeedOk e) → 0 ≤ spentL d l ∧ spentL d l ≤ 16 * l.length
  | [], _, _ => by simp [spentL]
  | e :: r, d, h => by
    have ih := spentL_bd r (dealTo d e) fun x hx => h x (List.mem_cons_of_mem _ hx)
    have h1 : 0 ≤ beatsD d e ∧ beatsD d e ≤ 16 := by
      cases e with
      | anew _ => exact ⟨Int.le_refl _, by show (0 : Int) ≤ 16; decide⟩
      | write sh pl ns =>
        have z := beatsOf_bd d sh
        have z2 : sh.length ≤ 16 := (h _ List.mem_cons_self).1.len
        exact ⟨z.1, by show beatsOf d sh ≤ 16; omega⟩
    show 0 ≤ beatsD d e + spentL (dealTo d e) r ∧ beatsD d e + spentL (dealTo d e) r ≤ 16 * ((r.length + 1 : Nat) : Int)
    omega
theorem dealTo_step (d : Deal) (e : Entry) : dealTo d e.1 = dealStep d e := by
  obtain ⟨e, b⟩ := e
  cases e <;> rfl
theorem spent_of : ∀ (l : List Entry) (d : Deal), wb d l → spentL d (l.map Prod.fst) = (l.map Prod.snd).sum
  | [], _, _ => rfl
  | e :: r, d, ⟨h1, h2⟩ => by
    have ih := spent_of r _ h2
    show beatsD d e.1 + spentL (dealTo d e.1) (r.map Prod.fst) = e.2 + (r.map Prod.snd).sum
    rw [dealTo_step, ih, h1]
theorem numAt_bd {past : List Entry} (h : ∀ e ∈ past, DeedOk e.1) (c : Cell) : (numAt past c).natAbs < 10 ^ 12 := by
  have e12 : (10 : Nat) ^ 12 = 1000000000000 := by decide
  rw [e12]
  unfold numAt
  cases q : past.reverse.findSome? fun e => hit c e.1 with
  | none => decide
  | some k =>
    obtain ⟨e, he, hk⟩ := List.exists_of_findSome?_eq_some q
    have ok := h e (List.mem_reverse.mp he)
    obtain ⟨d, b⟩ := e
    cases d with
    | anew _ => cases hk
    | write sh pl ns =>
      have hk : (if (c.1 - pl.1, c.2 - pl.2) ∈ sh then ns[idxC (c.1 - pl.1, c.2 - pl.2) sh]? else none) = some k := hk
      split at hk
      · have z := ok.2.2.1 k (List.mem_of_getElem? hk)
        show k.natAbs < 1000000000000
        omega
      · cases hk
theorem Syn.dayOk {M : MemS} {D : DayS} (sy : Syn M D) : DayOk D := ⟨by rw [sy.f]; exact sy.ok.f, fun e he => by
  rw [sy.p] at he
  obtain ⟨x, hx, rfl⟩ := List.mem_map.mp he
  exact sy.ok.p x hx, by rw [sy.np, sy.nl]; exact sy.ok.n⟩
theorem Syn.deal {M : MemS} {D : DayS} (sy : Syn M D) : dealD D.first D.past = dealOf M.first M.past := by rw [sy.f, sy.p, dealD_of]
theorem Syn.spent {M : MemS} {D : DayS} (sy : Syn M D) : spentL D.first D.past = (M.past.map Prod.snd).sum := by
  rw [sy.f, sy.p]
  exact spent_of _ _ (wb_pre _ _ _ sy.w)
theorem Syn.num {M : MemS} {D : DayS} (sy : Syn M D) (c : Cell) : (hitL D.past c).getD 0 = numAt M.past c := by rw [sy.p, hitL_num]
/-- what is_memory shows of both -/
def shownM (M : MemS) : PyData := .tuple [dDeal (dealOf M.first M.past), dDeal M.first, .int M.past.length, .int (M.past.map Prod.snd).sum]
theorem shownM_sm {M : MemS} {D : DayS} (sy : Syn M D) : Sm 133 (shownM M) := by
  have ok := sy.dayOk
  have e12 : (10 : Nat) ^ 12 = 1000000000000 := by decide
  have okd : DealOk (dealOf M.first M.past) := by rw [← sy.deal]; exact dealD_ok ok.1 ok.2.1
  have h1 := spentL_bd D.past D.first ok.2.1
  rw [sy.spent] at h1
  have h2 := ok.2.2
  have h3 := sy.np
  exact (SmAll.cons (deal_sm _ okd) (SmAll.cons (deal_sm _ sy.ok.f) (SmAll.cons (Sm.int (by rw [e12]; omega)) (SmAll.cons (Sm.int (by rw [e12]; omega)) .nil)))).tup
theorem shownM_dep (M : MemS) : (shownM M).depth ≤ 40 := by
  have := dep_deal (dealOf M.first M.past)
  have := dep_deal M.first
  simp only [shownM, PyData.depth, PyData.depthAll]
  omega
theorem ints_dep : ∀ (ns : List Int), PyData.depthAll (ns.map .int) ≤ 1
  | [] => by simp [PyData.depthAll]
  | n :: r => by
    have := ints_dep r
    simp only [List.map_cons, PyData.depthAll, PyData.depth]
    omega
section
variable {P : Program} {w : World} {K : PySem.W.Frag} {mg : Str → Option Value} {base : Heap}
/-! ### _law_is_memory: slots memory 0, day 1, cells 2, ours 3, held 4, cell 5 -/
def sp_law_is_memory (K : PySem.W.Frag) : Sp := fun vs H Q _ => ∃ (m l : Addr) (u : V) (M : MemS) (D : DayS) (xs : List V) (cs : List Cell), vs = [.ref m, u, .ref l] ∧ MemAt K H m M ∧ DayAt H u D ∧ Syn M D ∧ H l = some (.lst xs) ∧ ImAll H xs (cs.map dCell) ∧ cs.length ≤ 100 ∧
  ∀ H', Same H H' → Q (.bl true) H'
theorem ok_law_is_memory (T : Th P K mg base) : GF P w K mg base 5 (He.ga K "_law_is_memory") ["_law_memory", "_law_day_here", "_law_cells_here"] (sp_law_is_memory K) := by
  refine gf_of T.d_law_is_memory sc_law_is_memory (fun vs H Q E h => by obtain ⟨m, l, u, M, D, xs, cs, rfl, hM, hD, sy, hl, hx, h100, q⟩ := h; rfl) (fun _ _ _ _ _ _ us hl => match us, hl with | [_, _, _], _ => rfl) fun cdv A outer s H vs Q E hg hr hsp => ?_
  obtain ⟨m, l, u, M, D, xs, cs, rfl, hM, hD, sy, hl, hx, h100, q⟩ := hsp
  refine ⟨_, (pss_cons (ps_set (i := 3) sc_law_is_memory.nd rfl (Or.inl rfl) (pe_tup (pa_cons (pe_fn T.g_law_deal_now (ok_law_deal_now T) hg hr passL (pa_cons (pv 1) pa_nil)) (pa_cons (pe_dget (hu_of hr) (pv 1) pe_str (fun _ _ => rfl)) (pa_cons (pe_callB call_len_seq (by rfl) T.f_len (by decide +kernel) (pa_cons (pe_dget (hu_of hr) (pv 1) pe_str (fun _ _ => rfl)) pa_nil)) (pa_cons (pe_fn T.g_law_spent (ok_law_spent T) hg hr passL (pa_cons (pv 1) pa_nil)) pa_nil))))))
    (pss_cons (ps_if (pt_cmpR op_ne (pe_callB (call_repr hg hr.units) (by rfl) T.f_repr (by decide +kernel) (pa_cons (pe_tup (pa_cons (pe_prp T.cl_Memory T.p_deal (ok_Memory_deal T) hg hr (pv 0) (by rfl)) (pa_cons (pe_prp T.cl_Memory T.p_first (ok_Memory_first T) hg hr (pv 0) (by rfl)) (pa_cons (pe_prp T.cl_Memory T.p_done (ok_Memory_done T) hg hr (pv 0) (by rfl)) (pa_cons (pe_prp T.cl_Memory T.p_spent (ok_Memory_spent T) hg hr (pv 0) (by rfl)) pa_nil))))) pa_nil)) (pe_callB (call_repr hg hr.units) (by rfl) T.f_repr (by decide +kernel) (pa_cons (pv 3) pa_nil)) (nomark _)) (pss_one (ps_ret pe_bl)) pss_nil)
    (pss_cons (ps_set (i := 4) sc_law_is_memory.nd rfl (Or.inr rfl) (pe_fn T.g_law_held (ok_law_held T) hg hr passL (pa_cons (pv 1) pa_nil)))
    (pss_one (ps_ret (pe_cmpR op_eq (pe_callB (call_repr hg hr.units) (by rfl) T.f_repr (by decide +kernel) (pa_cons (pe_lc (own := [("_law_cell", 5)]) (tt := tYes) rfl sc_law_is_memory.nd (pi_list (pv 2)) (blkOk_by (N := N_law_is_memory) (sc := defScope s_law_is_memory) (by decide +kernel)) (fun _ _ _ _ _ => (pg_name (i := 5) sc_law_is_memory.nd rfl (Or.inl rfl))) (fun _ _ _ _ _ => pts_nil) (fun _ _ _ _ _ => (pe_mt T.cl_Memory T.m_Memory_at (ok_Memory_at T) hg hr passL (pv 0) (pa_cons (pv 5) pa_nil)))) pa_nil)) (pe_callB (call_repr hg hr.units) (by rfl) T.f_repr (by decide +kernel) (pa_cons (pe_lc (own := [("_law_cell", 5)]) (tt := tYes) rfl sc_law_is_memory.nd (pi_list (pv 2)) (blkOk_by (N := N_law_is_memory) (sc := defScope s_law_is_memory) (by decide +kernel)) (fun _ _ _ _ _ => (pg_name (i := 5) sc_law_is_memory.nd rfl (Or.inl rfl))) (fun _ _ _ _ _ => pts_nil) (fun _ _ _ _ _ => (pe_dget2 (hu_of hr) (pv 4) (pv 5) pe_int ⟨rfl, rfl, rfl, rfl⟩))) pa_nil)) (nomark _))))))), ?_⟩
  have ok := sy.dayOk
  have hnp := sy.np
  refine ⟨_, rfl, u, D, rfl, hD, by have := ok.2.2; omega, fun H1 d1 s1 hd1 _ => ?_⟩
  obtain ⟨a, v1, _, v3, h1⟩ := hD.k (Kp.of s1)
  obtain rfl := h1.e
  obtain ⟨b, ps, S⟩ := h1.p.ddsI
  obtain rfl := S.e
  refine ⟨_, rfl, a, v1, rfl, h1.get1, _, rfl, a, .ref b, rfl, h1.get2, b, ps, rfl, .inl (Or.inl S.t), _, rfl, .ref a, D, rfl, ⟨a, v1, _, v3, h1⟩, ok, fun H2 s2 _ => ⟨by show 4 ≤ sizeLine; decide, fun t nt => ?_⟩⟩
  have s3 : Same H2 (upd H2 t (.tup [d1, v1, .int ps.length, .int (spentL D.first D.past)])) := sameN nt
  have et : upd H2 t (.tup [d1, v1, .int ps.length, .int (spentL D.first D.past)]) t = some (.tup [d1, v1, .int ps.length, .int (spentL D.first D.past)]) := upd_same
  generalize upd H2 t (.tup [d1, v1, .int ps.length, .int (spentL D.first D.past)]) = H3 at s3 et
  have s13 := s2.trans s3
  have s03 := s1.trans s13
  have hM3 := hM.same s03
  have h3 := h1.k (Kp.of s13)
  have hd3 := hd1.s s13
  obtain ⟨dx, f, pp, ll, hm⟩ := id hM3
  refine ⟨.ref m, rfl, m, dx, _, rfl, hm.i, m, M, rfl, hM3, fun x1 hx1 _ => ?_⟩
  refine ⟨.ref m, rfl, m, dx, _, rfl, hm.i, m, M, rfl, hM3, fun x2 hx2 _ => ?_⟩
  refine ⟨.ref m, rfl, m, dx, _, rfl, hm.i, m, M, rfl, hM3, fun _ => ?_⟩
  refine ⟨.ref m, rfl, m, dx, _, rfl, hm.i, m, M, rfl, hM3, by have := sy.ok.n; omega, fun H4 s4 _ => ⟨by show 4 ≤ sizeLine; decide, fun t2 nt2 => ?_⟩⟩
  have sm := shownM_sm sy
  have s5 : Same H4 (upd H4 t2 (.tup [x1, x2, .int M.past.length, .int (M.past.map Prod.snd).sum])) := sameN nt2
  have et2 : upd H4 t2 (.tup [x1, x2, .int M.past.length, .int (M.past.map Prod.snd).sum]) t2 = some (.tup [x1, x2, .int M.past.length, .int (M.past.map Prod.snd).sum]) := upd_same
  generalize upd H4 t2 (.tup [x1, x2, .int M.past.length, .int (M.past.map Prod.snd).sum]) = H5 at s5 et2
  have s35 := s4.trans s5
  refine ⟨_, shownM M, rfl, .dp (.tup (SqT.of et2) (.cons (hx1.s s35).d (.cons (hx2.s s35).d (.cons (.int _) (.cons (.int _) .nil))))) sm.h, sm.s, shownM_dep M, Nat.le_trans sm.l (by decide), ?_⟩
  have e1 : ImAll H5 [d1, v1, .int ps.length, .int (spentL D.first D.past)] [dDeal (dealOf M.first M.past), dDeal M.first, .int M.past.length, .int (M.past.map Prod.snd).sum] := by
    refine .cons ?_ (.cons ?_ (.cons ?_ (.cons ?_ .nil)))
    · rw [← sy.deal]; exact hd3.s s35
    · rw [← sy.f]; exact h3.f.s s35
    · rw [S.n, hnp]; exact .int _
    · rw [sy.spent]; exact .int _
  refine ⟨_, rfl, _, shownM M, rfl, .dp (.tup (SqT.of (s35 _ _ et)) (ImAll.dp _ _ e1)) sm.h, sm.s, shownM_dep M, Nat.le_trans sm.l (by decide), rfl, _, rfl, ?_⟩
  rw [show (!decide (V.str (shownM M).shown = V.str (shownM M).shown)) = false by simp]
  refine iteF ?_
  refine ⟨_, rfl, .ref a, D, rfl, ⟨a, v1, _, v3, h3.k (Kp.of s35)⟩, ok, fun H6 hh kvs s6 eh hk _ => ?_⟩
  have s06 := (s03.trans s35).trans s6
  have hM6 := hM.same s06
  have hl6 := s06 _ _ hl
  have hx6 := hx.s s06
  have hlx : xs.length = cs.length := by have := hx.len; rw [List.length_map] at this; exact this
  have cell : ∀ (H' : Hp), Same H6 H' → ∀ (i : Nat) (x : V), xs[i]? = some x → ∃ c, cs[i]? = some c ∧ Im H' x (dCell c) := by
    intro H' s i x e
    obtain ⟨d, e1, e2⟩ := (hx6.s s).at e
    rw [List.getElem?_map] at e1
    cases z : cs[i]? with
    | none => rw [z] at e1; cases e1
    | some c => rw [z] at e1; cases e1; exact ⟨c, rfl, e2⟩
  refine ⟨_, rfl, l, rfl, ⟨_, SqL.of hl6⟩, fun A hA => lc_it (walk_list (xs := xs)) (LcP H6 A fun j v _ => ∃ c, cs[j]? = some c ∧ v = .int (numAt M.past c)) (LcP.zero hA) (fun i H' _ p => SqL.of (p.1 _ _ hl6)) (fun i x H' H'' hi p y => ?_) (fun H7 p => ?_)⟩
  · obtain ⟨rfl, hx'⟩ := y
    obtain ⟨c, hc, hcx⟩ := cell _ p.1 i x hx'
    have hM7 := hM6.same p.1
    obtain ⟨dx7, f7, p7, l7, hm7⟩ := id hM7
    refine ⟨rfl, .ref m, rfl, m, dx7, _, rfl, hm7.i, rfl, _, rfl, m, M, x, c, rfl, hM7, sy.ok, hcx, fun H8 s8 _ => ?_⟩
    exact LcP.next (fun _ _ _ _ h _ => h) hA (by omega) p s8 ⟨c, hc, rfl⟩
  · obtain ⟨s7, hA7⟩ := LcP.mapL (l := cs) (g := fun c => .int (numAt M.past c)) p hlx fun i v h => h
    have e7 : cs.map (fun c => V.int (numAt M.past c)) = (cs.map (numAt M.past)).map V.int := by rw [List.map_map]; rfl
    rw [e7] at hA7
    have smi : Sm (13 * (cs.map (numAt M.past)).length + 2 * ((cs.map (numAt M.past)).map PyData.int).length + 3) (.list ((cs.map (numAt M.past)).map .int)) := (SmAll.ints fun i hi => by
      obtain ⟨c, _, rfl⟩ := List.mem_map.mp hi
      exact numAt_bd sy.ok.p c).lst
    have dpi : (PyData.list ((cs.map (numAt M.past)).map .int)).depth ≤ 40 := by
      have := ints_dep (cs.map (numAt M.past))
      simp only [PyData.depth]
      omega
    have lni : (PyData.list ((cs.map (numAt M.past)).map .int)).shown.length ≤ sizeLine := Nat.le_trans smi.l (Nat.le_trans (show _ ≤ 2000 by simp only [List.length_map]; omega) (by decide))
    refine ⟨_, _, rfl, .dp (.lst (SqL.of hA7) (ImAll.dp _ _ (ImAll.ofInts _))) smi.h, smi.s, dpi, lni, ?_⟩
    have hl7 := s7 _ _ hl6
    have eh7 := s7 _ _ eh
    refine ⟨_, rfl, l, rfl, ⟨_, SqL.of hl7⟩, fun B hB => lc_it (walk_list (xs := xs)) (LcP H7 B fun j v _ => ∃ c, cs[j]? = some c ∧ v = .int (numAt M.past c)) (LcP.zero hB) (fun i H' _ p => SqL.of (p.1 _ _ hl7)) (fun i x H' H'' hi p y => ?_) (fun H8 p => ?_)⟩
    · obtain ⟨rfl, hx'⟩ := y
      obtain ⟨c, hc, hcx⟩ := cell _ (s7.trans p.1) i x hx'
      obtain ⟨tx, rfl, etx⟩ := hcx.cellI
      refine ⟨rfl, _, rfl, hh, rfl, .inr ⟨kvs, .inl (p.1 _ _ eh7)⟩, _, rfl, _, DGet.t (k := keyC c) (p.1 _ _ eh7) etx, ?_⟩
      refine LcP.next (fun _ _ _ _ h _ => h) hB (by omega) p (Same.refl _) ⟨c, hc, ?_⟩
      rw [hk c, ← sy.num c]
      cases hitL D.past c <;> rfl
    · obtain ⟨s8, hB8⟩ := LcP.mapL (l := cs) (g := fun c => .int (numAt M.past c)) p hlx fun i v h => h
      rw [e7] at hB8
      refine ⟨_, _, rfl, .dp (.lst (SqL.of hB8) (ImAll.dp _ _ (ImAll.ofInts _))) smi.h, smi.s, dpi, lni, rfl, ?_⟩
      rw [decide_eq_true (rfl : V.str (PyData.list ((cs.map (numAt M.past)).map .int)).shown = _)]
      exact q _ ((s06.trans s7).trans s8)
end
end Bp

namespace Bp
open PySem PySem.Spec PyProof.Rows L2
theorem seq_with {t u : TS} {D : Ends} {σ : L2.St} {H : Hp} (Pm : L2.St → Hp → Prop) (h1 : ∀ N : L2.St → Hp → Prop, (∀ σ' H', Pm σ' H' → N σ' H') → t { D with nx := N } σ H) (h2 : ∀ σ' H', Pm σ' H' → u D σ' H') : tSeq t u D σ H := h1 _ h2
/-! ### plain -/
theorem ledM_blk (M : MemS) (d : Deed) : (ledM M d).blk = M.blk := by
  unfold ledM
  split <;> rfl
theorem ledM_first (M : MemS) (d : Deed) : (ledM M d).first = M.first := by
  unfold ledM
  split <;> rfl
theorem ledM_len (M : MemS) (d : Deed) : (ledM M d).past.length + (ledM M d).later.length ≤ M.past.length + M.later.length + 1 := by
  unfold ledM
  split
  · omega
  · show (M.past ++ [(d, beatsFor M d)]).length + 0 ≤ _
    simp
theorem Syn.led {M : MemS} {D : DayS} (h : Syn M D) {d : Deed} (okd : DeedOk d) (n : M.past.length + M.later.length + 1 ≤ 5000) : Syn (ledM M d) (ledD M D d) := by
  unfold ledM ledD
  split
  · exact h
  · exact h.did okd (by omega)
def planK (called : Bool) (d : Nat) : List (Key × V) := [(Sum.inr "called", .bl called), (Sum.inr "deep", .int d)]
theorem np1 : ¬ Str.ofString "called" = Str.ofString "deep" := by decide +kernel
theorem plan_merge (called : Bool) (d : Nat) : mergeK [] (planK called d) = planK called d := by simp [mergeK, planK, putK, np1]
theorem plan_called (called : Bool) (d : Nat) : valV (planK called d) (Sum.inr "called") = some (.bl called) := by simp [planK, valV]
theorem plan_deep (called : Bool) (d : Nat) : valV (planK called d) (Sum.inr "deep") = some (.int d) := by simp [planK, valV, np1]
theorem plan_get1 {H : Hp} {a : Addr} {o : Obj} {called : Bool} {d : Nat} (h : H a = some (.frz o (.dK (planK called d)))) : DGet H a (.str "called") (some (.bl called)) := .inl ⟨_, Sum.inr "called", .inr ⟨o, h⟩, rfl, (plan_called _ _).symm⟩
theorem plan_get2 {H : Hp} {a : Addr} {o : Obj} {called : Bool} {d : Nat} (h : H a = some (.frz o (.dK (planK called d)))) : DGet H a (.str "deep") (some (.int d)) := .inl ⟨_, Sum.inr "deep", .inr ⟨o, h⟩, rfl, (plan_deep _ _).symm⟩
theorem memF_ne {f p l b pp ll a w : V} (h : MemF f p l b = BlkF pp ll a w) : False := by
  simp only [MemF, BlkF, List.cons.injEq, Prod.mk.injEq] at h
  exact absurd h.1.1 (by decide +kernel)
theorem ins_ne {H : Hp} {a b C dx C' dx' : Addr} {f p l b1 pp ll a1 w : V} (h1 : H a = some (.ins C dx (MemF f p l b1))) (h2 : H b = some (.ins C' dx' (BlkF pp ll a1 w))) : b ≠ a := fun z => by
  rw [z, h1] at h2
  simp only [Option.some.injEq, HO.ins.injEq] at h2
  exact memF_ne h2.2.2
structure Ap (p m l b qa : Addr) : Prop where
  pm : p ≠ m
  lp : l ≠ p
  lm : l ≠ m
  bp : b ≠ p
  bm : b ≠ m
  bl : b ≠ l
  qp : qa ≠ p
  qm : qa ≠ m
  ql : qa ≠ l
  qb : qa ≠ b
/-- how far the inside of a block has come -/
structure InS (K : PySem.W.Frag) (p m l b qa bdx : Addr) (pp ll b0 wd : V) (o : Obj) (called : Bool) (d : Nat) (H1 : Hp) (M : MemS) (nn k c : Nat) (H' : Hp) (v : V) (M' : MemS) (D' : DayS) : Prop where
  fr : Fr K [p, m, l, b] H1 H'
  hp : PotAt H' p nn
  hM : MemAt K H' m M'
  hD : DayAt H' v D'
  sy : Syn M' D'
  blk : M'.blk = M.blk
  fst : M'.first = M.first
  len : M'.past.length + M'.later.length ≤ M.past.length + M.later.length + k
  hl : H' l = some (.lst (List.replicate c (.bl true)))
  hb : H' b = some (.ins (Blk K) bdx (BlkF pp ll b0 wd))
  hq : H' qa = some (.frz o (.dK (planK called d)))
  tb : Tb K H'
section
variable {K : PySem.W.Frag} {p m l b qa bdx : Addr} {pp ll b0 wd : V} {o : Obj} {called : Bool} {d : Nat} {H1 : Hp} {M : MemS} {nn k c : Nat} {H' : Hp} {v : V} {M' : MemS} {D' : DayS}
theorem InS.step (ap : Ap p m l b qa) (I : InS K p m l b qa bdx pp ll b0 wd o called d H1 M nn k c H' v M' D') {H2 : Hp} {v2 : V} {M2 : MemS} {D2 : DayS} {n2 j : Nat} (fr : Fr K [p, m] H' H2) (hp : PotAt H2 p n2) (hM : MemAt K H2 m M2) (hD : DayAt H2 v2 D2) (sy : Syn M2 D2)
    (hb : M2.blk = M'.blk) (hf : M2.first = M'.first) (hl : M2.past.length + M2.later.length ≤ M'.past.length + M'.later.length + j) : InS K p m l b qa bdx pp ll b0 wd o called d H1 M n2 (k + j) c H2 v2 M2 D2 := by
  have e := I.len
  refine ⟨I.fr.trans (fr.mono (by simp)), hp, hM, hD, sy, hb.trans I.blk, hf.trans I.fst, by omega, fr.e _ _ I.hl (by simp [ap.lp, ap.lm]) fun _ z => (by cases z), fr.e _ _ I.hb (by simp [ap.bp, ap.bm]) fun _ z => (by cases z), fr.e _ _ I.hq (by simp [ap.qp, ap.qm]) fun _ z => (by cases z), fr.t I.tb⟩
theorem InS.fp (I : InS K p m l b qa bdx pp ll b0 wd o called d H1 M nn k c H' v M' D') {H2 : Hp} (o2 : So [p] H' H2) : Fr K [p, m] H' H2 := (Fr.so o2 (by intro b hb o e; rw [List.mem_singleton.mp hb] at e; exact I.hp.pl o e)).mono (by simp)
theorem InS.fpm (I : InS K p m l b qa bdx pp ll b0 wd o called d H1 M nn k c H' v M' D') {H2 : Hp} (o2 : So [p, m] H' H2) : Fr K [p, m] H' H2 := Fr.so o2 (by
  intro b hb o e
  simp only [List.mem_cons, List.not_mem_nil, or_false] at hb
  rcases hb with rfl | rfl
  · exact I.hp.pl o e
  · exact I.hM.pl o e)
theorem InS.pot (ap : Ap p m l b qa) (I : InS K p m l b qa bdx pp ll b0 wd o called d H1 M nn k c H' v M' D') {H2 : Hp} {n2 : Nat} (o2 : So [p] H' H2) (kk : Kp H' H2) (hp : PotAt H2 p n2) : InS K p m l b qa bdx pp ll b0 wd o called d H1 M n2 k c H2 v M' D' :=
  I.step ap (I.fp o2) hp (I.hM.k kk fun C dx fs e => o2 _ _ e (by simpa using Ne.symm ap.pm)) (I.hD.k kk) I.sy rfl rfl (j := 0) (by omega)
theorem InS.same (ap : Ap p m l b qa) (I : InS K p m l b qa bdx pp ll b0 wd o called d H1 M nn k c H' v M' D') {H2 : Hp} (s : Same H' H2) : InS K p m l b qa bdx pp ll b0 wd o called d H1 M nn k c H2 v M' D' :=
  I.step ap (Fr.same s) (I.hp.s s) (I.hM.same s) (I.hD.k (Kp.of s)) I.sy rfl rfl (j := 0) (by omega)
theorem InS.fr0 (ap : Ap p m l b qa) (I : InS K p m l b qa bdx pp ll b0 wd o called d H1 M nn k c H' v M' D') {H2 : Hp} (fr : Fr K [] H' H2) (kk : Kp H' H2) : InS K p m l b qa bdx pp ll b0 wd o called d H1 M nn k c H2 v M' D' := by
  obtain ⟨dx, f, p', l', hm⟩ := id I.hM
  obtain ⟨x, y, z, hl, hh⟩ := id I.hp
  exact I.step ap (fr.mono (by simp)) (I.hp.of fun xs e => fr.e _ _ e (by simp) fun _ z => by cases z) (I.hM.k kk fun C dx fs e => fr.e _ _ e (by simp) fun _ z => by cases z) (I.hD.k kk) I.sy rfl rfl (j := 0) (by omega)
/-- one more that is as it should -/
theorem InS.app (ap : Ap p m l b qa) (I : InS K p m l b qa bdx pp ll b0 wd o called d H1 M nn k c H' v M' D') (j : Nat) : InS K p m l b qa bdx pp ll b0 wd o called d H1 M nn k (c + j) (upd H' l (.lst (List.replicate c (.bl true) ++ List.replicate j (.bl true)))) v M' D' := by
  have kk : Kp H' (upd H' l (.lst (List.replicate c (.bl true) ++ List.replicate j (.bl true)))) := Kp.upd fun w e => by rw [I.hl] at e; cases e; exact nf_lst
  have so : So [l] H' (upd H' l (.lst (List.replicate c (.bl true) ++ List.replicate j (.bl true)))) := .upd (by simp)
  have fr : Fr K [l] H' (upd H' l (.lst (List.replicate c (.bl true) ++ List.replicate j (.bl true)))) := Fr.so so (by
    intro b hb o e
    rw [List.mem_singleton.mp hb, I.hl] at e
    cases e
    exact pl_lst)
  refine ⟨I.fr.trans (fr.mono (by simp)), I.hp.of fun _ z => (upd_ne (Ne.symm ap.lp)).trans z, I.hM.k kk fun C dx fs e => (upd_ne (Ne.symm ap.lm)).trans e, I.hD.k kk, I.sy, I.blk, I.fst, I.len, ?_, (upd_ne ap.bl).trans I.hb, (upd_ne ap.ql).trans I.hq, fr.t I.tb⟩
  rw [upd_same, List.replicate_append_replicate]
theorem InS.kept (ap : Ap p m l b qa) (I : InS K p m l b qa bdx pp ll b0 wd o called d H1 M nn k c H' v M' D') (w2 : V) : InS K p m l b qa bdx pp ll b0 w2 o called d H1 M nn k c (upd H' b (.ins (Blk K) bdx (BlkF pp ll b0 w2))) v M' D' := by
  have kk : Kp H' (upd H' b (.ins (Blk K) bdx (BlkF pp ll b0 w2))) := kp_ins I.hb
  have so : So [b] H' (upd H' b (.ins (Blk K) bdx (BlkF pp ll b0 w2))) := .upd (by simp)
  have fr : Fr K [b] H' (upd H' b (.ins (Blk K) bdx (BlkF pp ll b0 w2))) := Fr.so so (by
    intro b' hb o e
    rw [List.mem_singleton.mp hb, I.hb] at e
    cases e
    exact pl_ins)
  refine ⟨I.fr.trans (fr.mono (by simp)), I.hp.of fun _ z => (upd_ne (Ne.symm ap.bp)).trans z, I.hM.k kk fun C dx fs e => (upd_ne (Ne.symm ap.bm)).trans e, I.hD.k kk, I.sy, I.blk, I.fst, I.len, (upd_ne (Ne.symm ap.bl)).trans I.hl, upd_same, (upd_ne ap.qb).trans I.hq, fr.t I.tb⟩
end
section
variable {P : Program} {w : World} {K : PySem.W.Frag} {mg : Str → Option Value} {base : Heap}
/-! ### _law_block's promise, by how deep it goes -/
def sp_law_block (d : Nat) (K : PySem.W.Frag) : Sp := fun vs H Q _ => ∃ (p m : Addr) (u : V) (n : Nat) (M : MemS) (D : DayS), vs = [.ref p, .ref m, u, .int d] ∧ PotAt H p n ∧ n + 148 * (d + 1) ≤ 100000 ∧ MemAt K H m M ∧ DayAt H u D ∧ Syn M D ∧ Tb K H ∧ M.past.length + M.later.length + 2 * (d + 1) ≤ 4990 ∧
  ∀ H' r v M' D', Fr K [p, m] H H' → PotAt H' p (n + 148 * (d + 1)) → MemAt K H' m M' → DayAt H' v D' → Syn M' D' → M'.blk = M.blk → M'.first = M.first → M'.past.length + M'.later.length ≤ M.past.length + M.later.length + 2 * (d + 1) → H' r = some (.tup [.bl true, v]) → Q (.ref r) H'
def sp_blk : Nat → PySem.W.Frag → Sp
  | 0, _ => fun _ _ _ _ => False
  | d + 1, K => sp_law_block d K
/-! ### _law_inner: slots pot 0, memory 1, day 2, plan 3, are_ok 4, lap 5, is_ok 6, twin 7 -/
def sp_law_inner (d : Nat) (K : PySem.W.Frag) : Sp := fun vs H Q _ => ∃ (p m b bdx qa : Addr) (u pp ll b0 : V) (n : Nat) (M : MemS) (D : DayS) (called : Bool) (o : Obj), vs = [.ref p, .ref m, u, .ref qa] ∧ PotAt H p n ∧ n + 148 * d + 125 ≤ 100000 ∧ MemAt K H m M ∧ DayAt H u D ∧ Syn M D ∧
  M.blk = .ref b ∧ H b = some (.ins (Blk K) bdx (BlkF pp ll b0 .non)) ∧ H qa = some (.frz o (.dK (planK called d))) ∧ Tb K H ∧ M.past.length + M.later.length + 2 * (d + 1) ≤ 4990 ∧
  ∀ H' r v M' D', Fr K [p, m, b] H H' → PotAt H' p (n + 148 * d + 125) → MemAt K H' m M' → DayAt H' v D' → Syn M' D' → M'.blk = M.blk → M'.first = M.first → M'.past.length + M'.later.length ≤ M.past.length + M.later.length + 2 * (d + 1) →
    H' b = some (.ins (Blk K) bdx (BlkF pp ll b0 (if called then .str "kept" else .non))) → H' r = some (.tup [.bl true, v]) → Q (.ref r) H'
theorem ok_law_inner (T : Th P K mg base) (d : Nat) (B : GF P w K mg base (12 + 12 * d) (He.ga K "_law_block") ["_law_pot_here", "_law_memory", "_law_day_here", "_law_deep"] (sp_blk d K)) : GF P w K mg base (12 + 12 * d + 1) (He.ga K "_law_inner") ["_law_pot_here", "_law_memory", "_law_day_here", "_law_plan"] (sp_law_inner d K) := by
  refine gf_of T.d_law_inner sc_law_inner (fun vs H Q E h => by obtain ⟨p, m, b, bdx, qa, u, pp, ll, b0, n, M, D, called, o, rfl, hp, hn, hM, hD, sy, hbk, hb, hq, tb, hlen, q⟩ := h; rfl) (fun _ _ _ _ _ _ us hl => match us, hl with | [_, _, _, _], _ => rfl) fun cdv A outer s H vs Q E hg hr hsp => ?_
  obtain ⟨p, m, b, bdx, qa, u, pp, ll, b0, n, M, D, called, o, rfl, hp, hn, hM, hD, sy, hbk, hb, hq, tb, hlen, q⟩ := hsp
  have hr12 : Room 12 _ := hr.mono (Nat.le_add_right 12 (12 * d))
  refine ⟨_, (pss_cons (ps_set (i := 4) sc_law_inner.nd rfl (Or.inl rfl) (pe_lst pa_nil))
    (pss_cons (ps_for PassesOwn.leaving rfl (pi_range1 (by rfl) T.f_range (pa_cons (pe_fn T.g_law_take (ok_law_take T) hg hr12 passL (pa_cons (pv 0) (pa_cons pe_int pa_nil))) pa_nil)) (pg_name (i := 5) sc_law_inner.nd rfl (Or.inl rfl))
      (pss_cons (ps_asg (pe_fn T.g_law_led (ok_law_led T) hg hr12 passL (pa_cons (pv 1) (pa_cons (pv 2) (pa_cons (pe_fn T.g_law_a_deed (ok_law_a_deed T) hg hr12 passL (pa_cons (pv 0) pa_nil)) pa_nil)))) (pg_tup rfl (pgs_cons (pg_name (i := 6) sc_law_inner.nd rfl (Or.inl rfl)) (pgs_cons (pg_name (i := 2) sc_law_inner.nd rfl (Or.inl rfl)) pgs_nil))))
      (pss_cons (ps_expr (pe_bm PySem.F.plainAttrs_list PySem.F.slot_list_append PySem.F.type_list_append mt_append (pv 4) (pa_cons (pv 6) pa_nil)))
      (pss_one (ps_set (i := 2) sc_law_inner.nd rfl (Or.inl rfl) (pe_fn T.g_law_fro (ok_law_fro T) hg hr12 passL (pa_cons (pv 0) (pa_cons (pv 1) (pa_cons (pv 2) pa_nil)))))))))
    (pss_cons (ps_if (pt_val (pe_dget (hu_of hr) (pv 3) pe_str (fun _ _ => rfl))) (pss_one (ps_expr (pe_bm PySem.F.plainAttrs_list PySem.F.slot_list_append PySem.F.type_list_append mt_append (pv 4) (pa_cons (pe_cmpR op_isN (pe_mt0 T.cl_Memory T.m_Memory_keep (ok_Memory_keep T) hg hr12 passL (pv 1)) pe_non (nomark _)) pa_nil)))) pss_nil)
    (pss_cons (ps_if (PW.pt (pw_and (pt_cmpR op_gt (pe_dget (hu_of hr) (pv 3) pe_str (fun _ _ => rfl)) pe_int (nomark _)) (pw_and1 (pt_cmpR op_gt (pe_fn T.g_law_take (ok_law_take T) hg hr12 passL (pa_cons (pv 0) (pa_cons pe_int pa_nil))) pe_int (nomark _))))) (pss_cons (ps_asg (pe_fn T.g_law_block B hg (hr) passL (pa_cons (pv 0) (pa_cons (pv 1) (pa_cons (pv 2) (pa_cons (pe_op op_sub (pe_dget (hu_of hr) (pv 3) pe_str (fun _ _ => rfl)) pe_int) pa_nil)))) (Nat.le_refl _)) (pg_tup rfl (pgs_cons (pg_name (i := 6) sc_law_inner.nd rfl (Or.inl rfl)) (pgs_cons (pg_name (i := 2) sc_law_inner.nd rfl (Or.inl rfl)) pgs_nil))))
      (pss_one (ps_expr (pe_bm PySem.F.plainAttrs_list PySem.F.slot_list_append PySem.F.type_list_append mt_append (pv 4) (pa_cons (pv 6) pa_nil))))) pss_nil)
    (pss_cons (ps_par (by rfl) sc_law_inner.nd (i := 2) (j := 7) rfl rfl (by decide) rfl rfl (pa_cons (pe_fn T.g_law_fro (ok_law_fro T) hg hr12 passL (pa_cons (pv 0) (pa_cons (pv 1) (pa_cons (pv 2) pa_nil)))) (pa_cons (pe_mt0 T.cl_Memory T.m_Memory_copy (ok_Memory_copy T) hg hr12 passL (pv 1)) pa_nil)) (by rfl))
    (pss_cons (ps_expr (pe_bm PySem.F.plainAttrs_list PySem.F.slot_list_extend PySem.F.type_list_extend mt_extend (pv 4) (pa_cons (pe_lst (pa_cons (pe_fn T.g_law_is_outside (ok_law_is_outside T) hg hr12 passL (pa_cons (pv 7) pa_nil)) (pa_cons (pe_cmpR (op_eqM T hg (hr12)) (pv 7) (pv 1) (nomark _)) (pa_cons (pe_fn T.g_law_is_memory (ok_law_is_memory T) hg hr12 passL (pa_cons (pv 7) (pa_cons (pv 2) (pa_cons (pe_lst (pa_cons (pe_tup (pa_cons pe_int (pa_cons pe_int pa_nil))) (pa_cons (pe_tup (pa_cons pe_int (pa_cons pe_int pa_nil))) pa_nil))) pa_nil)))) pa_nil)))) pa_nil)))
    (pss_one (ps_ret (pe_tup (pa_cons (pe_and (pe_callB (cr_all rfl) (by rfl) T.f_all (by decide +kernel) (pa_cons (pv 4) pa_nil)) (pe_one (pe_fn T.g_law_is_memory (ok_law_is_memory T) hg hr12 passL (pa_cons (pv 1) (pa_cons (pv 2) (pa_cons (pe_lst (pa_cons (pe_tup (pa_cons pe_int (pa_cons pe_int pa_nil))) (pa_cons (pe_tup (pa_cons pe_int (pa_cons pe_int pa_nil))) pa_nil))) pa_nil)))))) (pa_cons (pv 2) pa_nil))))))))))), ?_⟩
  obtain ⟨x0, y0, z0, hpl, _⟩ := id hp
  obtain ⟨dx, f, pq, lq, hm⟩ := id hM
  have hmi := hm.i
  refine ⟨Nat.zero_le _, fun l nl => ?_⟩
  have s1 : Same H (upd H l (.lst [])) := sameN nl
  have el : upd H l (.lst []) l = some (.lst []) := upd_same
  have ap : Ap p m l b qa := ⟨fun z => (by rw [z, hmi] at hpl; cases hpl), fun z => (by rw [z, hpl] at nl; cases nl), fun z => (by rw [z, hmi] at nl; cases nl), fun z => (by rw [z, hpl] at hb; cases hb), ins_ne hmi hb, fun z => (by rw [← z, hb] at nl; cases nl),
    fun z => (by rw [z, hpl] at hq; cases hq), fun z => (by rw [z, hmi] at hq; cases hq), fun z => (by rw [← z, hq] at nl; cases nl), fun z => (by rw [z, hb] at hq; cases hq)⟩
  generalize upd H l (.lst []) = H1 at s1 el
  have I1 : InS K p m l b qa bdx pp ll b0 .non o called d H1 M n 0 0 H1 u M D := ⟨.refl _, hp.s s1, hM.same s1, hD.k (Kp.of s1), sy, rfl, rfl, by omega, el, s1 _ _ hb, s1 _ _ hq, tb.ext s1⟩
  dsimp only [gName]
  refine seq_with (fun σ H' => ∃ v M' D' y z c, σ = [some (.ref p), some (.ref m), some v, some (.ref qa), some (.ref l), y, z, none] ∧ c ≤ 2 ∧ InS K p m l b qa bdx pp ll b0 .non o called d H1 M (n + 123) 2 c H' v M' D') (fun N hN => ?_) (fun σ H' pm => ?_)
  · refine ⟨_, rfl, p, 3, n, rfl, I1.hp, by omega, by omega, by omega, fun H2 k o2 hp2 k0 k3 kk2 => ?_⟩
    obtain ⟨k, rfl⟩ := Int.eq_ofNat_of_zero_le k0
    have I2 := I1.pot ap o2 kk2 hp2
    refine ⟨(k : Int), rfl, by omega, by omega, for_it (walk_range (lo := 0) (n := k)) (fun i σ H' => ∃ v M' D' y z, σ = [some (.ref p), some (.ref m), some v, some (.ref qa), some (.ref l), y, z, none] ∧ InS K p m l b qa bdx pp ll b0 .non o called d H1 M (n + 1 + 61 * i) i i H' v M' D')
      ⟨u, M, D, none, none, rfl, I2⟩ (fun _ _ _ _ _ => True.intro) (fun i x σ H3 H4 hi pv y => ?_) (fun σ H3 pv => ?_)⟩
    · obtain ⟨v, M3, D3, y3, z3, rfl, I3⟩ := pv
      obtain ⟨rfl, rfl⟩ := y
      have l3 := I3.len
      refine ⟨_, rfl, _, rfl, _, rfl, p, n + 1 + 61 * i, rfl, I3.hp, by omega, fun H5 ud dd o5 hp5 hdd okd kk5 => ?_⟩
      have I5 := I3.pot ap o5 kk5 hp5
      have l5 : M3.past.length + M3.later.length + 1 ≤ 5000 := by omega
      refine ⟨m, v, ud, M3, D3, dd, rfl, I5.hM, I5.hD, I5.sy, hdd, okd, l5, I5.tb, fun H6 r v6 fr6 hM6 hD6 er kk6 => ?_⟩
      have I6 := I5.step ap (fr6.mono (by simp)) (I5.hp.of fun xs e => fr6.e _ _ e (by simpa using ap.pm) fun _ z => by cases z) hM6 hD6 (I5.sy.led okd l5) (ledM_blk _ _) (ledM_first _ _) (ledM_len _ _)
      refine ⟨r, _, rfl, SqT.of er, rfl, _, _, rfl, _, _, rfl, rfl, ?_⟩
      refine ⟨_, rfl, .inl ⟨rfl, _, SqL.of I6.hl⟩, _, rfl, l, _, _, rfl, rfl, I6.hl, Nat.lt_of_le_of_lt (show _ ≤ 100 by simp; omega) (by decide), ?_⟩
      have I7 := I6.app ap 1
      have l7 := I7.len
      refine ⟨_, rfl, _, rfl, _, rfl, p, m, v6, _, _, _, rfl, I7.hp, by omega, I7.hM, I7.hD, I7.sy, fun H8 v8 M8 D8 o8 hp8 hM8 hD8 sy8 b8 f8 n8 kk8 => ?_⟩
      have I8 := I7.step ap (I7.fpm o8) hp8 hM8 hD8 sy8 b8 f8 (j := 0) (by omega)
      exact ⟨v8, M8, D8, _, _, rfl, I8⟩
    · obtain ⟨v, M3, D3, y3, z3, rfl, I3⟩ := pv
      refine hN _ _ ⟨v, M3, D3, y3, z3, k, rfl, by omega, ⟨I3.fr, I3.hp.mono (by omega), I3.hM, I3.hD, I3.sy, I3.blk, I3.fst, by have := I3.len; omega, I3.hl, I3.hb, I3.hq, I3.tb⟩⟩
  obtain ⟨v, M2, D2, y2, z2, c2, rfl, hc2, I2⟩ := pm
  refine seq_with (fun σ H' => ∃ v M' D' y z c, σ = [some (.ref p), some (.ref m), some v, some (.ref qa), some (.ref l), y, z, none] ∧ c ≤ 3 ∧ InS K p m l b qa bdx pp ll b0 (if called then .str "kept" else .non) o called d H1 M (n + 123) 2 c H' v M' D') (fun N hN => ?_) (fun σ H' pm => ?_)
  · refine ⟨_, rfl, qa, .bl called, rfl, plan_get1 I2.hq, called, rfl, ?_⟩
    cases called with
    | false => exact iteF (hN _ _ ⟨v, M2, D2, y2, z2, c2, rfl, by omega, I2⟩)
    | true =>
      obtain ⟨dx2, f2, pq2, lq2, hm2⟩ := id I2.hM
      refine iteT ⟨_, rfl, .inl ⟨rfl, _, SqL.of I2.hl⟩, .ref m, rfl, m, dx2, _, rfl, hm2.i, rfl, m, dx2, f2, pq2, lq2, M2.blk, rfl, hm2.i, fun z => ?_, fun _ => ⟨b, bdx, pp, ll, b0, .non, I2.blk.trans hbk, I2.hb, fun kk3 => ?_⟩⟩
      · rw [I2.blk, hbk] at z
        cases z
      · have I3 := I2.kept ap (.str "kept")
        refine ⟨rfl, l, _, _, rfl, rfl, I3.hl, Nat.lt_of_le_of_lt (show _ ≤ 100 by simp; omega) (by decide), hN _ _ ⟨v, M2, D2, y2, z2, c2 + 1, rfl, by omega, I3.app ap 1⟩⟩
  clear I2 v M2 D2 y2 z2 hc2 c2
  obtain ⟨v, M2, D2, y2, z2, c2, rfl, hc2, I2⟩ := pm
  refine seq_with (fun σ H' => ∃ v M' D' y z c, σ = [some (.ref p), some (.ref m), some v, some (.ref qa), some (.ref l), y, z, none] ∧ c ≤ 4 ∧ InS K p m l b qa bdx pp ll b0 (if called then .str "kept" else .non) o called d H1 M (n + 148 * d + 124) (2 * (d + 1)) c H' v M' D') (fun N hN => ?_) (fun σ H' pm => ?_)
  · refine ⟨_, rfl, qa, .int d, rfl, plan_get2 I2.hq, _, _, rfl, rfl, _, rfl, ?_⟩
    cases d with
    | zero => exact iteDF (by decide) (hN _ _ ⟨v, M2, D2, y2, z2, c2, rfl, by omega, ⟨I2.fr, I2.hp.mono (by omega), I2.hM, I2.hD, I2.sy, I2.blk, I2.fst, by have := I2.len; omega, I2.hl, I2.hb, I2.hq, I2.tb⟩⟩)
    | succ d =>
      refine iteD (by omega) ⟨_, rfl, p, 5, n + 123, rfl, I2.hp, by omega, by omega, by omega, fun H3 e o3 hp3 e0 e5 kk3 => ⟨_, _, rfl, rfl, _, rfl, ?_⟩⟩
      have I3 := I2.pot ap o3 kk3 hp3
      by_cases he : 0 < e
      · have l3 := I3.len
        refine iteD he ⟨_, rfl, _, rfl, _, rfl, _, rfl, qa, .int (d + 1 : Nat), rfl, plan_get2 I3.hq, _, _, rfl, rfl, p, m, v, n + 123 + 1, M2, D2, ?_, I3.hp, by omega, I3.hM, I3.hD, I3.sy, I3.tb, by omega, fun H4 r v4 M4 D4 fr4 hp4 hM4 hD4 sy4 b4 f4 n4 er kk4 => ?_⟩
        · show [V.ref p, V.ref m, v, V.int (((d + 1 : Nat) : Int) - 1)] = _
          rw [show (((d + 1 : Nat) : Int) - 1) = (d : Int) by omega]
        · have I4 := I3.step ap fr4 hp4 hM4 hD4 sy4 b4 f4 n4
          refine ⟨r, _, rfl, SqT.of er, rfl, _, _, rfl, _, _, rfl, rfl, ?_⟩
          refine ⟨_, rfl, .inl ⟨rfl, _, SqL.of I4.hl⟩, _, rfl, l, _, _, rfl, rfl, I4.hl, Nat.lt_of_le_of_lt (show _ ≤ 100 by simp; omega) (by decide), ?_⟩
          have I5 := I4.app ap 1
          exact hN _ _ ⟨v4, M4, D4, _, _, c2 + 1, rfl, by omega, ⟨I5.fr, I5.hp.mono (by omega), I5.hM, I5.hD, I5.sy, I5.blk, I5.fst, by have := I5.len; omega, I5.hl, I5.hb, I5.hq, I5.tb⟩⟩
      · exact iteDF he (hN _ _ ⟨v, M2, D2, y2, z2, c2, rfl, by omega, ⟨I3.fr, I3.hp.mono (by omega), I3.hM, I3.hD, I3.sy, I3.blk, I3.fst, by have := I3.len; omega, I3.hl, I3.hb, I3.hq, I3.tb⟩⟩)
  clear I2 v M2 D2 y2 z2 hc2 c2
  obtain ⟨v, M2, D2, y2, z2, c2, rfl, hc2, I2⟩ := pm
  refine ⟨_, rfl, _, rfl, _, rfl, p, m, v, _, M2, D2, rfl, I2.hp, by omega, I2.hM, I2.hD, I2.sy, fun H3 v3 M3 D3 o3 hp3 hM3 hD3 sy3 b3 f3 n3 kk3 => ?_⟩
  have I3 := I2.step ap (I2.fpm o3) hp3 hM3 hD3 sy3 b3 f3 (j := 0) (by omega)
  obtain ⟨dx3, f3', pq3, lq3, hm3⟩ := id hM3
  refine ⟨.ref m, rfl, m, dx3, _, rfl, hm3.i, rfl, m, M3, rfl, hM3, sy3.ok.f, fun H4 t s4 nt hMt kk4 => ⟨_, _, rfl, ?_⟩⟩
  have I4 := I3.same ap s4
  have sy4 : Syn { M3 with blk := V.non } D3 := ⟨sy3.f, sy3.p, sy3.l, sy3.w, ⟨sy3.ok.f, sy3.ok.p, sy3.ok.l, sy3.ok.n⟩⟩
  -- are_ok.extend
  refine ⟨_, rfl, .inl ⟨rfl, _, SqL.of I4.hl⟩, _, rfl, t, _, rfl, hMt, rfl, I4.tb, fun H5 fr5 kk5 => ?_⟩
  have I5 := I4.fr0 ap fr5 kk5
  have hMt5 := hMt.k kk5 fun C dx fs e => fr5.e _ _ e (by simp) fun _ z => by cases z
  refine ⟨_, rfl, _, rfl, t, m, _, M3, rfl, rfl, hMt5, I5.hM, rfl, rfl, ?_⟩
  refine ⟨_, rfl, _, rfl, by show 2 ≤ sizeLine; decide, fun t1 nt1 => ⟨by show 2 ≤ sizeLine; decide, fun t2 nt2 => ⟨by show 2 ≤ sizeLine; decide, fun l2 nl2 => ?_⟩⟩⟩
  have s61 : Same H5 (upd H5 t1 (.tup [.int 0, .int 0])) := sameN nt1
  have et1 : upd H5 t1 (.tup [.int 0, .int 0]) t1 = some (.tup [.int 0, .int 0]) := upd_same
  generalize upd H5 t1 (.tup [.int 0, .int 0]) = H6 at s61 et1 nt2 nl2
  have s62 : Same H6 (upd H6 t2 (.tup [.int 1, .int 1])) := sameN nt2
  have et2 : upd H6 t2 (.tup [.int 1, .int 1]) t2 = some (.tup [.int 1, .int 1]) := upd_same
  generalize upd H6 t2 (.tup [.int 1, .int 1]) = H7 at s62 et2 nl2
  have s63 : Same H7 (upd H7 l2 (.lst [.ref t1, .ref t2])) := sameN nl2
  have el2 : upd H7 l2 (.lst [.ref t1, .ref t2]) l2 = some (.lst [.ref t1, .ref t2]) := upd_same
  generalize upd H7 l2 (.lst [.ref t1, .ref t2]) = H8 at s63 el2
  have s58 := (s61.trans s62).trans s63
  have I8 := I5.same ap s58
  refine ⟨t, l2, v3, _, D3, _, [(0, 0), (1, 1)], rfl, hMt5.same s58, I8.hD, sy4, el2, .cons (.cell ((s62.trans s63) _ _ et1)) (.cons (.cell (s63 _ _ et2)) .nil), by decide, fun H9 s9 kk9 => ⟨by show 3 ≤ sizeLine; decide, fun l3 nl3 => ?_⟩⟩
  have s10 : Same H9 (upd H9 l3 (.lst [.bl true, .bl true, .bl true])) := sameN nl3
  have el3 : upd H9 l3 (.lst [.bl true, .bl true, .bl true]) l3 = some (.lst [.bl true, .bl true, .bl true]) := upd_same
  generalize upd H9 l3 (.lst [.bl true, .bl true, .bl true]) = H10 at s10 el3
  have I10 := I8.same ap (s9.trans s10)
  refine ⟨l, l3, _, _, rfl, rfl, I10.hl, el3, Nat.le_trans (show _ ≤ 100 by simp; omega) (by decide), ?_⟩
  have I11 := I10.app ap 3
  -- the end
  have e3 : (List.replicate 3 (V.bl true)) = [.bl true, .bl true, .bl true] := rfl
  rw [e3] at I11
  generalize upd H10 l (.lst (List.replicate c2 (.bl true) ++ [.bl true, .bl true, .bl true])) = H11 at I11
  refine ⟨_, rfl, l, List.replicate (c2 + 3) true, rfl, SqL.of (by rw [List.map_replicate]; exact I11.hl), ?_⟩
  rw [show (List.replicate (c2 + 3) true).all id = true by simp]
  refine ⟨true, rfl, ?_⟩
  refine ⟨_, rfl, _, rfl, by show 2 ≤ sizeLine; decide, fun t1 nt1 => ⟨by show 2 ≤ sizeLine; decide, fun t2 nt2 => ⟨by show 2 ≤ sizeLine; decide, fun l2 nl2 => ?_⟩⟩⟩
  have s61 : Same H11 (upd H11 t1 (.tup [.int 0, .int 0])) := sameN nt1
  have et1 : upd H11 t1 (.tup [.int 0, .int 0]) t1 = some (.tup [.int 0, .int 0]) := upd_same
  generalize upd H11 t1 (.tup [.int 0, .int 0]) = H12 at s61 et1 nt2 nl2
  have s62 : Same H12 (upd H12 t2 (.tup [.int 1, .int 0])) := sameN nt2
  have et2 : upd H12 t2 (.tup [.int 1, .int 0]) t2 = some (.tup [.int 1, .int 0]) := upd_same
  generalize upd H12 t2 (.tup [.int 1, .int 0]) = H13 at s62 et2 nl2
  have s63 : Same H13 (upd H13 l2 (.lst [.ref t1, .ref t2])) := sameN nl2
  have el2 : upd H13 l2 (.lst [.ref t1, .ref t2]) l2 = some (.lst [.ref t1, .ref t2]) := upd_same
  generalize upd H13 l2 (.lst [.ref t1, .ref t2]) = H14 at s63 el2
  have I14 := I11.same ap ((s61.trans s62).trans s63)
  refine ⟨m, l2, v3, M3, D3, _, [(0, 0), (1, 0)], rfl, I14.hM, I14.hD, sy3, el2, .cons (.cell ((s62.trans s63) _ _ et1)) (.cons (.cell (s63 _ _ et2)) .nil), by decide, fun H15 s15 kk15 => ⟨_, rfl, by show 2 ≤ sizeLine; decide, fun r nr => ?_⟩⟩
  have I16 := I14.same ap (s15.trans (sameN (o := .tup [.bl true, v3]) nr))
  refine q _ r v3 M3 D3 ?_ (I16.hp.mono (by omega)) I16.hM I16.hD I16.sy I16.blk I16.fst I16.len I16.hb upd_same
  exact ((Fr.same (K := K) (S := [p, m, l, b]) s1).trans I16.fr).drop (by
    intro b' hb'
    simp only [List.mem_cons, List.not_mem_nil, or_false] at hb'
    rcases hb' with rfl | rfl | rfl | rfl
    · exact .inl (by simp)
    · exact .inl (by simp)
    · exact .inr nl
    · exact .inl (by simp))
end
end Bp

namespace Bp
open PySem PySem.Spec PyProof.Rows L2 LamX NdefX
/-! ### isinstance of a caught error or None -/
theorem kit_none {K : PySem.W.Frag} {C : Addr} (EC : ErrC K C) : PySem.W.kitOne K (.type "NoneType") (.ref C) = some false := by
  obtain ⟨nm, q, N, bs, bm, sn, sub, ab, col, dd, k0, k1, k2, k3, k5, hC, hbm⟩ := EC.ox.cls
  have h1 : (PySem.W.clsIn K C).isSome = true := by
    unfold PySem.W.clsIn
    rw [hC]
    rfl
  have h2 := EC.ox.tyC
  unfold PySem.W.kitOne PySem.W.kitCls
  rw [if_neg (by simp)]
  show (if ((PySem.W.clsIn K C).isSome && PySem.W.typeIn K (.ref C) == some (.type "type")) = true then _ else _) = _
  rw [h1, h2, if_pos (by simp)]
  rfl
def rIsErN (K : PySem.W.Frag) : List V → Hp → VK → Prop := fun xs H Q => (∃ (a C : Addr) (d : Option Addr), xs = [.ref a, .ref C] ∧ H a = some (ErO a (.ref C) d) ∧ Q (.bl true) H) ∨ ∃ C, xs = [.non, .ref C] ∧ ErrC K C ∧ Q (.bl false) H
theorem call_isErN {X : Cx} : CallR X (.builtin "isinstance") (rIsErN X.K) := by
  intro pins s σ H xs us Q I r h
  rcases h with h | ⟨C, rfl, EC, q⟩
  · exact call_isEr pins s σ H xs us Q I r h
  · exact call_isi pins s σ H _ us Q I r ⟨.non, .ref C, .type "NoneType", .ref C, false, rfl, .own C, .base .non, kit_none EC, q⟩
/-! ### Kp of frames -/
def NTF (u : HO) : Prop := (∀ xs, u ≠ .tup xs) ∧ ∀ q z, u ≠ .frz q z
theorem ntf_ins {C dx : Addr} {fs : List (Str × V)} : NTF (.ins C dx fs) := ⟨fun _ z => (by cases z), fun _ _ z => (by cases z)⟩
theorem So.kp {S : List Addr} {H H' : Hp} (o : So S H H') (h : ∀ b ∈ S, ∀ u, H b = some u → NTF u) : Kp H H' :=
  ⟨fun b xs e => o b _ e fun z => (h b z _ e).1 xs rfl, fun b q u e => o b _ e fun z => (h b z _ e).2 q u rfl⟩
theorem Fr.kp {K : PySem.W.Frag} {S : List Addr} {H H' : Hp} (o : Fr K S H H') (h : ∀ b ∈ S, ∀ u, H b = some u → NTF u) : Kp H H' :=
  ⟨fun b xs e => o.e b _ e (fun z => (h b z _ e).1 xs rfl) fun _ z => (by cases z), fun b q u e => o.e b _ e (fun z => (h b z _ e).2 q u rfl) fun _ z => (by cases z)⟩
/-! ### _law_look -/
def lookSt : Stmt := (defBody s_law_block).getD 3 (.Pass ⟨0, 0, 0, 0⟩)
abbrev blkEnv (K : PySem.W.Frag) (n : Nat) : Env := envOfC "_law_block" (defScope s_law_block) n (He.ga K "_law_block") (.ref (He.cT K ("_law_block", none)).1)
abbrev lookF (K : PySem.W.Frag) (n : Nat) (c' : Addr) : NdefX.NF := NF.of lookSt "_law_look" ((blkEnv K n).qual ++ "_law_look") (cloFrom (blkEnv K n).cells (C8.fnScope lookSt).names []) c'
abbrev lookFr : List Str := ["_law_box", "_law_pot_here", "_law_day_here", "_law_plan", "_law_is_gone", "_law_value"]
abbrev lookN : List Str := ["_law_mine", "_law_box", "_law_pot_here", "_law_day_here", "_law_plan", "_law_is_gone", "_law_value"]
theorem scLook : NdefX.NScope lookN ["_law_mine"] lookFr (C8.fnScope lookSt) := nscope_by (by decide +kernel)
/-- what look does: the inside of a block, then, where it is to be left so, an error -/
def sp_look (d : Nat) (K : PySem.W.Frag) (ws : List (Option V)) : Sp := fun vs H Q E => ∃ (m box p b bdx qa : Addr) (u pp ll b0 val : V) (n : Nat) (M : MemS) (D : DayS) (called gone : Bool) (o : Obj), vs = [.ref m] ∧ ws = [some (.ref box), some (.ref p), some u, some (.ref qa), some (.bl gone), some val] ∧
  H box = some (.lst []) ∧ box ≠ p ∧ box ≠ m ∧ box ≠ b ∧ PotAt H p n ∧ n + 148 * d + 125 ≤ 100000 ∧ MemAt K H m M ∧ DayAt H u D ∧ Syn M D ∧
  M.blk = .ref b ∧ H b = some (.ins (Blk K) bdx (BlkF pp ll b0 .non)) ∧ H qa = some (.frz o (.dK (planK called d))) ∧ Tb K H ∧ M.past.length + M.later.length + 2 * (d + 1) ≤ 4990 ∧
  ∀ H' r v M' D', Fr K [p, m, b, box] H H' → PotAt H' p (n + 148 * d + 125) → MemAt K H' m M' → DayAt H' v D' → Syn M' D' → M'.blk = M.blk → M'.first = M.first → M'.past.length + M'.later.length ≤ M.past.length + M.later.length + 2 * (d + 1) →
    H' b = some (.ins (Blk K) bdx (BlkF pp ll b0 (if called then .str "kept" else .non))) → H' box = some (.lst [.ref r]) → H' r = some (.tup [.bl true, v]) →
    (gone = false → Q val H') ∧ (gone = true → ∀ dd H'', So [] H' H'' → E (.ref (He.ga K "SameDeal")) (some dd) H'')
section
variable {P : Program} {w : World} {K : PySem.W.Frag} {mg : Str → Option Value} {base : Heap}
theorem live_look (T : Th P K mg base) (d : Nat) (Inn : GF P w K mg base (12 + 12 * d + 1) (He.ga K "_law_inner") ["_law_pot_here", "_law_memory", "_law_day_here", "_law_plan"] (sp_law_inner d K)) (g c' : Addr) (n : Nat) (ws : List (Option V)) :
    LiveF P w K mg base (12 + 12 * d + 2) g 1 (fun h H => GDef g (lookF K n c') lookFr ws h H ∧ True) (sp_look d K ws) := by
  refine def_live (N := lookN) (ps := ["_law_mine"]) scLook (fun _ _ _ us hl => match us, hl with | [_], _ => rfl) (fun vs H Q E h => by obtain ⟨m, box, p, b, bdx, qa, u, pp, ll, b0, val, n, M, D, called, gone, o, rfl, _⟩ := h; rfl) fun A outer s H vs Q E hg hr _ hsp => ?_
  obtain ⟨m, box, p, b, bdx, qa, u, pp, ll, b0, val, n, M, D, called, gone, o, rfl, rfl, hbox, xp, xm, xb, hp, hn, hM, hD, sy, hbk, hb, hq, tb, hlen, q⟩ := hsp
  have hr12 : Room 12 _ := hr.mono (show 12 ≤ 12 + 12 * d + 1 by omega)
  refine ⟨_, pss_cons (ps_expr (pe_bm PySem.F.plainAttrs_list PySem.F.slot_list_append PySem.F.type_list_append mt_append (pv 1) (pa_cons (pe_fn T.g_law_inner Inn hg hr passL (pa_cons (pv 2) (pa_cons (pv 0) (pa_cons (pv 3) (pa_cons (pv 4) pa_nil)))) (Nat.le_refl _)) pa_nil)))
    (pss_cons (ps_if (pt_val (pv 5)) (pss_one (ps_expr (pe_mt T.cl_Memory T.m_Memory_deal_anew (ok_Memory_deal_anew T) hg hr12 passN (pv 0) (pa_cons (pe_prp T.cl_Memory T.p_deal (ok_Memory_deal T) hg hr12 (pv 0) (by rfl)) pa_nil)))) pss_nil)
    (pss_one (ps_ret (pv 6)))), ?_⟩
  refine ⟨_, rfl, .inl ⟨rfl, _, SqL.of hbox⟩, _, rfl, _, rfl, _, rfl, _, rfl, p, m, b, bdx, qa, u, pp, ll, b0, n, M, D, called, o, rfl, hp, hn, hM, hD, sy, hbk, hb, hq, tb, hlen, fun H1 r v M1 D1 fr1 hp1 hM1 hD1 sy1 b1 f1 n1 hb1 er1 kk1 => ?_⟩
  have hbox1 : H1 box = some (.lst []) := fr1.e _ _ hbox (by simp [xp, xm, xb]) fun _ z => by cases z
  have rx : r ≠ box := fun z => by rw [z, hbox1] at er1; cases er1
  refine ⟨box, [], _, rfl, rfl, hbox1, by show 0 < sizeLine; decide, ?_⟩
  have kk2 : Kp H1 (upd H1 box (.lst ([] ++ [.ref r]))) := Kp.upd fun w e => by rw [hbox1] at e; cases e; exact nf_lst
  have o2 : So [box] H1 (upd H1 box (.lst ([] ++ [.ref r]))) := .upd (by simp)
  have e2 : upd H1 box (.lst ([] ++ [.ref r])) box = some (.lst [.ref r]) := upd_same
  generalize upd H1 box (.lst ([] ++ [.ref r])) = H2 at kk2 o2 e2
  have fr2 : Fr K [box] H1 H2 := Fr.so o2 (by
    intro b' hb' o' e'
    rw [List.mem_singleton.mp hb', hbox1] at e'
    cases e'
    exact pl_lst)
  have hM2 := hM1.k kk2 fun C dx fs e => o2 _ _ e (by simpa using Ne.symm xm)
  obtain ⟨qn, qy⟩ := q H2 r v M1 D1 ((fr1.mono (by simp)).trans (fr2.mono (by simp))) (hp1.of fun _ z => o2 _ _ z (by simpa using Ne.symm xp)) hM2 (hD1.k kk2) sy1 b1 f1 n1 (o2 _ _ hb1 (by simpa using Ne.symm xb)) e2 (o2 _ _ er1 (by simpa using rx))
  refine ⟨_, rfl, gone, rfl, ?_⟩
  cases gone with
  | false => exact iteF ⟨_, rfl, qn rfl⟩
  | true =>
    obtain ⟨dx, f, pq, lq, hm⟩ := id hM2
    refine iteT ⟨.ref m, rfl, m, dx, _, rfl, hm.i, rfl, .ref m, rfl, m, dx, _, rfl, hm.i, m, M1, rfl, hM2, fun x hx _ => ?_⟩
    have okd : DealOk (dealOf M1.first M1.past) := by
      rw [← sy1.deal]
      exact dealD_ok sy1.dayOk.1 sy1.dayOk.2.1
    refine ⟨m, M1, x, _, rfl, hM2, sy1.ok, hx, okd, fun ne => absurd rfl ne, fun _ dd H3 o3 _ => qy rfl dd H3 o3⟩
end
end Bp

namespace Bp
open PySem PySem.Spec PyProof.Rows L2 LamX NdefX
/-! ### a block: tried within heard -/
abbrev lookJs : List Nat := [8, 0, 2, 4, 5, 7]
def preL (K : PySem.W.Frag) (n : Nat) (σ : L2.St) (H : Hp) : Prop := ∃ g c', slotAt σ 9 = some (.ref g) ∧ H g = some (FnO g (lookF K n c')) ∧ H c' = some (CodeO c' (lookF K n c').qual)
def gpL (K : PySem.W.Frag) (n : Nat) (σ : L2.St) : GP := fun h H => ∃ g c', slotAt σ 9 = some (.ref g) ∧ GDef g (lookF K n c') lookFr (lookJs.map (slotAt σ)) h H
theorem gst_gpL (K : PySem.W.Frag) (n : Nat) (σ : L2.St) : GSt (gpL K n σ) := fun fs H H' h h' u p ⟨g, c', e, G⟩ => ⟨g, c', e, gst_def fs H H' h h' u p G⟩
def spL (d : Nat) (K : PySem.W.Frag) (kw : Bool) (σ : L2.St) : Sp := fun vs H Q E => ∃ (m g : Addr) (kV : V), vs = [] ∧ slotAt σ 1 = some (.ref m) ∧ slotAt σ 9 = some (.ref g) ∧ (kw = true → slotAt σ 6 = some kV) ∧ (kw = false → kV = .bl false) ∧
  TriedSp K (sp_look d K (lookJs.map (slotAt σ))) m kV H (fun v H4 => Kp H H4 → Q v H4) E
theorem hBl : ndefB (defScope s_law_block) (C8.fnScope lookSt) lookFr = true := by decide +kernel
/-- the memory behind a block -/
def aftM (gone : Bool) (kV : V) (called : Bool) (M M' : MemS) : MemS := if gone = false ∧ (kV = .bl true ∨ called = true) then { M' with blk := M.blk } else M
def aftD (gone : Bool) (kV : V) (called : Bool) (D D' : DayS) : DayS := if gone = false ∧ (kV = .bl true ∨ called = true) then D' else D
def aftU (gone : Bool) (kV : V) (called : Bool) (u v : V) : V := if gone = false ∧ (kV = .bl true ∨ called = true) then v else u
structure BkS (K : PySem.W.Frag) (p m qa bx : Addr) (u val : V) (dv : PyData) (o : Obj) (called : Bool) (d : Nat) (H : Hp) (M : MemS) (D : DayS) (nn : Nat) (H1 : Hp) : Prop where
  fr : Fr K [p] H H1
  nx : H bx = none
  hp : PotAt H1 p nn
  hM : MemAt K H1 m M
  hD : DayAt H1 u D
  hq : H1 qa = some (.frz o (.dK (planK called d)))
  hx : H1 bx = some (.lst [])
  hv : OddV H1 val dv
  tb : Tb K H1
structure AftS (K : PySem.W.Frag) (p m qa bx : Addr) (u val : V) (dv : PyData) (o : Obj) (called gone : Bool) (kV : V) (d : Nat) (H : Hp) (M : MemS) (D : DayS) (nn : Nat) (ca ba : V) (r : Addr) (v : V) (M' : MemS) (D' : DayS) (H' : Hp) : Prop where
  fr : Fr K [p, m] H H'
  hp : PotAt H' p (nn + 148 * d + 125)
  hM : MemAt K H' m (aftM gone kV called M M')
  hD : DayAt H' u D
  hq : H' qa = some (.frz o (.dK (planK called d)))
  hx : H' bx = some (.lst [.ref r])
  er : H' r = some (.tup [.bl true, v])
  hv : OddV H' val dv
  tb : Tb K H'
  hD' : DayAt H' v D'
  sy : Syn M' D'
  fst : M'.first = M.first
  len : M'.past.length + M'.later.length ≤ M.past.length + M.later.length + 2 * (d + 1)
  no : gone = false → ca = .non ∧ ba = val
  yes : gone = true → ∃ a dd, ca = .ref a ∧ ba = .non ∧ H' a = some (ErO a (.ref (He.ga K "SameDeal")) (some dd))
section
variable {P : Program} {w : World} {K : PySem.W.Frag} {mg : Str → Option Value} {base : Heap}
theorem BkS.same {p m qa bx : Addr} {u val : V} {dv : PyData} {o : Obj} {called : Bool} {d nn : Nat} {H H1 H2 : Hp} {M : MemS} {D : DayS} (B : BkS K p m qa bx u val dv o called d H M D nn H1) (s : Same H1 H2) : BkS K p m qa bx u val dv o called d H M D nn H2 :=
  ⟨B.fr.trans (Fr.same s), B.nx, B.hp.s s, B.hM.same s, B.hD.k (Kp.of s), s _ _ B.hq, s _ _ B.hx, B.hv.k (Kp.of s), B.tb.ext s⟩
theorem BkS.ext {p m qa bx : Addr} {u val : V} {dv : PyData} {o : Obj} {called : Bool} {d nn : Nat} {H H1 H2 : Hp} {M : MemS} {D : DayS} (B : BkS K p m qa bx u val dv o called d H M D nn H1) (s : ExtN H1 H2) (t : Tb K H2) : BkS K p m qa bx u val dv o called d H M D nn H2 :=
  ⟨B.fr.trans (Fr.made s t), B.nx, B.hp.of fun xs e => s _ _ e fun _ z => (by cases z), B.hM.k (ext_kp s) fun C dx fs e => s _ _ e fun _ z => (by cases z), B.hD.k (ext_kp s), s _ _ B.hq fun _ z => (by cases z), s _ _ B.hx fun _ z => (by cases z), B.hv.k (ext_kp s), t⟩
theorem BkS.pot {p m qa bx : Addr} {u val : V} {dv : PyData} {o : Obj} {called : Bool} {d nn n2 : Nat} {H H1 H2 : Hp} {M : MemS} {D : DayS} (B : BkS K p m qa bx u val dv o called d H M D nn H1) (s : So [p] H1 H2) (kk : Kp H1 H2) (hp : PotAt H2 p n2) (pm : p ≠ m) (xp : bx ≠ p) : BkS K p m qa bx u val dv o called d H M D n2 H2 := by
  have fr : Fr K [p] H1 H2 := Fr.so s (by intro b hb o e; rw [List.mem_singleton.mp hb] at e; exact B.hp.pl o e)
  exact ⟨B.fr.trans fr, B.nx, hp, B.hM.k kk fun C dx fs e => s _ _ e (by simpa using Ne.symm pm), B.hD.k kk, kk.frz _ _ _ B.hq, s _ _ B.hx (by simpa using xp), B.hv.k kk, fr.t B.tb⟩
theorem heard_blk (T : Th P K mg base) {p m qa bx g : Addr} {u val kV : V} {dv : PyData} {o : Obj} {called gone kw : Bool} {d nn : Nat} {H H1 : Hp} {M : MemS} {D : DayS} {σ : L2.St} {Q : VK} {E : XK} (B : BkS K p m qa bx u val dv o called d H M D nn H1) (sy : Syn M D) (hn : nn + 148 * d + 125 ≤ 100000) (hlen : M.past.length + M.later.length + 2 * (d + 1) ≤ 4990)
    (sc : Scal kV) (h1 : slotAt σ 1 = some (.ref m)) (h9 : slotAt σ 9 = some (.ref g)) (h6 : kw = true → slotAt σ 6 = some kV) (h6' : kw = false → kV = .bl false) (hws : lookJs.map (slotAt σ) = [some (.ref bx), some (.ref p), some u, some (.ref qa), some (.bl gone), some val])
    (k : ∀ H' r0 ca ba r v M' D', AftS K p m qa bx u val dv o called gone kV d H M D nn ca ba r v M' D' H' → H' r0 = some (.tup [ca, ba]) → Q (.ref r0) H') : HeardSp K (spL d K kw σ) H1 (fun v H2 => Kp H1 H2 → Q v H2) E := by
  intro H0 s0
  have B0 := B.same s0
  obtain ⟨dx, f, pq, lq, hm⟩ := id B0.hM
  obtain ⟨x0, y0, z0, hpl, _⟩ := id B0.hp
  have hmi := hm.i
  have pm : p ≠ m := fun z => by rw [z, hmi] at hpl; cases hpl
  have xm : bx ≠ m := fun z => by
    have h := B0.hx
    rw [z, hmi] at h
    cases h
  have xp : bx ≠ p := fun z => by
    have h := B.nx
    have e := B.hp
    have h2 := B0.hx
    rw [z, hpl] at h2
    simp at h2
  refine ⟨m, g, kV, rfl, h1, h9, h6, h6', sc, dx, f, pq, lq, M.blk, hmi, fun H2 t tdx b bdx o2 nt nb tb ht2 hb2 hm2 Q' E' qo qe => ?_⟩
  have kk2 : Kp H0 H2 := o2.kp fun b hb w e => by
    rw [List.mem_singleton.mp hb, hmi] at e
    cases e
    exact ntf_ins
  have fr2 : Fr K [m] H0 H2 := Fr.so o2 (by
    intro b hb w e
    rw [List.mem_singleton.mp hb, hmi] at e
    cases e
    exact pl_ins)
  have tm : t ≠ m := fun z => by rw [z, hmi] at nt; cases nt
  have tp : t ≠ p := fun z => by rw [z, hpl] at nt; cases nt
  have tx : t ≠ bx := fun z => by rw [z, B0.hx] at nt; cases nt
  have bm : b ≠ m := fun z => by rw [z, hmi] at nb; cases nb
  have bp : b ≠ p := fun z => by rw [z, hpl] at nb; cases nb
  have bX : b ≠ bx := fun z => by rw [z, B0.hx] at nb; cases nb
  have hp2 : H2 p = some (.lst [.int x0, .int y0, .int z0]) := o2 _ _ hpl (by simpa using pm)
  have hx2 : H2 bx = some (.lst []) := o2 _ _ B0.hx (by simpa using xm)
  refine ⟨m, bx, p, b, bdx, qa, u, pq, lq, M.blk, val, nn, { M with blk := .ref b }, D, called, gone, o, rfl, hws, hx2, xp, xm, Ne.symm bX, B0.hp.of fun _ z => o2 _ _ z (by simpa using pm), hn, ⟨dx, f, pq, lq, hm2, hm.f.k kk2, hm.p.k kk2, hm.l.k kk2⟩, B0.hD.k kk2,
    ⟨sy.f, sy.p, sy.l, sy.w, ⟨sy.ok.f, sy.ok.p, sy.ok.l, sy.ok.n⟩⟩, rfl, hb2, kk2.frz _ _ _ B0.hq, fr2.t B0.tb, hlen, fun H3 r v M3 D3 fr3 hp3 hM3 hD3 sy3 b3 f3 n3 hb3 hx3 er3 => ?_⟩
  have kk3 : Kp H2 H3 := fr3.kp fun c hc w e => by
    simp only [List.mem_cons, List.not_mem_nil, or_false] at hc
    rcases hc with rfl | rfl | rfl | rfl
    · rw [hp2] at e; cases e; exact ⟨fun _ z => (by cases z), fun _ _ z => (by cases z)⟩
    · rw [hm2] at e; cases e; exact ntf_ins
    · rw [hb2] at e; cases e; exact ntf_ins
    · rw [hx2] at e; cases e; exact ⟨fun _ z => (by cases z), fun _ _ z => (by cases z)⟩
  obtain ⟨dx3, f3', p3, l3, hm3⟩ := id hM3
  have hm3i : H3 m = some (.ins (Memo K) dx3 (MemF f3' p3 l3 (.ref b))) := by
    have h := hm3.i
    rw [b3] at h
    exact h
  have ht3 : H3 t = some (.ins (Tri K) tdx [("own_memory", .ref m)]) := fr3.e _ _ ht2 (by simp [tp, tm, tb, tx]) fun _ z => by cases z
  have fin : ∀ (H5 : Hp) (r0 : Addr) (ca ba : V), Fr K [p, m, b, bx] H3 H5 → Kp H3 H5 → H5 bx = some (.lst [.ref r]) → (∀ xs, H3 p = some (.lst xs) → H5 p = some (.lst xs)) → MemAt K H5 m (aftM gone kV called M M3) → H5 r0 = some (.tup [ca, ba]) →
      (gone = false → ca = .non ∧ ba = val) → (gone = true → ∃ a dd, ca = .ref a ∧ ba = .non ∧ H5 a = some (ErO a (.ref (He.ga K "SameDeal")) (some dd))) → Q (.ref r0) H5 := by
    intro H5 r0 ca ba fr5 kk5 hx5 hp5 hM5 e5 no yes
    have kk15 := ((Kp.of s0).trans kk2).trans (kk3.trans kk5)
    have kk35 := kk5
    have frA : Fr K [p, m, b, bx] H0 H5 := (fr2.mono (by simp)).trans (fr3.trans fr5)
    have frB : Fr K [p, m, bx] H0 H5 := frA.drop (by
      intro c hc
      simp only [List.mem_cons, List.not_mem_nil, or_false] at hc
      rcases hc with rfl | rfl | rfl | rfl
      · exact .inl (by simp)
      · exact .inl (by simp)
      · exact .inr nb
      · exact .inl (by simp))
    have frC : Fr K [p, m] H H5 := ((B0.fr.mono (by simp)).trans frB).drop (by
      intro c hc
      simp only [List.mem_cons, List.not_mem_nil, or_false] at hc
      rcases hc with rfl | rfl | rfl
      · exact .inl (by simp)
      · exact .inl (by simp)
      · exact .inr B.nx)
    exact k H5 r0 ca ba r v M3 D3 ⟨frC, hp3.of hp5, hM5, B.hD.k kk15, kk15.frz _ _ _ B.hq, hx5, kk35.tup _ _ er3, B.hv.k kk15, frB.t B0.tb, hD3.k kk35, sy3, f3, n3, no, yes⟩ e5
  have memK : ∀ (H5 : Hp), Kp H3 H5 → H5 m = some (.ins (Memo K) dx3 (MemF f3' p3 l3 M.blk)) → MemAt K H5 m { M3 with blk := M.blk } := fun H5 kk e => ⟨dx3, f3', p3, l3, e, hm3.f.k kk, hm3.p.k kk, hm3.l.k kk⟩
  have memN : ∀ (H5 : Hp), Kp H3 H5 → H5 m = some (.ins (Memo K) dx3 (MemF f3' pq lq M.blk)) → MemAt K H5 m M := fun H5 kk e => by
    have hf := hm3.f.k kk
    have f3 : M3.first = M.first := f3
    rw [f3] at hf
    exact ⟨dx3, f3', pq, lq, e, hf, hm.p.k ((kk2.trans kk3).trans kk), hm.l.k ((kk2.trans kk3).trans kk)⟩
  refine ⟨fun hg => qo val H3 fun _ => ?_, fun hg dd H4 o4 => qe (.ref (He.ga K "SameDeal")) (some dd) H4 ?_⟩
  · refine ⟨dx3, f3', p3, l3, _, ht3, hm3i, hb3, fun H4 o4 hm4 _ _ r0 nr0 _ => ?_⟩
    have kk4 : Kp H3 H4 := o4.kp fun c hc w e => by
      simp only [List.mem_cons, List.not_mem_nil, or_false] at hc
      rcases hc with rfl | rfl
      · rw [hm3i] at e; cases e; exact ntf_ins
      · rw [hb3] at e; cases e; exact ntf_ins
    have fr4 : Fr K [p, m, b, bx] H3 H4 := (Fr.so o4 (by
      intro c hc w e
      simp only [List.mem_cons, List.not_mem_nil, or_false] at hc
      rcases hc with rfl | rfl
      · rw [hm3i] at e; cases e; exact pl_ins
      · rw [hb3] at e; cases e; exact pl_ins)).mono (by simp)
    have s5 : Same H4 (upd H4 r0 (.tup [.non, val])) := sameN nr0
    have e5 : upd H4 r0 (.tup [.non, val]) r0 = some (.tup [.non, val]) := upd_same
    generalize upd H4 r0 (.tup [.non, val]) = H5 at s5 e5
    have kk5 := kk4.trans (Kp.of s5)
    refine fin H5 r0 .non val (fr4.trans (Fr.same s5)) kk5 (s5 _ _ (o4 _ _ hx3 (by simp [xm, Ne.symm bX]))) (fun xs e => s5 _ _ (o4 _ _ e (by simp [pm, Ne.symm bp]))) ?_ e5 (fun _ => ⟨rfl, rfl⟩) fun z => by rw [hg] at z; cases z
    have hm5 := s5 _ _ hm4
    unfold aftM
    by_cases hk : kV = .bl true ∨ called = true
    · rw [if_pos ⟨hg, hk⟩]
      refine memK H5 kk5 ?_
      rw [hm5, if_pos]
      rcases hk with hk | hk
      · exact .inl hk
      · exact .inr (by rw [hk]; simp)
    · rw [if_neg fun z => hk z.2]
      refine memN H5 kk5 ?_
      rw [hm5, if_neg]
      rintro (z | z)
      · exact hk (.inl z)
      · cases called with
        | true => exact hk (.inr rfl)
        | false => exact z rfl
  · have kk4 : Kp H3 H4 := o4.kp fun c hc w e => by cases hc
    have fr4 : Fr K [p, m, b, bx] H3 H4 := (Fr.so o4 (by intro c hc w e; cases hc)).mono (by simp)
    refine ⟨⟨_, rfl⟩, dx3, f3', p3, l3, _, o4 _ _ ht3 (by simp), o4 _ _ hm3i (by simp), o4 _ _ hb3 (by simp), fun H5 o5 hm5 => ⟨true, T.e_SameDeal.xm, fun _ a r0 na nr0 _ => ?_, fun z => by cases z⟩⟩
    have hm4i : H4 m = some (.ins (Memo K) dx3 (MemF f3' p3 l3 (.ref b))) := o4 _ _ hm3i (by simp)
    have kk5 : Kp H4 H5 := o5.kp fun c hc w e => by
      rw [List.mem_singleton.mp hc, hm4i] at e
      cases e
      exact ntf_ins
    have fr5 : Fr K [p, m, b, bx] H4 H5 := (Fr.so o5 (by
      intro c hc w e
      rw [List.mem_singleton.mp hc, hm4i] at e
      cases e
      exact pl_ins)).mono (by simp)
    have s6 : Same H5 (upd (upd H5 a (ErO a (.ref (He.ga K "SameDeal")) (some dd))) r0 (.tup [.ref a, .non])) := (sameN na).trans (sameN nr0)
    have e6 : upd (upd H5 a (ErO a (.ref (He.ga K "SameDeal")) (some dd))) r0 (.tup [.ref a, .non]) r0 = some (.tup [.ref a, .non]) := upd_same
    have e7 : upd (upd H5 a (ErO a (.ref (He.ga K "SameDeal")) (some dd))) r0 (.tup [.ref a, .non]) a = some (ErO a (.ref (He.ga K "SameDeal")) (some dd)) := by
      rw [upd_ne (fun z => by rw [← z, upd_same] at nr0; cases nr0)]
      exact upd_same
    generalize upd (upd H5 a (ErO a (.ref (He.ga K "SameDeal")) (some dd))) r0 (.tup [.ref a, .non]) = H6 at s6 e6 e7
    refine fin H6 r0 (.ref a) .non ((fr4.trans fr5).trans (Fr.same s6)) ((kk4.trans kk5).trans (Kp.of s6)) (s6 _ _ (o5 _ _ (o4 _ _ hx3 (by simp)) (by simpa using xm))) (fun xs e => s6 _ _ (o5 _ _ (o4 _ _ e (by simp)) (by simpa using pm))) ?_ e6 (fun z => by rw [hg] at z; cases z) fun _ => ⟨a, dd, rfl, rfl, e7⟩
    unfold aftM
    rw [if_neg fun z => by rw [hg] at z; cases z.1]
    exact memN H6 ((kk4.trans kk5).trans (Kp.of s6)) (s6 _ _ hm5)
end
end Bp

namespace Bp
open PySem PySem.Spec PyProof.Rows L2 LamX NdefX
theorem hmB {K : PySem.W.Frag} : (tbA K "_law_block", fun l _ => nmBlk l blkLine) ∈ tabs K := List.mem_cons_of_mem _ (List.mem_cons_of_mem _ (List.mem_cons_of_mem _ List.mem_cons_self))
theorem aft_day {H : Hp} {gone called : Bool} {kV u v : V} {D D' : DayS} (h : DayAt H u D) (h' : DayAt H v D') : DayAt H (aftU gone kV called u v) (aftD gone kV called D D') := by
  unfold aftU aftD
  by_cases c : gone = false ∧ (kV = .bl true ∨ called = true)
  · rw [if_pos c, if_pos c]; exact h'
  · rw [if_neg c, if_neg c]; exact h
theorem aft_syn {gone called : Bool} {kV : V} {M M' : MemS} {D D' : DayS} (h : Syn M D) (h' : Syn M' D') : Syn (aftM gone kV called M M') (aftD gone kV called D D') := by
  unfold aftM aftD
  by_cases c : gone = false ∧ (kV = .bl true ∨ called = true)
  · rw [if_pos c, if_pos c]; exact ⟨h'.f, h'.p, h'.l, h'.w, ⟨h'.ok.f, h'.ok.p, h'.ok.l, h'.ok.n⟩⟩
  · rw [if_neg c, if_neg c]; exact h
theorem aft_blk {gone called : Bool} {kV : V} {M M' : MemS} : (aftM gone kV called M M').blk = M.blk := by
  unfold aftM
  split <;> rfl
theorem aft_first {gone called : Bool} {kV : V} {M M' : MemS} (h : M'.first = M.first) : (aftM gone kV called M M').first = M.first := by
  unfold aftM
  split
  · exact h
  · rfl
theorem aft_len {gone called : Bool} {kV : V} {M M' : MemS} {j : Nat} (h : M'.past.length + M'.later.length ≤ M.past.length + M.later.length + j) : (aftM gone kV called M M').past.length + (aftM gone kV called M M').later.length ≤ M.past.length + M.later.length + j := by
  unfold aftM
  split
  · exact h
  · omega
section
variable {P : Program} {w : World} {K : PySem.W.Frag} {mg : Str → Option Value} {base : Heap}
/-! ### _law_block: slots pot 0, memory 1, day 2, deep 3, plan 4, is_gone 5, keeping 6, value 7, box 8, look 9, caught 10, back 11, after 12 -/
theorem ok_law_block (T : Th P K mg base) (d : Nat) (Inn : GF P w K mg base (12 + 12 * d + 1) (He.ga K "_law_inner") ["_law_pot_here", "_law_memory", "_law_day_here", "_law_plan"] (sp_law_inner d K)) : GF P w K mg base (12 + 12 * d + 11 + 1) (He.ga K "_law_block") ["_law_pot_here", "_law_memory", "_law_day_here", "_law_deep"] (sp_law_block d K) := by
  refine gf_ofC T.d_law_block sc_law_block (fun vs H Q E h => by obtain ⟨p, m, u, n, M, D, rfl, hp, hn, hM, hD, sy, tb, hlen, q⟩ := h; rfl) (fun _ _ _ _ _ _ us hl => match us, hl with | [_, _, _, _], _ => rfl) fun A outer s H vs Q E hg hr hsp => ?_
  obtain ⟨p, m, u, n, M, D, rfl, hp, hn, hM, hD, sy, tb, hlen, q⟩ := hsp
  have hr12 : Room 12 _ := hr.mono (show 12 ≤ 12 + 12 * d + 11 by omega)
  refine ⟨_, (pss_cons (ps_set (i := 4) sc_law_block.nd rfl (Or.inr rfl) (pe_frz (pe_disp (pps_cons pe_str (pe_cmpR op_eq (pe_fn T.g_law_take (ok_law_take T) hg hr12 passL (pa_cons (pv 0) (pa_cons pe_int pa_nil))) pe_int (nomark _)) (pps_cons pe_str (pv 3) pps_nil)) (by rfl) (by rfl) (fun z => by cases z) (by decide))))
    (pss_cons (ps_asg (pe_tup (pa_cons (pe_cmpR op_eq (pe_fn T.g_law_take (ok_law_take T) hg hr12 passL (pa_cons (pv 0) (pa_cons pe_int pa_nil))) pe_int (nomark _)) (pa_cons (pe_fn T.g_law_of (ok_law_of T) hg hr12 passL (pa_cons (pv 0) (pa_cons (pe_lst (pa_cons pe_bl (pa_cons pe_bl (pa_cons pe_bl (pa_cons pe_int (pa_cons pe_non (pa_cons pe_str pa_nil))))))) pa_nil))) (pa_cons (pe_fn T.g_law_odd (ok_law_odd T) hg hr12 passL (pa_cons (pv 0) pa_nil)) pa_nil)))) (pg_tup rfl (pgs_cons (pg_name (i := 5) sc_law_block.nd rfl (Or.inr rfl)) (pgs_cons (pg_name (i := 6) sc_law_block.nd rfl (Or.inr rfl)) (pgs_cons (pg_name (i := 7) sc_law_block.nd rfl (Or.inr rfl)) pgs_nil)))))
    (pss_cons (ps_set (i := 8) sc_law_block.nd rfl (Or.inr rfl) (pe_lst pa_nil))
    (pss_cons (ps_ndefMS (st := lookSt) (T := tabs K) (i := 9) (by rfl) (T.tab (by simp [tfs])) rfl hmB (by rfl) (T.tu hmB) (ndef_free hBl) rfl rfl rfl sc_law_block.nd rfl (Or.inr rfl) (.inl rfl))
    (pss_cons (ps_if (pt_cmpR op_eq (pe_fn T.g_law_take (ok_law_take T) hg hr12 passL (pa_cons (pv 0) (pa_cons pe_int pa_nil))) pe_int (nomark _)) (pss_one (ps_asg (pe_heardL (k := 12 + 12 * d + 11) (j := 12 + 12 * d + 9) (x := "_law_block") (fr := ["_law_memory", "_law_look", "_law_keeping"]) (js := [1, 9, 6]) (E := E0) (pre := preL K s.heap.objs.size) (G2 := gpL K s.heap.objs.size) (sp := spL d K true) T ⟨rfl, rfl, rfl, rfl, rfl⟩ (by simp [tfs]) rfl hmB (by rfl) (by rfl) (by rfl) (by rfl) ?_ (gst_gpL K s.heap.objs.size) (fun pins σ H' s' I ⟨g, c', e, h1, h2⟩ => ⟨g, c', e, h1, h2, cells_of I (Caps.made I.ok (ndef_free hBl) (ndef_fr hBl) rfl)⟩) hg (hr) passL (by omega)) (pg_tup rfl (pgs_cons (pg_name (i := 10) sc_law_block.nd rfl (Or.inl rfl)) (pgs_cons (pg_name (i := 11) sc_law_block.nd rfl (Or.inl rfl)) pgs_nil))))) (pss_cons (ps_set (i := 6) sc_law_block.nd rfl (Or.inr rfl) pe_bl)
      (pss_one (ps_asg (pe_heardL (k := 12 + 12 * d + 11) (j := 12 + 12 * d + 9) (x := "_law_block") (fr := ["_law_memory", "_law_look"]) (js := [1, 9]) (E := E0) (pre := preL K s.heap.objs.size) (G2 := gpL K s.heap.objs.size) (sp := spL d K false) T ⟨rfl, rfl, rfl, rfl, rfl⟩ (by simp [tfs]) rfl hmB (by rfl) (by rfl) (by rfl) (by rfl) ?_ (gst_gpL K s.heap.objs.size) (fun pins σ H' s' I ⟨g, c', e, h1, h2⟩ => ⟨g, c', e, h1, h2, cells_of I (Caps.made I.ok (ndef_free hBl) (ndef_fr hBl) rfl)⟩) hg (hr) passL (by omega)) (pg_tup rfl (pgs_cons (pg_name (i := 10) sc_law_block.nd rfl (Or.inl rfl)) (pgs_cons (pg_name (i := 11) sc_law_block.nd rfl (Or.inl rfl)) pgs_nil)))))))
    (pss_cons (ps_if (PW.pt (pw_or (pt_cmpR op_ne (pv 5) (pe_callB call_isErN (by rfl) T.f_isinstance (by decide +kernel) (pa_cons (pv 10) (pa_cons (pe_glob (v := .ref _) (by rfl) T.g_SameDeal rfl) pa_nil))) (nomark _)) (pw_or1 (pt_cmpR op_ne (pe_callB (call_reprX hg hr.units) (by rfl) T.f_repr (by decide +kernel) (pa_cons (pv 11) pa_nil)) (pe_callB (call_reprX hg hr.units) (by rfl) T.f_repr (by decide +kernel) (pa_cons (pe_ifExp (pt_val (pv 5)) pe_non (pv 7)) pa_nil)) (nomark _))))) (pss_one (ps_ret (pe_tup (pa_cons pe_bl (pa_cons (pv 2) pa_nil))))) pss_nil)
    (pss_cons (ps_set (i := 12) sc_law_block.nd rfl (Or.inl rfl) (pe_ifExp (PW.pt (pw_and (PW.pt (pw_or (pt_cmpR op_isT (pv 6) pe_bl (nomark _)) (pw_or1 (pt_val (pe_dget (hu_of hr) (pv 4) pe_str (fun _ _ => rfl)))))) (pw_and1 (pt_not (pt_val (pv 5)))))) (pe_ix ix_tup (pe_ix ix_list (pv 8) pe_int (fun _ _ => rfl)) pe_int (fun _ _ => rfl)) (pv 2)))
    (pss_one (ps_ret (pe_tup (pa_cons (pe_and (pe_ix ix_tup (pe_ix ix_list (pv 8) pe_int (fun _ _ => rfl)) pe_int (fun _ _ => rfl)) (pe_one (pe_fn T.g_law_is_memory (ok_law_is_memory T) hg hr12 passL (pa_cons (pv 1) (pa_cons (pv 12) (pa_cons (pe_fn T.g_law_around (ok_law_around T) hg hr12 passL (pa_cons (pv 0) pa_nil)) pa_nil)))))) (pa_cons (pv 12) pa_nil)))))))))))), ?_⟩
  · refine fun σ f c' => lam_live (k := 12 + 12 * d + 8) (N := ["_law_memory", "_law_look", "_law_keeping"]) (ps := []) (nscope_by (by rfl)) (fun _ _ us hl => match us, hl with | [], _ => rfl) (fun vs H Q E h => by obtain ⟨m, g, kV, rfl, _⟩ := h; rfl) fun A outer s H vs Q E hg hr hG hsp => ?_
    obtain ⟨m, g, kV, rfl, h1, h9, h6, h6', sc, dx, fi, pq, lq, b0, hm, tr⟩ := hsp
    obtain ⟨g', c2, e, G⟩ := hG
    rw [h9] at e
    cases e
    refine ⟨_, pe_triedK (f := g) T (live_look T d Inn g c2 _ _) (gst_def.and gst0) ⟨G, True.intro⟩ hg hr passN (pv 0) (pa_cons (pv 1) pa_nil) (pv 2) (Nat.le_refl _), ?_⟩
    exact ⟨.ref m, congrArg some h1, m, dx, _, rfl, hm, rfl, .ref g, congrArg some h9, rfl, kV, congrArg some (h6 rfl), kV, rfl, fun z => (by cases z), .refl _, sc, dx, fi, pq, lq, b0, hm, tr⟩
  · refine fun σ f c' => lam_live (k := 12 + 12 * d + 8) (N := ["_law_memory", "_law_look"]) (ps := []) (nscope_by (by rfl)) (fun _ _ us hl => match us, hl with | [], _ => rfl) (fun vs H Q E h => by obtain ⟨m, g, kV, rfl, _⟩ := h; rfl) fun A outer s H vs Q E hg hr hG hsp => ?_
    obtain ⟨m, g, kV, rfl, h1, h9, h6, h6', sc, dx, fi, pq, lq, b0, hm, tr⟩ := hsp
    obtain ⟨g', c2, e, G⟩ := hG
    rw [h9] at e
    cases e
    refine ⟨_, pe_tried0 (f := g) T (live_look T d Inn g c2 _ _) (gst_def.and gst0) ⟨G, True.intro⟩ hg hr passN (pv 0) (pa_cons (pv 1) pa_nil) (Nat.le_refl _), ?_⟩
    exact ⟨.ref m, congrArg some h1, m, dx, _, rfl, hm, rfl, .ref g, congrArg some h9, rfl, kV, rfl, fun _ => h6' rfl, .refl _, sc, dx, fi, pq, lq, b0, hm, tr⟩
  obtain ⟨x0, y0, z0, hpl, _⟩ := id hp
  obtain ⟨dx, f, pq, lq, hm⟩ := id hM
  have hmi := hm.i
  have pm : p ≠ m := fun z => by rw [z, hmi] at hpl; cases hpl
  have ntp : ∀ c ∈ [p], ∀ w, H c = some w → NTF w := by
    intro c hc w e
    rw [List.mem_singleton.mp hc, hpl] at e
    cases e
    exact ⟨fun _ z => (by cases z), fun _ _ z => (by cases z)⟩
  refine fun qa nqa => ⟨_, rfl, p, 3, n, rfl, hp.s (sameN nqa), by omega, by omega, by omega, fun H2 e o2 hp2 e0 e3 kk2 => ⟨rfl, _, rfl, ?_⟩⟩
  have qp : qa ≠ p := fun z => by rw [z, hpl] at nqa; cases nqa
  have qm : qa ≠ m := fun z => by rw [z, hmi] at nqa; cases nqa
  have q2 : H2 qa = some (.dK []) := o2 _ _ upd_same (by simpa using qp)
  refine ⟨q2, planK (decide (V.int e = V.int 0)) d, rfl, by show 2 ≤ 15; decide, qa, _, rfl, upd_same, True.intro, fun o => ?_⟩
  rw [plan_merge]
  generalize (decide (V.int e = V.int 0)) = called
  have so3 : So [p] H (upd (upd H2 qa (.dK (planK called d))) qa (.frz o (.dK (planK called d)))) := fun c w ew nc => by
    have h1 := o2 c w (sameN nqa c w ew) nc
    rw [upd_ne (ne_of_none ew nqa), upd_ne (ne_of_none ew nqa)]
    exact h1
  have hp3 : PotAt (upd (upd H2 qa (.dK (planK called d))) qa (.frz o (.dK (planK called d)))) p (n + 1) := hp2.of fun _ z => by
    rw [upd_ne (Ne.symm qp), upd_ne (Ne.symm qp)]
    exact z
  have hq3 : upd (upd H2 qa (.dK (planK called d))) qa (.frz o (.dK (planK called d))) qa = some (.frz o (.dK (planK called d))) := upd_same
  generalize upd (upd H2 qa (.dK (planK called d))) qa (.frz o (.dK (planK called d))) = H3 at so3 hp3 hq3
  dsimp only [gName]
  -- the draws
  refine seq_with (fun σ H' => ∃ gone kV val dv, σ = [some (.ref p), some (.ref m), some u, some (.int d), some (.ref qa), some (.bl gone), some kV, some val, none, none, none, none, none] ∧ So [p] H H' ∧ PotAt H' p (n + 4) ∧ H' qa = some (.frz o (.dK (planK called d))) ∧ Scal kV ∧ OddV H' val dv) (fun N hN => ?_) (fun σ H7 pmm => ?_)
  · refine ⟨_, rfl, p, 4, n + 1, rfl, hp3, by omega, by omega, by omega, fun H4 e4 o4 hp4 _ _ kk4 => ⟨rfl, _, rfl, by show 6 ≤ sizeLine; decide, fun l nl => ⟨p, l, _, n + 2, rfl, hp4.s (sameN nl), upd_same, ?_, by decide, by decide, by omega, fun H5 kV o5 hp5 hkv kk5 => ⟨_, rfl, p, n + 3, rfl, hp5, by omega, fun H6 val dv o6 hp6 hval kk6 => ⟨by show 3 ≤ sizeLine; decide, fun t nt => ?_⟩⟩⟩⟩⟩
    · obtain ⟨x, y, z, h, _⟩ := id hp4
      exact Ne.symm (ne_lst h nl)
    generalize decide (V.int e4 = V.int 0) = gone
    have s7 : Same H6 (upd H6 t (.tup [.bl gone, kV, val])) := sameN nt
    have et : upd H6 t (.tup [.bl gone, kV, val]) t = some (.tup [.bl gone, kV, val]) := upd_same
    generalize upd H6 t (.tup [.bl gone, kV, val]) = H7 at s7 et
    refine ⟨t, _, rfl, SqT.of et, rfl, _, _, rfl, _, _, rfl, _, _, rfl, rfl, ?_⟩
    refine hN _ _ ⟨gone, kV, val, dv, rfl, ((so3.trans o4).trans ((So.new nl).trans o5)).trans (o6.trans (.same s7)), hp6.s s7, s7 _ _ (o6 _ _ (o5 _ _ (sameN nl _ _ (o4 _ _ hq3 (by simpa using qp))) (by simpa using qp)) (by simpa using qp)), ?_, hval.k (Kp.of s7)⟩
    simp only [List.mem_cons, List.not_mem_nil, or_false] at hkv
    rcases hkv with rfl | rfl | rfl | rfl | rfl | rfl <;> exact True.intro
  obtain ⟨gone, kV, val, dv, rfl, so7, hp7, hq7, sc, hv7⟩ := pmm
  have fr7 : Fr K [p] H H7 := Fr.so so7 (by intro c hc w e; rw [List.mem_singleton.mp hc, hpl] at e; cases e; exact pl_lst)
  have kk7 : Kp H H7 := so7.kp ntp
  have hM7 := hM.k kk7 fun C dx fs e => so7 _ _ e (by simpa using Ne.symm pm)
  have hD7 := hD.k kk7
  have tb7 := fr7.t tb
  refine ⟨Nat.zero_le _, fun bx nbx => ?_⟩
  have s8 : Same H7 (upd H7 bx (.lst [])) := sameN nbx
  have B8 : BkS K p m qa bx u val dv o called d H7 M D (n + 4) (upd H7 bx (.lst [])) := ⟨Fr.same s8, nbx, hp7.s s8, hM7.same s8, hD7.k (Kp.of s8), s8 _ _ hq7, upd_same, hv7.k (Kp.of s8), tb7.ext s8⟩
  generalize upd H7 bx (.lst []) = H8 at s8 B8
  have xp : bx ≠ p := by
    obtain ⟨x, y, z, h, _⟩ := id hp7
    exact Ne.symm (ne_lst h nbx)
  dsimp only [gName]
  refine seq_with (fun σ H9 => ∃ g c', σ = [some (.ref p), some (.ref m), some u, some (.int d), some (.ref qa), some (.bl gone), some kV, some val, some (.ref bx), some (.ref g), none, none, none] ∧ BkS K p m qa bx u val dv o called d H7 M D (n + 4) H9 ∧ H9 g = some (FnO g (lookF K s.heap.objs.size c')) ∧ H9 c' = some (CodeO c' (lookF K s.heap.objs.size c').qual)) (fun N hN => ⟨B8.tb, fun g c' H9 eN _ tb9 g0 g1 c1 => hN _ _ ⟨g, c', rfl, B8.ext eN tb9, g1, c1⟩⟩) (fun σ H9 pmm => ?_)
  obtain ⟨g, c', rfl, B9, hg9, hc9⟩ := pmm
  have gp : g ≠ p := fun z => by
    obtain ⟨x, y, z', h, _⟩ := id B9.hp
    rw [z, h] at hg9
    unfold FnO at hg9
    cases hg9
  have cp : c' ≠ p := fun z => by
    obtain ⟨x, y, z', h, _⟩ := id B9.hp
    rw [z, h] at hc9
    unfold CodeO at hc9
    cases hc9
  refine seq_with (fun σ H' => ∃ kV ca ba r v M' D', σ = [some (.ref p), some (.ref m), some u, some (.int d), some (.ref qa), some (.bl gone), some kV, some val, some (.ref bx), some (.ref g), some ca, some ba, none] ∧ Scal kV ∧ AftS K p m qa bx u val dv o called gone kV d H7 M D (n + 5) ca ba r v M' D' H') (fun N hN => ?_) (fun σ H' pmm => ?_)
  · refine ⟨_, rfl, p, 2, n + 4, rfl, B9.hp, by omega, by omega, by omega, fun H10 e5 o10 hp10 _ _ kk10 => ⟨rfl, _, rfl, ?_⟩⟩
    have B10 := B9.pot o10 kk10 hp10 pm xp
    have hg10 := o10 _ _ hg9 (by simpa using gp)
    have hc10 := o10 _ _ hc9 (by simpa using cp)
    by_cases he : e5 = 0
    · refine iteD (by rw [he]) ⟨B10.tb, fun f c2 H11 eN nn tb11 f0 f1 c21 => ⟨⟨g, c', rfl, eN _ _ hg10 fnO_ne, eN _ _ hc10 codeO_ne⟩, heard_blk T (kw := true) (B10.ext eN tb11) sy (by omega) (by omega) sc rfl rfl (fun _ => rfl) (fun z => by cases z) rfl fun H' r0 ca ba r v M' D' A er => ?_⟩⟩
      exact ⟨r0, _, rfl, SqT.of er, rfl, _, _, rfl, _, _, rfl, rfl, hN _ _ ⟨kV, ca, ba, r, v, M', D', rfl, sc, A⟩⟩
    · refine iteDF (fun z => he (by simpa using z)) ⟨B10.tb, fun f c2 H11 eN nn tb11 f0 f1 c21 => ⟨⟨g, c', rfl, eN _ _ hg10 fnO_ne, eN _ _ hc10 codeO_ne⟩, heard_blk T (kw := false) (kV := .bl false) (B10.ext eN tb11) sy (by omega) (by omega) True.intro rfl rfl (fun z => by cases z) (fun _ => rfl) rfl fun H' r0 ca ba r v M' D' A er => ?_⟩⟩
      exact ⟨r0, _, rfl, SqT.of er, rfl, _, _, rfl, _, _, rfl, rfl, hN _ _ ⟨.bl false, ca, ba, r, v, M', D', rfl, True.intro, A⟩⟩
  clear sc
  obtain ⟨kV, ca, ba, r, v, M', D', rfl, sc, A⟩ := pmm
  have fr' : Fr K [p, m] H H' := (fr7.mono (by simp)).trans A.fr
  refine seq_with (fun σ H2 => H2 = H' ∧ σ = [some (.ref p), some (.ref m), some u, some (.int d), some (.ref qa), some (.bl gone), some kV, some val, some (.ref bx), some (.ref g), some ca, some ba, none]) (fun N hN => ?_) (fun σ H2 pmm => ?_)
  · cases gone with
    | false =>
      obtain ⟨rfl, rfl⟩ := A.no rfl
      refine ⟨_, rfl, _, rfl, .inr ⟨_, rfl, T.e_SameDeal, rfl, _, rfl, ?_⟩⟩
      rw [show (!decide (V.bl false = V.bl false)) = false by decide]
      refine iteF ⟨_, rfl, _, dv, rfl, A.hv, _, rfl, false, rfl, iteF ⟨_, rfl, _, dv, rfl, A.hv, rfl, _, rfl, ?_⟩⟩
      rw [show (!decide (V.str dv.shown = V.str dv.shown)) = false by simp]
      exact iteF (hN _ _ ⟨rfl, rfl⟩)
    | true =>
      obtain ⟨a, dd, rfl, rfl, ea⟩ := A.yes rfl
      refine ⟨_, rfl, _, rfl, .inl ⟨a, _, _, rfl, ea, rfl, _, rfl, ?_⟩⟩
      rw [show (!decide (V.bl true = V.bl true)) = false by decide]
      have hnon : OddV H' .non .none := ⟨.im .non rfl, rfl, by decide, by decide +kernel⟩
      refine iteF ⟨_, rfl, _, _, rfl, hnon, _, rfl, true, rfl, iteT ⟨_, _, rfl, hnon, rfl, _, rfl, ?_⟩⟩
      rw [show (!decide (V.str (PyData.none).shown = V.str (PyData.none).shown)) = false by simp]
      exact iteF (hN _ _ ⟨rfl, rfl⟩)
  obtain ⟨rfl, rfl⟩ := pmm
  refine seq_with (fun σ H3 => H3 = H2 ∧ σ = [some (.ref p), some (.ref m), some u, some (.int d), some (.ref qa), some (.bl gone), some kV, some val, some (.ref bx), some (.ref g), some ca, some ba, some (aftU gone kV called u v)]) (fun N hN => ?_) (fun σ H3 pmm => ?_)
  · by_cases hk : kV = .bl true
    · refine ⟨_, rfl, rfl, sc, _, rfl, ?_⟩
      refine iteD hk (iteT ⟨_, rfl, gone, rfl, ?_⟩)
      cases gone with
      | false =>
        refine iteT ⟨_, rfl, bx, _, 0, _, rfl, rfl, SqL.of A.hx, rfl, r, _, 1, _, rfl, rfl, SqT.of A.er, rfl, hN _ _ ⟨rfl, ?_⟩⟩
        rw [show aftU false kV called u v = v from if_pos ⟨rfl, .inl hk⟩]
        rfl
      | true =>
        refine iteF ⟨_, rfl, hN _ _ ⟨rfl, ?_⟩⟩
        rw [show aftU true kV called u v = u from if_neg fun z => by cases z.1]
        rfl
    · refine ⟨_, rfl, rfl, sc, _, rfl, ?_⟩
      refine iteDF hk ⟨_, rfl, qa, .bl called, rfl, plan_get1 A.hq, called, rfl, ?_⟩
      cases called with
      | true =>
        refine iteT ⟨_, rfl, gone, rfl, ?_⟩
        cases gone with
        | false =>
          refine iteT ⟨_, rfl, bx, _, 0, _, rfl, rfl, SqL.of A.hx, rfl, r, _, 1, _, rfl, rfl, SqT.of A.er, rfl, hN _ _ ⟨rfl, ?_⟩⟩
          rw [show aftU false kV true u v = v from if_pos ⟨rfl, .inr rfl⟩]
          rfl
        | true =>
          refine iteF ⟨_, rfl, hN _ _ ⟨rfl, ?_⟩⟩
          rw [show aftU true kV true u v = u from if_neg fun z => by cases z.1]
          rfl
      | false =>
        refine iteF ⟨_, rfl, hN _ _ ⟨rfl, ?_⟩⟩
        rw [show aftU gone kV false u v = u from if_neg fun z => z.2.elim hk fun z => by cases z]
        rfl
  obtain ⟨rfl, rfl⟩ := pmm
  have hsy := aft_syn (gone := gone) (called := called) (kV := kV) sy A.sy
  refine ⟨_, rfl, bx, _, 0, _, rfl, rfl, SqL.of A.hx, rfl, r, _, 0, _, rfl, rfl, SqT.of A.er, rfl, true, rfl, ?_⟩
  refine ⟨_, rfl, _, rfl, _, rfl, p, _, rfl, A.hp, by omega, fun H4 l xs cs o4 hp4 el nl him hcl kk4 => ?_⟩
  have hM4 := A.hM.k kk4 fun C dx fs e => o4 _ _ e (by simpa using Ne.symm pm)
  have hD4 := (aft_day (gone := gone) (called := called) (kV := kV) A.hD A.hD').k kk4
  refine ⟨m, l, _, _, _, xs, cs, rfl, hM4, hD4, hsy, el, him, by omega, fun H5 s5 _ => ⟨_, rfl, by show 2 ≤ sizeLine; decide, fun t nt => ?_⟩⟩
  have s6 : Same H4 (upd H5 t (.tup [.bl true, aftU gone kV called u v])) := s5.trans (sameN nt)
  have fr4 : Fr K [p, m] H3 H4 := (Fr.so o4 (by intro c hc w e; rw [List.mem_singleton.mp hc] at e; exact A.hp.pl w e)).mono (by simp)
  exact q _ t _ _ _ ((fr'.trans fr4).trans (Fr.same s6)) ((hp4.mono (by omega)).s s6) (hM4.same s6) (hD4.k (Kp.of s6)) hsy aft_blk (aft_first A.fst) (aft_len A.len) upd_same
end
end Bp

namespace Bp
open PySem PySem.Spec PyProof.Rows L2 LamX NdefX
section
variable {P : Program} {w : World} {K : PySem.W.Frag} {mg : Str → Option Value} {base : Heap}
/-! ### blocks within blocks -/
theorem blk0 (T : Th P K mg base) : GF P w K mg base 1 (He.ga K "_law_block") ["_law_pot_here", "_law_memory", "_law_day_here", "_law_deep"] (sp_blk 0 K) :=
  gf_ofC (k := 0) T.d_law_block sc_law_block (fun vs H Q E h => h.elim) (fun _ _ _ _ _ _ us hl => match us, hl with | [_, _, _, _], _ => rfl) fun A outer s H vs Q E hg hr hsp => hsp.elim
theorem blk_all (T : Th P K mg base) : ∀ d, GF P w K mg base (12 + 12 * d) (He.ga K "_law_block") ["_law_pot_here", "_law_memory", "_law_day_here", "_law_deep"] (sp_blk d K)
  | 0 => (blk0 T).mono (by omega)
  | d + 1 => (ok_law_block T d (ok_law_inner T d (blk_all T d))).mono (by omega)
/-! ### _law_pot: slots script 0, place 1, cell 2, own 3, small 4 -/
def CPowW (i j : Int) : Prop := 0 ≤ j ∧ (Builtin.Int.intBits i : Int) * j ≤ 2 ^ 27
theorem op_powW {X : Cx} : OpR X (binaryOp .Pow) (rI CPowW fun i j => .int (i ^ j.toNat)) := opI fun _ _ _ _ _ _ _ hc q => pow_int hc.1 hc.2 q
theorem cp60 : CPowW 10 60 := ⟨by decide, by decide +kernel⟩
theorem cp5 : CPowW (10 ^ Int.toNat 60) 5 := ⟨by decide, by decide +kernel⟩
theorem cp18 : CPowW 10 18 := ⟨by decide, by decide +kernel⟩
theorem p300 : (0 : Int) < (10 ^ Int.toNat 60) ^ Int.toNat 5 := by decide +kernel
theorem b01 (b : Bool) : 0 ≤ (if b = true then (1 : Int) else 0) ∧ (if b = true then (1 : Int) else 0) ≤ 1 := by cases b <;> decide
def sp_law_pot (K : PySem.W.Frag) : Sp := fun vs H Q _ => ∃ (l : Addr) (ns : List Int) (i : Nat), vs = [.ref l, .int i] ∧ SqL K H l (ns.map V.int) ∧ ns.length ≤ 1000 ∧ i ≤ 10 ∧ ∀ H' p, Same H H' → H p = none → PotAt H' p 0 → Q (.ref p) H'
theorem ok_law_pot (T : Th P K mg base) : GF P w K mg base 1 (He.ga K "_law_pot") ["_law_script", "_law_place"] (sp_law_pot K) := by
  refine gf_of T.d_law_pot sc_law_pot (fun vs H Q E h => by obtain ⟨l, ns, i, rfl, hl, hn, hi, q⟩ := h; rfl) (fun _ _ _ _ _ _ us hl => match us, hl with | [_, _], _ => rfl) fun cdv A outer s H vs Q E hg hr hsp => ?_
  obtain ⟨l, ns, i, rfl, hl, hn, hi, q⟩ := hsp
  refine ⟨_, (pss_cons (ps_set (i := 2) sc_law_pot.nd rfl (Or.inl rfl) (pe_ifExp (pt_cmpR op_lt (pv 1) (pe_callB call_len_seq (by rfl) T.f_len (by decide +kernel) (pa_cons (pv 0) pa_nil)) (nomark _)) (pe_ix ix_list (pv 0) (pv 1) (fun _ _ => rfl)) (pe_op op_add (pe_op op_mul pe_int (pv 1)) pe_int)))
    (pss_cons (ps_set (i := 3) sc_law_pot.nd rfl (Or.inl rfl) (pe_op op_mul (pe_op op_modN (pe_callTy call_int1 (by rfl) T.f_int (by decide +kernel) (pa_cons (pe_callB call_abs (by rfl) T.f_abs (by decide +kernel) (pa_cons (pv 2) pa_nil)) pa_nil)) (pe_op op_powW (pe_op op_powW pe_int pe_int) pe_int)) (pe_callTy call_int1 (by rfl) T.f_int (by decide +kernel) (pa_cons (pe_cmpR op_ge (pe_callB call_abs (by rfl) T.f_abs (by decide +kernel) (pa_cons (pv 2) pa_nil)) (pe_op op_powW pe_int pe_int) (nomark _)) pa_nil))))
    (pss_cons (ps_set (i := 4) sc_law_pot.nd rfl (Or.inl rfl) (pe_op op_modN (pe_callTy call_int1 (by rfl) T.f_int (by decide +kernel) (pa_cons (pv 2) pa_nil)) pe_int))
    (pss_one (ps_ret (pe_lst (pa_cons (pv 3) (pa_cons (pe_op op_modN (pe_callTy call_int1 (by rfl) T.f_int (by decide +kernel) (pa_cons (pe_op op_add (pe_op op_add (pe_op op_mul (pv 4) pe_int) (pe_op op_mul (pe_op op_mul pe_int (pv 1)) (pv 1))) pe_int) pa_nil)) pe_int) (pa_cons pe_int pa_nil))))))))), ?_⟩
  refine seq_with (fun σ H' => H' = H ∧ ∃ c : Int, σ = [some (.ref l), some (.int i), some (.int c), none, none]) (fun N hN => ?_) (fun σ H' pm => ?_)
  · refine ⟨_, rfl, _, rfl, l, _, rfl, .inl hl, _, _, rfl, rfl, _, rfl, ?_⟩
    by_cases h : i < ns.length
    · refine iteD (by rw [List.length_map]; omega) ⟨_, rfl, _, rfl, l, _, i, .int ns[i], rfl, rfl, hl, atI_nat (by rw [List.getElem?_map, List.getElem?_eq_getElem h]; rfl), hN _ _ ⟨rfl, _, rfl⟩⟩
    · refine iteDF (by rw [List.length_map]; omega) ⟨_, rfl, _, _, rfl, rfl, .inl ⟨by decide, by decide⟩, _, _, rfl, rfl, hN _ _ ⟨rfl, _, rfl⟩⟩
  obtain ⟨rfl, c, rfl⟩ := pm
  refine seq_with (fun σ H2 => H2 = H' ∧ ∃ a : Int, 0 ≤ a ∧ σ = [some (.ref l), some (.int i), some (.int c), some (.int a), none]) (fun N hN => ?_) (fun σ H2 pm => ?_)
  · refine ⟨_, rfl, _, rfl, .inl ⟨_, rfl, _, _, rfl, rfl, cp60, _, _, rfl, rfl, cp5, _, _, rfl, rfl, Int.ne_of_gt p300, ?_⟩⟩
    refine ⟨_, rfl, _, rfl, _, _, rfl, rfl, cp18, _, _, rfl, rfl, .inr ⟨_, rfl, _, _, rfl, rfl, .inr ?_, hN _ _ ⟨rfl, _, ?_, rfl⟩⟩⟩
    · have h := b01 (decide ((10 : Int) ^ Int.toNat 18 ≤ if c < 0 then -c else c))
      exact ⟨Int.lt_of_lt_of_le (by decide) h.1, Int.lt_of_le_of_lt h.2 (by decide)⟩
    · exact Int.mul_nonneg (Int.fmod_nonneg_of_pos _ p300) (b01 _).1
  obtain ⟨rfl, a, a0, rfl⟩ := pm
  refine seq_with (fun σ H3 => H3 = H2 ∧ ∃ b : Int, 0 ≤ b ∧ b < 2305843009213693951 ∧ σ = [some (.ref l), some (.int i), some (.int c), some (.int a), some (.int b)]) (fun N hN => ?_) (fun σ H3 pm => ?_)
  · refine ⟨_, rfl, .inl ⟨_, rfl, _, _, rfl, rfl, (show (2305843009213693951 : Int) ≠ 0 by decide), hN _ _ ⟨rfl, _, (fm_pos c (by decide)).1, (fm_pos c (by decide)).2, rfl⟩⟩⟩
  obtain ⟨rfl, b, b0, b1, rfl⟩ := pm
  refine ⟨_, rfl, _, rfl, _, _, rfl, rfl, .inl ⟨by omega, by omega⟩, _, rfl, _, _, rfl, rfl, .inl ⟨by decide, by decide⟩, _, rfl, _, _, rfl, rfl, .inl ⟨by omega, by omega⟩, _, _, rfl, rfl, _, _, rfl, rfl, .inl ⟨_, rfl, _, _, rfl, rfl, (show (2305843009213693921 : Int) ≠ 0 by decide), by show 3 ≤ sizeLine; decide, fun p np => ?_⟩⟩
  exact q _ p (sameN np) np ⟨_, _, _, upd_same, a0, (fm_pos _ (by decide)).1, (fm_pos _ (by decide)).2, Int.le_refl _, Int.le_refl _⟩
/-! ### _law_cells -/
def sp_law_cells (K : PySem.W.Frag) : Sp := fun vs H Q _ => ∃ (l : Addr) (ns : List Int), vs = [.ref l, .int 3] ∧ SqL K H l (ns.map V.int) ∧ ns.length ≤ 1000 ∧ ∀ H' r (k : Int), Same H H' → 0 ≤ k → k ≤ 3 → H' r = some (.lst (rgV 0 k)) → Q (.ref r) H'
theorem ok_law_cells (T : Th P K mg base) : GF P w K mg base 1 (He.ga K "_law_cells") ["_law_script", "_law_most"] (sp_law_cells K) := by
  refine gf_of T.d_law_cells sc_law_cells (fun vs H Q E h => by obtain ⟨l, ns, rfl, hl, hn, q⟩ := h; rfl) (fun _ _ _ _ _ _ us hl => match us, hl with | [_, _], _ => rfl) fun cdv A outer s H vs Q E hg hr hsp => ?_
  obtain ⟨l, ns, rfl, hl, hn, q⟩ := hsp
  refine ⟨_, (pss_one (ps_ret (pe_listRg rfl (by rfl) T.f_list (prg_1 (by rfl) T.f_range (pe_callB (call_max2 rfl) (by rfl) T.f_max (by decide +kernel) (pa_cons pe_int (pa_cons (pe_callB (call_min2 rfl) (by rfl) T.f_min (by decide +kernel) (pa_cons (pv 1) (pa_cons (pe_callB call_len_seq (by rfl) T.f_len (by decide +kernel) (pa_cons (pv 0) pa_nil)) pa_nil))) pa_nil))))))), ?_⟩
  refine ⟨_, rfl, _, rfl, l, _, rfl, .inl hl, _, _, rfl, _, _, rfl, _, rfl, ?_⟩
  have h0 : 0 ≤ (if (if ((ns.map V.int).length : Int) < 3 then ((ns.map V.int).length : Int) else 3) > 1 then (if ((ns.map V.int).length : Int) < 3 then ((ns.map V.int).length : Int) else 3) else 1) ∧ (if (if ((ns.map V.int).length : Int) < 3 then ((ns.map V.int).length : Int) else 3) > 1 then (if ((ns.map V.int).length : Int) < 3 then ((ns.map V.int).length : Int) else 3) else 1) ≤ 3 := by
    split <;> split <;> omega
  exact ⟨RgOk.of_le (by omega) (by omega) (by omega) (by omega), fun r nr => q _ r _ (sameN nr) h0.1 h0.2 upd_same⟩
end
end Bp

namespace Bp
open PySem PySem.Spec PyProof.Rows L2 LamX NdefX TL
/-! ### texts -/
abbrev iS (i : Int) : Str := Str.ofString (toString i)
abbrev nS (n : Nat) : Str := iS (n : Int)
theorem str_emp (a : Str) : Str.empty ++ a = a := ext_tl (by rw [tl_append]; rfl)
theorem str_assoc (a b c : Str) : a ++ b ++ c = a ++ (b ++ c) := ext_tl (by simp only [tl_append, List.append_assoc])
theorem nS_len {n : Nat} (h : n < 1000) : (nS n).length ≤ 3 := by
  rw [len_tl, tl_num]
  exact numL_len (by decide) h
theorem lg_int {i : Int} (h : -1000 < i ∧ i < 1000) : i.natAbs.log2 < 1920 := Nat.lt_of_le_of_lt (Nat.log2_le_self _) (by omega)
def cellS (k : Nat) : Str := nS 0 ++ "," ++ nS 0 ++ "=" ++ nS k
theorem cellS_len {k : Nat} (h : k < 1000) : (cellS k).length ≤ 20 := by
  have h0 := nS_len (n := 0) (by decide)
  have h1 := nS_len h
  unfold cellS
  simp only [strLen_append]
  have e1 : (Str.ofString ",").length = 1 := by decide +kernel
  have e2 : (Str.ofString "=").length = 1 := by decide +kernel
  omega
/-- the words of a line of ours -/
def wordsL (x k : Nat) : List Str := ["write", nS x, nS 0, cellS k]
def lineS (x k : Nat) : Str := Txt.join " " (wordsL x k)
theorem join_len (y : Str) (parts : List Str) : (Txt.join y parts).length ≤ (parts.map (·.length)).sum + parts.length * y.length := by
  rw [join_eq]
  exact StrLaws.join_length_le y parts
theorem lineS_len {x k : Nat} (hx : x < 1000) (hk : k < 1000) : (lineS x k).length ≤ 40 := by
  have h := join_len " " (wordsL x k)
  have h1 := nS_len hx
  have h2 := nS_len (n := 0) (by decide)
  have h3 := cellS_len hk
  have e1 : (Str.ofString "write").length = 5 := by decide +kernel
  have e2 : (Str.ofString " ").length = 1 := by decide +kernel
  unfold lineS
  simp only [wordsL, List.map_cons, List.map_nil, List.sum_cons, List.sum_nil, List.length_cons, List.length_nil, e1, e2] at h ⊢
  omega
abbrev deedW (x k : Nat) : Deed := .write [(0, 0)] ((x : Int), 0) [(k : Int)]
def tFS (ts : List TE) : TE := fun σ H Q => tJs ts Str.empty σ H fun out H1 => Q (.str out) H1
theorem pe_joinedN {X : Cx} {v1 v2 : Expr} {rest : List Expr} {ts : List TE} {pos : Pos} (h : PJ X (v1 :: v2 :: rest) ts) : PE X (.JoinedStr (v1 :: v2 :: rest) pos) (tFS ts) := pe_joined h
section
variable {P : Program} {w : World} {K : PySem.W.Frag} {mg : Str → Option Value} {base : Heap}
/-! ### deed_text: slots deed 0, one 1, word 2, shape 3, place 4, numbers 5, cells 6, x 7, y 8, number 9 -/
def sp_deed_text (K : PySem.W.Frag) : Sp := fun vs H Q _ => ∃ (u : V) (x k : Nat), vs = [u] ∧ Im H u (dDeed (deedW x k)) ∧ x < 1000 ∧ k < 1000 ∧ ∀ H', Same H H' → Q (.str (lineS x k)) H'
theorem ok_deed_text (T : Th P K mg base) : GF P w K mg base 1 (He.ga K "deed_text") ["deed"] (sp_deed_text K) := by
  refine gf_of T.d_deed_text sc_deed_text (fun vs H Q E h => by obtain ⟨u, x, k, rfl, hu, hx, hk, q⟩ := h; rfl) (fun _ _ _ _ _ _ us hl => match us, hl with | [_], _ => rfl) fun cdv A outer s H vs Q E hg hr hsp => ?_
  obtain ⟨u, x, k, rfl, hu, hx, hk, q⟩ := hsp
  refine ⟨_, (pss_cons (ps_if (pt_cmpR op_eq (pe_ix ix_tup (pv 0) pe_int (fun _ _ => rfl)) (pe_gs T.c_ANEW) (nomark _)) (pss_one ps_never) pss_nil)
    (pss_cons (ps_asg (pv 0) (pg_tup rfl (pgs_cons (pg_name (i := 2) sc_deed_text.nd rfl (Or.inl rfl)) (pgs_cons (pg_name (i := 3) sc_deed_text.nd rfl (Or.inl rfl)) (pgs_cons (pg_name (i := 4) sc_deed_text.nd rfl (Or.inl rfl)) (pgs_cons (pg_name (i := 5) sc_deed_text.nd rfl (Or.inl rfl)) pgs_nil))))))
    (pss_cons (ps_setLc (i := 6) (own := [("x", 7), ("y", 8), ("number", 9)]) (tt := tYes) rfl sc_deed_text.nd rfl rfl (sw_true rfl rfl rfl (by decide +kernel)) (RZ.pi_zipA (by rfl) T.f_zip (pa_cons (pv 3) (pa_cons (pv 5) pa_nil))) (blkOk_by (N := N_deed_text) (sc := defScope s_deed_text) (by decide +kernel)) (fun _ _ _ _ _ => (pg_tupK (K := K) (n := 2) rfl rfl (pgs_cons (pg_tupK (K := K) (n := 2) rfl rfl (pgs_cons (pg_name (i := 7) sc_deed_text.nd rfl (Or.inl rfl)) (pgs_cons (pg_name (i := 8) sc_deed_text.nd rfl (Or.inl rfl)) pgs_nil))) (pgs_cons (pg_name (i := 9) sc_deed_text.nd rfl (Or.inl rfl)) pgs_nil)))) (fun _ _ _ _ _ => pts_nil) (fun _ _ _ _ _ => (pe_joinedN (.cons (pe_fmt (pv 7)) (.cons pe_str (.cons (pe_fmt (pv 8)) (.cons pe_str (.cons (pe_fmt (pv 9)) .nil))))))))
    (pss_one (ps_ret (pe_join pe_str (pe_op op_cat (pe_lst (pa_cons (pe_gs T.c_WRITE) (pa_cons (pe_callTy call_str_int (by rfl) T.f_str (by decide +kernel) (pa_cons (pe_ix ix_tup (pv 4) pe_int (fun _ _ => rfl)) pa_nil)) (pa_cons (pe_callTy call_str_int (by rfl) T.f_str (by decide +kernel) (pa_cons (pe_ix ix_tup (pv 4) pe_int (fun _ _ => rfl)) pa_nil)) pa_nil)))) (pv 6)))))))), ?_⟩
  obtain ⟨a, u1, u2, u3, rfl, ha, g1, g2, g3⟩ := hu.writeI
  obtain ⟨cb, cs, S⟩ := g1.shapeI
  obtain rfl := S.e
  obtain ⟨pb, rfl, hpb⟩ := g2.cellI
  obtain ⟨nb, rfl, hnb⟩ := g3.intsI
  refine ⟨_, rfl, a, _, 0, _, rfl, rfl, SqT.of ha, rfl, rfl, _, rfl, iteDF (show ¬ V.str "write" = V.str "anew" by decide) ?_⟩
  refine ⟨_, rfl, a, _, rfl, SqT.of ha, rfl, _, _, rfl, _, _, rfl, _, _, rfl, _, _, rfl, rfl, ?_⟩
  refine ⟨_, rfl, _, rfl, cb, nb, cs, [.int k], rfl, .inr ⟨Or.inl S.t, SqT.of hnb, fun D hD => ?_⟩⟩
  refine lc_it (walk_zipT (K := K) (a := cb) (b := nb) (xs := cs) (ys := [.int k]) (n := 1) S.l rfl) (LcP H D fun _ v _ => v = .str (cellS k)) (LcP.zero hD) (fun i H' _ p => ⟨Or.inl (rd_same S.t p.1), SqT.of (p.1 _ _ hnb)⟩) (fun i v H' H2 hi p y => ?_) (fun H1 p => ?_)
  · obtain ⟨t, y1, y2, rfl, nt, rfl, e1, e2⟩ := y
    have e1 : cs[i]? = some y1 := e1
    have e2 : [V.int (k : Int)][i]? = some y2 := e2
    obtain rfl : i = 0 := by omega
    cases e2
    obtain ⟨c, hc, hcx⟩ := S.i 0 y1 e1
    cases hc
    have s2 : Same H' (upd H' t (.tup [y1, .int k])) := sameN nt
    have et : upd H' t (.tup [y1, .int k]) t = some (.tup [y1, .int k]) := upd_same
    generalize upd H' t (.tup [y1, .int k]) = H2 at s2 et
    obtain ⟨ca, rfl, hca⟩ := (hcx.s (p.1.trans s2)).cellI
    have h0 := nS_len (n := 0) (by decide)
    have hkl := nS_len hk
    have l1 : (Str.ofString ",").length = 1 := by decide +kernel
    have l2 : (Str.ofString "=").length = 1 := by decide +kernel
    have l0 : Str.empty.length = 0 := rfl
    have big : 100 ≤ sizeLine := by decide
    refine ⟨t, _, rfl, SqT.of et, rfl, _, _, rfl, ca, _, rfl, SqT.of hca, rfl, _, _, rfl, _, _, rfl, rfl, _, _, rfl, rfl, rfl, ?_⟩
    refine ⟨_, rfl, .inr ⟨_, rfl, by decide, nS 0, rfl, ?_, _, rfl, ?_, _, rfl, .inr ⟨_, rfl, by decide, nS 0, rfl, ?_, _, rfl, ?_, _, rfl, .inr ⟨_, rfl, lg_int (by omega), nS k, rfl, ?_, ?_⟩⟩⟩⟩
    · simp only [strLen_append]; omega
    · simp only [strLen_append]; omega
    · simp only [strLen_append]; omega
    · simp only [strLen_append]; omega
    · simp only [strLen_append]; omega
    · rw [str_emp]
      exact LcP.next (fun _ _ _ _ h _ => h) hD (by decide) p s2 rfl
  · obtain ⟨s1, hD1⟩ := LcP.map (f := fun _ => .str (cellS k)) p fun _ _ _ h => h
    have hD1 : H1 D = some (.lst [.str (cellS k)]) := hD1
    refine ⟨⟨_, rfl⟩, _, rfl, pb, _, 0, _, rfl, rfl, SqT.of (s1 _ _ hpb), rfl, _, rfl, lg_int (by show -1000 < (x : Int) ∧ (x : Int) < 1000; omega), _, rfl, pb, _, 1, _, rfl, rfl, SqT.of (s1 _ _ hpb), rfl, _, rfl, (show (0 : Int).natAbs.log2 < 1920 by decide), by show 3 ≤ sizeLine; decide, fun l nl => ⟨_, rfl, ?_⟩⟩
    refine ⟨l, D, _, _, rfl, rfl, upd_same, sameN nl _ _ hD1, by show 4 ≤ sizeLine; decide, fun r nr => ?_⟩
    refine ⟨_, r, wordsL x k, rfl, rfl, .inl (SqL.of upd_same), ?_, q _ ((s1.trans (sameN nl)).trans (sameN nr))⟩
    have h1 := nS_len hx
    have h2 := nS_len (n := 0) (by decide)
    have h3 := cellS_len hk
    have e1 : (Str.ofString "write").length = 5 := by decide +kernel
    have e2 : (Str.ofString " ").length = 1 := by decide +kernel
    simp only [wordsL, List.map_cons, List.map_nil, List.sum_cons, List.sum_nil, List.length_cons, List.length_nil, e1, e2]
    omega
/-! ### _law_line: slots deed 0, one 1, rows 2, cell 3, number 4 -/
def sp_law_line (K : PySem.W.Frag) : Sp := sp_deed_text K
theorem ok_law_line (T : Th P K mg base) : GF P w K mg base 1 (He.ga K "_law_line") ["_law_deed"] (sp_law_line K) := by
  refine gf_of T.d_law_line sc_law_line (fun vs H Q E h => by obtain ⟨u, x, k, rfl, hu, hx, hk, q⟩ := h; rfl) (fun _ _ _ _ _ _ us hl => match us, hl with | [_], _ => rfl) fun cdv A outer s H vs Q E hg hr hsp => ?_
  obtain ⟨u, x, k, rfl, hu, hx, hk, q⟩ := hsp
  refine ⟨_, (pss_cons (ps_if (pt_cmpR op_eq (pe_ix ix_tup (pv 0) pe_int (fun _ _ => rfl)) pe_str (nomark _)) (pss_one ps_never) pss_nil)
    (pss_cons (ps_setLc (i := 2) (own := [("_law_cell", 3), ("_law_number", 4)]) (tt := tYes) rfl sc_law_line.nd rfl rfl (sw_true rfl rfl rfl (by decide +kernel)) (RZ.pi_zipA (by rfl) T.f_zip (pa_cons (pe_ix ix_tup (pv 0) pe_int (fun _ _ => rfl)) (pa_cons (pe_ix ix_tup (pv 0) pe_int (fun _ _ => rfl)) pa_nil))) (blkOk_by (N := N_law_line) (sc := defScope s_law_line) (by decide +kernel)) (fun _ _ _ _ _ => (pg_tupK (K := K) (n := 2) rfl rfl (pgs_cons (pg_name (i := 3) sc_law_line.nd rfl (Or.inl rfl)) (pgs_cons (pg_name (i := 4) sc_law_line.nd rfl (Or.inl rfl)) pgs_nil)))) (fun _ _ _ _ _ => pts_nil) (fun _ _ _ _ _ => (pe_op op_add_str (pe_op op_add_str (pe_op op_add_str (pe_op op_add_str (pe_callTy call_str_int (by rfl) T.f_str (by decide +kernel) (pa_cons (pe_ix (ix_tupK (K := K) rfl) (pv 3) pe_int (fun _ _ => rfl)) pa_nil)) pe_str) (pe_callTy call_str_int (by rfl) T.f_str (by decide +kernel) (pa_cons (pe_ix (ix_tupK (K := K) rfl) (pv 3) pe_int (fun _ _ => rfl)) pa_nil))) pe_str) (pe_callTy call_str_int (by rfl) T.f_str (by decide +kernel) (pa_cons (pv 4) pa_nil)))))
    (pss_one (ps_ret (pe_join pe_str (pe_op op_cat (pe_lst (pa_cons pe_str (pa_cons (pe_callTy call_str_int (by rfl) T.f_str (by decide +kernel) (pa_cons (pe_ix ix_tup (pe_ix ix_tup (pv 0) pe_int (fun _ _ => rfl)) pe_int (fun _ _ => rfl)) pa_nil)) (pa_cons (pe_callTy call_str_int (by rfl) T.f_str (by decide +kernel) (pa_cons (pe_ix ix_tup (pe_ix ix_tup (pv 0) pe_int (fun _ _ => rfl)) pe_int (fun _ _ => rfl)) pa_nil)) pa_nil)))) (pv 2))))))), ?_⟩
  obtain ⟨a, u1, u2, u3, rfl, ha, g1, g2, g3⟩ := hu.writeI
  obtain ⟨cb, cs, S⟩ := g1.shapeI
  obtain rfl := S.e
  obtain ⟨pb, rfl, hpb⟩ := g2.cellI
  obtain ⟨nb, rfl, hnb⟩ := g3.intsI
  have h0 := nS_len (n := 0) (by decide)
  have hkl := nS_len hk
  have l1 : (Str.ofString ",").length = 1 := by decide +kernel
  have l2 : (Str.ofString "=").length = 1 := by decide +kernel
  have big : 100 ≤ sizeLine := by decide
  refine ⟨_, rfl, a, _, 0, _, rfl, rfl, SqT.of ha, rfl, rfl, _, rfl, iteDF (show ¬ V.str "write" = V.str "anew" by decide) ?_⟩
  refine ⟨_, rfl, a, _, 1, _, rfl, rfl, SqT.of ha, rfl, _, rfl, a, _, 3, _, rfl, rfl, SqT.of ha, rfl, cb, nb, cs, [.int k], rfl, .inr ⟨Or.inl S.t, SqT.of hnb, fun D hD => ?_⟩⟩
  refine lc_it (walk_zipT (K := K) (a := cb) (b := nb) (xs := cs) (ys := [.int k]) (n := 1) S.l rfl) (LcP H D fun _ v _ => v = .str (cellS k)) (LcP.zero hD) (fun i H' _ p => ⟨Or.inl (rd_same S.t p.1), SqT.of (p.1 _ _ hnb)⟩) (fun i v H' H2 hi p y => ?_) (fun H1 p => ?_)
  · obtain ⟨t, y1, y2, rfl, nt, rfl, e1, e2⟩ := y
    have e1 : cs[i]? = some y1 := e1
    have e2 : [V.int (k : Int)][i]? = some y2 := e2
    obtain rfl : i = 0 := by omega
    cases e2
    obtain ⟨c, hc, hcx⟩ := S.i 0 y1 e1
    cases hc
    have s2 : Same H' (upd H' t (.tup [y1, .int k])) := sameN nt
    have et : upd H' t (.tup [y1, .int k]) t = some (.tup [y1, .int k]) := upd_same
    generalize upd H' t (.tup [y1, .int k]) = H2 at s2 et
    obtain ⟨ca, rfl, hca⟩ := (hcx.s (p.1.trans s2)).cellI
    refine ⟨t, _, rfl, SqT.of et, rfl, _, _, rfl, _, _, rfl, rfl, rfl, ?_⟩
    refine ⟨_, rfl, ca, _, 0, _, rfl, rfl, SqT.of hca, rfl, _, rfl, (show (0 : Int).natAbs.log2 < 1920 by decide), _, _, rfl, rfl, ?_, _, rfl, ca, _, 1, _, rfl, rfl, SqT.of hca, rfl, _, rfl, (show (0 : Int).natAbs.log2 < 1920 by decide), _, _, rfl, rfl, ?_, _, _, rfl, rfl, ?_, _, rfl, _, rfl, lg_int (by omega), _, _, rfl, rfl, ?_, ?_⟩
    · show (nS 0).length + (Str.ofString ",").length ≤ sizeLine
      omega
    · show (nS 0 ++ Str.ofString ",").length + (nS 0).length ≤ sizeLine
      rw [strLen_append]; omega
    · show (nS 0 ++ Str.ofString "," ++ nS 0).length + (Str.ofString "=").length ≤ sizeLine
      rw [strLen_append, strLen_append]; omega
    · show (nS 0 ++ Str.ofString "," ++ nS 0 ++ Str.ofString "=").length + (nS k).length ≤ sizeLine
      rw [strLen_append, strLen_append, strLen_append]; omega
    · exact LcP.next (fun _ _ _ _ h _ => h) hD (by decide) p s2 rfl
  · obtain ⟨s1, hD1⟩ := LcP.map (f := fun _ => .str (cellS k)) p fun _ _ _ h => h
    have hD1 : H1 D = some (.lst [.str (cellS k)]) := hD1
    have ha1 := s1 _ _ ha
    refine ⟨⟨_, rfl⟩, _, rfl, a, _, 2, _, rfl, rfl, SqT.of ha1, rfl, pb, _, 0, _, rfl, rfl, SqT.of (s1 _ _ hpb), rfl, _, rfl, lg_int (by show -1000 < (x : Int) ∧ (x : Int) < 1000; omega), _, rfl, a, _, 2, _, rfl, rfl, SqT.of ha1, rfl, pb, _, 1, _, rfl, rfl, SqT.of (s1 _ _ hpb), rfl, _, rfl, (show (0 : Int).natAbs.log2 < 1920 by decide), by show 3 ≤ sizeLine; decide, fun l nl => ⟨_, rfl, ?_⟩⟩
    refine ⟨l, D, _, _, rfl, rfl, upd_same, sameN nl _ _ hD1, by show 4 ≤ sizeLine; decide, fun r nr => ?_⟩
    refine ⟨_, r, wordsL x k, rfl, rfl, .inl (SqL.of upd_same), ?_, q _ ((s1.trans (sameN nl)).trans (sameN nr))⟩
    have h1 := nS_len hx
    have h2 := nS_len (n := 0) (by decide)
    have h3 := cellS_len hk
    have e1 : (Str.ofString "write").length = 5 := by decide +kernel
    have e2 : (Str.ofString " ").length = 1 := by decide +kernel
    simp only [wordsL, List.map_cons, List.map_nil, List.sum_cons, List.sum_nil, List.length_cons, List.length_nil, e1, e2]
    omega
end
end Bp

namespace Bp
open PySem PySem.Spec PyProof.Rows L2 LamX NdefX TL
def dealWords (d : Deal) : List Str := ["deal", iS d.1, iS d.2.1, iS d.2.2]
def dealS (d : Deal) : Str := Txt.join " " (dealWords d)
abbrev deedI (i : Nat) : Deed := deedW (i % 7) i
def jLines (d : Deal) (n : Nat) : List Str := dealS d :: (List.range n).map fun i => lineS (i % 7) i
def jS (d : Deal) (n : Nat) : Str := Txt.join "\n" (jLines d n)
theorem iS_len {i : Int} (h0 : 0 ≤ i) (h : i < 1000) : (iS i).length ≤ 3 := by
  obtain ⟨k, rfl⟩ := Int.eq_ofNat_of_zero_le h0
  exact nS_len (by omega)
theorem dealS_eq (d : Deal) : Str.ofString "deal " ++ Txt.join " " [iS d.1, iS d.2.1, iS d.2.2] = dealS d := by
  unfold dealS dealWords
  rw [join_eq, join_eq]
  show _ = Str.ofString "deal" ++ Str.ofString " " ++ Str.join " " [iS d.1, iS d.2.1, iS d.2.2]
  rw [show Str.ofString "deal" ++ Str.ofString " " = Str.ofString "deal " by decide +kernel]
theorem deal_bd {d : Deal} (h : DealOk d) : ∀ i ∈ [d.1, d.2.1, d.2.2], 0 ≤ i ∧ i < 1000 := by
  obtain ⟨h1, h2, h3, h4, h5, h6⟩ := h
  intro i hi
  simp only [List.mem_cons, List.not_mem_nil, or_false] at hi
  rcases hi with rfl | rfl | rfl <;> omega
theorem dealW_sum {d : Deal} (h : DealOk d) : ((dealWords d).map (·.length)).sum + (dealWords d).length * (Str.ofString " ").length ≤ 100 := by
  have b := deal_bd h
  have h1 := iS_len (b d.1 (by simp)).1 (b d.1 (by simp)).2
  have h2 := iS_len (b d.2.1 (by simp)).1 (b d.2.1 (by simp)).2
  have h3 := iS_len (b d.2.2 (by simp)).1 (b d.2.2 (by simp)).2
  have e1 : (Str.ofString "deal").length = 4 := by decide +kernel
  have e2 : (Str.ofString " ").length = 1 := by decide +kernel
  simp only [dealWords, List.map_cons, List.map_nil, List.sum_cons, List.sum_nil, List.length_cons, List.length_nil, e1, e2]
  omega
theorem dealS_len {d : Deal} (h : DealOk d) : (dealS d).length ≤ 100 := Nat.le_trans (join_len _ _) (dealW_sum h)
theorem lines_sum : ∀ (l : List Nat), (∀ i ∈ l, i < 1000) → ((l.map fun i => lineS (i % 7) i).map (·.length)).sum ≤ 40 * l.length
  | [], _ => by simp
  | i :: r, h => by
    have ih := lines_sum r fun j hj => h j (List.mem_cons_of_mem _ hj)
    have h1 := lineS_len (x := i % 7) (k := i) (by omega) (h i List.mem_cons_self)
    simp only [List.map_cons, List.sum_cons, List.length_cons] at ih ⊢
    omega
theorem jLines_sum {d : Deal} (h : DealOk d) {n : Nat} (hn : n ≤ 200) : ((jLines d n).map (·.length)).sum + (jLines d n).length * (Str.ofString "\n").length ≤ 10000 := by
  have h1 := dealS_len h
  have h2 := lines_sum (List.range n) fun i hi => by have := List.mem_range.mp hi; omega
  have e2 : (Str.ofString "\n").length = 1 := by decide +kernel
  rw [List.length_range] at h2
  simp only [jLines, List.map_cons, List.sum_cons, List.length_cons, List.length_map, List.length_range, e2]
  omega
theorem jS_len {d : Deal} (h : DealOk d) {n : Nat} (hn : n ≤ 200) : (jS d n).length ≤ 10000 := Nat.le_trans (join_len _ _) (jLines_sum h hn)
section
variable {P : Program} {w : World} {K : PySem.W.Frag} {mg : Str → Option Value} {base : Heap}
/-! ### journal: slots memory 0, head 1, one 2, deed 3, beats 4 -/
def sp_journal (K : PySem.W.Frag) : Sp := fun vs H Q _ => ∃ (m : Addr) (M : MemS) (n : Nat), vs = [.ref m] ∧ MemAt K H m M ∧ DealOk M.first ∧ M.past.map Prod.fst = (List.range n).map deedI ∧ n ≤ 200 ∧ ∀ H', Same H H' → Q (.str (jS M.first n)) H'
theorem ok_journal (T : Th P K mg base) : GF P w K mg base 3 (He.ga K "journal") ["memory"] (sp_journal K) := by
  refine gf_of T.d_journal sc_journal (fun vs H Q E h => by obtain ⟨m, M, n, rfl, hM, ok, hp, hn, q⟩ := h; rfl) (fun _ _ _ _ _ _ us hl => match us, hl with | [_], _ => rfl) fun cdv A outer s H vs Q E hg hr hsp => ?_
  obtain ⟨m, M, n, rfl, hM, ok, hp, hn, q⟩ := hsp
  refine ⟨_, (pss_cons (ps_set (i := 1) sc_journal.nd rfl (Or.inl rfl) (pe_join (pe_gs T.c_BLANK) (pe_op op_cat (pe_lst (pa_cons (pe_gs T.c_DEAL) pa_nil)) (pe_lc (own := [("one", 2)]) (tt := tYes) rfl sc_journal.nd (pi_tup (pe_prp T.cl_Memory T.p_first (ok_Memory_first T) hg hr (pv 0) (by rfl))) (blkOk_by (N := N_journal) (sc := defScope s_journal) (by decide +kernel)) (fun _ _ _ _ _ => (pg_name (i := 2) sc_journal.nd rfl (Or.inl rfl))) (fun _ _ _ _ _ => pts_nil) (fun _ _ _ _ _ => (pe_callTy call_str_int (by rfl) T.f_str (by decide +kernel) (pa_cons (pv 2) pa_nil)))))))
    (pss_one (ps_ret (pe_join (pe_gs T.c_FEED) (pe_op op_cat (pe_lst (pa_cons (pv 1) pa_nil)) (pe_lc (own := [("deed", 3), ("beats", 4)]) (tt := tYes) rfl sc_journal.nd (pi_tup (pe_fld (pv 0) rfl)) (blkOk_by (N := N_journal) (sc := defScope s_journal) (by decide +kernel)) (fun _ _ _ _ _ => (pg_tupK (K := K) (n := 2) rfl rfl (pgs_cons (pg_name (i := 3) sc_journal.nd rfl (Or.inl rfl)) (pgs_cons (pg_name (i := 4) sc_journal.nd rfl (Or.inl rfl)) pgs_nil)))) (fun _ _ _ _ _ => pts_nil) (fun _ _ _ _ _ => (pe_fn T.g_deed_text (ok_deed_text T) hg hr passL (pa_cons (pv 3) pa_nil))))))))), ?_⟩
  obtain ⟨dx, f, pp, ll, hm⟩ := id hM
  have bd := deal_bd ok
  refine ⟨⟨_, rfl⟩, by show 1 ≤ sizeLine; decide, fun l nl => ?_⟩
  have s1 : Same H (upd H l (.lst [.str "deal"])) := sameN nl
  have el : upd H l (.lst [.str "deal"]) l = some (.lst [.str "deal"]) := upd_same
  generalize upd H l (.lst [.str "deal"]) = H1 at s1 el
  have hM1 := hM.same s1
  refine ⟨.ref m, rfl, m, dx, _, rfl, s1 _ _ hm.i, m, M, rfl, hM1, fun v hv _ => ?_⟩
  obtain ⟨a, rfl, ha⟩ := hv.dealI
  refine ⟨a, rfl, ⟨_, SqT.of ha⟩, fun D hD => ?_⟩
  refine lc_it (walk_tup (xs := [V.int M.first.1, V.int M.first.2.1, V.int M.first.2.2])) (LcP H1 D fun j v _ => ∃ i, [M.first.1, M.first.2.1, M.first.2.2][j]? = some i ∧ v = .str (iS i)) (LcP.zero hD) (fun i H' _ p => SqT.of (p.1 _ _ ha)) (fun i x H' H2 hi p y => ?_) (fun H2 p => ?_)
  · obtain ⟨rfl, hx⟩ := y
    obtain ⟨k, hk, rfl⟩ : ∃ k, [M.first.1, M.first.2.1, M.first.2.2][i]? = some k ∧ x = .int k := by
      match i, hx with
      | 0, h => cases h; exact ⟨_, rfl, rfl⟩
      | 1, h => cases h; exact ⟨_, rfl, rfl⟩
      | 2, h => cases h; exact ⟨_, rfl, rfl⟩
    have b := bd k (List.mem_of_getElem? hk)
    have hi : i < 3 := hi
    exact ⟨rfl, _, rfl, k, rfl, lg_int (by omega), LcP.next (fun _ _ _ _ h _ => h) hD (by omega) p (Same.refl _) ⟨k, hk, rfl⟩⟩
  obtain ⟨s2, hD2⟩ := LcP.mapL (l := [M.first.1, M.first.2.1, M.first.2.2]) (g := fun i => .str (iS i)) p rfl fun i v h => h
  have s12 := s1.trans s2
  refine ⟨l, D, _, _, rfl, rfl, s2 _ _ el, hD2, by show 4 ≤ sizeLine; decide, fun r nr => ?_⟩
  have s3 : Same H2 (upd H2 r (.lst ([V.str "deal"] ++ [M.first.1, M.first.2.1, M.first.2.2].map fun i => .str (iS i)))) := sameN nr
  refine ⟨_, r, dealWords M.first, rfl, rfl, .inl (SqL.of upd_same), Nat.le_trans (dealW_sum ok) (by decide), ?_⟩
  generalize upd H2 r (.lst ([V.str "deal"] ++ [M.first.1, M.first.2.1, M.first.2.2].map fun i => .str (iS i))) = H3 at s3
  have s13 := s12.trans s3
  -- the lines
  refine ⟨⟨_, rfl⟩, _, rfl, by show 1 ≤ sizeLine; decide, fun l2 nl2 => ?_⟩
  change tLc _ _ _ _ _ _ (upd H3 l2 (.lst [.str (dealS M.first)])) _
  have s4 : Same H3 (upd H3 l2 (.lst [.str (dealS M.first)])) := sameN nl2
  have el2 : upd H3 l2 (.lst [.str (dealS M.first)]) l2 = some (.lst [.str (dealS M.first)]) := upd_same
  generalize upd H3 l2 (.lst [.str (dealS M.first)]) = H4 at s4 el2
  have s14 := s13.trans s4
  obtain ⟨pa, ps, S⟩ := (hm.p.s s14).pastI
  obtain rfl := S.e
  have hS := S.n
  have hln : M.past.length = n := by have := congrArg List.length hp; simpa using this
  refine ⟨_, rfl, m, _, dx, _, _, rfl, s14 _ _ hm.i, T.cl_Memory, T.n_own_past, rfl, pa, rfl, ⟨_, SqT.of S.t⟩, fun A hA => ?_⟩
  refine lc_it (walk_tup (xs := ps)) (LcP H4 A fun j v _ => ∃ i, (List.range n)[j]? = some i ∧ v = .str (lineS (i % 7) i)) (LcP.zero hA) (fun i H' _ p => SqT.of (p.1 _ _ S.t)) (fun i x H' H5 hi p y => ?_) (fun H5 p => ?_)
  · obtain ⟨rfl, hx⟩ := y
    obtain ⟨e, he, hxe⟩ := S.i i x hx
    obtain ⟨ea, vd, rfl, hea, hd⟩ := (hxe.s p.1).entryI
    have hi : i < ps.length := hi
    have e1 : e.1 = deedI i := by
      have := congrArg (fun l => l[i]?) hp
      simp only [List.getElem?_map, he, List.getElem?_range (show i < n by omega), Option.map_some, Option.some.injEq] at this
      exact this
    rw [e1] at hd
    exact ⟨ea, _, rfl, SqT.of hea, rfl, _, _, rfl, _, _, rfl, rfl, rfl, _, rfl, vd, i % 7, i, rfl, hd, by omega, by omega, fun H6 s6 _ => LcP.next (fun _ _ _ _ h _ => h) hA (by omega) p s6 ⟨i, List.getElem?_range (by omega), rfl⟩⟩
  · obtain ⟨s5, hA5⟩ := LcP.mapL (l := List.range n) (g := fun i => .str (lineS (i % 7) i)) p (by rw [List.length_range]; omega) fun i v h => h
    refine ⟨l2, A, _, _, rfl, rfl, s5 _ _ el2, hA5, Nat.le_trans (show _ ≤ 300 by simp; omega) (by decide), fun r nr => ?_⟩
    have e6 : [V.str (dealS M.first)] ++ (List.range n).map (fun i => V.str (lineS (i % 7) i)) = (jLines M.first n).map V.str := by
      simp [jLines]
    rw [e6]
    exact ⟨_, r, jLines M.first n, rfl, rfl, .inl (SqL.of upd_same), Nat.le_trans (jLines_sum ok hn) (by decide), q _ ((s14.trans s5).trans (sameN nr))⟩
/-! ### _law_journal: slots day 0, head 1, one 2, deed 3 -/
def sp_law_journal (K : PySem.W.Frag) : Sp := fun vs H Q _ => ∃ (u : V) (D : DayS) (n : Nat), vs = [u] ∧ DayAt H u D ∧ DealOk D.first ∧ D.past = (List.range n).map deedI ∧ n ≤ 200 ∧ ∀ H', Same H H' → Q (.str (jS D.first n)) H'
theorem ok_law_journal (T : Th P K mg base) : GF P w K mg base 3 (He.ga K "_law_journal") ["_law_day_here"] (sp_law_journal K) := by
  refine gf_of T.d_law_journal sc_law_journal (fun vs H Q E h => by obtain ⟨u, D, n, rfl, ⟨a, v1, v2, v3, h⟩, ok, hp, hn, q⟩ := h; rfl) (fun _ _ _ _ _ _ us hl => match us, hl with | [_], _ => rfl) fun cdv A outer s H vs Q E hg hr hsp => ?_
  obtain ⟨u, D, n, rfl, ⟨a, v1, v2, v3, h⟩, ok, hp, hn, q⟩ := hsp
  refine ⟨_, (pss_cons (ps_set (i := 1) sc_law_journal.nd rfl (Or.inl rfl) (pe_op op_add_str pe_str (pe_join pe_str (pe_lc (own := [("_law_one", 2)]) (tt := tYes) rfl sc_law_journal.nd (pi_tup (pe_dget (hu_of hr) (pv 0) pe_str (fun _ _ => rfl))) (blkOk_by (N := N_law_journal) (sc := defScope s_law_journal) (by decide +kernel)) (fun _ _ _ _ _ => (pg_name (i := 2) sc_law_journal.nd rfl (Or.inl rfl))) (fun _ _ _ _ _ => pts_nil) (fun _ _ _ _ _ => (pe_callTy call_str_int (by rfl) T.f_str (by decide +kernel) (pa_cons (pv 2) pa_nil)))))))
    (pss_one (ps_ret (pe_join pe_str (pe_op op_cat (pe_lst (pa_cons (pv 1) pa_nil)) (pe_lc (own := [("_law_deed", 3)]) (tt := tYes) rfl sc_law_journal.nd (pi_list (pe_dget (hu_of hr) (pv 0) pe_str (fun _ _ => rfl))) (blkOk_by (N := N_law_journal) (sc := defScope s_law_journal) (by decide +kernel)) (fun _ _ _ _ _ => (pg_name (i := 3) sc_law_journal.nd rfl (Or.inl rfl))) (fun _ _ _ _ _ => pts_nil) (fun _ _ _ _ _ => (pe_fn T.g_law_line (ok_law_line T) hg hr passL (pa_cons (pv 3) pa_nil))))))))), ?_⟩
  obtain rfl := h.e
  have bd := deal_bd ok
  obtain ⟨fa, rfl, hfa⟩ := h.f.dealI
  obtain ⟨b, xs, S⟩ := h.p.ddsI
  obtain rfl := S.e
  have hS := S.n
  have hln : D.past.length = n := by rw [hp]; simp
  have big : 20000 ≤ sizeLine := by decide
  refine ⟨⟨_, rfl⟩, _, rfl, a, .ref fa, rfl, h.get1, fa, rfl, ⟨_, SqT.of hfa⟩, fun A hA => ?_⟩
  refine lc_it (walk_tup (xs := [V.int D.first.1, V.int D.first.2.1, V.int D.first.2.2])) (LcP H A fun j v _ => ∃ i, [D.first.1, D.first.2.1, D.first.2.2][j]? = some i ∧ v = .str (iS i)) (LcP.zero hA) (fun i H' _ p => SqT.of (p.1 _ _ hfa)) (fun i x H' H2 hi p y => ?_) (fun H2 p => ?_)
  · obtain ⟨rfl, hx⟩ := y
    obtain ⟨k, hk, rfl⟩ : ∃ k, [D.first.1, D.first.2.1, D.first.2.2][i]? = some k ∧ x = .int k := by
      match i, hx with
      | 0, h => cases h; exact ⟨_, rfl, rfl⟩
      | 1, h => cases h; exact ⟨_, rfl, rfl⟩
      | 2, h => cases h; exact ⟨_, rfl, rfl⟩
    have b := bd k (List.mem_of_getElem? hk)
    have hi : i < 3 := hi
    exact ⟨rfl, _, rfl, k, rfl, lg_int (by omega), LcP.next (fun _ _ _ _ h _ => h) hA (by omega) p (Same.refl _) ⟨k, hk, rfl⟩⟩
  obtain ⟨s2, hA2⟩ := LcP.mapL (l := [D.first.1, D.first.2.1, D.first.2.2]) (g := fun i => .str (iS i)) p rfl fun i v h => h
  have h1 := dealW_sum ok
  have e1 : (Str.ofString "deal").length = 4 := by decide +kernel
  have e2 : (Str.ofString " ").length = 1 := by decide +kernel
  have e3 : (Str.ofString "deal ").length = 5 := by decide +kernel
  simp only [dealWords, List.map_cons, List.map_nil, List.sum_cons, List.sum_nil, List.length_cons, List.length_nil, e1, e2] at h1
  have jl := join_len (Str.ofString " ") [iS D.first.1, iS D.first.2.1, iS D.first.2.2]
  simp only [List.map_cons, List.map_nil, List.sum_cons, List.sum_nil, List.length_cons, List.length_nil, e2] at jl
  refine ⟨_, A, [iS D.first.1, iS D.first.2.1, iS D.first.2.2], rfl, rfl, .inl (SqL.of hA2), ?_, _, _, rfl, rfl, ?_, ?_⟩
  · simp only [List.map_cons, List.map_nil, List.sum_cons, List.sum_nil, List.length_cons, List.length_nil]
    omega
  · show (Str.ofString "deal ").length + (Txt.join (Str.ofString " ") [iS D.first.1, iS D.first.2.1, iS D.first.2.2]).length ≤ sizeLine
    omega
  have ed : Str.ofString "deal " ++ Txt.join (Str.ofString " ") [iS D.first.1, iS D.first.2.1, iS D.first.2.2] = dealS D.first := dealS_eq _
  rw [ed]
  refine ⟨⟨_, rfl⟩, _, rfl, by show 1 ≤ sizeLine; decide, fun l2 nl2 => ?_⟩
  have s4 : Same H2 (upd H2 l2 (.lst [.str (dealS D.first)])) := sameN nl2
  have el2 : upd H2 l2 (.lst [.str (dealS D.first)]) l2 = some (.lst [.str (dealS D.first)]) := upd_same
  change tLc _ _ _ _ _ _ (upd H2 l2 (.lst [.str (dealS D.first)])) _
  generalize upd H2 l2 (.lst [.str (dealS D.first)]) = H4 at s4 el2
  have s14 := s2.trans s4
  have h4 := h.k (Kp.of s14)
  refine ⟨_, rfl, a, _, rfl, h4.get2, b, rfl, ⟨_, Or.inl (rd_same S.t s14)⟩, fun B hB => ?_⟩
  refine lc_it (walk_list (xs := xs)) (LcP H4 B fun j v _ => ∃ i, (List.range n)[j]? = some i ∧ v = .str (lineS (i % 7) i)) (LcP.zero hB) (fun i H' _ p => Or.inl (rd_same S.t (s14.trans p.1))) (fun i x H' H5 hi p y => ?_) (fun H5 p => ?_)
  · obtain ⟨rfl, hx⟩ := y
    obtain ⟨e, he, hxe⟩ := S.i i x hx
    have hi : i < xs.length := hi
    have e1 : e = deedI i := by
      rw [hp, List.getElem?_map, List.getElem?_range (show i < n by omega)] at he
      exact (Option.some.inj he).symm
    rw [e1] at hxe
    exact ⟨rfl, _, rfl, x, i % 7, i, rfl, hxe.s (s14.trans p.1), by omega, by omega, fun H6 s6 _ => LcP.next (fun _ _ _ _ h _ => h) hB (by omega) p s6 ⟨i, List.getElem?_range (by omega), rfl⟩⟩
  · obtain ⟨s5, hB5⟩ := LcP.mapL (l := List.range n) (g := fun i => .str (lineS (i % 7) i)) p (by rw [List.length_range]; omega) fun i v h => h
    refine ⟨l2, B, _, _, rfl, rfl, s5 _ _ el2, hB5, Nat.le_trans (show _ ≤ 300 by simp; omega) (by decide), fun r nr => ?_⟩
    have e6 : [V.str (dealS D.first)] ++ (List.range n).map (fun i => V.str (lineS (i % 7) i)) = (jLines D.first n).map V.str := by
      simp [jLines]
    rw [e6]
    exact ⟨_, r, jLines D.first n, rfl, rfl, .inl (SqL.of upd_same), Nat.le_trans (jLines_sum ok hn) (by decide), q _ ((s14.trans s5).trans (sameN nr))⟩
end
end Bp

namespace Bp
open PySem PySem.Spec PyProof.Rows L2 LamX NdefX TL
theorem num_digit {n c : Nat} (h : c ∈ numL n) : 48 ≤ c ∧ c ≤ 57 := by
  by_cases z : c < 48 ∨ 57 < c
  · exact absurd h (numL_free z)
  · omega
theorem num_head : ∀ n : Fin 1000, n.val ≠ 0 → (numL n.val).head? ≠ some 48 := by decide +kernel
theorem tl_nS (n : Nat) : tl (nS n) = numL n := tl_num n
theorem nS_inj0 {n : Nat} (h : nS n = "0") : n = 0 := by
  have e := congrArg tl h
  rw [tl_nS] at e
  have e0 : tl ("0" : Str) = numL 0 := by decide +kernel
  rw [e0] at e
  exact numL_inj e
theorem nS_head {n : Nat} : ∃ c r, numL n = c :: r := by
  cases h : numL n with
  | nil => exact absurd h (numL_ne n)
  | cons c r => exact ⟨c, r, rfl⟩
theorem cut1_tl (z : Str) : tl (cutS z none (some 1)) = (tl z).take 1 := by
  unfold cutS
  rw [show HT.sIx z.length 0 none = 0 from rfl, show HT.sIx z.length z.length (some 1) = min 1 z.length from rfl]
  show ((tl z).drop 0).take (min 1 z.length - 0) = _
  rw [List.drop_zero, Nat.sub_zero, len_tl]
  cases tl z with
  | nil => rfl
  | cons c r => simp
theorem figs : tl ("0123456789" : Str) = [48, 49, 50, 51, 52, 53, 54, 55, 56, 57] := by decide +kernel
section
variable {P : Program} {w : World} {K : PySem.W.Frag} {mg : Str → Option Value} {base : Heap}
/-! ### integer_in: slots word 0, size 1, sign 2 -/
def sp_integer_in (K : PySem.W.Frag) : Sp := fun vs H Q _ => ∃ n : Nat, vs = [.str (nS n)] ∧ n < 1000 ∧ ∀ H', Same H H' → Q (.int n) H'
theorem ok_integer_in (T : Th P K mg base) : GF P w K mg base 1 (He.ga K "integer_in") ["word"] (sp_integer_in K) := by
  refine gf_of T.d_integer_in sc_integer_in (fun vs H Q E h => by obtain ⟨n, rfl, hn, q⟩ := h; rfl) (fun _ _ _ _ _ _ us hl => match us, hl with | [_], _ => rfl) fun cdv A outer s H vs Q E hg hr hsp => ?_
  obtain ⟨n, rfl, hn, q⟩ := hsp
  refine ⟨_, (pss_cons (ps_set (i := 1) sc_integer_in.nd rfl (Or.inl rfl) (pe_ifExp (pt_cmpR op_eq (pe_slice sl_str (pv 0) po_none (po_some pe_int)) pe_str (nomark _)) (pe_slice sl_str (pv 0) (po_some pe_int) po_none) (pv 0)))
    (pss_cons (ps_if (PW.pt (pw_or (pt_cmpR op_eq (pv 1) pe_str (nomark _)) (pw_or1 (pt_not (pt_val (pe_callB (cr_all rfl) (by rfl) T.f_all (by decide +kernel) (pa_cons (pe_lc (own := [("sign", 2)]) (tt := tYes) rfl sc_integer_in.nd (pi_str (pv 1)) (blkOk_by (N := N_integer_in) (sc := defScope s_integer_in) (by decide +kernel)) (fun _ _ _ _ _ => (pg_name (i := 2) sc_integer_in.nd rfl (Or.inl rfl))) (fun _ _ _ _ _ => pts_nil) (fun _ _ _ _ _ => (pe_cmpR op_in_sign (pv 2) (pe_gs T.c_FIGURES) (by rfl)))) pa_nil))))))) (pss_one (ps_ret pe_non)) pss_nil)
    (pss_cons (ps_if (PW.pt (pw_and (pt_cmpR op_eq (pe_ix ix_str (pv 1) pe_int (fun _ _ => rfl)) pe_str (nomark _)) (pw_and1 (pt_cmpR op_ne (pv 0) pe_str (nomark _))))) (pss_one (ps_ret pe_non)) pss_nil)
    (pss_one (ps_ret (pe_callTy call_int_str (by rfl) T.f_int (by decide +kernel) (pa_cons (pv 0) pa_nil))))))), ?_⟩
  obtain ⟨c, r, hcr⟩ := nS_head (n := n)
  have hl := nS_len hn
  have big : 1000 ≤ sizeLine := by decide
  have htl := tl_nS n
  have ne45 : ¬ V.str (cutS (nS n) none (some 1)) = V.str "-" := fun z => by
    have e := congrArg tl (V.str.inj z)
    rw [cut1_tl, htl, hcr] at e
    have e0 : tl ("-" : Str) = [45] := by decide +kernel
    rw [e0] at e
    have := num_digit (n := n) (c := c) (by rw [hcr]; exact List.mem_cons_self)
    simp at e
    omega
  refine seq_with (fun σ H' => H' = H ∧ σ = [some (.str (nS n)), some (.str (nS n)), none]) (fun N hN => ?_) (fun σ H' pm => ?_)
  · exact ⟨_, rfl, _, rfl, _, rfl, by omega, rfl, _, rfl, iteDF ne45 ⟨_, rfl, hN _ _ ⟨rfl, rfl⟩⟩⟩
  obtain ⟨rfl, rfl⟩ := pm
  have ne0 : ¬ V.str (nS n) = V.str "" := fun z => by
    have e := congrArg tl (V.str.inj z)
    rw [htl, hcr] at e
    cases e
  refine ⟨_, rfl, rfl, _, rfl, iteDF ne0 ⟨_, rfl, _, rfl, fun D hD => ?_⟩⟩
  refine lc_it walk_str (LcP H' D fun _ v _ => v = .bl true) (LcP.zero hD) (fun _ _ _ _ => True.intro) (fun i x H2 H3 hi p y => ?_) (fun H2 p => ?_)
  · obtain ⟨rfl, c', hc', rfl⟩ := y
    have hm : c' ∈ numL n := by
      rw [← htl]
      exact List.mem_of_getElem? (by simpa using hc')
    have hd := num_digit hm
    refine ⟨rfl, _, rfl, c', _, rfl, rfl, ?_⟩
    have e : decide (c' ∈ tl ("0123456789" : Str)) = true := decide_eq_true (by rw [figs]; simp; omega)
    have hi' : i < (nS n).length := hi
    refine LcP.next (fun _ _ _ _ h _ => h) hD (by omega) p (Same.refl _) (congrArg V.bl e)
  · obtain ⟨s3, hl3⟩ := LcP.map (f := fun _ => .bl true) p fun _ _ _ h => h
    refine ⟨D, (List.range (nS n).cps.size).map fun _ => true, rfl, SqL.of (by rw [List.map_map]; exact hl3), ?_⟩
    rw [show ((List.range (nS n).cps.size).map fun _ => true).all id = true by simp]
    refine ⟨true, rfl, iteF ?_⟩
    refine ⟨_, rfl, _, 0, c, rfl, rfl, by omega, ?_, rfl, _, rfl, ?_⟩
    · show atI (tl (nS n)) 0 = some c
      rw [htl, hcr]
      exact atI_nat (xs := c :: r) (j := 0) rfl
    by_cases h0 : n = 0
    · subst h0
      obtain ⟨rfl, rfl⟩ : c = 48 ∧ r = [] := by
        have : numL 0 = [48] := by decide +kernel
        rw [this] at hcr
        cases hcr
        exact ⟨rfl, rfl⟩
      refine iteD (by decide +kernel) ⟨_, rfl, rfl, _, rfl, ?_⟩
      rw [show (!decide (V.str (nS 0) = V.str "0")) = false by decide +kernel]
      exact iteF ⟨_, rfl, _, 0, rfl, int_num (n := 0) (by rw [← tl_nS, ← len_tl]; omega), by omega, q _ s3⟩
    · refine iteDF (fun z => ?_) ⟨_, rfl, _, n, rfl, int_num (by rw [← tl_nS, ← len_tl]; omega), by omega, q _ s3⟩
      have e := congrArg tl (V.str.inj z)
      have e0 : tl ("0" : Str) = [48] := by decide +kernel
      rw [e0] at e
      have e : [c] = [48] := e
      have := num_head ⟨n, hn⟩ h0
      rw [show numL (⟨n, hn⟩ : Fin 1000).val = numL n from rfl, hcr] at this
      simp at this e
      exact this e
/-! ### integers_in: slots words 0, found 1, word 2 -/
def sp_integers_in (K : PySem.W.Frag) : Sp := fun vs H Q _ => ∃ (l : Addr) (ns : List Nat), vs = [.ref l] ∧ H l = some (.lst (ns.map fun n => .str (nS n))) ∧ ns.length ≤ 100 ∧ (∀ n ∈ ns, n < 1000) ∧ ∀ H' r, Same H H' → H' r = some (.tup (ns.map fun (n : Nat) => V.int (n : Int))) → Q (.ref r) H'
theorem flat_ints : ∀ (ns : List Nat), (ns.map fun (n : Nat) => V.int (n : Int)).all flatV = true
  | [] => rfl
  | _ :: r => by rw [List.map_cons, List.all_cons, flat_ints r]; rfl
theorem no_none : ∀ (ns : List Nat), inV .non (ns.map fun (n : Nat) => V.int (n : Int)) = false
  | [] => rfl
  | _ :: r => by
    have ih := no_none r
    unfold inV at ih ⊢
    rw [List.map_cons, List.any_cons, ih]
    rfl
theorem ok_integers_in (T : Th P K mg base) : GF P w K mg base 2 (He.ga K "integers_in") ["words"] (sp_integers_in K) := by
  refine gf_of T.d_integers_in sc_integers_in (fun vs H Q E h => by obtain ⟨l, ns, rfl, hl, ln, hns, q⟩ := h; rfl) (fun _ _ _ _ _ _ us hl => match us, hl with | [_], _ => rfl) fun cdv A outer s H vs Q E hg hr hsp => ?_
  obtain ⟨l, ns, rfl, hl, ln, hns, q⟩ := hsp
  refine ⟨_, (pss_cons (ps_setLc (i := 1) (own := [("word", 2)]) (tt := tYes) rfl sc_integers_in.nd rfl rfl (sw_true rfl rfl rfl (by decide +kernel)) (pi_list (pv 0)) (blkOk_by (N := N_integers_in) (sc := defScope s_integers_in) (by decide +kernel)) (fun _ _ _ _ _ => (pg_name (i := 2) sc_integers_in.nd rfl (Or.inl rfl))) (fun _ _ _ _ _ => pts_nil) (fun _ _ _ _ _ => (pe_fn T.g_integer_in (ok_integer_in T) hg hr passL (pa_cons (pv 2) pa_nil))))
    (pss_one (ps_ret (pe_ifExp (pt_cmpR op_in_seq pe_non (pv 1) (by rfl)) pe_non (pe_callTy call_tuple_of (by rfl) T.f_tuple (by decide +kernel) (pa_cons (pv 1) pa_nil)))))), ?_⟩
  refine ⟨_, rfl, l, rfl, ⟨_, SqL.of hl⟩, fun D hD => ?_⟩
  refine lc_it (walk_list (xs := ns.map fun n => .str (nS n))) (LcP H D fun j v _ => ∃ n, ns[j]? = some n ∧ v = .int (n : Int)) (LcP.zero hD) (fun i H' _ p => SqL.of (p.1 _ _ hl)) (fun i x H' H2 hi p y => ?_) (fun H2 p => ?_)
  · obtain ⟨rfl, hx⟩ := y
    obtain ⟨n, hn, rfl⟩ : ∃ n, ns[i]? = some n ∧ x = .str (nS n) := by
      rw [List.getElem?_map] at hx
      cases e : ns[i]? with
      | none => rw [e] at hx; cases hx
      | some n => rw [e] at hx; exact ⟨n, rfl, (Option.some.inj hx).symm⟩
    have hi : i < (ns.map fun n => V.str (nS n)).length := hi
    rw [List.length_map] at hi
    exact ⟨rfl, _, rfl, n, rfl, hns n (List.mem_of_getElem? hn), fun H3 s3 _ => LcP.next (fun _ _ _ _ h _ => h) hD (by omega) p s3 ⟨n, hn, rfl⟩⟩
  · obtain ⟨s2, hD2⟩ := LcP.mapL (l := ns) (g := fun (n : Nat) => .int (n : Int)) p (by rw [List.length_map]) fun i v h => h
    refine ⟨_, rfl, D, _, rfl, .inl (SqL.of hD2), rfl, flat_ints ns, _, rfl, ?_⟩
    rw [if_neg (by decide), no_none]
    refine iteF ⟨_, rfl, D, _, rfl, .inl ⟨SqL.of hD2, fun r nr => q _ r (s2.trans (sameN nr)) upd_same⟩⟩
/-! ### cell_in: slots word 0, numbers 1 -/
def pairS (a b : Nat) : Str := Txt.join "," [nS a, nS b]
theorem sp_comma {a b : Nat} : Txt.split (pairS a b) "," = [nS a, nS b] := by
  refine split_join (s := 44) (S := []) (by decide +kernel) (by decide +kernel) (by simp) fun p hp => ?_
  simp only [List.mem_cons, List.not_mem_nil, or_false] at hp
  rcases hp with rfl | rfl
  · rw [tl_nS]; exact numL_free (by decide)
  · rw [tl_nS]; exact numL_free (by decide)
theorem pairS_len {a b : Nat} (ha : a < 1000) (hb : b < 1000) : (pairS a b).length ≤ 20 := by
  have h := join_len "," [nS a, nS b]
  have h1 := nS_len ha
  have h2 := nS_len hb
  have e : (Str.ofString ",").length = 1 := by decide +kernel
  simp only [List.map_cons, List.map_nil, List.sum_cons, List.sum_nil, List.length_cons, List.length_nil, e] at h
  unfold pairS
  omega
def sp_cell_in (K : PySem.W.Frag) : Sp := fun vs H Q _ => ∃ a b : Nat, vs = [.str (pairS a b)] ∧ a < 1000 ∧ b < 1000 ∧ ∀ H' r, Same H H' → H' r = some (.tup [.int a, .int b]) → Q (.ref r) H'
theorem ok_cell_in (T : Th P K mg base) : GF P w K mg base 3 (He.ga K "cell_in") ["word"] (sp_cell_in K) := by
  refine gf_of T.d_cell_in sc_cell_in (fun vs H Q E h => by obtain ⟨a, b, rfl, ha, hb, q⟩ := h; rfl) (fun _ _ _ _ _ _ us hl => match us, hl with | [_], _ => rfl) fun cdv A outer s H vs Q E hg hr hsp => ?_
  obtain ⟨a, b, rfl, ha, hb, q⟩ := hsp
  refine ⟨_, (pss_cons (ps_set (i := 1) sc_cell_in.nd rfl (Or.inl rfl) (pe_fn T.g_integers_in (ok_integers_in T) hg hr passL (pa_cons (pe_split (pv 0) pe_str) pa_nil)))
    (pss_one (ps_ret (pe_ifExp (PW.pt (pw_and (pt_cmpR op_notN (pv 1) pe_non (nomark _)) (pw_and1 (pt_cmpR op_eq (pe_callB call_len_seq (by rfl) T.f_len (by decide +kernel) (pa_cons (pv 1) pa_nil)) pe_int (nomark _))))) (pv 1) pe_non)))), ?_⟩
  have hl := pairS_len ha hb
  have big : 1000 ≤ sizeLine := by decide
  refine ⟨_, rfl, ⟨_, rfl⟩, _, _, rfl, rfl, by decide +kernel, by omega, fun l nl => ?_⟩
  rw [sp_comma]
  refine ⟨l, [a, b], rfl, upd_same, by show 2 ≤ 100; decide, fun n hn => ?_, fun H1 r s1 er _ => ?_⟩
  · simp only [List.mem_cons, List.not_mem_nil, or_false] at hn
    rcases hn with rfl | rfl
    · exact ha
    · exact hb
  · refine ⟨_, rfl, rfl, _, rfl, iteT ⟨_, rfl, r, _, rfl, .inr (SqT.of er), rfl, _, rfl, iteD rfl ⟨_, rfl, q _ r ((sameN nl).trans s1) er⟩⟩⟩
/-! ### cells_in: slots words 0, found 1, word 2 -/
def sp_cells_in (K : PySem.W.Frag) : Sp := fun vs H Q _ => ∃ (l : Addr) (a b : Nat), vs = [.ref l] ∧ H l = some (.lst [.str (pairS a b)]) ∧ a < 1000 ∧ b < 1000 ∧ ∀ H' v, Same H H' → Im H' v (dShape [((a : Int), (b : Int))]) → (∃ r, v = .ref r) → Q v H'
theorem hu65 {k : Nat} {A : Around} (hr : Room k A) : A.units + 65 < cLine := by have := hr.un; omega
theorem ok_cells_in (T : Th P K mg base) : GF P w K mg base 4 (He.ga K "cells_in") ["words"] (sp_cells_in K) := by
  refine gf_of T.d_cells_in sc_cells_in (fun vs H Q E h => by obtain ⟨l, a, b, rfl, hl, ha, hb, q⟩ := h; rfl) (fun _ _ _ _ _ _ us hl => match us, hl with | [_], _ => rfl) fun cdv A outer s H vs Q E hg hr hsp => ?_
  obtain ⟨l, a, b, rfl, hl, ha, hb, q⟩ := hsp
  refine ⟨_, (pss_cons (ps_setLc (i := 1) (own := [("word", 2)]) (tt := tYes) rfl sc_cells_in.nd rfl rfl (sw_true rfl rfl rfl (by decide +kernel)) (pi_list (pv 0)) (blkOk_by (N := N_cells_in) (sc := defScope s_cells_in) (by decide +kernel)) (fun _ _ _ _ _ => (pg_name (i := 2) sc_cells_in.nd rfl (Or.inl rfl))) (fun _ _ _ _ _ => pts_nil) (fun _ _ _ _ _ => (pe_fn T.g_cell_in (ok_cell_in T) hg hr passL (pa_cons (pv 2) pa_nil))))
    (pss_one (ps_ret (pe_ifExp (pt_cmpR (op_inD (hu65 hr)) pe_non (pv 1) (by rfl)) pe_non (pe_callTy call_tuple_frz (by rfl) T.f_tuple (by decide +kernel) (pa_cons (pv 1) pa_nil)))))), ?_⟩
  refine ⟨_, rfl, l, rfl, ⟨_, SqL.of hl⟩, fun D hD => ?_⟩
  refine lc_it (walk_list (xs := [V.str (pairS a b)])) (LcP H D fun j v H => Im H v (dCell ((a : Int), (b : Int)))) (LcP.zero hD) (fun i H' _ p => SqL.of (p.1 _ _ hl)) (fun i x H' H2 hi p y => ?_) (fun H2 p => ?_)
  · obtain ⟨rfl, hx⟩ := y
    have hi : i < 1 := hi
    obtain rfl : i = 0 := by omega
    cases hx
    exact ⟨rfl, _, rfl, a, b, rfl, ha, hb, fun H3 r s3 er _ => LcP.next (fun _ _ _ _ h k => h.k k) hD (by decide) p s3 (.cell er)⟩
  · obtain ⟨s2, acc, eD, la, hacc⟩ := p
    have la : acc.length = 1 := la
    obtain ⟨v, rfl⟩ : ∃ v, acc = [v] := by
      match acc, la with
      | [v], _ => exact ⟨v, rfl⟩
    have hv := hacc 0 v rfl
    refine ⟨_, rfl, .none, [dCell ((a : Int), (b : Int))], .non, .lst (SqL.of eD) (.cons hv.d .nil), shp (by decide) (by decide), shp (by rfl) (by show (PyData.list [.tuple [.int _, .int _]]).depth ≤ 64; simp [PyData.depth, PyData.depthAll]), _, rfl, ?_⟩
    rw [show ([dCell ((a : Int), (b : Int))].any fun z => PyData.eqv z .none) = false by rfl]
    refine iteF ⟨_, rfl, D, [v], rfl, SqL.of eD, fun r o nr od => q _ _ (s2.trans (sameN nr)) (.shape upd_same od (.cons (hv.s (sameN nr)) .nil) (by simp)) ⟨r, rfl⟩⟩
end
end Bp

namespace Bp
open PySem PySem.Spec PyProof.Rows L2 LamX NdefX TL
theorem ite_ne {A B : Prop} {x y : V} (e : x = y) (h : B) : if (!decide (x = y)) = true then A else B := by rw [decide_eq_true e]; exact h
def rLenS (K : PySem.W.Frag) : List V → Hp → VK → Prop := fun xs H Q => ∃ p ys, xs = [V.ref p] ∧ (SqL K H p ys ∨ SqT K H p ys) ∧ Q (V.int ys.length) H
theorem call_len_seqK {X : Cx} {K : PySem.W.Frag} (hK : X.K = K) : CallR X (.builtin "len") (rLenS K) := hK ▸ call_len_seq
theorem cellS_eq (k : Nat) : cellS k = Txt.join "=" [pairS 0 0, nS k] := by
  unfold cellS pairS
  rw [join_eq, join_eq]
  rfl
theorem sp_eq (k : Nat) : Txt.split (cellS k) "=" = [pairS 0 0, nS k] := by
  rw [cellS_eq]
  refine split_join (s := 61) (S := []) (by decide +kernel) (by decide +kernel) (by simp) fun p hp => ?_
  simp only [List.mem_cons, List.not_mem_nil, or_false] at hp
  rcases hp with rfl | rfl
  · decide +kernel
  · rw [tl_nS]; exact numL_free (by decide)
theorem cellS_free (k s : Nat) (h : s < 44 ∨ 61 < s) : s ∉ tl (cellS k) := by
  unfold cellS
  rw [tl_append, tl_append, tl_append, tl_append]
  have h1 : tl (Str.ofString ",") = [44] := by decide +kernel
  have h2 : tl (Str.ofString "=") = [61] := by decide +kernel
  have n0 : ∀ n, s ∉ tl (nS n) := fun n => by rw [tl_nS]; exact numL_free (by omega)
  simp only [List.mem_append, h1, h2, List.mem_singleton, n0, false_or, or_false]
  omega
theorem wordsL_free {x k s : Nat} (h : s < 44) : ∀ p ∈ wordsL x k, s ∉ tl p := by
  intro p hp
  simp only [wordsL, List.mem_cons, List.not_mem_nil, or_false] at hp
  rcases hp with rfl | rfl | rfl | rfl
  · have e : tl ("write" : Str) = [119, 114, 105, 116, 101] := by decide +kernel
    rw [e]
    simp
    omega
  · rw [tl_nS]; exact numL_free (by omega)
  · rw [tl_nS]; exact numL_free (by omega)
  · exact cellS_free k s (by omega)
theorem sp_line (x k : Nat) : Txt.split (lineS x k) " " = wordsL x k :=
  split_join (s := 32) (S := []) (by decide +kernel) (by decide +kernel) (by simp [wordsL]) (wordsL_free (by decide))
theorem ok_nS (k : Nat) : PyData.strOk (nS k) = true := by
  unfold PyData.strOk
  rw [Array.all_eq_true']
  intro c hc
  have hm : c ∈ numL k := by
    rw [← tl_nS]
    exact Array.mem_toList_iff.mpr hc
  have := num_digit hm
  simp
  omega
theorem nb_pair (k : Nat) : nb (.list [.list [.str (pairS 0 0), .str (nS k)]]) = true := by
  simp only [nb, nbAll, ok_nS, Bool.and_true]
  decide +kernel
section
variable {P : Program} {w : World} {K : PySem.W.Frag} {mg : Str → Option Value} {base : Heap}
/-! ### write_in: slots words 0, place 1, pairs 2, word 3, pair 4, shape 5, numbers 6 -/
def sp_write_in (K : PySem.W.Frag) : Sp := fun vs H Q _ => ∃ (l : Addr) (x k : Nat), vs = [.ref l] ∧ H l = some (.lst [.str (nS x), .str (nS 0), .str (cellS k)]) ∧ x < 1000 ∧ k < 1000 ∧ ∀ H' r, Same H H' → Im H' (.ref r) (dDeed (deedW x k)) → Q (.ref r) H'
theorem ok_write_in (T : Th P K mg base) : GF P w K mg base 5 (He.ga K "write_in") ["words"] (sp_write_in K) := by
  refine gf_of T.d_write_in sc_write_in (fun vs H Q E h => by obtain ⟨l, x, k, rfl, hl, hx, hk, q⟩ := h; rfl) (fun _ _ _ _ _ _ us hl => match us, hl with | [_], _ => rfl) fun cdv A outer s H vs Q E hg hr hsp => ?_
  obtain ⟨l, x, k, rfl, hl, hx, hk, q⟩ := hsp
  refine ⟨_, (pss_cons (ps_par (by rfl) sc_write_in.nd (i := 1) (j := 2) rfl rfl (by decide) rfl rfl (pa_cons (pe_fn T.g_integers_in (ok_integers_in T) hg hr passL (pa_cons (pe_slice sl_list (pv 0) po_none (po_some pe_int)) pa_nil)) (pa_cons (pe_lc (own := [("word", 3)]) (tt := tYes) rfl sc_write_in.nd (pi_list (pe_slice sl_list (pv 0) (po_some pe_int) po_none)) (blkOk_by (N := N_write_in) (sc := defScope s_write_in) (by decide +kernel)) (fun _ _ _ _ _ => (pg_name (i := 3) sc_write_in.nd rfl (Or.inl rfl))) (fun _ _ _ _ _ => pts_nil) (fun _ _ _ _ _ => (pe_frz (pe_split (pv 3) pe_str)))) pa_nil)) (by rfl))
    (pss_cons (ps_if (PW.pt (pw_or (pt_cmpR op_isN (pv 1) pe_non (nomark _)) (pw_or (pt_cmpR op_ne (pe_callB call_len_seq (by rfl) T.f_len (by decide +kernel) (pa_cons (pv 1) pa_nil)) pe_int (nomark _)) (pw_or (pt_cmpR (op_eqD hr.units) (pv 2) (pe_lst pa_nil) (nomark _)) (pw_or1 (pt_not (pt_val (pe_callB (cr_all rfl) (by rfl) T.f_all (by decide +kernel) (pa_cons (pe_lc (own := [("pair", 4)]) (tt := tYes) rfl sc_write_in.nd (pi_list (pv 2)) (blkOk_by (N := N_write_in) (sc := defScope s_write_in) (by decide +kernel)) (fun _ _ _ _ _ => (pg_name (i := 4) sc_write_in.nd rfl (Or.inl rfl))) (fun _ _ _ _ _ => pts_nil) (fun _ _ _ _ _ => (pe_cmpR op_eq (pe_callB (call_len_seqK (K := K) rfl) (by rfl) T.f_len (by decide +kernel) (pa_cons (pv 4) pa_nil)) pe_int (nomark _)))) pa_nil))))))))) (pss_one (ps_ret pe_non)) pss_nil)
    (pss_cons (ps_par (by rfl) sc_write_in.nd (i := 5) (j := 6) rfl rfl (by decide) rfl rfl (pa_cons (pe_fn T.g_cells_in (ok_cells_in T) hg hr passL (pa_cons (pe_lc (own := [("pair", 4)]) (tt := tYes) rfl sc_write_in.nd (pi_list (pv 2)) (blkOk_by (N := N_write_in) (sc := defScope s_write_in) (by decide +kernel)) (fun _ _ _ _ _ => (pg_name (i := 4) sc_write_in.nd rfl (Or.inl rfl))) (fun _ _ _ _ _ => pts_nil) (fun _ _ _ _ _ => (pe_ix (ix_listK (K := K) rfl) (pv 4) pe_int (fun _ _ => rfl)))) pa_nil)) (pa_cons (pe_fn T.g_integers_in (ok_integers_in T) hg hr passL (pa_cons (pe_lc (own := [("pair", 4)]) (tt := tYes) rfl sc_write_in.nd (pi_list (pv 2)) (blkOk_by (N := N_write_in) (sc := defScope s_write_in) (by decide +kernel)) (fun _ _ _ _ _ => (pg_name (i := 4) sc_write_in.nd rfl (Or.inl rfl))) (fun _ _ _ _ _ => pts_nil) (fun _ _ _ _ _ => (pe_ix (ix_listK (K := K) rfl) (pv 4) pe_int (fun _ _ => rfl)))) pa_nil)) pa_nil)) (by rfl))
    (pss_one (ps_ret (pe_ifExp (PW.pt (pw_or (pt_cmpR op_isN (pv 5) pe_non (nomark _)) (pw_or1 (pt_cmpR op_isN (pv 6) pe_non (nomark _))))) pe_non (pe_tup (pa_cons (pe_gs T.c_WRITE) (pa_cons (pv 5) (pa_cons (pv 1) (pa_cons (pv 6) pa_nil))))))))))), ?_⟩
  have hcl := cellS_len hk
  have big : 1000 ≤ sizeLine := by decide
  have c1 : cutV [V.str (nS x), .str (nS 0), .str (cellS k)] none (some 2) = [.str (nS x), .str (nS 0)] := rfl
  have c2 : cutV [V.str (nS x), .str (nS 0), .str (cellS k)] (some 2) none = [.str (cellS k)] := rfl
  refine ⟨_, rfl, _, rfl, l, _, rfl, SqL.of hl, fun p1 np1 => ?_⟩
  rw [c1]
  have s1 : Same H (upd H p1 (.lst [.str (nS x), .str (nS 0)])) := sameN np1
  have e1 : upd H p1 (.lst [.str (nS x), .str (nS 0)]) p1 = some (.lst [.str (nS x), .str (nS 0)]) := upd_same
  refine ⟨p1, [x, 0], rfl, e1, by show 2 ≤ 100; decide, fun n hn => ?_, fun H1 r t1 er _ => ?_⟩
  · simp only [List.mem_cons, List.not_mem_nil, or_false] at hn
    rcases hn with rfl | rfl
    · exact hx
    · decide
  have er : H1 r = some (.tup [.int x, .int (0 : Nat)]) := er
  have s01 : Same H H1 := s1.trans t1
  refine ⟨_, rfl, _, rfl, l, _, rfl, SqL.of (s01 _ _ hl), fun p2 np2 => ?_⟩
  rw [c2]
  have s2 : Same H1 (upd H1 p2 (.lst [.str (cellS k)])) := sameN np2
  have e2 : upd H1 p2 (.lst [.str (cellS k)]) p2 = some (.lst [.str (cellS k)]) := upd_same
  generalize upd H1 p2 (.lst [.str (cellS k)]) = H2 at s2 e2
  refine ⟨p2, rfl, ⟨_, SqL.of e2⟩, fun D hD => ?_⟩
  refine lc_it (walk_list (xs := [V.str (cellS k)])) (LcP H2 D fun _ v H => ∃ t o, v = .ref t ∧ H t = some (.frz o (.lst [.str (pairS 0 0), .str (nS k)]))) (LcP.zero hD) (fun i H' _ p => SqL.of (p.1 _ _ e2)) (fun i y H' H3 hi p yy => ?_) (fun H3 p => ?_)
  · obtain ⟨rfl, hy⟩ := yy
    have hi : i < 1 := hi
    obtain rfl : i = 0 := by omega
    cases hy
    refine ⟨rfl, _, rfl, ⟨_, rfl⟩, _, _, rfl, rfl, by decide +kernel, by omega, fun t nt => ⟨t, _, rfl, upd_same, True.intro, fun o => ?_⟩⟩
    rw [sp_eq]
    obtain ⟨s5, e5⟩ := frz_new (u := .lst ([pairS 0 0, nS k].map V.str)) (o := o) nt
    exact LcP.next (fun j v H H' ⟨t, o, e, h⟩ kk => ⟨t, o, e, kk.frz _ _ _ h⟩) hD (by decide) p s5 ⟨t, o, rfl, e5⟩
  obtain ⟨s3, acc, eD, la, hacc⟩ := p
  have la : acc.length = 1 := la
  obtain ⟨v, rfl⟩ : ∃ v, acc = [v] := by
    match acc, la with
    | [v], _ => exact ⟨v, rfl⟩
  obtain ⟨t, o, rfl, ht⟩ := hacc 0 v rfl
  have s13 := s2.trans s3
  have er3 := s13 _ _ er
  refine ⟨_, _, rfl, ?_⟩
  refine ⟨_, rfl, rfl, _, rfl, iteF ⟨_, rfl, r, _, rfl, .inr (SqT.of er3), rfl, _, rfl, ite_ne rfl ?_⟩⟩
  refine ⟨_, rfl, Nat.zero_le _, fun p5 np5 => ⟨.list [.list [.str (pairS 0 0), .str (nS k)]], _, .lst (SqL.of (sameN np5 _ _ eD)) (.cons (.lst (.inl (.inr ⟨o, sameN np5 _ _ ht⟩)) (.cons (.str _) (.cons (.str _) .nil))) .nil), .lst (SqL.of upd_same) .nil, shp (nb_pair k) (by simp [PyData.depth, PyData.depthAll]), shp_nil, _, rfl, ?_⟩⟩
  rw [eqv_no (nb_pair k) (by simp only [nb, nbAll]) (by simp)]
  have s5 : Same H3 (upd H3 p5 (.lst [])) := sameN np5
  generalize upd H3 p5 (.lst []) = H5 at s5
  have eD5 := s5 _ _ eD
  have ht5 := s5 _ _ ht
  refine iteF ⟨_, rfl, D, rfl, ⟨_, SqL.of eD5⟩, fun A hA => ?_⟩
  refine lc_it (walk_list (xs := [V.ref t])) (LcP H5 A fun _ v _ => v = .bl true) (LcP.zero hA) (fun i H' _ p => SqL.of (p.1 _ _ eD5)) (fun i y H' H6 hi p yy => ?_) (fun H6 p => ?_)
  · obtain ⟨rfl, hy⟩ := yy
    have hi : i < 1 := hi
    obtain rfl : i = 0 := by omega
    cases hy
    exact ⟨rfl, _, rfl, t, _, rfl, .inl (.inl (.inr ⟨o, p.1 _ _ ht5⟩)), rfl, LcP.next (fun _ _ _ _ h _ => h) hA (by decide) p (Same.refl _) rfl⟩
  obtain ⟨s6, hA6⟩ := LcP.map (f := fun _ => .bl true) p fun _ _ _ h => h
  refine ⟨A, [true], rfl, SqL.of hA6, true, rfl, iteF ?_⟩
  -- the cells, the numbers
  have eD6 := s6 _ _ eD5
  have ht6 := s6 _ _ ht5
  have er6 := s6 _ _ (s5 _ _ er3)
  refine ⟨_, rfl, D, rfl, ⟨_, SqL.of eD6⟩, fun B hB => ?_⟩
  refine lc_it (walk_list (xs := [V.ref t])) (LcP H6 B fun _ v _ => v = .str (pairS 0 0)) (LcP.zero hB) (fun i H' _ p => SqL.of (p.1 _ _ eD6)) (fun i y H' H7 hi p yy => ?_) (fun H7 p => ?_)
  · obtain ⟨rfl, hy⟩ := yy
    have hi : i < 1 := hi
    obtain rfl : i = 0 := by omega
    cases hy
    exact ⟨rfl, _, rfl, t, _, 0, _, rfl, rfl, .inl (.inr ⟨o, p.1 _ _ ht6⟩), rfl, LcP.next (fun _ _ _ _ h _ => h) hB (by decide) p (Same.refl _) rfl⟩
  obtain ⟨s7, hB7⟩ := LcP.map (f := fun _ => .str (pairS 0 0)) p fun _ _ _ h => h
  refine ⟨B, 0, 0, rfl, hB7, by decide, by decide, fun H8 v s8 hv hv2 _ => ?_⟩
  obtain ⟨va, rfl⟩ := hv2
  have s68 := s7.trans s8
  have eD8 := s68 _ _ eD6
  have ht8 := s68 _ _ ht6
  refine ⟨_, rfl, D, rfl, ⟨_, SqL.of eD8⟩, fun C hC => ?_⟩
  refine lc_it (walk_list (xs := [V.ref t])) (LcP H8 C fun _ v _ => v = .str (nS k)) (LcP.zero hC) (fun i H' _ p => SqL.of (p.1 _ _ eD8)) (fun i y H' H7 hi p yy => ?_) (fun H9 p => ?_)
  · obtain ⟨rfl, hy⟩ := yy
    have hi : i < 1 := hi
    obtain rfl : i = 0 := by omega
    cases hy
    exact ⟨rfl, _, rfl, t, _, 1, _, rfl, rfl, .inl (.inr ⟨o, p.1 _ _ ht8⟩), rfl, LcP.next (fun _ _ _ _ h _ => h) hC (by decide) p (Same.refl _) rfl⟩
  obtain ⟨s9, hC9⟩ := LcP.map (f := fun _ => .str (nS k)) p fun _ _ _ h => h
  refine ⟨C, [k], rfl, hC9, by show 1 ≤ 100; decide, fun n hn => ?_, fun H10 r2 s10 er2 _ => ⟨_, _, rfl, ?_⟩⟩
  · rw [List.mem_singleton.mp hn]
    exact hk
  have er2 : H10 r2 = some (.tup [.int k]) := er2
  have s810 := s9.trans s10
  refine ⟨_, rfl, rfl, _, rfl, iteF ⟨_, rfl, rfl, _, rfl, iteF ⟨_, rfl, _, rfl, _, rfl, by show 4 ≤ sizeLine; decide, fun z nz => ?_⟩⟩⟩
  have s11 : Same H10 (upd H10 z (.tup [.str "write", .ref va, .ref r, .ref r2])) := sameN nz
  refine q _ z (((s01.trans s13).trans (s5.trans s6)).trans ((s68.trans s810).trans s11)) (.write upd_same (hv.s (s810.trans s11)) ?_ ?_)
  · exact Im.cell (s11 _ _ (s810 _ _ (s68 _ _ er6)))
  · exact Im.ints (s11 _ _ er2)
/-! ### deed_in: slots line 0, words 1, numbers 2 -/
def sp_deed_in (K : PySem.W.Frag) : Sp := fun vs H Q _ => ∃ x k : Nat, vs = [.str (lineS x k)] ∧ x < 1000 ∧ k < 1000 ∧ ∀ H' r, Same H H' → Im H' (.ref r) (dDeed (deedW x k)) → Q (.ref r) H'
theorem ok_deed_in (T : Th P K mg base) : GF P w K mg base 6 (He.ga K "deed_in") ["line"] (sp_deed_in K) := by
  refine gf_of T.d_deed_in sc_deed_in (fun vs H Q E h => by obtain ⟨x, k, rfl, hx, hk, q⟩ := h; rfl) (fun _ _ _ _ _ _ us hl => match us, hl with | [_], _ => rfl) fun cdv A outer s H vs Q E hg hr hsp => ?_
  obtain ⟨x, k, rfl, hx, hk, q⟩ := hsp
  refine ⟨_, (pss_cons (ps_set (i := 1) sc_deed_in.nd rfl (Or.inl rfl) (pe_split (pv 0) (pe_gs T.c_BLANK)))
    (pss_cons (ps_if (pt_cmpR op_eq (pe_ix ix_list (pv 1) pe_int (fun _ _ => rfl)) (pe_gs T.c_WRITE) (nomark _)) (pss_one (ps_ret (pe_fn T.g_write_in (ok_write_in T) hg hr passL (pa_cons (pe_slice sl_list (pv 1) (po_some pe_int) po_none) pa_nil)))) pss_nil)
    (pss_cons (ps_set (i := 2) sc_deed_in.nd rfl (Or.inl rfl) (pe_fn T.g_integers_in (ok_integers_in T) hg hr passL (pa_cons (pe_slice sl_list (pv 1) (po_some pe_int) po_none) pa_nil)))
    (pss_one (ps_ret (pe_ifExp (PW.pt (pw_and (pt_cmpR op_eq (pe_ix ix_list (pv 1) pe_int (fun _ _ => rfl)) (pe_gs T.c_ANEW) (nomark _)) (pw_and (pt_cmpR op_notN (pv 2) pe_non (nomark _)) (pw_and1 (pt_cmpR op_eq (pe_callB call_len_seq (by rfl) T.f_len (by decide +kernel) (pa_cons (pv 2) pa_nil)) pe_int (nomark _)))))) (pe_tup (pa_cons (pe_gs T.c_ANEW) (pa_cons (pv 2) pa_nil))) pe_non)))))), ?_⟩
  have hll := lineS_len hx hk
  have big : 1000 ≤ sizeLine := by decide
  refine ⟨_, rfl, ⟨_, rfl⟩, _, _, rfl, rfl, by decide +kernel, by omega, fun l nl => ?_⟩
  rw [sp_line]
  have s1 : Same H (upd H l (.lst ((wordsL x k).map V.str))) := sameN nl
  have el : upd H l (.lst ((wordsL x k).map V.str)) l = some (.lst [.str "write", .str (nS x), .str (nS 0), .str (cellS k)]) := upd_same
  generalize upd H l (.lst ((wordsL x k).map V.str)) = H1 at s1 el
  refine ⟨_, rfl, l, _, 0, _, rfl, rfl, SqL.of el, rfl, rfl, _, rfl, iteD rfl ⟨_, rfl, _, rfl, l, _, rfl, SqL.of el, fun p np => ?_⟩⟩
  refine ⟨p, x, k, rfl, upd_same, hx, hk, fun H2 r s2 hr _ => q H2 r ((s1.trans (sameN np)).trans s2) hr⟩
end
end Bp

namespace Bp
open PySem PySem.Spec PyProof.Rows L2 LamX NdefX TL
/-! ### plain -/
theorem one_ok : ShapeOk [(0, 0)] := by
  refine ⟨by simp, by decide, by simp, fun c hc => ?_, rfl, rfl, ?_⟩
  · rw [List.mem_singleton.mp hc]
    decide
  · simp [SrtO.Srtd]
theorem deedW_ok {x k : Nat} (hx : x ≤ 1000) (hk : k < 1000) : DeedOk (deedW x k) := by
  refine ⟨one_ok, rfl, fun n hn => ?_, ?_, ?_, (show (-1000 : Int) ≤ 0 by decide), (show (0 : Int) ≤ 1000 by decide)⟩
  · rw [List.mem_singleton.mp hn]
    omega
  · show -1000 ≤ (x : Int)
    omega
  · show (x : Int) ≤ 1000
    omega
def pastI (d : Deal) (n : Nat) : List Entry := (List.range n).map fun i => (deedI i, beatsOf d [(0, 0)])
theorem pastI_succ (d : Deal) (n : Nat) : pastI d (n + 1) = pastI d n ++ [(deedI n, beatsOf d [(0, 0)])] := by
  unfold pastI
  rw [List.range_succ, List.map_append]
  rfl
theorem pastI_len (d : Deal) (n : Nat) : (pastI d n).length = n := by simp [pastI]
theorem pastI_fst (d : Deal) (n : Nat) : (pastI d n).map Prod.fst = (List.range n).map deedI := by
  unfold pastI
  rw [List.map_map]
  rfl
theorem pastI_deal (d : Deal) : ∀ n, dealOf d (pastI d n) = d
  | 0 => rfl
  | n + 1 => by
    rw [pastI_succ]
    unfold dealOf
    rw [List.foldl_append]
    have ih := pastI_deal d n
    unfold dealOf at ih
    rw [ih]
    rfl
theorem pastI_ok (d : Deal) {n : Nat} (hn : n ≤ 900) : ∀ e ∈ pastI d n, DeedOk e.1 := by
  intro e he
  obtain ⟨i, hi, rfl⟩ := List.mem_map.mp he
  have := List.mem_range.mp hi
  exact deedW_ok (by omega) (by omega)
def memI (d : Deal) (n : Nat) : MemS := ⟨d, pastI d n, [], .non⟩
theorem memI_did (d : Deal) (n : Nat) : did (memI d n) (deedI n) = memI d (n + 1) := by
  unfold did memI
  simp only
  rw [pastI_succ]
  show (⟨d, pastI d n ++ [(deedI n, beatsOf (dealOf d (pastI d n)) [(0, 0)])], [], .non⟩ : MemS) = _
  rw [pastI_deal]
theorem memI_ok {d : Deal} (h : DealOk d) {n : Nat} (hn : n ≤ 900) : MemOk (memI d n) :=
  ⟨h, pastI_ok d hn, fun e he => (by cases he), by show (pastI d n).length + 0 ≤ 5000; rw [pastI_len]; omega⟩
theorem join_free {y : Str} {s : Nat} (hy : s ∉ tl y) : ∀ {parts : List Str}, (∀ p ∈ parts, s ∉ tl p) → s ∉ tl (Txt.join y parts) := by
  intro parts
  rw [join_eq, tl_join]
  induction parts with
  | nil => intro _ h; cases h
  | cons a r ih =>
    intro hp
    cases r with
    | nil => exact hp a List.mem_cons_self
    | cons b r =>
      show s ∉ tl a ++ (tl y ++ joinL (tl y) ((b :: r).map tl))
      simp only [List.mem_append, not_or]
      exact ⟨hp a List.mem_cons_self, hy, ih fun p h => hp p (List.mem_cons_of_mem _ h)⟩
theorem iS_free {i : Int} (h0 : 0 ≤ i) {s : Nat} (h : s < 44) : s ∉ tl (iS i) := by
  obtain ⟨k, rfl⟩ := Int.eq_ofNat_of_zero_le h0
  show s ∉ tl (nS k)
  rw [tl_nS]
  exact numL_free (by omega)
theorem dealW_free {d : Deal} (h : DealOk d) {s : Nat} (hs : s < 44) : ∀ p ∈ dealWords d, s ∉ tl p := by
  intro p hp
  simp only [dealWords, List.mem_cons, List.not_mem_nil, or_false] at hp
  have e : tl ("deal" : Str) = [100, 101, 97, 108] := by decide +kernel
  have b := deal_bd h
  rcases hp with rfl | rfl | rfl | rfl
  · rw [e]
    simp
    omega
  · exact iS_free (b _ (by simp)).1 hs
  · exact iS_free (b _ (by simp)).1 hs
  · exact iS_free (b _ (by simp)).1 hs
theorem sp_deal {d : Deal} (h : DealOk d) : Txt.split (dealS d) " " = dealWords d :=
  split_join (s := 32) (S := []) (by decide +kernel) (by decide +kernel) (by simp [dealWords]) (dealW_free h (by decide))
theorem sp_jour {d : Deal} (h : DealOk d) (n : Nat) : Txt.split (jS d n) "\n" = jLines d n := by
  refine split_join (s := 10) (S := []) (by decide +kernel) (by decide +kernel) (by simp [jLines]) fun p hp => ?_
  have hb : 10 ∉ tl (" " : Str) := by decide +kernel
  rcases List.mem_cons.mp hp with rfl | hp
  · exact join_free hb (dealW_free h (by decide))
  · obtain ⟨i, _, rfl⟩ := List.mem_map.mp hp
    exact join_free hb (wordsL_free (by decide))
section
variable {P : Program} {w : World} {K : PySem.W.Frag} {mg : Str → Option Value} {base : Heap}
/-! ### do_deed -/
def sp_do_deed (K : PySem.W.Frag) : Sp := fun vs H Q _ => ∃ (m : Addr) (M : MemS) (u : V) (x k : Nat), vs = [.ref m, u] ∧ MemAt K H m M ∧ MemOk M ∧ Im H u (dDeed (deedW x k)) ∧ x ≤ 1000 ∧ k < 1000 ∧ ∀ H', So [m] H H' → MemAt K H' m (did M (deedW x k)) → Q .non H'
theorem ok_do_deed (T : Th P K mg base) : GF P w K mg base 7 (He.ga K "do_deed") ["memory", "deed"] (sp_do_deed K) := by
  refine gf_of T.d_do_deed sc_do_deed (fun vs H Q E h => by obtain ⟨m, M, u, x, k, rfl, hM, ok, hu, hx, hk, q⟩ := h; rfl) (fun _ _ _ _ _ _ us hl => match us, hl with | [_, _], _ => rfl) fun cdv A outer s H vs Q E hg hr hsp => ?_
  obtain ⟨m, M, u, x, k, rfl, hM, ok, hu, hx, hk, q⟩ := hsp
  refine ⟨_, (pss_one (ps_if (pt_cmpR op_eq (pe_ix ix_tup (pv 1) pe_int (fun _ _ => rfl)) (pe_gs T.c_ANEW) (nomark _)) (pss_one ps_never) (pss_one (ps_expr (pe_mt T.cl_Memory T.m_Memory_write (ok_Memory_write T) hg hr passL (pv 0) (pa_cons (pe_ix ix_tup (pv 1) pe_int (fun _ _ => rfl)) (pa_cons (pe_ix ix_tup (pv 1) pe_int (fun _ _ => rfl)) (pa_cons (pe_ix ix_tup (pv 1) pe_int (fun _ _ => rfl)) pa_nil)))))))), ?_⟩
  obtain ⟨a, u1, u2, u3, rfl, ha, g1, g2, g3⟩ := hu.writeI
  obtain ⟨dx, f, pq, lq, hm⟩ := id hM
  refine ⟨_, rfl, a, _, 0, _, rfl, rfl, SqT.of ha, rfl, rfl, _, rfl, iteDF (show ¬ V.str "write" = V.str "anew" by decide) ?_⟩
  refine ⟨_, rfl, m, dx, _, rfl, hm.i, rfl, _, rfl, a, _, 1, _, rfl, rfl, SqT.of ha, rfl, _, rfl, a, _, 2, _, rfl, rfl, SqT.of ha, rfl, _, rfl, a, _, 3, _, rfl, rfl, SqT.of ha, rfl, m, M, u1, u2, u3, _, _, _, rfl, hM, ok, g1, g2, g3, deedW_ok hx hk, fun H' o hM' _ => q H' o hM'⟩
/-! ### begun: slots line 0, words 1, numbers 2, error 3 -/
def sp_begun (K : PySem.W.Frag) : Sp := fun vs H Q _ => ∃ d : Deal, vs = [.str (dealS d)] ∧ DealOk d ∧ ∀ H' m, Same H H' → H m = none → MemAt K H' m (memI d 0) → Q (.ref m) H'
theorem ok_begun (T : Th P K mg base) : GF P w K mg base 8 (He.ga K "begun") ["line"] (sp_begun K) := by
  refine gf_of T.d_begun sc_begun (fun vs H Q E h => by obtain ⟨d, rfl, ok, q⟩ := h; rfl) (fun _ _ _ _ _ _ us hl => match us, hl with | [_], _ => rfl) fun cdv A outer s H vs Q E hg hr hsp => ?_
  obtain ⟨d, rfl, ok, q⟩ := hsp
  refine ⟨_, (pss_cons (ps_set (i := 1) sc_begun.nd rfl (Or.inl rfl) (pe_split (pv 0) (pe_gs T.c_BLANK)))
    (pss_cons (ps_set (i := 2) sc_begun.nd rfl (Or.inl rfl) (pe_fn T.g_integers_in (ok_integers_in T) hg hr passL (pa_cons (pe_slice sl_list (pv 1) (po_some pe_int) po_none) pa_nil)))
    (pss_cons (ps_if (PW.pt (pw_or (pt_cmpR op_ne (pe_ix ix_list (pv 1) pe_int (fun _ _ => rfl)) (pe_gs T.c_DEAL) (nomark _)) (pw_or1 (pt_cmpR op_isN (pv 2) pe_non (nomark _))))) (pss_one ps_never) pss_nil)
    (pss_one (ps_try_as (i := 3) rfl rfl sc_begun.nd rfl rfl ⟨by rfl, by decide, .inl T.g_BeatError⟩ (takes_of rfl rfl rfl rfl) (fun W pn xe tk _ => pss_one (ps_ret (pe_mk T.mk_Memory (ok_Memory_init T) T.g_Memory hg hr passL (pa_cons (pv 2) pa_nil)))) (fun a oe cls d pn hz hf => pss_one ps_never)))))), ?_⟩
  have hl := dealS_len ok
  have big : 1000 ≤ sizeLine := by decide
  have bd := deal_bd ok
  obtain ⟨d1, d2, d3⟩ := d
  obtain ⟨n1, rfl⟩ := Int.eq_ofNat_of_zero_le (bd d1 (by simp)).1
  obtain ⟨n2, rfl⟩ := Int.eq_ofNat_of_zero_le (bd d2 (by simp)).1
  obtain ⟨n3, rfl⟩ := Int.eq_ofNat_of_zero_le (bd d3 (by simp)).1
  have b1 := (bd n1 (by simp)).2
  have b2 := (bd n2 (by simp)).2
  have b3 := (bd n3 (by simp)).2
  refine ⟨_, rfl, ⟨_, rfl⟩, _, _, rfl, rfl, by decide +kernel, by omega, fun l nl => ?_⟩
  rw [sp_deal ok]
  have s1 : Same H (upd H l (.lst ((dealWords ((n1 : Int), (n2 : Int), (n3 : Int))).map V.str))) := sameN nl
  have el : upd H l (.lst ((dealWords ((n1 : Int), (n2 : Int), (n3 : Int))).map V.str)) l = some (.lst [.str "deal", .str (nS n1), .str (nS n2), .str (nS n3)]) := upd_same
  generalize upd H l (.lst ((dealWords ((n1 : Int), (n2 : Int), (n3 : Int))).map V.str)) = H1 at s1 el
  refine ⟨_, rfl, _, rfl, l, _, rfl, SqL.of el, fun p np => ?_⟩
  refine ⟨p, [n1, n2, n3], rfl, upd_same, by show 3 ≤ 100; decide, fun n hn => ?_, fun H2 r s2 er _ => ?_⟩
  · simp only [List.mem_cons, List.not_mem_nil, or_false] at hn
    rcases hn with rfl | rfl | rfl <;> omega
  have s02 : Same H H2 := (s1.trans (sameN np)).trans s2
  have er : H2 r = some (.tup [.int n1, .int n2, .int n3]) := er
  refine ⟨_, rfl, l, _, 0, _, rfl, rfl, SqL.of (s2 _ _ (sameN np _ _ el)), rfl, rfl, _, rfl, ite_ne rfl ⟨_, rfl, rfl, _, rfl, iteF ?_⟩⟩
  refine ⟨_, rfl, fun t tdx nt ntd ne => ⟨t, tdx, _, ((n1 : Int), (n2 : Int), (n3 : Int)), rfl, upd_same, ?_, ok, fun H3 o3 hM3 => ⟨rfl, fun _ => ?_⟩⟩⟩
  · exact (Im.deal er).s fun b o e => by rw [upd_ne (ne_of_none e nt), upd_ne (ne_of_none e ntd)]; exact e
  · have ntH : H t = none := by
      cases e : H t with
      | none => rfl
      | some u => rw [s02 _ _ e] at nt; cases nt
    refine q H3 t (fun b o e => ?_) ntH hM3
    have e2 := s02 _ _ e
    refine o3 b o (by rw [upd_ne (ne_of_none e2 nt), upd_ne (ne_of_none e2 ntd)]; exact e2) (by simpa using ne_of_none e2 nt)
end
end Bp

namespace Bp
open PySem PySem.Spec PyProof.Rows L2 LamX NdefX TL
theorem cut1s {xs : List V} {a : V} : cutV (a :: xs) (some 1) none = xs := by
  have h := cut_1s (a :: xs)
  rw [h]
  rfl
section
variable {P : Program} {w : World} {K : PySem.W.Frag} {mg : Str → Option Value} {base : Heap}
/-! ### read_journal: slots text 0, lines 1, memory 2, number 3, line 4, deed 5, error 6 -/
def sp_read_journal (K : PySem.W.Frag) : Sp := fun vs H Q _ => ∃ (d : Deal) (n : Nat), vs = [.str (jS d n)] ∧ DealOk d ∧ n ≤ 200 ∧ ∀ H' m, Same H H' → MemAt K H' m (memI d n) → Q (.ref m) H'
theorem ok_read_journal (T : Th P K mg base) : GF P w K mg base 9 (He.ga K "read_journal") ["text"] (sp_read_journal K) := by
  refine gf_of T.d_read_journal sc_read_journal (fun vs H Q E h => by obtain ⟨d, n, rfl, ok, hn, q⟩ := h; rfl) (fun _ _ _ _ _ _ us hl => match us, hl with | [_], _ => rfl) fun cdv A outer s H vs Q E hg hr hsp => ?_
  obtain ⟨d, n, rfl, ok, hn, q⟩ := hsp
  refine ⟨_, (pss_cons (ps_if (pt_not (pt_val (pe_callB call_isi (by rfl) T.f_isinstance (by decide +kernel) (pa_cons (pv 0) (pa_cons (pe_bltn (v := .ty "str") (by rfl) T.f_str (by decide +kernel) rfl) pa_nil))))) (pss_one ps_never) pss_nil)
    (pss_cons (ps_set (i := 1) sc_read_journal.nd rfl (Or.inl rfl) (pe_split (pv 0) (pe_gs T.c_FEED)))
    (pss_cons (ps_set (i := 2) sc_read_journal.nd rfl (Or.inl rfl) (pe_fn T.g_begun (ok_begun T) hg hr passL (pa_cons (pe_ix ix_list (pv 1) pe_int (fun _ _ => rfl)) pa_nil)))
    (pss_cons (ps_for PassesOwn.leaving rfl (pi_enL (by rfl) T.f_enumerate (pa_cons (pe_slice sl_list (pv 1) (po_some pe_int) po_none) (pa_cons pe_int pa_nil))) (pg_tup rfl (pgs_cons (pg_name (i := 3) sc_read_journal.nd rfl (Or.inl rfl)) (pgs_cons (pg_name (i := 4) sc_read_journal.nd rfl (Or.inl rfl)) pgs_nil)))
      (pss_cons (ps_set (i := 5) sc_read_journal.nd rfl (Or.inl rfl) (pe_fn T.g_deed_in (ok_deed_in T) hg hr passL (pa_cons (pv 4) pa_nil)))
      (pss_cons (ps_if (pt_cmpR op_isN (pv 5) pe_non (nomark _)) (pss_one ps_never) pss_nil)
      (pss_one (ps_try_as (i := 6) rfl rfl sc_read_journal.nd rfl rfl ⟨by rfl, by decide, .inl T.g_BeatError⟩ (takes_of rfl rfl rfl rfl) (fun W pn xe tk _ => pss_one (ps_expr (pe_fn T.g_do_deed (ok_do_deed T) hg hr passL (pa_cons (pv 2) (pa_cons (pv 5) pa_nil))))) (fun a oe cls d pn hz hf => pss_one ps_never))))))
    (pss_one (ps_ret (pv 2))))))), ?_⟩
  have hl := jS_len ok hn
  have big : 20000 ≤ sizeLine := by decide
  refine ⟨_, rfl, _, _, _, _, true, rfl, .ty "str", .base (.str _), kit_ty (by decide +kernel), true, rfl, iteF ?_⟩
  refine ⟨_, rfl, ⟨_, rfl⟩, _, _, rfl, rfl, by decide +kernel, by omega, fun l nl => ?_⟩
  rw [sp_jour ok]
  have s1 : Same H (upd H l (.lst ((jLines d n).map V.str))) := sameN nl
  have el : upd H l (.lst ((jLines d n).map V.str)) l = some (.lst (V.str (dealS d) :: (List.range n).map fun i => V.str (lineS (i % 7) i))) := by
    rw [upd_same]
    simp [jLines]
  generalize upd H l (.lst ((jLines d n).map V.str)) = H1 at s1 el
  refine ⟨_, rfl, l, _, 0, _, rfl, rfl, SqL.of el, atI_nat (j := 0) rfl, d, rfl, ok, fun H2 m s2 nm hM2 _ => ?_⟩
  have el2 := s2 _ _ el
  have nmH : H m = none := by
    cases e : H m with
    | none => rfl
    | some u => rw [s1 _ _ e] at nm; cases nm
  refine ⟨_, rfl, _, rfl, l, _, rfl, SqL.of el2, fun p np => ?_⟩
  rw [cut1s]
  have s3 : Same H2 (upd H2 p (.lst ((List.range n).map fun i => V.str (lineS (i % 7) i)))) := sameN np
  have ep : upd H2 p (.lst ((List.range n).map fun i => V.str (lineS (i % 7) i))) p = some (.lst ((List.range n).map fun i => V.str (lineS (i % 7) i))) := upd_same
  generalize upd H2 p (.lst ((List.range n).map fun i => V.str (lineS (i % 7) i))) = H3 at s3 ep
  have hM3 := hM2.same s3
  obtain ⟨dx, f, pq, lq, hm⟩ := id hM3
  have pm : p ≠ m := fun z => by rw [z, hm.i] at ep; cases ep
  refine ⟨p, _, 2, rfl, SqL.of ep, by decide, by decide, ?_⟩
  refine for_it (walk_E (S := fun H xs => SqL K H p xs) (k0 := 2) (xs := (List.range n).map fun i => V.str (lineS (i % 7) i))) (fun i σ H' => ∃ y3 y4 y5, σ = [some (.str (jS d n)), some (.ref l), some (.ref m), y3, y4, y5, none] ∧ So [m] H3 H' ∧ MemAt K H' m (memI d i))
    ⟨none, none, none, rfl, .refl _ _, hM3⟩ (fun i σ H' _ pv => ?_) (fun i v σ H4 H5 hi pv y => ?_) (fun σ H' pv => ?_)
  · obtain ⟨_, _, _, _, o, _⟩ := pv
    exact SqL.of (o _ _ ep (by simpa using pm))
  · obtain ⟨y3, y4, y5, rfl, o4, hM4⟩ := pv
    obtain ⟨t, x1, x2, rfl, nt, rfl, h1, h2⟩ := y
    have h1 : some (V.int (2 + (i : Nat))) = some x1 := h1
    have h2 : ((List.range n).map fun i => V.str (lineS (i % 7) i))[i]? = some x2 := h2
    have hi : i < ((List.range n).map fun i => V.str (lineS (i % 7) i)).length := hi
    rw [List.length_map, List.length_range] at hi
    rw [List.getElem?_map, List.getElem?_range hi] at h2
    cases h1
    cases h2
    have s5 : Same H4 (upd H4 t (.tup [.int (2 + (i : Nat)), .str (lineS (i % 7) i)])) := sameN nt
    have et : upd H4 t (.tup [.int (2 + (i : Nat)), .str (lineS (i % 7) i)]) t = some (.tup [.int (2 + (i : Nat)), .str (lineS (i % 7) i)]) := upd_same
    generalize upd H4 t (.tup [.int (2 + (i : Nat)), .str (lineS (i % 7) i)]) = H5 at s5 et
    refine ⟨t, _, rfl, SqT.of et, rfl, _, _, rfl, _, _, rfl, rfl, ?_⟩
    refine ⟨_, rfl, i % 7, i, rfl, by omega, by omega, fun H6 r s6 hr _ => ?_⟩
    refine ⟨_, rfl, rfl, _, rfl, iteF ?_⟩
    have hM6 := hM4.same (s5.trans s6)
    refine ⟨_, rfl, _, rfl, m, memI d i, _, i % 7, i, rfl, hM6, memI_ok ok (by omega), hr, by omega, by omega, fun H7 o7 hM7 _ => ?_⟩
    rw [memI_did] at hM7
    exact ⟨_, _, _, rfl, (o4.trans (.same (s5.trans s6))).trans o7, hM7⟩
  · obtain ⟨y3, y4, y5, rfl, o4, hM4⟩ := pv
    rw [List.length_map, List.length_range] at hM4
    refine ⟨_, rfl, q H' m (fun b o e => o4 _ _ (s3 _ _ (s2 _ _ (s1 _ _ e))) (by simpa using ne_of_none e nmH)) hM4⟩
end
end Bp

namespace Bp
open PySem PySem.Spec PyProof.Rows L2 LamX NdefX TL
/-- so many of n deeds stand, the others taken back -/
def stP (d : Deal) (n k : Nat) : MemS := ⟨d, (pastI d n).take k, ((pastI d n).drop k).reverse, .non⟩
theorem stP_all (d : Deal) (n : Nat) : stP d n n = memI d n := by
  unfold stP memI
  rw [List.take_of_length_le (by rw [pastI_len]; omega), List.drop_eq_nil_of_le (by rw [pastI_len]; omega)]
  rfl
theorem stP_undo (d : Deal) {n k : Nat} (h : k < n) : undoM (stP d n (k + 1)) = stP d n k := by
  have hk : k < (pastI d n).length := by rw [pastI_len]; exact h
  have e1 : (pastI d n).take (k + 1) = (pastI d n).take k ++ [(pastI d n)[k]] := by rw [List.take_succ, List.getElem?_eq_getElem hk]; rfl
  have e2 : (pastI d n).drop k = (pastI d n)[k] :: (pastI d n).drop (k + 1) := List.drop_eq_getElem_cons hk
  rw [undoM_of (r := (pastI d n).take k) (e := (pastI d n)[k]) e1]
  unfold stP
  rw [e2, List.reverse_cons]
theorem stP_redo (d : Deal) {n k : Nat} (h : k < n) : redoM (stP d n k) = stP d n (k + 1) := by
  have hk : k < (pastI d n).length := by rw [pastI_len]; exact h
  have e1 : (pastI d n).take (k + 1) = (pastI d n).take k ++ [(pastI d n)[k]] := by rw [List.take_succ, List.getElem?_eq_getElem hk]; rfl
  have e2 : (pastI d n).drop k = (pastI d n)[k] :: (pastI d n).drop (k + 1) := List.drop_eq_getElem_cons hk
  rw [redoM_of (r := ((pastI d n).drop (k + 1)).reverse) (e := (pastI d n)[k]) (by unfold stP; rw [e2, List.reverse_cons])]
  unfold stP
  rw [e1]
def fW (n w j : Nat) : Nat := if w = 0 then n - j else min j n
theorem stP_step (d : Deal) {n w j : Nat} (hw : w = 0 ∨ w = 1) (hj : j < n + w) : stepM (w : Int) (stP d n (fW n w j)) = stP d n (fW n w (j + 1)) := by
  rcases hw with rfl | rfl
  · show undoM (stP d n (n - j)) = stP d n (n - (j + 1))
    have h := stP_undo d (n := n) (k := n - (j + 1)) (by omega)
    rw [show n - (j + 1) + 1 = n - j by omega] at h
    exact h
  · show redoM (stP d n (min j n)) = stP d n (min (j + 1) n)
    by_cases h : j < n
    · rw [show min j n = j by omega, show min (j + 1) n = j + 1 by omega]
      exact stP_redo d h
    · rw [show min j n = n by omega, show min (j + 1) n = n by omega]
      refine redoM_nil ?_
      rw [stP_all]
      rfl
theorem fm7 (i : Nat) : (0 + (i : Int)).fmod 7 = ((i % 7 : Nat) : Int) := by
  rw [Int.fmod_eq_emod_of_nonneg _ (by decide)]
  omega
theorem syn0 {d : Deal} (h : DealOk d) : Syn (memI d 0) ⟨d, [], []⟩ := ⟨rfl, rfl, rfl, True.intro, memI_ok h (by decide)⟩
/-- how far the long way has come -/
structure LgS (K : PySem.W.Frag) (m : Addr) (H1 : Hp) (M : MemS) (v : V) (D : DayS) (H' : Hp) : Prop where
  fr : Fr K [m] H1 H'
  hM : MemAt K H' m M
  hD : DayAt H' v D
  sy : Syn M D
  tb : Tb K H'
theorem LgS.same {K : PySem.W.Frag} {m : Addr} {H1 H2 H' : Hp} {M : MemS} {v : V} {D : DayS} (L : LgS K m H1 M v D H') (s : Same H' H2) : LgS K m H1 M v D H2 :=
  ⟨L.fr.trans (Fr.same s), L.hM.same s, L.hD.k (Kp.of s), L.sy, L.tb.ext s⟩
theorem LgS.step {K : PySem.W.Frag} {m : Addr} {H1 H2 H' : Hp} {M M2 : MemS} {v v2 : V} {D D2 : DayS} (L : LgS K m H1 M v D H') (fr : Fr K [m] H' H2) (hM : MemAt K H2 m M2) (hD : DayAt H2 v2 D2) (sy : Syn M2 D2) : LgS K m H1 M2 v2 D2 H2 :=
  ⟨L.fr.trans fr, hM, hD, sy, fr.t L.tb⟩
section
variable {P : Program} {w : World} {K : PySem.W.Frag} {mg : Str → Option Value} {base : Heap}
/-! ### _law_is_long_right: slots deal 0, many 1, memory 2, day 3, lap 4, is_ok 5, way 6, number 7 -/
def sp_law_is_long_right (K : PySem.W.Frag) : Sp := fun vs H Q _ => ∃ (u : V) (d : Deal) (n : Nat), vs = [u, .int n] ∧ Im H u (dDeal d) ∧ DealOk d ∧ n ≤ 200 ∧ Tb K H ∧ ∀ H', Fr K [] H H' → Q (.bl true) H'
theorem ok_law_is_long_right (T : Th P K mg base) : GF P w K mg base 13 (He.ga K "_law_is_long_right") ["_law_deal", "_law_many"] (sp_law_is_long_right K) := by
  refine gf_of T.d_law_is_long_right sc_law_is_long_right (fun vs H Q E h => by obtain ⟨u, d, n, rfl, hu, ok, hn, tb, q⟩ := h; rfl) (fun _ _ _ _ _ _ us hl => match us, hl with | [_, _], _ => rfl) fun cdv A outer s H vs Q E hg hr hsp => ?_
  obtain ⟨u, d, n, rfl, hu, ok, hn, tb, q⟩ := hsp
  refine ⟨_, (pss_cons (ps_par (by rfl) sc_law_is_long_right.nd (i := 2) (j := 3) rfl rfl (by decide) rfl rfl (pa_cons (pe_mk T.mk_Memory (ok_Memory_init T) T.g_Memory hg hr passL (pa_cons (pv 0) pa_nil)) (pa_cons (pe_fn T.g_law_day (ok_law_day T) hg hr passL (pa_cons (pv 0) pa_nil)) pa_nil)) (by rfl))
    (pss_cons (ps_for PassesOwn.leaving rfl (pi_range1 (by rfl) T.f_range (pa_cons (pv 1) pa_nil)) (pg_name (i := 4) sc_law_is_long_right.nd rfl (Or.inl rfl))
      (pss_cons (ps_asg (pe_fn T.g_law_led (ok_law_led T) hg hr passL (pa_cons (pv 2) (pa_cons (pv 3) (pa_cons (pe_tup (pa_cons pe_str (pa_cons (pe_tupF (pa_cons (pe_tup (pa_cons pe_int (pa_cons pe_int pa_nil))) pa_nil)) (pa_cons (pe_tup (pa_cons (pe_op op_modN (pe_callTy call_int1 (by rfl) T.f_int (by decide +kernel) (pa_cons (pv 4) pa_nil)) pe_int) (pa_cons pe_int pa_nil))) (pa_cons (pe_tup (pa_cons (pe_callTy call_int1 (by rfl) T.f_int (by decide +kernel) (pa_cons (pv 4) pa_nil)) pa_nil)) pa_nil))))) pa_nil)))) (pg_tup rfl (pgs_cons (pg_name (i := 5) sc_law_is_long_right.nd rfl (Or.inl rfl)) (pgs_cons (pg_name (i := 3) sc_law_is_long_right.nd rfl (Or.inl rfl)) pgs_nil))))
      (pss_one (ps_if (pt_not (pt_val (pv 5))) (pss_one (ps_ret pe_bl)) pss_nil))))
    (pss_cons (ps_for PassesOwn.leaving rfl (pi_tup (pe_tup (pa_cons pe_int (pa_cons pe_int pa_nil)))) (pg_name (i := 6) sc_law_is_long_right.nd rfl (Or.inl rfl))
      (pss_one (ps_for PassesOwn.leaving rfl (pi_range1 (by rfl) T.f_range (pa_cons (pe_op op_add (pv 1) (pe_callTy call_int1 (by rfl) T.f_int (by decide +kernel) (pa_cons (pe_cmpR op_eq (pv 6) pe_int (nomark _)) pa_nil))) pa_nil)) (pg_name (i := 4) sc_law_is_long_right.nd rfl (Or.inl rfl))
        (pss_cons (ps_asg (pe_fn T.g_law_gone (ok_law_gone T) hg hr passL (pa_cons (pv 2) (pa_cons (pv 3) (pa_cons (pv 6) pa_nil)))) (pg_tup rfl (pgs_cons (pg_name (i := 5) sc_law_is_long_right.nd rfl (Or.inl rfl)) (pgs_cons (pg_name (i := 3) sc_law_is_long_right.nd rfl (Or.inl rfl)) pgs_nil))))
        (pss_one (ps_if (PW.pt (pw_or (pt_not (pt_val (pv 5))) (pw_or1 (PW.pt (pw_and (pt_cmpR op_eq (pe_op op_modN (pv 4) pe_int) pe_int (nomark _)) (pw_and1 (pt_not (pt_val (pe_fn T.g_law_is_memory (ok_law_is_memory T) hg hr passL (pa_cons (pv 2) (pa_cons (pv 3) (pa_cons (pe_lst (pa_cons (pe_tup (pa_cons pe_int (pa_cons pe_int pa_nil))) (pa_cons (pe_tup (pa_cons pe_int (pa_cons pe_int pa_nil))) (pa_cons (pe_tup (pa_cons pe_int (pa_cons pe_int pa_nil))) pa_nil)))) pa_nil)))))))))))) (pss_one (ps_ret pe_bl)) pss_nil))))))
    (pss_cons (ps_if (PW.pt (pw_or (pt_cmpR op_ne (pe_fn T.g_journal (ok_journal T) hg hr passL (pa_cons (pv 2) pa_nil)) (pe_fn T.g_law_journal (ok_law_journal T) hg hr passL (pa_cons (pv 3) pa_nil)) (nomark _)) (pw_or1 (pt_cmpR (op_neM T hg hr) (pe_fn T.g_read_journal (ok_read_journal T) hg hr passL (pa_cons (pe_fn T.g_journal (ok_journal T) hg hr passL (pa_cons (pv 2) pa_nil)) pa_nil)) (pv 2) (nomark _))))) (pss_one (ps_ret pe_bl)) pss_nil)
    (pss_one (ps_ret (pe_fn T.g_law_is_memory (ok_law_is_memory T) hg hr passL (pa_cons (pv 2) (pa_cons (pv 3) (pa_cons (pe_lc (own := [("_law_number", 7)]) (tt := tYes) rfl sc_law_is_long_right.nd (pi_range1 (by rfl) T.f_range (pa_cons pe_int pa_nil)) (blkOk_by (N := N_law_is_long_right) (sc := defScope s_law_is_long_right) (by decide +kernel)) (fun _ _ _ _ _ => (pg_name (i := 7) sc_law_is_long_right.nd rfl (Or.inl rfl))) (fun _ _ _ _ _ => pts_nil) (fun _ _ _ _ _ => (pe_tup (pa_cons (pv 7) (pa_cons pe_int pa_nil))))) pa_nil)))))))))), ?_⟩
  refine seq_with (fun σ H' => ∃ m v, σ = [some u, some (.int n), some (.ref m), some v, none, none, none, none] ∧ H m = none ∧ Same H H' ∧ MemAt K H' m (memI d 0) ∧ DayAt H' v ⟨d, [], []⟩) (fun N hN => ?_) (fun σ H1 pm => ?_)
  · refine ⟨_, rfl, fun m dx nm ndx ne => ⟨m, dx, u, d, rfl, upd_same, hu.s fun b o e => by rw [upd_ne (ne_of_none e nm), upd_ne (ne_of_none e ndx)]; exact e, ok, fun H2 o2 hM2 => ⟨rfl, fun _ => ?_⟩⟩⟩
    have s2 : Same H H2 := fun b o e => o2 _ _ (by rw [upd_ne (ne_of_none e nm), upd_ne (ne_of_none e ndx)]; exact e) (by simpa using ne_of_none e nm)
    refine ⟨_, rfl, u, d, rfl, hu.s s2, fun v H3 s3 hD3 _ => ⟨_, _, rfl, hN _ _ ⟨m, v, rfl, nm, s2.trans s3, hM2.same s3, hD3⟩⟩⟩
  obtain ⟨m, v, rfl, nm, s01, hM1, hD1⟩ := pm
  have L1 : LgS K m H1 (memI d 0) v ⟨d, [], []⟩ H1 := ⟨.refl _, hM1, hD1, syn0 ok, tb.ext s01⟩
  refine seq_with (fun σ H' => ∃ v D y z, σ = [some u, some (.int n), some (.ref m), some v, y, z, none, none] ∧ LgS K m H1 (stP d n n) v D H') (fun N hN => ?_) (fun σ H2 pm => ?_)
  · refine ⟨_, rfl, (n : Int), rfl, by omega, by omega, for_it (walk_range (lo := 0) (n := n)) (fun i σ H' => ∃ v D y z, σ = [some u, some (.int n), some (.ref m), some v, y, z, none, none] ∧ LgS K m H1 (memI d i) v D H')
      ⟨v, _, none, none, rfl, L1⟩ (fun _ _ _ _ _ => True.intro) (fun i x σ H3 H4 hi pv y => ?_) (fun σ H3 pv => ?_)⟩
    · obtain ⟨v3, D3, y3, z3, rfl, L3⟩ := pv
      obtain ⟨rfl, rfl⟩ := y
      refine ⟨_, rfl, _, rfl, by show 2 ≤ sizeLine; decide, fun t1 nt1 => ⟨by show 1 ≤ sizeLine; decide, fun t2 o2 nt2 od2 => ⟨_, rfl, .inl ⟨_, rfl, _, _, rfl, rfl, (show (7 : Int) ≠ 0 by decide), by show 2 ≤ sizeLine; decide, fun t3 nt3 => ⟨_, rfl, .inl ⟨_, rfl, by show 1 ≤ sizeLine; decide, fun t4 nt4 => ⟨by show 4 ≤ sizeLine; decide, fun t5 nt5 => ?_⟩⟩⟩⟩⟩⟩⟩
      have k1 := sameN (o := .tup [.int 0, .int 0]) nt1
      have k2 := sameN (o := .frz o2 (.tup [.ref t1])) nt2
      have k3 := sameN (o := .tup [.int ((0 + (i : Int)).fmod 7), .int 0]) nt3
      have k4 := sameN (o := .tup [.int (0 + (i : Int))]) nt4
      have k5 := sameN (o := .tup [.str "write", .ref t2, .ref t3, .ref t4]) nt5
      have g3 := Im.cell ((k4.trans k5) _ _ (upd_same (a := t3)))
      have g4 := Im.ints (ns := [0 + (i : Int)]) (k5 _ _ (upd_same (a := t4)))
      rw [fm7] at g3
      rw [show [0 + (i : Int)] = [(i : Int)] by simp] at g4
      have him := Im.write (upd_same (a := t5)) (.shape (sh := [(0, 0)]) (((k3.trans k4).trans k5) _ _ (upd_same (a := t2))) od2 (.cons (.cell (((k2.trans k3).trans (k4.trans k5)) _ _ (upd_same (a := t1)))) .nil) (by simp)) g3 g4
      have s5 := ((k1.trans k2).trans k3).trans (k4.trans k5)
      have L5 := L3.same s5
      have okd : DeedOk (deedI i) := deedW_ok (by omega) (by omega)
      have len : (memI d i).past.length + (memI d i).later.length + 1 ≤ 5000 := by
        show (pastI d i).length + 0 + 1 ≤ 5000
        rw [pastI_len]
        omega
      refine ⟨m, v3, _, memI d i, D3, deedI i, rfl, L5.hM, L5.hD, L5.sy, him, okd, len, L5.tb, fun H6 r v6 fr6 hM6 hD6 er kk6 => ?_⟩
      have hs6 := L5.sy.led okd len
      have e6 : ledM (memI d i) (deedI i) = memI d (i + 1) := memI_did d i
      rw [e6] at hM6 hs6
      have L6 := L5.step fr6 hM6 hD6 hs6
      refine ⟨r, _, rfl, SqT.of er, rfl, _, _, rfl, _, _, rfl, rfl, ?_⟩
      exact ⟨_, rfl, true, rfl, iteF ⟨v6, _, _, _, rfl, L6⟩⟩
    · obtain ⟨v3, D3, y3, z3, rfl, L3⟩ := pv
      rw [← stP_all] at L3
      exact hN _ _ ⟨v3, D3, y3, z3, rfl, L3⟩
  obtain ⟨v2, D2, y2, z2, rfl, L2⟩ := pm
  clear L1 hD1 hM1
  refine seq_with (fun σ H' => ∃ v D y z x, σ = [some u, some (.int n), some (.ref m), some v, y, z, x, none] ∧ LgS K m H1 (stP d n n) v D H') (fun N hN => ?_) (fun σ H3 pm => ?_)
  · refine ⟨by show 2 ≤ sizeLine; decide, fun t nt => ?_⟩
    have s3 : Same H2 (upd H2 t (.tup [.int 0, .int 1])) := sameN nt
    have et : upd H2 t (.tup [.int 0, .int 1]) t = some (.tup [.int 0, .int 1]) := upd_same
    generalize upd H2 t (.tup [.int 0, .int 1]) = H3 at s3 et
    have L3 := L2.same s3
    have tm : t ≠ m := fun z => by
      obtain ⟨dx, f, pq, lq, hm⟩ := id L3.hM
      rw [z, hm.i] at et
      cases et
    refine ⟨t, rfl, ⟨_, SqT.of et⟩, for_it (walk_tup (xs := [V.int 0, V.int 1])) (fun iw σ H' => ∃ v D y z x, σ = [some u, some (.int n), some (.ref m), some v, y, z, x, none] ∧ LgS K m H1 (stP d n (if iw = 1 then 0 else n)) v D H' ∧ H' t = some (.tup [.int 0, .int 1]))
      ⟨v2, D2, y2, z2, none, rfl, L3, et⟩ (fun i σ H' _ pv => ?_) (fun iw x σ H4 H5 hi pv y => ?_) (fun σ H4 pv => ?_)⟩
    · obtain ⟨_, _, _, _, _, _, _, e⟩ := pv
      exact SqT.of e
    · obtain ⟨v4, D4, y4, z4, x4, rfl, L4, et4⟩ := pv
      obtain ⟨rfl, hx⟩ := y
      obtain ⟨hw, rfl⟩ : (iw = 0 ∨ iw = 1) ∧ x = .int (iw : Nat) := by
        match iw, hx with
        | 0, h => cases h; exact ⟨.inl rfl, rfl⟩
        | 1, h => cases h; exact ⟨.inr rfl, rfl⟩
      have e0 : fW n iw 0 = if iw = 1 then 0 else n := by
        rcases hw with rfl | rfl
        · rfl
        · show min 0 n = 0
          omega
      rw [← e0] at L4
      have cnt : (n : Int) + (if decide (V.int (iw : Nat) = V.int 1) = true then 1 else 0) = ((n + iw : Nat) : Int) := by
        rcases hw with rfl | rfl <;> simp
      refine ⟨_, rfl, _, rfl, rfl, .inr ⟨_, rfl, _, _, rfl, rfl, _, rfl, by rw [cnt]; omega, by rw [cnt]; omega, ?_⟩⟩
      rw [cnt]
      refine for_it (walk_range (lo := 0) (n := n + iw)) (fun j σ H' => ∃ v D y z, σ = [some u, some (.int n), some (.ref m), some v, y, z, some (.int (iw : Nat)), none] ∧ LgS K m H1 (stP d n (fW n iw j)) v D H' ∧ H' t = some (.tup [.int 0, .int 1]))
        ⟨v4, D4, y4, z4, rfl, L4, et4⟩ (fun _ _ _ _ _ => True.intro) (fun j x σ H5 H6 hj pv y => ?_) (fun σ H5 pv => ?_)
      · obtain ⟨v5, D5, y5, z5, rfl, L5, et5⟩ := pv
        obtain ⟨rfl, rfl⟩ := y
        refine ⟨_, rfl, _, rfl, _, rfl, m, _, v5, D5, (iw : Nat), rfl, ?_, L5.hM, L5.hD, L5.sy, L5.tb, fun H7 r v7 fr7 hM7 hD7 er kk7 => ?_⟩
        · rcases hw with rfl | rfl
          · exact .inl rfl
          · exact .inr rfl
        have hs7 := L5.sy.step (iw : Nat)
        rw [stP_step d hw hj] at hM7 hs7
        have L7 := L5.step fr7 hM7 hD7 hs7
        have et7 := fr7.e _ _ et5 (by simpa using tm) fun _ z => by cases z
        refine ⟨r, _, rfl, SqT.of er, rfl, _, _, rfl, _, _, rfl, rfl, ?_⟩
        refine ⟨_, rfl, true, rfl, iteF ⟨_, rfl, _, _, rfl, rfl, (show (10 : Int) ≠ 0 by decide), rfl, _, rfl, ?_⟩⟩
        by_cases h10 : (V.int ((0 + (j : Int)).fmod 10) = V.int 0)
        · refine iteD h10 ⟨_, rfl, _, rfl, by show 2 ≤ sizeLine; decide, fun t1 nt1 => ⟨by show 2 ≤ sizeLine; decide, fun t2 nt2 => ⟨by show 2 ≤ sizeLine; decide, fun t3 nt3 => ⟨by show 3 ≤ sizeLine; decide, fun l nl => ?_⟩⟩⟩⟩
          have k1 := sameN (o := .tup [.int 0, .int 0]) nt1
          have k2 := sameN (o := .tup [.int 3, .int 0]) nt2
          have k3 := sameN (o := .tup [.int 6, .int 0]) nt3
          have k4 := sameN (o := .lst [.ref t1, .ref t2, .ref t3]) nl
          have s8 := (k1.trans k2).trans (k3.trans k4)
          have L8 := L7.same s8
          refine ⟨m, l, v7, _, _, _, [(0, 0), (3, 0), (6, 0)], rfl, L8.hM, L8.hD, L8.sy, upd_same (a := l), .cons (.cell (((k2.trans k3).trans k4) _ _ (upd_same (a := t1)))) (.cons (.cell ((k3.trans k4) _ _ (upd_same (a := t2)))) (.cons (.cell (k4 _ _ (upd_same (a := t3)))) .nil)), by decide, fun H9 s9 _ => ⟨true, rfl, iteF ⟨v7, _, _, _, rfl, L8.same s9, s9 _ _ (s8 _ _ et7)⟩⟩⟩
        · exact iteDF h10 ⟨v7, _, _, _, rfl, L7, et7⟩
      · obtain ⟨v5, D5, y5, z5, rfl, L5, et5⟩ := pv
        have ew : fW n iw (n + iw) = if iw + 1 = 1 then 0 else n := by
          rcases hw with rfl | rfl
          · show n - (n + 0) = 0
            omega
          · show min (n + 1) n = n
            omega
        rw [ew] at L5
        exact ⟨v5, D5, y5, z5, _, rfl, L5, et5⟩
    · obtain ⟨v4, D4, y4, z4, x4, rfl, L4, et4⟩ := pv
      exact hN _ _ ⟨v4, D4, y4, z4, x4, rfl, L4⟩
  obtain ⟨v3, D3, y3, z3, x3, rfl, L3⟩ := pm
  rw [stP_all] at L3
  have hpm : (memI d n).past.map Prod.fst = (List.range n).map deedI := pastI_fst d n
  have hpd : D3.past = (List.range n).map deedI := by rw [L3.sy.p, hpm]
  have hfd : D3.first = d := L3.sy.f
  refine ⟨_, rfl, m, memI d n, n, rfl, L3.hM, ok, hpm, hn, fun H4 s4 _ => ⟨_, rfl, v3, D3, n, rfl, (L3.same s4).hD, by rw [hfd]; exact ok, hpd, hn, fun H5 s5 _ => ⟨rfl, _, rfl, ite_ne (by rw [hfd]; rfl) ?_⟩⟩⟩
  have L5 := (L3.same s4).same s5
  refine ⟨_, rfl, m, memI d n, n, rfl, L5.hM, ok, hpm, hn, fun H6 s6 _ => ⟨d, n, rfl, ok, hn, fun H7 m2 s7 hM7 _ => ?_⟩⟩
  have L7 := (L5.same s6).same s7
  refine ⟨_, rfl, m2, m, _, _, rfl, rfl, hM7, L7.hM, rfl, rfl, _, rfl, iteF ?_⟩
  refine ⟨_, rfl, _, rfl, 7, rfl, by decide, by decide, fun A hA => ?_⟩
  refine lc_it (walk_range (lo := 0) (n := 7)) (LcP H7 A fun j v H => Im H v (dCell (0 + (j : Int), 0))) (LcP.zero hA) (fun _ _ _ _ => True.intro) (fun i x H' H8 hi p y => ?_) (fun H8 p => ?_)
  · obtain ⟨rfl, rfl⟩ := y
    refine ⟨rfl, _, rfl, by show 2 ≤ sizeLine; decide, fun t nt => ?_⟩
    exact LcP.next (fun _ _ _ _ h k => h.k k) hA (by omega) p (sameN nt) (.cell upd_same)
  · obtain ⟨s8, acc, eA, la, hacc⟩ := p
    have L8 := L7.same s8
    refine ⟨m, A, v3, _, D3, acc, (List.range 7).map fun (j : Nat) => ((0 + (j : Int), 0) : Cell), rfl, L8.hM, L8.hD, L8.sy, eA, ImAll.of_at (by simp [la]) (fun i v dd h1 h2 => ?_), by simp, fun H9 s9 _ => ?_⟩
    · have hi : i < 7 := by rw [← la]; exact (List.getElem?_eq_some_iff.mp h1).1
      rw [List.getElem?_map, List.getElem?_map, List.getElem?_range hi] at h2
      cases h2
      exact hacc i v h1
    · refine q H9 (((Fr.same s01).trans (L8.same s9).fr).drop (by
        intro b hb
        rw [List.mem_singleton.mp hb]
        exact .inr nm))
end
end Bp

namespace Bp
open PySem PySem.Spec PyProof.Rows L2 LamX NdefX TL
/-! ### o.tried(lambda ..) -/
def tTriedL (K : PySem.W.Frag) (mk : Addr → NdefX.NF) (body : Expr) (sp : L2.St → Sp) (E : XK) (ta : TE) : TE := fun σ H Q => ta σ H fun x H0 => ∃ m dx fs, x = .ref m ∧ H0 m = some (.ins (Memo K) dx fs) ∧ fs.lookup ("tried" : Str) = none ∧ Tb K H0 ∧
  ∀ f c' H1, ExtN H0 H1 → (∀ b, H1 b = none → H0 b = none) → Tb K H1 → H0 f = none → H1 f = some (LmO f (mk c') body) → H1 c' = some (CodeO c' (mk c').qual) → TriedSp K (sp σ) m (.bl false) H1 (fun v H2 => Kp H1 H2 → Q v H2) E
theorem pe_triedL {P : Program} {w : World} {K : PySem.W.Frag} {mg : Str → Option Value} {base : Heap} {X : Cx} {x : Str} {k j : Nat} {fr : List Str} {js : List Nat} {params : Arguments} {body : Expr} {scope : Scope} {lpos pos apos : Pos} {o : Expr} {ta : TE} {nm : Nat → Nat → Str} {sp : L2.St → Sp} {E : XK} {pl : Sem Bool}
    (T : Th P K mg base) (eX : X.prog = P ∧ X.w = w ∧ X.K = K ∧ X.mg = mg ∧ X.base = base) (hx0 : (x, none) ∈ tfs) (hcode : X.env.code = .ref (He.cT K (x, none)).1) (hmT : (tbA K x, nm) ∈ tabs K) (hn : nm lpos.line lpos.col = X.env.qual ++ "<lambda>") (hdef : defaultsOf params X.env = ([], []))
    (hB : ndefB X.env.scope scope fr = true) (hjs : js.map (fun j => X.N[j]?) = fr.map some)
    (live : ∀ (σ : L2.St) (f c' : Addr), LiveF P w K mg base j f 1 (fun h H => GLam f (lamF X params scope c') body fr (js.map (slotAt σ)) h H ∧ G0 h H) (sp σ))
    (hg : X.A.guards = some []) (hr : Room k X.A) (hx : Passes (CXX P w) X E) (he : PE X o ta) (hk : j + 6 ≤ k)
    (ht : eval (.Call (.Attribute o "tried" apos) [.Lambda params body scope lpos] [] pos) X.env = (eval o X.env >>= fun ov => standAt apos.atName >>= fun _ => holding [ov] (getMethod ov "tried" pl) >>= fun g =>
      callWith pos g.1 g.2 (backTo pos (starEach [.Lambda params body scope lpos] X.env)) (backToKw pos (keywordEach [] X.env))) := by rfl) :
    PE X (.Call (.Attribute o "tried" apos) [.Lambda params body scope lpos] [] pos) (tTriedL K (fun c' => lamF X params scope c') body sp E ta) := by
  obtain ⟨rfl, rfl, rfl, rfl, rfl⟩ := eX
  have hfree := ndef_free hB
  have hfr := ndef_fr hB
  constructor
  intro pins s σ H Q I h
  refine PySem.W.methodCall_KW (pl := pl) ?_ ht
  refine thn (he.run pins s σ H _ I h) ?_
  rintro u s1 ⟨x', H1, I1, rx, m, dx, fs, rfl, ea, l, hT, q⟩
  obtain rfl : u = Value.ref m := rx
  refine getmeth_ok I1 ea T.cl_Memory T.m_Memory_tried l (PySem.W.callWith_K (first := [.ref m]) (h₀ := X.base) I.ok.mod.kin T.m_Memory_tried.kp ?_ (by rfl) (by rfl))
  show wpAny _ _ (spliced ((false, eval (.Lambda params body scope lpos) X.env) :: backTo pos (starEach [] X.env))) _ _ s1
  have hf : ∀ y ∈ scope.names, y.2 = .free → ∃ c, X.env.cells.lookup y.1 = some c := fun y hy e => (hfree y hy e).elim (fun z => I.ok.has _ (.inl z)) fun z => I.ok.has _ (.inr z)
  refine Calls.spliced_cons (lamn_make I1 (T.tab hx0) hcode hmT hn (T.tu hmT) hT hdef hf fun f c' H2 s2 I2 eN nn T2 f0 f1 c1 => ?_)
  have hsp := q f c' H2 eN nn T2 f0 f1 c1
  refine Calls.spliced_nil ⟨I2.kIn, ?_⟩
  have C : CellsAt (lamF X params scope c').cl fr (js.map (slotAt σ)) s2.heap H2 := cells_of I2 (Caps.made I2.ok hfree hfr hjs)
  obtain ⟨ds, rd, hb⟩ := tried_b0 T
  obtain ⟨kv, rfl, rkv⟩ : ∃ u, ds = [u] ∧ L2.RelV (.bl false) u := by
    cases rd with
    | cons r1 r2 => cases r2; exact ⟨_, rfl, r1⟩
  show wpAny _ _ (call (.ref (He.ma X.K (He.ga X.K "Memory") "tried")) [.ref m, .ref f]) _ _ _
  exact run_triedX (args := [.ref m, .ref f]) (kwa := []) T (live σ f c') (gst_lam.and gst0) hg hr hk hx I2 ⟨⟨f1, c1, C⟩, True.intro⟩ (hb s2 [.ref m, .ref f] I2.kIn rfl) rkv hsp
section
variable {P : Program} {w : World} {K : PySem.W.Frag} {mg : Str → Option Value} {base : Heap}
def sp_any (K : PySem.W.Frag) : Sp := fun vs H Q E => ∃ d, d ≤ 8 ∧ sp_law_block d K vs H Q E
theorem ok_any (T : Th P K mg base) : GF P w K mg base 120 (He.ga K "_law_block") ["_law_pot_here", "_law_memory", "_law_day_here", "_law_deep"] (sp_any K) :=
  ⟨⟨fun vs H Q E ⟨d, _, h⟩ => (blk_all (w := w) T (d + 1)).ok.len vs H Q E h, fun A outer s H args us vs Q E hg hr e0 hb r ⟨d, hd, h⟩ => ((blk_all (w := w) T (d + 1)).mono (show 12 + 12 * (d + 1) ≤ 120 by omega)).ok.run A outer s H args us vs Q E hg hr e0 hb r h⟩, (blk_all (w := w) T 0).kp, (blk_all (w := w) T 0).b⟩
end
structure RgS (K : PySem.W.Frag) (p m : Addr) (u : V) (d : Deal) (H1 : Hp) (nn k : Nat) (M : MemS) (v : V) (D : DayS) (H' : Hp) : Prop where
  fr : Fr K [p, m] H1 H'
  hp : PotAt H' p nn
  hM : MemAt K H' m M
  hD : DayAt H' v D
  sy : Syn M D
  blk : M.blk = .non
  len : M.past.length + M.later.length ≤ k
  tb : Tb K H'
  hu : Im H' u (dDeal d)
section
variable {K : PySem.W.Frag} {p m : Addr} {u : V} {d : Deal} {H1 H' H2 : Hp} {nn k n2 k2 : Nat} {M M2 : MemS} {v v2 : V} {D D2 : DayS}
theorem RgS.kp (R : RgS K p m u d H1 nn k M v D H') (fr : Fr K [p, m] H' H2) : Kp H' H2 := fr.kp fun c hc w e => by
  obtain ⟨dx, f, pq, lq, hm⟩ := id R.hM
  obtain ⟨x, y, z, hl, _⟩ := id R.hp
  simp only [List.mem_cons, List.not_mem_nil, or_false] at hc
  rcases hc with rfl | rfl
  · rw [hl] at e; cases e; exact ⟨fun _ z => (by cases z), fun _ _ z => (by cases z)⟩
  · rw [hm.i] at e; cases e; exact ntf_ins
theorem RgS.step (R : RgS K p m u d H1 nn k M v D H') (fr : Fr K [p, m] H' H2) (hp : PotAt H2 p n2) (hM : MemAt K H2 m M2) (hD : DayAt H2 v2 D2) (sy : Syn M2 D2) (hb : M2.blk = M.blk) (hl : M2.past.length + M2.later.length ≤ k2) : RgS K p m u d H1 n2 k2 M2 v2 D2 H2 :=
  ⟨R.fr.trans fr, hp, hM, hD, sy, hb.trans R.blk, hl, fr.t R.tb, R.hu.k (R.kp fr)⟩
theorem RgS.same (R : RgS K p m u d H1 nn k M v D H') (s : Same H' H2) : RgS K p m u d H1 nn k M v D H2 :=
  R.step (Fr.same s) (R.hp.s s) (R.hM.same s) (R.hD.k (Kp.of s)) R.sy rfl R.len
theorem RgS.pm (R : RgS K p m u d H1 nn k M v D H') : p ≠ m := fun z => by
  obtain ⟨dx, f, pq, lq, hm⟩ := id R.hM
  obtain ⟨x, y, z', hl, _⟩ := id R.hp
  rw [z, hm.i] at hl
  cases hl
theorem RgS.pot (R : RgS K p m u d H1 nn k M v D H') (o : So [p] H' H2) (hp : PotAt H2 p n2) : RgS K p m u d H1 n2 k M v D H2 := by
  have fr : Fr K [p, m] H' H2 := (Fr.so o (by intro c hc w e; rw [List.mem_singleton.mp hc] at e; exact R.hp.pl w e)).mono (by simp)
  have kk := R.kp fr
  exact R.step fr hp (R.hM.k kk fun C dx fs e => o _ _ e (by simpa using Ne.symm R.pm)) (R.hD.k kk) R.sy rfl R.len
theorem RgS.fr0 (R : RgS K p m u d H1 nn k M v D H') (fr : Fr K [] H' H2) : RgS K p m u d H1 nn k M v D H2 := by
  have f2 : Fr K [p, m] H' H2 := fr.mono (by simp)
  have kk := R.kp f2
  exact R.step f2 (R.hp.of fun xs e => fr.e _ _ e (by simp) fun _ z => by cases z) (R.hM.k kk fun C dx fs e => fr.e _ _ e (by simp) fun _ z => by cases z) (R.hD.k kk) R.sy rfl R.len
theorem RgS.mem (R : RgS K p m u d H1 nn k M v D H') (fr : Fr K [m] H' H2) (hM : MemAt K H2 m M2) (hD : DayAt H2 v2 D2) (sy : Syn M2 D2) (hb : M2.blk = M.blk) (hl : M2.past.length + M2.later.length ≤ k2) : RgS K p m u d H1 nn k2 M2 v2 D2 H2 :=
  R.step (fr.mono (by simp)) (R.hp.of fun xs e => fr.e _ _ e (by simpa using R.pm) fun _ z => by cases z) hM hD sy hb hl
theorem RgS.mono (R : RgS K p m u d H1 nn k M v D H') (h1 : nn ≤ n2) (h2 : k ≤ k2) : RgS K p m u d H1 n2 k2 M v D H' := ⟨R.fr, R.hp.mono h1, R.hM, R.hD, R.sy, R.blk, Nat.le_trans R.len h2, R.tb, R.hu⟩
end
theorem stepM_blk (w : Int) (M : MemS) : (stepM w M).blk = M.blk := by
  unfold stepM
  split <;> rfl
theorem stepM_len (w : Int) (M : MemS) : (stepM w M).past.length + (stepM w M).later.length = M.past.length + M.later.length := by
  unfold stepM undoM redoM
  split <;> simp <;> omega
end Bp

namespace Bp
open PySem PySem.Spec PyProof.Rows L2 LamX NdefX TL
theorem hmR {K : PySem.W.Frag} : (tbA K "_law_right", fun _ _ => ("_law_right.<locals>.<lambda>" : Str)) ∈ tabs K := List.mem_cons_of_mem _ (List.mem_cons_of_mem _ (List.mem_cons_of_mem _ (List.mem_cons_of_mem _ List.mem_cons_self)))
def spMine (K : PySem.W.Frag) (σ : L2.St) : Sp := fun vs H Q _ => ∃ (m : Addr) (M : MemS), vs = [.ref m] ∧ slotAt σ 2 = some (.ref m) ∧ MemAt K H m M ∧ Q (.bl true) H
section
variable {P : Program} {w : World} {K : PySem.W.Frag} {mg : Str → Option Value} {base : Heap}
/-! ### _law_right: slots pot 0, deal 1, memory 2, day 3, lap 4, is_ok 5, went_ok 6 -/
def sp_law_right (K : PySem.W.Frag) : Sp := fun vs H Q _ => ∃ (p : Addr), vs = [.ref p] ∧ PotAt H p 0 ∧ Tb K H ∧ ∀ H', Fr K [p] H H' → Q (.bl true) H'
theorem ok_law_right (T : Th P K mg base) : GF P w K mg base 125 (He.ga K "_law_right") ["_law_pot_here"] (sp_law_right K) := by
  refine gf_ofC T.d_law_right sc_law_right (fun vs H Q E h => by obtain ⟨p, rfl, hp, tb, q⟩ := h; rfl) (fun _ _ _ _ _ _ us hl => match us, hl with | [_], _ => rfl) fun A outer s H vs Q E hg hr hsp => ?_
  obtain ⟨p, rfl, hp, tb, q⟩ := hsp
  refine ⟨_, (pss_cons (ps_set (i := 1) sc_law_right.nd rfl (Or.inl rfl) (pe_fn T.g_law_drawn_deal (ok_law_drawn_deal T) hg hr passL (pa_cons (pv 0) (pa_cons pe_int pa_nil))))
    (pss_cons (ps_asg (pe_tup (pa_cons (pe_mk T.mk_Memory (ok_Memory_init T) T.g_Memory hg hr passL (pa_cons (pv 1) pa_nil)) (pa_cons (pe_fn T.g_law_day (ok_law_day T) hg hr passL (pa_cons (pv 1) pa_nil)) pa_nil))) (pg_tup rfl (pgs_cons (pg_name (i := 2) sc_law_right.nd rfl (Or.inr rfl)) (pgs_cons (pg_name (i := 3) sc_law_right.nd rfl (Or.inl rfl)) pgs_nil))))
    (pss_cons (ps_if (PW.pt (pw_or (pt_not (pt_val (pe_fn T.g_law_is_outside (ok_law_is_outside T) hg hr passL (pa_cons (pv 2) pa_nil)))) (pw_or (pt_not (pt_val (pe_ix ix_tup (pe_fn T.g_law_gone (ok_law_gone T) hg hr passL (pa_cons (pv 2) (pa_cons (pv 3) (pa_cons pe_int pa_nil)))) pe_int (fun _ _ => rfl)))) (pw_or1 (pt_not (pt_val (pe_ix ix_tup (pe_fn T.g_law_gone (ok_law_gone T) hg hr passL (pa_cons (pv 2) (pa_cons (pv 3) (pa_cons pe_int pa_nil)))) pe_int (fun _ _ => rfl)))))))) (pss_one (ps_ret pe_bl)) pss_nil)
    (pss_cons (ps_for PassesOwn.leaving rfl (pi_range1 (by rfl) T.f_range (pa_cons pe_int pa_nil)) (pg_name (i := 4) sc_law_right.nd rfl (Or.inl rfl))
      (pss_cons (ps_asg (pe_fn T.g_law_led (ok_law_led T) hg hr passL (pa_cons (pv 2) (pa_cons (pv 3) (pa_cons (pe_fn T.g_law_a_deed (ok_law_a_deed T) hg hr passL (pa_cons (pv 0) pa_nil)) pa_nil)))) (pg_tup rfl (pgs_cons (pg_name (i := 5) sc_law_right.nd rfl (Or.inl rfl)) (pgs_cons (pg_name (i := 3) sc_law_right.nd rfl (Or.inl rfl)) pgs_nil))))
      (pss_cons (ps_asg (pe_fn T.g_law_gone (ok_law_gone T) hg hr passL (pa_cons (pv 2) (pa_cons (pv 3) (pa_cons (pe_fn T.g_law_take (ok_law_take T) hg hr passL (pa_cons (pv 0) (pa_cons pe_int pa_nil))) pa_nil)))) (pg_tup rfl (pgs_cons (pg_name (i := 6) sc_law_right.nd rfl (Or.inl rfl)) (pgs_cons (pg_name (i := 3) sc_law_right.nd rfl (Or.inl rfl)) pgs_nil))))
      (pss_cons (ps_if (PW.pt (pw_or (pt_not (pt_val (pv 5))) (pw_or (pt_not (pt_val (pv 6))) (pw_or1 (pt_not (pt_val (pe_fn T.g_law_is_memory (ok_law_is_memory T) hg hr passL (pa_cons (pv 2) (pa_cons (pv 3) (pa_cons (pe_fn T.g_law_around (ok_law_around T) hg hr passL (pa_cons (pv 0) pa_nil)) pa_nil)))))))))) (pss_one (ps_ret pe_bl)) pss_nil)
      (pss_cons (ps_asg (pe_fn T.g_law_block (ok_any T) hg hr passL (pa_cons (pv 0) (pa_cons (pv 2) (pa_cons (pv 3) (pa_cons (pe_fn T.g_law_of (ok_law_of T) hg hr passL (pa_cons (pv 0) (pa_cons (pe_lst (pa_cons pe_int (pa_cons pe_int (pa_cons pe_int pa_nil)))) pa_nil))) pa_nil))))) (pg_tup rfl (pgs_cons (pg_name (i := 5) sc_law_right.nd rfl (Or.inl rfl)) (pgs_cons (pg_name (i := 3) sc_law_right.nd rfl (Or.inl rfl)) pgs_nil))))
      (pss_one (ps_if (PW.pt (pw_or (pt_not (pt_val (pv 5))) (pw_or1 (pt_not (pt_val (pe_fn T.g_law_is_outside (ok_law_is_outside T) hg hr passL (pa_cons (pv 2) pa_nil))))))) (pss_one (ps_ret pe_bl)) pss_nil)))))))
    (pss_cons (ps_for PassesOwn.leaving rfl (pi_range1 (by rfl) T.f_range (pa_cons (pe_callB call_len_seq (by rfl) T.f_len (by decide +kernel) (pa_cons (pe_dget (hu_of hr) (pv 3) pe_str (fun _ _ => rfl)) pa_nil)) pa_nil)) (pg_name (i := 4) sc_law_right.nd rfl (Or.inl rfl))
      (pss_cons (ps_expr (pe_mt0 T.cl_Memory T.m_Memory_redo (ok_Memory_redo T) hg hr passL (pv 2)))
      (pss_one (ps_set (i := 3) sc_law_right.nd rfl (Or.inl rfl) (pe_fn T.g_law_again (ok_law_again T) hg hr passL (pa_cons (pv 3) pa_nil))))))
    (pss_cons (ps_if (PW.pt (pw_or (pt_not (pt_val (pe_ix ix_tup (pe_fn T.g_law_gone (ok_law_gone T) hg hr passL (pa_cons (pv 2) (pa_cons (pv 3) (pa_cons pe_int pa_nil)))) pe_int (fun _ _ => rfl)))) (pw_or1 (pt_not (pt_val (pe_fn T.g_law_is_memory (ok_law_is_memory T) hg hr passL (pa_cons (pv 2) (pa_cons (pv 3) (pa_cons (pe_fn T.g_law_around (ok_law_around T) hg hr passL (pa_cons (pv 0) pa_nil)) pa_nil))))))))) (pss_one (ps_ret pe_bl)) pss_nil)
    (pss_cons (ps_if (pt_cmpR op_isnot_bl (pe_triedL (k := 124) (j := 5) (x := "_law_right") (fr := ["_law_memory"]) (js := [2]) (E := E0) (sp := spMine K) T ⟨rfl, rfl, rfl, rfl, rfl⟩ (by simp [tfs]) rfl hmR (by rfl) (by rfl) (by rfl) (by rfl) ?_ hg hr passL (pv 2) (by decide)) pe_bl (nomark _)) (pss_one (ps_ret pe_bl)) pss_nil)
    (pss_one (ps_ret (pe_fn T.g_law_is_long_right (ok_law_is_long_right T) hg hr passL (pa_cons (pv 1) (pa_cons (pe_op op_add pe_int (pe_fn T.g_law_take (ok_law_take T) hg hr passL (pa_cons (pv 0) (pa_cons pe_int pa_nil)))) pa_nil)))))))))))), ?_⟩
  · refine fun σ f c' => lam_live (k := 4) (N := ["_law_mine", "_law_memory"]) (ps := ["_law_mine"]) (nscope_by (by rfl)) (fun _ _ us hl => match us, hl with | [_], _ => rfl) (fun vs H Q E h => by obtain ⟨m, M, rfl, _⟩ := h; rfl) fun A outer s H vs Q E hg hr _ hsp => ?_
    obtain ⟨m, M, rfl, h2, hM, q⟩ := hsp
    refine ⟨_, pe_cmpR (op_eqM T hg hr) (pv 0) (pv 1) (nomark _), ?_⟩
    exact ⟨_, rfl, .ref m, congrArg some h2, m, m, M, M, rfl, rfl, hM, hM, rfl, rfl, q⟩
  obtain ⟨x0, y0, z0, hpl, _⟩ := id hp
  refine ⟨_, rfl, p, 3, 0, rfl, hp, by decide, by decide, by decide, fun H1 u d o1 hp1 hu okd kk1 => ?_⟩
  have frp : Fr K [p] H H1 := Fr.so o1 (by intro c hc w e; rw [List.mem_singleton.mp hc] at e; exact hp.pl w e)
  have tb1 := frp.t tb
  dsimp only [gName]
  refine seq_with (fun σ H' => ∃ m v, σ = [some (.ref p), some u, some (.ref m), some v, none, none, none] ∧ H1 m = none ∧ RgS K p m u d H1 3 0 (memI d 0) v ⟨d, [], []⟩ H') (fun N hN => ?_) (fun σ H2 pmm => ?_)
  · refine ⟨_, rfl, fun m dx nm ndx ne => ⟨m, dx, u, d, rfl, upd_same, hu.s fun b o e => by rw [upd_ne (ne_of_none e nm), upd_ne (ne_of_none e ndx)]; exact e, okd, fun H2 o2 hM2 => ⟨rfl, fun _ => ?_⟩⟩⟩
    have s2 : Same H1 H2 := fun b o e => o2 _ _ (by rw [upd_ne (ne_of_none e nm), upd_ne (ne_of_none e ndx)]; exact e) (by simpa using ne_of_none e nm)
    refine ⟨_, rfl, u, d, rfl, hu.s s2, fun v H3 s3 hD3 _ => ⟨by show 2 ≤ sizeLine; decide, fun t nt => ?_⟩⟩
    have s4 := sameN (o := .tup [.ref m, v]) nt
    have s14 := (s2.trans s3).trans s4
    exact ⟨t, _, rfl, SqT.of upd_same, rfl, _, _, rfl, _, _, rfl, rfl, hN _ _ ⟨m, v, rfl, nm, ⟨Fr.same s14, hp1.s s14, hM2.same (s3.trans s4), hD3.k (Kp.of s4), syn0 okd, rfl, (Nat.le_of_eq (by show (pastI d 0).length + 0 = 0; rw [pastI_len])), tb1.ext s14, hu.s s14⟩⟩⟩
  obtain ⟨m, v, rfl, nm, R2⟩ := pmm
  refine seq_with (fun σ H' => σ = [some (.ref p), some u, some (.ref m), some v, none, none, none] ∧ RgS K p m u d H1 3 0 (memI d 0) v ⟨d, [], []⟩ H') (fun N hN => ?_) (fun σ H3 pmm => ?_)
  · refine ⟨_, rfl, m, _, rfl, R2.hM, R2.blk, R2.tb, fun H3 fr3 _ => ⟨true, rfl, iteF ?_⟩⟩
    have R3 := R2.fr0 fr3
    refine ⟨_, rfl, _, rfl, m, _, v, _, 0, rfl, .inl rfl, R3.hM, R3.hD, R3.sy, R3.tb, fun H4 r v4 fr4 hM4 hD4 er _ => ⟨r, _, 0, _, rfl, rfl, SqT.of er, rfl, true, rfl, iteF ?_⟩⟩
    have R4 : RgS K p m u d H1 3 0 (memI d 0) v ⟨d, [], []⟩ H4 := R3.mem fr4 hM4 (R3.hD.k (R3.kp (fr4.mono (by simp)))) R3.sy rfl R3.len
    refine ⟨_, rfl, _, rfl, m, _, v, _, 1, rfl, .inr rfl, R4.hM, R4.hD, R4.sy, R4.tb, fun H5 r5 v5 fr5 hM5 hD5 er5 _ => ⟨r5, _, 0, _, rfl, rfl, SqT.of er5, rfl, true, rfl, iteF ?_⟩⟩
    have R5 : RgS K p m u d H1 3 0 (memI d 0) v ⟨d, [], []⟩ H5 := R4.mem fr5 hM5 (R4.hD.k (R4.kp (fr5.mono (by simp)))) R4.sy rfl R4.len
    exact hN _ _ ⟨rfl, R5⟩
  obtain ⟨rfl, R3⟩ := pmm
  clear R2
  refine seq_with (fun σ H' => ∃ v M D y z x, σ = [some (.ref p), some u, some (.ref m), some v, y, z, x] ∧ RgS K p m u d H1 5000 100 M v D H') (fun N hN => ?_) (fun σ H4 pmm => ?_)
  · refine ⟨3, rfl, by decide, by decide, for_it (walk_range (lo := 0) (n := 3)) (fun i σ H' => ∃ v M D y z x, σ = [some (.ref p), some u, some (.ref m), some v, y, z, x] ∧ RgS K p m u d H1 (3 + 1500 * i) (20 * i) M v D H')
      ⟨v, _, _, none, none, none, rfl, R3⟩ (fun _ _ _ _ _ => True.intro) (fun i x σ H4 H5 hi pv y => ?_) (fun σ H4 pv => ?_)⟩
    · obtain ⟨v4, M4, D4, y4, z4, x4, rfl, R4⟩ := pv
      obtain ⟨rfl, rfl⟩ := y
      refine ⟨_, rfl, _, rfl, _, rfl, p, _, rfl, R4.hp, by omega, fun H5 ud dd o5 hp5 hdd okd5 kk5 => ?_⟩
      have R5 := R4.pot o5 hp5
      have l5 := R5.len
      refine ⟨m, v4, ud, M4, D4, dd, rfl, R5.hM, R5.hD, R5.sy, hdd, okd5, by omega, R5.tb, fun H6 r v6 fr6 hM6 hD6 er _ => ?_⟩
      have R6 := R5.mem fr6 hM6 hD6 (R5.sy.led okd5 (by omega)) (ledM_blk _ _) (Nat.le_trans (ledM_len M4 dd) (Nat.add_le_add_right l5 1))
      refine ⟨r, _, rfl, SqT.of er, rfl, _, _, rfl, _, _, rfl, rfl, ?_⟩
      refine ⟨_, rfl, _, rfl, _, rfl, p, 2, _, rfl, R6.hp, by omega, by omega, by omega, fun H7 w7 o7 hp7 w0 w1 _ => ?_⟩
      have R7 := R6.pot o7 hp7
      refine ⟨m, _, v6, _, w7, rfl, by omega, R7.hM, R7.hD, R7.sy, R7.tb, fun H8 r8 v8 fr8 hM8 hD8 er8 _ => ?_⟩
      have R8 := R7.mem fr8 hM8 hD8 (R7.sy.step w7) (stepM_blk _ _) (by rw [stepM_len]; exact R7.len)
      refine ⟨r8, _, rfl, SqT.of er8, rfl, _, _, rfl, _, _, rfl, rfl, ?_⟩
      refine ⟨_, rfl, true, rfl, iteF ⟨_, rfl, true, rfl, iteF ⟨_, rfl, _, rfl, _, rfl, p, _, rfl, R8.hp, by omega, fun H9 l xs cs o9 hp9 el nl him hcl _ => ?_⟩⟩⟩
      have R9 := R8.pot o9 hp9
      refine ⟨m, l, v8, _, _, xs, cs, rfl, R9.hM, R9.hD, R9.sy, el, him, by omega, fun H10 s10 _ => ⟨true, rfl, iteF ?_⟩⟩
      have R10 := R9.same s10
      refine ⟨_, rfl, _, rfl, _, rfl, _, rfl, by show 3 ≤ sizeLine; decide, fun l2 nl2 => ?_⟩
      have R10b := R10.same (sameN (o := .lst [.int 2, .int 5, .int 8]) nl2)
      refine ⟨p, l2, [.int 2, .int 5, .int 8], _, rfl, R10b.hp, upd_same, ?_, by decide, by decide, by omega, fun H11 vd o11 hp11 hvd _ => ?_⟩
      · obtain ⟨x, y, z, h, _⟩ := id R10.hp
        exact Ne.symm (ne_lst h nl2)
      have R11 := R10b.pot o11 hp11
      have l11 := R11.len
      obtain ⟨dd2, rfl, hd8⟩ : ∃ e : Nat, vd = .int (e : Int) ∧ e ≤ 8 := by
        simp only [List.mem_cons, List.not_mem_nil, or_false] at hvd
        rcases hvd with rfl | rfl | rfl
        · exact ⟨2, rfl, by decide⟩
        · exact ⟨5, rfl, by decide⟩
        · exact ⟨8, rfl, by decide⟩
      refine ⟨dd2, hd8, p, m, v8, _, _, _, rfl, R11.hp, by omega, R11.hM, R11.hD, R11.sy, R11.tb, by omega, fun H12 r12 v12 M12 D12 fr12 hp12 hM12 hD12 sy12 b12 f12 n12 er12 _ => ?_⟩
      have R12 := R11.step fr12 hp12 hM12 hD12 sy12 b12 n12
      refine ⟨r12, _, rfl, SqT.of er12, rfl, _, _, rfl, _, _, rfl, rfl, ?_⟩
      refine ⟨_, rfl, true, rfl, iteF ⟨_, rfl, m, M12, rfl, R12.hM, R12.blk, R12.tb, fun H13 fr13 _ => ⟨true, rfl, iteF ?_⟩⟩⟩
      have R13 := R12.fr0 fr13
      refine ⟨v12, M12, D12, _, _, _, rfl, ⟨R13.fr, R13.hp.mono (by omega), R13.hM, R13.hD, R13.sy, R13.blk, ?_, R13.tb, R13.hu⟩⟩
      have l13 := R13.len
      omega
    · obtain ⟨v4, M4, D4, y4, z4, x4, rfl, R4⟩ := pv
      exact hN _ _ ⟨v4, M4, D4, y4, z4, x4, rfl, R4.mono (by omega) (by omega)⟩
  obtain ⟨v4, M4, D4, y4, z4, x4, rfl, R4⟩ := pmm
  clear R3 v
  refine seq_with (fun σ H' => ∃ v M D y z x, σ = [some (.ref p), some u, some (.ref m), some v, y, z, x] ∧ RgS K p m u d H1 5000 100 M v D H' ∧ M.later = []) (fun N hN => ?_) (fun σ H5 pmm => ?_)
  · obtain ⟨a, w1, w2, w3, h⟩ := R4.hD
    obtain rfl := h.e
    obtain ⟨b, xs, S⟩ := h.l.ddsI
    obtain rfl := S.e
    have hS := S.n
    have hL := R4.sy.nl
    have lb := R4.len
    refine ⟨_, rfl, a, _, rfl, h.get3, b, xs, rfl, .inl (Or.inl S.t), (xs.length : Nat), rfl, by omega, by omega, for_it (walk_range (lo := 0) (n := xs.length)) (fun j σ H' => ∃ v M D y z x, σ = [some (.ref p), some u, some (.ref m), some v, y, z, x] ∧ RgS K p m u d H1 5000 100 M v D H' ∧ M.later.length = xs.length - j)
      ⟨.ref a, M4, D4, y4, z4, x4, rfl, R4, by omega⟩ (fun _ _ _ _ _ => True.intro) (fun j x σ H5a H5 hj pv y => ?_) (fun σ H5 pv => ?_)⟩
    · obtain ⟨v5, M5, D5, y5, z5, x5, rfl, R5, l5⟩ := pv
      obtain ⟨rfl, rfl⟩ := y
      obtain ⟨dx, f, pq, lq, hm⟩ := id R5.hM
      have lb5 := R5.len
      have n5 := R5.sy.np
      have n5' := R5.sy.nl
      refine ⟨.ref m, rfl, m, dx, _, rfl, hm.i, rfl, m, M5, rfl, R5.hM, by omega, fun r e' hre H6 o6 hM6 k6 => ?_, fun z => absurd l5 (by rw [z]; simp; omega)⟩
      have fr6 : Fr K [m] H5 H6 := Fr.so o6 (by intro c hc w e; rw [List.mem_singleton.mp hc] at e; exact R5.hM.pl w e)
      refine ⟨_, rfl, v5, D5, rfl, R5.hD.k k6, by omega, fun v7 H7 s7 hD7 _ => ?_⟩
      have e7 := redoM_of hre
      have hM7 := hM6.same s7
      rw [← e7] at hM7
      have ll : (redoM M5).past.length + (redoM M5).later.length ≤ 100 := by
        rw [e7]
        rw [hre] at lb5
        simp at lb5 ⊢
        omega
      refine ⟨v7, redoM M5, _, _, _, _, rfl, R5.mem (fr6.trans (Fr.same s7)) hM7 hD7 R5.sy.redo rfl ll, ?_⟩
      rw [e7]
      rw [hre] at l5
      simp at l5 ⊢
      omega
    · obtain ⟨v5, M5, D5, y5, z5, x5, rfl, R5, l5⟩ := pv
      exact hN _ _ ⟨v5, M5, D5, y5, z5, x5, rfl, R5, List.eq_nil_of_length_eq_zero (by omega)⟩
  obtain ⟨v5, M5, D5, y5, z5, x5, rfl, R5, l5⟩ := pmm
  refine seq_with (fun σ H' => σ = [some (.ref p), some u, some (.ref m), some v5, y5, z5, x5] ∧ RgS K p m u d H1 5018 100 M5 v5 D5 H') (fun N hN => ?_) (fun σ H6 pmm => ?_)
  · refine ⟨_, rfl, _, rfl, m, _, v5, _, 1, rfl, .inr rfl, R5.hM, R5.hD, R5.sy, R5.tb, fun H6 r v6 fr6 hM6 hD6 er _ => ⟨r, _, 0, _, rfl, rfl, SqT.of er, rfl, true, rfl, iteF ?_⟩⟩
    have hM6' : MemAt K H6 m M5 := by
      have e : stepM 1 M5 = M5 := redoM_nil l5
      rw [e] at hM6
      exact hM6
    have R6 := R5.mem fr6 hM6' (R5.hD.k (R5.kp (fr6.mono (by simp)))) R5.sy rfl R5.len
    refine ⟨_, rfl, _, rfl, _, rfl, p, _, rfl, R6.hp, by omega, fun H9 l xs cs o9 hp9 el nl him hcl _ => ?_⟩
    have R9 := R6.pot o9 hp9
    exact ⟨m, l, v5, _, _, xs, cs, rfl, R9.hM, R9.hD, R9.sy, el, him, by omega, fun H10 s10 _ => ⟨true, rfl, iteF (hN _ _ ⟨rfl, R9.same s10⟩)⟩⟩
  obtain ⟨rfl, R6⟩ := pmm
  refine seq_with (fun σ H' => σ = [some (.ref p), some u, some (.ref m), some v5, y5, z5, x5] ∧ RgS K p m u d H1 5018 100 M5 v5 D5 H') (fun N hN => ?_) (fun σ H7 pmm => ?_)
  · obtain ⟨dx, f, pq, lq, hm⟩ := id R6.hM
    refine ⟨.ref m, rfl, m, dx, _, rfl, hm.i, rfl, R6.tb, fun f9 c9 H7 eN nn T7 f0 f1 c1 => ?_⟩
    have kN := ext_kp eN
    have fr7 : Fr K [p, m] H6 H7 := Fr.made eN T7
    have hm7 : H7 m = some (.ins (Memo K) dx (MemF f pq lq M5.blk)) := eN _ _ hm.i fun _ z => by cases z
    refine ⟨True.intro, dx, f, pq, lq, M5.blk, hm7, fun H8 t tdx b bdx o8 nt nb tb8 ht8 hb8 hm8 Q' E' qo qe => ?_⟩
    have so_m : ∀ c ∈ [m], ∀ w, H7 c = some w → NTF w := by
      intro c hc w e
      rw [List.mem_singleton.mp hc, hm7] at e
      cases e
      exact ntf_ins
    have kk8 := o8.kp so_m
    have kk68 := kN.trans kk8
    refine ⟨m, { M5 with blk := .ref b }, rfl, rfl, ⟨dx, f, pq, lq, hm8, hm.f.k kk68, hm.p.k kk68, hm.l.k kk68⟩, qo _ _ fun _ => ⟨dx, f, pq, lq, .non, ht8, hm8, hb8, fun H9 o9 hm9 kk9 => ?_⟩⟩
    have bm : b ≠ m := fun z => by rw [z, hm7] at nb; cases nb
    have bp : b ≠ p := fun z => by
      obtain ⟨x, y, z', hl, _⟩ := id R6.hp
      have := eN _ _ hl fun _ z => by cases z
      rw [z, this] at nb
      cases nb
    have hm9' : H9 m = some (.ins (Memo K) dx (MemF f pq lq M5.blk)) := by
      rw [hm9, if_neg (by simp)]
    have fr79 : Fr K [p, m] H7 H9 := by
      have f8 : Fr K [m, b] H7 H8 := (Fr.so o8 (by intro c hc w e; rw [List.mem_singleton.mp hc, hm7] at e; cases e; exact pl_ins)).mono (by simp)
      have f9 : Fr K [m, b] H8 H9 := Fr.so o9 (by
        intro c hc w e
        simp only [List.mem_cons, List.not_mem_nil, or_false] at hc
        rcases hc with rfl | rfl
        · rw [hm8] at e; cases e; exact pl_ins
        · rw [hb8] at e; cases e; exact pl_ins)
      exact (f8.trans f9).drop (by
        intro c hc
        simp only [List.mem_cons, List.not_mem_nil, or_false] at hc
        rcases hc with rfl | rfl
        · exact .inl (by simp)
        · exact .inr nb)
    have fr69 := fr7.trans fr79
    have kk69 := R6.kp fr69
    have R9 := R6.step (n2 := 5018) (k2 := 100) fr69 (R6.hp.of fun xs e => o9 _ _ (o8 _ _ (eN _ _ e fun _ z => by cases z) (by simpa using R6.pm)) (by simp [R6.pm, Ne.symm bp])) ⟨dx, f, pq, lq, hm9', hm.f.k kk69, hm.p.k kk69, hm.l.k kk69⟩ (R6.hD.k kk69) R6.sy rfl R6.len
    exact ⟨true, true, rfl, rfl, _, rfl, iteF (hN _ _ ⟨rfl, R9⟩)⟩
  obtain ⟨rfl, R7⟩ := pmm
  refine ⟨_, rfl, _, rfl, p, 21, _, rfl, R7.hp, by decide, by decide, by decide, fun H8 e8 o8 hp8 e0 e1 _ => ⟨_, _, rfl, rfl, ?_⟩⟩
  have R8 := R7.pot o8 hp8
  obtain ⟨e8, rfl⟩ := Int.eq_ofNat_of_zero_le e0
  refine ⟨u, d, 100 + e8, by simp, R8.hu, okd, by omega, R8.tb, fun H9 fr9 _ => q H9 ?_⟩
  exact frp.trans ((R8.fr.trans (fr9.mono (by simp))).drop (by
    intro c hc
    simp only [List.mem_cons, List.not_mem_nil, or_false] at hc
    rcases hc with rfl | rfl
    · exact .inl (by simp)
    · exact .inr nm))
end
end Bp

namespace Bp
open PySem PySem.Spec PyProof.Rows L2 LamX NdefX TL
theorem sqL_same {K : PySem.W.Frag} {l : Addr} {H H' : Hp} {xs : List V} (h : SqL K H l xs) (s : Same H H') : SqL K H' l xs := by
  rcases h with (h | ⟨o, h⟩) | h
  · exact .inl (.inl (s _ _ h))
  · exact .inl (.inr ⟨o, s _ _ h⟩)
  · exact .inr h
section
variable {P : Program} {w : World} {K : PySem.W.Frag} {mg : Str → Option Value} {base : Heap}
/-! ### law: slots script 0, place 1 -/
def sp_law (K : PySem.W.Frag) : Sp := fun vs H Q _ => ∃ (l : Addr) (ns : List Int), vs = [.ref l] ∧ SqL K H l (ns.map V.int) ∧ ns.length ≤ 1000 ∧ Tb K H ∧ ∀ H', Q (.bl true) H'
theorem ok_law (T : Th P K mg base) : GF P w K mg base 126 (He.ga K "law") ["_law_script"] (sp_law K) := by
  refine gf_of T.d_law sc_law (fun vs H Q E h => by obtain ⟨l, ns, rfl, hl, hn, tb, q⟩ := h; rfl) (fun _ _ _ _ _ _ us hl => match us, hl with | [_], _ => rfl) fun cdv A outer s H vs Q E hg hr hsp => ?_
  obtain ⟨l, ns, rfl, hl, hn, tb, q⟩ := hsp
  refine ⟨_, (pss_one (ps_ret (pe_callB (cr_all rfl) (by rfl) T.f_all (by decide +kernel) (pa_cons (pe_lc (own := [("_law_place", 1)]) (tt := tYes) rfl sc_law.nd (pi_list (pe_fn T.g_law_cells (ok_law_cells T) hg hr passL (pa_cons (pv 0) (pa_cons pe_int pa_nil)))) (blkOk_by (N := N_law) (sc := defScope s_law) (by decide +kernel)) (fun _ _ _ _ _ => (pg_name (i := 1) sc_law.nd rfl (Or.inl rfl))) (fun _ _ _ _ _ => pts_nil) (fun _ _ _ _ _ => (pe_fn T.g_law_right (ok_law_right T) hg hr passL (pa_cons (pe_fn T.g_law_pot (ok_law_pot T) hg hr passL (pa_cons (pv 0) (pa_cons (pv 1) pa_nil))) pa_nil)))) pa_nil)))), ?_⟩
  refine ⟨_, rfl, l, ns, rfl, hl, hn, fun H1 r k s1 k0 k3 er _ => ⟨r, rfl, ⟨_, SqL.of er⟩, fun D hD => ?_⟩⟩
  have hl1 := sqL_same hl s1
  have sD : Same H1 (upd H1 D (.lst [])) := sameN hD
  have rD : r ≠ D := fun z => by rw [z, hD] at er; cases er
  have lk : (rgV 0 k).length ≤ 3 := by rw [rgV_length]; omega
  have base : (∀ H', SqL K H' l (ns.map V.int)) ∨ (Rd H1 l (.lst (ns.map V.int)) ∧ l ≠ D) := by
    rcases hl1 with h | h
    · exact .inr ⟨h, by rcases h with h | ⟨o, h⟩ <;> exact ne_of_none h hD⟩
    · exact .inl fun _ => .inr h
  refine lc_it (walk_list (xs := rgV 0 k)) (fun i H' => ((∀ H', SqL K H' l (ns.map V.int)) ∨ (Rd H' l (.lst (ns.map V.int)) ∧ l ≠ D)) ∧ Tb K H' ∧ H' r = some (.lst (rgV 0 k)) ∧ H' D = some (.lst (List.replicate i (.bl true)))) ⟨base.imp id fun h => ⟨rd_same h.1 sD, h.2⟩, (tb.ext s1).ext sD, sD _ _ er, upd_same⟩ (fun i H' _ p => SqL.of p.2.2.1) (fun i x H' H2 hi p y => ?_) (fun H2 p => ?_)
  · obtain ⟨hs, tb2, er2, eD2⟩ := p
    obtain ⟨rfl, hx⟩ := y
    have hi : i < (rgV 0 k).length := hi
    have ex : x = .int (i : Int) := by
      unfold rgV at hx hi
      rw [List.length_map, List.length_range] at hi
      rw [List.getElem?_map, List.getElem?_range hi] at hx
      rw [← Option.some.inj hx]
      show V.int (0 + (i : Int)) = V.int (i : Int)
      rw [Int.zero_add]
    subst ex
    have sq : SqL K H2 l (ns.map V.int) := hs.elim (fun h => h _) fun h => .inl h.1
    refine ⟨rfl, _, rfl, _, rfl, l, ns, i, rfl, sq, hn, by omega, fun H3 p s3 np hp3 _ => ⟨p, rfl, hp3, tb2.ext s3, fun H4 fr4 _ => ?_⟩⟩
    have keep : ∀ b u, H2 b = some u → (∀ ps, u ≠ .tbl ps) → H4 b = some u := fun b u e nt => fr4.e b u (s3 _ _ e) (by simpa using ne_of_none e np) nt
    have eD4 := keep _ _ eD2 fun _ z => by cases z
    refine ⟨_, eD4, Nat.lt_of_le_of_lt (show _ ≤ 10 by simp; omega) (by decide), hs.imp id fun h => ⟨?_, h.2⟩, ?_, ?_, ?_⟩
    · rcases h.1 with e | ⟨o, e⟩
      · exact .inl ((upd_ne h.2).trans (keep _ _ e fun _ z => by cases z))
      · exact .inr ⟨o, (upd_ne h.2).trans (keep _ _ e fun _ z => by cases z)⟩
    · exact (Fr.so (K := K) (S := [D]) (.upd (by simp)) (by
        intro c hc w e
        rw [List.mem_singleton.mp hc, eD4] at e
        cases e
        exact pl_lst)).t (fr4.t (tb2.ext s3))
    · exact (upd_ne rD).trans (keep _ _ er2 fun _ z => by cases z)
    · rw [upd_same, List.replicate_succ']
  · obtain ⟨_, _, _, eD⟩ := p
    refine ⟨D, List.replicate (rgV 0 k).length true, rfl, SqL.of (by rw [List.map_replicate]; exact eD), ?_⟩
    rw [show (List.replicate (rgV 0 k).length true).all id = true by simp]
    exact q H2
end
end Bp

namespace Bp
open PySem PySem.Spec PyProof.Rows L2 LamX NdefX TL
/-! ### as the law starts: tracked are the empty tables, and the script where it is not of the fragment -/
abbrev scrO (ws : List Value) : Obj := { cls := .type "list", data := .seq ws.toArray }
abbrev tabO : Obj := { cls := .none, data := .fields #[] }
structure St0 (K : PySem.W.Frag) (h : Heap) (T : List Addr) (a : Addr) (ws : List Value) (xs : List V) (H : Hp) : Prop where
  tab : ∀ b ∈ T, h.get? b = some tabO
  out : ∀ b ∈ T, K.lookup b = none
  scr : h.get? a = some (scrO ws)
  is : ∀ b u, H b = some u → (b ∈ T ∧ u = .tbl #[]) ∨ (b = a ∧ K.lookup a = none ∧ u = .frz (scrO ws) (.lst xs))
  has : ∀ b ∈ T, H b = some (.tbl #[])
section
variable {P : Program} {w : World} {K : PySem.W.Frag} {mg mb : Str → Option Value} {s : Shared} {T : List Addr} {a : Addr} {ws : List Value} {xs : List V} {H : Hp}
theorem St0.free {h : Heap} (S : St0 K h T a ws xs H) {b : Addr} {o : Obj} (e : h.get? b = some o) (n1 : ∀ us n, ¬ o.data = .seq us n) (n2 : ¬ o.data = .fields #[]) : H b = none := by
  cases z : H b with
  | none => rfl
  | some u =>
    exfalso
    rcases S.is b u z with ⟨hb, -⟩ | ⟨eb, -, -⟩
    · have t := S.tab b hb
      rw [e] at t
      exact n2 (by rw [Option.some.inj t])
    · have t := S.scr
      rw [← eb, e] at t
      exact n1 ws.toArray 0 (by rw [Option.some.inj t])
theorem St0.vis {h : Heap} (S : St0 K h T a ws xs H) {b : Addr} {o : Obj} (e : h.get? b = some o) (n1 : ∀ us n, ¬ o.data = .seq us n) (n2 : ¬ o.data = .fields #[]) : (hidT h H).get? b = some o := hidT_get e (S.free e n1 n2)
theorem St0.ns {h : Heap} (S : St0 K h T a ws xs H) {b : Addr} {m : Str → Option Value} (N : h.Ns b m) : (hidT h H).Ns b m := by
  obtain ⟨o, es, ep, e, d, r⟩ := N
  refine ⟨o, es, ep, S.vis e (fun us n z => ?_) fun z => ?_, d, r⟩ <;> (rw [d] at z; cases z)
theorem St0.kin {h : Heap} (S : St0 K h T a ws xs H) (X : K.In h) : K.In (hidT h H) := fun b o e => hidT_get (X b o e) (by
  cases z : H b with
  | none => rfl
  | some u =>
    exfalso
    rcases S.is b u z with ⟨hb, -⟩ | ⟨eb, ka, -⟩
    · have t := S.out b hb
      rw [e] at t
      cases t
    · rw [← eb, e] at ka
      cases ka)
theorem St0.bm {h : Heap} (S : St0 K h T a ws xs H) (hns : h.Ns mainGlobals mg) (hbm : ∃ (bm : Addr) (ob : Obj), mg "__builtins__" = some (.ref bm) ∧ bm ≠ builtinsNs ∧ h.get? bm = some ob ∧ ob.cls = .type "module" ∧ ob.dict = some builtinsNs ∧ ob.data = .plain) :
    ∀ b ∈ T, (hidT h H).BuiltinsAt mg b := by
  intro b hb
  obtain ⟨bm, ob, q1, q2, q3, q4, q5, q6⟩ := hbm
  have nG : bm ≠ mainGlobals := by
    rintro rfl
    obtain ⟨o', es, ep, e', hd', -⟩ := hns
    rw [q3] at e'
    rw [← Option.some.inj e', q6] at hd'
    cases hd'
  have nP : bm ≠ b := by
    rintro rfl
    rw [S.tab _ hb] at q3
    rw [← Option.some.inj q3] at q6
    cases q6
  refine ⟨bm, ob, q1, q2, nG, nP, S.vis q3 (fun us n z => ?_) fun z => ?_, q4, q5, q6⟩ <;> (rw [q6] at z; cases z)
theorem St0.ok (S : St0 K s.heap T a ws xs H) (rv : Vals xs ws) (hl : xs.length ≤ sizeLine) : HOk P w H s.heap := by
  intro b u e
  rcases S.is b u e with ⟨hb, rfl⟩ | ⟨rfl, -, rfl⟩
  · exact S.tab b hb
  · exact ⟨S.scr, hl, ws, 0, rv, S.scr⟩
theorem St0.env (S : St0 K s.heap T a ws xs H) (X : K.In s.heap) (hns : s.heap.Ns mainGlobals mg) (hb : s.heap.Ns builtinsNs mb) (hbb : ∀ x : Str, x ≠ "__name__" → mb x = bootBuiltins x) (hlim : s.heap.NoLimit) (hg : s.gens = #[]) (rv : Vals xs ws) (hl : xs.length ≤ sizeLine) :
    Env0 P w K mg (hidT s.heap H) callerA [] s H where
  frames := rfl
  mod := ⟨S.kin X, S.ns hns, ⟨mb, S.ns hb, hbb⟩, by
    obtain ⟨mc, n1, n2⟩ := hlim
    exact ⟨mc, S.ns n1, n2⟩⟩
  bs := fun _ _ => of_hidT
  bsz := Nat.le_of_eq (hidT_size s.heap H)
  funs := trivial
  frf := fun b hb => by cases hb
  hok := S.ok rv hl
  bare := AllBare.of_eq hg
/-- what stood before the law stands behind it, the tables aside, which have grown -/
theorem St0.old (S : St0 K s.heap T a ws xs H) (hc : ∀ b ∈ T, isCodeTable s.heap b) {H' : Hp} {s' : Shared} (un : Un (frs ([] : List Env)) [] H H' s.heap s'.heap) (ok' : HOk P w H' s'.heap) : OldK s.heap s'.heap := by
  have grow : ∀ b ∈ T, ∃ more : Array Value, s'.heap.get? b = some { cls := .none, data := .fields more } := by
    intro b hb
    obtain ⟨more, z⟩ := un.tbls b #[] (S.has b hb)
    exact ⟨#[] ++ more, ok' b _ z⟩
  have stay : ∀ b o, b ∉ T → s.heap.get? b = some o → s'.heap.get? b = some o := by
    intro b o nb e
    cases z : H b with
    | none => exact un.keep b o e z (by simp [frs]) (by simp)
    | some u =>
      rcases S.is b u z with ⟨hb, -⟩ | ⟨rfl, -, rfl⟩
      · exact absurd hb nb
      · obtain ⟨z2, -⟩ := ok' _ _ (un.frzs _ _ _ z)
        rw [S.scr] at e
        rw [z2]
        exact e
  constructor
  · intro b o e
    by_cases hb : b ∈ T
    · obtain ⟨more, hm⟩ := grow b hb
      rw [S.tab b hb] at e
      obtain rfl := Option.some.inj e
      exact .inr (.inl ⟨hc b hb, rfl, #[], more, rfl, by rw [Array.empty_append]; exact hm⟩)
    · exact .inl (stay b o hb e)
  · intro b o e
    by_cases hb : b ∈ T
    · obtain ⟨more, hm⟩ := grow b hb
      exact ⟨_, hm⟩
    · exact ⟨o, stay b o hb e⟩
end
end Bp

namespace Bp
open PySem PySem.Spec PyProof.Rows L2 LamX NdefX TL
abbrev Pw : Program := PySem.Challenge.pw_beatpatches_k68_whole_undone_tried_and_k
abbrev Tt (K : PySem.W.Frag) : List Addr := tfs.map fun p => (He.cT K p).2
theorem mem_tt {K : PySem.W.Frag} {b : Addr} (h : b ∈ Tt K) : ∃ p ∈ tfs, (He.cT K p).2 = b := List.mem_map.mp h
theorem tab0 {K : PySem.W.Frag} {H : Hp} (h : ∀ b ∈ Tt K, H b = some (.tbl #[])) : Tb K H := by
  intro p hp
  refine TabN.nil (h _ ?_)
  show p.1 ∈ (tabs K).map (·.1)
  exact List.mem_map.mpr ⟨p, hp, rfl⟩
theorem th_of {K : PySem.W.Frag} {mg : Str → Option Value} {base h : Heap} (X : K.In base) (G : base.Ns mainGlobals mg) (c : SaysB h K) (bm : ∀ p ∈ tfs, base.BuiltinsAt mg (He.cT K p).2) : Th Pw K mg base := ⟨X, G, c.a, c.i, c.more, c.hd, bm, rfl, by decide +kernel⟩
theorem core {w : World} {K : PySem.W.Frag} {mg mb : Str → Option Value} {s : Shared} {a : Addr} {ws : List Value} {ns : List Int} {H : Hp} (X : K.In s.heap) (hns : s.heap.Ns mainGlobals mg) (hb : s.heap.Ns builtinsNs mb) (hbb : ∀ x : Str, x ≠ "__name__" → mb x = bootBuiltins x) (hlim : s.heap.NoLimit) (hg : s.gens = #[])
    (hbm : ∃ (bm : Addr) (ob : Obj), mg "__builtins__" = some (.ref bm) ∧ bm ≠ builtinsNs ∧ s.heap.get? bm = some ob ∧ ob.cls = .type "module" ∧ ob.dict = some builtinsNs ∧ ob.data = .plain) (c : SaysB s.heap K) (hi : IntsAre ws ns) (hl : ns.length ≤ 63)
    (S : St0 K s.heap (Tt K) a ws (ns.map V.int) H) (hS : SqL K H a (ns.map V.int)) :
    codeAny (model Pw w) callerA (.call (.ref (He.ga K "law")) ⟨[.ref a], []⟩) (fun r s' => r = .ok (.ret (.bool true)) ∧ OldK s.heap s'.heap ∧ s'.os = s.os ∧ AllBare s'.gens) s := by
  have big : 1000 ≤ sizeLine := by decide
  have len : (ns.map V.int).length ≤ sizeLine := by rw [List.length_map]; omega
  have T : Th Pw K mg (hidT s.heap H) := th_of (S.kin X) (S.ns hns) c fun p hp => S.bm hns hbm _ (List.mem_map.mpr ⟨p, hp, rfl⟩)
  have F := ok_law (w := w) T
  have e0 := S.env (P := Pw) (w := w) X hns hb hbb hlim hg (vals_ints hi) len
  have bind := F.b s [.ref a] X rfl
  rw [List.append_nil] at bind
  have run := F.ok.run callerA [] s H ⟨[.ref a], []⟩ [.ref a] [.ref a] (fun v _ => v = .bl true) E0 rfl ⟨rfl, by decide, by decide⟩ e0 bind (.cons rfl .nil) ⟨a, ns, rfl, hS, by omega, tab0 S.has, fun _ => rfl⟩
  refine codeAny_mono run fun r s' q => ?_
  match r, q with
  | .error _, ⟨_, _, _, _, _, _, _, _, _, _, _, _, z⟩ => exact z.elim
  | .ok (.ret u), ⟨v, H', os, bare, un, ok', rv, ev⟩ =>
    subst ev
    have eu : u = Value.bool true := rv
    subst eu
    refine ⟨rfl, S.old (fun b hb => ?_) un ok', os, bare⟩
    obtain ⟨p, hp, rfl⟩ := mem_tt hb
    exact ((PySem.W.codeHd_of_K X (c.hd p hp)).tab (S.tab _ hb)).isCodeTable
end Bp

namespace Bp
open PySem PySem.Spec PyProof.Rows L2 LamX NdefX TL
theorem nameL : (HandSHeadRun.topDef R.prog 94).name = ("law" : Str) := by kernel_rfl
theorem walkL : PySem.W.WalkO (PySem.W.view R.prog [94]) loose (PySem.W.XL (PySem.W.view R.prog [94]) []) (hookB 5).says R.toRowW (HandSHeadRun.topDef R.prog 94) [] (fun f vs => PySem.call f vs) := by
  refine Att.attach_callB (l := PySem.Challenge.rw_beatpatches_k68_whole_undone_tried_and_k) (n := 63) rfl (by kernel_rfl) fun w s0 s1 mg mb fa o pm cd doc a vs ns G Y ho hd hcd hmg hobj hints hlen hbits hg => ?_
  obtain ⟨K, KX, c⟩ := Y
  rw [nameL] at hmg
  have eg : mg "law" = some (.ref (He.ga K "law")) := He.glo_ok KX G.T.g (c.a.fact 77 rfl)
  have ef : fa = He.ga K "law" := by
    rw [eg] at hmg
    cases hmg
    rfl
  subst ef
  have tab : ∀ b ∈ Tt K, s1.heap.get? b = some tabO := by
    intro b hb
    obtain ⟨p, hp, rfl⟩ := mem_tt hb
    exact c.empty p hp
  have out : ∀ b ∈ Tt K, K.lookup b = none := by
    intro b hb
    obtain ⟨p, hp, rfl⟩ := mem_tt hb
    exact c.out p hp
  have aT : a ∉ Tt K := by
    intro hb
    have t := tab a hb
    rw [hobj] at t
    have z : (Data.seq vs.toArray 0) = Data.fields #[] := congrArg Obj.data (Option.some.inj t)
    cases z
  have rv := vals_ints hints
  have big : 1000 ≤ sizeLine := by decide
  cases lk : K.lookup a with
  | none =>
    refine core KX G.T.g G.T.b G.T.builtins G.T.nolimit hg G.T.bmain c hints hlen (H := fun b => if b = a then some (.frz (scrO vs) (.lst (ns.map V.int))) else if b ∈ Tt K then some (.tbl #[]) else none) ⟨tab, out, hobj, fun b u e => ?_, fun b hb => ?_⟩ (.inl (.inr ⟨_, if_pos rfl⟩))
    · by_cases h1 : b = a
      · rw [if_pos h1] at e
        exact .inr ⟨h1, lk, (Option.some.inj e).symm⟩
      · rw [if_neg h1] at e
        by_cases h2 : b ∈ Tt K
        · rw [if_pos h2] at e
          exact .inl ⟨h2, (Option.some.inj e).symm⟩
        · rw [if_neg h2] at e
          cases e
    · have h1 : ¬ b = a := fun z => aT (by rw [← z]; exact hb)
      exact (if_neg h1).trans (if_pos hb)
  | some u =>
    have eu : u = scrO vs := by
      have t := KX a u lk
      rw [hobj] at t
      exact (Option.some.inj t).symm
    subst eu
    refine core KX G.T.g G.T.b G.T.builtins G.T.nolimit hg G.T.bmain c hints hlen (H := fun b => if b ∈ Tt K then some (.tbl #[]) else none) ⟨tab, out, hobj, fun b u e => ?_, fun b hb => if_pos hb⟩ (.inr ⟨_, vs.toArray, 0, lk, rfl, rfl, rfl, ?_, by simpa using rv⟩)
    · by_cases h2 : b ∈ Tt K
      · rw [if_pos h2] at e
        exact .inl ⟨h2, (Option.some.inj e).symm⟩
      · rw [if_neg h2] at e
        cases e
    · have h := rv.length
      rw [List.length_map] at h
      rw [List.size_toArray]
      omega
end Bp
open PySem PySem.W PySem.Calls PyProof.Rows
theorem PySem.Challenge.cw_beatpatches_k68_whole_undone_tried_and_k_holds : PySem.Challenge.rw_beatpatches_k68_whole_undone_tried_and_k.Holds := by
  w_on; o_law
  refine HandSHeadRun.head_any (r := OpenLaw.row PySem.Challenge.rw_beatpatches_k68_whole_undone_tried_and_k) (q := view (OpenLaw.row PySem.Challenge.rw_beatpatches_k68_whole_undone_tried_and_k).prog [94]) (H := Bp.hookB 5) (ob := Bp.ob) (M := 6000) (loose := Bp.loose) (d := HandSHeadRun.topDef (OpenLaw.row PySem.Challenge.rw_beatpatches_k68_whole_undone_tried_and_k).prog 94) (kwd := []) Bp.ob_eq
    (by kernel_rfl) (fun s => by kernel_rfl) Bp.run (by kernel_rfl) (by kernel_rfl) (by kernel_rfl) (by rfl) (by first | assumption | decide +kernel) (by decide +kernel) ⟨rfl, rfl, rfl, rfl, rfl, by decide +kernel⟩ ?hw Bp.walkL
  case hw => w_witness2
