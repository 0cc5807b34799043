import PyProof.Rows.All
import Wide.All
import OpenK.AllK
import Wide.FinOn
import KE.KStateDown
import KE.KOpsOwn
import KE.DataEq
import KE.KDictPairs
import KE.KExcIs
import Lean
import HandS.Base
import HandS.Small
import HandS.Call
import HandS.List
import HandS.Comp
import HandS.Dict
import HandS.Iter
import HandS.Walk
import HandS.Text
import HandS.More
import HandS.Exc
import HandS.ExcOwn
import HandS.ExcInit
import HandS.ExcIs
import HandS.ExcField
import HandS.IsInst
import HandS.TryOnly
import HandS.Words
import HandS.WordsList
import HandS.WordsDict
import HandS.WordsExc
import HandS.Ends
import HandS.Defaults
import HandS.Property
import HandS.OwnEq
import HandS.DictEq
import HandS.ClsMeth
import HandS.Conv
import HandS.TupAny
import HandS.Steps
import HandS.Evl
import HandS.HotCalls
import HandS.Head0
import HandS.Head1
import HandS.Head2
import HandS.HeadEnd
import HandS.HeadHook1
import HandS.HeadHook2
import HandS.HeadHook3
import HandS.HeadHook4
import HandS.HeadNt
import PySem.Challenge.RW_exitdeeds_k09_whole_body_checks
import HandS.DeepEq
set_option Elab.async false
set_option linter.all false
set_option maxRecDepth 100000
set_option maxHeartbeats 0
/-! text B1 -/
namespace Xd
open PySem PySem.Spec PyProof.Rows L2

/-! ### data: what the law's statements and actions are made of -/
inductive D where
  | non
  | int (i : Int)
  | str (x : Str)
  | tup (l : List D)

mutual
/-- v stands for the data d in the heap H -/
inductive Rp (H : Hp) : V → D → Prop where
  | non : Rp H .non .non
  | int (i : Int) : Rp H (.int i) (.int i)
  | str (x : Str) : Rp H (.str x) (.str x)
  | tup {a : Addr} {vs : List V} {ds : List D} : H a = some (.tup vs) → Rps H vs ds → Rp H (.ref a) (.tup ds)
inductive Rps (H : Hp) : List V → List D → Prop where
  | nil : Rps H [] []
  | cons {v : V} {vs : List V} {d : D} {ds : List D} : Rp H v d → Rps H vs ds → Rps H (v :: vs) (d :: ds)
end
end Xd

/-! text T0 -/
/-! the places of the defs, what the head says (printed by gen_facts.py) -/
namespace Xd
open PySem PySem.Spec PyProof.Rows L2
def top (i : Nat) : Stmt := PySem.Challenge.pw_exitdeeds_k09_whole_body_checks.main.body.getD i (.Pass ⟨0, 0, 0, 0⟩)
abbrev s_is_name : Stmt := top 17
def d_is_name : He5.DefA := ⟨fun K => He.ga K "is_name", "is_name", "is_name", defArgs s_is_name, defBody s_is_name, defScope s_is_name, [], []⟩
abbrev s_check_name : Stmt := top 18
def d_check_name : He5.DefA := ⟨fun K => He.ga K "check_name", "check_name", "check_name", defArgs s_check_name, defBody s_check_name, defScope s_check_name, [], []⟩
abbrev s_check_number : Stmt := top 19
def d_check_number : He5.DefA := ⟨fun K => He.ga K "check_number", "check_number", "check_number", defArgs s_check_number, defBody s_check_number, defScope s_check_number, [], []⟩
abbrev s_check_kind : Stmt := top 23
def d_check_kind : He5.DefA := ⟨fun K => He.ga K "check_kind", "check_kind", "check_kind", defArgs s_check_kind, defBody s_check_kind, defScope s_check_kind, [], []⟩
abbrev s_copied : Stmt := top 25
def d_copied : He5.DefA := ⟨fun K => He.ga K "copied", "copied", "copied", defArgs s_copied, defBody s_copied, defScope s_copied, [], []⟩
abbrev s_cell_names : Stmt := top 26
def d_cell_names : He5.DefA := ⟨fun K => He.ga K "cell_names", "cell_names", "cell_names", defArgs s_cell_names, defBody s_cell_names, defScope s_cell_names, [], []⟩
abbrev s_check_argument : Stmt := top 33
def d_check_argument : He5.DefA := ⟨fun K => He.ga K "check_argument", "check_argument", "check_argument", defArgs s_check_argument, defBody s_check_argument, defScope s_check_argument, [], []⟩
abbrev s_check_at : Stmt := top 34
def d_check_at : He5.DefA := ⟨fun K => He.ga K "check_at", "check_at", "check_at", defArgs s_check_at, defBody s_check_at, defScope s_check_at, [], []⟩
abbrev s_check_action : Stmt := top 35
def d_check_action : He5.DefA := ⟨fun K => He.ga K "check_action", "check_action", "check_action", defArgs s_check_action, defBody s_check_action, defScope s_check_action, [], []⟩
abbrev s_blocks_of : Stmt := top 64
def d_blocks_of : He5.DefA := ⟨fun K => He.ga K "blocks_of", "blocks_of", "blocks_of", defArgs s_blocks_of, defBody s_blocks_of, defScope s_blocks_of, [], []⟩
abbrev s_check_now : Stmt := top 65
def d_check_now : He5.DefA := ⟨fun K => He.ga K "check_now", "check_now", "check_now", defArgs s_check_now, defBody s_check_now, defScope s_check_now, [], []⟩
abbrev s_check_cell : Stmt := top 66
def d_check_cell : He5.DefA := ⟨fun K => He.ga K "check_cell", "check_cell", "check_cell", defArgs s_check_cell, defBody s_check_cell, defScope s_check_cell, [], []⟩
abbrev s_check_parts : Stmt := top 67
def d_check_parts : He5.DefA := ⟨fun K => He.ga K "check_parts", "check_parts", "check_parts", defArgs s_check_parts, defBody s_check_parts, defScope s_check_parts, [], []⟩
abbrev s_check_all : Stmt := top 68
def d_check_all : He5.DefA := ⟨fun K => He.ga K "check_all", "check_all", "check_all", defArgs s_check_all, defBody s_check_all, defScope s_check_all, [], []⟩
abbrev s_in_order : Stmt := top 69
def d_in_order : He5.DefA := ⟨fun K => He.ga K "in_order", "in_order", "in_order", defArgs s_in_order, defBody s_in_order, defScope s_in_order, [], []⟩
abbrev s__law_pool : Stmt := top 74
def d__law_pool : He5.DefA := ⟨fun K => He.ga K "_law_pool", "_law_pool", "_law_pool", defArgs s__law_pool, defBody s__law_pool, defScope s__law_pool, [], []⟩
abbrev s__law_mixed : Stmt := top 75
def d__law_mixed : He5.DefA := ⟨fun K => He.ga K "_law_mixed", "_law_mixed", "_law_mixed", defArgs s__law_mixed, defBody s__law_mixed, defScope s__law_mixed, [], []⟩
abbrev s__law_draw : Stmt := top 76
def d__law_draw : He5.DefA := ⟨fun K => He.ga K "_law_draw", "_law_draw", "_law_draw", defArgs s__law_draw, defBody s__law_draw, defScope s__law_draw, [], []⟩
abbrev s__law_rest : Stmt := top 77
def d__law_rest : He5.DefA := ⟨fun K => He.ga K "_law_rest", "_law_rest", "_law_rest", defArgs s__law_rest, defBody s__law_rest, defScope s__law_rest, [], []⟩
abbrev s__law_letters : Stmt := top 78
def d__law_letters : He5.DefA := ⟨fun K => He.ga K "_law_letters", "_law_letters", "_law_letters", defArgs s__law_letters, defBody s__law_letters, defScope s__law_letters, [], []⟩
abbrev s__law_name : Stmt := top 79
def d__law_name : He5.DefA := ⟨fun K => He.ga K "_law_name", "_law_name", "_law_name", defArgs s__law_name, defBody s__law_name, defScope s__law_name, [], []⟩
abbrev s__law_fresh : Stmt := top 80
def d__law_fresh : He5.DefA := ⟨fun K => He.ga K "_law_fresh", "_law_fresh", "_law_fresh", defArgs s__law_fresh, defBody s__law_fresh, defScope s__law_fresh, [], []⟩
abbrev s__law_number : Stmt := top 81
def d__law_number : He5.DefA := ⟨fun K => He.ga K "_law_number", "_law_number", "_law_number", defArgs s__law_number, defBody s__law_number, defScope s__law_number, [], []⟩
abbrev s__law_kind : Stmt := top 82
def d__law_kind : He5.DefA := ⟨fun K => He.ga K "_law_kind", "_law_kind", "_law_kind", defArgs s__law_kind, defBody s__law_kind, defScope s__law_kind, [], []⟩
abbrev s__law_lore : Stmt := top 83
def d__law_lore : He5.DefA := ⟨fun K => He.ga K "_law_lore", "_law_lore", "_law_lore", defArgs s__law_lore, defBody s__law_lore, defScope s__law_lore, [], []⟩
abbrev s__law_book : Stmt := top 84
def d__law_book : He5.DefA := ⟨fun K => He.ga K "_law_book", "_law_book", "_law_book", defArgs s__law_book, defBody s__law_book, defScope s__law_book, [], []⟩
abbrev s__law_argument : Stmt := top 85
def d__law_argument : He5.DefA := ⟨fun K => He.ga K "_law_argument", "_law_argument", "_law_argument", defArgs s__law_argument, defBody s__law_argument, defScope s__law_argument, [], []⟩
abbrev s__law_action : Stmt := top 86
def d__law_action : He5.DefA := ⟨fun K => He.ga K "_law_action", "_law_action", "_law_action", defArgs s__law_action, defBody s__law_action, defScope s__law_action, [], []⟩
abbrev s__law_plain : Stmt := top 87
def d__law_plain : He5.DefA := ⟨fun K => He.ga K "_law_plain", "_law_plain", "_law_plain", defArgs s__law_plain, defBody s__law_plain, defScope s__law_plain, [], []⟩
abbrev s__law_statement : Stmt := top 88
def d__law_statement : He5.DefA := ⟨fun K => He.ga K "_law_statement", "_law_statement", "_law_statement", defArgs s__law_statement, defBody s__law_statement, defScope s__law_statement, [], []⟩
abbrev s__law_block : Stmt := top 89
def d__law_block : He5.DefA := ⟨fun K => He.ga K "_law_block", "_law_block", "_law_block", defArgs s__law_block, defBody s__law_block, defScope s__law_block, [], []⟩
abbrev s__law_size : Stmt := top 90
def d__law_size : He5.DefA := ⟨fun K => He.ga K "_law_size", "_law_size", "_law_size", defArgs s__law_size, defBody s__law_size, defScope s__law_size, [], []⟩
abbrev s__law_same : Stmt := top 91
def d__law_same : He5.DefA := ⟨fun K => He.ga K "_law_same", "_law_same", "_law_same", defArgs s__law_same, defBody s__law_same, defScope s__law_same, [], []⟩
abbrev s__law_signs : Stmt := top 92
def d__law_signs : He5.DefA := ⟨fun K => He.ga K "_law_signs", "_law_signs", "_law_signs", defArgs s__law_signs, defBody s__law_signs, defScope s__law_signs, [], []⟩
abbrev s__law_near : Stmt := top 93
def d__law_near : He5.DefA := ⟨fun K => He.ga K "_law_near", "_law_near", "_law_near", defArgs s__law_near, defBody s__law_near, defScope s__law_near, [], []⟩
abbrev s__law_is_name : Stmt := top 94
def d__law_is_name : He5.DefA := ⟨fun K => He.ga K "_law_is_name", "_law_is_name", "_law_is_name", defArgs s__law_is_name, defBody s__law_is_name, defScope s__law_is_name, [], []⟩
abbrev s__law_many : Stmt := top 95
def d__law_many : He5.DefA := ⟨fun K => He.ga K "_law_many", "_law_many", "_law_many", defArgs s__law_many, defBody s__law_many, defScope s__law_many, [], []⟩
abbrev s__law_spoilt : Stmt := top 96
def d__law_spoilt : He5.DefA := ⟨fun K => He.ga K "_law_spoilt", "_law_spoilt", "_law_spoilt", defArgs s__law_spoilt, defBody s__law_spoilt, defScope s__law_spoilt, [], []⟩
abbrev s__law_touched : Stmt := top 97
def d__law_touched : He5.DefA := ⟨fun K => He.ga K "_law_touched", "_law_touched", "_law_touched", defArgs s__law_touched, defBody s__law_touched, defScope s__law_touched, [], []⟩
abbrev s__law_fault : Stmt := top 98
def d__law_fault : He5.DefA := ⟨fun K => He.ga K "_law_fault", "_law_fault", "_law_fault", defArgs s__law_fault, defBody s__law_fault, defScope s__law_fault, [], []⟩
abbrev s__law_lengths : Stmt := top 99
def d__law_lengths : He5.DefA := ⟨fun K => He.ga K "_law_lengths", "_law_lengths", "_law_lengths", defArgs s__law_lengths, defBody s__law_lengths, defScope s__law_lengths, [], []⟩
abbrev s__law_blocks : Stmt := top 100
def d__law_blocks : He5.DefA := ⟨fun K => He.ga K "_law_blocks", "_law_blocks", "_law_blocks", defArgs s__law_blocks, defBody s__law_blocks, defScope s__law_blocks, [], []⟩
abbrev s__law_read_fault : Stmt := top 101
def d__law_read_fault : He5.DefA := ⟨fun K => He.ga K "_law_read_fault", "_law_read_fault", "_law_read_fault", defArgs s__law_read_fault, defBody s__law_read_fault, defScope s__law_read_fault, [], []⟩
abbrev s__law_parts_fault : Stmt := top 102
def d__law_parts_fault : He5.DefA := ⟨fun K => He.ga K "_law_parts_fault", "_law_parts_fault", "_law_parts_fault", defArgs s__law_parts_fault, defBody s__law_parts_fault, defScope s__law_parts_fault, [], []⟩
abbrev s__law_block_fault : Stmt := top 103
def d__law_block_fault : He5.DefA := ⟨fun K => He.ga K "_law_block_fault", "_law_block_fault", "_law_block_fault", defArgs s__law_block_fault, defBody s__law_block_fault, defScope s__law_block_fault, [], []⟩
abbrev s__law_single : Stmt := top 104
def d__law_single : He5.DefA := ⟨fun K => He.ga K "_law_single", "_law_single", "_law_single", defArgs s__law_single, defBody s__law_single, defScope s__law_single, [], []⟩
abbrev s__law_reason : Stmt := top 105
def d__law_reason : He5.DefA := ⟨fun K => He.ga K "_law_reason", "_law_reason", "_law_reason", defArgs s__law_reason, defBody s__law_reason, defScope s__law_reason, [], []⟩
abbrev s__law_wrapped : Stmt := top 106
def d__law_wrapped : He5.DefA := ⟨fun K => He.ga K "_law_wrapped", "_law_wrapped", "_law_wrapped", defArgs s__law_wrapped, defBody s__law_wrapped, defScope s__law_wrapped, [], []⟩
abbrev s__law_bad_read : Stmt := top 107
def d__law_bad_read : He5.DefA := ⟨fun K => He.ga K "_law_bad_read", "_law_bad_read", "_law_bad_read", defArgs s__law_bad_read, defBody s__law_bad_read, defScope s__law_bad_read, [], []⟩
abbrev s__law_bad_name : Stmt := top 108
def d__law_bad_name : He5.DefA := ⟨fun K => He.ga K "_law_bad_name", "_law_bad_name", "_law_bad_name", defArgs s__law_bad_name, defBody s__law_bad_name, defScope s__law_bad_name, [], []⟩
abbrev s__law_bad_cell : Stmt := top 109
def d__law_bad_cell : He5.DefA := ⟨fun K => He.ga K "_law_bad_cell", "_law_bad_cell", "_law_bad_cell", defArgs s__law_bad_cell, defBody s__law_bad_cell, defScope s__law_bad_cell, [], []⟩
abbrev s__law_changed : Stmt := top 110
def d__law_changed : He5.DefA := ⟨fun K => He.ga K "_law_changed", "_law_changed", "_law_changed", defArgs s__law_changed, defBody s__law_changed, defScope s__law_changed, [], []⟩
abbrev s__law_rebuilt : Stmt := top 111
def d__law_rebuilt : He5.DefA := ⟨fun K => He.ga K "_law_rebuilt", "_law_rebuilt", "_law_rebuilt", defArgs s__law_rebuilt, defBody s__law_rebuilt, defScope s__law_rebuilt, [], []⟩
abbrev s__law_outcome : Stmt := top 112
def d__law_outcome : He5.DefA := ⟨fun K => He.ga K "_law_outcome", "_law_outcome", "_law_outcome", defArgs s__law_outcome, defBody s__law_outcome, defScope s__law_outcome, [], []⟩
abbrev s__law_right : Stmt := top 113
def d__law_right : He5.DefA := ⟨fun K => He.ga K "_law_right", "_law_right", "_law_right", defArgs s__law_right, defBody s__law_right, defScope s__law_right, [], []⟩
abbrev s_law : Stmt := top 114
def d_law : He5.DefA := ⟨fun K => He.ga K "law", "law", "law", defArgs s_law, defBody s_law, defScope s_law, [], []⟩
abbrev s_Book_init : Stmt := inClass (top 24) 2
def d_Book_init : He5.DefA := ⟨fun K => He.ma K (He.ga K "Book") "__init__", "__init__", "Book.__init__", defArgs s_Book_init, defBody s_Book_init, defScope s_Book_init, [.adr (He.dflAt ("Book", some "__init__") 0), .adr (He.dflAt ("Book", some "__init__") 1)], []⟩
abbrev s_Book_setitem : Stmt := inClass (top 24) 5
def d_Book_setitem : He5.DefA := ⟨fun K => He.ma K (He.ga K "Book") "__setitem__", "__setitem__", "Book.__setitem__", defArgs s_Book_setitem, defBody s_Book_setitem, defScope s_Book_setitem, [], []⟩
abbrev s_Book_contains : Stmt := inClass (top 24) 6
def d_Book_contains : He5.DefA := ⟨fun K => He.ma K (He.ga K "Book") "__contains__", "__contains__", "Book.__contains__", defArgs s_Book_contains, defBody s_Book_contains, defScope s_Book_contains, [], []⟩
abbrev s_Book_eq : Stmt := inClass (top 24) 9
def d_Book_eq : He5.DefA := ⟨fun K => He.ma K (He.ga K "Book") "__eq__", "__eq__", "Book.__eq__", defArgs s_Book_eq, defBody s_Book_eq, defScope s_Book_eq, [], []⟩
abbrev s_Book_add_cell : Stmt := inClass (top 24) 11
def d_Book_add_cell : He5.DefA := ⟨fun K => He.ma K (He.ga K "Book") "add_cell", "add_cell", "Book.add_cell", defArgs s_Book_add_cell, defBody s_Book_add_cell, defScope s_Book_add_cell, [], []⟩
abbrev s_Body_init : Stmt := inClass (top 72) 3
def d_Body_init : He5.DefA := ⟨fun K => He.ma K (He.ga K "Body") "__init__", "__init__", "Body.__init__", defArgs s_Body_init, defBody s_Body_init, defScope s_Body_init, [], []⟩
abbrev s_Body_len : Stmt := inClass (top 72) 5
def d_Body_len : He5.DefA := ⟨fun K => He.ma K (He.ga K "Body") "__len__", "__len__", "Body.__len__", defArgs s_Body_len, defBody s_Body_len, defScope s_Body_len, [], []⟩
abbrev s_BadName_init : Stmt := inClass (top 3) 0
def d_BadName_init : He5.DefA := ⟨fun K => He.ma K (He.ga K "BadName") "__init__", "__init__", "BadName.__init__", defArgs s_BadName_init, defBody s_BadName_init, defScope s_BadName_init, [], []⟩
abbrev s_BadNumber_init : Stmt := inClass (top 4) 0
def d_BadNumber_init : He5.DefA := ⟨fun K => He.ma K (He.ga K "BadNumber") "__init__", "__init__", "BadNumber.__init__", defArgs s_BadNumber_init, defBody s_BadNumber_init, defScope s_BadNumber_init, [], []⟩
abbrev s_BadKind_init : Stmt := inClass (top 5) 0
def d_BadKind_init : He5.DefA := ⟨fun K => He.ma K (He.ga K "BadKind") "__init__", "__init__", "BadKind.__init__", defArgs s_BadKind_init, defBody s_BadKind_init, defScope s_BadKind_init, [], []⟩
abbrev s_BadAction_init : Stmt := inClass (top 6) 0
def d_BadAction_init : He5.DefA := ⟨fun K => He.ma K (He.ga K "BadAction") "__init__", "__init__", "BadAction.__init__", defArgs s_BadAction_init, defBody s_BadAction_init, defScope s_BadAction_init, [], []⟩
abbrev s_BadStatement_init : Stmt := inClass (top 7) 0
def d_BadStatement_init : He5.DefA := ⟨fun K => He.ma K (He.ga K "BadStatement") "__init__", "__init__", "BadStatement.__init__", defArgs s_BadStatement_init, defBody s_BadStatement_init, defScope s_BadStatement_init, [], []⟩
abbrev s_UnknownStep_init : Stmt := inClass (top 8) 0
def d_UnknownStep_init : He5.DefA := ⟨fun K => He.ma K (He.ga K "UnknownStep") "__init__", "__init__", "UnknownStep.__init__", defArgs s_UnknownStep_init, defBody s_UnknownStep_init, defScope s_UnknownStep_init, [], []⟩
abbrev s_UnknownCell_init : Stmt := inClass (top 9) 0
def d_UnknownCell_init : He5.DefA := ⟨fun K => He.ma K (He.ga K "UnknownCell") "__init__", "__init__", "UnknownCell.__init__", defArgs s_UnknownCell_init, defBody s_UnknownCell_init, defScope s_UnknownCell_init, [], []⟩
abbrev s_TooLarge_init : Stmt := inClass (top 10) 0
def d_TooLarge_init : He5.DefA := ⟨fun K => He.ma K (He.ga K "TooLarge") "__init__", "__init__", "TooLarge.__init__", defArgs s_TooLarge_init, defBody s_TooLarge_init, defScope s_TooLarge_init, [], []⟩
abbrev s_Clash_init : Stmt := inClass (top 11) 0
def d_Clash_init : He5.DefA := ⟨fun K => He.ma K (He.ga K "Clash") "__init__", "__init__", "Clash.__init__", defArgs s_Clash_init, defBody s_Clash_init, defScope s_Clash_init, [], []⟩
/-- the getter of a property -/
def pg (K : PySem.W.Frag) (C f : Str) : Addr := match PySem.W.recIn K (He.ma K (He.ga K C) f) "property" with
  | some (.ref g :: _) => g
  | _ => 0
abbrev s_Book_cells : Stmt := inClass (top 24) 12
def d_Book_cells : He5.DefA := ⟨fun K => pg K "Book" "cells", "cells", "Book.cells", defArgs s_Book_cells, defBody s_Book_cells, defScope s_Book_cells, [], []⟩
abbrev s_Book_stores : Stmt := inClass (top 24) 13
def d_Book_stores : He5.DefA := ⟨fun K => pg K "Book" "stores", "stores", "Book.stores", defArgs s_Book_stores, defBody s_Book_stores, defScope s_Book_stores, [], []⟩
def fnL : List He5.DefA := [d_is_name, d_check_name, d_check_number, d_check_kind, d_copied, d_cell_names, d_check_argument, d_check_at, d_check_action, d_blocks_of, d_check_now, d_check_cell, d_check_parts, d_check_all, d_in_order, d__law_pool, d__law_mixed, d__law_draw, d__law_rest, d__law_letters, d__law_name, d__law_fresh, d__law_number, d__law_kind, d__law_lore, d__law_book, d__law_argument, d__law_action, d__law_plain, d__law_statement, d__law_block, d__law_size, d__law_same, d__law_signs, d__law_near, d__law_is_name, d__law_many, d__law_spoilt, d__law_touched, d__law_fault, d__law_lengths, d__law_blocks, d__law_read_fault, d__law_parts_fault, d__law_block_fault, d__law_single, d__law_reason, d__law_wrapped, d__law_bad_read, d__law_bad_name, d__law_bad_cell, d__law_changed, d__law_rebuilt, d__law_outcome, d__law_right, d_law, d_Book_init, d_Book_setitem, d_Book_contains, d_Book_eq, d_Book_add_cell, d_Body_init, d_Body_len, d_BadName_init, d_BadNumber_init, d_BadKind_init, d_BadAction_init, d_BadStatement_init, d_UnknownStep_init, d_UnknownCell_init, d_TooLarge_init, d_Clash_init, d_Book_cells, d_Book_stores]
def faL : List He.Fa := [.free "len", .free "range", .free "list", .free "tuple", .free "int", .free "isinstance", .free "sorted", .free "dict", .free "str", .free "bool", .free "ValueError", .glo "is_name", .glo "check_name", .glo "check_number", .glo "check_kind", .glo "copied", .glo "cell_names", .glo "check_argument", .glo "check_at", .glo "check_action", .glo "blocks_of", .glo "check_now", .glo "check_cell", .glo "check_parts", .glo "check_all", .glo "in_order", .glo "_law_pool", .glo "_law_mixed", .glo "_law_draw", .glo "_law_rest", .glo "_law_letters", .glo "_law_name", .glo "_law_fresh", .glo "_law_number", .glo "_law_kind", .glo "_law_lore", .glo "_law_book", .glo "_law_argument", .glo "_law_action", .glo "_law_plain", .glo "_law_statement", .glo "_law_block", .glo "_law_size", .glo "_law_same", .glo "_law_signs", .glo "_law_near", .glo "_law_is_name", .glo "_law_many", .glo "_law_spoilt", .glo "_law_touched", .glo "_law_fault", .glo "_law_lengths", .glo "_law_blocks", .glo "_law_read_fault", .glo "_law_parts_fault", .glo "_law_block_fault", .glo "_law_single", .glo "_law_reason", .glo "_law_wrapped", .glo "_law_bad_read", .glo "_law_bad_name", .glo "_law_bad_cell", .glo "_law_changed", .glo "_law_rebuilt", .glo "_law_outcome", .glo "_law_right", .glo "law", .glo "Book", .glo "Body", .glo "DeedError", .glo "BadName", .glo "BadNumber", .glo "BadKind", .glo "BadAction", .glo "BadStatement", .glo "UnknownStep", .glo "UnknownCell", .glo "TooLarge", .glo "Clash", .glo "NUMBERED", .glo "NAMED", .glo "GUARDS", .glo "READS", .glo "LENGTHS", .int "LONGEST" 12, .int "GREATEST" 999, .int "MANY" 3, .int "DEEP" 2, .int "DEPTH" 4, .str "LETTERS" "abcdefghijklmnopqrstuvwxyz", .str "DIGITS" "0123456789", .cls "Book", .mkr "Book", .cls "Body", .mkr "Body", .noat "Book" "_kinds", .noat "Book" "_sizes", .noat "Body" "book", .noat "Body" "statements", .meth "Book" "__setitem__", .meth "Book" "__contains__", .meth "Book" "__eq__", .meth "Book" "add_cell", .meth "Body" "__len__", .exm "BadName" "DeedError" true, .exm "BadNumber" "DeedError" true, .exm "BadKind" "DeedError" true, .exm "BadAction" "DeedError" true, .exm "BadStatement" "DeedError" true, .exm "UnknownStep" "DeedError" true, .exm "UnknownCell" "DeedError" true, .exm "TooLarge" "DeedError" true, .exm "Clash" "DeedError" true]
/-- an exception's class over ValueError, as the text has it -/
def oexB (K : PySem.W.Frag) (C : Addr) : Bool := (match K.lookup C with
    | some ⟨.type "type", _, .cls cd, sl⟩ => (match cd.mro, sl.toList with
      | .ref D :: bm, [_, _, _, _, some (.builtin n), _] => decide (D = C) && (n == "ValueError.__new__" && (!cd.hasDel && (cd.hasDict && PySem.HandSPX.refsVE bm)))
      | _, _ => false)
    | _ => false) && (He.eqO (PySem.W.findIn K (.ref C) "__setattr__") (some (some (.builtin "object.__setattr__"))) && (decide (PySem.W.subIn K (.ref C) (.type "BaseException") = some true) &&
      (decide (PySem.W.typeIn K (.ref C) = some (.type "type")) && PySem.W.keepIn K (.ref C))))
theorem oexB_ok {K : PySem.W.Frag} {C : Addr} (h : oexB K C = true) : OexC K C := by
  obtain ⟨h1, h⟩ := He.ba h
  obtain ⟨h2, h⟩ := He.ba h
  obtain ⟨h3, h⟩ := He.ba h
  obtain ⟨h4, h5⟩ := He.ba h
  refine ⟨?_, He.eqO_ok h2, of_decide_eq_true h3, of_decide_eq_true h4, h5⟩
  clear h2 h3 h4 h5 h
  split at h1
  · rename_i dd cd sl ho
    split at h1
    · rename_i D bm k0 k1 k2 k3 n k5 hm hs
      obtain ⟨e1, h1⟩ := He.ba h1
      obtain ⟨e2, h1⟩ := He.ba h1
      obtain ⟨e3, h1⟩ := He.ba h1
      obtain ⟨e4, e5⟩ := He.ba h1
      have e1 := of_decide_eq_true e1
      have e2 : n = "ValueError.__new__" := eq_of_beq e2
      obtain ⟨nm, bs, mro, ns, qn, hd, sn, sub, ab, col, del⟩ := cd
      have e3 : del = false := by simpa using e3
      have e4 : hd = true := e4
      dsimp only at hm
      subst e1 e2 e3 e4 hm
      have hsl : sl = #[k0, k1, k2, k3, some (.builtin "ValueError.__new__"), k5] := by
        obtain ⟨l⟩ := sl
        simp only at hs
        rw [hs]
      subst hsl
      exact ⟨nm, qn, ns, bs, bm, sn, sub, ab, col, dd, k0, k1, k2, k3, k5, ho, e5⟩
    · cases h1
  · cases h1
/-- its instances' fields are read plainly; isinstance asks its class -/
def xinB (K : PySem.W.Frag) (C : Addr) : Bool := xfB K C && (He.eqO (PySem.W.findIn K (.ref C) "__class__") (some (some (.builtin "object.__class__"))) && (He.eqO (PySem.W.specialIn K (.builtin "object.__class__") "__get__") (some (some (.builtin "getset_descriptor.__get__"))) &&
  (decide (PySem.W.takesIn K (.builtin "object.__class__") = some true) && decide (PySem.W.mroIn K C (.type "object") = some true))))
theorem xinB_ok {K : PySem.W.Frag} {C : Addr} (h : xinB K C = true) : ExcC K C := by
  obtain ⟨h1, h⟩ := He.ba h
  obtain ⟨h2, h⟩ := He.ba h
  obtain ⟨h3, h⟩ := He.ba h
  obtain ⟨h4, h5⟩ := He.ba h
  have x := xfB_ok h1
  exact ⟨x.ga, x.gg, x.exC, x.hdC, He.eqO_ok h2, He.eqO_ok h3, of_decide_eq_true h4, of_decide_eq_true h5⟩
/-- the exception's __init__, its field -/
def initB (K : PySem.W.Frag) (C : Addr) (f : Str) : Bool := He.eqO (PySem.W.findIn K (.ref C) "__init__") (some (some (.ref (He.ma K C "__init__")))) && (decide (PySem.W.typeIn K (.ref (He.ma K C "__init__")) = some (.type "function")) && He.eqO (PySem.W.findIn K (.ref C) f) (some none))
structure XIni (K : PySem.W.Frag) (C : Addr) (f : Str) : Prop where
  ini : PySem.W.findIn K (.ref C) "__init__" = some (some (.ref (He.ma K C "__init__")))
  ty : PySem.W.typeIn K (.ref (He.ma K C "__init__")) = some (.type "function")
  no : PySem.W.findIn K (.ref C) f = some none
theorem initB_ok {K : PySem.W.Frag} {C : Addr} {f : Str} (h : initB K C f = true) : XIni K C f := by
  obtain ⟨h1, h⟩ := He.ba h
  obtain ⟨h2, h3⟩ := He.ba h
  exact ⟨He.eqO_ok h1, of_decide_eq_true h2, He.eqO_ok h3⟩
/-- a class attribute that is ValueError's __init__ -/
def deedB (K : PySem.W.Frag) (C : Addr) : Bool := PySem.W.readsIn K C (.type "type") && (He.eqO (PySem.W.specialIn K (.ref C) "__getattribute__") (some (some (.builtin "type.__getattribute__"))) && (match PySem.W.findCls K (.ref C) (.type "type") "__init__" with
  | some (.val (.builtin n)) => n == "ValueError.__init__"
  | _ => false))
theorem deedB_ok {K : PySem.W.Frag} {C : Addr} (h : deedB K C = true) : ClX.CRead K C (.type "type") ∧ PySem.W.findCls K (.ref C) (.type "type") "__init__" = some (.val (.builtin "ValueError.__init__")) := by
  obtain ⟨h1, h⟩ := He.ba h
  obtain ⟨h2, h3⟩ := He.ba h
  refine ⟨⟨h1, He.eqO_ok h2⟩, ?_⟩
  clear h1 h2 h
  split at h3
  · rename_i n e
    rw [e, eq_of_beq h3]
  · cases h3
/-- an int constant of a class -/
def conI (K : PySem.W.Frag) (C : Addr) (f : Str) (i : Int) : Bool := PySem.W.readsIn K C (.type "type") && (He.eqO (PySem.W.specialIn K (.ref C) "__getattribute__") (some (some (.builtin "type.__getattribute__"))) && (match PySem.W.findCls K (.ref C) (.type "type") f with
  | some (.val (.int j _)) => decide (j = i)
  | _ => false))
theorem conI_ok {K : PySem.W.Frag} {C : Addr} {f : Str} {i : Int} (h : conI K C f i = true) : ClX.CRead K C (.type "type") ∧ ∃ u, ClX.CVal K C (.type "type") f (.int i) u := by
  obtain ⟨h1, h⟩ := He.ba h
  obtain ⟨h2, h3⟩ := He.ba h
  refine ⟨⟨h1, He.eqO_ok h2⟩, ?_⟩
  clear h1 h2 h
  split at h3
  · rename_i j t e
    have ej : j = i := of_decide_eq_true h3
    subst ej
    exact ⟨_, e, t, rfl⟩
  · cases h3
/-- a property of an own class -/
def propB (K : PySem.W.Frag) (C : Addr) (f : Str) : Bool := He.eqO (PySem.W.findIn K (.ref C) f) (some (some (.ref (He.ma K C f)))) && (He.eqO (PySem.W.specialIn K (.ref (He.ma K C f)) "__get__") (some (some (.builtin "property.__get__"))) &&
  (decide (PySem.W.takesIn K (.ref (He.ma K C f)) = some true) && (match PySem.W.recIn K (He.ma K C f) "property" with
  | some (.ref _ :: _) => true
  | _ => false)))
theorem propB_ok {K : PySem.W.Frag} {C f : Str} (h : propB K (He.ga K C) f = true) : PropOf K (He.ga K C) f (He.ma K (He.ga K C) f) (pg K C f) := by
  obtain ⟨h1, h⟩ := He.ba h
  obtain ⟨h2, h⟩ := He.ba h
  obtain ⟨h3, h4⟩ := He.ba h
  refine ⟨He.eqO_ok h1, He.eqO_ok h2, of_decide_eq_true h3, ?_⟩
  clear h1 h2 h3 h
  split at h4
  · rename_i g r e
    exact ⟨r, by unfold pg; rw [e]⟩
  · cases h4
/-- an own class's instances: isinstance asks the class -/
def insB (K : PySem.W.Frag) (C : Addr) : Bool := He.eqO (PySem.W.findIn K (.ref C) "__class__") (some (some (.builtin "object.__class__"))) && (He.eqO (PySem.W.specialIn K (.builtin "object.__class__") "__get__") (some (some (.builtin "getset_descriptor.__get__"))) &&
  (decide (PySem.W.takesIn K (.builtin "object.__class__") = some true) && decide (PySem.W.mroIn K C (.type "object") = some true)))
structure InsC (K : PySem.W.Frag) (C : Addr) : Prop where
  ha : PySem.W.findIn K (.ref C) "__class__" = some (some (.builtin "object.__class__"))
  hn : PySem.W.specialIn K (.builtin "object.__class__") "__get__" = some (some (.builtin "getset_descriptor.__get__"))
  ht : PySem.W.takesIn K (.builtin "object.__class__") = some true
  hm : PySem.W.mroIn K C (.type "object") = some true
theorem insB_ok {K : PySem.W.Frag} {C : Addr} (h : insB K C = true) : InsC K C := by
  obtain ⟨h1, h⟩ := He.ba h
  obtain ⟨h2, h⟩ := He.ba h
  obtain ⟨h3, h4⟩ := He.ba h
  exact ⟨He.eqO_ok h1, He.eqO_ok h2, of_decide_eq_true h3, of_decide_eq_true h4⟩
def kitD (K : PySem.W.Frag) (t c : Value) (b : Bool) : Bool := decide (PySem.W.kitOne K t c = some b)
def tupE (K : PySem.W.Frag) (a : Addr) : Bool := match K.lookup a with
  | some ⟨.type c, none, .seq its _, _⟩ => c == "tuple" && its.isEmpty
  | _ => false
def exL : List (PySem.W.Frag → Bool) := [(fun K => oexB K (He.ga K "BadName")),
  (fun K => xinB K (He.ga K "BadName")),
  (fun K => initB K (He.ga K "BadName") "name"),
  (fun K => oexB K (He.ga K "BadNumber")),
  (fun K => xinB K (He.ga K "BadNumber")),
  (fun K => initB K (He.ga K "BadNumber") "number"),
  (fun K => oexB K (He.ga K "BadKind")),
  (fun K => xinB K (He.ga K "BadKind")),
  (fun K => initB K (He.ga K "BadKind") "kind"),
  (fun K => oexB K (He.ga K "BadAction")),
  (fun K => xinB K (He.ga K "BadAction")),
  (fun K => initB K (He.ga K "BadAction") "action"),
  (fun K => oexB K (He.ga K "BadStatement")),
  (fun K => xinB K (He.ga K "BadStatement")),
  (fun K => initB K (He.ga K "BadStatement") "statement"),
  (fun K => oexB K (He.ga K "UnknownStep")),
  (fun K => xinB K (He.ga K "UnknownStep")),
  (fun K => initB K (He.ga K "UnknownStep") "step"),
  (fun K => oexB K (He.ga K "UnknownCell")),
  (fun K => xinB K (He.ga K "UnknownCell")),
  (fun K => initB K (He.ga K "UnknownCell") "cell"),
  (fun K => oexB K (He.ga K "TooLarge")),
  (fun K => xinB K (He.ga K "TooLarge")),
  (fun K => initB K (He.ga K "TooLarge") "most"),
  (fun K => oexB K (He.ga K "Clash")),
  (fun K => xinB K (He.ga K "Clash")),
  (fun K => initB K (He.ga K "Clash") "name"),
  (fun K => deedB K (He.ga K "DeedError")),
  (fun K => conI K (He.ga K "Book") "STEPS" 12),
  (fun K => conI K (He.ga K "Book") "CELLS" 2),
  (fun K => conI K (He.ga K "Body") "STATEMENTS" 24),
  (fun K => conI K (He.ga K "Body") "SIZE" 120),
  (fun K => propB K (He.ga K "Book") "cells"),
  (fun K => propB K (He.ga K "Book") "stores"),
  (fun K => insB K (He.ga K "Book")),
  (fun K => insB K (He.ga K "Body")),
  (fun K => kitD K (.ref (He.ga K "BadAction")) (.ref (He.ga K "BadAction")) true),
  (fun K => kitD K (.ref (He.ga K "BadAction")) (.ref (He.ga K "BadKind")) false),
  (fun K => kitD K (.ref (He.ga K "BadAction")) (.ref (He.ga K "BadName")) false),
  (fun K => kitD K (.ref (He.ga K "BadAction")) (.ref (He.ga K "BadNumber")) false),
  (fun K => kitD K (.ref (He.ga K "BadAction")) (.ref (He.ga K "BadStatement")) false),
  (fun K => kitD K (.ref (He.ga K "BadAction")) (.ref (He.ga K "TooLarge")) false),
  (fun K => kitD K (.ref (He.ga K "BadAction")) (.ref (He.ga K "UnknownCell")) false),
  (fun K => kitD K (.ref (He.ga K "BadAction")) (.ref (He.ga K "UnknownStep")) false),
  (fun K => kitD K (.ref (He.ga K "BadAction")) (.ref (He.ga K "DeedError")) true),
  (fun K => kitD K (.ref (He.ga K "BadAction")) (.type "ValueError") true),
  (fun K => kitD K (.ref (He.ga K "BadKind")) (.ref (He.ga K "BadAction")) false),
  (fun K => kitD K (.ref (He.ga K "BadKind")) (.ref (He.ga K "BadKind")) true),
  (fun K => kitD K (.ref (He.ga K "BadKind")) (.ref (He.ga K "BadName")) false),
  (fun K => kitD K (.ref (He.ga K "BadKind")) (.ref (He.ga K "BadNumber")) false),
  (fun K => kitD K (.ref (He.ga K "BadKind")) (.ref (He.ga K "BadStatement")) false),
  (fun K => kitD K (.ref (He.ga K "BadKind")) (.ref (He.ga K "TooLarge")) false),
  (fun K => kitD K (.ref (He.ga K "BadKind")) (.ref (He.ga K "UnknownCell")) false),
  (fun K => kitD K (.ref (He.ga K "BadKind")) (.ref (He.ga K "UnknownStep")) false),
  (fun K => kitD K (.ref (He.ga K "BadKind")) (.ref (He.ga K "DeedError")) true),
  (fun K => kitD K (.ref (He.ga K "BadKind")) (.type "ValueError") true),
  (fun K => kitD K (.ref (He.ga K "BadName")) (.ref (He.ga K "BadAction")) false),
  (fun K => kitD K (.ref (He.ga K "BadName")) (.ref (He.ga K "BadKind")) false),
  (fun K => kitD K (.ref (He.ga K "BadName")) (.ref (He.ga K "BadName")) true),
  (fun K => kitD K (.ref (He.ga K "BadName")) (.ref (He.ga K "BadNumber")) false),
  (fun K => kitD K (.ref (He.ga K "BadName")) (.ref (He.ga K "BadStatement")) false),
  (fun K => kitD K (.ref (He.ga K "BadName")) (.ref (He.ga K "TooLarge")) false),
  (fun K => kitD K (.ref (He.ga K "BadName")) (.ref (He.ga K "UnknownCell")) false),
  (fun K => kitD K (.ref (He.ga K "BadName")) (.ref (He.ga K "UnknownStep")) false),
  (fun K => kitD K (.ref (He.ga K "BadName")) (.ref (He.ga K "DeedError")) true),
  (fun K => kitD K (.ref (He.ga K "BadName")) (.type "ValueError") true),
  (fun K => kitD K (.ref (He.ga K "BadNumber")) (.ref (He.ga K "BadAction")) false),
  (fun K => kitD K (.ref (He.ga K "BadNumber")) (.ref (He.ga K "BadKind")) false),
  (fun K => kitD K (.ref (He.ga K "BadNumber")) (.ref (He.ga K "BadName")) false),
  (fun K => kitD K (.ref (He.ga K "BadNumber")) (.ref (He.ga K "BadNumber")) true),
  (fun K => kitD K (.ref (He.ga K "BadNumber")) (.ref (He.ga K "BadStatement")) false),
  (fun K => kitD K (.ref (He.ga K "BadNumber")) (.ref (He.ga K "TooLarge")) false),
  (fun K => kitD K (.ref (He.ga K "BadNumber")) (.ref (He.ga K "UnknownCell")) false),
  (fun K => kitD K (.ref (He.ga K "BadNumber")) (.ref (He.ga K "UnknownStep")) false),
  (fun K => kitD K (.ref (He.ga K "BadNumber")) (.ref (He.ga K "DeedError")) true),
  (fun K => kitD K (.ref (He.ga K "BadNumber")) (.type "ValueError") true),
  (fun K => kitD K (.ref (He.ga K "BadStatement")) (.ref (He.ga K "BadAction")) false),
  (fun K => kitD K (.ref (He.ga K "BadStatement")) (.ref (He.ga K "BadKind")) false),
  (fun K => kitD K (.ref (He.ga K "BadStatement")) (.ref (He.ga K "BadName")) false),
  (fun K => kitD K (.ref (He.ga K "BadStatement")) (.ref (He.ga K "BadNumber")) false),
  (fun K => kitD K (.ref (He.ga K "BadStatement")) (.ref (He.ga K "BadStatement")) true),
  (fun K => kitD K (.ref (He.ga K "BadStatement")) (.ref (He.ga K "TooLarge")) false),
  (fun K => kitD K (.ref (He.ga K "BadStatement")) (.ref (He.ga K "UnknownCell")) false),
  (fun K => kitD K (.ref (He.ga K "BadStatement")) (.ref (He.ga K "UnknownStep")) false),
  (fun K => kitD K (.ref (He.ga K "BadStatement")) (.ref (He.ga K "DeedError")) true),
  (fun K => kitD K (.ref (He.ga K "BadStatement")) (.type "ValueError") true),
  (fun K => kitD K (.ref (He.ga K "TooLarge")) (.ref (He.ga K "BadAction")) false),
  (fun K => kitD K (.ref (He.ga K "TooLarge")) (.ref (He.ga K "BadKind")) false),
  (fun K => kitD K (.ref (He.ga K "TooLarge")) (.ref (He.ga K "BadName")) false),
  (fun K => kitD K (.ref (He.ga K "TooLarge")) (.ref (He.ga K "BadNumber")) false),
  (fun K => kitD K (.ref (He.ga K "TooLarge")) (.ref (He.ga K "BadStatement")) false),
  (fun K => kitD K (.ref (He.ga K "TooLarge")) (.ref (He.ga K "TooLarge")) true),
  (fun K => kitD K (.ref (He.ga K "TooLarge")) (.ref (He.ga K "UnknownCell")) false),
  (fun K => kitD K (.ref (He.ga K "TooLarge")) (.ref (He.ga K "UnknownStep")) false),
  (fun K => kitD K (.ref (He.ga K "TooLarge")) (.ref (He.ga K "DeedError")) true),
  (fun K => kitD K (.ref (He.ga K "TooLarge")) (.type "ValueError") true),
  (fun K => kitD K (.ref (He.ga K "UnknownCell")) (.ref (He.ga K "BadAction")) false),
  (fun K => kitD K (.ref (He.ga K "UnknownCell")) (.ref (He.ga K "BadKind")) false),
  (fun K => kitD K (.ref (He.ga K "UnknownCell")) (.ref (He.ga K "BadName")) false),
  (fun K => kitD K (.ref (He.ga K "UnknownCell")) (.ref (He.ga K "BadNumber")) false),
  (fun K => kitD K (.ref (He.ga K "UnknownCell")) (.ref (He.ga K "BadStatement")) false),
  (fun K => kitD K (.ref (He.ga K "UnknownCell")) (.ref (He.ga K "TooLarge")) false),
  (fun K => kitD K (.ref (He.ga K "UnknownCell")) (.ref (He.ga K "UnknownCell")) true),
  (fun K => kitD K (.ref (He.ga K "UnknownCell")) (.ref (He.ga K "UnknownStep")) false),
  (fun K => kitD K (.ref (He.ga K "UnknownCell")) (.ref (He.ga K "DeedError")) true),
  (fun K => kitD K (.ref (He.ga K "UnknownCell")) (.type "ValueError") true),
  (fun K => kitD K (.ref (He.ga K "UnknownStep")) (.ref (He.ga K "BadAction")) false),
  (fun K => kitD K (.ref (He.ga K "UnknownStep")) (.ref (He.ga K "BadKind")) false),
  (fun K => kitD K (.ref (He.ga K "UnknownStep")) (.ref (He.ga K "BadName")) false),
  (fun K => kitD K (.ref (He.ga K "UnknownStep")) (.ref (He.ga K "BadNumber")) false),
  (fun K => kitD K (.ref (He.ga K "UnknownStep")) (.ref (He.ga K "BadStatement")) false),
  (fun K => kitD K (.ref (He.ga K "UnknownStep")) (.ref (He.ga K "TooLarge")) false),
  (fun K => kitD K (.ref (He.ga K "UnknownStep")) (.ref (He.ga K "UnknownCell")) false),
  (fun K => kitD K (.ref (He.ga K "UnknownStep")) (.ref (He.ga K "UnknownStep")) true),
  (fun K => kitD K (.ref (He.ga K "UnknownStep")) (.ref (He.ga K "DeedError")) true),
  (fun K => kitD K (.ref (He.ga K "UnknownStep")) (.type "ValueError") true),
  (fun K => kitD K (.ref (He.ga K "Book")) (.ref (He.ga K "Book")) true),
  (fun K => kitD K (.ref (He.ga K "Body")) (.ref (He.ga K "Body")) true),
  (fun K => He.tupB K "NUMBERED" [.str "answer", .str "heal"]),
  (fun K => He.tupB K "NAMED" [.str "jump", .str "swap"]),
  (fun K => He.tupB K "GUARDS" [.str "done", .str "error", .str "always"]),
  (fun K => He.tupB K "READS" [.str "now", .str "late"]),
  (fun K => tupE K (He.dflAt ("Book", some "__init__") 0 K)),
  (fun K => tupE K (He.dflAt ("Book", some "__init__") 1 K)),
  (fun K => He.valsB K (He.ga K "LENGTHS") [("do", .int 3), ("put", .int 2), ("set", .int 3), ("if", .int 4), ("while", .int 3), ("when", .int 5), ("return", .int 2), ("leave", .int 2), ("raise", .int 2)]),
  (fun K => PySem.W.noSeq K (He.ga K "Book"))]
def tsL : List He.Tab := [(fun K => He.ga K "LENGTHS", ["do", "put", "set", "if", "while", "when", "return", "leave", "raise"])]
/-! the Hook -/
abbrev AlZ : Type := He.AlD × List (Option (List (Option (Str × Int)))) × Bool
def lookZ (K : PySem.W.Frag) : AlZ := (He5.obsA faL fnL K, tsL.map fun t => He.dicW K (t.1 K), exL.all fun f => f K)
def valZ (w : World) : AlZ := (He5.valA fnL, tsL.map fun t => some (He.keysIn w.params t.2), true)
/-- the objects that are looked at -/
def gNames1 : List Str := ["Book", "Body", "DeedError", "BadName", "BadNumber", "BadKind", "BadAction", "BadStatement", "UnknownStep", "UnknownCell", "TooLarge", "Clash", "NUMBERED", "NAMED", "GUARDS", "READS", "LENGTHS", "is_name", "check_name", "check_number", "check_kind", "copied", "cell_names", "check_argument", "check_at", "check_action", "blocks_of", "check_now", "check_cell", "check_parts"]
def gNames2 : List Str := ["check_all", "in_order", "_law_pool", "_law_mixed", "_law_draw", "_law_rest", "_law_letters", "_law_name", "_law_fresh", "_law_number", "_law_kind", "_law_lore", "_law_book", "_law_argument", "_law_action", "_law_plain", "_law_statement", "_law_block", "_law_size", "_law_same", "_law_signs", "_law_near", "_law_is_name", "_law_many", "_law_spoilt", "_law_touched", "_law_fault", "_law_lengths", "_law_blocks", "_law_read_fault"]
def gNames3 : List Str := ["_law_parts_fault", "_law_block_fault", "_law_single", "_law_reason", "_law_wrapped", "_law_bad_read", "_law_bad_name", "_law_bad_cell", "_law_changed", "_law_rebuilt", "_law_outcome", "_law_right", "law"]
def gNames : List Str := gNames1 ++ (gNames2 ++ gNames3)
def cNames : List Str := ["Book", "Body", "DeedError", "BadName", "BadNumber", "BadKind", "BadAction", "BadStatement", "UnknownStep", "UnknownCell", "TooLarge", "Clash"]
def mNames : List (Str × Str) := [("Book", "__init__"), ("Book", "__setitem__"), ("Book", "__contains__"), ("Book", "__eq__"), ("Book", "add_cell"), ("Body", "__init__"), ("Body", "__len__"), ("BadName", "__init__"), ("BadNumber", "__init__"), ("BadKind", "__init__"), ("BadAction", "__init__"), ("BadStatement", "__init__"), ("UnknownStep", "__init__"), ("UnknownCell", "__init__"), ("TooLarge", "__init__"), ("Clash", "__init__"), ("Book", "cells"), ("Book", "stores")]
def codeO (K : PySem.W.Frag) (a : Addr) : List Addr := match K.lookup a with
  | some ⟨_, _, .func fd, _⟩ => He.refV fd.code ++ He.refV fd.defaults
  | _ => []
def itemO (g : Addr → Option Obj) (a : Addr) : List Addr := match g a with
  | some ⟨_, _, .seq its _, _⟩ => its.toList.flatMap He.refV
  | _ => []
def asZ (g : Addr → Option Obj) : List Addr :=
  (fun K0 => (fun A1 => (fun K1 => (fun nA => (fun K2 => (fun mA => (fun K3 => (fun gA => (fun K4 => (fun cA =>
    mainGlobals :: (nA ++ (A1 ++ (mA ++ (gA ++ (cA ++ (((match K4.lookup (He.ma K4 (He.ga K4 "Book") "__init__") with
      | some ⟨_, _, .func fd, _⟩ => (He.refV fd.defaults).flatMap (itemO g)
      | _ => []))  ++ [cStatics])))))))
    ((A1 ++ (mA ++ gA)).flatMap (codeO K4)))
    (He.frG g (mainGlobals :: (nA ++ (A1 ++ (mA ++ gA))))))
    [pg K3 "Book" "cells", pg K3 "Book" "stores"])
    (He.frG g (mainGlobals :: (nA ++ (A1 ++ mA)))))
    (mNames.map fun q => He.ma K2 (He.ga K2 q.1) q.2))
    (He.frG g (mainGlobals :: (nA ++ A1))))
    (cNames.flatMap fun x => (match K1.lookup (He.ga K1 x) with
      | some ⟨_, _, .cls cd, _⟩ => [cd.ns]
      | _ => [])))
    (He.frG g (mainGlobals :: A1)))
    (gNames.map (He.ga K0)))
    (He.frG g [mainGlobals])
def obsZ (g : Addr → Option Obj) : AlZ := lookZ (He.frG g (asZ g))
def SaysZ (w : World) (K : PySem.W.Frag) : Prop := lookZ K = valZ w
def hookZ : PySem.W.Hook where
  α := AlZ
  obs := fun s => obsZ s.heap.get?
  val := fun w => valZ w
  says := fun w h => ∃ K : PySem.W.Frag, K.In h ∧ SaysZ w K
  of := fun _ _ e => ⟨_, He.frG_in, e⟩
  keeps := fun _ _ _ ⟨K, hK, c⟩ k => ⟨K, PySem.W.Frag.In.keeps hK k, c⟩
theorem obsZ_eq {g : Addr → Option Obj} {s : Shared} (h : ∀ a, g a = s.heap.get? a) : obsZ g = hookZ.obs s := by
  have e : g = s.heap.get? := funext h
  rw [e] <;> rfl
/-! what the text says -/
structure Ctx where
  P : Program
  w : World
  K : PySem.W.Frag
  mg : Str → Option Value
  base : Heap
structure Txt (G : Ctx) : Prop where
  at_ : ∃ h : Heap, G.K.In h ∧ h.Ns mainGlobals G.mg
  says : SaysZ G.w G.K
section
variable {G : Ctx}
theorem Txt.a (T : Txt G) : He5.SaysA faL fnL G.K := congrArg (fun z : AlZ => z.1) T.says
theorem Txt.more (T : Txt G) (i : Nat) {f : PySem.W.Frag → Bool} (h : exL[i]? = some f := by rfl) : f G.K = true := by
  have e : (exL.all fun f => f G.K) = true := congrArg (fun z : AlZ => z.2.2) T.says
  exact List.all_eq_true.mp e f (List.mem_of_getElem? h)
theorem Txt.tab (T : Txt G) (i : Nat) {t : He.Tab} (h : tsL[i]? = some t := by rfl) : ∃ es n, KDict G.K G.w (t.1 G.K) es n := by
  have e : tsL.map (fun t => He.dicW G.K (t.1 G.K)) = tsL.map fun t => some (He.keysIn G.w.params t.2) := congrArg (fun z : AlZ => z.2.1) T.says
  have e2 : (tsL.map fun t => He.dicW G.K (t.1 G.K))[i]? = (tsL.map fun t => some (He.keysIn G.w.params t.2))[i]? := by rw [e]
  rw [List.getElem?_map, List.getElem?_map, h] at e2
  exact He.dicW_ok (Option.some.inj e2)
theorem Txt.v_len (T : Txt G) : G.mg "len" = none := let ⟨_, X, N⟩ := T.at_; He.free_ok X N (T.a.fact 0 (f := .free "len"))
theorem Txt.v_range (T : Txt G) : G.mg "range" = none := let ⟨_, X, N⟩ := T.at_; He.free_ok X N (T.a.fact 1 (f := .free "range"))
theorem Txt.v_list (T : Txt G) : G.mg "list" = none := let ⟨_, X, N⟩ := T.at_; He.free_ok X N (T.a.fact 2 (f := .free "list"))
theorem Txt.v_tuple (T : Txt G) : G.mg "tuple" = none := let ⟨_, X, N⟩ := T.at_; He.free_ok X N (T.a.fact 3 (f := .free "tuple"))
theorem Txt.v_int (T : Txt G) : G.mg "int" = none := let ⟨_, X, N⟩ := T.at_; He.free_ok X N (T.a.fact 4 (f := .free "int"))
theorem Txt.v_isinstance (T : Txt G) : G.mg "isinstance" = none := let ⟨_, X, N⟩ := T.at_; He.free_ok X N (T.a.fact 5 (f := .free "isinstance"))
theorem Txt.v_sorted (T : Txt G) : G.mg "sorted" = none := let ⟨_, X, N⟩ := T.at_; He.free_ok X N (T.a.fact 6 (f := .free "sorted"))
theorem Txt.v_dict (T : Txt G) : G.mg "dict" = none := let ⟨_, X, N⟩ := T.at_; He.free_ok X N (T.a.fact 7 (f := .free "dict"))
theorem Txt.v_str (T : Txt G) : G.mg "str" = none := let ⟨_, X, N⟩ := T.at_; He.free_ok X N (T.a.fact 8 (f := .free "str"))
theorem Txt.v_bool (T : Txt G) : G.mg "bool" = none := let ⟨_, X, N⟩ := T.at_; He.free_ok X N (T.a.fact 9 (f := .free "bool"))
theorem Txt.v_ValueError (T : Txt G) : G.mg "ValueError" = none := let ⟨_, X, N⟩ := T.at_; He.free_ok X N (T.a.fact 10 (f := .free "ValueError"))
theorem Txt.g_is_name (T : Txt G) : G.mg "is_name" = some (.ref (He.ga G.K "is_name")) := let ⟨_, X, N⟩ := T.at_; He.glo_ok X N (T.a.fact 11 (f := .glo "is_name"))
theorem Txt.g_check_name (T : Txt G) : G.mg "check_name" = some (.ref (He.ga G.K "check_name")) := let ⟨_, X, N⟩ := T.at_; He.glo_ok X N (T.a.fact 12 (f := .glo "check_name"))
theorem Txt.g_check_number (T : Txt G) : G.mg "check_number" = some (.ref (He.ga G.K "check_number")) := let ⟨_, X, N⟩ := T.at_; He.glo_ok X N (T.a.fact 13 (f := .glo "check_number"))
theorem Txt.g_check_kind (T : Txt G) : G.mg "check_kind" = some (.ref (He.ga G.K "check_kind")) := let ⟨_, X, N⟩ := T.at_; He.glo_ok X N (T.a.fact 14 (f := .glo "check_kind"))
theorem Txt.g_copied (T : Txt G) : G.mg "copied" = some (.ref (He.ga G.K "copied")) := let ⟨_, X, N⟩ := T.at_; He.glo_ok X N (T.a.fact 15 (f := .glo "copied"))
theorem Txt.g_cell_names (T : Txt G) : G.mg "cell_names" = some (.ref (He.ga G.K "cell_names")) := let ⟨_, X, N⟩ := T.at_; He.glo_ok X N (T.a.fact 16 (f := .glo "cell_names"))
theorem Txt.g_check_argument (T : Txt G) : G.mg "check_argument" = some (.ref (He.ga G.K "check_argument")) := let ⟨_, X, N⟩ := T.at_; He.glo_ok X N (T.a.fact 17 (f := .glo "check_argument"))
theorem Txt.g_check_at (T : Txt G) : G.mg "check_at" = some (.ref (He.ga G.K "check_at")) := let ⟨_, X, N⟩ := T.at_; He.glo_ok X N (T.a.fact 18 (f := .glo "check_at"))
theorem Txt.g_check_action (T : Txt G) : G.mg "check_action" = some (.ref (He.ga G.K "check_action")) := let ⟨_, X, N⟩ := T.at_; He.glo_ok X N (T.a.fact 19 (f := .glo "check_action"))
theorem Txt.g_blocks_of (T : Txt G) : G.mg "blocks_of" = some (.ref (He.ga G.K "blocks_of")) := let ⟨_, X, N⟩ := T.at_; He.glo_ok X N (T.a.fact 20 (f := .glo "blocks_of"))
theorem Txt.g_check_now (T : Txt G) : G.mg "check_now" = some (.ref (He.ga G.K "check_now")) := let ⟨_, X, N⟩ := T.at_; He.glo_ok X N (T.a.fact 21 (f := .glo "check_now"))
theorem Txt.g_check_cell (T : Txt G) : G.mg "check_cell" = some (.ref (He.ga G.K "check_cell")) := let ⟨_, X, N⟩ := T.at_; He.glo_ok X N (T.a.fact 22 (f := .glo "check_cell"))
theorem Txt.g_check_parts (T : Txt G) : G.mg "check_parts" = some (.ref (He.ga G.K "check_parts")) := let ⟨_, X, N⟩ := T.at_; He.glo_ok X N (T.a.fact 23 (f := .glo "check_parts"))
theorem Txt.g_check_all (T : Txt G) : G.mg "check_all" = some (.ref (He.ga G.K "check_all")) := let ⟨_, X, N⟩ := T.at_; He.glo_ok X N (T.a.fact 24 (f := .glo "check_all"))
theorem Txt.g_in_order (T : Txt G) : G.mg "in_order" = some (.ref (He.ga G.K "in_order")) := let ⟨_, X, N⟩ := T.at_; He.glo_ok X N (T.a.fact 25 (f := .glo "in_order"))
theorem Txt.g__law_pool (T : Txt G) : G.mg "_law_pool" = some (.ref (He.ga G.K "_law_pool")) := let ⟨_, X, N⟩ := T.at_; He.glo_ok X N (T.a.fact 26 (f := .glo "_law_pool"))
theorem Txt.g__law_mixed (T : Txt G) : G.mg "_law_mixed" = some (.ref (He.ga G.K "_law_mixed")) := let ⟨_, X, N⟩ := T.at_; He.glo_ok X N (T.a.fact 27 (f := .glo "_law_mixed"))
theorem Txt.g__law_draw (T : Txt G) : G.mg "_law_draw" = some (.ref (He.ga G.K "_law_draw")) := let ⟨_, X, N⟩ := T.at_; He.glo_ok X N (T.a.fact 28 (f := .glo "_law_draw"))
theorem Txt.g__law_rest (T : Txt G) : G.mg "_law_rest" = some (.ref (He.ga G.K "_law_rest")) := let ⟨_, X, N⟩ := T.at_; He.glo_ok X N (T.a.fact 29 (f := .glo "_law_rest"))
theorem Txt.g__law_letters (T : Txt G) : G.mg "_law_letters" = some (.ref (He.ga G.K "_law_letters")) := let ⟨_, X, N⟩ := T.at_; He.glo_ok X N (T.a.fact 30 (f := .glo "_law_letters"))
theorem Txt.g__law_name (T : Txt G) : G.mg "_law_name" = some (.ref (He.ga G.K "_law_name")) := let ⟨_, X, N⟩ := T.at_; He.glo_ok X N (T.a.fact 31 (f := .glo "_law_name"))
theorem Txt.g__law_fresh (T : Txt G) : G.mg "_law_fresh" = some (.ref (He.ga G.K "_law_fresh")) := let ⟨_, X, N⟩ := T.at_; He.glo_ok X N (T.a.fact 32 (f := .glo "_law_fresh"))
theorem Txt.g__law_number (T : Txt G) : G.mg "_law_number" = some (.ref (He.ga G.K "_law_number")) := let ⟨_, X, N⟩ := T.at_; He.glo_ok X N (T.a.fact 33 (f := .glo "_law_number"))
theorem Txt.g__law_kind (T : Txt G) : G.mg "_law_kind" = some (.ref (He.ga G.K "_law_kind")) := let ⟨_, X, N⟩ := T.at_; He.glo_ok X N (T.a.fact 34 (f := .glo "_law_kind"))
theorem Txt.g__law_lore (T : Txt G) : G.mg "_law_lore" = some (.ref (He.ga G.K "_law_lore")) := let ⟨_, X, N⟩ := T.at_; He.glo_ok X N (T.a.fact 35 (f := .glo "_law_lore"))
theorem Txt.g__law_book (T : Txt G) : G.mg "_law_book" = some (.ref (He.ga G.K "_law_book")) := let ⟨_, X, N⟩ := T.at_; He.glo_ok X N (T.a.fact 36 (f := .glo "_law_book"))
theorem Txt.g__law_argument (T : Txt G) : G.mg "_law_argument" = some (.ref (He.ga G.K "_law_argument")) := let ⟨_, X, N⟩ := T.at_; He.glo_ok X N (T.a.fact 37 (f := .glo "_law_argument"))
theorem Txt.g__law_action (T : Txt G) : G.mg "_law_action" = some (.ref (He.ga G.K "_law_action")) := let ⟨_, X, N⟩ := T.at_; He.glo_ok X N (T.a.fact 38 (f := .glo "_law_action"))
theorem Txt.g__law_plain (T : Txt G) : G.mg "_law_plain" = some (.ref (He.ga G.K "_law_plain")) := let ⟨_, X, N⟩ := T.at_; He.glo_ok X N (T.a.fact 39 (f := .glo "_law_plain"))
theorem Txt.g__law_statement (T : Txt G) : G.mg "_law_statement" = some (.ref (He.ga G.K "_law_statement")) := let ⟨_, X, N⟩ := T.at_; He.glo_ok X N (T.a.fact 40 (f := .glo "_law_statement"))
theorem Txt.g__law_block (T : Txt G) : G.mg "_law_block" = some (.ref (He.ga G.K "_law_block")) := let ⟨_, X, N⟩ := T.at_; He.glo_ok X N (T.a.fact 41 (f := .glo "_law_block"))
theorem Txt.g__law_size (T : Txt G) : G.mg "_law_size" = some (.ref (He.ga G.K "_law_size")) := let ⟨_, X, N⟩ := T.at_; He.glo_ok X N (T.a.fact 42 (f := .glo "_law_size"))
theorem Txt.g__law_same (T : Txt G) : G.mg "_law_same" = some (.ref (He.ga G.K "_law_same")) := let ⟨_, X, N⟩ := T.at_; He.glo_ok X N (T.a.fact 43 (f := .glo "_law_same"))
theorem Txt.g__law_signs (T : Txt G) : G.mg "_law_signs" = some (.ref (He.ga G.K "_law_signs")) := let ⟨_, X, N⟩ := T.at_; He.glo_ok X N (T.a.fact 44 (f := .glo "_law_signs"))
theorem Txt.g__law_near (T : Txt G) : G.mg "_law_near" = some (.ref (He.ga G.K "_law_near")) := let ⟨_, X, N⟩ := T.at_; He.glo_ok X N (T.a.fact 45 (f := .glo "_law_near"))
theorem Txt.g__law_is_name (T : Txt G) : G.mg "_law_is_name" = some (.ref (He.ga G.K "_law_is_name")) := let ⟨_, X, N⟩ := T.at_; He.glo_ok X N (T.a.fact 46 (f := .glo "_law_is_name"))
theorem Txt.g__law_many (T : Txt G) : G.mg "_law_many" = some (.ref (He.ga G.K "_law_many")) := let ⟨_, X, N⟩ := T.at_; He.glo_ok X N (T.a.fact 47 (f := .glo "_law_many"))
theorem Txt.g__law_spoilt (T : Txt G) : G.mg "_law_spoilt" = some (.ref (He.ga G.K "_law_spoilt")) := let ⟨_, X, N⟩ := T.at_; He.glo_ok X N (T.a.fact 48 (f := .glo "_law_spoilt"))
theorem Txt.g__law_touched (T : Txt G) : G.mg "_law_touched" = some (.ref (He.ga G.K "_law_touched")) := let ⟨_, X, N⟩ := T.at_; He.glo_ok X N (T.a.fact 49 (f := .glo "_law_touched"))
theorem Txt.g__law_fault (T : Txt G) : G.mg "_law_fault" = some (.ref (He.ga G.K "_law_fault")) := let ⟨_, X, N⟩ := T.at_; He.glo_ok X N (T.a.fact 50 (f := .glo "_law_fault"))
theorem Txt.g__law_lengths (T : Txt G) : G.mg "_law_lengths" = some (.ref (He.ga G.K "_law_lengths")) := let ⟨_, X, N⟩ := T.at_; He.glo_ok X N (T.a.fact 51 (f := .glo "_law_lengths"))
theorem Txt.g__law_blocks (T : Txt G) : G.mg "_law_blocks" = some (.ref (He.ga G.K "_law_blocks")) := let ⟨_, X, N⟩ := T.at_; He.glo_ok X N (T.a.fact 52 (f := .glo "_law_blocks"))
theorem Txt.g__law_read_fault (T : Txt G) : G.mg "_law_read_fault" = some (.ref (He.ga G.K "_law_read_fault")) := let ⟨_, X, N⟩ := T.at_; He.glo_ok X N (T.a.fact 53 (f := .glo "_law_read_fault"))
theorem Txt.g__law_parts_fault (T : Txt G) : G.mg "_law_parts_fault" = some (.ref (He.ga G.K "_law_parts_fault")) := let ⟨_, X, N⟩ := T.at_; He.glo_ok X N (T.a.fact 54 (f := .glo "_law_parts_fault"))
theorem Txt.g__law_block_fault (T : Txt G) : G.mg "_law_block_fault" = some (.ref (He.ga G.K "_law_block_fault")) := let ⟨_, X, N⟩ := T.at_; He.glo_ok X N (T.a.fact 55 (f := .glo "_law_block_fault"))
theorem Txt.g__law_single (T : Txt G) : G.mg "_law_single" = some (.ref (He.ga G.K "_law_single")) := let ⟨_, X, N⟩ := T.at_; He.glo_ok X N (T.a.fact 56 (f := .glo "_law_single"))
theorem Txt.g__law_reason (T : Txt G) : G.mg "_law_reason" = some (.ref (He.ga G.K "_law_reason")) := let ⟨_, X, N⟩ := T.at_; He.glo_ok X N (T.a.fact 57 (f := .glo "_law_reason"))
theorem Txt.g__law_wrapped (T : Txt G) : G.mg "_law_wrapped" = some (.ref (He.ga G.K "_law_wrapped")) := let ⟨_, X, N⟩ := T.at_; He.glo_ok X N (T.a.fact 58 (f := .glo "_law_wrapped"))
theorem Txt.g__law_bad_read (T : Txt G) : G.mg "_law_bad_read" = some (.ref (He.ga G.K "_law_bad_read")) := let ⟨_, X, N⟩ := T.at_; He.glo_ok X N (T.a.fact 59 (f := .glo "_law_bad_read"))
theorem Txt.g__law_bad_name (T : Txt G) : G.mg "_law_bad_name" = some (.ref (He.ga G.K "_law_bad_name")) := let ⟨_, X, N⟩ := T.at_; He.glo_ok X N (T.a.fact 60 (f := .glo "_law_bad_name"))
theorem Txt.g__law_bad_cell (T : Txt G) : G.mg "_law_bad_cell" = some (.ref (He.ga G.K "_law_bad_cell")) := let ⟨_, X, N⟩ := T.at_; He.glo_ok X N (T.a.fact 61 (f := .glo "_law_bad_cell"))
theorem Txt.g__law_changed (T : Txt G) : G.mg "_law_changed" = some (.ref (He.ga G.K "_law_changed")) := let ⟨_, X, N⟩ := T.at_; He.glo_ok X N (T.a.fact 62 (f := .glo "_law_changed"))
theorem Txt.g__law_rebuilt (T : Txt G) : G.mg "_law_rebuilt" = some (.ref (He.ga G.K "_law_rebuilt")) := let ⟨_, X, N⟩ := T.at_; He.glo_ok X N (T.a.fact 63 (f := .glo "_law_rebuilt"))
theorem Txt.g__law_outcome (T : Txt G) : G.mg "_law_outcome" = some (.ref (He.ga G.K "_law_outcome")) := let ⟨_, X, N⟩ := T.at_; He.glo_ok X N (T.a.fact 64 (f := .glo "_law_outcome"))
theorem Txt.g__law_right (T : Txt G) : G.mg "_law_right" = some (.ref (He.ga G.K "_law_right")) := let ⟨_, X, N⟩ := T.at_; He.glo_ok X N (T.a.fact 65 (f := .glo "_law_right"))
theorem Txt.g_law (T : Txt G) : G.mg "law" = some (.ref (He.ga G.K "law")) := let ⟨_, X, N⟩ := T.at_; He.glo_ok X N (T.a.fact 66 (f := .glo "law"))
theorem Txt.g_Book (T : Txt G) : G.mg "Book" = some (.ref (He.ga G.K "Book")) := let ⟨_, X, N⟩ := T.at_; He.glo_ok X N (T.a.fact 67 (f := .glo "Book"))
theorem Txt.g_Body (T : Txt G) : G.mg "Body" = some (.ref (He.ga G.K "Body")) := let ⟨_, X, N⟩ := T.at_; He.glo_ok X N (T.a.fact 68 (f := .glo "Body"))
theorem Txt.g_DeedError (T : Txt G) : G.mg "DeedError" = some (.ref (He.ga G.K "DeedError")) := let ⟨_, X, N⟩ := T.at_; He.glo_ok X N (T.a.fact 69 (f := .glo "DeedError"))
theorem Txt.g_BadName (T : Txt G) : G.mg "BadName" = some (.ref (He.ga G.K "BadName")) := let ⟨_, X, N⟩ := T.at_; He.glo_ok X N (T.a.fact 70 (f := .glo "BadName"))
theorem Txt.g_BadNumber (T : Txt G) : G.mg "BadNumber" = some (.ref (He.ga G.K "BadNumber")) := let ⟨_, X, N⟩ := T.at_; He.glo_ok X N (T.a.fact 71 (f := .glo "BadNumber"))
theorem Txt.g_BadKind (T : Txt G) : G.mg "BadKind" = some (.ref (He.ga G.K "BadKind")) := let ⟨_, X, N⟩ := T.at_; He.glo_ok X N (T.a.fact 72 (f := .glo "BadKind"))
theorem Txt.g_BadAction (T : Txt G) : G.mg "BadAction" = some (.ref (He.ga G.K "BadAction")) := let ⟨_, X, N⟩ := T.at_; He.glo_ok X N (T.a.fact 73 (f := .glo "BadAction"))
theorem Txt.g_BadStatement (T : Txt G) : G.mg "BadStatement" = some (.ref (He.ga G.K "BadStatement")) := let ⟨_, X, N⟩ := T.at_; He.glo_ok X N (T.a.fact 74 (f := .glo "BadStatement"))
theorem Txt.g_UnknownStep (T : Txt G) : G.mg "UnknownStep" = some (.ref (He.ga G.K "UnknownStep")) := let ⟨_, X, N⟩ := T.at_; He.glo_ok X N (T.a.fact 75 (f := .glo "UnknownStep"))
theorem Txt.g_UnknownCell (T : Txt G) : G.mg "UnknownCell" = some (.ref (He.ga G.K "UnknownCell")) := let ⟨_, X, N⟩ := T.at_; He.glo_ok X N (T.a.fact 76 (f := .glo "UnknownCell"))
theorem Txt.g_TooLarge (T : Txt G) : G.mg "TooLarge" = some (.ref (He.ga G.K "TooLarge")) := let ⟨_, X, N⟩ := T.at_; He.glo_ok X N (T.a.fact 77 (f := .glo "TooLarge"))
theorem Txt.g_Clash (T : Txt G) : G.mg "Clash" = some (.ref (He.ga G.K "Clash")) := let ⟨_, X, N⟩ := T.at_; He.glo_ok X N (T.a.fact 78 (f := .glo "Clash"))
theorem Txt.g_NUMBERED (T : Txt G) : G.mg "NUMBERED" = some (.ref (He.ga G.K "NUMBERED")) := let ⟨_, X, N⟩ := T.at_; He.glo_ok X N (T.a.fact 79 (f := .glo "NUMBERED"))
theorem Txt.g_NAMED (T : Txt G) : G.mg "NAMED" = some (.ref (He.ga G.K "NAMED")) := let ⟨_, X, N⟩ := T.at_; He.glo_ok X N (T.a.fact 80 (f := .glo "NAMED"))
theorem Txt.g_GUARDS (T : Txt G) : G.mg "GUARDS" = some (.ref (He.ga G.K "GUARDS")) := let ⟨_, X, N⟩ := T.at_; He.glo_ok X N (T.a.fact 81 (f := .glo "GUARDS"))
theorem Txt.g_READS (T : Txt G) : G.mg "READS" = some (.ref (He.ga G.K "READS")) := let ⟨_, X, N⟩ := T.at_; He.glo_ok X N (T.a.fact 82 (f := .glo "READS"))
theorem Txt.g_LENGTHS (T : Txt G) : G.mg "LENGTHS" = some (.ref (He.ga G.K "LENGTHS")) := let ⟨_, X, N⟩ := T.at_; He.glo_ok X N (T.a.fact 83 (f := .glo "LENGTHS"))
theorem Txt.i_LONGEST (T : Txt G) : ∃ t, G.mg "LONGEST" = some (.int 12 t) := let ⟨_, X, N⟩ := T.at_; He.int_ok X N (T.a.fact 84 (f := .int "LONGEST" 12))
theorem Txt.i_GREATEST (T : Txt G) : ∃ t, G.mg "GREATEST" = some (.int 999 t) := let ⟨_, X, N⟩ := T.at_; He.int_ok X N (T.a.fact 85 (f := .int "GREATEST" 999))
theorem Txt.i_MANY (T : Txt G) : ∃ t, G.mg "MANY" = some (.int 3 t) := let ⟨_, X, N⟩ := T.at_; He.int_ok X N (T.a.fact 86 (f := .int "MANY" 3))
theorem Txt.i_DEEP (T : Txt G) : ∃ t, G.mg "DEEP" = some (.int 2 t) := let ⟨_, X, N⟩ := T.at_; He.int_ok X N (T.a.fact 87 (f := .int "DEEP" 2))
theorem Txt.i_DEPTH (T : Txt G) : ∃ t, G.mg "DEPTH" = some (.int 4 t) := let ⟨_, X, N⟩ := T.at_; He.int_ok X N (T.a.fact 88 (f := .int "DEPTH" 4))
theorem Txt.t_LETTERS (T : Txt G) : ∃ t, G.mg "LETTERS" = some (.str "abcdefghijklmnopqrstuvwxyz" t) := let ⟨_, X, N⟩ := T.at_; He.str_ok X N (T.a.fact 89 (f := .str "LETTERS" "abcdefghijklmnopqrstuvwxyz"))
theorem Txt.t_DIGITS (T : Txt G) : ∃ t, G.mg "DIGITS" = some (.str "0123456789" t) := let ⟨_, X, N⟩ := T.at_; He.str_ok X N (T.a.fact 90 (f := .str "DIGITS" "0123456789"))
theorem Txt.c_Book (T : Txt G) : Cls G.K (He.ga G.K "Book") := He.cls_ok (T.a.fact 91 (f := .cls "Book"))
theorem Txt.m_Book (T : Txt G) : Mk G.K (He.ga G.K "Book") (He.ma G.K (He.ga G.K "Book") "__init__") := He.mkr_ok (T.a.fact 92 (f := .mkr "Book"))
theorem Txt.c_Body (T : Txt G) : Cls G.K (He.ga G.K "Body") := He.cls_ok (T.a.fact 93 (f := .cls "Body"))
theorem Txt.m_Body (T : Txt G) : Mk G.K (He.ga G.K "Body") (He.ma G.K (He.ga G.K "Body") "__init__") := He.mkr_ok (T.a.fact 94 (f := .mkr "Body"))
theorem Txt.n_Book__kinds (T : Txt G) : NoAttr G.K (He.ga G.K "Book") "_kinds" := He.noat_ok (T.a.fact 95 (f := .noat "Book" "_kinds"))
theorem Txt.n_Book__sizes (T : Txt G) : NoAttr G.K (He.ga G.K "Book") "_sizes" := He.noat_ok (T.a.fact 96 (f := .noat "Book" "_sizes"))
theorem Txt.n_Body_book (T : Txt G) : NoAttr G.K (He.ga G.K "Body") "book" := He.noat_ok (T.a.fact 97 (f := .noat "Body" "book"))
theorem Txt.n_Body_statements (T : Txt G) : NoAttr G.K (He.ga G.K "Body") "statements" := He.noat_ok (T.a.fact 98 (f := .noat "Body" "statements"))
theorem Txt.h_Book_setitem (T : Txt G) : Meth G.K (He.ga G.K "Book") "__setitem__" (He.ma G.K (He.ga G.K "Book") "__setitem__") := He.meth_ok (T.a.fact 99 (f := .meth "Book" "__setitem__"))
theorem Txt.h_Book_contains (T : Txt G) : Meth G.K (He.ga G.K "Book") "__contains__" (He.ma G.K (He.ga G.K "Book") "__contains__") := He.meth_ok (T.a.fact 100 (f := .meth "Book" "__contains__"))
theorem Txt.h_Book_eq (T : Txt G) : Meth G.K (He.ga G.K "Book") "__eq__" (He.ma G.K (He.ga G.K "Book") "__eq__") := He.meth_ok (T.a.fact 101 (f := .meth "Book" "__eq__"))
theorem Txt.h_Book_add_cell (T : Txt G) : Meth G.K (He.ga G.K "Book") "add_cell" (He.ma G.K (He.ga G.K "Book") "add_cell") := He.meth_ok (T.a.fact 102 (f := .meth "Book" "add_cell"))
theorem Txt.h_Body_len (T : Txt G) : Meth G.K (He.ga G.K "Body") "__len__" (He.ma G.K (He.ga G.K "Body") "__len__") := He.meth_ok (T.a.fact 103 (f := .meth "Body" "__len__"))
theorem Txt.x_BadName (T : Txt G) : PySem.W.exmOne G.K (.ref (He.ga G.K "BadName")) (.ref (He.ga G.K "DeedError")) = some true := He.exm_ok (T.a.fact 104 (f := .exm "BadName" "DeedError" true))
theorem Txt.x_BadNumber (T : Txt G) : PySem.W.exmOne G.K (.ref (He.ga G.K "BadNumber")) (.ref (He.ga G.K "DeedError")) = some true := He.exm_ok (T.a.fact 105 (f := .exm "BadNumber" "DeedError" true))
theorem Txt.x_BadKind (T : Txt G) : PySem.W.exmOne G.K (.ref (He.ga G.K "BadKind")) (.ref (He.ga G.K "DeedError")) = some true := He.exm_ok (T.a.fact 106 (f := .exm "BadKind" "DeedError" true))
theorem Txt.x_BadAction (T : Txt G) : PySem.W.exmOne G.K (.ref (He.ga G.K "BadAction")) (.ref (He.ga G.K "DeedError")) = some true := He.exm_ok (T.a.fact 107 (f := .exm "BadAction" "DeedError" true))
theorem Txt.x_BadStatement (T : Txt G) : PySem.W.exmOne G.K (.ref (He.ga G.K "BadStatement")) (.ref (He.ga G.K "DeedError")) = some true := He.exm_ok (T.a.fact 108 (f := .exm "BadStatement" "DeedError" true))
theorem Txt.x_UnknownStep (T : Txt G) : PySem.W.exmOne G.K (.ref (He.ga G.K "UnknownStep")) (.ref (He.ga G.K "DeedError")) = some true := He.exm_ok (T.a.fact 109 (f := .exm "UnknownStep" "DeedError" true))
theorem Txt.x_UnknownCell (T : Txt G) : PySem.W.exmOne G.K (.ref (He.ga G.K "UnknownCell")) (.ref (He.ga G.K "DeedError")) = some true := He.exm_ok (T.a.fact 110 (f := .exm "UnknownCell" "DeedError" true))
theorem Txt.x_TooLarge (T : Txt G) : PySem.W.exmOne G.K (.ref (He.ga G.K "TooLarge")) (.ref (He.ga G.K "DeedError")) = some true := He.exm_ok (T.a.fact 111 (f := .exm "TooLarge" "DeedError" true))
theorem Txt.x_Clash (T : Txt G) : PySem.W.exmOne G.K (.ref (He.ga G.K "Clash")) (.ref (He.ga G.K "DeedError")) = some true := He.exm_ok (T.a.fact 112 (f := .exm "Clash" "DeedError" true))
theorem Txt.o_BadName (T : Txt G) : OexC G.K (He.ga G.K "BadName") := oexB_ok (T.more 0 (f := fun K => oexB K (He.ga K "BadName")))
theorem Txt.q_BadName (T : Txt G) : ExcC G.K (He.ga G.K "BadName") := xinB_ok (T.more 1 (f := fun K => xinB K (He.ga K "BadName")))
theorem Txt.j_BadName (T : Txt G) : XIni G.K (He.ga G.K "BadName") "name" := initB_ok (T.more 2 (f := fun K => initB K (He.ga K "BadName") "name"))
theorem Txt.o_BadNumber (T : Txt G) : OexC G.K (He.ga G.K "BadNumber") := oexB_ok (T.more 3 (f := fun K => oexB K (He.ga K "BadNumber")))
theorem Txt.q_BadNumber (T : Txt G) : ExcC G.K (He.ga G.K "BadNumber") := xinB_ok (T.more 4 (f := fun K => xinB K (He.ga K "BadNumber")))
theorem Txt.j_BadNumber (T : Txt G) : XIni G.K (He.ga G.K "BadNumber") "number" := initB_ok (T.more 5 (f := fun K => initB K (He.ga K "BadNumber") "number"))
theorem Txt.o_BadKind (T : Txt G) : OexC G.K (He.ga G.K "BadKind") := oexB_ok (T.more 6 (f := fun K => oexB K (He.ga K "BadKind")))
theorem Txt.q_BadKind (T : Txt G) : ExcC G.K (He.ga G.K "BadKind") := xinB_ok (T.more 7 (f := fun K => xinB K (He.ga K "BadKind")))
theorem Txt.j_BadKind (T : Txt G) : XIni G.K (He.ga G.K "BadKind") "kind" := initB_ok (T.more 8 (f := fun K => initB K (He.ga K "BadKind") "kind"))
theorem Txt.o_BadAction (T : Txt G) : OexC G.K (He.ga G.K "BadAction") := oexB_ok (T.more 9 (f := fun K => oexB K (He.ga K "BadAction")))
theorem Txt.q_BadAction (T : Txt G) : ExcC G.K (He.ga G.K "BadAction") := xinB_ok (T.more 10 (f := fun K => xinB K (He.ga K "BadAction")))
theorem Txt.j_BadAction (T : Txt G) : XIni G.K (He.ga G.K "BadAction") "action" := initB_ok (T.more 11 (f := fun K => initB K (He.ga K "BadAction") "action"))
theorem Txt.o_BadStatement (T : Txt G) : OexC G.K (He.ga G.K "BadStatement") := oexB_ok (T.more 12 (f := fun K => oexB K (He.ga K "BadStatement")))
theorem Txt.q_BadStatement (T : Txt G) : ExcC G.K (He.ga G.K "BadStatement") := xinB_ok (T.more 13 (f := fun K => xinB K (He.ga K "BadStatement")))
theorem Txt.j_BadStatement (T : Txt G) : XIni G.K (He.ga G.K "BadStatement") "statement" := initB_ok (T.more 14 (f := fun K => initB K (He.ga K "BadStatement") "statement"))
theorem Txt.o_UnknownStep (T : Txt G) : OexC G.K (He.ga G.K "UnknownStep") := oexB_ok (T.more 15 (f := fun K => oexB K (He.ga K "UnknownStep")))
theorem Txt.q_UnknownStep (T : Txt G) : ExcC G.K (He.ga G.K "UnknownStep") := xinB_ok (T.more 16 (f := fun K => xinB K (He.ga K "UnknownStep")))
theorem Txt.j_UnknownStep (T : Txt G) : XIni G.K (He.ga G.K "UnknownStep") "step" := initB_ok (T.more 17 (f := fun K => initB K (He.ga K "UnknownStep") "step"))
theorem Txt.o_UnknownCell (T : Txt G) : OexC G.K (He.ga G.K "UnknownCell") := oexB_ok (T.more 18 (f := fun K => oexB K (He.ga K "UnknownCell")))
theorem Txt.q_UnknownCell (T : Txt G) : ExcC G.K (He.ga G.K "UnknownCell") := xinB_ok (T.more 19 (f := fun K => xinB K (He.ga K "UnknownCell")))
theorem Txt.j_UnknownCell (T : Txt G) : XIni G.K (He.ga G.K "UnknownCell") "cell" := initB_ok (T.more 20 (f := fun K => initB K (He.ga K "UnknownCell") "cell"))
theorem Txt.o_TooLarge (T : Txt G) : OexC G.K (He.ga G.K "TooLarge") := oexB_ok (T.more 21 (f := fun K => oexB K (He.ga K "TooLarge")))
theorem Txt.q_TooLarge (T : Txt G) : ExcC G.K (He.ga G.K "TooLarge") := xinB_ok (T.more 22 (f := fun K => xinB K (He.ga K "TooLarge")))
theorem Txt.j_TooLarge (T : Txt G) : XIni G.K (He.ga G.K "TooLarge") "most" := initB_ok (T.more 23 (f := fun K => initB K (He.ga K "TooLarge") "most"))
theorem Txt.o_Clash (T : Txt G) : OexC G.K (He.ga G.K "Clash") := oexB_ok (T.more 24 (f := fun K => oexB K (He.ga K "Clash")))
theorem Txt.q_Clash (T : Txt G) : ExcC G.K (He.ga G.K "Clash") := xinB_ok (T.more 25 (f := fun K => xinB K (He.ga K "Clash")))
theorem Txt.j_Clash (T : Txt G) : XIni G.K (He.ga G.K "Clash") "name" := initB_ok (T.more 26 (f := fun K => initB K (He.ga K "Clash") "name"))
theorem Txt.deed (T : Txt G) : ClX.CRead G.K (He.ga G.K "DeedError") (.type "type") ∧ PySem.W.findCls G.K (.ref (He.ga G.K "DeedError")) (.type "type") "__init__" = some (.val (.builtin "ValueError.__init__")) := deedB_ok (T.more 27 (f := fun K => deedB K (He.ga K "DeedError")))
theorem Txt.k_Book_STEPS (T : Txt G) : ClX.CRead G.K (He.ga G.K "Book") (.type "type") ∧ ∃ u, ClX.CVal G.K (He.ga G.K "Book") (.type "type") "STEPS" (.int 12) u := conI_ok (T.more 28 (f := fun K => conI K (He.ga K "Book") "STEPS" 12))
theorem Txt.k_Book_CELLS (T : Txt G) : ClX.CRead G.K (He.ga G.K "Book") (.type "type") ∧ ∃ u, ClX.CVal G.K (He.ga G.K "Book") (.type "type") "CELLS" (.int 2) u := conI_ok (T.more 29 (f := fun K => conI K (He.ga K "Book") "CELLS" 2))
theorem Txt.k_Body_STATEMENTS (T : Txt G) : ClX.CRead G.K (He.ga G.K "Body") (.type "type") ∧ ∃ u, ClX.CVal G.K (He.ga G.K "Body") (.type "type") "STATEMENTS" (.int 24) u := conI_ok (T.more 30 (f := fun K => conI K (He.ga K "Body") "STATEMENTS" 24))
theorem Txt.k_Body_SIZE (T : Txt G) : ClX.CRead G.K (He.ga G.K "Body") (.type "type") ∧ ∃ u, ClX.CVal G.K (He.ga G.K "Body") (.type "type") "SIZE" (.int 120) u := conI_ok (T.more 31 (f := fun K => conI K (He.ga K "Body") "SIZE" 120))
theorem Txt.p_Book_cells (T : Txt G) : PropOf G.K (He.ga G.K "Book") "cells" (He.ma G.K (He.ga G.K "Book") "cells") (pg G.K "Book" "cells") := propB_ok (T.more 32 (f := fun K => propB K (He.ga K "Book") "cells"))
theorem Txt.p_Book_stores (T : Txt G) : PropOf G.K (He.ga G.K "Book") "stores" (He.ma G.K (He.ga G.K "Book") "stores") (pg G.K "Book" "stores") := propB_ok (T.more 33 (f := fun K => propB K (He.ga K "Book") "stores"))
theorem Txt.w_Book (T : Txt G) : InsC G.K (He.ga G.K "Book") := insB_ok (T.more 34 (f := fun K => insB K (He.ga K "Book")))
theorem Txt.w_Body (T : Txt G) : InsC G.K (He.ga G.K "Body") := insB_ok (T.more 35 (f := fun K => insB K (He.ga K "Body")))
theorem Txt.z_BadAction_BadAction (T : Txt G) : PySem.W.kitOne G.K (.ref (He.ga G.K "BadAction")) (.ref (He.ga G.K "BadAction")) = some true := of_decide_eq_true (T.more 36 (f := fun K => kitD K (.ref (He.ga K "BadAction")) (.ref (He.ga K "BadAction")) true))
theorem Txt.z_BadAction_BadKind (T : Txt G) : PySem.W.kitOne G.K (.ref (He.ga G.K "BadAction")) (.ref (He.ga G.K "BadKind")) = some false := of_decide_eq_true (T.more 37 (f := fun K => kitD K (.ref (He.ga K "BadAction")) (.ref (He.ga K "BadKind")) false))
theorem Txt.z_BadAction_BadName (T : Txt G) : PySem.W.kitOne G.K (.ref (He.ga G.K "BadAction")) (.ref (He.ga G.K "BadName")) = some false := of_decide_eq_true (T.more 38 (f := fun K => kitD K (.ref (He.ga K "BadAction")) (.ref (He.ga K "BadName")) false))
theorem Txt.z_BadAction_BadNumber (T : Txt G) : PySem.W.kitOne G.K (.ref (He.ga G.K "BadAction")) (.ref (He.ga G.K "BadNumber")) = some false := of_decide_eq_true (T.more 39 (f := fun K => kitD K (.ref (He.ga K "BadAction")) (.ref (He.ga K "BadNumber")) false))
theorem Txt.z_BadAction_BadStatement (T : Txt G) : PySem.W.kitOne G.K (.ref (He.ga G.K "BadAction")) (.ref (He.ga G.K "BadStatement")) = some false := of_decide_eq_true (T.more 40 (f := fun K => kitD K (.ref (He.ga K "BadAction")) (.ref (He.ga K "BadStatement")) false))
theorem Txt.z_BadAction_TooLarge (T : Txt G) : PySem.W.kitOne G.K (.ref (He.ga G.K "BadAction")) (.ref (He.ga G.K "TooLarge")) = some false := of_decide_eq_true (T.more 41 (f := fun K => kitD K (.ref (He.ga K "BadAction")) (.ref (He.ga K "TooLarge")) false))
theorem Txt.z_BadAction_UnknownCell (T : Txt G) : PySem.W.kitOne G.K (.ref (He.ga G.K "BadAction")) (.ref (He.ga G.K "UnknownCell")) = some false := of_decide_eq_true (T.more 42 (f := fun K => kitD K (.ref (He.ga K "BadAction")) (.ref (He.ga K "UnknownCell")) false))
theorem Txt.z_BadAction_UnknownStep (T : Txt G) : PySem.W.kitOne G.K (.ref (He.ga G.K "BadAction")) (.ref (He.ga G.K "UnknownStep")) = some false := of_decide_eq_true (T.more 43 (f := fun K => kitD K (.ref (He.ga K "BadAction")) (.ref (He.ga K "UnknownStep")) false))
theorem Txt.z_BadAction_DeedError (T : Txt G) : PySem.W.kitOne G.K (.ref (He.ga G.K "BadAction")) (.ref (He.ga G.K "DeedError")) = some true := of_decide_eq_true (T.more 44 (f := fun K => kitD K (.ref (He.ga K "BadAction")) (.ref (He.ga K "DeedError")) true))
theorem Txt.z_BadAction_ValueError (T : Txt G) : PySem.W.kitOne G.K (.ref (He.ga G.K "BadAction")) (.type "ValueError") = some true := of_decide_eq_true (T.more 45 (f := fun K => kitD K (.ref (He.ga K "BadAction")) (.type "ValueError") true))
theorem Txt.z_BadKind_BadAction (T : Txt G) : PySem.W.kitOne G.K (.ref (He.ga G.K "BadKind")) (.ref (He.ga G.K "BadAction")) = some false := of_decide_eq_true (T.more 46 (f := fun K => kitD K (.ref (He.ga K "BadKind")) (.ref (He.ga K "BadAction")) false))
theorem Txt.z_BadKind_BadKind (T : Txt G) : PySem.W.kitOne G.K (.ref (He.ga G.K "BadKind")) (.ref (He.ga G.K "BadKind")) = some true := of_decide_eq_true (T.more 47 (f := fun K => kitD K (.ref (He.ga K "BadKind")) (.ref (He.ga K "BadKind")) true))
theorem Txt.z_BadKind_BadName (T : Txt G) : PySem.W.kitOne G.K (.ref (He.ga G.K "BadKind")) (.ref (He.ga G.K "BadName")) = some false := of_decide_eq_true (T.more 48 (f := fun K => kitD K (.ref (He.ga K "BadKind")) (.ref (He.ga K "BadName")) false))
theorem Txt.z_BadKind_BadNumber (T : Txt G) : PySem.W.kitOne G.K (.ref (He.ga G.K "BadKind")) (.ref (He.ga G.K "BadNumber")) = some false := of_decide_eq_true (T.more 49 (f := fun K => kitD K (.ref (He.ga K "BadKind")) (.ref (He.ga K "BadNumber")) false))
theorem Txt.z_BadKind_BadStatement (T : Txt G) : PySem.W.kitOne G.K (.ref (He.ga G.K "BadKind")) (.ref (He.ga G.K "BadStatement")) = some false := of_decide_eq_true (T.more 50 (f := fun K => kitD K (.ref (He.ga K "BadKind")) (.ref (He.ga K "BadStatement")) false))
theorem Txt.z_BadKind_TooLarge (T : Txt G) : PySem.W.kitOne G.K (.ref (He.ga G.K "BadKind")) (.ref (He.ga G.K "TooLarge")) = some false := of_decide_eq_true (T.more 51 (f := fun K => kitD K (.ref (He.ga K "BadKind")) (.ref (He.ga K "TooLarge")) false))
theorem Txt.z_BadKind_UnknownCell (T : Txt G) : PySem.W.kitOne G.K (.ref (He.ga G.K "BadKind")) (.ref (He.ga G.K "UnknownCell")) = some false := of_decide_eq_true (T.more 52 (f := fun K => kitD K (.ref (He.ga K "BadKind")) (.ref (He.ga K "UnknownCell")) false))
theorem Txt.z_BadKind_UnknownStep (T : Txt G) : PySem.W.kitOne G.K (.ref (He.ga G.K "BadKind")) (.ref (He.ga G.K "UnknownStep")) = some false := of_decide_eq_true (T.more 53 (f := fun K => kitD K (.ref (He.ga K "BadKind")) (.ref (He.ga K "UnknownStep")) false))
theorem Txt.z_BadKind_DeedError (T : Txt G) : PySem.W.kitOne G.K (.ref (He.ga G.K "BadKind")) (.ref (He.ga G.K "DeedError")) = some true := of_decide_eq_true (T.more 54 (f := fun K => kitD K (.ref (He.ga K "BadKind")) (.ref (He.ga K "DeedError")) true))
theorem Txt.z_BadKind_ValueError (T : Txt G) : PySem.W.kitOne G.K (.ref (He.ga G.K "BadKind")) (.type "ValueError") = some true := of_decide_eq_true (T.more 55 (f := fun K => kitD K (.ref (He.ga K "BadKind")) (.type "ValueError") true))
theorem Txt.z_BadName_BadAction (T : Txt G) : PySem.W.kitOne G.K (.ref (He.ga G.K "BadName")) (.ref (He.ga G.K "BadAction")) = some false := of_decide_eq_true (T.more 56 (f := fun K => kitD K (.ref (He.ga K "BadName")) (.ref (He.ga K "BadAction")) false))
theorem Txt.z_BadName_BadKind (T : Txt G) : PySem.W.kitOne G.K (.ref (He.ga G.K "BadName")) (.ref (He.ga G.K "BadKind")) = some false := of_decide_eq_true (T.more 57 (f := fun K => kitD K (.ref (He.ga K "BadName")) (.ref (He.ga K "BadKind")) false))
theorem Txt.z_BadName_BadName (T : Txt G) : PySem.W.kitOne G.K (.ref (He.ga G.K "BadName")) (.ref (He.ga G.K "BadName")) = some true := of_decide_eq_true (T.more 58 (f := fun K => kitD K (.ref (He.ga K "BadName")) (.ref (He.ga K "BadName")) true))
theorem Txt.z_BadName_BadNumber (T : Txt G) : PySem.W.kitOne G.K (.ref (He.ga G.K "BadName")) (.ref (He.ga G.K "BadNumber")) = some false := of_decide_eq_true (T.more 59 (f := fun K => kitD K (.ref (He.ga K "BadName")) (.ref (He.ga K "BadNumber")) false))
theorem Txt.z_BadName_BadStatement (T : Txt G) : PySem.W.kitOne G.K (.ref (He.ga G.K "BadName")) (.ref (He.ga G.K "BadStatement")) = some false := of_decide_eq_true (T.more 60 (f := fun K => kitD K (.ref (He.ga K "BadName")) (.ref (He.ga K "BadStatement")) false))
theorem Txt.z_BadName_TooLarge (T : Txt G) : PySem.W.kitOne G.K (.ref (He.ga G.K "BadName")) (.ref (He.ga G.K "TooLarge")) = some false := of_decide_eq_true (T.more 61 (f := fun K => kitD K (.ref (He.ga K "BadName")) (.ref (He.ga K "TooLarge")) false))
theorem Txt.z_BadName_UnknownCell (T : Txt G) : PySem.W.kitOne G.K (.ref (He.ga G.K "BadName")) (.ref (He.ga G.K "UnknownCell")) = some false := of_decide_eq_true (T.more 62 (f := fun K => kitD K (.ref (He.ga K "BadName")) (.ref (He.ga K "UnknownCell")) false))
theorem Txt.z_BadName_UnknownStep (T : Txt G) : PySem.W.kitOne G.K (.ref (He.ga G.K "BadName")) (.ref (He.ga G.K "UnknownStep")) = some false := of_decide_eq_true (T.more 63 (f := fun K => kitD K (.ref (He.ga K "BadName")) (.ref (He.ga K "UnknownStep")) false))
theorem Txt.z_BadName_DeedError (T : Txt G) : PySem.W.kitOne G.K (.ref (He.ga G.K "BadName")) (.ref (He.ga G.K "DeedError")) = some true := of_decide_eq_true (T.more 64 (f := fun K => kitD K (.ref (He.ga K "BadName")) (.ref (He.ga K "DeedError")) true))
theorem Txt.z_BadName_ValueError (T : Txt G) : PySem.W.kitOne G.K (.ref (He.ga G.K "BadName")) (.type "ValueError") = some true := of_decide_eq_true (T.more 65 (f := fun K => kitD K (.ref (He.ga K "BadName")) (.type "ValueError") true))
theorem Txt.z_BadNumber_BadAction (T : Txt G) : PySem.W.kitOne G.K (.ref (He.ga G.K "BadNumber")) (.ref (He.ga G.K "BadAction")) = some false := of_decide_eq_true (T.more 66 (f := fun K => kitD K (.ref (He.ga K "BadNumber")) (.ref (He.ga K "BadAction")) false))
theorem Txt.z_BadNumber_BadKind (T : Txt G) : PySem.W.kitOne G.K (.ref (He.ga G.K "BadNumber")) (.ref (He.ga G.K "BadKind")) = some false := of_decide_eq_true (T.more 67 (f := fun K => kitD K (.ref (He.ga K "BadNumber")) (.ref (He.ga K "BadKind")) false))
theorem Txt.z_BadNumber_BadName (T : Txt G) : PySem.W.kitOne G.K (.ref (He.ga G.K "BadNumber")) (.ref (He.ga G.K "BadName")) = some false := of_decide_eq_true (T.more 68 (f := fun K => kitD K (.ref (He.ga K "BadNumber")) (.ref (He.ga K "BadName")) false))
theorem Txt.z_BadNumber_BadNumber (T : Txt G) : PySem.W.kitOne G.K (.ref (He.ga G.K "BadNumber")) (.ref (He.ga G.K "BadNumber")) = some true := of_decide_eq_true (T.more 69 (f := fun K => kitD K (.ref (He.ga K "BadNumber")) (.ref (He.ga K "BadNumber")) true))
theorem Txt.z_BadNumber_BadStatement (T : Txt G) : PySem.W.kitOne G.K (.ref (He.ga G.K "BadNumber")) (.ref (He.ga G.K "BadStatement")) = some false := of_decide_eq_true (T.more 70 (f := fun K => kitD K (.ref (He.ga K "BadNumber")) (.ref (He.ga K "BadStatement")) false))
theorem Txt.z_BadNumber_TooLarge (T : Txt G) : PySem.W.kitOne G.K (.ref (He.ga G.K "BadNumber")) (.ref (He.ga G.K "TooLarge")) = some false := of_decide_eq_true (T.more 71 (f := fun K => kitD K (.ref (He.ga K "BadNumber")) (.ref (He.ga K "TooLarge")) false))
theorem Txt.z_BadNumber_UnknownCell (T : Txt G) : PySem.W.kitOne G.K (.ref (He.ga G.K "BadNumber")) (.ref (He.ga G.K "UnknownCell")) = some false := of_decide_eq_true (T.more 72 (f := fun K => kitD K (.ref (He.ga K "BadNumber")) (.ref (He.ga K "UnknownCell")) false))
theorem Txt.z_BadNumber_UnknownStep (T : Txt G) : PySem.W.kitOne G.K (.ref (He.ga G.K "BadNumber")) (.ref (He.ga G.K "UnknownStep")) = some false := of_decide_eq_true (T.more 73 (f := fun K => kitD K (.ref (He.ga K "BadNumber")) (.ref (He.ga K "UnknownStep")) false))
theorem Txt.z_BadNumber_DeedError (T : Txt G) : PySem.W.kitOne G.K (.ref (He.ga G.K "BadNumber")) (.ref (He.ga G.K "DeedError")) = some true := of_decide_eq_true (T.more 74 (f := fun K => kitD K (.ref (He.ga K "BadNumber")) (.ref (He.ga K "DeedError")) true))
theorem Txt.z_BadNumber_ValueError (T : Txt G) : PySem.W.kitOne G.K (.ref (He.ga G.K "BadNumber")) (.type "ValueError") = some true := of_decide_eq_true (T.more 75 (f := fun K => kitD K (.ref (He.ga K "BadNumber")) (.type "ValueError") true))
theorem Txt.z_BadStatement_BadAction (T : Txt G) : PySem.W.kitOne G.K (.ref (He.ga G.K "BadStatement")) (.ref (He.ga G.K "BadAction")) = some false := of_decide_eq_true (T.more 76 (f := fun K => kitD K (.ref (He.ga K "BadStatement")) (.ref (He.ga K "BadAction")) false))
theorem Txt.z_BadStatement_BadKind (T : Txt G) : PySem.W.kitOne G.K (.ref (He.ga G.K "BadStatement")) (.ref (He.ga G.K "BadKind")) = some false := of_decide_eq_true (T.more 77 (f := fun K => kitD K (.ref (He.ga K "BadStatement")) (.ref (He.ga K "BadKind")) false))
theorem Txt.z_BadStatement_BadName (T : Txt G) : PySem.W.kitOne G.K (.ref (He.ga G.K "BadStatement")) (.ref (He.ga G.K "BadName")) = some false := of_decide_eq_true (T.more 78 (f := fun K => kitD K (.ref (He.ga K "BadStatement")) (.ref (He.ga K "BadName")) false))
theorem Txt.z_BadStatement_BadNumber (T : Txt G) : PySem.W.kitOne G.K (.ref (He.ga G.K "BadStatement")) (.ref (He.ga G.K "BadNumber")) = some false := of_decide_eq_true (T.more 79 (f := fun K => kitD K (.ref (He.ga K "BadStatement")) (.ref (He.ga K "BadNumber")) false))
theorem Txt.z_BadStatement_BadStatement (T : Txt G) : PySem.W.kitOne G.K (.ref (He.ga G.K "BadStatement")) (.ref (He.ga G.K "BadStatement")) = some true := of_decide_eq_true (T.more 80 (f := fun K => kitD K (.ref (He.ga K "BadStatement")) (.ref (He.ga K "BadStatement")) true))
theorem Txt.z_BadStatement_TooLarge (T : Txt G) : PySem.W.kitOne G.K (.ref (He.ga G.K "BadStatement")) (.ref (He.ga G.K "TooLarge")) = some false := of_decide_eq_true (T.more 81 (f := fun K => kitD K (.ref (He.ga K "BadStatement")) (.ref (He.ga K "TooLarge")) false))
theorem Txt.z_BadStatement_UnknownCell (T : Txt G) : PySem.W.kitOne G.K (.ref (He.ga G.K "BadStatement")) (.ref (He.ga G.K "UnknownCell")) = some false := of_decide_eq_true (T.more 82 (f := fun K => kitD K (.ref (He.ga K "BadStatement")) (.ref (He.ga K "UnknownCell")) false))
theorem Txt.z_BadStatement_UnknownStep (T : Txt G) : PySem.W.kitOne G.K (.ref (He.ga G.K "BadStatement")) (.ref (He.ga G.K "UnknownStep")) = some false := of_decide_eq_true (T.more 83 (f := fun K => kitD K (.ref (He.ga K "BadStatement")) (.ref (He.ga K "UnknownStep")) false))
theorem Txt.z_BadStatement_DeedError (T : Txt G) : PySem.W.kitOne G.K (.ref (He.ga G.K "BadStatement")) (.ref (He.ga G.K "DeedError")) = some true := of_decide_eq_true (T.more 84 (f := fun K => kitD K (.ref (He.ga K "BadStatement")) (.ref (He.ga K "DeedError")) true))
theorem Txt.z_BadStatement_ValueError (T : Txt G) : PySem.W.kitOne G.K (.ref (He.ga G.K "BadStatement")) (.type "ValueError") = some true := of_decide_eq_true (T.more 85 (f := fun K => kitD K (.ref (He.ga K "BadStatement")) (.type "ValueError") true))
theorem Txt.z_TooLarge_BadAction (T : Txt G) : PySem.W.kitOne G.K (.ref (He.ga G.K "TooLarge")) (.ref (He.ga G.K "BadAction")) = some false := of_decide_eq_true (T.more 86 (f := fun K => kitD K (.ref (He.ga K "TooLarge")) (.ref (He.ga K "BadAction")) false))
theorem Txt.z_TooLarge_BadKind (T : Txt G) : PySem.W.kitOne G.K (.ref (He.ga G.K "TooLarge")) (.ref (He.ga G.K "BadKind")) = some false := of_decide_eq_true (T.more 87 (f := fun K => kitD K (.ref (He.ga K "TooLarge")) (.ref (He.ga K "BadKind")) false))
theorem Txt.z_TooLarge_BadName (T : Txt G) : PySem.W.kitOne G.K (.ref (He.ga G.K "TooLarge")) (.ref (He.ga G.K "BadName")) = some false := of_decide_eq_true (T.more 88 (f := fun K => kitD K (.ref (He.ga K "TooLarge")) (.ref (He.ga K "BadName")) false))
theorem Txt.z_TooLarge_BadNumber (T : Txt G) : PySem.W.kitOne G.K (.ref (He.ga G.K "TooLarge")) (.ref (He.ga G.K "BadNumber")) = some false := of_decide_eq_true (T.more 89 (f := fun K => kitD K (.ref (He.ga K "TooLarge")) (.ref (He.ga K "BadNumber")) false))
theorem Txt.z_TooLarge_BadStatement (T : Txt G) : PySem.W.kitOne G.K (.ref (He.ga G.K "TooLarge")) (.ref (He.ga G.K "BadStatement")) = some false := of_decide_eq_true (T.more 90 (f := fun K => kitD K (.ref (He.ga K "TooLarge")) (.ref (He.ga K "BadStatement")) false))
theorem Txt.z_TooLarge_TooLarge (T : Txt G) : PySem.W.kitOne G.K (.ref (He.ga G.K "TooLarge")) (.ref (He.ga G.K "TooLarge")) = some true := of_decide_eq_true (T.more 91 (f := fun K => kitD K (.ref (He.ga K "TooLarge")) (.ref (He.ga K "TooLarge")) true))
theorem Txt.z_TooLarge_UnknownCell (T : Txt G) : PySem.W.kitOne G.K (.ref (He.ga G.K "TooLarge")) (.ref (He.ga G.K "UnknownCell")) = some false := of_decide_eq_true (T.more 92 (f := fun K => kitD K (.ref (He.ga K "TooLarge")) (.ref (He.ga K "UnknownCell")) false))
theorem Txt.z_TooLarge_UnknownStep (T : Txt G) : PySem.W.kitOne G.K (.ref (He.ga G.K "TooLarge")) (.ref (He.ga G.K "UnknownStep")) = some false := of_decide_eq_true (T.more 93 (f := fun K => kitD K (.ref (He.ga K "TooLarge")) (.ref (He.ga K "UnknownStep")) false))
theorem Txt.z_TooLarge_DeedError (T : Txt G) : PySem.W.kitOne G.K (.ref (He.ga G.K "TooLarge")) (.ref (He.ga G.K "DeedError")) = some true := of_decide_eq_true (T.more 94 (f := fun K => kitD K (.ref (He.ga K "TooLarge")) (.ref (He.ga K "DeedError")) true))
theorem Txt.z_TooLarge_ValueError (T : Txt G) : PySem.W.kitOne G.K (.ref (He.ga G.K "TooLarge")) (.type "ValueError") = some true := of_decide_eq_true (T.more 95 (f := fun K => kitD K (.ref (He.ga K "TooLarge")) (.type "ValueError") true))
theorem Txt.z_UnknownCell_BadAction (T : Txt G) : PySem.W.kitOne G.K (.ref (He.ga G.K "UnknownCell")) (.ref (He.ga G.K "BadAction")) = some false := of_decide_eq_true (T.more 96 (f := fun K => kitD K (.ref (He.ga K "UnknownCell")) (.ref (He.ga K "BadAction")) false))
theorem Txt.z_UnknownCell_BadKind (T : Txt G) : PySem.W.kitOne G.K (.ref (He.ga G.K "UnknownCell")) (.ref (He.ga G.K "BadKind")) = some false := of_decide_eq_true (T.more 97 (f := fun K => kitD K (.ref (He.ga K "UnknownCell")) (.ref (He.ga K "BadKind")) false))
theorem Txt.z_UnknownCell_BadName (T : Txt G) : PySem.W.kitOne G.K (.ref (He.ga G.K "UnknownCell")) (.ref (He.ga G.K "BadName")) = some false := of_decide_eq_true (T.more 98 (f := fun K => kitD K (.ref (He.ga K "UnknownCell")) (.ref (He.ga K "BadName")) false))
theorem Txt.z_UnknownCell_BadNumber (T : Txt G) : PySem.W.kitOne G.K (.ref (He.ga G.K "UnknownCell")) (.ref (He.ga G.K "BadNumber")) = some false := of_decide_eq_true (T.more 99 (f := fun K => kitD K (.ref (He.ga K "UnknownCell")) (.ref (He.ga K "BadNumber")) false))
theorem Txt.z_UnknownCell_BadStatement (T : Txt G) : PySem.W.kitOne G.K (.ref (He.ga G.K "UnknownCell")) (.ref (He.ga G.K "BadStatement")) = some false := of_decide_eq_true (T.more 100 (f := fun K => kitD K (.ref (He.ga K "UnknownCell")) (.ref (He.ga K "BadStatement")) false))
theorem Txt.z_UnknownCell_TooLarge (T : Txt G) : PySem.W.kitOne G.K (.ref (He.ga G.K "UnknownCell")) (.ref (He.ga G.K "TooLarge")) = some false := of_decide_eq_true (T.more 101 (f := fun K => kitD K (.ref (He.ga K "UnknownCell")) (.ref (He.ga K "TooLarge")) false))
theorem Txt.z_UnknownCell_UnknownCell (T : Txt G) : PySem.W.kitOne G.K (.ref (He.ga G.K "UnknownCell")) (.ref (He.ga G.K "UnknownCell")) = some true := of_decide_eq_true (T.more 102 (f := fun K => kitD K (.ref (He.ga K "UnknownCell")) (.ref (He.ga K "UnknownCell")) true))
theorem Txt.z_UnknownCell_UnknownStep (T : Txt G) : PySem.W.kitOne G.K (.ref (He.ga G.K "UnknownCell")) (.ref (He.ga G.K "UnknownStep")) = some false := of_decide_eq_true (T.more 103 (f := fun K => kitD K (.ref (He.ga K "UnknownCell")) (.ref (He.ga K "UnknownStep")) false))
theorem Txt.z_UnknownCell_DeedError (T : Txt G) : PySem.W.kitOne G.K (.ref (He.ga G.K "UnknownCell")) (.ref (He.ga G.K "DeedError")) = some true := of_decide_eq_true (T.more 104 (f := fun K => kitD K (.ref (He.ga K "UnknownCell")) (.ref (He.ga K "DeedError")) true))
theorem Txt.z_UnknownCell_ValueError (T : Txt G) : PySem.W.kitOne G.K (.ref (He.ga G.K "UnknownCell")) (.type "ValueError") = some true := of_decide_eq_true (T.more 105 (f := fun K => kitD K (.ref (He.ga K "UnknownCell")) (.type "ValueError") true))
theorem Txt.z_UnknownStep_BadAction (T : Txt G) : PySem.W.kitOne G.K (.ref (He.ga G.K "UnknownStep")) (.ref (He.ga G.K "BadAction")) = some false := of_decide_eq_true (T.more 106 (f := fun K => kitD K (.ref (He.ga K "UnknownStep")) (.ref (He.ga K "BadAction")) false))
theorem Txt.z_UnknownStep_BadKind (T : Txt G) : PySem.W.kitOne G.K (.ref (He.ga G.K "UnknownStep")) (.ref (He.ga G.K "BadKind")) = some false := of_decide_eq_true (T.more 107 (f := fun K => kitD K (.ref (He.ga K "UnknownStep")) (.ref (He.ga K "BadKind")) false))
theorem Txt.z_UnknownStep_BadName (T : Txt G) : PySem.W.kitOne G.K (.ref (He.ga G.K "UnknownStep")) (.ref (He.ga G.K "BadName")) = some false := of_decide_eq_true (T.more 108 (f := fun K => kitD K (.ref (He.ga K "UnknownStep")) (.ref (He.ga K "BadName")) false))
theorem Txt.z_UnknownStep_BadNumber (T : Txt G) : PySem.W.kitOne G.K (.ref (He.ga G.K "UnknownStep")) (.ref (He.ga G.K "BadNumber")) = some false := of_decide_eq_true (T.more 109 (f := fun K => kitD K (.ref (He.ga K "UnknownStep")) (.ref (He.ga K "BadNumber")) false))
theorem Txt.z_UnknownStep_BadStatement (T : Txt G) : PySem.W.kitOne G.K (.ref (He.ga G.K "UnknownStep")) (.ref (He.ga G.K "BadStatement")) = some false := of_decide_eq_true (T.more 110 (f := fun K => kitD K (.ref (He.ga K "UnknownStep")) (.ref (He.ga K "BadStatement")) false))
theorem Txt.z_UnknownStep_TooLarge (T : Txt G) : PySem.W.kitOne G.K (.ref (He.ga G.K "UnknownStep")) (.ref (He.ga G.K "TooLarge")) = some false := of_decide_eq_true (T.more 111 (f := fun K => kitD K (.ref (He.ga K "UnknownStep")) (.ref (He.ga K "TooLarge")) false))
theorem Txt.z_UnknownStep_UnknownCell (T : Txt G) : PySem.W.kitOne G.K (.ref (He.ga G.K "UnknownStep")) (.ref (He.ga G.K "UnknownCell")) = some false := of_decide_eq_true (T.more 112 (f := fun K => kitD K (.ref (He.ga K "UnknownStep")) (.ref (He.ga K "UnknownCell")) false))
theorem Txt.z_UnknownStep_UnknownStep (T : Txt G) : PySem.W.kitOne G.K (.ref (He.ga G.K "UnknownStep")) (.ref (He.ga G.K "UnknownStep")) = some true := of_decide_eq_true (T.more 113 (f := fun K => kitD K (.ref (He.ga K "UnknownStep")) (.ref (He.ga K "UnknownStep")) true))
theorem Txt.z_UnknownStep_DeedError (T : Txt G) : PySem.W.kitOne G.K (.ref (He.ga G.K "UnknownStep")) (.ref (He.ga G.K "DeedError")) = some true := of_decide_eq_true (T.more 114 (f := fun K => kitD K (.ref (He.ga K "UnknownStep")) (.ref (He.ga K "DeedError")) true))
theorem Txt.z_UnknownStep_ValueError (T : Txt G) : PySem.W.kitOne G.K (.ref (He.ga G.K "UnknownStep")) (.type "ValueError") = some true := of_decide_eq_true (T.more 115 (f := fun K => kitD K (.ref (He.ga K "UnknownStep")) (.type "ValueError") true))
theorem Txt.z_Book (T : Txt G) : PySem.W.kitOne G.K (.ref (He.ga G.K "Book")) (.ref (He.ga G.K "Book")) = some true := of_decide_eq_true (T.more 116 (f := fun K => kitD K (.ref (He.ga K "Book")) (.ref (He.ga K "Book")) true))
theorem Txt.z_Body (T : Txt G) : PySem.W.kitOne G.K (.ref (He.ga G.K "Body")) (.ref (He.ga G.K "Body")) = some true := of_decide_eq_true (T.more 117 (f := fun K => kitD K (.ref (He.ga K "Body")) (.ref (He.ga K "Body")) true))
theorem Txt.l_NUMBERED (T : Txt G) : He.tupB G.K "NUMBERED" [.str "answer", .str "heal"] = true := id (T.more 118 (f := fun K => He.tupB K "NUMBERED" [.str "answer", .str "heal"]))
theorem Txt.l_NAMED (T : Txt G) : He.tupB G.K "NAMED" [.str "jump", .str "swap"] = true := id (T.more 119 (f := fun K => He.tupB K "NAMED" [.str "jump", .str "swap"]))
theorem Txt.l_GUARDS (T : Txt G) : He.tupB G.K "GUARDS" [.str "done", .str "error", .str "always"] = true := id (T.more 120 (f := fun K => He.tupB K "GUARDS" [.str "done", .str "error", .str "always"]))
theorem Txt.l_READS (T : Txt G) : He.tupB G.K "READS" [.str "now", .str "late"] = true := id (T.more 121 (f := fun K => He.tupB K "READS" [.str "now", .str "late"]))
theorem Txt.d_0 (T : Txt G) : tupE G.K (He.dflAt ("Book", some "__init__") 0 G.K) = true := id (T.more 122 (f := fun K => tupE K (He.dflAt ("Book", some "__init__") 0 K)))
theorem Txt.d_1 (T : Txt G) : tupE G.K (He.dflAt ("Book", some "__init__") 1 G.K) = true := id (T.more 123 (f := fun K => tupE K (He.dflAt ("Book", some "__init__") 1 K)))
theorem Txt.lens (T : Txt G) : He.valsB G.K (He.ga G.K "LENGTHS") [("do", .int 3), ("put", .int 2), ("set", .int 3), ("if", .int 4), ("while", .int 3), ("when", .int 5), ("return", .int 2), ("leave", .int 2), ("raise", .int 2)] = true := id (T.more 124 (f := fun K => He.valsB K (He.ga K "LENGTHS") [("do", .int 3), ("put", .int 2), ("set", .int 3), ("if", .int 4), ("while", .int 3), ("when", .int 5), ("return", .int 2), ("leave", .int 2), ("raise", .int 2)]))
theorem Txt.own_setitem (T : Txt G) : PySem.W.noSeq G.K (He.ga G.K "Book") = true := id (T.more 125 (f := fun K => PySem.W.noSeq K (He.ga K "Book")))
theorem Txt.f_is_name (T : Txt G) : ∃ fd, FunD G.K "is_name" "is_name" (defArgs s_is_name) (defBody s_is_name) (defScope s_is_name) [] [] (He.ga G.K "is_name") fd := T.a.def_ 0 (d := d_is_name) rfl
theorem Txt.f_check_name (T : Txt G) : ∃ fd, FunD G.K "check_name" "check_name" (defArgs s_check_name) (defBody s_check_name) (defScope s_check_name) [] [] (He.ga G.K "check_name") fd := T.a.def_ 1 (d := d_check_name) rfl
theorem Txt.f_check_number (T : Txt G) : ∃ fd, FunD G.K "check_number" "check_number" (defArgs s_check_number) (defBody s_check_number) (defScope s_check_number) [] [] (He.ga G.K "check_number") fd := T.a.def_ 2 (d := d_check_number) rfl
theorem Txt.f_check_kind (T : Txt G) : ∃ fd, FunD G.K "check_kind" "check_kind" (defArgs s_check_kind) (defBody s_check_kind) (defScope s_check_kind) [] [] (He.ga G.K "check_kind") fd := T.a.def_ 3 (d := d_check_kind) rfl
theorem Txt.f_copied (T : Txt G) : ∃ fd, FunD G.K "copied" "copied" (defArgs s_copied) (defBody s_copied) (defScope s_copied) [] [] (He.ga G.K "copied") fd := T.a.def_ 4 (d := d_copied) rfl
theorem Txt.f_cell_names (T : Txt G) : ∃ fd, FunD G.K "cell_names" "cell_names" (defArgs s_cell_names) (defBody s_cell_names) (defScope s_cell_names) [] [] (He.ga G.K "cell_names") fd := T.a.def_ 5 (d := d_cell_names) rfl
theorem Txt.f_check_argument (T : Txt G) : ∃ fd, FunD G.K "check_argument" "check_argument" (defArgs s_check_argument) (defBody s_check_argument) (defScope s_check_argument) [] [] (He.ga G.K "check_argument") fd := T.a.def_ 6 (d := d_check_argument) rfl
theorem Txt.f_check_at (T : Txt G) : ∃ fd, FunD G.K "check_at" "check_at" (defArgs s_check_at) (defBody s_check_at) (defScope s_check_at) [] [] (He.ga G.K "check_at") fd := T.a.def_ 7 (d := d_check_at) rfl
theorem Txt.f_check_action (T : Txt G) : ∃ fd, FunD G.K "check_action" "check_action" (defArgs s_check_action) (defBody s_check_action) (defScope s_check_action) [] [] (He.ga G.K "check_action") fd := T.a.def_ 8 (d := d_check_action) rfl
theorem Txt.f_blocks_of (T : Txt G) : ∃ fd, FunD G.K "blocks_of" "blocks_of" (defArgs s_blocks_of) (defBody s_blocks_of) (defScope s_blocks_of) [] [] (He.ga G.K "blocks_of") fd := T.a.def_ 9 (d := d_blocks_of) rfl
theorem Txt.f_check_now (T : Txt G) : ∃ fd, FunD G.K "check_now" "check_now" (defArgs s_check_now) (defBody s_check_now) (defScope s_check_now) [] [] (He.ga G.K "check_now") fd := T.a.def_ 10 (d := d_check_now) rfl
theorem Txt.f_check_cell (T : Txt G) : ∃ fd, FunD G.K "check_cell" "check_cell" (defArgs s_check_cell) (defBody s_check_cell) (defScope s_check_cell) [] [] (He.ga G.K "check_cell") fd := T.a.def_ 11 (d := d_check_cell) rfl
theorem Txt.f_check_parts (T : Txt G) : ∃ fd, FunD G.K "check_parts" "check_parts" (defArgs s_check_parts) (defBody s_check_parts) (defScope s_check_parts) [] [] (He.ga G.K "check_parts") fd := T.a.def_ 12 (d := d_check_parts) rfl
theorem Txt.f_check_all (T : Txt G) : ∃ fd, FunD G.K "check_all" "check_all" (defArgs s_check_all) (defBody s_check_all) (defScope s_check_all) [] [] (He.ga G.K "check_all") fd := T.a.def_ 13 (d := d_check_all) rfl
theorem Txt.f_in_order (T : Txt G) : ∃ fd, FunD G.K "in_order" "in_order" (defArgs s_in_order) (defBody s_in_order) (defScope s_in_order) [] [] (He.ga G.K "in_order") fd := T.a.def_ 14 (d := d_in_order) rfl
theorem Txt.f__law_pool (T : Txt G) : ∃ fd, FunD G.K "_law_pool" "_law_pool" (defArgs s__law_pool) (defBody s__law_pool) (defScope s__law_pool) [] [] (He.ga G.K "_law_pool") fd := T.a.def_ 15 (d := d__law_pool) rfl
theorem Txt.f__law_mixed (T : Txt G) : ∃ fd, FunD G.K "_law_mixed" "_law_mixed" (defArgs s__law_mixed) (defBody s__law_mixed) (defScope s__law_mixed) [] [] (He.ga G.K "_law_mixed") fd := T.a.def_ 16 (d := d__law_mixed) rfl
theorem Txt.f__law_draw (T : Txt G) : ∃ fd, FunD G.K "_law_draw" "_law_draw" (defArgs s__law_draw) (defBody s__law_draw) (defScope s__law_draw) [] [] (He.ga G.K "_law_draw") fd := T.a.def_ 17 (d := d__law_draw) rfl
theorem Txt.f__law_rest (T : Txt G) : ∃ fd, FunD G.K "_law_rest" "_law_rest" (defArgs s__law_rest) (defBody s__law_rest) (defScope s__law_rest) [] [] (He.ga G.K "_law_rest") fd := T.a.def_ 18 (d := d__law_rest) rfl
theorem Txt.f__law_letters (T : Txt G) : ∃ fd, FunD G.K "_law_letters" "_law_letters" (defArgs s__law_letters) (defBody s__law_letters) (defScope s__law_letters) [] [] (He.ga G.K "_law_letters") fd := T.a.def_ 19 (d := d__law_letters) rfl
theorem Txt.f__law_name (T : Txt G) : ∃ fd, FunD G.K "_law_name" "_law_name" (defArgs s__law_name) (defBody s__law_name) (defScope s__law_name) [] [] (He.ga G.K "_law_name") fd := T.a.def_ 20 (d := d__law_name) rfl
theorem Txt.f__law_fresh (T : Txt G) : ∃ fd, FunD G.K "_law_fresh" "_law_fresh" (defArgs s__law_fresh) (defBody s__law_fresh) (defScope s__law_fresh) [] [] (He.ga G.K "_law_fresh") fd := T.a.def_ 21 (d := d__law_fresh) rfl
theorem Txt.f__law_number (T : Txt G) : ∃ fd, FunD G.K "_law_number" "_law_number" (defArgs s__law_number) (defBody s__law_number) (defScope s__law_number) [] [] (He.ga G.K "_law_number") fd := T.a.def_ 22 (d := d__law_number) rfl
theorem Txt.f__law_kind (T : Txt G) : ∃ fd, FunD G.K "_law_kind" "_law_kind" (defArgs s__law_kind) (defBody s__law_kind) (defScope s__law_kind) [] [] (He.ga G.K "_law_kind") fd := T.a.def_ 23 (d := d__law_kind) rfl
theorem Txt.f__law_lore (T : Txt G) : ∃ fd, FunD G.K "_law_lore" "_law_lore" (defArgs s__law_lore) (defBody s__law_lore) (defScope s__law_lore) [] [] (He.ga G.K "_law_lore") fd := T.a.def_ 24 (d := d__law_lore) rfl
theorem Txt.f__law_book (T : Txt G) : ∃ fd, FunD G.K "_law_book" "_law_book" (defArgs s__law_book) (defBody s__law_book) (defScope s__law_book) [] [] (He.ga G.K "_law_book") fd := T.a.def_ 25 (d := d__law_book) rfl
theorem Txt.f__law_argument (T : Txt G) : ∃ fd, FunD G.K "_law_argument" "_law_argument" (defArgs s__law_argument) (defBody s__law_argument) (defScope s__law_argument) [] [] (He.ga G.K "_law_argument") fd := T.a.def_ 26 (d := d__law_argument) rfl
theorem Txt.f__law_action (T : Txt G) : ∃ fd, FunD G.K "_law_action" "_law_action" (defArgs s__law_action) (defBody s__law_action) (defScope s__law_action) [] [] (He.ga G.K "_law_action") fd := T.a.def_ 27 (d := d__law_action) rfl
theorem Txt.f__law_plain (T : Txt G) : ∃ fd, FunD G.K "_law_plain" "_law_plain" (defArgs s__law_plain) (defBody s__law_plain) (defScope s__law_plain) [] [] (He.ga G.K "_law_plain") fd := T.a.def_ 28 (d := d__law_plain) rfl
theorem Txt.f__law_statement (T : Txt G) : ∃ fd, FunD G.K "_law_statement" "_law_statement" (defArgs s__law_statement) (defBody s__law_statement) (defScope s__law_statement) [] [] (He.ga G.K "_law_statement") fd := T.a.def_ 29 (d := d__law_statement) rfl
theorem Txt.f__law_block (T : Txt G) : ∃ fd, FunD G.K "_law_block" "_law_block" (defArgs s__law_block) (defBody s__law_block) (defScope s__law_block) [] [] (He.ga G.K "_law_block") fd := T.a.def_ 30 (d := d__law_block) rfl
theorem Txt.f__law_size (T : Txt G) : ∃ fd, FunD G.K "_law_size" "_law_size" (defArgs s__law_size) (defBody s__law_size) (defScope s__law_size) [] [] (He.ga G.K "_law_size") fd := T.a.def_ 31 (d := d__law_size) rfl
theorem Txt.f__law_same (T : Txt G) : ∃ fd, FunD G.K "_law_same" "_law_same" (defArgs s__law_same) (defBody s__law_same) (defScope s__law_same) [] [] (He.ga G.K "_law_same") fd := T.a.def_ 32 (d := d__law_same) rfl
theorem Txt.f__law_signs (T : Txt G) : ∃ fd, FunD G.K "_law_signs" "_law_signs" (defArgs s__law_signs) (defBody s__law_signs) (defScope s__law_signs) [] [] (He.ga G.K "_law_signs") fd := T.a.def_ 33 (d := d__law_signs) rfl
theorem Txt.f__law_near (T : Txt G) : ∃ fd, FunD G.K "_law_near" "_law_near" (defArgs s__law_near) (defBody s__law_near) (defScope s__law_near) [] [] (He.ga G.K "_law_near") fd := T.a.def_ 34 (d := d__law_near) rfl
theorem Txt.f__law_is_name (T : Txt G) : ∃ fd, FunD G.K "_law_is_name" "_law_is_name" (defArgs s__law_is_name) (defBody s__law_is_name) (defScope s__law_is_name) [] [] (He.ga G.K "_law_is_name") fd := T.a.def_ 35 (d := d__law_is_name) rfl
theorem Txt.f__law_many (T : Txt G) : ∃ fd, FunD G.K "_law_many" "_law_many" (defArgs s__law_many) (defBody s__law_many) (defScope s__law_many) [] [] (He.ga G.K "_law_many") fd := T.a.def_ 36 (d := d__law_many) rfl
theorem Txt.f__law_spoilt (T : Txt G) : ∃ fd, FunD G.K "_law_spoilt" "_law_spoilt" (defArgs s__law_spoilt) (defBody s__law_spoilt) (defScope s__law_spoilt) [] [] (He.ga G.K "_law_spoilt") fd := T.a.def_ 37 (d := d__law_spoilt) rfl
theorem Txt.f__law_touched (T : Txt G) : ∃ fd, FunD G.K "_law_touched" "_law_touched" (defArgs s__law_touched) (defBody s__law_touched) (defScope s__law_touched) [] [] (He.ga G.K "_law_touched") fd := T.a.def_ 38 (d := d__law_touched) rfl
theorem Txt.f__law_fault (T : Txt G) : ∃ fd, FunD G.K "_law_fault" "_law_fault" (defArgs s__law_fault) (defBody s__law_fault) (defScope s__law_fault) [] [] (He.ga G.K "_law_fault") fd := T.a.def_ 39 (d := d__law_fault) rfl
theorem Txt.f__law_lengths (T : Txt G) : ∃ fd, FunD G.K "_law_lengths" "_law_lengths" (defArgs s__law_lengths) (defBody s__law_lengths) (defScope s__law_lengths) [] [] (He.ga G.K "_law_lengths") fd := T.a.def_ 40 (d := d__law_lengths) rfl
theorem Txt.f__law_blocks (T : Txt G) : ∃ fd, FunD G.K "_law_blocks" "_law_blocks" (defArgs s__law_blocks) (defBody s__law_blocks) (defScope s__law_blocks) [] [] (He.ga G.K "_law_blocks") fd := T.a.def_ 41 (d := d__law_blocks) rfl
theorem Txt.f__law_read_fault (T : Txt G) : ∃ fd, FunD G.K "_law_read_fault" "_law_read_fault" (defArgs s__law_read_fault) (defBody s__law_read_fault) (defScope s__law_read_fault) [] [] (He.ga G.K "_law_read_fault") fd := T.a.def_ 42 (d := d__law_read_fault) rfl
theorem Txt.f__law_parts_fault (T : Txt G) : ∃ fd, FunD G.K "_law_parts_fault" "_law_parts_fault" (defArgs s__law_parts_fault) (defBody s__law_parts_fault) (defScope s__law_parts_fault) [] [] (He.ga G.K "_law_parts_fault") fd := T.a.def_ 43 (d := d__law_parts_fault) rfl
theorem Txt.f__law_block_fault (T : Txt G) : ∃ fd, FunD G.K "_law_block_fault" "_law_block_fault" (defArgs s__law_block_fault) (defBody s__law_block_fault) (defScope s__law_block_fault) [] [] (He.ga G.K "_law_block_fault") fd := T.a.def_ 44 (d := d__law_block_fault) rfl
theorem Txt.f__law_single (T : Txt G) : ∃ fd, FunD G.K "_law_single" "_law_single" (defArgs s__law_single) (defBody s__law_single) (defScope s__law_single) [] [] (He.ga G.K "_law_single") fd := T.a.def_ 45 (d := d__law_single) rfl
theorem Txt.f__law_reason (T : Txt G) : ∃ fd, FunD G.K "_law_reason" "_law_reason" (defArgs s__law_reason) (defBody s__law_reason) (defScope s__law_reason) [] [] (He.ga G.K "_law_reason") fd := T.a.def_ 46 (d := d__law_reason) rfl
theorem Txt.f__law_wrapped (T : Txt G) : ∃ fd, FunD G.K "_law_wrapped" "_law_wrapped" (defArgs s__law_wrapped) (defBody s__law_wrapped) (defScope s__law_wrapped) [] [] (He.ga G.K "_law_wrapped") fd := T.a.def_ 47 (d := d__law_wrapped) rfl
theorem Txt.f__law_bad_read (T : Txt G) : ∃ fd, FunD G.K "_law_bad_read" "_law_bad_read" (defArgs s__law_bad_read) (defBody s__law_bad_read) (defScope s__law_bad_read) [] [] (He.ga G.K "_law_bad_read") fd := T.a.def_ 48 (d := d__law_bad_read) rfl
theorem Txt.f__law_bad_name (T : Txt G) : ∃ fd, FunD G.K "_law_bad_name" "_law_bad_name" (defArgs s__law_bad_name) (defBody s__law_bad_name) (defScope s__law_bad_name) [] [] (He.ga G.K "_law_bad_name") fd := T.a.def_ 49 (d := d__law_bad_name) rfl
theorem Txt.f__law_bad_cell (T : Txt G) : ∃ fd, FunD G.K "_law_bad_cell" "_law_bad_cell" (defArgs s__law_bad_cell) (defBody s__law_bad_cell) (defScope s__law_bad_cell) [] [] (He.ga G.K "_law_bad_cell") fd := T.a.def_ 50 (d := d__law_bad_cell) rfl
theorem Txt.f__law_changed (T : Txt G) : ∃ fd, FunD G.K "_law_changed" "_law_changed" (defArgs s__law_changed) (defBody s__law_changed) (defScope s__law_changed) [] [] (He.ga G.K "_law_changed") fd := T.a.def_ 51 (d := d__law_changed) rfl
theorem Txt.f__law_rebuilt (T : Txt G) : ∃ fd, FunD G.K "_law_rebuilt" "_law_rebuilt" (defArgs s__law_rebuilt) (defBody s__law_rebuilt) (defScope s__law_rebuilt) [] [] (He.ga G.K "_law_rebuilt") fd := T.a.def_ 52 (d := d__law_rebuilt) rfl
theorem Txt.f__law_outcome (T : Txt G) : ∃ fd, FunD G.K "_law_outcome" "_law_outcome" (defArgs s__law_outcome) (defBody s__law_outcome) (defScope s__law_outcome) [] [] (He.ga G.K "_law_outcome") fd := T.a.def_ 53 (d := d__law_outcome) rfl
theorem Txt.f__law_right (T : Txt G) : ∃ fd, FunD G.K "_law_right" "_law_right" (defArgs s__law_right) (defBody s__law_right) (defScope s__law_right) [] [] (He.ga G.K "_law_right") fd := T.a.def_ 54 (d := d__law_right) rfl
theorem Txt.f_law (T : Txt G) : ∃ fd, FunD G.K "law" "law" (defArgs s_law) (defBody s_law) (defScope s_law) [] [] (He.ga G.K "law") fd := T.a.def_ 55 (d := d_law) rfl
theorem Txt.f_Book_init (T : Txt G) : ∃ fd, FunD G.K "__init__" "Book.__init__" (defArgs s_Book_init) (defBody s_Book_init) (defScope s_Book_init) [.ref (He.dflAt ("Book", some "__init__") 0 G.K), .ref (He.dflAt ("Book", some "__init__") 1 G.K)] [] (He.ma G.K (He.ga G.K "Book") "__init__") fd := T.a.def_ 56 (d := d_Book_init) rfl
theorem Txt.f_Book_setitem (T : Txt G) : ∃ fd, FunD G.K "__setitem__" "Book.__setitem__" (defArgs s_Book_setitem) (defBody s_Book_setitem) (defScope s_Book_setitem) [] [] (He.ma G.K (He.ga G.K "Book") "__setitem__") fd := T.a.def_ 57 (d := d_Book_setitem) rfl
theorem Txt.f_Book_contains (T : Txt G) : ∃ fd, FunD G.K "__contains__" "Book.__contains__" (defArgs s_Book_contains) (defBody s_Book_contains) (defScope s_Book_contains) [] [] (He.ma G.K (He.ga G.K "Book") "__contains__") fd := T.a.def_ 58 (d := d_Book_contains) rfl
theorem Txt.f_Book_eq (T : Txt G) : ∃ fd, FunD G.K "__eq__" "Book.__eq__" (defArgs s_Book_eq) (defBody s_Book_eq) (defScope s_Book_eq) [] [] (He.ma G.K (He.ga G.K "Book") "__eq__") fd := T.a.def_ 59 (d := d_Book_eq) rfl
theorem Txt.f_Book_add_cell (T : Txt G) : ∃ fd, FunD G.K "add_cell" "Book.add_cell" (defArgs s_Book_add_cell) (defBody s_Book_add_cell) (defScope s_Book_add_cell) [] [] (He.ma G.K (He.ga G.K "Book") "add_cell") fd := T.a.def_ 60 (d := d_Book_add_cell) rfl
theorem Txt.f_Body_init (T : Txt G) : ∃ fd, FunD G.K "__init__" "Body.__init__" (defArgs s_Body_init) (defBody s_Body_init) (defScope s_Body_init) [] [] (He.ma G.K (He.ga G.K "Body") "__init__") fd := T.a.def_ 61 (d := d_Body_init) rfl
theorem Txt.f_Body_len (T : Txt G) : ∃ fd, FunD G.K "__len__" "Body.__len__" (defArgs s_Body_len) (defBody s_Body_len) (defScope s_Body_len) [] [] (He.ma G.K (He.ga G.K "Body") "__len__") fd := T.a.def_ 62 (d := d_Body_len) rfl
theorem Txt.f_BadName_init (T : Txt G) : ∃ fd, FunD G.K "__init__" "BadName.__init__" (defArgs s_BadName_init) (defBody s_BadName_init) (defScope s_BadName_init) [] [] (He.ma G.K (He.ga G.K "BadName") "__init__") fd := T.a.def_ 63 (d := d_BadName_init) rfl
theorem Txt.f_BadNumber_init (T : Txt G) : ∃ fd, FunD G.K "__init__" "BadNumber.__init__" (defArgs s_BadNumber_init) (defBody s_BadNumber_init) (defScope s_BadNumber_init) [] [] (He.ma G.K (He.ga G.K "BadNumber") "__init__") fd := T.a.def_ 64 (d := d_BadNumber_init) rfl
theorem Txt.f_BadKind_init (T : Txt G) : ∃ fd, FunD G.K "__init__" "BadKind.__init__" (defArgs s_BadKind_init) (defBody s_BadKind_init) (defScope s_BadKind_init) [] [] (He.ma G.K (He.ga G.K "BadKind") "__init__") fd := T.a.def_ 65 (d := d_BadKind_init) rfl
theorem Txt.f_BadAction_init (T : Txt G) : ∃ fd, FunD G.K "__init__" "BadAction.__init__" (defArgs s_BadAction_init) (defBody s_BadAction_init) (defScope s_BadAction_init) [] [] (He.ma G.K (He.ga G.K "BadAction") "__init__") fd := T.a.def_ 66 (d := d_BadAction_init) rfl
theorem Txt.f_BadStatement_init (T : Txt G) : ∃ fd, FunD G.K "__init__" "BadStatement.__init__" (defArgs s_BadStatement_init) (defBody s_BadStatement_init) (defScope s_BadStatement_init) [] [] (He.ma G.K (He.ga G.K "BadStatement") "__init__") fd := T.a.def_ 67 (d := d_BadStatement_init) rfl
theorem Txt.f_UnknownStep_init (T : Txt G) : ∃ fd, FunD G.K "__init__" "UnknownStep.__init__" (defArgs s_UnknownStep_init) (defBody s_UnknownStep_init) (defScope s_UnknownStep_init) [] [] (He.ma G.K (He.ga G.K "UnknownStep") "__init__") fd := T.a.def_ 68 (d := d_UnknownStep_init) rfl
theorem Txt.f_UnknownCell_init (T : Txt G) : ∃ fd, FunD G.K "__init__" "UnknownCell.__init__" (defArgs s_UnknownCell_init) (defBody s_UnknownCell_init) (defScope s_UnknownCell_init) [] [] (He.ma G.K (He.ga G.K "UnknownCell") "__init__") fd := T.a.def_ 69 (d := d_UnknownCell_init) rfl
theorem Txt.f_TooLarge_init (T : Txt G) : ∃ fd, FunD G.K "__init__" "TooLarge.__init__" (defArgs s_TooLarge_init) (defBody s_TooLarge_init) (defScope s_TooLarge_init) [] [] (He.ma G.K (He.ga G.K "TooLarge") "__init__") fd := T.a.def_ 70 (d := d_TooLarge_init) rfl
theorem Txt.f_Clash_init (T : Txt G) : ∃ fd, FunD G.K "__init__" "Clash.__init__" (defArgs s_Clash_init) (defBody s_Clash_init) (defScope s_Clash_init) [] [] (He.ma G.K (He.ga G.K "Clash") "__init__") fd := T.a.def_ 71 (d := d_Clash_init) rfl
theorem Txt.f_Book_cells (T : Txt G) : ∃ fd, FunD G.K "cells" "Book.cells" (defArgs s_Book_cells) (defBody s_Book_cells) (defScope s_Book_cells) [] [] (pg G.K "Book" "cells") fd := T.a.def_ 72 (d := d_Book_cells) rfl
theorem Txt.f_Book_stores (T : Txt G) : ∃ fd, FunD G.K "stores" "Book.stores" (defArgs s_Book_stores) (defBody s_Book_stores) (defScope s_Book_stores) [] [] (pg G.K "Book" "stores") fd := T.a.def_ 73 (d := d_Book_stores) rfl
end
end Xd

/-! text HD -/
/-! the run of the top (printed by gen_head.py) -/
namespace Xd
open PySem PySem.Spec PyProof.Rows L2
abbrev R0 : PySem.W.OpenRow := PySem.W.OpenLaw.row PySem.Challenge.rw_exitdeeds_k09_whole_body_checks
abbrev qv : Program := PySem.W.view R0.prog [114]
def names0 : List PySem.Str := ["__name__", "DeedError", "OtherBook", "BadName", "BadNumber", "BadKind", "BadAction", "BadStatement", "UnknownStep", "UnknownCell", "TooLarge", "Clash", "LETTERS", "DIGITS", "LONGEST", "GREATEST", "is_name", "check_name", "check_number", "NUMBERED", "NAMED", "check_kind", "Book", "copied", "cell_names", "first_store", "GUARDS", "READS", "MANY", "DEEP"]
def names1 : List PySem.Str := ["check_argument", "check_at", "check_action", "halves", "value_of", "settled", "size_of", "listed", "STOPS", "statement_code", "block_code", "program", "advance", "ask_of", "exit_of", "following", "DONE", "ERROR", "state", "after", "way_out", "left", "forward", "run", "LENGTHS", "DEPTH", "blocks_of", "check_now", "check_cell", "check_parts"]
def names2 : List PySem.Str := ["check_all", "in_order", "TIMES", "Body", "_law_pool", "_law_mixed", "_law_draw", "_law_rest", "_law_letters", "_law_name", "_law_fresh", "_law_number", "_law_kind", "_law_lore", "_law_book", "_law_argument", "_law_action", "_law_plain", "_law_statement", "_law_block", "_law_size", "_law_same", "_law_signs", "_law_near", "_law_is_name", "_law_many", "_law_spoilt", "_law_touched", "_law_fault", "_law_lengths"]
def names3 : List PySem.Str := ["_law_blocks", "_law_read_fault", "_law_parts_fault", "_law_block_fault", "_law_single", "_law_reason", "_law_wrapped", "_law_bad_read", "_law_bad_name", "_law_bad_cell", "_law_changed", "_law_rebuilt", "_law_outcome", "_law_right"]
def names : List PySem.Str := names0 ++ (names1 ++ (names2 ++ (names3)))
def ob (s : PySem.W.SharedT) : AlZ := obsZ (HandSHeadRun.getT s)
theorem ob_eq (s : PySem.W.SharedT) : ob s = hookZ.obs s.abs := obsZ_eq (HandSHeadRun.getT_eq s)
/-! the run's looks, each by its own check: memory -/
noncomputable abbrev HdRun (w : World) (os : OsState) : Option PySem.W.SharedT := HandSHeadRun.endF (HandSHeadRun.stepQ (HandSHeadRun.denQ HandSHeadRun.tabQ) R0.prog w) 8000 R0.prog w os
def HdSeen (w : World) : Prop := ∀ os : OsState, (HdRun w os).map (fun s => (HandSHeadRun.looksF R0.prog (PySem.W.boot_heap w.params) s.abs, HandSHeadRun.seenQ qv names (PySem.importedModules R0.prog.main.body) (fun s => PySem.W.xlAt qv [] s && PySem.W.recOk R0.toRowW.records s) s.abs)) = some (true, PySem.W.openGood qv names)
def HdObs (w : World) : Prop := ∀ os : OsState, (HdRun w os).map ob = some (hookZ.val w)
theorem hd_map {σ α β γ : Type} {x : Option σ} {A : σ → α} {B : σ → β} {C : σ → γ} {a : α} {b : β} {c : γ} (h1 : x.map (fun s => (A s, B s)) = some (a, b)) (h2 : x.map C = some c) : x.map (fun s => (A s, B s, C s)) = some (a, b, c) := by
  cases x with
  | none => cases h1
  | some s =>
    have e1 : (A s, B s) = (a, b) := Option.some.inj h1
    have e2 : A s = a := congrArg (fun p => p.1) e1
    have e3 : B s = b := congrArg (fun p => p.2) e1
    have e4 : C s = c := Option.some.inj h2
    subst e2 e3 e4
    rfl
theorem hd_both {w : World} (h1 : HdSeen w) (h2 : HdObs w) : HandSHeadRun.RunEq R0 qv hookZ ob 8000 names w := fun os => hd_map (h1 os) (h2 os)
theorem hd_seenF (w : World) : HdSeen (w.withFollow "special-get-raises" false) := by
  intro os
  kernel_rfl
theorem hd_obsF (w : World) : HdObs (w.withFollow "special-get-raises" false) := by
  intro os
  kernel_rfl
theorem runF (w : World) : HandSHeadRun.RunEq R0 qv hookZ ob 8000 names (w.withFollow "special-get-raises" false) := hd_both (hd_seenF w) (hd_obsF w)
theorem hd_seenT (w : World) : HdSeen (w.withFollow "special-get-raises" true) := by
  intro os
  kernel_rfl
theorem hd_obsT (w : World) : HdObs (w.withFollow "special-get-raises" true) := by
  intro os
  kernel_rfl
theorem runT (w : World) : HandSHeadRun.RunEq R0 qv hookZ ob 8000 names (w.withFollow "special-get-raises" true) := hd_both (hd_seenT w) (hd_obsT w)
theorem run (w : World) : HandSHeadRun.RunEq R0 qv hookZ ob 8000 names w := PySem.W.byRow2 "special-get-raises" runF runT w
end Xd

/-! text Z0 -/
/-! the head's end, the law's walk told as F -/
namespace Xd
open PySem PySem.Spec PyProof.Rows L2
theorem head_end (F : ∀ (w : World) (mg : Str → Option Value) (fa : Addr) (h : Heap) (K : PySem.W.Frag), K.In h → SaysZ w K → h.Ns mainGlobals mg → mg "law" = some (.ref fa) →
      ∃ (fd : FuncData) (sp : Sp), (∀ (s : Shared) (u : Value), BindsTo s fd ⟨[u], []⟩ [("_law_script", u)]) ∧ (∀ (H : Hp) (a : Addr) (ns : List Int), SqL K H a (ns.map V.int) → sp [.ref a] H (fun v _ => v = .bl true) fun _ _ _ => False) ∧
        ∀ base : Heap, K.In base → base.Ns mainGlobals mg → FnOk PySem.Challenge.rw_exitdeeds_k09_whole_body_checks.prog w K mg base L2.CX0 103 fa fd ["_law_script"] sp) : PySem.Challenge.rw_exitdeeds_k09_whole_body_checks.Holds := by
  w_on; o_law
  refine HandSHeadRun.head_any (r := R0) (q := qv) (H := hookZ) (ob := ob) (M := 8000) (loose := names) (d := HandSHeadRun.topDef R0.prog 114) (kwd := []) ob_eq (by kernel_rfl) (fun s => by kernel_rfl) run (by kernel_rfl) (by kernel_rfl) (by kernel_rfl) (by rfl) (by first | assumption | decide +kernel)
    (by decide +kernel) ⟨rfl, rfl, rfl, rfl, rfl, by decide +kernel⟩ ?hw ?hc
  case hw => w_witness2
  case hc =>
    refine L2.walk_ofE (l := PySem.Challenge.rw_exitdeeds_k09_whole_body_checks) (n := 63) (k := 103) (x := "_law_script") (CX := L2.CX0) rfl (by decide) (by kernel_rfl) ⟨rfl, by decide, by decide⟩ ?F (fun _ _ _ _ z => z)
    intro w mg fa h Y N hmg0
    obtain ⟨K, KX, c⟩ := Y
    have hmg : mg ("law" : PySem.Str) = some (.ref fa) := by
      have e : (HandSHeadRun.topDef R0.prog 114).name = ("law" : PySem.Str) := by kernel_rfl
      rw [← e]
      exact hmg0
    obtain ⟨fd, sp, hb, hs, hF⟩ := F w mg fa h K KX c N hmg
    exact ⟨K, fd, sp, KX, hb, fun H a ns _ _ hS => hs H a ns hS, hF⟩
end Xd

/-! text B2 -/
/-! growing heaps, data, calls, raises; readings by their heads -/
namespace Xd
open PySem PySem.Spec PyProof.Rows L2
abbrev St := L2.St

/-! ### heaps that grow -/
def Tu (H H' : Hp) : Prop := ∀ a xs, H a = some (.tup xs) → H' a = some (.tup xs)
theorem Tu.refl {H : Hp} : Tu H H := fun _ _ h => h
theorem Tu.trans {H H1 H2 : Hp} (a : Tu H H1) (b : Tu H1 H2) : Tu H H2 := fun c xs h => b c xs (a c xs h)
/-- what was tracked stands, but at M; tuples stand -/
structure Gr (M : List Addr) (H H' : Hp) : Prop where
  keep : ∀ a o, H a = some o → a ∉ M → H' a = some o
  tu : Tu H H'
theorem Gr.refl {M : List Addr} {H : Hp} : Gr M H H := ⟨fun _ _ h _ => h, Tu.refl⟩
theorem Gr.trans {M : List Addr} {H H1 H2 : Hp} (a : Gr M H H1) (b : Gr M H1 H2) : Gr M H H2 := ⟨fun c o h n => b.keep c o (a.keep c o h n) n, a.tu.trans b.tu⟩
theorem Gr.mono {M M' : List Addr} {H H' : Hp} (a : Gr M H H') (h : ∀ x ∈ M, x ∈ M') : Gr M' H H' := ⟨fun c o e n => a.keep c o e fun z => n (h c z), a.tu⟩
theorem Gr.any {M : List Addr} {H H' : Hp} (a : Gr [] H H') : Gr M H H' := a.mono fun _ h => nomatch h
theorem Gr.new {M : List Addr} {H : Hp} {p : Addr} {o : HO} (h : H p = none) : Gr M H (upd H p o) :=
  ⟨fun a u e _ => by rw [upd_ne (ne_of_none e h)]; exact e, fun a xs e => by rw [upd_ne (ne_of_none e h)]; exact e⟩
theorem Gr.set {M : List Addr} {H : Hp} {p : Addr} {o u : HO} (h : H p = some o) (hm : p ∈ M) (hn : ∀ xs, o ≠ .tup xs) : Gr M H (upd H p u) :=
  ⟨fun a v e n => by rw [upd_ne (fun z => n (by rw [z]; exact hm))]; exact e, fun a xs e => by
    by_cases z : a = p
    · subst z; rw [h] at e; exact absurd (Option.some.inj e) (hn xs)
    · rw [upd_ne z]; exact e⟩
theorem Gr.at0 {H H' : Hp} (g : Gr [] H H') {a : Addr} {o : HO} (h : H a = some o) : H' a = some o := g.keep a o h (fun z => nomatch z)
theorem Gr.sqT {M : List Addr} {K : PySem.W.Frag} {H H' : Hp} (g : Gr M H H') {a : Addr} {xs : List V} (h : H a = some (.tup xs)) : SqT K H' a xs := SqT.of (g.tu _ _ h)

/-! ### data -/
theorem Rps.len {H : Hp} : ∀ {vs : List V} {ds : List D}, Rps H vs ds → vs.length = ds.length
  | _, _, .nil => rfl
  | _, _, .cons _ t => congrArg Nat.succ t.len
mutual
theorem Rp.mono {H H' : Hp} (t : Tu H H') : ∀ {v : V} {d : D}, Rp H v d → Rp H' v d
  | _, _, .non => .non
  | _, _, .int i => .int i
  | _, _, .str x => .str x
  | _, _, .tup h r => .tup (t _ _ h) (Rps.mono t r)
theorem Rps.mono {H H' : Hp} (t : Tu H H') : ∀ {vs : List V} {ds : List D}, Rps H vs ds → Rps H' vs ds
  | _, _, .nil => .nil
  | _, _, .cons h r => .cons (Rp.mono t h) (Rps.mono t r)
end
theorem Rps.get {H : Hp} : ∀ {vs : List V} {ds : List D} {i : Nat} {v : V}, Rps H vs ds → vs[i]? = some v → ∃ d, ds[i]? = some d ∧ Rp H v d
  | _, _, _, _, .nil, e => by simp at e
  | _, _, 0, _, .cons h _, e => by simp at e; subst e; exact ⟨_, rfl, h⟩
  | _, _, i + 1, v, .cons _ r, e => by
    obtain ⟨d, h1, h2⟩ := Rps.get (i := i) (v := v) r (by simpa using e)
    exact ⟨d, by simpa using h1, h2⟩
theorem Rps.get' {H : Hp} : ∀ {vs : List V} {ds : List D} {i : Nat} {d : D}, Rps H vs ds → ds[i]? = some d → ∃ v, vs[i]? = some v ∧ Rp H v d
  | _, _, _, _, .nil, e => by simp at e
  | _, _, 0, _, .cons h _, e => by simp at e; subst e; exact ⟨_, rfl, h⟩
  | _, _, i + 1, d, .cons _ r, e => by
    obtain ⟨v, h1, h2⟩ := Rps.get' (i := i) (d := d) r (by simpa using e)
    exact ⟨v, by simpa using h1, h2⟩
theorem Rps.append {H : Hp} : ∀ {vs : List V} {ds : List D} {ws : List V} {es : List D}, Rps H vs ds → Rps H ws es → Rps H (vs ++ ws) (ds ++ es)
  | _, _, _, _, .nil, s => s
  | _, _, _, _, .cons h r, s => .cons h (Rps.append r s)
theorem Rps.take {H : Hp} : ∀ {vs : List V} {ds : List D} (n : Nat), Rps H vs ds → Rps H (vs.take n) (ds.take n)
  | _, _, 0, _ => .nil
  | _, _, _ + 1, .nil => .nil
  | _, _, n + 1, .cons h r => .cons h (Rps.take n r)
theorem Rps.drop {H : Hp} : ∀ {vs : List V} {ds : List D} (n : Nat), Rps H vs ds → Rps H (vs.drop n) (ds.drop n)
  | _, _, 0, r => r
  | _, _, _ + 1, .nil => .nil
  | _, _, n + 1, .cons _ r => Rps.drop n r
theorem Rp.str_of {H : Hp} {v : V} {x : Str} (h : Rp H v (.str x)) : v = .str x := by cases h; rfl
theorem Rp.int_of {H : Hp} {v : V} {i : Int} (h : Rp H v (.int i)) : v = .int i := by cases h; rfl
theorem Rp.non_of {H : Hp} {v : V} (h : Rp H v .non) : v = .non := by cases h; rfl
theorem Rp.tup_of {H : Hp} {v : V} {ds : List D} (h : Rp H v (.tup ds)) : ∃ a vs, v = .ref a ∧ H a = some (.tup vs) ∧ Rps H vs ds := by
  cases h with
  | tup e r => exact ⟨_, _, rfl, e, r⟩
theorem Rps.nil_of {H : Hp} {vs : List V} (h : Rps H vs []) : vs = [] := by cases h; rfl
theorem Rps.cons_of {H : Hp} {vs : List V} {d : D} {ds : List D} (h : Rps H vs (d :: ds)) : ∃ v ws, vs = v :: ws ∧ Rp H v d ∧ Rps H ws ds := by
  cases h with
  | cons a b => exact ⟨_, _, rfl, a, b⟩

/-! ### calls -/
abbrev cxo (X : Cx) : Ctx := ⟨X.prog, X.w, X.K, X.mg, X.base⟩
abbrev FnG (G : Ctx) (k : Nat) (f : Addr) (fd : FuncData) (ps : List Str) (sp : Sp) : Prop := FnOk G.P G.w G.K G.mg G.base (L2.CX G.P G.w) k f fd ps sp
/-- the def at f may be called, with these defaults -/
structure Cal (G : Ctx) (k : Nat) (f : Addr) (sp : Sp) (dvs : List V) : Prop where
  ex : ∃ (fd : FuncData) (ps : List Str) (ds : List Value), FnG G k f fd ps sp ∧ PySem.W.keepIn G.K (.ref f) = true ∧ Binds G.K fd ps ds ∧ Vals dvs ds
theorem Cal.mono {G : Ctx} {j k : Nat} {f : Addr} {sp : Sp} {dvs : List V} (c : Cal G j f sp dvs) (h : j ≤ k) : Cal G k f sp dvs := by
  obtain ⟨fd, ps, ds, F, kp, b, d⟩ := c.ex
  exact ⟨fd, ps, ds, F.mono h, kp, b, d⟩
theorem Cal.imp {G : Ctx} {k : Nat} {f : Addr} {sp sp' : Sp} {dvs : List V} (c : Cal G k f sp dvs) (h : ∀ vs H Q E, sp' vs H Q E → sp vs H Q E) : Cal G k f sp' dvs := by
  obtain ⟨fd, ps, ds, F, kp, b, d⟩ := c.ex
  exact ⟨fd, ps, ds, F.imp h, kp, b, d⟩
/-- no call comes in -/
theorem Cal.never {G : Ctx} {k : Nat} {f : Addr} {fd : FuncData} {ps : List Str} {sp : Sp} (kp : PySem.W.keepIn G.K (.ref f) = true) (b : Binds G.K fd ps []) (no : ∀ vs H Q E, ¬ sp vs H Q E) : Cal G k f sp [] :=
  ⟨fd, ps, [], ⟨fun vs H Q E h => absurd h (no vs H Q E), fun A outer s H args us vs Q E _ _ _ _ h => absurd h (no vs H Q E)⟩, kp, b, .nil⟩
section
variable {X : Cx} {G : Ctx} {j k : Nat} {f C : Addr} {sp : Sp} {dvs : List V} {E : XK} {W : WX} {x m : Str} {p pos apos : Pos} {e o a b : Expr} {es : List Expr} {t : TA} {ta te : TE}
theorem pe_cal (c : Cal (cxo X) k f sp dvs) (hm : X.mg x = some (.ref f)) (hr : Room j X.A) (hk : k ≤ j) (tk : Takes X W) (hW : ∀ cls d σ H, E cls d H → W cls d σ H) (hg : Gl X x) (ha : PA X (e :: es) t)
    (hdb : (x == ("__debug__" : Str)) = false := by decide) (he : starEach (e :: es) X.env = (false, eval e X.env) :: starEach es X.env := by rfl) (hpl : (backTo pos (starEach es X.env)).any (·.1) = false := by rfl) :
    PE X (.Call (.Name x p) (e :: es) [] pos) (tCall sp dvs E t) := by
  obtain ⟨fd, ps, ds, F, kp, b, d⟩ := c.ex
  exact pe_call F (hr.mono hk) hg hm kp b d (passes_call tk hW) ha hdb he hpl
theorem pe_cal0 (c : Cal (cxo X) k f sp dvs) (hm : X.mg x = some (.ref f)) (hr : Room j X.A) (hk : k ≤ j) (tk : Takes X W) (hW : ∀ cls d σ H, E cls d H → W cls d σ H) (hg : Gl X x)
    (hdb : (x == ("__debug__" : Str)) = false := by decide) : PE X (.Call (.Name x p) [] [] pos) (tCall sp dvs E tNil) := by
  obtain ⟨fd, ps, ds, F, kp, b, d⟩ := c.ex
  exact pe_call0 F (hr.mono hk) hg hm kp b d (passes_call tk hW) hdb
theorem pe_new (M : Mk X.K C f) (c : Cal (cxo X) k f sp dvs) (hm : X.mg x = some (.ref C)) (hr : Room j X.A) (hk : k + 1 ≤ j) (tk : Takes X W) (hW : ∀ cls d σ H, E cls d H → W cls d σ H) (hg : Gl X x) (ha : PA X (e :: es) t)
    (hdb : (x == ("__debug__" : Str)) = false := by decide) (he : starEach (e :: es) X.env = (false, eval e X.env) :: starEach es X.env := by rfl) (hpl : (backTo pos (starEach es X.env)).any (·.1) = false := by rfl) :
    PE X (.Call (.Name x p) (e :: es) [] pos) (tMake C sp dvs E t) := by
  obtain ⟨fd, ps, ds, F, kp, b, d⟩ := c.ex
  exact pe_make M F (hr.mono hk) hg hm b d (passes_call tk hW) ha hdb he hpl
theorem pe_new0 (M : Mk X.K C f) (c : Cal (cxo X) k f sp dvs) (hm : X.mg x = some (.ref C)) (hr : Room j X.A) (hk : k + 1 ≤ j) (tk : Takes X W) (hW : ∀ cls d σ H, E cls d H → W cls d σ H) (hg : Gl X x)
    (hdb : (x == ("__debug__" : Str)) = false := by decide) : PE X (.Call (.Name x p) [] [] pos) (tMake C sp dvs E tNil) := by
  obtain ⟨fd, ps, ds, F, kp, b, d⟩ := c.ex
  exact pe_make0 M F (hr.mono hk) hg hm b d (passes_call tk hW) hdb
theorem pe_mth {pl : Sem Bool} (cl : Cls X.K C) (hm : Meth X.K C m f) (c : Cal (cxo X) k f sp dvs) (hr : Room j X.A) (hk : k ≤ j) (tk : Takes X W) (hW : ∀ cls d σ H, E cls d H → W cls d σ H) (he : PE X o ta) (ha : PA X (e :: es) t)
    (hst : starEach (e :: es) X.env = (false, eval e X.env) :: starEach es X.env := by rfl) (hpl : (backTo pos (starEach es X.env)).any (·.1) = false := by rfl)
    (ht : eval (.Call (.Attribute o m apos) (e :: es) [] pos) X.env = (do
      let ov ← eval o X.env
      standAt apos.atName
      let (f, first) ← holding [ov] (getMethod ov m pl)
      callWith pos f first (backTo pos (starEach (e :: es) X.env)) (backToKw pos (keywordEach [] X.env))) := by rfl) :
    PE X (.Call (.Attribute o m apos) (e :: es) [] pos) (tMeth C m sp dvs E ta t) := by
  obtain ⟨fd, ps, ds, F, kp, b, d⟩ := c.ex
  exact pe_meth (pl := pl) he cl hm F (hr.mono hk) b d (passes_call tk hW) ha hst hpl ht
theorem pe_prp {g q : Addr} (cl : Cls X.K C) (hp : PropOf X.K C m q g) (c : Cal (cxo X) k g sp dvs) (hr : Room j X.A) (hk : k + 1 ≤ j) (he : PE X e ta) (hab : attributeBase e m X.env (eval e X.env) = eval e X.env := by rfl) :
    PE X (.Attribute e m pos) (tProp C sp dvs E0 ta) := by
  obtain ⟨fd, ps, ds, F, kp, b, d⟩ := c.ex
  exact pe_prop he cl hp F (hr.mono hk) b d passL hab
/-- f(v, ..) by values -/
theorem Cal.run {pins : List (Addr × Obj)} {σ : St} {H : Hp} {s : Shared} {Q : VK} {us : List Value} {vs : List V} (c : Cal (cxo X) k f sp []) (hr : Room j X.A) (hk : k ≤ j) (tk : Takes X W) (hW : ∀ cls d σ H, E cls d H → W cls d σ H)
    (I : Inv X pins σ H s) (r : Vals vs us) (h : sp vs H Q E) : wpAny (model X.prog X.w) X.A (call (.ref f) us) (EP X pins σ Q) X.xe s := by
  obtain ⟨fd, ps, ds, F, kp, b, d⟩ := c.ex
  cases d
  exact run_fn F (hr.mono hk) b .nil (passes_call tk hW) I r (by rw [List.append_nil]; exact h)

/-! ### operators of an own class -/
/-- x in o, o of an own class -/
def rInO (C : Addr) (sp : Sp) (E : XK) (neg : Bool) : R2 := fun x y H Q => ∃ a dx fs, y = .ref a ∧ H a = some (.ins C dx fs) ∧ sp [.ref a, x] H (fun v H' => ∃ b, v = .bl b ∧ Q (.bl (if neg then !b else b)) H') E
theorem op_inO (hm : Meth X.K C "__contains__" f) (c : Cal (cxo X) k f sp []) (hr : Room j X.A) (hk : k ≤ j) (tk : Takes X W) (hW : ∀ cls d σ H, E cls d H → W cls d σ H) : OpR X (compareOp .In) (rInO C sp E false) := by
  intro pins s σ H x y v u Q I rx ry h
  obtain ⟨q, dx, fs, rfl, ea, h⟩ := h
  obtain rfl : u = Value.ref q := ry
  obtain ⟨mA, J, _⟩ := ins_get I.hok ea
  obtain ⟨od, J, _⟩ := J.look
  obtain ⟨m, hF⟩ := I.fr
  refine PySem.W.in_K hF I.ok.mod.kin J hm.at_ hm.fn (thn (c.run hr hk tk hW I (.cons (show RelV (.ref q) (.ref q) from rfl) (.cons rx .nil)) h) fun r s1 hq => ?_)
  obtain ⟨v1, H1, I1, r1, b1, e1, q1⟩ := hq
  subst e1
  cases r1
  exact wpAny_truthy_bool ⟨.bl b1, H1, I1, rfl, q1⟩
theorem op_niO (hm : Meth X.K C "__contains__" f) (c : Cal (cxo X) k f sp []) (hr : Room j X.A) (hk : k ≤ j) (tk : Takes X W) (hW : ∀ cls d σ H, E cls d H → W cls d σ H) : OpR X (compareOp .NotIn) (rInO C sp E true) := by
  intro pins s σ H x y v u Q I rx ry h
  obtain ⟨q, dx, fs, rfl, ea, h⟩ := h
  obtain rfl : u = Value.ref q := ry
  obtain ⟨mA, J, _⟩ := ins_get I.hok ea
  obtain ⟨od, J, _⟩ := J.look
  obtain ⟨m, hF⟩ := I.fr
  refine PySem.W.notIn_K hF I.ok.mod.kin J hm.at_ hm.fn (thn (c.run hr hk tk hW I (.cons (show RelV (.ref q) (.ref q) from rfl) (.cons rx .nil)) h) fun r s1 hq => ?_)
  obtain ⟨v1, H1, I1, r1, b1, e1, q1⟩ := hq
  subst e1
  cases r1
  exact wpAny_truthy_bool ⟨.bl (!b1), H1, I1, rfl, q1⟩
/-- o[i] = v, o of an own class -/
def rSetO (C : Addr) (sp : Sp) (E : XK) : TSet := fun o i v H Q => ∃ a dx fs, o = .ref a ∧ H a = some (.ins C dx fs) ∧ sp [.ref a, i, v] H (fun _ H' => Q H') E
theorem set_own (hq : PySem.W.noSeq X.K C = true) (hm : Meth X.K C "__setitem__" f) (c : Cal (cxo X) k f sp []) (hr : Room j X.A) (hk : k ≤ j) (tk : Takes X W) (hW : ∀ cls d σ H, E cls d H → W cls d σ H) : PSet X (rSetO C sp E) := by
  intro pins s σ H o i v ov iv u Q I ro ri rv h
  obtain ⟨q, dx, fs, rfl, ea, h⟩ := h
  obtain rfl : ov = Value.ref q := ro
  obtain ⟨mA, J, _⟩ := ins_get I.hok ea
  obtain ⟨od, J, _⟩ := J.look
  obtain ⟨m, hF⟩ := I.fr
  refine PySem.W.ksp_setItem hF I.ok.mod.kin J hq hm.at_ hm.fn (thn (c.run hr hk tk hW I (.cons (show RelV (.ref q) (.ref q) from rfl) (.cons ri (.cons rv .nil))) h) fun r s1 hq => ?_)
  obtain ⟨v1, H1, I1, r1, q1⟩ := hq
  exact ⟨H1, I1, q1⟩
/-- o == p, both of an own class -/
def rEqO (C : Addr) (sp : Sp) (E : XK) : R2 := fun x y H Q => ∃ a b dx dy fs gs, x = .ref a ∧ y = .ref b ∧ H a = some (.ins C dx fs) ∧ H b = some (.ins C dy gs) ∧ sp [.ref a, .ref b] H (fun v H' => ∃ b, v = .bl b ∧ Q (.bl b) H') E
theorem op_eqO (hm : Meth X.K C "__eq__" f) (c : Cal (cxo X) k f sp []) (hr : Room j X.A) (hk : k ≤ j) (tk : Takes X W) (hW : ∀ cls d σ H, E cls d H → W cls d σ H) : OpR X (compareOp .Eq) (rEqO C sp E) := by
  intro pins s σ H x y v u Q I rx ry h
  obtain ⟨q, q', dx, dy, fs, gs, rfl, rfl, ea, eb, h⟩ := h
  obtain rfl : v = Value.ref q := rx
  obtain rfl : u = Value.ref q' := ry
  obtain ⟨mA, J, _⟩ := ins_get I.hok ea
  obtain ⟨od, J, _⟩ := J.look
  obtain ⟨mB, J', _⟩ := ins_get I.hok eb
  obtain ⟨od', J', _⟩ := J'.look
  obtain ⟨m, hF⟩ := I.fr
  show wpAny _ _ (richCompare .Eq _ _) _ _ _
  refine PySem.W.cmp_K (op := .Eq) (tb := .ref C) hr.units0 hF I.ok.mod.kin J J'.type (by simp [PySem.W.notFirst]) hm.at_ hm.fn (thn (c.run hr hk tk hW I (.cons (show RelV (.ref q) (.ref q) from rfl) (.cons (show RelV (.ref q') (.ref q') from rfl) .nil)) h) fun r s1 hq => ?_)
  obtain ⟨v1, H1, I1, r1, b1, e1, q1⟩ := hq
  subst e1
  cases r1
  exact ⟨.bl b1, H1, I1, rfl, q1⟩
end
end Xd

/-! text B3 -/
/-! readings by their heads -/
namespace Xd
open PySem PySem.Spec PyProof.Rows L2

/-! ### what stands at the ends of a reading, by names -/
def kTup (xs : List V) (H : Hp) (Q : VK) : Prop := xs.length ≤ sizeLine ∧ ∀ p, H p = none → Q (.ref p) (upd H p (.tup xs))
def kLst (xs : List V) (H : Hp) (Q : VK) : Prop := xs.length ≤ sizeLine ∧ ∀ p, H p = none → Q (.ref p) (upd H p (.lst xs))
def kBl (x : V) (P : Bool → Prop) : Prop := ∃ b, x = .bl b ∧ P b
def kForT (K : PySem.W.Frag) (x : V) (g : TG) (tb : TS) (D : Ends) (σ : St) (H : Hp) : Prop := ∃ a, x = .ref a ∧ (∃ xs, SqT K H a xs) ∧ ∃ W : Nat → Nat → St → Hp → Prop, (∃ m, W 0 m σ H) ∧ ∀ i m σ H, W i m σ H →
  ((Itt K a).stop i H ∧ D.nx σ H) ∨ ((Itt K a).go i H ∧ ∃ N : St → Hp → Prop, (∀ σ' H', N σ' H' → ∃ m', m' < m ∧ W (i + 1) m' σ' H') ∧ ∀ x H', (Itt K a).yld i H x H' → g x σ H' fun σ2 H2 => tb { D with nx := N, ct := N, bk := D.nx } σ2 H2)
def kForL (K : PySem.W.Frag) (x : V) (g : TG) (tb : TS) (D : Ends) (σ : St) (H : Hp) : Prop := ∃ a, x = .ref a ∧ (∃ xs, SqL K H a xs) ∧ ∃ W : Nat → Nat → St → Hp → Prop, (∃ m, W 0 m σ H) ∧ ∀ i m σ H, W i m σ H →
  ((Itl K a).stop i H ∧ D.nx σ H) ∨ ((Itl K a).go i H ∧ ∃ N : St → Hp → Prop, (∀ σ' H', N σ' H' → ∃ m', m' < m ∧ W (i + 1) m' σ' H') ∧ ∀ x H', (Itl K a).yld i H x H' → g x σ H' fun σ2 H2 => tb { D with nx := N, ct := N, bk := D.nx } σ2 H2)
def kForR (vs : List V) (g : TG) (tb : TS) (D : Ends) (σ : St) (H : Hp) : Prop := ∃ j : Int, vs = [.int j] ∧ -(2 ^ 62) ≤ j ∧ j < 2 ^ 62 ∧ ∃ W : Nat → Nat → St → Hp → Prop, (∃ m, W 0 m σ H) ∧ ∀ i m σ H, W i m σ H →
  ((Itr 0 j.toNat).stop i H ∧ D.nx σ H) ∨ ((Itr 0 j.toNat).go i H ∧ ∃ N : St → Hp → Prop, (∀ σ' H', N σ' H' → ∃ m', m' < m ∧ W (i + 1) m' σ' H') ∧ ∀ x H', (Itr 0 j.toNat).yld i H x H' → g x σ H' fun σ2 H2 => tb { D with nx := N, ct := N, bk := D.nx } σ2 H2)

section
variable {σ : St} {H : Hp} {Q : VK} {nx : St → Hp → Prop} {rt : VK} {bk ct : St → Hp → Prop} {t u : TS} {te ta tb tc : TE} {i : Nat} {v x y : V} {c d : TT} {K : PySem.W.Frag} {g : TG}
theorem r_seq (h : t ⟨u ⟨nx, rt, bk, ct⟩, rt, bk, ct⟩ σ H) : tSeq t u ⟨nx, rt, bk, ct⟩ σ H := h
theorem r_asg (h : te σ H fun v H' => g v σ H' nx) : tAsg te g ⟨nx, rt, bk, ct⟩ σ H := h
theorem r_gname {Q : St → Hp → Prop} (h : Q (σ.set i (some v)) H) : gName i v σ H Q := h
theorem r_gsub {to ti : TE} {s : TSet} {Q : St → Hp → Prop} (h : to σ H fun o H1 => ti σ H1 fun i H2 => s o i v H2 fun H3 => Q σ H3) : gSub to ti s v σ H Q := h
theorem r_drop (h : te σ H fun _ H1 => nx σ H1) : tDrop te ⟨nx, rt, bk, ct⟩ σ H := h
theorem r_ret (h : te σ H rt) : tRet te ⟨nx, rt, bk, ct⟩ σ H := h
theorem r_retN (h : rt .non H) : tRetN ⟨nx, rt, bk, ct⟩ σ H := h
theorem r_next (h : nx σ H) : tNext ⟨nx, rt, bk, ct⟩ σ H := h
theorem r_if (h : c σ H fun b H1 => if b = true then t ⟨nx, rt, bk, ct⟩ σ H1 else u ⟨nx, rt, bk, ct⟩ σ H1) : tIfS c t u ⟨nx, rt, bk, ct⟩ σ H := h
theorem r_var (e : σ[i]? = some (some v)) (h : Q v H) : tVar i σ H Q := ⟨v, e, h⟩
theorem r_c (h : Q v H) : tC v σ H Q := h
theorem r_op {r : R2} (h : ta σ H fun x H1 => tb σ H1 fun y H2 => r x y H2 Q) : tOp r ta tb σ H Q := h
theorem r_un {r : V → Hp → VK → Prop} (h : ta σ H fun x H1 => r x H1 Q) : tUn r ta σ H Q := h
theorem r_U {g : Int → V} {j : Int} (h : Q (g j) H) : rU g (.int j) H Q := ⟨j, rfl, h⟩
theorem r_I0 {g : Int → Int → V} {j k : Int} (h : Q (g j k) H) : rI0 g (.int j) (.int k) H Q := ⟨j, k, rfl, rfl, h⟩
theorem r_I {C : Int → Int → Prop} {g : Int → Int → V} {j k : Int} (hc : C j k) (h : Q (g j k) H) : rI C g (.int j) (.int k) H Q := ⟨j, k, rfl, rfl, hc, h⟩
theorem r_eq (hs : scal x y = true) (h : Q (.bl (decide (x = y))) H) : rEq x y H Q := ⟨hs, h⟩
theorem r_ne (hs : scal x y = true) (h : Q (.bl (!decide (x = y))) H) : rNe x y H Q := ⟨hs, h⟩
theorem r_test {Q : Bool → Hp → Prop} (h : te σ H fun x H' => kBl x fun b => Q b H') : tTest te σ H Q := h
theorem r_tB {Q : Bool → Hp → Prop} (h : te σ H fun x H' => kBl x fun b => Q b H') : tB te σ H Q := h
theorem r_bl {b : Bool} {P : Bool → Prop} (h : P b) : kBl (.bl b) P := ⟨b, rfl, h⟩
theorem r_and {Q : Bool → Hp → Prop} (h : c σ H fun b H1 => if b = true then d σ H1 Q else Q false H1) : tAnd c d σ H Q := h
theorem r_or {Q : Bool → Hp → Prop} (h : c σ H fun b H1 => if b = true then Q true H1 else d σ H1 Q) : tOr c d σ H Q := h
theorem r_not {Q : Bool → Hp → Prop} (h : c σ H fun b H1 => Q (!b) H1) : tNot c σ H Q := h
theorem r_andV (h : ta σ H fun x H1 => kBl x fun b => if b = true then tb σ H1 Q else Q (.bl false) H1) : tAndV ta tb σ H Q := h
theorem r_orV (h : ta σ H fun x H1 => kBl x fun b => if b = true then Q (.bl true) H1 else tb σ H1 Q) : tOrV ta tb σ H Q := h
theorem r_notV (h : ta σ H fun x H1 => kBl x fun b => Q (.bl (!b)) H1) : tNotV ta σ H Q := h
theorem r_ifx (h : c σ H fun b H1 => if b = true then ta σ H1 Q else tb σ H1 Q) : tIf c ta tb σ H Q := h
theorem r_nil {Q : List V → Hp → Prop} (h : Q [] H) : tNil σ H Q := h
theorem r_cons {tr : TA} {Q : List V → Hp → Prop} (h : ta σ H fun x H1 => tr σ H1 fun xs H2 => Q (x :: xs) H2) : tCons ta tr σ H Q := h
theorem r_cal {sp : Sp} {dvs : List V} {E : XK} {t : TA} (h : t σ H fun vs H1 => sp (vs ++ dvs) H1 Q E) : tCall sp dvs E t σ H Q := h
theorem r_cb {r : List V → Hp → VK → Prop} {t : TA} (h : t σ H fun vs H1 => r vs H1 Q) : tCB r t σ H Q := h
theorem r_tup {t : TA} (h : t σ H fun xs H1 => kTup xs H1 Q) : tTup t σ H Q := h
theorem r_lst {t : TA} (h : t σ H fun xs H1 => kLst xs H1 Q) : tLst t σ H Q := h
theorem r_forT {tl : TE} (h : tl σ H fun x H1 => kForT K x g t ⟨nx, rt, bk, ct⟩ σ H1) : tFor (iTup K tl) g t ⟨nx, rt, bk, ct⟩ σ H := h
theorem r_forL {tl : TE} (h : tl σ H fun x H1 => kForL K x g t ⟨nx, rt, bk, ct⟩ σ H1) : tFor (iList K tl) g t ⟨nx, rt, bk, ct⟩ σ H := h
theorem r_forR {ta : TA} (h : ta σ H fun vs H1 => kForR vs g t ⟨nx, rt, bk, ct⟩ σ H1) : tFor (iRng1 ta) g t ⟨nx, rt, bk, ct⟩ σ H := h
theorem r_sl {r : V → Option Int → Option Int → Hp → VK → Prop} {tl th : TO} (h : te σ H fun x H1 => tl σ H1 fun l H2 => th σ H2 fun u H3 => r x l u H3 Q) : tSl r te tl th σ H Q := h
theorem r_nop {Q : Option Int → Hp → Prop} (h : Q none H) : tNoPart σ H Q := h
def kPart (x : V) (P : Int → Prop) : Prop := ∃ j, x = .int j ∧ P j
theorem r_part {Q : Option Int → Hp → Prop} (h : te σ H fun x H1 => kPart x fun j => Q (some j) H1) : tPart te σ H Q := h
theorem r_kPart {j : Int} {P : Int → Prop} (h : P j) : kPart (.int j) P := ⟨j, rfl, h⟩
/-! ends -/
theorem k_tup {xs : List V} (hz : xs.length ≤ sizeLine) (h : ∀ p H2, Gr [] H H2 → H2 p = some (.tup xs) → Q (.ref p) H2) : kTup xs H Q := ⟨hz, fun p hp => h p _ (Gr.new hp) upd_same⟩
theorem k_lst {xs : List V} (hz : xs.length ≤ sizeLine) (h : ∀ p H2, H p = none → Gr [] H H2 → H2 p = some (.lst xs) → Q (.ref p) H2) : kLst xs H Q := ⟨hz, fun p hp => h p _ hp (Gr.new hp) upd_same⟩
theorem k_forT {a : Addr} {xs : List V} (hq : SqT K H a xs) (Pv : Nat → St → Hp → Prop) (h0 : Pv 0 σ H) (hl : ∀ i σ H, i ≤ xs.length → Pv i σ H → SqT K H a xs)
    (hs : ∀ i x σ H, xs[i]? = some x → Pv i σ H → g x σ H fun σ2 H2 => t ⟨Pv (i + 1), rt, nx, Pv (i + 1)⟩ σ2 H2) (hd : ∀ σ H, Pv xs.length σ H → nx σ H) : kForT K (.ref a) g t ⟨nx, rt, bk, ct⟩ σ H :=
  ⟨a, rfl, ⟨xs, hq⟩, for_tup (D := ⟨nx, rt, bk, ct⟩) Pv h0 hl hs hd⟩
theorem k_forL {a : Addr} {xs : List V} (hq : SqL K H a xs) (Pv : Nat → St → Hp → Prop) (h0 : Pv 0 σ H) (hl : ∀ i σ H, i ≤ xs.length → Pv i σ H → SqL K H a xs)
    (hs : ∀ i x σ H, xs[i]? = some x → Pv i σ H → g x σ H fun σ2 H2 => t ⟨Pv (i + 1), rt, nx, Pv (i + 1)⟩ σ2 H2) (hd : ∀ σ H, Pv xs.length σ H → nx σ H) : kForL K (.ref a) g t ⟨nx, rt, bk, ct⟩ σ H :=
  ⟨a, rfl, ⟨xs, hq⟩, for_list (D := ⟨nx, rt, bk, ct⟩) Pv h0 hl hs hd⟩
theorem k_forR {j : Int} (h1 : 0 ≤ j) (h2 : j < 2 ^ 62) (Pv : Nat → St → Hp → Prop) (h0 : Pv 0 σ H)
    (hs : ∀ (i : Nat) σ H, (i : Int) < j → Pv i σ H → g (.int i) σ H fun σ2 H2 => t ⟨Pv (i + 1), rt, nx, Pv (i + 1)⟩ σ2 H2) (hd : ∀ σ H, Pv j.toNat σ H → nx σ H) : kForR [.int j] g t ⟨nx, rt, bk, ct⟩ σ H :=
  ⟨j, rfl, by omega, h2, for_range (D := ⟨nx, rt, bk, ct⟩) Pv h0 (fun i σ H hi p => by
    have e : (0 : Int) + (i : Int) = (i : Int) := Int.zero_add _
    rw [e]
    exact hs i σ H (by omega) p) hd⟩
/-! tests on known and unknown answers -/
theorem i_t {A B : Prop} {b : Bool} (e : b = true) (h : A) : if b = true then A else B := by rw [if_pos e]; exact h
theorem i_f {A B : Prop} {b : Bool} (e : b = false) (h : B) : if b = true then A else B := by rw [e]; exact h
theorem i_2 {A B : Prop} {b : Bool} (h1 : b = true → A) (h2 : b = false → B) : if b = true then A else B := by
  cases b with
  | true => exact h1 rfl
  | false => exact h2 rfl
theorem i_d {A B p : Prop} [Decidable p] (h1 : p → A) (h2 : ¬ p → B) : if decide p = true then A else B := by
  by_cases h : p
  · rw [if_pos (decide_eq_true h)]; exact h1 h
  · rw [if_neg (by simpa using h)]; exact h2 h
theorem i_n {A B p : Prop} [Decidable p] (h1 : p → B) (h2 : ¬ p → A) : if (!decide p) = true then A else B := by
  by_cases h : p
  · rw [if_neg (by simpa using h)]; exact h1 h
  · rw [if_pos (by simpa using h)]; exact h2 h
theorem i_I {A B : Prop} {j k : Int} (h1 : j = k → A) (h2 : j ≠ k → B) : if decide (V.int j = V.int k) = true then A else B :=
  i_d (fun e => h1 (V.int.inj e)) fun e => h2 fun z => e (by rw [z])
theorem i_S {A B : Prop} {j k : Str} (h1 : j = k → A) (h2 : j ≠ k → B) : if decide (V.str j = V.str k) = true then A else B :=
  i_d (fun e => h1 (V.str.inj e)) fun e => h2 fun z => e (by rw [z])
theorem i_nS {A B : Prop} {j k : Str} (h1 : j = k → B) (h2 : j ≠ k → A) : if (!decide (V.str j = V.str k)) = true then A else B :=
  i_n (fun e => h1 (V.str.inj e)) fun e => h2 fun z => e (by rw [z])
/-! parts of a tuple, of a list -/
theorem r_ixT {a : Addr} {xs : List V} {j : Int} (h : SqT K H a xs) (e : atI xs j = some v) (q : Q v H) : rIxT K (.ref a) (.int j) H Q := ⟨a, xs, j, v, rfl, rfl, h, e, q⟩
theorem r_ixL {a : Addr} {xs : List V} {j : Int} (h : SqL K H a xs) (e : atI xs j = some v) (q : Q v H) : rIxL K (.ref a) (.int j) H Q := ⟨a, xs, j, v, rfl, rfl, h, e, q⟩
theorem r_lenQ {a : Addr} {xs : List V} (h : SqL K H a xs ∨ SqT K H a xs) (q : Q (.int xs.length) H) : (∃ p ys, [V.ref a] = [.ref p] ∧ (SqL K H p ys ∨ SqT K H p ys) ∧ Q (.int ys.length) H) := ⟨a, xs, rfl, h, q⟩
end
theorem sz1 {n : Nat} (h : n ≤ 100000) : n ≤ sizeLine := Nat.le_trans h (by decide)

end Xd

/-! text B4 -/
/-! more rules: data compared, texts repeated, dict(()), raising, exceptions that a def is given -/
namespace Xd
open PySem PySem.Spec PyProof.Rows L2

/-! ### == and != of data -/
mutual
def D.py : D → PyData
  | .non => .none
  | .int i => .int i
  | .str x => .str x
  | .tup l => .tuple (D.pys l)
def D.pys : List D → List PyData
  | [] => []
  | d :: r => d.py :: D.pys r
end
mutual
theorem D.py_plain : ∀ d : D, d.py.plain = true
  | .non => rfl
  | .int _ => rfl
  | .str _ => rfl
  | .tup l => by
    show PyData.plainAll (D.pys l) = true
    exact D.pys_plain l
theorem D.pys_plain : ∀ l : List D, PyData.plainAll (D.pys l) = true
  | [] => rfl
  | d :: r => by
    show (d.py.plain && PyData.plainAll (D.pys r)) = true
    rw [D.py_plain d, D.pys_plain r] <;> rfl
end
mutual
theorem Rp.dp {K : PySem.W.Frag} {H : Hp} : ∀ {v : V} {d : D}, Rp H v d → Dp K H v d.py
  | _, _, .non => .non
  | _, _, .int i => .int i
  | _, _, .str x => .str x
  | _, _, .tup h r => .tup (SqT.of h) (Rps.dp r)
theorem Rps.dp {K : PySem.W.Frag} {H : Hp} : ∀ {vs : List V} {ds : List D}, Rps H vs ds → DpAll K H vs (D.pys ds)
  | _, _, .nil => .nil
  | _, _, .cons h r => .cons (Rp.dp h) (Rps.dp r)
end
section
variable {X : Cx}
/-- x != () -/
def rNe0 : R2 := fun x y H Q => ∃ ds a, Rp H x (.tup ds) ∧ y = .ref a ∧ H a = some (.tup []) ∧ Q (.bl (!ds.isEmpty)) H
theorem op_ne0 (hu : X.A.units + 64 < cLine) : OpR X (compareOp .NotEq) rNe0 := by
  intro pins s σ H x y v u Q I rx ry h
  obtain ⟨ds, a, hd, rfl, ha, q⟩ := h
  obtain ⟨as, r1⟩ := Dp.reads I _ x v hd.dp rx
  obtain ⟨bs, r2⟩ := Dp.reads I _ (.ref a) u (Rp.tup ha .nil : Rp H (.ref a) (.tup [])).dp ry
  refine SeqAt.ne_plain r1 r2 (D.py_plain _) (D.py_plain _) ?_ ⟨.bl (!ds.isEmpty), H, I, ?_, q⟩
  · have e : (D.tup []).py.depth = 1 := by rfl
    have z := Nat.min_le_right (D.tup ds).py.depth (D.tup []).py.depth
    omega
  · cases ds with
    | nil => rfl
    | cons d r => rfl
/-- x == y, shallow data -/
def rEqP : R2 := fun x y H Q => ∃ d e, Rp H x d ∧ Rp H y e ∧ d.py.depth ≤ 64 ∧ Q (.bl (PyData.eqv d.py e.py)) H
theorem op_eqP (hu : X.A.units + 64 < cLine) : OpR X (compareOp .Eq) rEqP := by
  intro pins s σ H x y v u Q I rx ry h
  obtain ⟨d, e, hd, he, hz, q⟩ := h
  obtain ⟨as, r1⟩ := Dp.reads I _ x v hd.dp rx
  obtain ⟨bs, r2⟩ := Dp.reads I _ y u he.dp ry
  refine SeqAt.eq_plain r1 r2 (D.py_plain _) (D.py_plain _) ?_ ⟨.bl _, H, I, rfl, q⟩
  have z := Nat.min_le_left d.py.depth e.py.depth
  omega
theorem rep_size (c : Array Nat) : ∀ (k : Nat) (a : Array Nat), ((List.replicate k c).foldl (· ++ ·) a).size = a.size + k * c.size
  | 0, a => by simp
  | k + 1, a => by
    rw [List.replicate_succ, List.foldl_cons, rep_size c k, Array.size_append, Nat.succ_mul]
    omega
theorem sz1' {n : Nat} (h : n ≤ 100000) : n ≤ sizeLine := Nat.le_trans h (by decide)
/-- a text times a small number: some text -/
def rMulS : R2 := fun x y H Q => ∃ z n, x = .str z ∧ y = .int n ∧ 0 ≤ n ∧ n ≤ 100 ∧ z.length ≤ 1000 ∧ ∀ w, w.length ≤ 100000 → Q (.str w) H
theorem op_mulS : OpR X (binaryOp .Mult) rMulS := by
  intro pins s σ H x y v u Q I rx ry h
  obtain ⟨z, n, rfl, rfl, h0, h1, hz, q⟩ := h
  obtain ⟨t, rfl⟩ := rx
  obtain ⟨t', rfl⟩ := ry
  have n1 : n.toNat ≤ 100 := by omega
  have hm : z.length * n.toNat ≤ 1000 * 100 := Nat.mul_le_mul hz n1
  refine P.mul_str (by
      have a1 : ¬ n < -(2 ^ 63 : Int) := by omega
      have a2 : ¬ n ≥ 2 ^ 63 := by omega
      rw [decide_eq_false a1, decide_eq_false a2]; rfl) (fun a1 _ => ?_) (fun _ _ => ?_) ?_
  · have hp : 0 < n := by omega
    have e : (1000 : Int) ≤ (2 ^ 63 - 1) / n := Int.le_ediv_of_mul_le hp (by omega)
    intro hgt
    exact absurd (Int.lt_of_le_of_lt e hgt) (by omega)
  · show decide (z.length * n.toNat > sizeLine) = false
    exact decide_eq_false (by rw [sizeLine_eq]; omega)
  · split
    · exact ⟨by decide, ⟨.str _, H, I.tok _, ⟨_, rfl⟩, q _ (by decide)⟩⟩
    · split
      · exact ⟨.str z, H, I, ⟨t, rfl⟩, q _ (by omega)⟩
      · have hs : ((List.replicate n.toNat z.cps).foldl (· ++ ·) #[]).size ≤ 100000 := by
          rw [rep_size]
          have e : z.cps.size = z.length := rfl
          have e0 : (#[] : Array Nat).size = 0 := rfl
          rw [e, e0, Nat.mul_comm]
          omega
        refine ⟨?_, ⟨.str _, H, I.tok _, ⟨_, rfl⟩, q _ hs⟩⟩
        show ((List.replicate n.toNat z.cps).foldl (· ++ ·) #[]).size ≤ sizeLine
        exact sz1' hs
end
end Xd

/-! text B5 -/
/-! dict(..), raising, exceptions that a def is given -/
namespace Xd
open PySem PySem.Spec PyProof.Rows L2

/-! ### dict(d), dict(()) -/
def rDct (K : PySem.W.Frag) : List V → Hp → VK → Prop := fun xs H Q => ∃ a kvs, xs = [.ref a] ∧ (Rd H a (.dK kvs) ∨ (tupE K a = true ∧ kvs = [])) ∧ ∀ p, H p = none → Q (.ref p) (upd H p (.dK kvs))
theorem call_dct {X : Cx} (hc : X.calm = true) : CallR X (.type "dict") (rDct X.K) := by
  intro pins s σ H xs us Q I r h
  obtain ⟨a, kvs, rfl, h1 | ⟨h1, rfl⟩, q⟩ := h
  · exact call_dictD pins s σ H _ us Q I r ⟨a, kvs, rfl, h1, q⟩
  · obtain ⟨u, rfl, ru⟩ := vals1 r
    obtain rfl : u = Value.ref a := ru
    unfold tupE at h1
    split at h1
    · rename_i c its n sl e
      obtain ⟨e1, e2⟩ := He.ba h1
      have e1 := eq_of_beq e1
      have e2 : its = #[] := Array.isEmpty_iff.mp e2
      subst e1 e2
      have ok : PySem.PlainSeq "tuple" s.heap a #[] ∧ PySem.PairItems s.heap #[] (fun _ => 0) [] := ⟨⟨_, n, I.kIn _ _ e, rfl, rfl, rfl⟩, rfl, fun j k v hj => by simp at hj⟩
      refine PySem.call_dict_pairs (knd := mixKind X.prog X.w) (kvs := []) (PySem.PairArg.tuple a #[] (fun _ => 0) []) (I.ok.hd hc) ok ⟨rfl, fun i key v hr => ?_⟩ (Nat.zero_le _) fun h' tk hd hk => ?_
      · have hr' : ([] : List (Value × Value))[i]? = some (key, v) := hr
        simp at hr'
      · have hm : (s.heap.objs.size == sysModules) = false := beq_eq_false_iff_ne.mpr (Nat.ne_of_gt I.big)
        exact ⟨.ref s.heap.objs.size, upd H s.heap.objs.size (.dK []), I.laid (t' := tk) (fun b u e => hk b u (by simp) e) (Nat.le_refl _) (show ObjOk X.prog X.w _ _ _ (.dK []) from ⟨Nat.zero_le _, hm, [], .nil, hd⟩), rfl, q _ (I.hok.fresh (Nat.le_refl _))⟩
    · cases h1

/-! ### an exception's own __init__ -/
section
variable {X : Cx} {C D a : Addr} {f x : Str} {e e1 : Expr} {es : List Expr} {te : TE} {ta : TA} {p p' p1 p2 pos : Pos}
/-- D.__init__(self, ..), D an own class whose __init__ is ValueError's -/
theorem pe_deed (hg : Gl X x) (hm : X.mg x = some (.ref D)) (rd : ClX.CRead X.K D (.type "type")) (at_ : PySem.W.findCls X.K (.ref D) (.type "type") "__init__" = some (.val (.builtin "ValueError.__init__"))) (ha : PA X (e :: es) ta) {pl : Sem Bool}
    (hc : eval (.Call (.Attribute (.Name x p1) "__init__" p2) (e :: es) [] pos) X.env = (do
      let ov ← eval (.Name x p1) X.env
      standAt p2.atName
      let (f, first) ← holding [ov] (getMethod ov "__init__" pl)
      callWith pos f first (backTo pos (starEach (e :: es) X.env)) (backToKw pos (keywordEach [] X.env))) := by rfl)
    (hdb : (x == ("__debug__" : Str)) = false := by decide) (he : starEach (e :: es) X.env = (false, eval e X.env) :: starEach es X.env := by rfl) (hpl : (backTo pos (starEach es X.env)).any (·.1) = false := by rfl) :
    PE X (.Call (.Attribute (.Name x p1) "__init__" p2) (e :: es) [] pos) (tVeI X.K ta) := by
  refine ⟨fun pins s σ H Q I h => ?_⟩
  refine PySem.W.methodCall_KW (ld_glob I hg hm ?_ hdb) hc
  refine PySem.W.method_cls I.kIn rd.ga (PySem.W.cls_value I.kIn rd.rd at_ (by decide +kernel) ?_)
  show wpAny _ _ (callWith pos (Value.builtin "ValueError.__init__") [] (backTo pos (starEach (e :: es) X.env)) []) _ _ _
  refine PyProof.Rows.callWith_method1 (thn (ha.run pos pins _ σ H _ (I.tok _) h) fun us s1 hh => ?_) he hpl
  obtain ⟨vs, H1, I1, r1, a, C, ws, ev, hl, T, ea, q⟩ := hh
  subst ev
  cases r1 with
  | @cons _ u0 _ ur ra rw1 =>
    obtain rfl : u0 = Value.ref a := ra
    exact oinit_ok T I1 ea (by rw [← Paired.length rw1, sizeLine_eq]; omega) fun s2 J => ⟨.non, H1, J, rfl, q⟩
end
/-- what such an __init__ promises: the field f holds v -/
def spXi (C : Addr) (f : Str) : Sp := fun vs H Q _ => ∃ a v, vs = [.ref a, v] ∧ H a = some (exo a C none) ∧ ∀ dx, H dx = none → dx ≠ a → Q .non (upd (upd H dx (exd dx [(f, v)])) a (exo a C (some dx)))
/-- what raise X(v) asks -/
def kX (C : Addr) (f : Str) (v : V) (H1 : Hp) (E : XK) : Prop := [v].length ≤ 1000 ∧ ∀ a, H1 a = none → spXi C f (.ref a :: ([v] ++ [])) (upd H1 a (exo a C none))
  (fun r H2 => r = .non ∧ ∃ (d : Addr) (fs : List (Str × V)), H2 a = some (exo a C (some d)) ∧ H2 d = some (exd d fs) ∧ H1 d = none ∧ E (.ref C) (some d) (upd (del H2 a) d (.xd fs))) (fun _ _ _ => False)
/-- an error of the class at C whose field f holds data that v stands for -/
theorem k_x {C : Addr} {f : Str} {v : V} {H1 : Hp} {E : XK} (h : ∀ d H2, Gr [] H1 H2 → H2 d = some (.xd [(f, v)]) → E (.ref C) (some d) H2) : kX C f v H1 E := by
  refine ⟨by show 1 ≤ 1000; decide, fun a ha => ⟨a, v, rfl, upd_same, fun dx hdx hne => ⟨rfl, dx, [(f, v)], upd_same, ?_, ?_, ?_⟩⟩⟩
  · rw [upd_ne hne]
    exact upd_same
  · rw [upd_ne hne] at hdx
    exact hdx
  · have hd : H1 dx = none := by
      rw [upd_ne hne] at hdx
      exact hdx
    have key : ∀ b o, H1 b = some o → upd (del (upd (upd (upd H1 a (exo a C none)) dx (exd dx [(f, v)])) a (exo a C (some dx))) a) dx (.xd [(f, v)]) b = some o := fun b o e => by
      have na : b ≠ a := ne_of_none e ha
      have nd : b ≠ dx := ne_of_none e hd
      rw [upd_ne nd, del_ne na, upd_ne na, upd_ne nd, upd_ne na]
      exact e
    exact h dx _ ⟨fun b o e _ => key b o e, fun b xs e => key b _ e⟩ upd_same
/-- raise X(e) -/
def tRz (C : Addr) (f : Str) (te : TE) (E : XK) : TS := fun _ σ H => te σ H fun v H1 => kX C f v H1 E
section
variable {X : Cx} {C fI : Addr} {f x : Str} {e : Expr} {te : TE} {p pos pos' : Pos} {j k : Nat} {E : XK}
theorem ps_rz (T : OexC X.K C) (ini : PySem.W.findIn X.K (.ref C) "__init__" = some (some (.ref fI))) (ty : PySem.W.typeIn X.K (.ref fI) = some (.type "function")) (c : Cal (cxo X) k fI (spXi C f) []) (hr : Room j X.A) (hk : k + 1 ≤ j) (hc : X.calm = true)
    (tk : Takes X (fun cls d _ H => E cls d H)) (hg : Gl X x) (hm : X.mg x = some (.ref C)) (he : PE X e te) (hdb : (x == ("__debug__" : Str)) = false := by decide)
    (hst : starEach [e] X.env = (false, eval e X.env) :: starEach [] X.env := by rfl) (hpl : (backTo pos (starEach [] X.env)).any (·.1) = false := by rfl) : PS X (.Raise (some (.Call (.Name x p) [e] [] pos)) none pos') (tRz C f te E) := by
  obtain ⟨fd, ps, ds, F, kp, b, d⟩ := c.ex
  exact ps_raise hc tk (pmk_oex T ini ty F (hr.mono hk) b d passL hg hm (pa_cons he pa_nil hst) hdb hst hpl)
end
theorem r_rz {C : Addr} {f : Str} {te : TE} {E : XK} {D : Ends} {σ : St} {H : Hp} (h : te σ H fun v H1 => kX C f v H1 E) : tRz C f te E D σ H := h

/-! ### a def that is called in an except suite, with the exception: the exception's object p is told -/
structure FnE (G : Ctx) (k : Nat) (f : Addr) (fd : FuncData) (ps : List Str) (sp : Addr × Obj → Sp) : Prop where
  len : ∀ p vs H Q E, sp p vs H Q E → vs.length = ps.length
  run : ∀ (A : Around) (outer : List Env) (s : Shared) (H : Hp) (args : Args) (us : List Value) (vs : List V) (Q : VK) (E : XK) (p : Addr × Obj), L2H.RoomH k A → L2H.PinOk outer H s p → Env0 G.P G.w G.K G.mg G.base A outer s H → BindsTo s fd args (ps.zip us) → Vals vs us →
    sp p vs H Q E → codeAny (model G.P G.w) A (.call (.ref f) args) (CR L2.CX0 outer G.P G.w H s Q E) s
structure CalE (G : Ctx) (k : Nat) (f : Addr) (sp : Addr × Obj → Sp) : Prop where
  ex : ∃ (fd : FuncData) (ps : List Str), FnE G k f fd ps sp ∧ PySem.W.keepIn G.K (.ref f) = true ∧ Binds G.K fd ps []
abbrev cxE (G : Ctx) (N : List Str) (qual : Str) (scope : Scope) (f : Addr) (cd : Value) (A : Around) (outer : List Env) (s : Shared) (H : Hp) (E : XK) (p : Addr × Obj) : Cx := L2H.cxH L2.CX0 G.P G.w G.K G.mg G.base N qual scope f cd A outer s H E p
theorem calE_of {G : Ctx} {x qual : Str} {params : Arguments} {body : List Stmt} {scope : Scope} {f : Addr} {fd : FuncData} {N ps : List Str} {k : Nat} {sp : Addr × Obj → Sp} (F : FunD G.K x qual params body scope [] [] f fd) (S : FnScope N ps scope)
    (hb : ∀ (kV doc pm : Value) (an : Option Addr) (cdv ct : Value) (us : List Value), us.length = ps.length → bindArgs (PySem.W.fnOf x qual params body scope .none kV doc pm an cdv ct) ⟨us, []⟩ = pure (ps.zip us))
    (len : ∀ p vs H Q E, sp p vs H Q E → vs.length = ps.length)
    (hbody : ∀ (cdv : Value) (A : Around) (outer : List Env) (s : Shared) (H : Hp) (vs : List V) (Q : VK) (E : XK) (p : Addr × Obj), L2H.RoomH k (A.deeper (envOfC qual scope s.heap.objs.size f cdv)) → sp p vs H Q E →
      ∃ t, PSs (cxE G N qual scope f cdv A outer s H E p) body t ∧ t { nx := fun _ H' => Q .non H', rt := Q } (start N vs) H) : CalE G (k + 1) f sp := by
  refine ⟨fd, ps, ?_, F.kp, F.bindsN hb⟩
  obtain ⟨oc, od, dV, kV, doc, pm, an, cdv, ct, osl, efd, lk, hcd, _⟩ := F.ex
  subst efd
  refine ⟨len, fun A outer s H args us vs Q E p room pin e0 bnd rel want => ?_⟩
  have hl : vs.length = ps.length := len _ _ _ _ _ want
  have KX : G.K.In s.heap := e0.mod.kin.keeps fun b o z => (e0.bs b o z).1
  have lim : s.heap.NoLimit := e0.mod.nolimit.keeps fun b o z => (e0.bs b o z).1
  have kinds : ∀ y ∈ ps.zip us, scope.names.lookup y.1 = some .local ∨ (scope.names.lookup y.1 = some .cell ∧ ((cellsFrom (s.heap.objs.size + 1) scope.names []).lookup y.1).isSome = true) := by
    rintro ⟨n, v⟩ hy
    exact (S.par n (List.of_mem_zip hy).1).imp id fun q => ⟨q, PySem.W.cellsFrom_some _ _ _ (.inl q)⟩
  refine codeAny_call_function room.depth (KX _ _ lk) rfl S.co S.gen rfl (PySem.W.codeRec_of KX hcd) (bnd _ _ _ _ (wpAny_newFunctionEnv_cells S.kind kinds fun env he s1 x => ?_))
  subst he
  refine ⟨lim.keeps x.toInCall.keep, codeAny_func ?_⟩
  obtain ⟨t, ht, hq⟩ := hbody cdv A outer s H vs Q E p (room.deeper _) want
  have I : Inv (cxE G N qual scope f cdv A outer s H E p) [] (start N vs) H s1 := L2H.inv_startH S pin e0 hl rel x
  refine wpAny_mono (ht.run [] s1 (start N vs) H _ I hq) (fun fl s2 hs => ?_) fun _ _ hs => hs
  cases fl with
  | ret u => obtain ⟨v, σ2, H2, J, rv, q⟩ := hs; exact ⟨v, H2, J.os, J.bare, J.base, J.hok, rv, q⟩
  | next => obtain ⟨σ2, H2, J, q⟩ := hs; exact ⟨.non, H2, J.os, J.bare, J.base, J.hok, rfl, q⟩
  | brk => obtain ⟨_, _, _, q⟩ := hs; exact q.elim
  | cont => obtain ⟨_, _, _, q⟩ := hs; exact q.elim
/-- f(e, ..) there -/
def tCalE (sp : Sp) (t : TA) : TE := fun σ H Q => t σ H fun vs H1 => sp vs H1 Q E0
theorem r_calE {sp : Sp} {t : TA} {σ : St} {H : Hp} {Q : VK} (h : t σ H fun vs H1 => sp vs H1 Q E0) : tCalE sp t σ H Q := h
section
variable {X : Cx} {k j : Nat} {f : Addr} {sp : Addr × Obj → Sp} {x : Str} {q pos : Pos} {e : Expr} {es : List Expr} {t : TA} {p : Addr × Obj}
theorem pe_calE (c : CalE (cxo X) k f sp) (hm : X.mg x = some (.ref f)) (hr : L2H.RoomH j X.A) (hk : k ≤ j) (hp : p ∈ X.pn) (hg : Gl X x) (ha : PA X (e :: es) t) (hdb : (x == ("__debug__" : Str)) = false := by decide)
    (he : starEach (e :: es) X.env = (false, eval e X.env) :: starEach es X.env := by rfl) (hpl : (backTo pos (starEach es X.env)).any (·.1) = false := by rfl) : PE X (.Call (.Name x q) (e :: es) [] pos) (tCalE (sp p) t) := by
  obtain ⟨fd, ps, F, kp, b⟩ := c.ex
  refine ⟨fun pins s σ H Q I h => wpAny_Call_Name_kw (ld_glob I hg hm ?_ hdb)⟩
  refine PySem.W.callWith_K (h₀ := X.base) I.ok.mod.kin kp (thn (ha.run pos pins s σ H _ I h) fun us s1 hh => ?_) he hpl
  obtain ⟨vs, H1, I1, r, q1⟩ := hh
  refine ⟨I1.kIn, ?_⟩
  show wpAny _ _ (call (.ref f) us) _ _ _
  have hl : us.length = ps.length := by rw [← r.length]; exact F.len _ _ _ _ _ q1
  have bb := b s1 us I1.kIn (by rw [List.append_nil]; exact hl)
  rw [List.append_nil] at bb
  have P1 := I1.pin p (List.mem_append_left _ hp)
  have pin : L2H.PinOk X.stack H1 s1 p := ⟨P1.1, P1.2.1, fun hm => (List.mem_cons.mp (I1.stkSub p.1 hm)).elim P1.2.2.1 P1.2.2.2.1, P1.2.2.2.2⟩
  refine wpAny_call (codeAny_mono (F.run X.A X.stack s1 H1 ⟨us, []⟩ us vs Q E0 p (hr.mono hk) pin I1.env0 bb r q1) fun r2 s2 hq => ?_)
  cases r2 with
  | error er => exact hq.elim
  | ok fl =>
    cases fl with
    | ret u => exact I1.after hq
    | next => exact False.elim hq
    | brk => exact False.elim hq
    | cont => exact False.elim hq
end
end Xd

/-! text B6 -/
/-! the exception a def is given: its class, its field; the rule for a def -/
namespace Xd
open PySem PySem.Spec PyProof.Rows L2

/-- p is an exception of the class at D; its dict is at d -/
structure IsX (K : PySem.W.Frag) (D d : Addr) (p : Addr × Obj) : Prop where
  z : Zc (.ref D) (some d) p.2
  f : ∃ vs, p.2.data = .fields vs
/-- isinstance(e, c) -/
def rIsP (K : PySem.W.Frag) (p : Addr × Obj) : List V → Hp → VK → Prop := fun xs H Q => ∃ (D d : Addr) (fs : List (Str × V)) (c : V) (cv : Value) (b : Bool), xs = [.ref p.1, c] ∧ ClsV c cv ∧ IsX K D d p ∧ ExcC K D ∧ H d = some (.xd fs) ∧ PySem.W.kitOne K (.ref D) cv = some b ∧ Q (.bl b) H
theorem call_isP {X : Cx} {p : Addr × Obj} (hp : p ∈ X.pn) : CallR X (.builtin "isinstance") (rIsP X.K p) := by
  intro pins s σ H xs us Q I r h
  obtain ⟨D, d, fs, c, cv, b, rfl, hcv, hx, C, hd, e, q⟩ := h
  obtain ⟨u1, u2, rfl, r1, r2⟩ := vals2 r
  obtain rfl : u1 = Value.ref p.1 := r1
  have ec := hcv.eq r2
  subst ec
  obtain ⟨hget, _⟩ := I.pin p (List.mem_append_left _ hp)
  have ho : ObjOk X.prog X.w H s.heap d (.xd fs) := I.hok d _ hd
  obtain ⟨mA, hns, _⟩ := ho
  obtain ⟨od, ho, _⟩ := lookIn_ns hns
  obtain ⟨vs, hv⟩ := hx.f
  have J : PySem.W.InstAt s.heap p.1 p.2 D (some od) := ⟨hget, hx.z.1, by unfold PySem.W.notCls; rw [hv] <;> rfl, by rw [hx.z.2]; exact ho⟩
  have hcl : (PySem.W.clsIn X.K D).isSome = true := by
    obtain ⟨cd, e1, _⟩ := PySem.W.any_some C.hd
    rw [e1] <;> rfl
  exact PySem.W.kia_one (PySem.W.kitx_exc hcl C.hg C.hk C.hs C.ha C.hn C.ht C.hm) I.kIn J e (fun z => nomatch z) fun tk => ⟨.bl b, H, I.kept (t' := tk) fun _ _ z => z, rfl, q⟩
/-- e.f -/
def tXp (p : Addr × Obj) (K : PySem.W.Frag) (C : Addr) (f : Str) (te : TE) : TE := fun σ H Q => te σ H fun x H1 => x = .ref p.1 ∧ ∃ d fs v, IsX K C d p ∧ H1 d = some (.xd fs) ∧ fs.lookup f = some v ∧ Q v H1
theorem pe_xp {X : Cx} {C : Addr} {p : Addr × Obj} {e : Expr} {te : TE} {pos : Pos} {n : Str} (T : ExcC X.K C) (hno : PySem.W.findIn X.K (.ref C) n = some none) (hp : p ∈ X.pn) (he : PE X e te) (hb : attributeBase e n X.env (eval e X.env) = eval e X.env := by rfl) :
    PE X (.Attribute e n pos) (tXp p X.K C n te) := by
  refine ⟨fun pins s σ H Q I h => attr_of hb (thn (he.run pins s σ H _ I h) fun u s1 hh => ?_)⟩
  obtain ⟨x, H1, I1, rx, ex, d, fs, v, hx, hd, l, q⟩ := hh
  subst ex
  obtain rfl : u = Value.ref p.1 := rx
  obtain ⟨hget, _⟩ := I1.pin p (List.mem_append_left _ hp)
  have ho : ObjOk X.prog X.w H1 s1.heap d (.xd fs) := I1.hok d _ hd
  obtain ⟨mA, hns, hr⟩ := ho
  obtain ⟨od, ho, hl⟩ := lookIn_ns hns
  obtain ⟨vs, hv⟩ := hx.f
  obtain ⟨w1, hw, rw1⟩ := RelO.some_of (v := v) (o := mA n) (by rw [← l]; exact hr n)
  have J : PySem.W.InstAt s1.heap p.1 p.2 C (some od) := ⟨hget, hx.z.1, by unfold PySem.W.notCls; rw [hv] <;> rfl, by rw [hx.z.2]; exact ho⟩
  exact HandSPX.exc_get I1.kIn J T.hg T.hk T.hs (PySem.W.findObj_own T.hd hno rfl (by rw [hl, hw])) (handed_of rw1) ⟨v, H1, I1.tok _, rw1, q⟩

/-! ### the rule for a def -/
abbrev bX (G : Ctx) (N : List Str) (qual : Str) (scope : Scope) (f : Addr) (cd : Value) (A : Around) (outer : List Env) (s : Shared) (H : Hp) (E : XK) : Cx := cxOf (L2.CX G.P G.w) G.P G.w G.K G.mg G.base N qual scope f cd A outer s H E
theorem cal_of {G : Ctx} {x qual : Str} {params : Arguments} {body : List Stmt} {scope : Scope} {f : Addr} {N ps : List Str} {k : Nat} {sp : Sp} (F : ∃ fd, FunD G.K x qual params body scope [] [] f fd) (S : FnScope N ps scope)
    (hb : ∀ (kV doc pm : Value) (an : Option Addr) (cdv ct : Value) (us : List Value), us.length = ps.length → bindArgs (PySem.W.fnOf x qual params body scope .none kV doc pm an cdv ct) ⟨us, []⟩ = pure (ps.zip us))
    (len : ∀ vs H Q E, sp vs H Q E → vs.length = ps.length)
    (hbody : ∀ (cdv : Value) (A : Around) (outer : List Env) (s : Shared) (H : Hp) (vs : List V) (Q : VK) (E : XK), Room k (A.deeper (envOfC qual scope s.heap.objs.size f cdv)) → sp vs H Q E →
      ∃ t, PSs (bX G N qual scope f cdv A outer s H E) body t ∧ t { nx := fun _ H' => Q .non H', rt := Q } (start N vs) H) : Cal G (k + 1) f sp [] := by
  obtain ⟨fd, F⟩ := F
  exact ⟨fd, ps, [], F.ok S len hbody, F.kp, F.bindsN hb, .nil⟩
end Xd

/-! text B7 -/
/-! small rules: globals, the table of lengths, len of an own object -/
namespace Xd
open PySem PySem.Spec PyProof.Rows L2

section
variable {X : Cx} {x z : Str} {i : Int} {a : Addr} {pos : Pos}
theorem pe_gS (hg : Gl X x) (h : ∃ t, X.mg x = some (.str z t)) (hd : (x == ("__debug__" : Str)) = false := by decide) : PE X (.Name x pos) (tC (.str z)) := by
  obtain ⟨t, h⟩ := h
  exact pe_glob hg h ⟨t, rfl⟩ hd
theorem pe_gI (hg : Gl X x) (h : ∃ t, X.mg x = some (.int i t)) (hd : (x == ("__debug__" : Str)) = false := by decide) : PE X (.Name x pos) (tC (.int i)) := by
  obtain ⟨t, h⟩ := h
  exact pe_glob hg h ⟨t, rfl⟩ hd
theorem pe_gR (hg : Gl X x) (h : X.mg x = some (.ref a)) (hd : (x == ("__debug__" : Str)) = false := by decide) : PE X (.Name x pos) (tC (.ref a)) := pe_glob hg h rfl hd
/-- len(o), o of an own class -/
def rLenO (C : Addr) (sp : Sp) : List V → Hp → VK → Prop := fun xs H Q => ∃ a dx fs, xs = [.ref a] ∧ H a = some (.ins C dx fs) ∧ sp [.ref a] H (fun v H' => ∃ n : Int, v = .int n ∧ 0 ≤ n ∧ n < 2 ^ 62 ∧ Q (.int n) H') E0
theorem call_lenO {C f : Addr} {sp : Sp} {j k : Nat} (hm : Meth X.K C "__len__" f) (c : Cal (cxo X) k f sp []) (hr : Room j X.A) (hk : k + 1 ≤ j) : CallR X (.builtin "len") (rLenO C sp) := by
  intro pins s σ H xs us Q I r h
  obtain ⟨q, dx, fs, rfl, ea, h⟩ := h
  obtain ⟨u, rfl, ru⟩ := vals1 r
  obtain rfl : u = Value.ref q := ru
  obtain ⟨mA, J, _⟩ := ins_get I.hok ea
  obtain ⟨od, J, _⟩ := J.look
  obtain ⟨m, hF⟩ := I.fr
  obtain ⟨fd, ps, ds, F, kp, b, d⟩ := c.ex
  cases d
  refine PySem.W.len_K hF I.ok.mod.kin J hm.at_ hm.fn ?_
  have hl : ([Value.ref q] ++ ([] : List Value)).length = ps.length := by rw [← F.len _ _ _ _ h]; rfl
  have r2 : Vals [V.ref q] [Value.ref q] := .cons rfl .nil
  refine wpAny_call (codeAny_mono (F.run X.A.in1 X.stack s H ⟨[.ref q], []⟩ [.ref q] [.ref q] _ E0 (hr.mono hk).in1 I.env0.in1 (by have z := b s [.ref q] I.kIn hl; rw [List.append_nil] at z; exact z) r2 h) fun r3 s3 hq => ?_)
  cases r3 with
  | error er =>
    obtain ⟨_, _, _, _, _, _, _, _, _, _, _, _, z⟩ := hq
    exact z.elim
  | ok fl =>
    cases fl with
    | ret u =>
      obtain ⟨v, H3, I3, rv, n, ev, h0, h1, q3⟩ := I.after hq
      subst ev
      obtain ⟨t, rfl⟩ := rv
      exact ⟨⟨h0, by omega⟩, .int n, H3, I3.tok _, ⟨_, rfl⟩, q3⟩
    | next => exact False.elim hq
    | brk => exact False.elim hq
    | cont => exact False.elim hq
end
/-! the table of lengths -/
def lenOf (w : Str) : Option Int :=
  if w = "do" then some 3 else if w = "put" then some 2 else if w = "set" then some 3 else if w = "if" then some 4 else if w = "while" then some 3 else if w = "when" then some 5 else
  if w = "return" then some 2 else if w = "leave" then some 2 else if w = "raise" then some 2 else none
theorem Txt.tabk {G : Ctx} (T : Txt G) : He.dicW G.K (He.ga G.K "LENGTHS") = some (He.keysIn G.w.params ["do", "put", "set", "if", "while", "when", "return", "leave", "raise"]) := by
  have e : tsL.map (fun t => He.dicW G.K (t.1 G.K)) = tsL.map fun t => some (He.keysIn G.w.params t.2) := congrArg (fun z : AlZ => z.2.1) T.says
  exact List.cons.inj e |>.1
theorem keyOf_str {e : DictEntry} {x : Str} {h : Int} (z : He.keyOf e = some (x, h)) : ∃ t, e.key = .str x t := by
  unfold He.keyOf at z
  split at z
  · rename_i y t q
    obtain ⟨e1, _⟩ := Prod.mk.inj (Option.some.inj z)
    exact ⟨t, by rw [q, e1]⟩
  · cases z
theorem find_no {P : Params} {z : Str} : ∀ {l : List DictEntry} {ks : List Str}, l.map He.keyOf = He.keysIn P ks → z ∉ ks → l.find? (·.key.isStr z) = none ∧ l.any (·.refKey) = false
  | [], _, _, _ => ⟨rfl, rfl⟩
  | e :: r, [], h, _ => by cases h
  | e :: r, k :: ks, h, hz => by
    have h1 : He.keyOf e :: r.map He.keyOf = some (k, PyData.keyHash P k) :: He.keysIn P ks := h
    injection h1 with h2 h3
    obtain ⟨t, q⟩ := keyOf_str h2
    obtain ⟨i1, i2⟩ := find_no h3 (fun m => hz (List.mem_cons_of_mem _ m))
    have ne : (e.key.isStr z) = false := by
      rw [q]
      cases b : (Value.str k t).isStr z with
      | false => rfl
      | true =>
        have e2 : k = z := by simpa [Value.isStr] using b
        exact absurd (by rw [e2]; exact List.mem_cons_self) hz
    refine ⟨?_, ?_⟩
    · rw [List.find?_cons, ne]
      exact i1
    · rw [List.any_cons, i2, Bool.or_false]
      show e.refKey = false
      unfold DictEntry.refKey
      rw [q]
theorem Txt.len_no {G : Ctx} (T : Txt G) {z : Str} (h : z ∉ (["do", "put", "set", "if", "while", "when", "return", "leave", "raise"] : List Str)) : PySem.W.nsIn G.K (He.ga G.K "LENGTHS") z = some none := by
  have t := T.tabk
  unfold He.dicW at t
  unfold PySem.W.nsIn
  split at t
  · rename_i c es n sl e
    split at t
    · obtain ⟨i1, i2⟩ := find_no (Option.some.inj t) h
      rw [e]
      dsimp only
      rw [i1, i2]
      rfl
    · cases t
  · cases t
end Xd

/-! text B8 -/
/-! readings under names -/
namespace Xd
open PySem PySem.Spec PyProof.Rows L2
section
variable {X : Cx} {H : Hp} {Q : VK} {K : PySem.W.Frag} {a b : Addr} {xs ys : List V} {v : V} {i j : Int}
def rInt1 : List V → Hp → VK → Prop := fun xs H Q => (∃ i, xs = [.int i] ∧ Q (.int i) H) ∨ ∃ k, xs = [.bl k] ∧ Q (.int (if k then 1 else 0)) H
theorem call_int1n : CallR X (.type "int") rInt1 := call_int1
theorem r_int1 (h : Q (.int i) H) : rInt1 [.int i] H Q := .inl ⟨i, rfl, h⟩
theorem r_int1b {k : Bool} (h : Q (.int (if k then 1 else 0)) H) : rInt1 [.bl k] H Q := .inr ⟨k, rfl, h⟩
def rLenQ (K : PySem.W.Frag) : List V → Hp → VK → Prop := fun xs H Q => ∃ p ys, xs = [.ref p] ∧ (SqL K H p ys ∨ SqT K H p ys) ∧ Q (.int ys.length) H
theorem call_lenQ : CallR X (.builtin "len") (rLenQ X.K) := call_len_seq
theorem r_lenL (e : H a = some (.lst xs)) (h : Q (.int xs.length) H) : rLenQ K [.ref a] H Q := ⟨a, xs, rfl, .inl (SqL.of e), h⟩
theorem r_lenT (e : H a = some (.tup xs)) (h : Q (.int xs.length) H) : rLenQ K [.ref a] H Q := ⟨a, xs, rfl, .inr (SqT.of e), h⟩
def rLenStr : List V → Hp → VK → Prop := fun xs H Q => ∃ z, xs = [.str z] ∧ z.length ≤ sizeLine ∧ Q (.int z.length) H
theorem call_lenStr : CallR X (.builtin "len") rLenStr := call_len_str
theorem r_lenStr {z : Str} (hz : z.length ≤ sizeLine) (h : Q (.int z.length) H) : rLenStr [.str z] H Q := ⟨z, rfl, hz, h⟩
def rLstOf (K : PySem.W.Frag) : List V → Hp → VK → Prop := fun xs H Q => ∃ p ys, xs = [.ref p] ∧ (SqL K H p ys ∨ SqT K H p ys) ∧ ∀ l, H l = none → Q (.ref l) (upd H l (.lst ys))
theorem call_lstOf : CallR X (.type "list") (rLstOf X.K) := call_list_of
theorem r_lstOf (e : SqL K H a xs ∨ SqT K H a xs) (h : ∀ p H2, H p = none → Gr [] H H2 → H2 p = some (.lst xs) → Q (.ref p) H2) : rLstOf K [.ref a] H Q := ⟨a, xs, rfl, e, fun l hl => h l _ hl (Gr.new hl) upd_same⟩
def rTupOf (K : PySem.W.Frag) : List V → Hp → VK → Prop := fun xs H Q => ∃ p ys, xs = [.ref p] ∧ ((SqL K H p ys ∧ ∀ l, H l = none → Q (.ref l) (upd H l (.tup ys))) ∨ (SqT K H p ys ∧ Q (.ref p) H))
theorem call_tupOf : CallR X (.type "tuple") (rTupOf X.K) := call_tuple_of
theorem r_tupOfL (e : H a = some (.lst xs)) (h : ∀ p H2, Gr [] H H2 → H2 p = some (.tup xs) → Q (.ref p) H2) : rTupOf K [.ref a] H Q := ⟨a, xs, rfl, .inl ⟨SqL.of e, fun l hl => h l _ (Gr.new hl) upd_same⟩⟩
theorem r_tupOfT (e : H a = some (.tup xs)) (h : Q (.ref a) H) : rTupOf K [.ref a] H Q := ⟨a, xs, rfl, .inr ⟨SqT.of e, h⟩⟩
def rAddStr : R2 := fun x y H Q => ∃ i j, x = .str i ∧ y = .str j ∧ i.length + j.length ≤ sizeLine ∧ Q (.str (i ++ j)) H
theorem op_addStr : OpR X (binaryOp .Add) rAddStr := op_add_str
theorem r_addStr {i j : Str} (hz : i.length + j.length ≤ sizeLine) (h : Q (.str (i ++ j)) H) : rAddStr (.str i) (.str j) H Q := ⟨i, j, rfl, rfl, hz, h⟩
def rLtStr : R2 := fun x y H Q => ∃ i j, x = .str i ∧ y = .str j ∧ Q (.bl (decide (i.cps.toList < j.cps.toList))) H
theorem op_ltStr : OpR X (compareOp .Lt) rLtStr := op_lt_str
theorem r_ltStr {i j : Str} (h : Q (.bl (decide (i.cps.toList < j.cps.toList))) H) : rLtStr (.str i) (.str j) H Q := ⟨i, j, rfl, rfl, h⟩
theorem r_isN (h : Q (.bl (decide (v = .non))) H) : rIsN v .non H Q := ⟨rfl, h⟩
theorem r_notN (h : Q (.bl (!decide (v = .non))) H) : rNotN v .non H Q := ⟨rfl, h⟩
theorem r_ixS {z : Str} {c : Nat} (hz : z.length ≤ sizeLine) (e : atI z.cps.toList i = some c) (h : Q (.str ⟨#[c]⟩) H) : rIxS (.str z) (.int i) H Q := ⟨z, i, c, rfl, rfl, hz, e, h⟩
theorem r_inS {c : Nat} {z : Str} (h : Q (.bl (decide (c ∈ z.cps.toList))) H) : rInS (.str ⟨#[c]⟩) (.str z) H Q := ⟨c, z, rfl, rfl, h⟩
theorem r_niS {c : Nat} {z : Str} (h : Q (.bl (!decide (c ∈ z.cps.toList))) H) : rNotInS (.str ⟨#[c]⟩) (.str z) H Q := ⟨c, z, rfl, rfl, h⟩
theorem r_slS {z : Str} {lo hi : Option Int} (hz : z.length ≤ sizeLine) (h : Q (.str (cutS z lo hi)) H) : rSlS (.str z) lo hi H Q := ⟨z, rfl, hz, h⟩
/-- xs[i] = v of a list -/
theorem r_setL {p : Addr} {k : Nat} {Qh : Hp → Prop} (e : H p = some (.lst xs)) (hi : ixN xs.length i = some k) (h : Qh (upd H p (.lst (xs.set k v)))) : rSetL (.ref p) (.int i) v H Qh := ⟨p, xs, i, k, rfl, rfl, e, hi, h⟩
/-- l.append(v) -/
theorem r_app {l : Addr} (e : H l = some (.lst xs)) (hz : xs.length < sizeLine) (h : Q .non (upd H l (.lst (xs ++ [v])))) : rAppend (.ref l) [v] H Q := ⟨l, xs, v, rfl, rfl, e, hz, h⟩
/-- in, not in a list of flat values -/
theorem r_inL {x : V} {neg : Bool} (e : SqL K H a xs ∨ SqT K H a xs) (hx : flatV x = true) (hf : xs.all flatV = true) (h : Q (.bl (if neg then !inV x xs else inV x xs)) H) : rIn K neg x (.ref a) H Q := ⟨a, xs, rfl, e, hx, hf, h⟩
/-- t + u -/
theorem r_cat {ds es : List V} (ea : H a = some (.tup ds)) (eb : H b = some (.tup es)) (hz : ds.length + es.length ≤ sizeLine) (h : ∀ p H2, Gr [] H H2 → H2 p = some (.tup (ds ++ es)) → Q (.ref p) H2) : rCatA K (.ref a) (.ref b) H Q := by
  refine ⟨a, b, ds, es, rfl, rfl, SqT.of ea, SqT.of eb, hz, fun z => ?_, fun _ z => ?_, fun _ _ p hp => h p _ (Gr.new hp) upd_same⟩
  · subst z
    exact h b H Gr.refl eb
  · subst z
    exact h a H Gr.refl (by rw [List.append_nil]; exact ea)
/-- t[lo:hi] -/
theorem r_slT {lo hi : Option Int} (e : H a = some (.tup xs)) (h : ∀ p H2, Gr [] H H2 → H2 p = some (.tup (cutV xs lo hi)) → Q (.ref p) H2) : rSlA K (.ref a) lo hi H Q := by
  refine ⟨a, xs, rfl, SqT.of e, fun z => ?_, fun _ p hp => h p _ (Gr.new hp) upd_same⟩
  refine h a H Gr.refl ?_
  unfold cutV
  rw [z.1, z.2, List.drop_zero, Nat.sub_zero, List.take_length]
  exact e
/-- xs + ys of lists -/
theorem r_catL {ds es : List V} (ea : H a = some (.lst ds)) (eb : H b = some (.lst es)) (hz : ds.length + es.length ≤ sizeLine) (h : ∀ p H2, H p = none → Gr [] H H2 → H2 p = some (.lst (ds ++ es)) → Q (.ref p) H2) : rCat (.ref a) (.ref b) H Q :=
  ⟨a, b, ds, es, rfl, rfl, ea, eb, hz, fun p hp => h p _ hp (Gr.new hp) upd_same⟩
theorem r_bm {σ : St} {T : String} {r : V → List V → Hp → VK → Prop} {to : TE} {t : TA} (h : to σ H fun x H1 => tyV K T x H1 ∧ t σ H1 fun xs H2 => r x xs H2 Q) : tBM K T r to t σ H Q := h
theorem r_cut {σ : St} {nx : St → Hp → Prop} {rt : VK} {bk ct : St → Hp → Prop} {t u : TS} (Mid : St → Hp → Prop) (h : t ⟨Mid, rt, bk, ct⟩ σ H) (k : ∀ σ' H', Mid σ' H' → u ⟨nx, rt, bk, ct⟩ σ' H') : Evl.tCut t u ⟨nx, rt, bk, ct⟩ σ H := ⟨Mid, h, k⟩
end
end Xd

/-! text B9 -/
/-! loops over a text's signs; comprehensions -/
namespace Xd
open PySem PySem.Spec PyProof.Rows L2
def kForS (x : V) (g : TG) (tb : TS) (D : Ends) (σ : St) (H : Hp) : Prop := ∃ z, x = .str z ∧ ∃ W : Nat → Nat → St → Hp → Prop, (∃ m, W 0 m σ H) ∧ ∀ i m σ H, W i m σ H →
  ((Its z).stop i H ∧ D.nx σ H) ∨ ((Its z).go i H ∧ ∃ N : St → Hp → Prop, (∀ σ' H', N σ' H' → ∃ m', m' < m ∧ W (i + 1) m' σ' H') ∧ ∀ x H', (Its z).yld i H x H' → g x σ H' fun σ2 H2 => tb { D with nx := N, ct := N, bk := D.nx } σ2 H2)
/-- an element of a comprehension is there -/
def kEl (D : Addr) (Nx : Hp → Prop) (y : V) (H4 : Hp) : Prop := ∃ acc, H4 D = some (.lst acc) ∧ acc.length < sizeLine ∧ Nx (upd H4 D (.lst (acc ++ [y])))
def kLcL (K : PySem.W.Frag) (x : V) (g : TG) (te : TE) (vs : List Nat) (σ : St) (H : Hp) (Q : VK) : Prop := tLc (iList K (tC x)) g tYes te vs σ H Q
def kLcT (K : PySem.W.Frag) (x : V) (g : TG) (te : TE) (vs : List Nat) (σ : St) (H : Hp) (Q : VK) : Prop := tLc (iTup K (tC x)) g tYes te vs σ H Q
/-- what stands between the turns of a comprehension -/
def LcI (H : Hp) (D : Addr) (Pv : Nat → List V → Hp → Prop) (i : Nat) (H' : Hp) : Prop := Gr [] H H' ∧ ∃ acc, acc.length = i ∧ H' D = some (.lst acc) ∧ Pv i acc H'
section
variable {σ : St} {H : Hp} {Q : VK} {nx : St → Hp → Prop} {rt : VK} {bk ct : St → Hp → Prop} {t : TS} {te : TE} {K : PySem.W.Frag} {g : TG} {vs : List Nat}
theorem r_forS (h : te σ H fun x H1 => kForS x g t ⟨nx, rt, bk, ct⟩ σ H1) : tFor (iStr te) g t ⟨nx, rt, bk, ct⟩ σ H := h
theorem k_forS {z : Str} (Pv : Nat → St → Hp → Prop) (h0 : Pv 0 σ H)
    (hs : ∀ i c σ H, z.cps.toList[i]? = some c → Pv i σ H → g (.str ⟨#[c]⟩) σ H fun σ2 H2 => t ⟨Pv (i + 1), rt, nx, Pv (i + 1)⟩ σ2 H2) (hd : ∀ σ H, Pv z.cps.toList.length σ H → nx σ H) : kForS (.str z) g t ⟨nx, rt, bk, ct⟩ σ H := by
  refine ⟨z, rfl, for_it (D := ⟨nx, rt, bk, ct⟩) walk_str Pv h0 (fun _ _ _ _ _ => trivial) (fun i x σ H H' hi p y => ?_) fun σ H p => hd σ H p⟩
  obtain ⟨rfl, c, hc, rfl⟩ := y
  exact hs i c σ _ (by rw [Array.getElem?_toList]; exact hc) p
theorem r_lcL {tl te : TE} (h : tl σ H fun x H1 => kLcL K x g te vs σ H1 Q) : tLc (iList K tl) g tYes te vs σ H Q := h
theorem r_lcT {tl te : TE} (h : tl σ H fun x H1 => kLcT K x g te vs σ H1 Q) : tLc (iTup K tl) g tYes te vs σ H Q := h
theorem lcI_0 {D : Addr} {Pv : Nat → List V → Hp → Prop} (hD : H D = none) (h0 : ∀ H2, Gr [] H H2 → Pv 0 [] H2) : LcI H D Pv 0 (upd H D (.lst [])) := ⟨Gr.new hD, [], rfl, upd_same, h0 _ (Gr.new hD)⟩
/-- the turn's end: what stood at the turn's begin (H2), the element y in H4 -/
theorem k_el {D : Addr} {Pv : Nat → List V → Hp → Prop} {i : Nat} {acc : List V} {H2 H4 : Hp} {y : V} (hD : H D = none) (g2 : Gr [] H H2) (e2 : H2 D = some (.lst acc)) (hi : acc.length = i) (hz : i < 100000) (g4 : Gr [] H2 H4)
    (h : ∀ H5, Gr [D] H4 H5 → Pv (i + 1) (acc ++ [y]) H5) : kEl D (LcI H D Pv (i + 1)) y H4 := by
  have e4 := g4.at0 e2
  have gs : Gr [D] H4 (upd H4 D (.lst (acc ++ [y]))) := Gr.set e4 List.mem_cons_self (fun xs z => nomatch z)
  refine ⟨acc, e4, by rw [sizeLine_eq]; omega, ⟨fun a o e _ => ?_, ?_⟩, acc ++ [y], by rw [List.length_append, hi] <;> rfl, upd_same, h _ gs⟩
  · rw [upd_ne (ne_of_none e hD)]
    exact g4.at0 (g2.at0 e)
  · exact (g2.tu.trans g4.tu).trans gs.tu
theorem k_lcL {a : Addr} {xs : List V} (hq : SqL K H a xs) (hst : ∀ H2, Gr [] H H2 → SqL K H2 a xs) (Pv : Nat → List V → Hp → Prop) (h0 : ∀ H2, Gr [] H H2 → Pv 0 [] H2)
    (hs : ∀ D i x acc H2, H D = none → xs[i]? = some x → Gr [] H H2 → acc.length = i → H2 D = some (.lst acc) → Pv i acc H2 → g x (wipe σ vs) H2 fun σ2 H3 => wipe σ2 vs = wipe σ vs ∧ te σ2 H3 fun y H4 => kEl D (LcI H D Pv (i + 1)) y H4)
    (hd : ∀ p H2 acc, H p = none → Gr [] H H2 → H2 p = some (.lst acc) → acc.length = xs.length → Pv xs.length acc H2 → Q (.ref p) H2) : kLcL K (.ref a) g te vs σ H Q := by
  refine ⟨a, rfl, ⟨xs, hq⟩, fun D hD => lc_list (xs := xs) (fun i H' => LcI H D Pv i H') (lcI_0 hD h0) (fun i H' _ p => hst H' p.1) (fun i x H' hi p => ?_) fun H' p => ?_⟩
  · obtain ⟨g2, acc, hl, e2, pv⟩ := p
    exact hs D i x acc H' hD hi g2 hl e2 pv
  · obtain ⟨g2, acc, hl, e2, pv⟩ := p
    exact hd D H' acc hD g2 e2 hl pv
theorem k_lcT {a : Addr} {xs : List V} (hq : H a = some (.tup xs)) (Pv : Nat → List V → Hp → Prop) (h0 : ∀ H2, Gr [] H H2 → Pv 0 [] H2)
    (hs : ∀ D i x acc H2, H D = none → xs[i]? = some x → Gr [] H H2 → acc.length = i → H2 D = some (.lst acc) → Pv i acc H2 → g x (wipe σ vs) H2 fun σ2 H3 => wipe σ2 vs = wipe σ vs ∧ te σ2 H3 fun y H4 => kEl D (LcI H D Pv (i + 1)) y H4)
    (hd : ∀ p H2 acc, H p = none → Gr [] H H2 → H2 p = some (.lst acc) → acc.length = xs.length → Pv xs.length acc H2 → Q (.ref p) H2) : kLcT K (.ref a) g te vs σ H Q := by
  refine ⟨a, rfl, ⟨xs, SqT.of hq⟩, fun D hD => lc_tup (xs := xs) (fun i H' => LcI H D Pv i H') (lcI_0 hD h0) (fun i H' _ p => SqT.of (p.1.at0 hq)) (fun i x H' hi p => ?_) fun H' p => ?_⟩
  · obtain ⟨g2, acc, hl, e2, pv⟩ := p
    exact hs D i x acc H' hD hi g2 hl e2 pv
  · obtain ⟨g2, acc, hl, e2, pv⟩ := p
    exact hd D H' acc hD g2 e2 hl pv
end
section
variable {K : PySem.W.Frag} {H : Hp} {Q : VK} {v : V} {a : Addr} {xs : List V} {j : Int}
theorem r_ixT' (e : H a = some (.tup xs)) (at_ : atI xs j = some v) (q : Q v H) : rIxT K (.ref a) (.int j) H Q := r_ixT (SqT.of e) at_ q
theorem r_ixL' (e : H a = some (.lst xs)) (at_ : atI xs j = some v) (q : Q v H) : rIxL K (.ref a) (.int j) H Q := r_ixL (SqL.of e) at_ q
end
theorem r_m0 {r : V → List V → Hp → VK → Prop} {to : TE} {σ : St} {H : Hp} {Q : VK} (h : to σ H fun x H1 => (∃ a, x = .str a) ∧ r x [] H1 Q) : tM0 r to σ H Q := h
theorem atI_0 {a : V} {r : List V} : atI (a :: r) 0 = some a := atI_nat (j := 0) rfl
theorem atI_1 {a b : V} {r : List V} : atI (a :: b :: r) 1 = some b := atI_nat (j := 1) rfl
theorem atI_2 {a b c : V} {r : List V} : atI (a :: b :: c :: r) 2 = some c := atI_nat (j := 2) rfl
theorem r_gtup {K : PySem.W.Frag} {n : Nat} {t : TGs} {a : Addr} {xs : List V} {σ : St} {H : Hp} {Q : St → Hp → Prop} (e : H a = some (.tup xs)) (hl : xs.length = n) (h : t xs σ H Q) : gTup K n t (.ref a) σ H Q := ⟨a, xs, rfl, SqT.of e, hl, h⟩
theorem r_gcons {t : TG} {u : TGs} {v : V} {r : List V} {σ : St} {H : Hp} {Q : St → Hp → Prop} (h : t v σ H fun σ' H' => u r σ' H' Q) : gCons t u (v :: r) σ H Q := ⟨v, r, rfl, h⟩
theorem r_gnil {σ : St} {H : Hp} {Q : St → Hp → Prop} (h : Q σ H) : gNil [] σ H Q := ⟨rfl, h⟩
theorem r_while {c : TT} {tb : TS} {nx : St → Hp → Prop} {rt : VK} {bk ct : St → Hp → Prop} {σ : St} {H : Hp} (W : Nat → St → Hp → Prop) (m : Nat) (h0 : W m σ H)
    (hs : ∀ m σ H, W m σ H → c σ H fun b H1 => if b = true then ∃ N : St → Hp → Prop, (∀ σ' H', N σ' H' → ∃ m', m' < m ∧ W m' σ' H') ∧ tb ⟨N, rt, nx, N⟩ σ H1 else nx σ H1) : tWhile c tb ⟨nx, rt, bk, ct⟩ σ H := ⟨W, ⟨m, h0⟩, hs⟩
theorem r_bm0 {K : PySem.W.Frag} {T : String} {r : V → List V → Hp → VK → Prop} {to : TE} {σ : St} {H : Hp} {Q : VK} (h : to σ H fun x H1 => tyV K T x H1 ∧ r x [] H1 Q) : tBM0 K T r to σ H Q := h
theorem r_pop {l : Addr} {ws : List V} {v : V} {H : Hp} {Q : VK} (e : H l = some (.lst (ws ++ [v]))) (h : Q v (upd H l (.lst ws))) : rPop (.ref l) [] H Q :=
  ⟨l, ws ++ [v], v, rfl, rfl, e, by simp, by rw [List.dropLast_concat]; exact h⟩
theorem i_nI {A B : Prop} {j k : Int} (h1 : j = k → B) (h2 : j ≠ k → A) : if (!decide (V.int j = V.int k)) = true then A else B :=
  i_n (fun e => h1 (V.int.inj e)) fun e => h2 fun z => e (by rw [z])
theorem r_chain {r r' : R2} {ta tb tc : TE} {σ : St} {H : Hp} {Q : VK} (h : ta σ H fun x H1 => tb σ H1 fun y H2 => r x y H2 fun z H3 => kBl z fun k => if k = true then tc σ H3 fun w' H4 => r' y w' H4 Q else Q (.bl false) H3) : tChain r r' ta tb tc σ H Q := h
theorem r_veI {K : PySem.W.Frag} {ta : TA} {σ : St} {H : Hp} {Q : VK} (h : ta σ H fun vs H1 => ∃ (a C : Addr) (ws : List V), vs = .ref a :: ws ∧ ws.length ≤ 1000 ∧ OexC K C ∧ H1 a = some (exo a C none) ∧ Q .non H1) : tVeI K ta σ H Q := h
def kOst (K : PySem.W.Frag) (f : Str) (x y : V) (H2 : Hp) (Nx : Hp → Prop) : Prop := ∃ a C : Addr, x = .ref a ∧ OexC K C ∧ PySem.W.findIn K (.ref C) f = some none ∧
  ((H2 a = some (exo a C none) ∧ ∀ dx, H2 dx = none → dx ≠ a → Nx (upd (upd H2 dx (exd dx [(f, y)])) a (exo a C (some dx)))) ∨
    ∃ (dx : Addr) (fs : List (Str × V)), H2 a = some (exo a C (some dx)) ∧ H2 dx = some (exd dx fs) ∧ fs.length ≤ 900 ∧ Nx (upd H2 dx (exd dx ((f, y) :: fs))))
theorem r_ost {K : PySem.W.Frag} {f : Str} {to te : TE} {nx : St → Hp → Prop} {rt : VK} {bk ct : St → Hp → Prop} {σ : St} {H : Hp} (h : te σ H fun y H1 => to σ H1 fun x H2 => kOst K f x y H2 (nx σ)) : tOst K f to te ⟨nx, rt, bk, ct⟩ σ H := h
theorem k_ost {K : PySem.W.Frag} {f : Str} {a C : Addr} {y : V} {H2 : Hp} {Nx : Hp → Prop} (o : OexC K C) (no : PySem.W.findIn K (.ref C) f = some none) (e : H2 a = some (exo a C none)) (h : ∀ dx, H2 dx = none → dx ≠ a → Nx (upd (upd H2 dx (exd dx [(f, y)])) a (exo a C (some dx)))) : kOst K f (.ref a) y H2 Nx := ⟨a, C, rfl, o, no, .inl ⟨e, h⟩⟩
def kDin (x y : V) (H : Hp) (Q : VK) : Prop := ∃ a o, x = .ref a ∧ DGet H a y o ∧ Q (.bl o.isSome) H
def kDnin (x y : V) (H : Hp) (Q : VK) : Prop := ∃ a o, x = .ref a ∧ DGet H a y o ∧ Q (.bl (!o.isSome)) H
def kDget (x y : V) (H : Hp) (Q : VK) : Prop := ∃ a v, x = .ref a ∧ DGet H a y (some v) ∧ Q v H
section
variable {ty td : TE} {σ : St} {H : Hp} {Q : VK} {a : Addr} {kvs : List (Key × V)} {k : Key} {v : V}
theorem r_din (h : ty σ H fun y H1 => td σ H1 fun x H2 => kDin x y H2 Q) : tDIn ty td σ H Q := h
theorem r_dnin (h : ty σ H fun y H1 => td σ H1 fun x H2 => kDnin x y H2 Q) : tDNotIn ty td σ H Q := h
theorem r_dget (h : td σ H fun x H1 => ty σ H1 fun y H2 => kDget x y H2 Q) : tDGet td ty σ H Q := h
theorem k_din (e : H a = some (.dK kvs)) (h : Q (.bl (valV kvs k).isSome) H) : kDin (.ref a) (kV k) H Q := ⟨a, _, rfl, DGet.k e, h⟩
theorem k_dnin (e : H a = some (.dK kvs)) (h : Q (.bl (!(valV kvs k).isSome)) H) : kDnin (.ref a) (kV k) H Q := ⟨a, _, rfl, DGet.k e, h⟩
theorem k_dget (e : H a = some (.dK kvs)) (l : valV kvs k = some v) (h : Q v H) : kDget (.ref a) (kV k) H Q := ⟨a, v, rfl, by rw [← l]; exact DGet.k e, h⟩
end
theorem cal_never {G : Ctx} {x qual : Str} {params : Arguments} {body : List Stmt} {scope : Scope} {f : Addr} {N ps : List Str} {k : Nat} {sp : Sp} (F : ∃ fd, FunD G.K x qual params body scope [] [] f fd) (S : FnScope N ps scope)
    (hb : ∀ (kV doc pm : Value) (an : Option Addr) (cdv ct : Value) (us : List Value), us.length = ps.length → bindArgs (PySem.W.fnOf x qual params body scope .none kV doc pm an cdv ct) ⟨us, []⟩ = pure (ps.zip us))
    (no : ∀ vs H Q E, ¬ sp vs H Q E) : Cal G k f sp [] := by
  obtain ⟨fd, F⟩ := F
  exact Cal.never F.kp (F.bindsN hb) no
theorem ix_tupB {X : Cx} {K : PySem.W.Frag} (h : X.K = K) : IxR X (rIxT K) := by subst h; exact ix_tup
theorem r_setD {H : Hp} {a : Addr} {kvs : List (Key × V)} {x : Str} {v : V} {Q : Hp → Prop} (e : H a = some (.dK kvs)) (hz : kvs.length < sizeLine) (h : Q (upd H a (.dK (putK kvs (.inr x) v)))) : rSetD (.ref a) (.str x) v H Q := ⟨a, _, rfl, DPut.k (k := .inr x) e hz, h⟩
end Xd

/-! text D1 -/
/-! draws -/
namespace Xd
open PySem PySem.Spec PyProof.Rows L2
local macro_rules | `(tactic| walk_at "w1") => `(tactic| first
  | with_reducible apply r_seq
  | with_reducible apply r_asg
  | with_reducible apply r_gname
  | ((with_reducible apply r_var); exact rfl)
  | with_reducible apply r_c
  | with_reducible apply r_op
  | with_reducible apply r_I0
  | ((with_reducible apply r_eq); exact rfl)
  | ((with_reducible apply r_ne); exact rfl)
  | with_reducible apply r_if
  | with_reducible apply r_test
  | with_reducible apply r_tB
  | with_reducible apply r_bl
  | with_reducible apply r_and
  | with_reducible apply r_or
  | with_reducible apply r_not
  | with_reducible apply r_ret
  | with_reducible apply r_drop
  | with_reducible apply r_cons
  | with_reducible apply r_nil
  | with_reducible apply r_cal
  | with_reducible apply r_cb
  | with_reducible apply r_tup
  | with_reducible apply r_lst
  | with_reducible apply r_next
  | with_reducible apply r_retN
  | with_reducible apply r_un
  | with_reducible apply r_U
  | with_reducible apply r_andV
  | with_reducible apply r_orV
  | with_reducible apply r_notV
  | with_reducible apply r_ifx
  | with_reducible apply r_forT
  | with_reducible apply r_forL
  | with_reducible apply r_forR
  | with_reducible apply r_sl
  | with_reducible apply r_nop
  | with_reducible apply r_part
  | with_reducible apply r_kPart
  | with_reducible apply r_gsub
  | with_reducible apply r_int1
  | with_reducible apply r_isN
  | with_reducible apply r_notN
  | with_reducible apply r_ltStr
  | with_reducible apply r_inS
  | with_reducible apply r_niS
  | with_reducible apply r_bm
  | with_reducible apply r_forS
  | with_reducible apply r_lcL
  | with_reducible apply r_lcT
  | ((with_reducible apply i_f); exact rfl)
  | ((with_reducible apply i_t); exact rfl)
  | ((with_reducible apply r_I); first | exact Or.inr ⟨by decide, by decide⟩ | exact (by decide) | assumption | exact ⟨by omega, by omega⟩ | exact (by omega) | exact ⟨by decide, by decide, by decide⟩))
local macro_rules | `(tactic| walk_at "w") => `(tactic| repeat (walk_at "w1"))

/-- the pool at p: the numbers, the place, the rest, the cell, the turns -/
def Pool (s p : Addr) (H : Hp) : Prop := ∃ (xs : List Int) (i a b c : Int), H p = some (.lst [.ref s, .int i, .int a, .int b, .int c]) ∧ H s = some (.lst (xs.map V.int)) ∧ s ≠ p ∧ 0 ≤ i
theorem Pool.lst {sc p : Addr} {H : Hp} (h : Pool sc p H) : ∃ xs, H p = some (.lst xs) := let ⟨_, _, _, _, _, e, _⟩ := h; ⟨_, e⟩
def spMixed : Sp := fun vs H Q _ => ∃ c t l : Int, vs = [.int c, .int t, .int l] ∧ 0 < l ∧ ∀ r : Int, 0 ≤ r → r < l → Q (.int r) H
def spDraw : Sp := fun vs H Q _ => ∃ (sc p : Addr) (l : Int), vs = [.ref p, .int l] ∧ Pool sc p H ∧ 0 < l ∧ l < 1073741824 ∧ ∀ (r : Int) (H' : Hp), 0 ≤ r → r < l → Gr [p] H H' → Pool sc p H' → Q (.int r) H'
theorem sc__law_mixed : FnScope ["_law_cell", "_law_turn", "_law_limit", "_law_first", "_law_second", "_law_third"] ["_law_cell", "_law_turn", "_law_limit"] (defScope s__law_mixed) := ⟨rfl, rfl, rfl, by decide +kernel, rfl, by decide +kernel, by decide +kernel⟩
theorem sc__law_draw : FnScope ["_law_pool_here", "_law_limit", "_law_digit", "_law_cell"] ["_law_pool_here", "_law_limit"] (defScope s__law_draw) := ⟨rfl, rfl, rfl, by decide +kernel, rfl, by decide +kernel, by decide +kernel⟩
section
variable {G : Ctx}
theorem k__law_mixed (T : Txt G) : Cal G 1 (He.ga G.K "_law_mixed") spMixed [] := by
  refine cal_of T.f__law_mixed sc__law_mixed (fun _ _ _ _ _ _ us hl => match us, hl with | [_, _, _], _ => rfl) (fun vs H Q E h => ?_) (fun cdv A outer s H vs Q E hr h => ⟨_, ((pss_cons (ps_set (i := 3) sc__law_mixed.nd rfl (Or.inl rfl) (pe_op op_mod (pe_callTy call_int1n rfl T.v_int (by decide +kernel) (pa_cons (pe_op op_add (pe_op op_add (pe_op op_mul (pv 0) pe_int) (pe_op op_mul (pv 1) pe_int)) pe_int) pa_nil)) pe_int))
    (pss_cons (ps_set (i := 4) sc__law_mixed.nd rfl (Or.inl rfl) (pe_op op_mod (pe_callTy call_int1n rfl T.v_int (by decide +kernel) (pa_cons (pe_op op_add (pe_op op_add (pe_op op_mul (pv 3) pe_int) (pe_op op_mul (pv 0) pe_int)) (pe_op op_mul (pv 1) pe_int)) pa_nil)) pe_int))
    (pss_cons (ps_set (i := 5) sc__law_mixed.nd rfl (Or.inl rfl) (pe_op op_mod (pe_callTy call_int1n rfl T.v_int (by decide +kernel) (pa_cons (pe_op op_add (pe_op op_mul (pv 4) pe_int) (pe_op op_fdiv (pv 3) pe_int)) pa_nil)) pe_int))
    (pss_one (ps_ret (pe_op op_mod (pe_callTy call_int1n rfl T.v_int (by decide +kernel) (pa_cons (pv 5) pa_nil)) (pv 2)))))))), ?_⟩)
  · obtain ⟨c, t, l, rfl, _⟩ := h
    rfl
  obtain ⟨c, t, l, rfl, hl, k⟩ := h
  walk_at "w"
  exact k _ (Int.emod_nonneg _ (by omega)) (Int.emod_lt_of_pos _ hl)
theorem set_pool (s : Addr) (i a b c : Int) {p : Addr} {H : Hp} {xs : List Int} {o : HO} (e : H p = some o) (ho : ∀ ys, o ≠ .tup ys) (hs : H s = some (.lst (xs.map V.int))) (ne : s ≠ p) (hi : 0 ≤ i) :
    Pool s p (upd H p (.lst [.ref s, .int i, .int a, .int b, .int c])) ∧ Gr [p] H (upd H p (.lst [.ref s, .int i, .int a, .int b, .int c])) :=
  ⟨⟨xs, i, a, b, c, upd_same, by rw [upd_ne ne]; exact hs, ne, hi⟩, Gr.set e List.mem_cons_self ho⟩
theorem k__law_draw (T : Txt G) (c__law_mixed : Cal G 1 (He.ga G.K "_law_mixed") spMixed []) : Cal G 2 (He.ga G.K "_law_draw") spDraw [] := by
  refine cal_of T.f__law_draw sc__law_draw (fun _ _ _ _ _ _ us hl => match us, hl with | [_, _], _ => rfl) (fun vs H Q E h => ?_) (fun cdv A outer s H vs Q E hr h => ⟨_, ((pss_cons (ps_if (pt_cmpR op_gt (pe_ix ix_list (pv 0) pe_int (fun _ _ => rfl)) pe_int (nomark _)) (pss_cons (ps_set (i := 2) sc__law_draw.nd rfl (Or.inl rfl) (pe_op op_mod (pe_callTy call_int1n rfl T.v_int (by decide +kernel) (pa_cons (pe_ix ix_list (pv 0) pe_int (fun _ _ => rfl)) pa_nil)) (pv 1)))
    (pss_cons (ps_asg (pe_op op_fdiv (pe_ix ix_list (pv 0) pe_int (fun _ _ => rfl)) (pv 1)) (pg_sub (pv 0) pe_int set_list))
    (pss_one (ps_ret (pv 2))))) pss_nil)
    (pss_cons (ps_if (pt_cmpR op_gt (pe_ix ix_list (pv 0) pe_int (fun _ _ => rfl)) pe_int (nomark _)) (pss_cons (ps_asg (pe_op op_sub (pe_ix ix_list (pv 0) pe_int (fun _ _ => rfl)) pe_int) (pg_sub (pv 0) pe_int set_list))
    (pss_one (ps_ret (pe_cal c__law_mixed T.g__law_mixed hr (by omega) (takes_of rfl rfl rfl rfl) (fun _ _ _ _ h => h) rfl (pa_cons (pe_ix ix_list (pv 0) pe_int (fun _ _ => rfl)) (pa_cons (pe_ix ix_list (pv 0) pe_int (fun _ _ => rfl)) (pa_cons (pv 1) pa_nil))))))) pss_nil)
    (pss_cons (ps_if (pt_cmpR op_ge (pe_ix ix_list (pv 0) pe_int (fun _ _ => rfl)) (pe_callB call_lenQ rfl T.v_len PySem.boot_len (pa_cons (pe_ix ix_list (pv 0) pe_int (fun _ _ => rfl)) pa_nil)) (nomark _)) (pss_one (ps_ret pe_int)) pss_nil)
    (pss_cons (ps_set (i := 3) sc__law_draw.nd rfl (Or.inl rfl) (pe_ix ix_list (pe_ix ix_list (pv 0) pe_int (fun _ _ => rfl)) (pe_ix ix_list (pv 0) pe_int (fun _ _ => rfl)) (fun _ _ => rfl)))
    (pss_cons (ps_asg (pe_op op_add (pe_ix ix_list (pv 0) pe_int (fun _ _ => rfl)) pe_int) (pg_sub (pv 0) pe_int set_list))
    (Evl.pss_cut (ps_if (pt_cmpR op_lt (pv 3) pe_int (nomark _)) (pss_one (ps_set (i := 3) sc__law_draw.nd rfl (Or.inl rfl) (pe_op op_sub (pe_un un_neg pe_int) (pv 3)))) pss_nil)
    (pss_cons (ps_if (pt_cmpR op_ge (pv 3) (pe_op op_pow pe_int pe_int) (nomark _)) (pss_cons (ps_asg (pe_op op_fdiv (pv 3) (pv 1)) (pg_sub (pv 0) pe_int set_list))
    (pss_one (ps_ret (pe_op op_mod (pe_callTy call_int1n rfl T.v_int (by decide +kernel) (pa_cons (pv 3) pa_nil)) (pv 1))))) pss_nil)
    (pss_cons (ps_asg (pv 3) (pg_sub (pv 0) pe_int set_list))
    (pss_cons (ps_asg pe_int (pg_sub (pv 0) pe_int set_list))
    (pss_one (ps_ret (pe_cal c__law_mixed T.g__law_mixed hr (by omega) (takes_of rfl rfl rfl rfl) (fun _ _ _ _ h => h) rfl (pa_cons (pv 3) (pa_cons pe_int (pa_cons (pv 1) pa_nil)))))))))))))))), ?_⟩)
  · obtain ⟨_, p, l, rfl, _⟩ := h
    rfl
  obtain ⟨sc, p, l, rfl, ⟨xs, i, a, b, c, eP, eS, ne, hi⟩, hl, hl2, k⟩ := h
  have n5 : ∀ {a b c d e : V} ys, HO.lst [a, b, c, d, e] ≠ .tup ys := fun _ z => nomatch z
  walk_at "w"
  refine r_ixL (SqL.of eP) rfl ?_
  walk_at "w"
  refine i_d (fun h2 => ?_) (fun h2 => ?_)
  · walk_at "w"
    refine r_ixL (SqL.of eP) rfl ?_
    walk_at "w"
    refine r_ixL (SqL.of eP) rfl ?_
    walk_at "w"
    obtain ⟨z1, z2⟩ := set_pool sc i (a / l) b c eP n5 eS ne hi
    refine r_setL (k := 2) eP rfl ?_
    walk_at "w"
    exact k _ _ (Int.emod_nonneg _ (by omega)) (Int.emod_lt_of_pos _ hl) z2 z1
  walk_at "w"
  refine r_ixL (SqL.of eP) rfl ?_
  walk_at "w"
  refine i_d (fun h4 => ?_) (fun h4 => ?_)
  · walk_at "w"
    refine r_ixL (SqL.of eP) rfl ?_
    walk_at "w"
    obtain ⟨z1, z2⟩ := set_pool sc i a b (c - 1) eP n5 eS ne hi
    refine r_setL (k := 4) eP rfl ?_
    walk_at "w"
    refine r_ixL (SqL.of upd_same) rfl ?_
    walk_at "w"
    refine r_ixL (SqL.of upd_same) rfl ?_
    walk_at "w"
    exact ⟨_, _, l, rfl, hl, fun r h0 h1 => k r _ h0 h1 z2 z1⟩
  walk_at "w"
  refine r_ixL (SqL.of eP) rfl ?_
  walk_at "w"
  refine r_ixL (SqL.of eP) rfl ?_
  walk_at "w"
  refine r_lenL eS ?_
  walk_at "w"
  refine i_d (fun h1 => ?_) (fun h1 => ?_)
  · walk_at "w"
    exact k 0 H (Int.le_refl _) hl Gr.refl ⟨xs, i, a, b, c, eP, eS, ne, hi⟩
  rw [List.length_map] at h1
  have hx : xs[i.toNat]? = some xs[i.toNat] := List.getElem?_eq_getElem (by omega)
  have hat : atI (xs.map V.int) i = some (.int xs[i.toNat]) := at_of (j := i.toNat) (by omega) (by rw [List.getElem?_map, hx] <;> rfl)
  walk_at "w"
  refine r_ixL (SqL.of eP) rfl ?_
  walk_at "w"
  refine r_ixL (SqL.of eP) rfl ?_
  refine r_ixL (SqL.of eS) hat ?_
  walk_at "w"
  refine r_ixL (SqL.of eP) rfl ?_
  walk_at "w"
  obtain ⟨z1, z2⟩ := set_pool sc (i + 1) a b c eP n5 eS ne (by omega)
  refine r_setL (k := 1) eP rfl ?_
  generalize xs[i.toNat] = cell
  refine r_cut (fun σ' H' => ∃ z : Int, σ' = [some (.ref p), some (.int l), none, some (.int z)] ∧ H' = upd H p (.lst [.ref sc, .int (i + 1), .int a, .int b, .int c])) ?_ ?_
  · walk_at "w"
    refine i_d (fun _ => ?_) (fun _ => ?_)
    · walk_at "w"
      exact ⟨_, rfl, rfl⟩
    · walk_at "w"
      exact ⟨_, rfl, rfl⟩
  rintro σ' H' ⟨z, rfl, rfl⟩
  have e1 : upd H p (.lst [.ref sc, .int (i + 1), .int a, .int b, .int c]) p = some (.lst [.ref sc, .int (i + 1), .int a, .int b, .int c]) := upd_same
  have eS1 : upd H p (.lst [.ref sc, .int (i + 1), .int a, .int b, .int c]) sc = some (.lst (xs.map V.int)) := by rw [upd_ne ne]; exact eS
  generalize upd H p (.lst [.ref sc, .int (i + 1), .int a, .int b, .int c]) = H1 at z1 z2 e1 eS1 ⊢
  walk_at "w"
  refine i_d (fun _ => ?_) (fun _ => ?_)
  · walk_at "w"
    obtain ⟨y1, y2⟩ := set_pool sc (i + 1) (z / l) b c e1 n5 eS1 ne (by omega)
    refine r_setL (k := 2) e1 rfl ?_
    walk_at "w"
    exact k _ _ (Int.emod_nonneg _ (by omega)) (Int.emod_lt_of_pos _ hl) (z2.trans y2) y1
  walk_at "w"
  obtain ⟨y1, y2⟩ := set_pool sc (i + 1) a z 7 e1 n5 eS1 ne (by omega)
  refine r_setL (k := 3) e1 rfl ?_
  walk_at "w"
  refine r_setL (k := 4) upd_same rfl ?_
  walk_at "w"
  rw [upd_upd]
  exact ⟨_, _, l, rfl, hl, fun r h0 h1 => k r _ h0 h1 (z2.trans y2) y1⟩
end
end Xd

/-! text D2 -/
/-! rest, letters, names, numbers, kinds -/
namespace Xd
open PySem PySem.Spec PyProof.Rows L2
local macro_rules | `(tactic| walk_at "w1") => `(tactic| first
  | with_reducible apply r_seq
  | with_reducible apply r_asg
  | with_reducible apply r_gname
  | ((with_reducible apply r_var); exact rfl)
  | with_reducible apply r_c
  | with_reducible apply r_op
  | with_reducible apply r_I0
  | ((with_reducible apply r_eq); exact rfl)
  | ((with_reducible apply r_ne); exact rfl)
  | with_reducible apply r_if
  | with_reducible apply r_test
  | with_reducible apply r_tB
  | with_reducible apply r_bl
  | with_reducible apply r_and
  | with_reducible apply r_or
  | with_reducible apply r_not
  | with_reducible apply r_ret
  | with_reducible apply r_drop
  | with_reducible apply r_cons
  | with_reducible apply r_nil
  | with_reducible apply r_cal
  | with_reducible apply r_cb
  | with_reducible apply r_tup
  | with_reducible apply r_lst
  | with_reducible apply r_next
  | with_reducible apply r_retN
  | with_reducible apply r_un
  | with_reducible apply r_U
  | with_reducible apply r_andV
  | with_reducible apply r_orV
  | with_reducible apply r_notV
  | with_reducible apply r_ifx
  | with_reducible apply r_forT
  | with_reducible apply r_forL
  | with_reducible apply r_forR
  | with_reducible apply r_sl
  | with_reducible apply r_nop
  | with_reducible apply r_part
  | with_reducible apply r_kPart
  | with_reducible apply r_gsub
  | with_reducible apply r_int1
  | with_reducible apply r_isN
  | with_reducible apply r_notN
  | with_reducible apply r_ltStr
  | with_reducible apply r_inS
  | with_reducible apply r_niS
  | with_reducible apply r_bm
  | with_reducible apply r_forS
  | with_reducible apply r_lcL
  | with_reducible apply r_lcT
  | ((with_reducible apply i_f); exact rfl)
  | ((with_reducible apply i_t); exact rfl)
  | ((with_reducible apply r_I); first | exact Or.inr ⟨by decide, by decide⟩ | exact (by decide) | assumption | exact ⟨by omega, by omega⟩ | exact (by omega) | exact ⟨by decide, by decide, by decide⟩))
local macro_rules | `(tactic| walk_at "w") => `(tactic| repeat (walk_at "w1"))

abbrev LET : Str := "abcdefghijklmnopqrstuvwxyz"
abbrev DIG : Str := "0123456789"
def letL : List Nat := (List.range 26).map (· + 97)
def digL : List Nat := (List.range 10).map (· + 48)
theorem LET_l : LET.cps.toList = letL := by decide +kernel
theorem DIG_l : DIG.cps.toList = digL := by decide +kernel
theorem app_l (a b : Str) : (a ++ b).cps.toList = a.cps.toList ++ b.cps.toList := by
  show (a.cps ++ b.cps).toList = _
  rw [Array.toList_append]
theorem app_n (a b : Str) : (a ++ b).length = a.length + b.length := by
  show (a.cps ++ b.cps).size = _
  rw [Array.size_append] <;> rfl
theorem len_l (a : Str) : a.length = a.cps.toList.length := rfl
theorem one_l (c : Nat) : (⟨#[c]⟩ : Str).cps.toList = [c] := rfl
theorem one_n (c : Nat) : (⟨#[c]⟩ : Str).length = 1 := rfl
/-- a letter, then letters and digits, twelve signs at most -/
def isNm (x : Str) : Bool := match x.cps.toList with
  | [] => false
  | c :: r => decide (r.length ≤ 11) && (decide (c ∈ letL) && r.all fun d => decide (d ∈ letL ++ digL))
theorem isNm_of {x : Str} {c : Nat} {r : List Nat} (e : x.cps.toList = c :: r) (h1 : r.length ≤ 11) (h2 : c ∈ letL) (h3 : ∀ d ∈ r, d ∈ letL ++ digL) : isNm x = true := by
  unfold isNm
  rw [e]
  dsimp only
  rw [decide_eq_true h1, decide_eq_true h2, Bool.true_and, Bool.true_and]
  exact List.all_eq_true.mpr fun d hd => decide_eq_true (h3 d hd)
theorem isNm_to {x : Str} (h : isNm x = true) : ∃ c r, x.cps.toList = c :: r ∧ r.length ≤ 11 ∧ c ∈ letL ∧ ∀ d ∈ r, d ∈ letL ++ digL := by
  unfold isNm at h
  split at h
  · cases h
  · rename_i c r e
    obtain ⟨h1, h⟩ := Bool.and_eq_true_iff.mp h
    obtain ⟨h2, h3⟩ := Bool.and_eq_true_iff.mp h
    exact ⟨c, r, e, of_decide_eq_true h1, of_decide_eq_true h2, fun d hd => of_decide_eq_true (List.all_eq_true.mp h3 d hd)⟩
def spRest : Sp := fun vs H Q _ => ∃ (sc p : Addr), vs = [.ref p] ∧ Pool sc p H ∧ ∀ b, Q (.bl b) H
def spConst (v : V) : Sp := fun vs H Q _ => vs = [] ∧ Q v H
def spName : Sp := fun vs H Q _ => ∃ (sc p : Addr), vs = [.ref p] ∧ Pool sc p H ∧ ∀ x H', isNm x = true → Gr [p] H H' → Pool sc p H' → Q (.str x) H'
theorem sc__law_rest : FnScope ["_law_pool_here"] ["_law_pool_here"] (defScope s__law_rest) := ⟨rfl, rfl, rfl, by decide +kernel, rfl, by decide +kernel, by decide +kernel⟩
theorem sc__law_letters : FnScope [] [] (defScope s__law_letters) := ⟨rfl, rfl, rfl, by decide +kernel, rfl, by decide +kernel, by decide +kernel⟩
theorem sc__law_name : FnScope ["_law_pool_here", "_law_signs_here", "_law_name_here", "_law_more", "_law_k"] ["_law_pool_here"] (defScope s__law_name) := ⟨rfl, rfl, rfl, by decide +kernel, rfl, by decide +kernel, by decide +kernel⟩
section
variable {G : Ctx}
theorem k__law_rest (T : Txt G) : Cal G 1 (He.ga G.K "_law_rest") spRest [] := by
  refine cal_of T.f__law_rest sc__law_rest (fun _ _ _ _ _ _ us hl => match us, hl with | [_], _ => rfl) (fun vs H Q E h => ?_) (fun cdv A outer s H vs Q E hr h => ⟨_, ((pss_one (ps_ret (pe_or (pe_cmpR op_gt (pe_ix ix_list (pv 0) pe_int (fun _ _ => rfl)) pe_int (nomark _)) (pe_or (pe_cmpR op_gt (pe_ix ix_list (pv 0) pe_int (fun _ _ => rfl)) pe_int (nomark _)) (pe_one (pe_cmpR op_lt (pe_ix ix_list (pv 0) pe_int (fun _ _ => rfl)) (pe_callB call_lenQ rfl T.v_len PySem.boot_len (pa_cons (pe_ix ix_list (pv 0) pe_int (fun _ _ => rfl)) pa_nil)) (nomark _)))))))), ?_⟩)
  · obtain ⟨sc, p, rfl, _⟩ := h
    rfl
  obtain ⟨sc, p, rfl, ⟨xs, i, a, b, c, eP, eS, ne, hi⟩, k⟩ := h
  walk_at "w"
  refine r_ixL (SqL.of eP) rfl ?_
  walk_at "w"
  refine i_d (fun _ => k true) (fun _ => ?_)
  walk_at "w"
  refine r_ixL (SqL.of eP) rfl ?_
  walk_at "w"
  refine i_d (fun _ => k true) (fun _ => ?_)
  walk_at "w"
  refine r_ixL (SqL.of eP) rfl ?_
  walk_at "w"
  refine r_ixL (SqL.of eP) rfl ?_
  walk_at "w"
  refine r_lenL eS ?_
  walk_at "w"
  exact k _
theorem k__law_letters (T : Txt G) : Cal G 1 (He.ga G.K "_law_letters") (spConst (.str LET)) [] := by
  refine cal_of T.f__law_letters sc__law_letters (fun _ _ _ _ _ _ us hl => match us, hl with | [], _ => rfl) (fun vs H Q E h => ?_) (fun cdv A outer s H vs Q E hr h => ⟨_, ((pss_one (ps_ret pe_str))), ?_⟩)
  · obtain ⟨rfl, _⟩ := h
    rfl
  obtain ⟨rfl, k⟩ := h
  walk_at "w"
  exact k
theorem k__law_name (T : Txt G) (c__law_letters : Cal G 1 (He.ga G.K "_law_letters") (spConst (.str LET)) []) (c__law_draw : Cal G 2 (He.ga G.K "_law_draw") spDraw []) : Cal G 3 (He.ga G.K "_law_name") spName [] := by
  refine cal_of T.f__law_name sc__law_name (fun _ _ _ _ _ _ us hl => match us, hl with | [_], _ => rfl) (fun vs H Q E h => ?_) (fun cdv A outer s H vs Q E hr h => ⟨_, ((pss_cons (ps_set (i := 1) sc__law_name.nd rfl (Or.inl rfl) (pe_op op_addStr (pe_cal0 c__law_letters T.g__law_letters hr (by omega) (takes_of rfl rfl rfl rfl) (fun _ _ _ _ h => h) rfl) pe_str))
    (pss_cons (ps_set (i := 2) sc__law_name.nd rfl (Or.inl rfl) (pe_ix ix_str (pv 1) (pe_cal c__law_draw T.g__law_draw hr (by omega) (takes_of rfl rfl rfl rfl) (fun _ _ _ _ h => h) rfl (pa_cons (pv 0) (pa_cons pe_int pa_nil))) (fun _ _ => rfl)))
    (pss_cons (ps_set (i := 3) sc__law_name.nd rfl (Or.inl rfl) (pe_cal c__law_draw T.g__law_draw hr (by omega) (takes_of rfl rfl rfl rfl) (fun _ _ _ _ h => h) rfl (pa_cons (pv 0) (pa_cons pe_int pa_nil))))
    (Evl.pss_cut (ps_if (pt_cmpR op_eq (pe_cal c__law_draw T.g__law_draw hr (by omega) (takes_of rfl rfl rfl rfl) (fun _ _ _ _ h => h) rfl (pa_cons (pv 0) (pa_cons pe_int pa_nil))) pe_int (nomark _)) (pss_one (ps_set (i := 3) sc__law_name.nd rfl (Or.inl rfl) (pe_cal c__law_draw T.g__law_draw hr (by omega) (takes_of rfl rfl rfl rfl) (fun _ _ _ _ h => h) rfl (pa_cons (pv 0) (pa_cons pe_int pa_nil))))) pss_nil)
    (pss_cons (ps_for (passes_of rfl) rfl (pi_range1 rfl T.v_range (pa_cons (pv 3) pa_nil)) (pg_name (i := 4) sc__law_name.nd rfl (Or.inl rfl))
    (pss_one (ps_set (i := 2) sc__law_name.nd rfl (Or.inl rfl) (pe_op op_addStr (pv 2) (pe_ix ix_str (pv 1) (pe_cal c__law_draw T.g__law_draw hr (by omega) (takes_of rfl rfl rfl rfl) (fun _ _ _ _ h => h) rfl (pa_cons (pv 0) (pa_cons pe_int pa_nil))) (fun _ _ => rfl))))))
    (pss_one (ps_ret (pv 2))))))))), ?_⟩)
  · obtain ⟨sc, p, rfl, _⟩ := h
    rfl
  obtain ⟨sc, p, rfl, hP, k⟩ := h
  walk_at "w"
  refine ⟨rfl, ?_⟩
  walk_at "w"
  refine r_addStr (by decide) ?_
  have eS : (LET ++ ("0123456789" : Str)).cps.toList = letL ++ digL := by rw [app_l, LET_l, DIG_l]
  have nS : (LET ++ ("0123456789" : Str)).length ≤ 1000 := by decide
  generalize LET ++ ("0123456789" : Str) = S at eS nS ⊢
  walk_at "w"
  refine ⟨sc, p, 26, rfl, hP, by decide, by decide, fun r1 H1 a0 a1 g1 hP1 => ?_⟩
  obtain ⟨n1, rfl⟩ := Int.eq_ofNat_of_zero_le a0
  have m1 : n1 < letL.length := by show n1 < 26; omega
  refine r_ixS (sz1 (by omega)) (c := letL[n1]) (by rw [eS]; exact atI_nat (by rw [List.getElem?_append_left m1, List.getElem?_eq_getElem m1])) ?_
  walk_at "w"
  refine ⟨sc, p, 3, rfl, hP1, by decide, by decide, fun r2 H2 b0 b1 g2 hP2 => ?_⟩
  walk_at "w"
  refine r_cut (fun σ' H' => ∃ m : Int, σ' = [some (.ref p), some (.str S), some (.str ⟨#[letL[n1]]⟩), some (.int m), none] ∧ 0 ≤ m ∧ m < 12 ∧ Gr [p] H H' ∧ Pool sc p H') ?_ ?_
  · walk_at "w"
    refine ⟨sc, p, 4, rfl, hP2, by decide, by decide, fun r3 H3 c0 c1 g3 hP3 => ?_⟩
    walk_at "w"
    refine i_I (fun _ => ?_) (fun _ => ?_)
    · walk_at "w"
      refine ⟨sc, p, 12, rfl, hP3, by decide, by decide, fun r4 H4 d0 d1 g4 hP4 => ?_⟩
      walk_at "w"
      exact ⟨r4, rfl, d0, d1, ((g1.trans g2).trans g3).trans g4, hP4⟩
    · walk_at "w"
      exact ⟨r2, rfl, b0, by omega, (g1.trans g2).trans g3, hP3⟩
  rintro σ' H' ⟨m, rfl, m0, m12, g, hP'⟩
  walk_at "w"
  refine k_forR m0 (by omega) (fun i σ' H'' => ∃ (x : Str) (r : List Nat) (o : Option V), σ' = [some (.ref p), some (.str S), some (.str x), some (.int m), o] ∧ x.cps.toList = letL[n1] :: r ∧ r.length = i ∧ (∀ d ∈ r, d ∈ letL ++ digL) ∧ Gr [p] H H'' ∧ Pool sc p H'')
    ⟨_, [], none, rfl, rfl, rfl, fun _ z => by simp at z, g, hP'⟩ ?_ ?_
  · rintro i σ2 H2 hi ⟨x, r, o, rfl, ex, er, hr, g2, hP2⟩
    walk_at "w"
    refine ⟨sc, p, 36, rfl, hP2, by decide, by decide, fun r5 H5 e0 e1 g5 hP5 => ?_⟩
    obtain ⟨n5, rfl⟩ := Int.eq_ofNat_of_zero_le e0
    have m5 : n5 < (letL ++ digL).length := by show n5 < 36; omega
    refine r_ixS (sz1 (by omega)) (c := (letL ++ digL)[n5]) (by rw [eS]; exact atI_nat (List.getElem?_eq_getElem m5)) ?_
    walk_at "w"
    refine r_addStr (sz1 (by rw [len_l, ex, one_n, List.length_cons]; omega)) ?_
    walk_at "w"
    refine ⟨x ++ ⟨#[(letL ++ digL)[n5]]⟩, r ++ [(letL ++ digL)[n5]], some (.int i), rfl, ?_, ?_, ?_, g2.trans g5, hP5⟩
    · rw [app_l, ex, one_l] <;> rfl
    · rw [List.length_append, er] <;> rfl
    · intro d hd
      rcases List.mem_append.mp hd with z | z
      · exact hr d z
      · rw [List.mem_singleton.mp z]
        exact List.getElem_mem m5
  · rintro σ2 H2 ⟨x, r, o, rfl, ex, er, hr, g2, hP2⟩
    walk_at "w"
    exact k x H2 (isNm_of ex (by omega) (List.getElem_mem m1) hr) g2 hP2
end
end Xd

/-! text D3 -/
/-! fresh names, numbers, kinds -/
namespace Xd
open PySem PySem.Spec PyProof.Rows L2
local macro_rules | `(tactic| walk_at "w1") => `(tactic| first
  | with_reducible apply r_seq
  | with_reducible apply r_asg
  | with_reducible apply r_gname
  | ((with_reducible apply r_var); exact rfl)
  | with_reducible apply r_c
  | with_reducible apply r_op
  | with_reducible apply r_I0
  | ((with_reducible apply r_eq); exact rfl)
  | ((with_reducible apply r_ne); exact rfl)
  | with_reducible apply r_if
  | with_reducible apply r_test
  | with_reducible apply r_tB
  | with_reducible apply r_bl
  | with_reducible apply r_and
  | with_reducible apply r_or
  | with_reducible apply r_not
  | with_reducible apply r_ret
  | with_reducible apply r_drop
  | with_reducible apply r_cons
  | with_reducible apply r_nil
  | with_reducible apply r_cal
  | with_reducible apply r_cb
  | with_reducible apply r_tup
  | with_reducible apply r_lst
  | with_reducible apply r_next
  | with_reducible apply r_retN
  | with_reducible apply r_un
  | with_reducible apply r_U
  | with_reducible apply r_andV
  | with_reducible apply r_orV
  | with_reducible apply r_notV
  | with_reducible apply r_ifx
  | with_reducible apply r_forT
  | with_reducible apply r_forL
  | with_reducible apply r_forR
  | with_reducible apply r_sl
  | with_reducible apply r_nop
  | with_reducible apply r_part
  | with_reducible apply r_kPart
  | with_reducible apply r_gsub
  | with_reducible apply r_int1
  | with_reducible apply r_isN
  | with_reducible apply r_notN
  | with_reducible apply r_ltStr
  | with_reducible apply r_inS
  | with_reducible apply r_niS
  | with_reducible apply r_bm
  | with_reducible apply r_forS
  | with_reducible apply r_lcL
  | with_reducible apply r_lcT
  | ((with_reducible apply i_f); exact rfl)
  | ((with_reducible apply i_t); exact rfl)
  | ((with_reducible apply r_I); first | exact Or.inr ⟨by decide, by decide⟩ | exact (by decide) | assumption | exact ⟨by omega, by omega⟩ | exact (by omega) | exact ⟨by decide, by decide, by decide⟩))
local macro_rules | `(tactic| walk_at "w") => `(tactic| repeat (walk_at "w1"))

theorem inV_str {x : Str} : ∀ {us : List Str}, inV (.str x) (us.map V.str) = decide (x ∈ us)
  | [] => by simp [inV]
  | u :: r => by
    have ih := inV_str (x := x) (us := r)
    show (eqV (.str u) (.str x) || inV (.str x) (r.map V.str)) = _
    rw [ih]
    show ((u == x) || decide (x ∈ r)) = decide (x ∈ u :: r)
    by_cases e : u = x
    · subst e; simp
    · have e2 : (u == x) = false := by simpa using e
      rw [e2, Bool.false_or]
      have e3 : (x ∈ u :: r) ↔ x ∈ r := by
        rw [List.mem_cons]
        exact ⟨fun z => z.elim (fun y => absurd y.symm e) id, .inr⟩
      exact decide_eq_decide.mpr e3.symm
theorem flat_strs (us : List Str) : (us.map V.str).all flatV = true := List.all_eq_true.mpr fun v hv => by
  obtain ⟨u, _, rfl⟩ := List.mem_map.mp hv
  rfl
theorem cut11 (x : Str) : (cutS x none (some 11)).cps.toList = x.cps.toList.take 11 := by
  show ((((x.cps.toList.drop 0).take (HT.sIx x.length x.length (some ((11 : Nat) : Int)) - 0)).toArray).toList) = _
  rw [HT.sIx_nat, List.drop_zero, Nat.sub_zero]
  show x.cps.toList.take (min 11 x.length) = _
  rw [len_l, ← List.take_eq_take_min]
theorem Pool.ne {sc p u : Addr} {H : Hp} {us : List Str} (h : Pool sc p H) (hu : H u = some (.lst (us.map V.str))) : u ≠ p := by
  obtain ⟨xs, i, a, b, c, e, _⟩ := h
  intro z
  subst z
  rw [hu] at e
  have e2 := HO.lst.inj (Option.some.inj e)
  cases us with
  | nil => cases e2
  | cons x r => cases (List.cons.inj e2).1
def spFresh : Sp := fun vs H Q _ => ∃ (sc p u : Addr) (us : List Str), vs = [.ref p, .ref u] ∧ Pool sc p H ∧ H u = some (.lst (us.map V.str)) ∧ us.length ≤ 1000 ∧ ∀ x H', isNm x = true → (us.length ≤ 1 → x ∉ us) → Gr [p] H H' → Pool sc p H' → Q (.str x) H'
def spNumber : Sp := fun vs H Q _ => ∃ (sc p : Addr), vs = [.ref p] ∧ Pool sc p H ∧ ∀ (n : Int) H', 0 ≤ n → n ≤ 999 → Gr [p] H H' → Pool sc p H' → Q (.int n) H'
/-- a step's kind -/
inductive KindD : D → Prop where
  | plain : KindD (.tup [.str "plain"])
  | num (w : Str) (n : Int) : w = "answer" ∨ w = "heal" → 0 ≤ n → n ≤ 999 → KindD (.tup [.str w, .int n])
  | nam (w x : Str) : w = "jump" ∨ w = "swap" → isNm x = true → KindD (.tup [.str w, .str x])
def spKind : Sp := fun vs H Q _ => ∃ (sc p : Addr), vs = [.ref p] ∧ Pool sc p H ∧ ∀ v d H', KindD d → Rp H' v d → Gr [p] H H' → Pool sc p H' → Q v H'
theorem sc__law_fresh : FnScope ["_law_pool_here", "_law_used", "_law_name_here", "_law_sign"] ["_law_pool_here", "_law_used"] (defScope s__law_fresh) := ⟨rfl, rfl, rfl, by decide +kernel, rfl, by decide +kernel, by decide +kernel⟩
theorem sc__law_number : FnScope ["_law_pool_here"] ["_law_pool_here"] (defScope s__law_number) := ⟨rfl, rfl, rfl, by decide +kernel, rfl, by decide +kernel, by decide +kernel⟩
theorem sc__law_kind : FnScope ["_law_pool_here", "_law_choice"] ["_law_pool_here"] (defScope s__law_kind) := ⟨rfl, rfl, rfl, by decide +kernel, rfl, by decide +kernel, by decide +kernel⟩
section
variable {G : Ctx}
theorem fresh_nm {x : Str} {c : Nat} (h : isNm x = true) (hc : c ∈ letL ++ digL) : isNm (cutS x none (some 11) ++ ⟨#[c]⟩) = true := by
  obtain ⟨c0, r, e, h1, h2, h3⟩ := isNm_to h
  refine isNm_of (c := c0) (r := r.take 10 ++ [c]) (by rw [app_l, cut11, e, one_l] <;> rfl) (by rw [List.length_append, List.length_take]; show min 10 r.length + 1 ≤ 11; omega) h2 fun d hd => ?_
  rcases List.mem_append.mp hd with z | z
  · exact h3 d (List.mem_of_mem_take z)
  · rw [List.mem_singleton.mp z]
    exact hc
theorem isNm_len {x : Str} (h : isNm x = true) : x.length ≤ 12 := by
  obtain ⟨c0, r, e, h1, h2, h3⟩ := isNm_to h
  rw [len_l, e, List.length_cons]
  omega
theorem k__law_fresh (T : Txt G) (c__law_letters : Cal G 1 (He.ga G.K "_law_letters") (spConst (.str LET)) []) (c__law_name : Cal G 3 (He.ga G.K "_law_name") spName []) : Cal G 4 (He.ga G.K "_law_fresh") spFresh [] := by
  refine cal_of T.f__law_fresh sc__law_fresh (fun _ _ _ _ _ _ us hl => match us, hl with | [_, _], _ => rfl) (fun vs H Q E h => ?_) (fun cdv A outer s H vs Q E hr h => ⟨_, ((pss_cons (ps_set (i := 2) sc__law_fresh.nd rfl (Or.inl rfl) (pe_cal c__law_name T.g__law_name hr (by omega) (takes_of rfl rfl rfl rfl) (fun _ _ _ _ h => h) rfl (pa_cons (pv 0) pa_nil)))
    (pss_cons (ps_if (pt_cmpR op_notIn_seq (pv 2) (pv 1) rfl) (pss_one (ps_ret (pv 2))) pss_nil)
    (pss_cons (ps_for (passes_of rfl) rfl (pi_str (pe_op op_addStr (pe_cal0 c__law_letters T.g__law_letters hr (by omega) (takes_of rfl rfl rfl rfl) (fun _ _ _ _ h => h) rfl) pe_str)) (pg_name (i := 3) sc__law_fresh.nd rfl (Or.inl rfl))
    (pss_one (ps_if (pt_cmpR op_notIn_seq (pe_op op_addStr (pe_slice sl_str (pv 2) po_none (po_some pe_int)) (pv 3)) (pv 1) rfl) (pss_one (ps_ret (pe_op op_addStr (pe_slice sl_str (pv 2) po_none (po_some pe_int)) (pv 3)))) pss_nil)))
    (pss_one (ps_ret (pv 2))))))), ?_⟩)
  · obtain ⟨sc, p, u, us, rfl, _⟩ := h
    rfl
  obtain ⟨sc, p, u, us, rfl, hP, hu, hz, k⟩ := h
  have nu := hP.ne hu
  walk_at "w"
  refine ⟨sc, p, rfl, hP, fun x H1 hx g1 hP1 => ?_⟩
  have hu1 : H1 u = some (.lst (us.map V.str)) := g1.keep _ _ hu (by simpa using nu)
  walk_at "w"
  refine r_inL (.inl (SqL.of hu1)) rfl (flat_strs us) ?_
  walk_at "w"
  rw [inV_str]
  refine i_n (fun hin => ?_) (fun hin => ?_)
  · walk_at "w"
    refine ⟨rfl, ?_⟩
    walk_at "w"
    refine r_addStr (by decide) ?_
    have eS : (LET ++ ("0123456789" : Str)).cps.toList = letL ++ digL := by rw [app_l, LET_l, DIG_l]
    generalize LET ++ ("0123456789" : Str) = S at eS ⊢
    refine k_forS (fun i σ' H' => ∃ o, σ' = [some (.ref p), some (.ref u), some (.str x), o] ∧ H' = H1 ∧ ∀ j c, j < i → (letL ++ digL)[j]? = some c → (cutS x none (some 11) ++ ⟨#[c]⟩ : Str) ∈ us) ⟨none, rfl, rfl, fun j c z => by omega⟩ ?_ ?_
    · rintro i c σ2 H2 hi ⟨o, rfl, rfl, hall⟩
      rw [eS] at hi
      have hc : c ∈ letL ++ digL := List.mem_of_getElem? hi
      walk_at "w"
      refine r_slS (sz1 (by have := isNm_len hx; omega)) ?_
      walk_at "w"
      refine r_addStr (sz1 (by have := isNm_len hx; have := cutS_length x none (some 11); rw [one_n]; omega)) ?_
      walk_at "w"
      refine r_inL (.inl (SqL.of hu1)) rfl (flat_strs us) ?_
      walk_at "w"
      rw [inV_str]
      refine i_n (fun hin2 => ?_) (fun hin2 => ?_)
      · walk_at "w"
        refine ⟨some (.str ⟨#[c]⟩), rfl, rfl, fun j d hj hd => ?_⟩
        by_cases e : j = i
        · subst e
          rw [hi] at hd
          cases hd
          exact hin2
        · exact hall j d (by omega) hd
      · walk_at "w"
        refine r_slS (sz1 (by have := isNm_len hx; omega)) ?_
        walk_at "w"
        refine r_addStr (sz1 (by have := isNm_len hx; have := cutS_length x none (some 11); rw [one_n]; omega)) ?_
        exact k _ _ (fresh_nm hx hc) (fun _ => hin2) g1 hP1
    · rintro σ2 H2 ⟨o, rfl, rfl, hall⟩
      walk_at "w"
      refine k x _ hx (fun h1 => ?_) g1 hP1
      rw [eS] at hall
      have a0 := hall 0 97 (by decide) rfl
      have a1 := hall 1 98 (by decide) rfl
      exfalso
      match us, h1, a0, a1 with
      | [w], _, a0, a1 =>
        have e := (List.mem_singleton.mp a0).trans (List.mem_singleton.mp a1).symm
        have e2 := congrArg (fun z : Str => z.cps.toList) e
        rw [app_l, app_l, one_l, one_l] at e2
        have e3 := List.append_cancel_left e2
        cases e3
  · walk_at "w"
    exact k x _ hx (fun _ => hin) g1 hP1
theorem k__law_number (T : Txt G) (c__law_draw : Cal G 2 (He.ga G.K "_law_draw") spDraw []) : Cal G 3 (He.ga G.K "_law_number") spNumber [] := by
  refine cal_of T.f__law_number sc__law_number (fun _ _ _ _ _ _ us hl => match us, hl with | [_], _ => rfl) (fun vs H Q E h => ?_) (fun cdv A outer s H vs Q E hr h => ⟨_, ((pss_cons (ps_if (pt_cmpR op_eq (pe_cal c__law_draw T.g__law_draw hr (by omega) (takes_of rfl rfl rfl rfl) (fun _ _ _ _ h => h) rfl (pa_cons (pv 0) (pa_cons pe_int pa_nil))) pe_int (nomark _)) (pss_one (ps_ret (pe_cal c__law_draw T.g__law_draw hr (by omega) (takes_of rfl rfl rfl rfl) (fun _ _ _ _ h => h) rfl (pa_cons (pv 0) (pa_cons pe_int pa_nil))))) pss_nil)
    (pss_one (ps_ret (pe_cal c__law_draw T.g__law_draw hr (by omega) (takes_of rfl rfl rfl rfl) (fun _ _ _ _ h => h) rfl (pa_cons (pv 0) (pa_cons pe_int pa_nil))))))), ?_⟩)
  · obtain ⟨sc, p, rfl, _⟩ := h
    rfl
  obtain ⟨sc, p, rfl, hP, k⟩ := h
  walk_at "w"
  refine ⟨sc, p, 3, rfl, hP, by decide, by decide, fun r1 H1 a0 a1 g1 hP1 => ?_⟩
  walk_at "w"
  refine i_I (fun _ => ?_) (fun _ => ?_)
  · walk_at "w"
    exact ⟨sc, p, 1000, rfl, hP1, by decide, by decide, fun r2 H2 b0 b1 g2 hP2 => k r2 H2 b0 (by omega) (g1.trans g2) hP2⟩
  · walk_at "w"
    exact ⟨sc, p, 4, rfl, hP1, by decide, by decide, fun r2 H2 b0 b1 g2 hP2 => k r2 H2 b0 (by omega) (g1.trans g2) hP2⟩
theorem Pool.gr {sc p : Addr} {H H' : Hp} (h : Pool sc p H) (g : Gr [] H H') : Pool sc p H' := by
  obtain ⟨xs, i, a, b, c, e, es, r⟩ := h
  exact ⟨xs, i, a, b, c, g.at0 e, g.at0 es, r⟩
theorem k__law_kind (T : Txt G) (c__law_draw : Cal G 2 (He.ga G.K "_law_draw") spDraw []) (c__law_name : Cal G 3 (He.ga G.K "_law_name") spName []) (c__law_number : Cal G 3 (He.ga G.K "_law_number") spNumber []) : Cal G 4 (He.ga G.K "_law_kind") spKind [] := by
  refine cal_of T.f__law_kind sc__law_kind (fun _ _ _ _ _ _ us hl => match us, hl with | [_], _ => rfl) (fun vs H Q E h => ?_) (fun cdv A outer s H vs Q E hr h => ⟨_, ((pss_cons (ps_set (i := 1) sc__law_kind.nd rfl (Or.inl rfl) (pe_cal c__law_draw T.g__law_draw hr (by omega) (takes_of rfl rfl rfl rfl) (fun _ _ _ _ h => h) rfl (pa_cons (pv 0) (pa_cons pe_int pa_nil))))
    (pss_cons (ps_if (pt_cmpR op_eq (pv 1) pe_int (nomark _)) (pss_one (ps_ret (pe_tup (pa_cons pe_str (pa_cons (pe_cal c__law_number T.g__law_number hr (by omega) (takes_of rfl rfl rfl rfl) (fun _ _ _ _ h => h) rfl (pa_cons (pv 0) pa_nil)) pa_nil))))) pss_nil)
    (pss_cons (ps_if (pt_cmpR op_eq (pv 1) pe_int (nomark _)) (pss_one (ps_ret (pe_tup (pa_cons pe_str (pa_cons (pe_cal c__law_name T.g__law_name hr (by omega) (takes_of rfl rfl rfl rfl) (fun _ _ _ _ h => h) rfl (pa_cons (pv 0) pa_nil)) pa_nil))))) pss_nil)
    (pss_cons (ps_if (PW.pt (pw_or (pt_cmpR op_eq (pv 1) pe_int (nomark _)) (pw_or1 (pt_cmpR op_eq (pv 1) pe_int (nomark _))))) (pss_one (ps_ret (pe_tup (pa_cons pe_str (pa_cons (pe_cal c__law_number T.g__law_number hr (by omega) (takes_of rfl rfl rfl rfl) (fun _ _ _ _ h => h) rfl (pa_cons (pv 0) pa_nil)) pa_nil))))) pss_nil)
    (pss_cons (ps_if (pt_cmpR op_eq (pv 1) pe_int (nomark _)) (pss_one (ps_ret (pe_tup (pa_cons pe_str (pa_cons (pe_cal c__law_name T.g__law_name hr (by omega) (takes_of rfl rfl rfl rfl) (fun _ _ _ _ h => h) rfl (pa_cons (pv 0) pa_nil)) pa_nil))))) pss_nil)
    (pss_one (ps_ret (pe_tup (pa_cons pe_str pa_nil)))))))))), ?_⟩)
  · obtain ⟨sc, p, rfl, _⟩ := h
    rfl
  obtain ⟨sc, p, rfl, hP, k⟩ := h
  have num : ∀ (w : Str) (n : Int) H1, w = "answer" ∨ w = "heal" → 0 ≤ n → n ≤ 999 → Gr [p] H H1 → Pool sc p H1 → kTup [.str w, .int n] H1 Q := fun w n H1 hw h0 h1 g1 hP1 =>
    k_tup (by show 2 ≤ sizeLine; decide) fun a H2 g2 e2 => k _ _ _ (.num w n hw h0 h1) (.tup e2 (.cons (.str _) (.cons (.int _) .nil))) (g1.trans g2.any) (hP1.gr g2)
  have nam : ∀ (w x : Str) H1, w = "jump" ∨ w = "swap" → isNm x = true → Gr [p] H H1 → Pool sc p H1 → kTup [.str w, .str x] H1 Q := fun w x H1 hw hx g1 hP1 =>
    k_tup (by show 2 ≤ sizeLine; decide) fun a H2 g2 e2 => k _ _ _ (.nam w x hw hx) (.tup e2 (.cons (.str _) (.cons (.str _) .nil))) (g1.trans g2.any) (hP1.gr g2)
  walk_at "w"
  refine ⟨sc, p, 6, rfl, hP, by decide, by decide, fun r1 H1 a0 a1 g1 hP1 => ?_⟩
  walk_at "w"
  refine i_I (fun _ => ?_) (fun _ => ?_)
  · walk_at "w"
    refine ⟨sc, p, rfl, hP1, fun n H2 b0 b1 g2 hP2 => ?_⟩
    walk_at "w"
    exact num _ n H2 (.inl rfl) b0 b1 (g1.trans g2) hP2
  walk_at "w"
  refine i_I (fun _ => ?_) (fun _ => ?_)
  · walk_at "w"
    refine ⟨sc, p, rfl, hP1, fun x H2 hx g2 hP2 => ?_⟩
    walk_at "w"
    exact nam _ x H2 (.inl rfl) hx (g1.trans g2) hP2
  have heal : tRet (tTup (tCons (tC (.str "heal")) (tCons (tCall spNumber [] E (tCons (tVar 0) tNil)) tNil))) ⟨fun _ H' => Q .non H', Q, fun _ _ => False, fun _ _ => False⟩ [some (.ref p), some (.int r1)] H1 := by
    walk_at "w"
    refine ⟨sc, p, rfl, hP1, fun n H2 b0 b1 g2 hP2 => ?_⟩
    walk_at "w"
    exact num _ n H2 (.inr rfl) b0 b1 (g1.trans g2) hP2
  have rest : tSeq (tIfS (tTest (tOp rEq (tVar 1) (tC (.int 4)))) (tRet (tTup (tCons (tC (.str "swap")) (tCons (tCall spName [] E (tCons (tVar 0) tNil)) tNil)))) tNext) (tRet (tTup (tCons (tC (.str "plain")) tNil))) ⟨fun _ H' => Q .non H', Q, fun _ _ => False, fun _ _ => False⟩ [some (.ref p), some (.int r1)] H1 := by
    walk_at "w"
    refine i_I (fun _ => ?_) (fun _ => ?_)
    · walk_at "w"
      refine ⟨sc, p, rfl, hP1, fun x H2 hx g2 hP2 => ?_⟩
      walk_at "w"
      exact nam _ x H2 (.inr rfl) hx (g1.trans g2) hP2
    walk_at "w"
    exact k_tup (by show _ ≤ sizeLine; decide) fun a H2 g2 e2 => k _ _ _ .plain (.tup e2 (.cons (.str _) .nil)) (g1.trans g2.any) (hP1.gr g2)
  walk_at "w"
  refine i_I (fun _ => ?_) (fun _ => ?_)
  · exact heal
  walk_at "w"
  refine i_I (fun _ => ?_) (fun _ => ?_)
  · exact heal
  · exact rest
end
end Xd

/-! text A1 -/
/-! the plain side: what the trees are made of, their first fault, their size -/
namespace Xd
open PySem PySem.Spec PyProof.Rows L2
abbrev Flt := Str × D
/-- no deeper than n tuples -/
def Dep : Nat → D → Prop
  | 0, .tup _ => False
  | n + 1, .tup l => l.length ≤ 1000 ∧ ∀ x ∈ l, Dep n x
  | _, .non => True
  | _, .int _ => True
  | _, .str _ => True
theorem Dep.mono : ∀ {n m : Nat} {d : D}, Dep n d → n ≤ m → Dep m d
  | _, m, .non, _, _ => by cases m <;> trivial
  | _, m, .int _, _, _ => by cases m <;> trivial
  | _, m, .str _, _, _ => by cases m <;> trivial
  | 0, _, .tup _, h, _ => h.elim
  | n + 1, 0, .tup _, _, h => by omega
  | n + 1, m + 1, .tup l, h, hm => ⟨h.1, fun x hx => Dep.mono (h.2 x hx) (by omega)⟩
theorem dep_str {n : Nat} {x : Str} : Dep n (.str x) := by cases n <;> trivial
theorem dep_int {n : Nat} {i : Int} : Dep n (.int i) := by cases n <;> trivial
theorem dep_non {n : Nat} : Dep n .non := by cases n <;> trivial
/-- an action's argument; a value that is read -/
inductive ArgD : D → Prop where
  | non : ArgD .non
  | int (i : Int) : ArgD (.int i)
  | pair (w x : Str) : ArgD (.tup [.str w, .str x])
theorem ArgD.dep {d : D} (h : ArgD d) {n : Nat} (hn : 1 ≤ n) : Dep n d := by
  cases h with
  | non => exact dep_non
  | int i => exact dep_int
  | pair w x =>
    obtain ⟨m, rfl⟩ : ∃ m, n = m + 1 := ⟨n - 1, by omega⟩
    refine ⟨by show 2 ≤ 1000; decide, ?_⟩
    intro y hy
    rcases List.mem_cons.mp hy with rfl | hy
    · exact dep_str
    · rw [List.mem_singleton.mp hy]
      exact dep_str
/-- an action of n levels -/
def KA : Nat → D → Prop
  | 0, _ => False
  | n + 1, d => ∃ (g s : Str) (a : D) (f : List D), d = .tup [.str g, .str s, a, .tup f] ∧ ArgD a ∧ f.length ≤ 4 ∧ ∀ x ∈ f, KA n x
theorem KA.mono : ∀ {n m : Nat} {d : D}, KA n d → n ≤ m → KA m d
  | 0, _, _, h, _ => h.elim
  | n + 1, 0, _, _, h => by omega
  | n + 1, m + 1, _, ⟨g, s, a, f, e, ha, hl, hf⟩, h => ⟨g, s, a, f, e, ha, hl, fun x hx => (hf x hx).mono (by omega)⟩
theorem KA.dep : ∀ {n : Nat} {d : D}, KA n d → Dep (2 * n) d
  | 0, _, h => h.elim
  | n + 1, _, ⟨g, s, a, f, e, ha, hl, hf⟩ => by
    subst e
    show Dep (2 * n + 1 + 1) _
    refine ⟨by show 4 ≤ 1000; decide, ?_⟩
    intro y hy
    rcases List.mem_cons.mp hy with rfl | hy
    · exact dep_str
    rcases List.mem_cons.mp hy with rfl | hy
    · exact dep_str
    rcases List.mem_cons.mp hy with rfl | hy
    · exact ha.dep (by omega)
    rw [List.mem_singleton.mp hy]
    exact ⟨by omega, fun z hz => KA.dep (hf z hz)⟩
abbrev Sht (x : Str) : Prop := x.length ≤ 100000
/-- a statement's parts behind its word; PB: a block -/
inductive Prt (PB : List D → Prop) : Str → List D → Prop where
  | do_ (x : Str) (v : D) : ArgD v → Prt PB "do" [.str x, v]
  | put (a : D) : KA 7 a → Prt PB "put" [a]
  | set (x : Str) (i : Int) : Prt PB "set" [.str x, .int i]
  | if_ (x : Str) (l m : List D) : Sht x → PB l → PB m → Prt PB "if" [.str x, .tup l, .tup m]
  | while_ (x : Str) (l : List D) : Sht x → PB l → Prt PB "while" [.str x, .tup l]
  | when_ (x : Str) (i : Int) (l m : List D) : PB l → PB m → Prt PB "when" [.str x, .int i, .tup l, .tup m]
  | ret (v : D) : ArgD v → v ≠ .non → Prt PB "return" [v]
  | leave (x : Str) : Sht x → Prt PB "leave" [.str x]
  | raise_ (x : Str) : Sht x → Prt PB "raise" [.str x]
theorem Prt.mono {P Q : List D → Prop} (h : ∀ l, P l → Q l) {w : Str} {r : List D} (p : Prt P w r) : Prt Q w r := by
  cases p with
  | do_ x v a => exact .do_ x v a
  | put a k => exact .put a k
  | set x i => exact .set x i
  | if_ x l m z a b => exact .if_ x l m z (h _ a) (h _ b)
  | while_ x l z a => exact .while_ x l z (h _ a)
  | when_ x i l m a b => exact .when_ x i l m (h _ a) (h _ b)
  | ret v a n => exact .ret v a n
  | leave x z => exact .leave x z
  | raise_ x z => exact .raise_ x z
theorem Prt.len {P : List D → Prop} {w : Str} {r : List D} (p : Prt P w r) : lenOf w = some ((r.length : Int) + 1) := by
  cases p <;> rfl
theorem Prt.few {P : List D → Prop} {w : Str} {r : List D} (p : Prt P w r) : r.length ≤ 4 := by
  cases p <;> simp
theorem all1 {P : D → Prop} {a : D} (h : P a) : ∀ x ∈ [a], P x := fun x hx => by rw [List.mem_singleton.mp hx]; exact h
theorem all2 {P : D → Prop} {a : D} {l : List D} (h : P a) (t : ∀ x ∈ l, P x) : ∀ x ∈ a :: l, P x := fun x hx => by
  rcases List.mem_cons.mp hx with rfl | hx
  · exact h
  · exact t x hx
theorem Prt.dep {P : List D → Prop} {m : Nat} (hP : ∀ l, P l → Dep m (.tup l)) (hm : 14 ≤ m) {w : Str} {r : List D} (p : Prt P w r) : ∀ x ∈ r, Dep m x := by
  cases p with
  | do_ x v a => exact all2 dep_str (all1 (a.dep (by omega)))
  | put a k => exact all1 (k.dep.mono hm)
  | set x i => exact all2 dep_str (all1 dep_int)
  | if_ x l m z a b => exact all2 dep_str (all2 (hP _ a) (all1 (hP _ b)))
  | while_ x l z a => exact all2 dep_str (all1 (hP _ a))
  | when_ x i l m a b => exact all2 dep_str (all2 dep_int (all2 (hP _ a) (all1 (hP _ b))))
  | ret v a n => exact all1 (a.dep (by omega))
  | leave x z => exact all1 dep_str
  | raise_ x z => exact all1 dep_str
/-- a statement of the right form -/
def Sm (PB : List D → Prop) (d : D) : Prop := ∃ w r, d = .tup (.str w :: r) ∧ Prt PB w r
/-- a statement that may be ill formed -/
def KS : Nat → D → Prop
  | 0, _ => False
  | n + 1, d => ∃ (w : Str) (r : List D), d = .tup (.str w :: r) ∧ r.length ≤ 5 ∧ (∀ x ∈ r, Dep (2 * n + 14) x) ∧ (lenOf w = some ((r.length : Int) + 1) → Prt (fun l => l.length ≤ 4 ∧ ∀ s ∈ l, KS n s) w r)
abbrev KB (n : Nat) (l : List D) : Prop := l.length ≤ 4 ∧ ∀ s ∈ l, KS n s
def RS : Nat → D → Prop
  | 0, _ => False
  | n + 1, d => Sm (fun l => l.length ≤ 4 ∧ ∀ s ∈ l, RS n s) d
abbrev RB (n : Nat) (l : List D) : Prop := l.length ≤ 4 ∧ ∀ s ∈ l, RS n s
theorem KS.mono : ∀ {n m : Nat} {d : D}, KS n d → n ≤ m → KS m d
  | 0, _, _, h, _ => h.elim
  | n + 1, 0, _, _, h => by omega
  | n + 1, m + 1, _, ⟨w, r, e, h5, hd, hp⟩, h => ⟨w, r, e, h5, fun x hx => (hd x hx).mono (by omega), fun z => (hp z).mono fun l q => ⟨q.1, fun s hs => KS.mono (q.2 s hs) (by omega)⟩⟩
theorem KS.dep : ∀ {n : Nat} {d : D}, KS n d → Dep (2 * n + 13) d
  | 0, _, h => h.elim
  | n + 1, _, ⟨w, r, e, h5, hd, hp⟩ => by
    subst e
    show Dep (2 * n + 14 + 1) _
    exact ⟨by rw [List.length_cons]; omega, all2 dep_str hd⟩
theorem KB.dep {n : Nat} {l : List D} (h : KB n l) : Dep (2 * n + 14) (.tup l) := ⟨by have := h.1; omega, fun s hs => (h.2 s hs).dep⟩
theorem KB.mono {n m : Nat} {l : List D} (h : KB n l) (hm : n ≤ m) : KB m l := ⟨h.1, fun s hs => (h.2 s hs).mono hm⟩
theorem Sm.ks {n : Nat} {d : D} (h : Sm (KB n) d) : KS (n + 1) d := by
  obtain ⟨w, r, e, p⟩ := h
  exact ⟨w, r, e, by have := p.few; omega, p.dep (fun l q => KB.dep q) (by omega), fun _ => p⟩
theorem KS.bad {n : Nat} {w : Str} {r : List D} (h5 : r.length ≤ 5) (hd : ∀ x ∈ r, Dep (2 * n + 14) x) (hn : lenOf w ≠ some ((r.length : Int) + 1)) : KS (n + 1) (.tup (.str w :: r)) := ⟨w, r, rfl, h5, hd, fun z => absurd z hn⟩
theorem RS.ks : ∀ {n : Nat} {d : D}, RS n d → KS n d
  | 0, _, h => h.elim
  | n + 1, _, ⟨w, r, e, p⟩ => Sm.ks ⟨w, r, e, p.mono fun l q => ⟨q.1, fun s hs => RS.ks (q.2 s hs)⟩⟩
theorem RB.kb {n : Nat} {l : List D} (h : RB n l) : KB n l := ⟨h.1, fun s hs => (h.2 s hs).ks⟩
theorem RS.mono : ∀ {n m : Nat} {d : D}, RS n d → n ≤ m → RS m d
  | 0, _, _, h, _ => h.elim
  | n + 1, 0, _, _, h => by omega
  | n + 1, m + 1, _, ⟨w, r, e, p⟩, h => ⟨w, r, e, p.mono fun l q => ⟨q.1, fun s hs => RS.mono (q.2 s hs) (by omega)⟩⟩

/-! ### the first fault -/
/-- of a value: er is the error of a wrong word -/
def rdF (er : Str) (ok C : List Str) (v s : D) : Option Flt :=
  match v with
  | .int i => if 0 ≤ i ∧ i ≤ 999 then none else some ("BadNumber", .int i)
  | .tup [.str w, .str x] => if w ∈ ok then (if x ∈ C then none else some ("UnknownCell", .str x)) else some (er, s)
  | _ => none
def aF (N C : List Str) : Nat → Int → D → Option Flt
  | 0, _, _ => none
  | n + 1, dp, .tup [.str g, .str s, a, .tup f] =>
    if g ∈ (["done", "error", "always"] : List Str) then
      if s ∈ N then
        match rdF "BadAction" ["now", "late"] C a (.tup [.str g, .str s, a, .tup f]) with
        | some e => some e
        | none => if 3 < f.length ∨ (f ≠ [] ∧ (g = "error" ∨ dp = 2)) then some ("BadAction", .tup [.str g, .str s, a, .tup f]) else f.findSome? (aF N C n (dp + 1))
      else some ("UnknownStep", .str s)
    else some ("BadAction", .tup [.str g, .str s, a, .tup f])
  | _ + 1, _, _ => none
def cellF : List (Str × Int) → Str → Int → Option Flt
  | [], x, _ => some ("UnknownCell", .str x)
  | c :: r, x, i => if c.1 = x then (if 0 ≤ i ∧ i < c.2 then none else some ("BadNumber", .int i)) else cellF r x i
def nmF (x : Str) : Option Flt := if isNm x = true then none else some ("BadName", .str x)
def pF (N : List Str) (C : List (Str × Int)) (w : Str) (r : List D) : Option Flt :=
  if w = "do" then (match r with
    | [.str x, v] => if x ∈ N then rdF "BadStatement" ["now"] (C.map (·.1)) v (.tup (.str w :: r)) else some ("UnknownStep", .str x)
    | _ => none)
  else if w = "put" then (match r with
    | [a] => aF N (C.map (·.1)) 7 0 a
    | _ => none)
  else if w = "set" ∨ w = "when" then (match r with
    | .str x :: .int i :: _ => cellF C x i
    | _ => none)
  else if w = "return" then (match r with
    | [v] => rdF "BadStatement" ["now"] (C.map (·.1)) v (.tup (.str w :: r))
    | _ => none)
  else (match r with
    | .str x :: _ => nmF x
    | _ => none)
def blks (w : Str) (r : List D) : List (List D) :=
  if w = "if" then (match r with
    | [_, .tup l, .tup m] => [l, m]
    | _ => [])
  else if w = "while" then (match r with
    | [_, .tup l] => [l]
    | _ => [])
  else if w = "when" then (match r with
    | [_, _, .tup l, .tup m] => [l, m]
    | _ => [])
  else []
def sF (N : List Str) (C : List (Str × Int)) (rec_ : List D → Option Flt) (s : D) : Option Flt :=
  match s with
  | .tup (.str w :: r) => if lenOf w = some ((r.length : Int) + 1) then (match pF N C w r with
      | some e => some e
      | none => (blks w r).findSome? rec_) else some ("BadStatement", s)
  | _ => none
/-- of a block; b levels may follow -/
def bF (N : List Str) (C : List (Str × Int)) : Nat → List D → Option Flt
  | 0, [] => none
  | 0, s :: _ => some ("BadStatement", s)
  | b + 1, l => l.findSome? (sF N C (bF N C b))
def cntS (rec_ : List D → Nat) (s : D) : Nat :=
  match s with
  | .tup (.str w :: r) => 1 + ((blks w r).map rec_).sum
  | _ => 0
def cnt : Nat → List D → Nat
  | 0, _ => 0
  | b + 1, l => (l.map (cntS (cnt b))).sum
def stores : List (Str × Int) → Int
  | [] => 1
  | c :: r => c.2 * stores r
def fullF (N : List Str) (C : List (Str × Int)) (l : List D) : Option Flt :=
  match bF N C 5 l with
  | some e => some e
  | none => if 24 < cnt 5 l then some ("TooLarge", .int 24) else if 120 < ((cnt 5 l : Int) + 1) * stores C then some ("TooLarge", .int 120) else none
/-! ### loops that find the first -/
theorem find_at {α β : Type} {f : α → Option β} : ∀ {l : List α} {i : Nat} {x : α} {r : β}, l[i]? = some x → f x = some r → (∀ j y, j < i → l[j]? = some y → f y = none) → l.findSome? f = some r
  | [], _, _, _, h, _, _ => by simp at h
  | a :: l, 0, x, r, h, e, _ => by
    simp at h
    subst h
    rw [List.findSome?_cons, e]
  | a :: l, i + 1, x, r, h, e, hj => by
    rw [List.findSome?_cons, hj 0 a (by omega) rfl]
    exact find_at (i := i) (by simpa using h) e fun j y q z => hj (j + 1) y (by omega) (by simpa using z)
theorem find_no' {α β : Type} {f : α → Option β} {l : List α} (h : ∀ j y, j < l.length → l[j]? = some y → f y = none) : l.findSome? f = none := by
  rw [List.findSome?_eq_none_iff]
  intro x hx
  obtain ⟨j, hj, e⟩ := List.getElem_of_mem hx
  exact h j x hj (by rw [List.getElem?_eq_getElem hj, e])
theorem bF_none : ∀ {b n : Nat} {N : List Str} {C : List (Str × Int)} {l : List D}, KB n l → bF N C b l = none → RB b l
  | 0, _, _, _, [], h, _ => ⟨h.1, fun s hs => nomatch hs⟩
  | 0, _, _, _, _ :: _, h, e => by cases e
  | b + 1, n, N, C, l, h, e => by
    refine ⟨h.1, fun s hs => ?_⟩
    have e1 := List.findSome?_eq_none_iff.mp e s hs
    match n, h.2 s hs with
    | n + 1, ⟨w, r, es, h5, hd, hp⟩ =>
      subst es
      unfold sF at e1
      dsimp only at e1
      by_cases hl : lenOf w = some ((r.length : Int) + 1)
      · rw [if_pos hl] at e1
        have p := hp hl
        have e2 : (blks w r).findSome? (bF N C b) = none := by
          revert e1
          cases pF N C w r with
          | some _ => intro z; cases z
          | none => exact id
        have e3 : ∀ m ∈ blks w r, bF N C b m = none := List.findSome?_eq_none_iff.mp e2
        refine ⟨w, r, rfl, ?_⟩
        cases p with
        | do_ x v a => exact .do_ x v a
        | put a k => exact .put a k
        | set x i => exact .set x i
        | if_ x l m z a c => exact .if_ x l m z (bF_none a (e3 l (by exact List.mem_cons_self))) (bF_none c (e3 m (by exact List.mem_cons_of_mem _ List.mem_cons_self)))
        | while_ x l z a => exact .while_ x l z (bF_none a (e3 l (by exact List.mem_cons_self)))
        | when_ x i l m a c => exact .when_ x i l m (bF_none a (e3 l (by exact List.mem_cons_self))) (bF_none c (e3 m (by exact List.mem_cons_of_mem _ List.mem_cons_self)))
        | ret v a z => exact .ret v a z
        | leave x z => exact .leave x z
        | raise_ x z => exact .raise_ x z
      · rw [if_neg hl] at e1
        cases e1
theorem sum_le {k : Nat} {α : Type} {f : α → Nat} : ∀ {l : List α}, (∀ x ∈ l, f x ≤ k) → (l.map f).sum ≤ l.length * k
  | [], _ => by simp
  | a :: l, h => by
    have ih := sum_le (fun x hx => h x (List.mem_cons_of_mem _ hx))
    have h0 := h a List.mem_cons_self
    rw [List.map_cons, List.sum_cons, List.length_cons, Nat.succ_mul]
    omega
theorem cnt_le : ∀ {n : Nat} {l : List D}, RB n l → cnt n l + 1 ≤ 9 ^ n
  | 0, l, h => by show 0 + 1 ≤ 1; omega
  | n + 1, l, h => by
    have h1 : ∀ s ∈ l, cntS (cnt n) s ≤ 2 * 9 ^ n - 1 := fun s hs => by
      obtain ⟨w, r, e, p⟩ := h.2 s hs
      subst e
      have p9 : 0 < 9 ^ n := Nat.pow_pos (by omega)
      show 1 + ((blks w r).map (cnt n)).sum ≤ _
      cases p with
      | if_ x l m z a c =>
        have q1 := cnt_le a
        have q2 := cnt_le c
        show 1 + (cnt n l + (cnt n m + 0)) ≤ _
        omega
      | while_ x l z a =>
        have q1 := cnt_le a
        show 1 + (cnt n l + 0) ≤ _
        omega
      | when_ x i l m a c =>
        have q1 := cnt_le a
        have q2 := cnt_le c
        show 1 + (cnt n l + (cnt n m + 0)) ≤ _
        omega
      | _ =>
        show 1 + 0 ≤ _
        omega
    have h2 := sum_le h1
    have h3 : l.length * (2 * 9 ^ n - 1) ≤ 4 * (2 * 9 ^ n - 1) := Nat.mul_le_mul_right _ h.1
    have p9 : 0 < 9 ^ n := Nat.pow_pos (by omega)
    show (l.map (cntS (cnt n))).sum + 1 ≤ 9 ^ n * 9
    omega
end Xd

/-! text D4 -/
/-! the lore: names, kinds, cells -/
namespace Xd
open PySem PySem.Spec PyProof.Rows L2
local macro_rules | `(tactic| walk_at "w1") => `(tactic| first
  | with_reducible apply r_seq
  | with_reducible apply r_asg
  | with_reducible apply r_gname
  | ((with_reducible apply r_var); exact rfl)
  | with_reducible apply r_c
  | with_reducible apply r_op
  | with_reducible apply r_I0
  | ((with_reducible apply r_eq); exact rfl)
  | ((with_reducible apply r_ne); exact rfl)
  | with_reducible apply r_if
  | with_reducible apply r_test
  | with_reducible apply r_tB
  | with_reducible apply r_bl
  | with_reducible apply r_and
  | with_reducible apply r_or
  | with_reducible apply r_not
  | with_reducible apply r_ret
  | with_reducible apply r_drop
  | with_reducible apply r_cons
  | with_reducible apply r_nil
  | with_reducible apply r_cal
  | with_reducible apply r_cb
  | with_reducible apply r_tup
  | with_reducible apply r_lst
  | with_reducible apply r_next
  | with_reducible apply r_retN
  | with_reducible apply r_un
  | with_reducible apply r_U
  | with_reducible apply r_andV
  | with_reducible apply r_orV
  | with_reducible apply r_notV
  | with_reducible apply r_ifx
  | with_reducible apply r_forT
  | with_reducible apply r_forL
  | with_reducible apply r_forR
  | with_reducible apply r_sl
  | with_reducible apply r_nop
  | with_reducible apply r_part
  | with_reducible apply r_kPart
  | with_reducible apply r_gsub
  | with_reducible apply r_int1
  | with_reducible apply r_isN
  | with_reducible apply r_notN
  | with_reducible apply r_ltStr
  | with_reducible apply r_inS
  | with_reducible apply r_niS
  | with_reducible apply r_bm
  | with_reducible apply r_forS
  | with_reducible apply r_lcL
  | with_reducible apply r_lcT
  | ((with_reducible apply i_f); exact rfl)
  | ((with_reducible apply i_t); exact rfl)
  | ((with_reducible apply r_I); first | exact Or.inr ⟨by decide, by decide⟩ | exact (by decide) | assumption | exact ⟨by omega, by omega⟩ | exact (by omega) | exact ⟨by decide, by decide, by decide⟩))
local macro_rules | `(tactic| walk_at "w") => `(tactic| repeat (walk_at "w1"))

theorem Gr.own {M : List Addr} {H H1 : Hp} {a : Addr} {o : HO} (g : Gr M H H1) (h : H a = none) : Gr M H (upd H1 a o) :=
  ⟨fun c u e n => by rw [upd_ne (ne_of_none e h)]; exact g.keep c u e n, fun c xs e => by rw [upd_ne (ne_of_none e h)]; exact g.tu c xs e⟩
theorem Pool.upd {sc p a : Addr} {H : Hp} {o : HO} (h : Pool sc p H) (n1 : a ≠ sc) (n2 : a ≠ p) : Pool sc p (upd H a o) := by
  obtain ⟨xs, i, x, b, c, e, es, r⟩ := h
  exact ⟨xs, i, x, b, c, by rw [upd_ne n2.symm]; exact e, by rw [upd_ne n1.symm]; exact es, r⟩
theorem Pool.fresh {sc p a : Addr} {H : Hp} (h : Pool sc p H) (n : H a = none) : a ≠ sc ∧ a ≠ p := by
  obtain ⟨xs, i, x, b, c, e, es, r⟩ := h
  exact ⟨fun z => (by rw [z, es] at n; cases n), fun z => (by rw [z, e] at n; cases n)⟩
theorem putK_len (kvs : List (Key × V)) (k : Key) (v : V) : (putK kvs k v).length ≤ kvs.length + 1 := by
  unfold putK
  split
  · rw [List.length_map]; omega
  · rw [List.length_append] <;> exact Nat.le_refl _
def prD (c : Str × Int) : D := .tup [.str c.1, .int c.2]
structure LoreOk (N : List Str) (C : List (Str × Int)) : Prop where
  n1 : 1 ≤ N.length
  n3 : N.length ≤ 3
  nm : ∀ x ∈ N, isNm x = true
  c2 : C.length ≤ 2
  cm : ∀ c ∈ C, isNm c.1 = true ∧ 2 ≤ c.2 ∧ c.2 ≤ 3
  cd : (C.map (·.1)).Nodup
/-- the lore at a -/
structure LoreE (M : List Addr) (H : Hp) (a an ak ap : Addr) (us : List V) (N : List Str) (C : List (Str × Int)) : Prop where
  e : H a = some (.lst [.ref an, .ref ak, .ref ap])
  en : H an = some (.lst (N.map V.str))
  ep : H ap = some (.lst us)
  er : Rps H us (C.map prD)
  ma : a ∉ M
  mn : an ∉ M
  mp : ap ∉ M
  ok : LoreOk N C
theorem LoreE.gr {M : List Addr} {H H' : Hp} {a an ak ap : Addr} {us : List V} {N : List Str} {C : List (Str × Int)} (h : LoreE M H a an ak ap us N C) (g : Gr M H H') : LoreE M H' a an ak ap us N C :=
  ⟨g.keep _ _ h.e h.ma, g.keep _ _ h.en h.mn, g.keep _ _ h.ep h.mp, Rps.mono g.tu h.er, h.ma, h.mn, h.mp, h.ok⟩
theorem LoreE.less {M M' : List Addr} {H : Hp} {a an ak ap : Addr} {us : List V} {N : List Str} {C : List (Str × Int)} (h : LoreE M H a an ak ap us N C) (s : ∀ x ∈ M', x ∈ M) : LoreE M' H a an ak ap us N C :=
  ⟨h.e, h.en, h.ep, h.er, fun z => h.ma (s _ z), fun z => h.mn (s _ z), fun z => h.mp (s _ z), h.ok⟩
/-- each name's kind -/
def Kd (H : Hp) (ak : Addr) (N : List Str) : Prop := ∃ kvs : List (Key × V), H ak = some (.dK kvs) ∧ ∀ x ∈ N, ∃ v d, valV kvs (.inr x) = some v ∧ Rp H v d ∧ KindD d
def spLore : Sp := fun vs H Q _ => ∃ (sc p : Addr), vs = [.ref p, .int 3, .int 2] ∧ Pool sc p H ∧ ∀ (a an ak ap : Addr) (us : List V) N C H', Gr [p] H H' → Pool sc p H' → LoreE [p] H' a an ak ap us N C → Kd H' ak N → Q (.ref a) H'
section
variable {G : Ctx}
theorem k_prs {K : PySem.W.Frag} {σ : St} {H : Hp} {Q : VK} {ap : Addr} {us : List V} {C : List (Str × Int)} {i : Nat} (hi : i < σ.length) (ea : H ap = some (.lst us)) (hr : Rps H us (C.map prD)) (hz : C.length ≤ 10)
    (h : ∀ p H2, H p = none → Gr [] H H2 → H2 p = some (.lst ((C.map (·.1)).map V.str)) → Q (.ref p) H2) : kLcL K (.ref ap) (gName i) (tOp (rIxT K) (tVar i) (tC (.int 0))) [i] σ H Q := by
  have hl : us.length = C.length := by rw [hr.len, List.length_map]
  refine k_lcL (SqL.of ea) (fun H2 g => SqL.of (g.at0 ea)) (fun i acc _ => acc = ((C.map (·.1)).map V.str).take i) (fun _ _ => rfl) ?_ ?_
  · intro D j x acc H2 hD hx g2 hj e2 pv
    refine r_gname ⟨by unfold wipe; simp [wipe, List.set_set], ?_⟩
    refine r_op (r_var (v := x) (by rw [List.getElem?_set_self (by rw [wipe_length]; exact hi)]) (r_c ?_))
    obtain ⟨d, hd, rd⟩ := hr.get hx
    rw [List.getElem?_map] at hd
    obtain ⟨c, hc, e⟩ := Option.map_eq_some_iff.mp hd
    subst e
    obtain ⟨a, vs, rfl, e3, r3⟩ := rd.tup_of
    obtain ⟨v, ws, rfl, r4, r5⟩ := r3.cons_of
    cases r4
    obtain ⟨v5, ws5, rfl, _, r6⟩ := r5.cons_of
    cases r6.nil_of
    refine r_ixT (SqT.of (g2.at0 e3)) (v := .str c.1) rfl ?_
    have jl : j < C.length := (List.getElem?_eq_some_iff.mp hc).1
    refine k_el hD g2 e2 hj (by omega) Gr.refl fun H5 g5 => ?_
    subst pv
    rw [List.take_add_one, List.getElem?_map, List.getElem?_map, hc] <;> rfl
  · intro p H2 acc hp g2 e2 hl2 pv
    refine h p H2 hp g2 ?_
    rw [e2, pv, List.take_of_length_le (by rw [List.length_map, List.length_map, hl]; exact Nat.le_refl _)]
theorem sc__law_lore : FnScope ["_law_pool_here", "_law_steps", "_law_cells", "_law_names", "_law_kinds", "_law_k", "_law_name_here", "_law_pairs", "_law_pair"] ["_law_pool_here", "_law_steps", "_law_cells"] (defScope s__law_lore) := ⟨rfl, rfl, rfl, by decide +kernel, rfl, by decide +kernel, by decide +kernel⟩
theorem mem_snoc {α : Type} {x y : α} {l : List α} (h : x ∈ l ++ [y]) : x ∈ l ∨ x = y := (List.mem_append.mp h).imp id List.mem_singleton.mp
theorem k__law_lore (T : Txt G) (c__law_draw : Cal G 2 (He.ga G.K "_law_draw") spDraw []) (c__law_fresh : Cal G 4 (He.ga G.K "_law_fresh") spFresh []) (c__law_kind : Cal G 4 (He.ga G.K "_law_kind") spKind []) : Cal G 5 (He.ga G.K "_law_lore") spLore [] := by
  refine cal_of T.f__law_lore sc__law_lore (fun _ _ _ _ _ _ us hl => match us, hl with | [_, _, _], _ => rfl) (fun vs H Q E h => ?_) (fun cdv A outer s H vs Q E hr h => ⟨_, ((pss_cons (ps_set (i := 3) sc__law_lore.nd rfl (Or.inl rfl) (pe_lst pa_nil))
    (pss_cons (ps_set (i := 4) sc__law_lore.nd rfl (Or.inl rfl) pe_dnewK)
    (pss_cons (ps_for (passes_of rfl) rfl (pi_range1 rfl T.v_range (pa_cons (pe_op op_add pe_int (pe_cal c__law_draw T.g__law_draw hr (by omega) (takes_of rfl rfl rfl rfl) (fun _ _ _ _ h => h) rfl (pa_cons (pv 0) (pa_cons (pv 1) pa_nil)))) pa_nil)) (pg_name (i := 5) sc__law_lore.nd rfl (Or.inl rfl))
    (pss_cons (ps_set (i := 6) sc__law_lore.nd rfl (Or.inl rfl) (pe_cal c__law_fresh T.g__law_fresh hr (by omega) (takes_of rfl rfl rfl rfl) (fun _ _ _ _ h => h) rfl (pa_cons (pv 0) (pa_cons (pv 3) pa_nil))))
    (pss_cons (ps_expr (pe_bm PySem.F.plainAttrs_list PySem.F.slot_list_append PySem.F.type_list_append mt_append (pv 3) (pa_cons (pv 6) pa_nil)))
    (pss_one (ps_asg (pe_cal c__law_kind T.g__law_kind hr (by omega) (takes_of rfl rfl rfl rfl) (fun _ _ _ _ h => h) rfl (pa_cons (pv 0) pa_nil)) (pg_sub (pv 4) (pv 6) (set_dict (hu_of hr))))))))
    (pss_cons (ps_set (i := 7) sc__law_lore.nd rfl (Or.inl rfl) (pe_lst pa_nil))
    (pss_cons (ps_for (passes_of rfl) rfl (pi_range1 rfl T.v_range (pa_cons (pe_cal c__law_draw T.g__law_draw hr (by omega) (takes_of rfl rfl rfl rfl) (fun _ _ _ _ h => h) rfl (pa_cons (pv 0) (pa_cons (pe_op op_add (pv 2) pe_int) pa_nil))) pa_nil)) (pg_name (i := 5) sc__law_lore.nd rfl (Or.inl rfl))
    (pss_cons (ps_set (i := 6) sc__law_lore.nd rfl (Or.inl rfl) (pe_cal c__law_fresh T.g__law_fresh hr (by omega) (takes_of rfl rfl rfl rfl) (fun _ _ _ _ h => h) rfl (pa_cons (pv 0) (pa_cons (pe_lc (own := [("_law_pair", 8)]) rfl sc__law_lore.nd (pi_list (pv 7)) (blkOk_by (N := ["_law_pool_here", "_law_steps", "_law_cells", "_law_names", "_law_kinds", "_law_k", "_law_name_here", "_law_pairs", "_law_pair"]) (sc := defScope s__law_lore) (by decide +kernel)) (fun _ _ _ _ _ => (pg_name (i := 8) sc__law_lore.nd rfl (Or.inl rfl))) (fun _ _ _ _ _ => pts_nil) (fun _ _ _ _ _ => (pe_ix (ix_tupB (K := G.K) rfl) (pv 8) pe_int (fun _ _ => rfl)))) pa_nil))))
    (pss_one (ps_expr (pe_bm PySem.F.plainAttrs_list PySem.F.slot_list_append PySem.F.type_list_append mt_append (pv 7) (pa_cons (pe_tup (pa_cons (pv 6) (pa_cons (pe_op op_add pe_int (pe_cal c__law_draw T.g__law_draw hr (by omega) (takes_of rfl rfl rfl rfl) (fun _ _ _ _ h => h) rfl (pa_cons (pv 0) (pa_cons pe_int pa_nil)))) pa_nil))) pa_nil))))))
    (pss_cons (ps_if (PW.pt (pw_and (pt_cmpR op_eq (pe_callB call_lenQ rfl T.v_len PySem.boot_len (pa_cons (pv 7) pa_nil)) pe_int (nomark _)) (pw_and1 (pt_cmpR op_ltStr (pe_ix ix_tup (pe_ix ix_list (pv 7) pe_int (fun _ _ => rfl)) pe_int (fun _ _ => rfl)) (pe_ix ix_tup (pe_ix ix_list (pv 7) pe_int (fun _ _ => rfl)) pe_int (fun _ _ => rfl)) (nomark _))))) (pss_one (ps_set (i := 7) sc__law_lore.nd rfl (Or.inl rfl) (pe_lst (pa_cons (pe_ix ix_list (pv 7) pe_int (fun _ _ => rfl)) (pa_cons (pe_ix ix_list (pv 7) pe_int (fun _ _ => rfl)) pa_nil))))) pss_nil)
    (pss_one (ps_ret (pe_lst (pa_cons (pv 3) (pa_cons (pv 4) (pa_cons (pv 7) pa_nil))))))))))))), ?_⟩)
  · obtain ⟨sc, p, rfl, _⟩ := h
    rfl
  obtain ⟨sc, p, rfl, hP, k⟩ := h
  walk_at "w"
  refine k_lst (by show 0 ≤ sizeLine; decide) fun an H1 hn g1 en => ?_
  walk_at "w"
  intro ak hk
  have g2 := g1.trans (Gr.new (M := []) (o := .dK []) hk)
  have en2 := (Gr.new (M := []) (o := .dK []) hk).at0 en
  have ek : upd H1 ak (.dK []) ak = some (.dK []) := upd_same
  generalize upd H1 ak (.dK []) = H2 at g2 en2 ek ⊢
  have hk0 : H ak = none := by
    cases e : H ak with
    | none => rfl
    | some o => have := g1.at0 e; rw [hk] at this; cases this
  have nak : an ≠ ak := fun z => by rw [z, ek] at en2; cases en2
  have hP2 := hP.gr g2
  have nan := (hP.fresh hn).2
  have nkp := (hP.fresh hk0).2
  walk_at "w"
  refine ⟨sc, p, 3, rfl, hP2, by decide, by decide, fun r1 H3 a0 a1 g3 hP3 => ?_⟩
  walk_at "w"
  refine k_forR (by omega) (by omega) (fun i σ' H' => ∃ (N : List Str) (kvs : List (Key × V)) (o1 o2 : Option V), σ' = [some (.ref p), some (.int 3), some (.int 2), some (.ref an), some (.ref ak), o1, o2, none, none] ∧ N.length = i ∧ (∀ x ∈ N, isNm x = true) ∧
    H' an = some (.lst (N.map V.str)) ∧ H' ak = some (.dK kvs) ∧ kvs.length ≤ i ∧ (∀ x ∈ N, ∃ v d, valV kvs (.inr x) = some v ∧ Rp H' v d ∧ KindD d) ∧ Gr [p] H H' ∧ Pool sc p H')
    ⟨[], [], none, none, rfl, rfl, fun _ z => (nomatch z), g3.keep _ _ en2 (by simpa using nan), g3.keep _ _ ek (by simpa using nkp), Nat.le_refl _, fun _ z => (nomatch z), g2.any.trans g3, hP3⟩ ?_ ?_
  · rintro i σ4 H4 hi ⟨N, kvs, o1, o2, rfl, hl, hN, en4, ek4, hkz, hK, g4, hP4⟩
    walk_at "w"
    refine ⟨sc, p, an, N, rfl, hP4, en4, by omega, fun x H5 hx _ g5 hP5 => ?_⟩
    have en5 := g5.keep _ _ en4 (by simpa using nan)
    have ek5 := g5.keep _ _ ek4 (by simpa using nkp)
    walk_at "w"
    refine ⟨.inl ⟨rfl, _, SqL.of en5⟩, ?_⟩
    walk_at "w"
    refine r_app en5 (by rw [List.length_map, sizeLine_eq]; omega) ?_
    have g6 := (g4.trans g5).own (a := an) (o := .lst (N.map V.str ++ [V.str x])) hn
    have en6 : upd H5 an (.lst (N.map V.str ++ [V.str x])) an = some (.lst (N.map V.str ++ [V.str x])) := upd_same
    have t6 : Gr [an] H5 (upd H5 an (.lst (N.map V.str ++ [V.str x]))) := Gr.set en5 List.mem_cons_self (fun xs z => nomatch z)
    have hP6 := hP5.upd (o := .lst (N.map V.str ++ [V.str x])) (hP.fresh hn).1 (hP.fresh hn).2
    have ek6 := t6.keep _ _ ek5 (by simpa using nak.symm)
    have t46 := g5.tu.trans t6.tu
    generalize upd H5 an (.lst (N.map V.str ++ [V.str x])) = H6 at g6 en6 hP6 ek6 t46 ⊢
    walk_at "w"
    refine ⟨sc, p, rfl, hP6, fun v d H7 hd hv g7 hP7 => ?_⟩
    have en7 := g7.keep _ _ en6 (by simpa using nan)
    have ek7 := g7.keep _ _ ek6 (by simpa using nkp)
    walk_at "w"
    refine r_setD ek7 (by rw [sizeLine_eq]; omega) ?_
    walk_at "w"
    have t8 : Gr [ak] H7 (upd H7 ak (.dK (putK kvs (.inr x) v))) := Gr.set ek7 List.mem_cons_self (fun xs z => nomatch z)
    refine ⟨N ++ [x], putK kvs (.inr x) v, some (.int i), some (.str x), rfl, by rw [List.length_append, hl] <;> rfl, fun y hy => ?_, ?_, upd_same, ?_, fun y hy => ?_, (g6.trans g7).own hk0, hP7.upd (hP.fresh hk0).1 (hP.fresh hk0).2⟩
    · rcases mem_snoc hy with z | z
      · exact hN y z
      · rw [z]; exact hx
    · rw [t8.keep _ _ en7 (by simpa using nak), List.map_append] <;> rfl
    · exact Nat.le_trans (putK_len _ _ _) (by omega)
    · rw [valV_put]
      by_cases z : (Sum.inr y : Key) = Sum.inr x
      · rw [if_pos z]
        exact ⟨v, d, rfl, hv.mono t8.tu, hd⟩
      · rw [if_neg z]
        rcases mem_snoc hy with z2 | z2
        · obtain ⟨v', d', e1, e2, e3⟩ := hK y z2
          exact ⟨v', d', e1, e2.mono ((t46.trans g7.tu).trans t8.tu), e3⟩
        · exact absurd (by rw [z2]) z
  · rintro σ4 H4 ⟨N, kvs, o1, o2, rfl, hl, hN, en4, ek4, hkz, hK, g4, hP4⟩
    walk_at "w"
    refine k_lst (by show 0 ≤ sizeLine; decide) fun ap H5 hap g5 ep => ?_
    walk_at "w"
    have hP5 := hP4.gr g5
    have en5 := g5.at0 en4
    have ek5 := g5.at0 ek4
    have hap0 : H ap = none := by
      cases e : H ap with
      | none => rfl
      | some o =>
        by_cases z : ap = p
        · obtain ⟨_, _, _, _, _, e2, _⟩ := hP4
          rw [← z, hap] at e2; cases e2
        · have := g4.keep _ _ e (by simpa using z); rw [hap] at this; cases this
    have nap := (hP.fresh hap0).2
    have apn : ap ≠ an := fun z => by rw [z, en4] at hap; cases hap
    have apk : ap ≠ ak := fun z => by rw [z, ek4] at hap; cases hap
    refine ⟨sc, p, 3, rfl, hP5, by decide, by decide, fun r2 H6 b0 b1 g6 hP6 => ?_⟩
    walk_at "w"
    refine k_forR b0 (by omega) (fun i σ' H' => ∃ (C : List (Str × Int)) (us : List V) (o1 o2 : Option V), σ' = [some (.ref p), some (.int 3), some (.int 2), some (.ref an), some (.ref ak), o1, o2, some (.ref ap), none] ∧ C.length = i ∧ (∀ c ∈ C, isNm c.1 = true ∧ 2 ≤ c.2 ∧ c.2 ≤ 3) ∧ (C.map (·.1)).Nodup ∧
      H' an = some (.lst (N.map V.str)) ∧ H' ak = some (.dK kvs) ∧ H' ap = some (.lst us) ∧ Rps H' us (C.map prD) ∧ Tu H4 H' ∧ Gr [p] H H' ∧ Pool sc p H')
      ⟨[], [], o1, o2, rfl, rfl, fun _ z => (nomatch z), List.nodup_nil, g6.keep _ _ en5 (by simpa using nan), g6.keep _ _ ek5 (by simpa using nkp), g6.keep _ _ ep (by simpa using nap), .nil, g5.tu.trans g6.tu, (g4.trans g5.any).trans g6, hP6⟩ ?_ ?_
    · rintro i σ7 H7 hi ⟨C, us, o3, o4, rfl, hl7, hC, hnd, en7, ek7, ep7, er7, t7, g7, hP7⟩
      walk_at "w"
      refine k_prs (by show 8 < 9; decide) ep7 er7 (by omega) fun q H8 hq g8 eq8 => ?_
      walk_at "w"
      refine ⟨sc, p, q, C.map (·.1), rfl, hP7.gr g8, eq8, by rw [List.length_map]; omega, fun x H9 hx hnew g9 hP9 => ?_⟩
      have g89 := (g8.any (M := [p])).trans g9
      walk_at "w"
      have ep9 := g89.keep _ _ ep7 (by simpa using nap)
      refine ⟨.inl ⟨rfl, _, SqL.of ep9⟩, ?_⟩
      walk_at "w"
      refine ⟨sc, p, 2, rfl, hP9, by decide, by decide, fun r3 H10 c0 c1 g10 hP10 => ?_⟩
      walk_at "w"
      refine k_tup (by show 2 ≤ sizeLine; decide) fun t H11 g11 e11 => ?_
      have g711 := (g89.trans g10).trans (g11.any (M := [p]))
      have ep11 := g711.keep _ _ ep7 (by simpa using nap)
      walk_at "w"
      refine r_app ep11 (by rw [er7.len, List.length_map, sizeLine_eq]; omega) ?_
      have t12 : Gr [ap] H11 (upd H11 ap (.lst (us ++ [V.ref t]))) := Gr.set ep11 List.mem_cons_self (fun xs z => nomatch z)
      refine ⟨C ++ [(x, 2 + r3)], us ++ [.ref t], some (.int i), some (.str x), rfl, by rw [List.length_append, hl7] <;> rfl, fun c hc => ?_, ?_, ?_, ?_, upd_same, ?_, (t7.trans g711.tu).trans t12.tu, (g7.trans g711).own hap0, (hP10.gr g11).upd (hP.fresh hap0).1 (hP.fresh hap0).2⟩
      · rcases mem_snoc hc with z | z
        · exact hC c z
        · rw [z]; exact ⟨hx, by show (2 : Int) ≤ 2 + r3; omega, by show (2 : Int) + r3 ≤ 3; omega⟩
      · rw [List.map_append]
        refine List.nodup_append.mpr ⟨hnd, List.nodup_cons.mpr ⟨fun z => (nomatch z), List.nodup_nil⟩, fun a ha b hb => ?_⟩
        rw [List.mem_singleton.mp hb]
        intro z
        have z : a = x := z
        exact hnew (by rw [List.length_map]; omega) (by rw [← z]; exact ha)
      · exact t12.keep _ _ (g711.keep _ _ en7 (by simpa using nan)) (by simpa using apn.symm)
      · exact t12.keep _ _ (g711.keep _ _ ek7 (by simpa using nkp)) (by simpa using apk.symm)
      · rw [List.map_append]
        refine (Rps.mono (g711.tu.trans t12.tu) er7).append (.cons (.tup (t12.tu _ _ e11) (.cons (.str _) (.cons (.int _) .nil))) .nil)
    · rintro σ7 H7 ⟨C, us, o3, o4, rfl, hl7, hC, hnd, en7, ek7, ep7, er7, t7, g7, hP7⟩
      have hK7 : Kd H7 ak N := ⟨kvs, ek7, fun y hy => by obtain ⟨v', d', e1, e2, e3⟩ := hK y hy; exact ⟨v', d', e1, e2.mono t7, e3⟩⟩
      have hul : us.length = C.length := by rw [er7.len, List.length_map]
      have c2l : C.length ≤ 2 := by omega
      have fin : ∀ (ap' : Addr) us' C' H8, H ap' = none → H8 ap' = some (.lst us') → Rps H8 us' (C'.map prD) → Gr [] H7 H8 → LoreOk N C' → kLst [.ref an, .ref ak, .ref ap'] H8 Q := by
        intro ap' us' C' H8 h0 h1 h2 h3 h4
        refine k_lst (by show 3 ≤ sizeLine; decide) fun a H9 ha g9 ea => ?_
        have g79 := h3.trans g9
        have ha0 : a ≠ p := ((hP7.gr h3).fresh ha).2
        refine k a an ak ap' us' N C' H9 (g7.trans g79.any) (hP7.gr g79) ⟨ea, g79.at0 en7, g9.at0 h1, Rps.mono g9.tu h2, by simpa using ha0, by simpa using nan, by simpa using (hP.fresh h0).2, h4⟩ ?_
        obtain ⟨kv, q1, q2⟩ := hK7
        exact ⟨kv, g79.at0 q1, fun y hy => by obtain ⟨v', d', e1, e2, e3⟩ := q2 y hy; exact ⟨v', d', e1, e2.mono g79.tu, e3⟩⟩
      have ok : LoreOk N C := ⟨by omega, by omega, hN, c2l, hC, hnd⟩
      walk_at "w"
      refine r_lenL ep7 ?_
      walk_at "w"
      refine i_I (fun h2 => ?_) (fun h2 => ?_)
      · obtain ⟨c1, c2, rfl⟩ : ∃ c1 c2, C = [c1, c2] := by
          have h3 : C.length = 2 := by omega
          match C, h3 with
          | [c1, c2], _ => exact ⟨c1, c2, rfl⟩
        obtain ⟨v1, us1, rfl, rd1, er8⟩ := er7.cons_of
        obtain ⟨v2, us2, rfl, rd2, er9⟩ := er8.cons_of
        cases er9.nil_of
        obtain ⟨b1, w1, rfl, e1, q1⟩ := rd1.tup_of
        obtain ⟨z1, y1, rfl, s1, t1⟩ := q1.cons_of
        cases s1
        obtain ⟨x1, u1, rfl, _, t1⟩ := t1.cons_of
        cases t1.nil_of
        obtain ⟨b2, w2, rfl, e2, q2⟩ := rd2.tup_of
        obtain ⟨z2, y2, rfl, s2, t2⟩ := q2.cons_of
        cases s2
        obtain ⟨x2, u2, rfl, _, t2⟩ := t2.cons_of
        cases t2.nil_of
        walk_at "w"
        refine r_ixL (SqL.of ep7) rfl ?_
        walk_at "w"
        refine r_ixT (SqT.of e2) (v := .str c2.1) rfl ?_
        walk_at "w"
        refine r_ixL (SqL.of ep7) rfl ?_
        walk_at "w"
        refine r_ixT (SqT.of e1) (v := .str c1.1) rfl ?_
        walk_at "w"
        refine i_d (fun _ => ?_) (fun _ => ?_)
        · walk_at "w"
          refine r_ixL (SqL.of ep7) rfl ?_
          walk_at "w"
          refine r_ixL (SqL.of ep7) rfl ?_
          walk_at "w"
          refine k_lst (by show 2 ≤ sizeLine; decide) fun ap2 H8 hap2 g8 e8 => ?_
          walk_at "w"
          have h0 : H ap2 = none := by
            cases e : H ap2 with
            | none => rfl
            | some o =>
              by_cases z : ap2 = p
              · obtain ⟨_, _, _, _, _, e2, _⟩ := hP7
                rw [← z, hap2] at e2; cases e2
              · have := g7.keep _ _ e (by simpa using z); rw [hap2] at this; cases this
          refine fin ap2 _ [c2, c1] H8 h0 e8 (.cons (rd2.mono g8.tu) (.cons (rd1.mono g8.tu) .nil)) g8 ⟨ok.n1, ok.n3, ok.nm, ok.c2, fun c hc => ok.cm c ?_, ?_⟩
          · rcases List.mem_cons.mp hc with z | z
            · rw [z]; exact List.mem_cons_of_mem _ List.mem_cons_self
            · rw [List.mem_singleton.mp z]; exact List.mem_cons_self
          · have z := ok.cd
            simp at z ⊢
            exact fun y => z y.symm
        · walk_at "w"
          exact fin ap _ [c1, c2] H7 hap0 ep7 er7 Gr.refl ok
      · walk_at "w"
        exact fin ap us C H7 hap0 ep7 er7 Gr.refl ok
end
end Xd

/-! text D5 -/
/-! arguments, actions, plain statements -/
namespace Xd
open PySem PySem.Spec PyProof.Rows L2
local macro_rules | `(tactic| walk_at "w1") => `(tactic| first
  | with_reducible apply r_seq
  | with_reducible apply r_asg
  | with_reducible apply r_gname
  | ((with_reducible apply r_var); exact rfl)
  | with_reducible apply r_c
  | with_reducible apply r_op
  | with_reducible apply r_I0
  | ((with_reducible apply r_eq); exact rfl)
  | ((with_reducible apply r_ne); exact rfl)
  | with_reducible apply r_if
  | with_reducible apply r_test
  | with_reducible apply r_tB
  | with_reducible apply r_bl
  | with_reducible apply r_and
  | with_reducible apply r_or
  | with_reducible apply r_not
  | with_reducible apply r_ret
  | with_reducible apply r_drop
  | with_reducible apply r_cons
  | with_reducible apply r_nil
  | with_reducible apply r_cal
  | with_reducible apply r_cb
  | with_reducible apply r_tup
  | with_reducible apply r_lst
  | with_reducible apply r_next
  | with_reducible apply r_retN
  | with_reducible apply r_un
  | with_reducible apply r_U
  | with_reducible apply r_andV
  | with_reducible apply r_orV
  | with_reducible apply r_notV
  | with_reducible apply r_ifx
  | with_reducible apply r_forT
  | with_reducible apply r_forL
  | with_reducible apply r_forR
  | with_reducible apply r_sl
  | with_reducible apply r_nop
  | with_reducible apply r_part
  | with_reducible apply r_kPart
  | with_reducible apply r_gsub
  | with_reducible apply r_int1
  | with_reducible apply r_isN
  | with_reducible apply r_notN
  | with_reducible apply r_ltStr
  | with_reducible apply r_inS
  | with_reducible apply r_niS
  | with_reducible apply r_bm
  | with_reducible apply r_forS
  | with_reducible apply r_lcL
  | with_reducible apply r_lcT
  | ((with_reducible apply i_f); exact rfl)
  | ((with_reducible apply i_t); exact rfl)
  | ((with_reducible apply r_I); first | exact Or.inr ⟨by decide, by decide⟩ | exact (by decide) | assumption | exact ⟨by omega, by omega⟩ | exact (by omega) | exact ⟨by decide, by decide, by decide⟩))
local macro_rules | `(tactic| walk_at "w") => `(tactic| repeat (walk_at "w1"))

/-- where the pool and the lore are, and what the lore says -/
structure Wo where
  sc : Addr
  p : Addr
  a : Addr
  an : Addr
  ak : Addr
  ap : Addr
  us : List V
  N : List Str
  C : List (Str × Int)
structure In (w : Wo) (M : List Addr) (H : Hp) : Prop where
  P : Pool w.sc w.p H
  L : LoreE M H w.a w.an w.ak w.ap w.us w.N w.C
  m : w.p ∈ M
section
variable {w : Wo} {M : List Addr} {H H' : Hp} {K : PySem.W.Frag} {Q : VK} {E : XK} {r : Int}
theorem In.gr (I : In w M H) (g : Gr [w.p] H H') (hP : Pool w.sc w.p H') : In w M H' := ⟨hP, I.L.gr (g.mono fun x hx => by rw [List.mem_singleton.mp hx]; exact I.m), I.m⟩
theorem In.new (I : In w M H) (g : Gr [] H H') : In w M H' := ⟨I.P.gr g, I.L.gr g.any, I.m⟩
theorem In.one (I : In w M H) : In w [w.p] H := ⟨I.P, I.L.less fun x hx => by rw [List.mem_singleton.mp hx]; exact I.m, List.mem_cons_self⟩
theorem draw_ans {n : Int} (I : In w M H) (h0 : 0 < n) (h1 : n < 1073741824) (k : ∀ r H', 0 ≤ r → r < n → Gr [w.p] H H' → In w M H' → Q (.int r) H') : spDraw [.ref w.p, .int n] H Q E :=
  ⟨w.sc, w.p, n, rfl, I.P, h0, h1, fun r H' a b g hP => k r H' a b g (I.gr g hP)⟩
theorem number_ans (I : In w M H) (k : ∀ r H', Gr [w.p] H H' → In w M H' → Q (.int r) H') : spNumber [.ref w.p] H Q E :=
  ⟨w.sc, w.p, rfl, I.P, fun r H' _ _ g hP => k r H' g (I.gr g hP)⟩
theorem name_ans (I : In w M H) (k : ∀ x H', isNm x = true → Gr [w.p] H H' → In w M H' → Q (.str x) H') : spName [.ref w.p] H Q E :=
  ⟨w.sc, w.p, rfl, I.P, fun x H' hx g hP => k x H' hx g (I.gr g hP)⟩
theorem fresh_ans {u : Addr} {xs : List Str} (I : In w M H) (hu : H u = some (.lst (xs.map V.str))) (hz : xs.length ≤ 1000) (k : ∀ x H', isNm x = true → Gr [w.p] H H' → In w M H' → Q (.str x) H') : spFresh [.ref w.p, .ref u] H Q E :=
  ⟨w.sc, w.p, u, xs, rfl, I.P, hu, hz, fun x H' hx _ g hP => k x H' hx g (I.gr g hP)⟩
theorem r_l0 (I : In w M H) (k : Q (.ref w.an) H) : rIxL K (.ref w.a) (.int 0) H Q := r_ixL (SqL.of I.L.e) rfl k
theorem r_l2 (I : In w M H) (k : Q (.ref w.ap) H) : rIxL K (.ref w.a) (.int 2) H Q := r_ixL (SqL.of I.L.e) rfl k
theorem r_nameI (I : In w M H) (h0 : 0 ≤ r) (h1 : r < w.N.length) (k : ∀ x ∈ w.N, Q (.str x) H) : rIxL K (.ref w.an) (.int r) H Q := by
  obtain ⟨n, rfl⟩ := Int.eq_ofNat_of_zero_le h0
  have hx : w.N[n]? = some w.N[n] := List.getElem?_eq_getElem (by omega)
  exact r_ixL (SqL.of I.L.en) (v := .str w.N[n]) (atI_nat (by rw [List.getElem?_map, hx] <;> rfl)) (k _ (List.getElem_mem _))
theorem r_lenN (I : In w M H) (k : Q (.int w.N.length) H) : rLenQ K [.ref w.an] H Q := r_lenL I.L.en (by rw [List.length_map]; exact k)
theorem In.lu (I : In w M H) : w.us.length = w.C.length := by rw [I.L.er.len, List.length_map]
theorem r_lenC (I : In w M H) (k : Q (.int w.C.length) H) : rLenQ K [.ref w.ap] H Q := r_lenL I.L.ep (by rw [I.lu]; exact k)
theorem pr_of {v : V} {c : Str × Int} (h : Rp H v (prD c)) : ∃ t, v = .ref t ∧ H t = some (.tup [.str c.1, .int c.2]) := by
  obtain ⟨t, vs, rfl, e, r⟩ := h.tup_of
  obtain ⟨v1, ws1, rfl, r1, q1⟩ := r.cons_of
  cases r1
  obtain ⟨v2, ws2, rfl, r2, q2⟩ := q1.cons_of
  cases r2
  cases q2.nil_of
  exact ⟨t, rfl, e⟩
theorem In.cell (I : In w M H) {n : Nat} {v : V} (h : w.us[n]? = some v) : ∃ t c, w.C[n]? = some c ∧ v = .ref t ∧ H t = some (.tup [.str c.1, .int c.2]) := by
  obtain ⟨d, hd, rd⟩ := I.L.er.get h
  rw [List.getElem?_map] at hd
  obtain ⟨c, hc, e⟩ := Option.map_eq_some_iff.mp hd
  subst e
  obtain ⟨t, rfl, e⟩ := pr_of rd
  exact ⟨t, c, hc, rfl, e⟩
theorem r_cellI (I : In w M H) (h0 : 0 ≤ r) (h1 : r < w.C.length) (k : ∀ t c, c ∈ w.C → H t = some (.tup [.str c.1, .int c.2]) → Q (.ref t) H) : rIxL K (.ref w.ap) (.int r) H Q := by
  obtain ⟨n, rfl⟩ := Int.eq_ofNat_of_zero_le h0
  have hx : w.us[n]? = some (w.us[n]'(by rw [I.lu]; omega)) := List.getElem?_eq_getElem _
  obtain ⟨t, c, hc, e, et⟩ := I.cell hx
  rw [e] at hx
  exact r_ixL (SqL.of I.L.ep) (atI_nat hx) (k t c (List.mem_of_getElem? hc) et)
theorem In.n1 (I : In w M H) : 0 < (w.N.length : Int) ∧ (w.N.length : Int) < 1073741824 := ⟨by have := I.L.ok.n1; omega, by have := I.L.ok.n3; omega⟩
theorem In.c2 (I : In w M H) : (w.C.length : Int) < 1073741824 := by have := I.L.ok.c2; omega
end
/-- what a generator promises -/
def spG (xs : List V → Hp → (D → Prop) → Prop) : Sp := fun vs H Q _ => ∃ (w : Wo) (es : List V) (Po : D → Prop), vs = .ref w.p :: .ref w.a :: es ∧ In w [w.p] H ∧ xs es H Po ∧ ∀ v d H', Po d → Rp H' v d → Gr [w.p] H H' → Pool w.sc w.p H' → Q v H'
def spArg : Sp := spG fun es H Po => (∃ b, es = [.bl b]) ∧ Po = ArgD
section
variable {w : Wo} {M : List Addr} {H H' : Hp} {K : PySem.W.Frag} {Q : VK} {E : XK} {r : Int}
theorem arg_ans {b : Bool} (I : In w M H) (k : ∀ v d H', ArgD d → Rp H' v d → Gr [w.p] H H' → In w M H' → Q v H') : spArg [.ref w.p, .ref w.a, .bl b] H Q E :=
  ⟨w, [.bl b], ArgD, rfl, I.one, ⟨⟨b, rfl⟩, rfl⟩, fun v d H' hd hv g hP => k v d H' hd hv g (I.gr g hP)⟩
end
theorem sc__law_argument : FnScope ["_law_pool_here", "_law_lore_here", "_law_late", "_law_choice", "_law_cell"] ["_law_pool_here", "_law_lore_here", "_law_late"] (defScope s__law_argument) := ⟨rfl, rfl, rfl, by decide +kernel, rfl, by decide +kernel, by decide +kernel⟩
section
variable {G : Ctx}
theorem k__law_argument (T : Txt G) (c__law_draw : Cal G 2 (He.ga G.K "_law_draw") spDraw []) (c__law_number : Cal G 3 (He.ga G.K "_law_number") spNumber []) : Cal G 4 (He.ga G.K "_law_argument") spArg [] := by
  refine cal_of T.f__law_argument sc__law_argument (fun _ _ _ _ _ _ us hl => match us, hl with | [_, _, _], _ => rfl) (fun vs H Q E h => ?_) (fun cdv A outer s H vs Q E hr h => ⟨_, ((pss_cons (ps_set (i := 3) sc__law_argument.nd rfl (Or.inl rfl) (pe_cal c__law_draw T.g__law_draw hr (by omega) (takes_of rfl rfl rfl rfl) (fun _ _ _ _ h => h) rfl (pa_cons (pv 0) (pa_cons pe_int pa_nil))))
    (Evl.pss_cut (ps_if (PW.pt (pw_or (pt_cmpR op_eq (pv 3) pe_int (nomark _)) (pw_or1 (PW.pt (pw_and (pt_cmpR op_eq (pv 3) pe_int (nomark _)) (pw_and (pt_cmpR op_gt (pe_callB call_lenQ rfl T.v_len PySem.boot_len (pa_cons (pe_ix ix_list (pv 1) pe_int (fun _ _ => rfl)) pa_nil)) pe_int (nomark _)) (pw_and1 (pt_cmpR op_eq (pe_cal c__law_draw T.g__law_draw hr (by omega) (takes_of rfl rfl rfl rfl) (fun _ _ _ _ h => h) rfl (pa_cons (pv 0) (pa_cons pe_int pa_nil))) pe_int (nomark _))))))))) (pss_one (ps_ret pe_non)) pss_nil)
    (pss_cons (ps_if (PW.pt (pw_or (pt_cmpR op_eq (pv 3) pe_int (nomark _)) (pw_or1 (pt_cmpR op_eq (pe_callB call_lenQ rfl T.v_len PySem.boot_len (pa_cons (pe_ix ix_list (pv 1) pe_int (fun _ _ => rfl)) pa_nil)) pe_int (nomark _))))) (pss_one (ps_ret (pe_cal c__law_number T.g__law_number hr (by omega) (takes_of rfl rfl rfl rfl) (fun _ _ _ _ h => h) rfl (pa_cons (pv 0) pa_nil)))) pss_nil)
    (pss_cons (ps_set (i := 4) sc__law_argument.nd rfl (Or.inl rfl) (pe_ix ix_tup (pe_ix ix_list (pe_ix ix_list (pv 1) pe_int (fun _ _ => rfl)) (pe_cal c__law_draw T.g__law_draw hr (by omega) (takes_of rfl rfl rfl rfl) (fun _ _ _ _ h => h) rfl (pa_cons (pv 0) (pa_cons (pe_callB call_lenQ rfl T.v_len PySem.boot_len (pa_cons (pe_ix ix_list (pv 1) pe_int (fun _ _ => rfl)) pa_nil)) pa_nil))) (fun _ _ => rfl)) pe_int (fun _ _ => rfl)))
    (pss_cons (ps_if (PW.pt (pw_and (pt_val (pv 2)) (pw_and1 (pt_cmpR op_gt (pe_cal c__law_draw T.g__law_draw hr (by omega) (takes_of rfl rfl rfl rfl) (fun _ _ _ _ h => h) rfl (pa_cons (pv 0) (pa_cons pe_int pa_nil))) pe_int (nomark _))))) (pss_one (ps_ret (pe_tup (pa_cons pe_str (pa_cons (pv 4) pa_nil))))) pss_nil)
    (pss_one (ps_ret (pe_tup (pa_cons pe_str (pa_cons (pv 4) pa_nil))))))))))), ?_⟩)
  · obtain ⟨w, es, Po, rfl, _, ⟨⟨b, rfl⟩, _⟩, _⟩ := h
    rfl
  obtain ⟨w, es, Po, rfl, I, ⟨⟨b, rfl⟩, rfl⟩, k⟩ := h
  walk_at "w"
  refine draw_ans I (by decide) (by decide) fun r1 H1 a0 a1 g1 I1 => ?_
  walk_at "w"
  have non : ∀ H2, Gr [w.p] H H2 → In w [w.p] H2 → Q .non H2 := fun H2 g2 I2 => k _ _ H2 .non .non g2 I2.P
  refine r_cut (fun σ' H' => σ' = [some (.ref w.p), some (.ref w.a), some (.bl b), some (.int r1), none] ∧ Gr [w.p] H H' ∧ In w [w.p] H') ?_ ?_
  · walk_at "w"
    refine i_I (fun _ => ?_) (fun _ => ?_)
    · walk_at "w"
      exact non H1 g1 I1
    walk_at "w"
    refine i_I (fun _ => ?_) (fun _ => ?_)
    · walk_at "w"
      refine r_l2 I1 ?_
      walk_at "w"
      refine r_lenC I1 ?_
      walk_at "w"
      refine i_d (fun _ => ?_) (fun _ => ?_)
      · walk_at "w"
        refine draw_ans I1 (by decide) (by decide) fun r2 H2 b0 b1 g2 I2 => ?_
        walk_at "w"
        refine i_I (fun _ => ?_) (fun _ => ?_)
        · walk_at "w"
          exact non H2 (g1.trans g2) I2
        · walk_at "w"
          exact ⟨rfl, g1.trans g2, I2⟩
      · walk_at "w"
        exact ⟨rfl, g1, I1⟩
    · walk_at "w"
      exact ⟨rfl, g1, I1⟩
  rintro σ' H2 ⟨rfl, g2, I2⟩
  have num : spNumber [.ref w.p] H2 Q E := number_ans I2 fun r3 H3 g3 I3 => k _ _ H3 (.int r3) (.int r3) (g2.trans g3) I3.P
  walk_at "w"
  refine i_I (fun _ => ?_) (fun _ => ?_)
  · walk_at "w"
    exact num
  walk_at "w"
  refine r_l2 I2 ?_
  walk_at "w"
  refine r_lenC I2 ?_
  walk_at "w"
  refine i_I (fun hz => ?_) (fun hz => ?_)
  · walk_at "w"
    exact num
  walk_at "w"
  refine r_l2 I2 ?_
  walk_at "w"
  refine r_l2 I2 ?_
  walk_at "w"
  refine r_lenC I2 ?_
  walk_at "w"
  refine draw_ans I2 (by omega) I2.c2 fun r3 H3 a0 a1 g3 I3 => ?_
  walk_at "w"
  refine r_cellI I3 a0 a1 fun t c hc et => ?_
  walk_at "w"
  refine r_ixT (SqT.of et) (v := .str c.1) rfl ?_
  have fin : ∀ (x : Str) H4, Gr [w.p] H3 H4 → In w [w.p] H4 → kTup [.str x, .str c.1] H4 Q := fun x H4 g4 I4 => k_tup (by show 2 ≤ sizeLine; decide) fun q H5 g5 e5 =>
    k _ _ H5 (.pair x c.1) (.tup e5 (.cons (.str _) (.cons (.str _) .nil))) (((g2.trans g3).trans g4).trans g5.any) (I4.new g5).P
  walk_at "w"
  refine i_2 (fun _ => ?_) (fun _ => ?_)
  · walk_at "w"
    refine draw_ans I3 (by decide) (by decide) fun r4 H4 c0 c1 g4 I4 => ?_
    walk_at "w"
    refine i_d (fun _ => ?_) (fun _ => ?_)
    · walk_at "w"
      exact fin _ H4 g4 I4
    · walk_at "w"
      exact fin _ H4 g4 I4
  · walk_at "w"
    exact fin _ H3 Gr.refl I3
end
end Xd

/-! text D6 -/
/-! actions, plain statements -/
namespace Xd
open PySem PySem.Spec PyProof.Rows L2
local macro_rules | `(tactic| walk_at "w1") => `(tactic| first
  | with_reducible apply r_seq
  | with_reducible apply r_asg
  | with_reducible apply r_gname
  | ((with_reducible apply r_var); exact rfl)
  | with_reducible apply r_c
  | with_reducible apply r_op
  | with_reducible apply r_I0
  | ((with_reducible apply r_eq); exact rfl)
  | ((with_reducible apply r_ne); exact rfl)
  | with_reducible apply r_if
  | with_reducible apply r_test
  | with_reducible apply r_tB
  | with_reducible apply r_bl
  | with_reducible apply r_and
  | with_reducible apply r_or
  | with_reducible apply r_not
  | with_reducible apply r_ret
  | with_reducible apply r_drop
  | with_reducible apply r_cons
  | with_reducible apply r_nil
  | with_reducible apply r_cal
  | with_reducible apply r_cb
  | with_reducible apply r_tup
  | with_reducible apply r_lst
  | with_reducible apply r_next
  | with_reducible apply r_retN
  | with_reducible apply r_un
  | with_reducible apply r_U
  | with_reducible apply r_andV
  | with_reducible apply r_orV
  | with_reducible apply r_notV
  | with_reducible apply r_ifx
  | with_reducible apply r_forT
  | with_reducible apply r_forL
  | with_reducible apply r_forR
  | with_reducible apply r_sl
  | with_reducible apply r_nop
  | with_reducible apply r_part
  | with_reducible apply r_kPart
  | with_reducible apply r_gsub
  | with_reducible apply r_int1
  | with_reducible apply r_isN
  | with_reducible apply r_notN
  | with_reducible apply r_ltStr
  | with_reducible apply r_inS
  | with_reducible apply r_niS
  | with_reducible apply r_bm
  | with_reducible apply r_forS
  | with_reducible apply r_lcL
  | with_reducible apply r_lcT
  | with_reducible apply r_m0
  | (with_reducible refine r_l0 (by assumption) ?_)
  | (with_reducible refine r_l2 (by assumption) ?_)
  | (with_reducible refine r_lenN (by assumption) ?_)
  | (with_reducible refine r_lenC (by assumption) ?_)
  | ((with_reducible apply r_ixT'); (assumption); (first | exact rfl | exact atI_0 | exact atI_1 | exact atI_2))
  | ((with_reducible apply r_ixL'); (assumption); (exact rfl))
  | ((with_reducible apply i_f); exact rfl)
  | ((with_reducible apply i_t); exact rfl)
  | ((with_reducible apply r_I); first | exact Or.inr ⟨by decide, by decide⟩ | exact (by decide) | assumption | exact ⟨by omega, by omega⟩ | exact (by omega) | exact ⟨by decide, by decide, by decide⟩))
local macro_rules | `(tactic| walk_at "w") => `(tactic| repeat (walk_at "w1"))

abbrev Gk (w : Wo) (H : Hp) (Po : D → Prop) (Q : VK) : Prop := ∀ v d H', Po d → Rp H' v d → Gr [w.p] H H' → Pool w.sc w.p H' → Q v H'
section
variable {w : Wo} {M : List Addr} {H H1 H' : Hp} {K : PySem.W.Frag} {Q : VK} {E : XK} {r : Int} {Po : D → Prop}
theorem k_dat {vs : List V} {ds : List D} (I : In w M H1) (g : Gr [w.p] H H1) (hv : Rps H1 vs ds) (hd : Po (.tup ds)) (k : Gk w H Po Q) (hz : vs.length ≤ 1000 := by simp) : kTup vs H1 Q :=
  k_tup (sz1 (by omega)) fun q H5 g5 e5 => k _ _ H5 hd (.tup e5 (Rps.mono g5.tu hv)) (g.trans g5.any) (I.new g5).P
theorem Gk.ans {xs : List V → Hp → (D → Prop) → Prop} {es : List V} (I : In w M H) (hx : xs es H Po) (k : ∀ v d H', Po d → Rp H' v d → Gr [w.p] H H' → In w M H' → Q v H') : spG xs (.ref w.p :: .ref w.a :: es) H Q E :=
  ⟨w, es, Po, rfl, I.one, hx, fun v d H' hd hv g hP => k v d H' hd hv g (I.gr g hP)⟩
end
theorem sht_nm {x : Str} (h : isNm x = true) : Sht x := Nat.le_trans (isNm_len h) (by decide)
def spAct (n : Nat) : Sp := spG fun es H Po => (∃ dp : Int, es = [.int dp] ∧ 0 ≤ dp ∧ dp + n = 3) ∧ 1 ≤ n ∧ Po = KA n
def spPlain : Sp := spG fun es H Po => es = [] ∧ Po = fun d => ∀ PB, Sm PB d
theorem sc__law_action : FnScope ["_law_pool_here", "_law_lore_here", "_law_depth", "_law_guard", "_law_step", "_law_argument_here", "_law_further", "_law_k"] ["_law_pool_here", "_law_lore_here", "_law_depth"] (defScope s__law_action) := ⟨rfl, rfl, rfl, by decide +kernel, rfl, by decide +kernel, by decide +kernel⟩
theorem sc__law_plain : FnScope ["_law_pool_here", "_law_lore_here", "_law_choice", "_law_pair"] ["_law_pool_here", "_law_lore_here"] (defScope s__law_plain) := ⟨rfl, rfl, rfl, by decide +kernel, rfl, by decide +kernel, by decide +kernel⟩
section
variable {G : Ctx}
theorem k__law_action (T : Txt G) (c__law_draw : Cal G 2 (He.ga G.K "_law_draw") spDraw []) (c__law_argument : Cal G 4 (He.ga G.K "_law_argument") spArg []) : ∀ n : Nat, Cal G (n + 4) (He.ga G.K "_law_action") (spAct n) []
  | 0 => cal_never T.f__law_action sc__law_action (fun _ _ _ _ _ _ us hl => match us, hl with | [_, _, _], _ => rfl) fun vs H Q E ⟨_, _, _, _, _, ⟨_, h, _⟩, _⟩ => absurd h (by decide)
  | n + 1 => by
    have c__law_action := k__law_action T c__law_draw c__law_argument n
    refine cal_of (k := n + 4) T.f__law_action sc__law_action (fun _ _ _ _ _ _ us hl => match us, hl with | [_, _, _], _ => rfl) (fun vs H Q E h => ?_) (fun cdv A outer s H vs Q E hr h => ⟨_, ((pss_cons (ps_set (i := 3) sc__law_action.nd rfl (Or.inl rfl) (pe_ix ix_list (pe_lst (pa_cons pe_str (pa_cons pe_str (pa_cons pe_str pa_nil)))) (pe_cal c__law_draw T.g__law_draw hr (by omega) (takes_of rfl rfl rfl rfl) (fun _ _ _ _ h => h) rfl (pa_cons (pv 0) (pa_cons pe_int pa_nil))) (fun _ _ => rfl)))
    (pss_cons (ps_set (i := 4) sc__law_action.nd rfl (Or.inl rfl) (pe_ix ix_list (pe_ix ix_list (pv 1) pe_int (fun _ _ => rfl)) (pe_cal c__law_draw T.g__law_draw hr (by omega) (takes_of rfl rfl rfl rfl) (fun _ _ _ _ h => h) rfl (pa_cons (pv 0) (pa_cons (pe_callB call_lenQ rfl T.v_len PySem.boot_len (pa_cons (pe_ix ix_list (pv 1) pe_int (fun _ _ => rfl)) pa_nil)) pa_nil))) (fun _ _ => rfl)))
    (pss_cons (ps_set (i := 5) sc__law_action.nd rfl (Or.inl rfl) (pe_cal c__law_argument T.g__law_argument hr (by omega) (takes_of rfl rfl rfl rfl) (fun _ _ _ _ h => h) rfl (pa_cons (pv 0) (pa_cons (pv 1) (pa_cons pe_bl pa_nil)))))
    (pss_cons (ps_set (i := 6) sc__law_action.nd rfl (Or.inl rfl) (pe_tup pa_nil))
    (Evl.pss_cut (ps_if (PW.pt (pw_and (pt_cmpR op_ne (pv 3) pe_str (nomark _)) (pw_and (pt_cmpR op_lt (pv 2) pe_int (nomark _)) (pw_and1 (pt_cmpR op_eq (pe_cal c__law_draw T.g__law_draw hr (by omega) (takes_of rfl rfl rfl rfl) (fun _ _ _ _ h => h) rfl (pa_cons (pv 0) (pa_cons pe_int pa_nil))) pe_int (nomark _)))))) (pss_one (ps_for (passes_of rfl) rfl (pi_range1 rfl T.v_range (pa_cons (pe_op op_add pe_int (pe_cal c__law_draw T.g__law_draw hr (by omega) (takes_of rfl rfl rfl rfl) (fun _ _ _ _ h => h) rfl (pa_cons (pv 0) (pa_cons (pe_op op_sub pe_int (pv 2)) pa_nil)))) pa_nil)) (pg_name (i := 7) sc__law_action.nd rfl (Or.inl rfl))
    (pss_one (ps_set (i := 6) sc__law_action.nd rfl (Or.inl rfl) (pe_op op_catA (pv 6) (pe_tup (pa_cons (pe_cal c__law_action T.g__law_action hr (by omega) (takes_of rfl rfl rfl rfl) (fun _ _ _ _ h => h) rfl (pa_cons (pv 0) (pa_cons (pv 1) (pa_cons (pe_op op_add (pv 2) pe_int) pa_nil)))) pa_nil))))))) pss_nil)
    (pss_one (ps_ret (pe_tup (pa_cons (pv 3) (pa_cons (pv 4) (pa_cons (pv 5) (pa_cons (pv 6) pa_nil))))))))))))), ?_⟩)
    · obtain ⟨w, es, Po, rfl, _, ⟨⟨dp, rfl, _⟩, _⟩, _⟩ := h
      rfl
    obtain ⟨w, es, Po, rfl, I, ⟨⟨dp, rfl, d0, d3⟩, _, rfl⟩, k⟩ := h
    walk_at "w"
    refine k_lst (by show 3 ≤ sizeLine; decide) fun q H1 _ g1 e1 => ?_
    have I1 := I.new g1
    walk_at "w"
    refine draw_ans I1 (by decide) (by decide) fun r1 H2 a0 a1 g2 I2 => ?_
    obtain ⟨n1, rfl⟩ := Int.eq_ofNat_of_zero_le a0
    have nq : q ≠ w.p := fun z => by
      obtain ⟨_, _, _, _, _, e, _⟩ := I1.P
      rw [← z, e1] at e
      cases e
    have e2 := g2.keep _ _ e1 (by simpa using nq)
    obtain ⟨g, h1⟩ : ∃ g, (["done", "error", "always"] : List Str)[n1]? = some g := ⟨_, List.getElem?_eq_getElem (by show n1 < 3; omega)⟩
    refine r_ixL (SqL.of e2) (v := .str g) (atI_nat (by show (List.map V.str ["done", "error", "always"])[n1]? = _; rw [List.getElem?_map, h1] <;> rfl)) ?_
    walk_at "w"
    refine draw_ans I2 I2.n1.1 I2.n1.2 fun r2 H3 b0 b1 g3 I3 => ?_
    walk_at "w"
    refine r_nameI I3 b0 b1 fun x hx => ?_
    walk_at "w"
    refine arg_ans I3 fun va da H4 ha hva g4 I4 => ?_
    walk_at "w"
    refine k_tup (by show 0 ≤ sizeLine; decide) fun t H5 g5 e5 => ?_
    have I5 := I4.new g5
    have g05 := ((((g1.any (M := [w.p])).trans g2).trans g3).trans g4).trans (g5.any (M := [w.p]))
    have hva5 := hva.mono g5.tu
    walk_at "w"
    refine r_cut (fun σ' H' => ∃ (t : Addr) (o : Option V) (vs : List V) (ds : List D), σ' = [some (.ref w.p), some (.ref w.a), some (.int dp), some (.str g), some (.str x), some va, some (.ref t), o] ∧ H' t = some (.tup vs) ∧ Rps H' vs ds ∧ ds.length ≤ 4 ∧ (∀ y ∈ ds, KA n y) ∧ Gr [w.p] H5 H' ∧ In w [w.p] H') ?_ ?_
    · walk_at "w"
      refine i_nS (fun _ => ?_) (fun _ => ?_)
      · walk_at "w"
        exact ⟨t, none, [], [], rfl, e5, .nil, Nat.zero_le _, fun _ z => (nomatch z), Gr.refl, I5⟩
      walk_at "w"
      refine i_d (fun hd => ?_) (fun _ => ?_)
      · walk_at "w"
        refine draw_ans I5 (by decide) (by decide) fun r3 H6 c0 c1 g6 I6 => ?_
        walk_at "w"
        refine i_I (fun _ => ?_) (fun _ => ?_)
        · walk_at "w"
          refine draw_ans I6 (by omega) (by omega) fun r4 H7 x0 x1 g7 I7 => ?_
          walk_at "w"
          refine k_forR (by omega) (by omega) (fun i σ' H' => ∃ (t : Addr) (o : Option V) (vs : List V) (ds : List D), σ' = [some (.ref w.p), some (.ref w.a), some (.int dp), some (.str g), some (.str x), some va, some (.ref t), o] ∧ H' t = some (.tup vs) ∧ Rps H' vs ds ∧ ds.length = i ∧ (∀ y ∈ ds, KA n y) ∧ Gr [w.p] H5 H' ∧ In w [w.p] H')
            ⟨t, none, [], [], rfl, (g6.trans g7).tu _ _ e5, .nil, rfl, fun _ z => (nomatch z), g6.trans g7, I7⟩ ?_ ?_
          · rintro i σ8 H8 hi ⟨t, o, vs, ds, rfl, et, hvs, hl, hK, g8, I8⟩
            walk_at "w"
            refine Gk.ans (es := [.int (dp + 1)]) I8 ⟨⟨dp + 1, rfl, by omega, by omega⟩, by omega, rfl⟩ fun v d H9 hd hv g9 I9 => ?_
            walk_at "w"
            refine k_tup (by show 1 ≤ sizeLine; decide) fun t2 H10 g10 e10 => ?_
            have t810 := g9.tu.trans g10.tu
            refine r_cat (t810 _ _ et) e10 (by rw [sizeLine_eq, hvs.len]; show ds.length + 1 ≤ _; omega) fun t3 H11 g11 e11 => ?_
            walk_at "w"
            refine ⟨t3, some (.int i), _, ds ++ [d], rfl, e11, ((Rps.mono t810 hvs).append (.cons (hv.mono g10.tu) .nil)).mono g11.tu, by rw [List.length_append, hl] <;> rfl, fun y hy => ?_, ((g8.trans g9).trans g10.any).trans g11.any, (I9.new g10).new g11⟩
            rcases mem_snoc hy with z | z
            · exact hK y z
            · rw [z]; exact hd
          · rintro σ8 H8 ⟨t, o, vs, ds, rfl, et, hvs, hl, hK, g8, I8⟩
            walk_at "w"
            exact ⟨t, o, vs, ds, rfl, et, hvs, by omega, hK, g8, I8⟩
        · walk_at "w"
          exact ⟨t, none, [], [], rfl, g6.tu _ _ e5, .nil, Nat.zero_le _, fun _ z => (nomatch z), g6, I6⟩
      · walk_at "w"
        exact ⟨t, none, [], [], rfl, e5, .nil, Nat.zero_le _, fun _ z => (nomatch z), Gr.refl, I5⟩
    · rintro σ' H6 ⟨t, o, vs, ds, rfl, et, hvs, hl, hK, g6, I6⟩
      walk_at "w"
      exact k_dat I6 (g05.trans g6) (.cons (.str _) (.cons (.str _) (.cons (hva5.mono g6.tu) (.cons (.tup et hvs) .nil)))) ⟨g, x, da, ds, rfl, ha, hl, hK⟩ k
theorem k__law_plain (T : Txt G) (c__law_draw : Cal G 2 (He.ga G.K "_law_draw") spDraw []) (c__law_number : Cal G 3 (He.ga G.K "_law_number") spNumber []) (c__law_name : Cal G 3 (He.ga G.K "_law_name") spName []) (c__law_argument : Cal G 4 (He.ga G.K "_law_argument") spArg []) (c__law_action : Cal G 7 (He.ga G.K "_law_action") (spAct 3) []) : Cal G 8 (He.ga G.K "_law_plain") spPlain [] := by
  refine cal_of T.f__law_plain sc__law_plain (fun _ _ _ _ _ _ us hl => match us, hl with | [_, _], _ => rfl) (fun vs H Q E h => ?_) (fun cdv A outer s H vs Q E hr h => ⟨_, ((pss_cons (ps_set (i := 2) sc__law_plain.nd rfl (Or.inl rfl) (pe_cal c__law_draw T.g__law_draw hr (by omega) (takes_of rfl rfl rfl rfl) (fun _ _ _ _ h => h) rfl (pa_cons (pv 0) (pa_cons pe_int pa_nil))))
    (pss_cons (ps_if (pt_cmpR op_lt (pv 2) pe_int (nomark _)) (pss_one (ps_ret (pe_tup (pa_cons pe_str (pa_cons (pe_ix ix_list (pe_ix ix_list (pv 1) pe_int (fun _ _ => rfl)) (pe_cal c__law_draw T.g__law_draw hr (by omega) (takes_of rfl rfl rfl rfl) (fun _ _ _ _ h => h) rfl (pa_cons (pv 0) (pa_cons (pe_callB call_lenQ rfl T.v_len PySem.boot_len (pa_cons (pe_ix ix_list (pv 1) pe_int (fun _ _ => rfl)) pa_nil)) pa_nil))) (fun _ _ => rfl)) (pa_cons (pe_cal c__law_argument T.g__law_argument hr (by omega) (takes_of rfl rfl rfl rfl) (fun _ _ _ _ h => h) rfl (pa_cons (pv 0) (pa_cons (pv 1) (pa_cons pe_bl pa_nil)))) pa_nil)))))) pss_nil)
    (Evl.pss_cut (ps_if (PW.pt (pw_or (pt_cmpR op_lt (pv 2) pe_int (nomark _)) (pw_or1 (PW.pt (pw_and (pt_cmpR op_eq (pv 2) pe_int (nomark _)) (pw_and1 (pt_cmpR op_eq (pe_callB call_lenQ rfl T.v_len PySem.boot_len (pa_cons (pe_ix ix_list (pv 1) pe_int (fun _ _ => rfl)) pa_nil)) pe_int (nomark _)))))))) (pss_one (ps_ret (pe_tup (pa_cons pe_str (pa_cons (pe_cal c__law_action T.g__law_action hr (by omega) (takes_of rfl rfl rfl rfl) (fun _ _ _ _ h => h) rfl (pa_cons (pv 0) (pa_cons (pv 1) (pa_cons pe_int pa_nil)))) pa_nil))))) pss_nil)
    (pss_cons (ps_if (pt_cmpR op_eq (pv 2) pe_int (nomark _)) (pss_cons (ps_set (i := 3) sc__law_plain.nd rfl (Or.inl rfl) (pe_ix ix_list (pe_ix ix_list (pv 1) pe_int (fun _ _ => rfl)) (pe_cal c__law_draw T.g__law_draw hr (by omega) (takes_of rfl rfl rfl rfl) (fun _ _ _ _ h => h) rfl (pa_cons (pv 0) (pa_cons (pe_callB call_lenQ rfl T.v_len PySem.boot_len (pa_cons (pe_ix ix_list (pv 1) pe_int (fun _ _ => rfl)) pa_nil)) pa_nil))) (fun _ _ => rfl)))
    (pss_one (ps_ret (pe_tup (pa_cons pe_str (pa_cons (pe_ix ix_tup (pv 3) pe_int (fun _ _ => rfl)) (pa_cons (pe_cal c__law_draw T.g__law_draw hr (by omega) (takes_of rfl rfl rfl rfl) (fun _ _ _ _ h => h) rfl (pa_cons (pv 0) (pa_cons (pe_ix ix_tup (pv 3) pe_int (fun _ _ => rfl)) pa_nil))) pa_nil))))))) pss_nil)
    (pss_cons (ps_if (pt_cmpR op_eq (pv 2) pe_int (nomark _)) (pss_cons (ps_if (PW.pt (pw_and (pt_cmpR op_gt (pe_callB call_lenQ rfl T.v_len PySem.boot_len (pa_cons (pe_ix ix_list (pv 1) pe_int (fun _ _ => rfl)) pa_nil)) pe_int (nomark _)) (pw_and1 (pt_cmpR op_eq (pe_cal c__law_draw T.g__law_draw hr (by omega) (takes_of rfl rfl rfl rfl) (fun _ _ _ _ h => h) rfl (pa_cons (pv 0) (pa_cons pe_int pa_nil))) pe_int (nomark _))))) (pss_one (ps_ret (pe_tup (pa_cons pe_str (pa_cons (pe_tup (pa_cons pe_str (pa_cons (pe_ix ix_tup (pe_ix ix_list (pe_ix ix_list (pv 1) pe_int (fun _ _ => rfl)) (pe_cal c__law_draw T.g__law_draw hr (by omega) (takes_of rfl rfl rfl rfl) (fun _ _ _ _ h => h) rfl (pa_cons (pv 0) (pa_cons (pe_callB call_lenQ rfl T.v_len PySem.boot_len (pa_cons (pe_ix ix_list (pv 1) pe_int (fun _ _ => rfl)) pa_nil)) pa_nil))) (fun _ _ => rfl)) pe_int (fun _ _ => rfl)) pa_nil))) pa_nil))))) pss_nil)
    (pss_one (ps_ret (pe_tup (pa_cons pe_str (pa_cons (pe_cal c__law_number T.g__law_number hr (by omega) (takes_of rfl rfl rfl rfl) (fun _ _ _ _ h => h) rfl (pa_cons (pv 0) pa_nil)) pa_nil)))))) pss_nil)
    (pss_cons (ps_if (pt_cmpR op_eq (pv 2) pe_int (nomark _)) (pss_one (ps_ret (pe_tup (pa_cons pe_str (pa_cons (pe_cal c__law_name T.g__law_name hr (by omega) (takes_of rfl rfl rfl rfl) (fun _ _ _ _ h => h) rfl (pa_cons (pv 0) pa_nil)) pa_nil))))) pss_nil)
    (pss_cons (ps_if (pt_cmpR op_eq (pe_cal c__law_draw T.g__law_draw hr (by omega) (takes_of rfl rfl rfl rfl) (fun _ _ _ _ h => h) rfl (pa_cons (pv 0) (pa_cons pe_int pa_nil))) pe_int (nomark _)) (pss_one (ps_ret (pe_tup (pa_cons pe_str (pa_cons (pe_ix ix_list (pe_ix ix_list (pv 1) pe_int (fun _ _ => rfl)) (pe_cal c__law_draw T.g__law_draw hr (by omega) (takes_of rfl rfl rfl rfl) (fun _ _ _ _ h => h) rfl (pa_cons (pv 0) (pa_cons (pe_callB call_lenQ rfl T.v_len PySem.boot_len (pa_cons (pe_ix ix_list (pv 1) pe_int (fun _ _ => rfl)) pa_nil)) pa_nil))) (fun _ _ => rfl)) pa_nil))))) pss_nil)
    (pss_one (ps_ret (pe_tup (pa_cons pe_str (pa_cons (pe_cal c__law_name T.g__law_name hr (by omega) (takes_of rfl rfl rfl rfl) (fun _ _ _ _ h => h) rfl (pa_cons (pv 0) pa_nil)) pa_nil))))))))))))), ?_⟩)
  · obtain ⟨w, es, Po, rfl, _, ⟨rfl, _⟩, _⟩ := h
    rfl
  obtain ⟨w, es, Po, rfl, I, ⟨rfl, rfl⟩, k⟩ := h
  walk_at "w"
  refine draw_ans I (by decide) (by decide) fun r1 H1 a0 a1 g1 I1 => ?_
  walk_at "w"
  refine i_d (fun _ => ?_) (fun _ => ?_)
  · walk_at "w"
    refine draw_ans I1 I1.n1.1 I1.n1.2 fun r2 H2 b0 b1 g2 I2 => ?_
    refine r_nameI I2 b0 b1 fun x hx => ?_
    walk_at "w"
    refine arg_ans I2 fun va da H4 ha hva g4 I4 => ?_
    walk_at "w"
    exact k_dat I4 ((g1.trans g2).trans g4) (.cons (.str _) (.cons (.str _) (.cons hva .nil))) (fun PB => ⟨_, _, rfl, .do_ x da ha⟩) k
  walk_at "w"
  have act : spAct 3 [.ref w.p, .ref w.a, .int 0] H1 (fun v H2 => kTup [.str "put", v] H2 Q) E := Gk.ans (es := [.int 0]) I1 ⟨⟨0, rfl, by decide, by decide⟩, by decide, rfl⟩ fun v d H2 hd hv g2 I2 =>
    k_dat I2 (g1.trans g2) (.cons (.str _) (.cons hv .nil)) (fun PB => ⟨_, _, rfl, .put d (hd.mono (by decide))⟩) k
  refine r_cut (fun σ' H' => σ' = [some (.ref w.p), some (.ref w.a), some (.int r1), none] ∧ H' = H1 ∧ (r1 = 6 → w.C.length ≠ 0)) ?_ ?_
  · walk_at "w"
    refine i_d (fun _ => ?_) (fun _ => ?_)
    · walk_at "w"
      exact act
    walk_at "w"
    refine i_I (fun _ => ?_) (fun h6 => ?_)
    · walk_at "w"
      refine i_I (fun _ => ?_) (fun hz => ?_)
      · walk_at "w"
        exact act
      · walk_at "w"
        exact ⟨rfl, rfl, fun _ z => hz (by omega)⟩
    · walk_at "w"
      exact ⟨rfl, rfl, fun z => absurd z h6⟩
  rintro σ' H' ⟨rfl, rfl, h6⟩
  walk_at "w"
  refine i_I (fun e6 => ?_) (fun _ => ?_)
  · walk_at "w"
    refine draw_ans I1 (by have := h6 e6; omega) I1.c2 fun r2 H2 b0 b1 g2 I2 => ?_
    refine r_cellI I2 b0 b1 fun t c hc et => ?_
    walk_at "w"
    have hc2 := (I2.L.ok.cm c hc).2
    refine draw_ans I2 (by omega) (by omega) fun r3 H3 c0 c1 g3 I3 => ?_
    walk_at "w"
    exact k_dat I3 ((g1.trans g2).trans g3) (.cons (.str _) (.cons (.str _) (.cons (.int _) .nil))) (fun PB => ⟨_, _, rfl, .set _ _⟩) k
  walk_at "w"
  refine i_I (fun e6 => ?_) (fun _ => ?_)
  · have nn : ∀ H2, Gr [w.p] H H2 → In w [w.p] H2 → spNumber [.ref w.p] H2 (fun v H3 => kTup [.str "return", v] H3 Q) E := fun H2 g2 I2 => number_ans I2 fun r3 H3 g3 I3 =>
      k_dat I3 (g2.trans g3) (.cons (.str _) (.cons (.int _) .nil)) (fun PB => ⟨_, _, rfl, .ret _ (.int r3) (fun z => by cases z)⟩) k
    walk_at "w"
    refine i_d (fun hc => ?_) (fun _ => ?_)
    · walk_at "w"
      refine draw_ans I1 (by decide) (by decide) fun r2 H2 b0 b1 g2 I2 => ?_
      walk_at "w"
      refine i_I (fun _ => ?_) (fun _ => ?_)
      · walk_at "w"
        refine draw_ans I2 (by omega) I2.c2 fun r3 H3 c0 c1 g3 I3 => ?_
        refine r_cellI I3 c0 c1 fun t c hc et => ?_
        walk_at "w"
        refine k_tup (by show 2 ≤ sizeLine; decide) fun q H4 g4 e4 => ?_
        walk_at "w"
        exact k_dat (I3.new g4) (((g1.trans g2).trans g3).trans g4.any) (.cons (.str _) (.cons (.tup e4 (.cons (.str _) (.cons (.str _) .nil))) .nil)) (fun PB => ⟨_, _, rfl, .ret _ (.pair _ _) (fun z => by cases z)⟩) k
      · walk_at "w"
        exact nn _ (g1.trans g2) I2
    · walk_at "w"
      exact nn _ g1 I1
  walk_at "w"
  refine i_I (fun e6 => ?_) (fun _ => ?_)
  · walk_at "w"
    refine name_ans I1 fun x H2 hx g2 I2 => ?_
    walk_at "w"
    exact k_dat I2 (g1.trans g2) (.cons (.str _) (.cons (.str _) .nil)) (fun PB => ⟨_, _, rfl, .leave _ (sht_nm hx)⟩) k
  walk_at "w"
  refine draw_ans I1 (by decide) (by decide) fun r2 H2 b0 b1 g2 I2 => ?_
  walk_at "w"
  refine i_I (fun _ => ?_) (fun _ => ?_)
  · walk_at "w"
    refine draw_ans I2 I2.n1.1 I2.n1.2 fun r3 H3 b0 b1 g3 I3 => ?_
    refine r_nameI I3 b0 b1 fun x hx => ?_
    walk_at "w"
    exact k_dat I3 ((g1.trans g2).trans g3) (.cons (.str _) (.cons (.str _) .nil)) (fun PB => ⟨_, _, rfl, .raise_ _ (sht_nm (by first | exact hx | exact I3.L.ok.nm _ hx))⟩) k
  · walk_at "w"
    refine name_ans I2 fun x H3 hx g3 I3 => ?_
    walk_at "w"
    exact k_dat I3 ((g1.trans g2).trans g3) (.cons (.str _) (.cons (.str _) .nil)) (fun PB => ⟨_, _, rfl, .raise_ _ (sht_nm (by first | exact hx | exact I3.L.ok.nm _ hx))⟩) k
end
end Xd

/-! text D7 -/
/-! statements and blocks -/
namespace Xd
open PySem PySem.Spec PyProof.Rows L2
local macro_rules | `(tactic| walk_at "w1") => `(tactic| first
  | with_reducible apply r_seq
  | with_reducible apply r_asg
  | with_reducible apply r_gname
  | ((with_reducible apply r_var); exact rfl)
  | with_reducible apply r_c
  | with_reducible apply r_op
  | with_reducible apply r_I0
  | ((with_reducible apply r_eq); exact rfl)
  | ((with_reducible apply r_ne); exact rfl)
  | with_reducible apply r_if
  | with_reducible apply r_test
  | with_reducible apply r_tB
  | with_reducible apply r_bl
  | with_reducible apply r_and
  | with_reducible apply r_or
  | with_reducible apply r_not
  | with_reducible apply r_ret
  | with_reducible apply r_drop
  | with_reducible apply r_cons
  | with_reducible apply r_nil
  | with_reducible apply r_cal
  | with_reducible apply r_cb
  | with_reducible apply r_tup
  | with_reducible apply r_lst
  | with_reducible apply r_next
  | with_reducible apply r_retN
  | with_reducible apply r_un
  | with_reducible apply r_U
  | with_reducible apply r_andV
  | with_reducible apply r_orV
  | with_reducible apply r_notV
  | with_reducible apply r_ifx
  | with_reducible apply r_forT
  | with_reducible apply r_forL
  | with_reducible apply r_forR
  | with_reducible apply r_sl
  | with_reducible apply r_nop
  | with_reducible apply r_part
  | with_reducible apply r_kPart
  | with_reducible apply r_gsub
  | with_reducible apply r_int1
  | with_reducible apply r_isN
  | with_reducible apply r_notN
  | with_reducible apply r_ltStr
  | with_reducible apply r_inS
  | with_reducible apply r_niS
  | with_reducible apply r_bm
  | with_reducible apply r_forS
  | with_reducible apply r_lcL
  | with_reducible apply r_lcT
  | with_reducible apply r_m0
  | (with_reducible refine r_l0 (by assumption) ?_)
  | (with_reducible refine r_l2 (by assumption) ?_)
  | (with_reducible refine r_lenN (by assumption) ?_)
  | (with_reducible refine r_lenC (by assumption) ?_)
  | ((with_reducible apply r_ixT'); (assumption); (first | exact rfl | exact atI_0 | exact atI_1 | exact atI_2))
  | ((with_reducible apply r_ixL'); (assumption); (exact rfl))
  | ((with_reducible apply i_f); exact rfl)
  | ((with_reducible apply i_t); exact rfl)
  | ((with_reducible apply r_I); first | exact Or.inr ⟨by decide, by decide⟩ | exact (by decide) | assumption | exact ⟨by omega, by omega⟩ | exact (by omega) | exact ⟨by decide, by decide, by decide⟩))
local macro_rules | `(tactic| walk_at "w") => `(tactic| repeat (walk_at "w1"))

/-- the room at rm -/
structure InR (w : Wo) (rm : Addr) (H : Hp) : Prop where
  I : In w [w.p, rm] H
  n1 : rm ≠ w.p
  n2 : rm ≠ w.sc
  e : ∃ z : Int, H rm = some (.lst [.int z])
section
variable {w : Wo} {rm : Addr} {M : List Addr} {H H' H1 : Hp} {K : PySem.W.Frag} {Q : VK} {E : XK} {r : Int} {Po : D → Prop}
theorem InR.gr (I : InR w rm H) (g : Gr [w.p] H H') (hP : Pool w.sc w.p H') : InR w rm H' := ⟨I.I.gr g hP, I.n1, I.n2, let ⟨z, e⟩ := I.e; ⟨z, g.keep _ _ e (by simpa using I.n1)⟩⟩
theorem InR.new (I : InR w rm H) (g : Gr [] H H') : InR w rm H' := ⟨I.I.new g, I.n1, I.n2, let ⟨z, e⟩ := I.e; ⟨z, g.at0 e⟩⟩
theorem InR.set (I : InR w rm H) (z : Int) : Gr [w.p, rm] H (upd H rm (.lst [.int z])) ∧ InR w rm (upd H rm (.lst [.int z])) := by
  obtain ⟨z0, e⟩ := I.e
  have g : Gr [w.p, rm] H (upd H rm (.lst [.int z])) := Gr.set e (List.mem_cons_of_mem _ List.mem_cons_self) (fun xs z => nomatch z)
  exact ⟨g, ⟨I.I.P.upd I.n2 I.n1, I.I.L.gr g, List.mem_cons_self⟩, I.n1, I.n2, z, upd_same⟩
theorem Gr.wide {a b : Addr} (g : Gr [a] H H') : Gr [a, b] H H' := g.mono fun x hx => by rw [List.mem_singleton.mp hx]; exact List.mem_cons_self
theorem draw_ansR {n : Int} (I : InR w rm H) (h0 : 0 < n) (h1 : n < 1073741824) (k : ∀ r H', 0 ≤ r → r < n → Gr [w.p, rm] H H' → InR w rm H' → Q (.int r) H') : spDraw [.ref w.p, .int n] H Q E :=
  ⟨w.sc, w.p, n, rfl, I.I.P, h0, h1, fun r H' a b g hP => k r H' a b g.wide (I.gr g hP)⟩
theorem name_ansR (I : InR w rm H) (k : ∀ x H', isNm x = true → Gr [w.p, rm] H H' → InR w rm H' → Q (.str x) H') : spName [.ref w.p] H Q E :=
  ⟨w.sc, w.p, rfl, I.I.P, fun x H' hx g hP => k x H' hx g.wide (I.gr g hP)⟩
theorem Gk.ansR {xs : List V → Hp → (D → Prop) → Prop} {es : List V} (I : InR w rm H) (hx : xs es H Po) (k : ∀ v d H', Po d → Rp H' v d → Gr [w.p, rm] H H' → InR w rm H' → Q v H') : spG xs (.ref w.p :: .ref w.a :: es) H Q E :=
  ⟨w, es, Po, rfl, I.I.one, hx, fun v d H' hd hv g hP => k v d H' hd hv g.wide (I.gr g hP)⟩
abbrev GkR (w : Wo) (rm : Addr) (H : Hp) (Po : D → Prop) (Q : VK) : Prop := ∀ v d H', Po d → Rp H' v d → Gr [w.p, rm] H H' → InR w rm H' → Q v H'
theorem k_datR {vs : List V} {ds : List D} (I : InR w rm H1) (g : Gr [w.p, rm] H H1) (hv : Rps H1 vs ds) (hd : Po (.tup ds)) (k : GkR w rm H Po Q) (hz : vs.length ≤ 1000 := by simp) : kTup vs H1 Q :=
  k_tup (sz1 (by omega)) fun q H5 g5 e5 => k _ _ H5 hd (.tup e5 (Rps.mono g5.tu hv)) (g.trans g5.any) (I.new g5)
theorem r_l2R (I : InR w rm H) (k : Q (.ref w.ap) H) : rIxL K (.ref w.a) (.int 2) H Q := r_l2 I.I k
theorem r_lenCR (I : InR w rm H) (k : Q (.int w.C.length) H) : rLenQ K [.ref w.ap] H Q := r_lenC I.I k
end
def spRm (n : Nat) (Po : D → Prop) : Sp := fun vs H Q _ => ∃ (w : Wo) (rm : Addr) (dp : Int), vs = [.ref w.p, .ref w.a, .ref rm, .int dp] ∧ InR w rm H ∧ 1 ≤ n ∧ 0 ≤ dp ∧ dp + n = 5 ∧ GkR w rm H Po Q
abbrev spStm (n : Nat) : Sp := spRm n (RS n)
abbrev spBlk (n : Nat) : Sp := spRm n fun d => ∃ l, d = .tup l ∧ RB n l
theorem rm_ans {n : Nat} {w : Wo} {rm : Addr} {H : Hp} {Q : VK} {E : XK} {dp : Int} {Po : D → Prop} (I : InR w rm H) (hn : 1 ≤ n) (h0 : 0 ≤ dp) (h5 : dp + n = 5) (k : GkR w rm H Po Q) : spRm n Po [.ref w.p, .ref w.a, .ref rm, .int dp] H Q E := ⟨w, rm, dp, rfl, I, hn, h0, h5, k⟩
theorem sc__law_statement : FnScope ["_law_pool_here", "_law_lore_here", "_law_room", "_law_depth", "_law_choice", "_law_first", "_law_pair"] ["_law_pool_here", "_law_lore_here", "_law_room", "_law_depth"] (defScope s__law_statement) := ⟨rfl, rfl, rfl, by decide +kernel, rfl, by decide +kernel, by decide +kernel⟩
theorem sc__law_block : FnScope ["_law_pool_here", "_law_lore_here", "_law_room", "_law_depth", "_law_block_here", "_law_k"] ["_law_pool_here", "_law_lore_here", "_law_room", "_law_depth"] (defScope s__law_block) := ⟨rfl, rfl, rfl, by decide +kernel, rfl, by decide +kernel, by decide +kernel⟩
section
variable {G : Ctx}
theorem k__law_statement (T : Txt G) (c__law_draw : Cal G 2 (He.ga G.K "_law_draw") spDraw []) (c__law_name : Cal G 3 (He.ga G.K "_law_name") spName []) (c__law_plain : Cal G 8 (He.ga G.K "_law_plain") spPlain []) {n : Nat} (c__law_block : Cal G (2 * n + 9) (He.ga G.K "_law_block") (spBlk n) []) : Cal G (2 * n + 10) (He.ga G.K "_law_statement") (spStm (n + 1)) [] := by
  refine cal_of (k := 2 * n + 9) T.f__law_statement sc__law_statement (fun _ _ _ _ _ _ us hl => match us, hl with | [_, _, _, _], _ => rfl) (fun vs H Q E h => ?_) (fun cdv A outer s H vs Q E hr h => ⟨_, ((pss_cons (ps_set (i := 4) sc__law_statement.nd rfl (Or.inl rfl) (pe_cal c__law_draw T.g__law_draw hr (by omega) (takes_of rfl rfl rfl rfl) (fun _ _ _ _ h => h) rfl (pa_cons (pv 0) (pa_cons pe_int pa_nil))))
    (pss_cons (ps_if (PW.pt (pw_or (pt_cmpR op_lt (pv 4) pe_int (nomark _)) (pw_or1 (pt_cmpR op_gt (pv 3) pe_int (nomark _))))) (pss_one (ps_ret (pe_cal c__law_plain T.g__law_plain hr (by omega) (takes_of rfl rfl rfl rfl) (fun _ _ _ _ h => h) rfl (pa_cons (pv 0) (pa_cons (pv 1) pa_nil))))) pss_nil)
    (pss_cons (ps_if (pt_cmpR op_eq (pv 4) pe_int (nomark _)) (pss_cons (ps_set (i := 5) sc__law_statement.nd rfl (Or.inl rfl) (pe_cal c__law_block T.g__law_block hr (by omega) (takes_of rfl rfl rfl rfl) (fun _ _ _ _ h => h) rfl (pa_cons (pv 0) (pa_cons (pv 1) (pa_cons (pv 2) (pa_cons (pe_op op_add (pv 3) pe_int) pa_nil))))))
    (pss_one (ps_ret (pe_tup (pa_cons pe_str (pa_cons (pe_cal c__law_name T.g__law_name hr (by omega) (takes_of rfl rfl rfl rfl) (fun _ _ _ _ h => h) rfl (pa_cons (pv 0) pa_nil)) (pa_cons (pv 5) (pa_cons (pe_cal c__law_block T.g__law_block hr (by omega) (takes_of rfl rfl rfl rfl) (fun _ _ _ _ h => h) rfl (pa_cons (pv 0) (pa_cons (pv 1) (pa_cons (pv 2) (pa_cons (pe_op op_add (pv 3) pe_int) pa_nil))))) pa_nil)))))))) pss_nil)
    (Evl.pss_cut (ps_if (PW.pt (pw_or (pt_cmpR op_eq (pv 4) pe_int (nomark _)) (pw_or1 (pt_cmpR op_eq (pe_callB call_lenQ rfl T.v_len PySem.boot_len (pa_cons (pe_ix ix_list (pv 1) pe_int (fun _ _ => rfl)) pa_nil)) pe_int (nomark _))))) (pss_one (ps_ret (pe_tup (pa_cons pe_str (pa_cons (pe_cal c__law_name T.g__law_name hr (by omega) (takes_of rfl rfl rfl rfl) (fun _ _ _ _ h => h) rfl (pa_cons (pv 0) pa_nil)) (pa_cons (pe_cal c__law_block T.g__law_block hr (by omega) (takes_of rfl rfl rfl rfl) (fun _ _ _ _ h => h) rfl (pa_cons (pv 0) (pa_cons (pv 1) (pa_cons (pv 2) (pa_cons (pe_op op_add (pv 3) pe_int) pa_nil))))) pa_nil)))))) pss_nil)
    (pss_cons (ps_set (i := 6) sc__law_statement.nd rfl (Or.inl rfl) (pe_ix ix_list (pe_ix ix_list (pv 1) pe_int (fun _ _ => rfl)) (pe_cal c__law_draw T.g__law_draw hr (by omega) (takes_of rfl rfl rfl rfl) (fun _ _ _ _ h => h) rfl (pa_cons (pv 0) (pa_cons (pe_callB call_lenQ rfl T.v_len PySem.boot_len (pa_cons (pe_ix ix_list (pv 1) pe_int (fun _ _ => rfl)) pa_nil)) pa_nil))) (fun _ _ => rfl)))
    (pss_cons (ps_set (i := 5) sc__law_statement.nd rfl (Or.inl rfl) (pe_cal c__law_block T.g__law_block hr (by omega) (takes_of rfl rfl rfl rfl) (fun _ _ _ _ h => h) rfl (pa_cons (pv 0) (pa_cons (pv 1) (pa_cons (pv 2) (pa_cons (pe_op op_add (pv 3) pe_int) pa_nil))))))
    (pss_one (ps_ret (pe_tup (pa_cons pe_str (pa_cons (pe_ix ix_tup (pv 6) pe_int (fun _ _ => rfl)) (pa_cons (pe_cal c__law_draw T.g__law_draw hr (by omega) (takes_of rfl rfl rfl rfl) (fun _ _ _ _ h => h) rfl (pa_cons (pv 0) (pa_cons (pe_ix ix_tup (pv 6) pe_int (fun _ _ => rfl)) pa_nil))) (pa_cons (pv 5) (pa_cons (pe_cal c__law_block T.g__law_block hr (by omega) (takes_of rfl rfl rfl rfl) (fun _ _ _ _ h => h) rfl (pa_cons (pv 0) (pa_cons (pv 1) (pa_cons (pv 2) (pa_cons (pe_op op_add (pv 3) pe_int) pa_nil))))) pa_nil))))))))))))))), ?_⟩)
  · obtain ⟨w, rm, dp, rfl, _⟩ := h
    rfl
  obtain ⟨w, rm, dp, rfl, I, _, d0, d5, k⟩ := h
  walk_at "w"
  refine draw_ansR I (by decide) (by decide) fun r1 H1 a0 a1 g1 I1 => ?_
  walk_at "w"
  have pl : spPlain [.ref w.p, .ref w.a] H1 Q E := Gk.ansR (es := []) I1 ⟨rfl, rfl⟩ fun v d H2 hd hv g2 I2 => k v d H2 (hd _) hv (g1.trans g2) I2
  refine i_d (fun _ => ?_) (fun _ => ?_)
  · walk_at "w"
    exact pl
  walk_at "w"
  refine i_d (fun _ => ?_) (fun h3 => ?_)
  · walk_at "w"
    exact pl
  have n1 : 1 ≤ n := by omega
  have d1 : 0 ≤ dp + 1 := by omega
  have d51 : dp + 1 + n = 5 := by omega
  walk_at "w"
  refine i_I (fun _ => ?_) (fun h3 => ?_)
  · walk_at "w"
    refine rm_ans I1 n1 d1 d51 fun v1 b1 H2 hb1 hv1 g2 I2 => ?_
    obtain ⟨l1, rfl, hl1⟩ := hb1
    walk_at "w"
    refine name_ansR I2 fun x H3 hx g3 I3 => ?_
    walk_at "w"
    refine rm_ans I3 n1 d1 d51 fun v2 b2 H4 hb2 hv2 g4 I4 => ?_
    obtain ⟨l2, rfl, hl2⟩ := hb2
    walk_at "w"
    exact k_datR I4 (((g1.trans g2).trans g3).trans g4) (.cons (.str _) (.cons (.str _) (.cons ((hv1.mono g3.tu).mono g4.tu) (.cons hv2 .nil)))) ⟨_, _, rfl, .if_ x l1 l2 (sht_nm hx) hl1 hl2⟩ k
  walk_at "w"
  refine r_cut (fun σ' H' => σ' = [some (.ref w.p), some (.ref w.a), some (.ref rm), some (.int dp), some (.int r1), none, none] ∧ H' = H1 ∧ w.C.length ≠ 0) ?_ ?_
  · walk_at "w"
    refine i_I (fun _ => ?_) (fun _ => ?_)
    · walk_at "w"
      refine name_ansR I1 fun x H3 hx g3 I3 => ?_
      walk_at "w"
      refine rm_ans I3 n1 d1 d51 fun v2 b2 H4 hb2 hv2 g4 I4 => ?_
      obtain ⟨l2, rfl, hl2⟩ := hb2
      walk_at "w"
      exact k_datR I4 ((g1.trans g3).trans g4) (.cons (.str _) (.cons (.str _) (.cons hv2 .nil))) ⟨_, _, rfl, .while_ x l2 (sht_nm hx) hl2⟩ k
    walk_at "w"
    refine r_l2R I1 ?_
    walk_at "w"
    refine r_lenCR I1 ?_
    walk_at "w"
    refine i_I (fun _ => ?_) (fun hz => ?_)
    · walk_at "w"
      refine name_ansR I1 fun x H3 hx g3 I3 => ?_
      walk_at "w"
      refine rm_ans I3 n1 d1 d51 fun v2 b2 H4 hb2 hv2 g4 I4 => ?_
      obtain ⟨l2, rfl, hl2⟩ := hb2
      walk_at "w"
      exact k_datR I4 ((g1.trans g3).trans g4) (.cons (.str _) (.cons (.str _) (.cons hv2 .nil))) ⟨_, _, rfl, .while_ x l2 (sht_nm hx) hl2⟩ k
    · walk_at "w"
      exact ⟨rfl, rfl, fun z => hz (by omega)⟩
  rintro σ' H' ⟨rfl, rfl, hz⟩
  walk_at "w"
  refine r_l2R I1 ?_
  walk_at "w"
  refine r_l2R I1 ?_
  walk_at "w"
  refine r_lenCR I1 ?_
  walk_at "w"
  refine draw_ansR I1 (by omega) I1.I.c2 fun r2 H2 b0 b1 g2 I2 => ?_
  refine r_cellI I2.I b0 b1 fun t c hc et => ?_
  have hc2 := (I2.I.L.ok.cm c hc).2
  walk_at "w"
  refine rm_ans I2 n1 d1 d51 fun v1 b1 H3 hb1 hv1 g3 I3 => ?_
  obtain ⟨l1, rfl, hl1⟩ := hb1
  have et3 := g3.tu _ _ et
  walk_at "w"
  refine draw_ansR I3 (by omega) (by omega) fun r3 H4 _ _ g4 I4 => ?_
  walk_at "w"
  refine rm_ans I4 n1 d1 d51 fun v2 b2 H5 hb2 hv2 g5 I5 => ?_
  obtain ⟨l2, rfl, hl2⟩ := hb2
  walk_at "w"
  exact k_datR I5 ((((g1.trans g2).trans g3).trans g4).trans g5) (.cons (.str _) (.cons (.str _) (.cons (.int _) (.cons ((hv1.mono g4.tu).mono g5.tu) (.cons hv2 .nil))))) ⟨_, _, rfl, .when_ _ _ l1 l2 hl1 hl2⟩ k
theorem k__law_block (T : Txt G) (c__law_draw : Cal G 2 (He.ga G.K "_law_draw") spDraw []) (c__law_rest : Cal G 1 (He.ga G.K "_law_rest") spRest []) {n : Nat} (c__law_statement : Cal G (2 * n + 10) (He.ga G.K "_law_statement") (spStm (n + 1)) []) : Cal G (2 * n + 11) (He.ga G.K "_law_block") (spBlk (n + 1)) [] := by
  refine cal_of (k := 2 * n + 10) T.f__law_block sc__law_block (fun _ _ _ _ _ _ us hl => match us, hl with | [_, _, _, _], _ => rfl) (fun vs H Q E h => ?_) (fun cdv A outer s H vs Q E hr h => ⟨_, ((pss_cons (ps_set (i := 4) sc__law_block.nd rfl (Or.inl rfl) (pe_tup pa_nil))
    (pss_cons (ps_for (passes_of rfl) rfl (pi_range1 rfl T.v_range (pa_cons pe_int pa_nil)) (pg_name (i := 5) sc__law_block.nd rfl (Or.inl rfl))
    (pss_one (ps_if (PW.pt (pw_and (pt_cmpR op_gt (pe_ix ix_list (pv 2) pe_int (fun _ _ => rfl)) pe_int (nomark _)) (pw_and (pt_val (pe_cal c__law_rest T.g__law_rest hr (by omega) (takes_of rfl rfl rfl rfl) (fun _ _ _ _ h => h) rfl (pa_cons (pv 0) pa_nil))) (pw_and1 (pt_cmpR op_lt (pe_cal c__law_draw T.g__law_draw hr (by omega) (takes_of rfl rfl rfl rfl) (fun _ _ _ _ h => h) rfl (pa_cons (pv 0) (pa_cons pe_int pa_nil))) pe_int (nomark _)))))) (pss_cons (ps_asg (pe_op op_sub (pe_ix ix_list (pv 2) pe_int (fun _ _ => rfl)) pe_int) (pg_sub (pv 2) pe_int set_list))
    (pss_one (ps_set (i := 4) sc__law_block.nd rfl (Or.inl rfl) (pe_op op_catA (pv 4) (pe_tup (pa_cons (pe_cal c__law_statement T.g__law_statement hr (by omega) (takes_of rfl rfl rfl rfl) (fun _ _ _ _ h => h) rfl (pa_cons (pv 0) (pa_cons (pv 1) (pa_cons (pv 2) (pa_cons (pv 3) pa_nil))))) pa_nil)))))) pss_nil)))
    (pss_one (ps_ret (pv 4)))))), ?_⟩)
  · obtain ⟨w, rm, dp, rfl, _⟩ := h
    rfl
  obtain ⟨w, rm, dp, rfl, I, _, d0, d5, k⟩ := h
  walk_at "w"
  refine k_tup (by show 0 ≤ sizeLine; decide) fun t H1 g1 e1 => ?_
  have I1 := I.new g1
  walk_at "w"
  refine k_forR (by decide) (by decide) (fun i σ' H' => ∃ (t : Addr) (o : Option V) (vs : List V) (ds : List D), σ' = [some (.ref w.p), some (.ref w.a), some (.ref rm), some (.int dp), some (.ref t), o] ∧ H' t = some (.tup vs) ∧ Rps H' vs ds ∧ ds.length ≤ i ∧ (∀ y ∈ ds, RS (n + 1) y) ∧ Gr [w.p, rm] H H' ∧ InR w rm H')
    ⟨t, none, [], [], rfl, e1, .nil, Nat.le_refl _, fun _ z => (nomatch z), g1.any, I1⟩ ?_ ?_
  · rintro i σ2 H2 hi ⟨t, o, vs, ds, rfl, et, hvs, hl, hR, g2, I2⟩
    have skip : ∀ H3, Gr [w.p, rm] H2 H3 → InR w rm H3 → ∃ (t' : Addr) (o' : Option V) (vs : List V) (ds : List D), [some (.ref w.p), some (.ref w.a), some (.ref rm), some (.int dp), some (.ref t), some (.int i)] = [some (.ref w.p), some (.ref w.a), some (.ref rm), some (.int dp), some (.ref t'), o'] ∧ H3 t' = some (.tup vs) ∧ Rps H3 vs ds ∧ ds.length ≤ i + 1 ∧ (∀ y ∈ ds, RS (n + 1) y) ∧ Gr [w.p, rm] H H3 ∧ InR w rm H3 :=
      fun H3 g3 I3 => ⟨t, _, vs, ds, rfl, g3.tu _ _ et, Rps.mono g3.tu hvs, by omega, hR, g2.trans g3, I3⟩
    walk_at "w"
    obtain ⟨z, ez⟩ := I2.e
    refine r_ixL (SqL.of ez) rfl ?_
    walk_at "w"
    refine i_d (fun _ => ?_) (fun _ => ?_)
    · walk_at "w"
      refine ⟨w.sc, w.p, rfl, I2.I.P, fun b => ?_⟩
      walk_at "w"
      refine i_2 (fun _ => ?_) (fun _ => ?_)
      · walk_at "w"
        refine draw_ansR I2 (by decide) (by decide) fun r1 H3 a0 a1 g3 I3 => ?_
        walk_at "w"
        refine i_d (fun _ => ?_) (fun _ => ?_)
        · walk_at "w"
          obtain ⟨z3, ez3⟩ := I3.e
          refine r_ixL (SqL.of ez3) rfl ?_
          walk_at "w"
          refine r_setL (k := 0) ez3 rfl ?_
          obtain ⟨g4, I4⟩ := I3.set (z3 - 1)
          have e4 : (upd H3 rm (.lst (([V.int z3] : List V).set 0 (.int (z3 - 1))))) = upd H3 rm (.lst [.int (z3 - 1)]) := rfl
          rw [e4]
          generalize upd H3 rm (.lst [.int (z3 - 1)]) = H4 at g4 I4 ⊢
          walk_at "w"
          refine rm_ans I4 (by omega) d0 d5 fun v d H5 hd hv g5 I5 => ?_
          walk_at "w"
          refine k_tup (by show 1 ≤ sizeLine; decide) fun t2 H6 g6 e6 => ?_
          have t26 := ((g3.tu.trans g4.tu).trans g5.tu).trans g6.tu
          refine r_cat (t26 _ _ et) e6 (by rw [sizeLine_eq, hvs.len]; show ds.length + 1 ≤ _; omega) fun t3 H7 g7 e7 => ?_
          walk_at "w"
          refine ⟨t3, some (.int i), _, ds ++ [d], rfl, e7, ((Rps.mono t26 hvs).append (.cons (hv.mono g6.tu) .nil)).mono g7.tu, by rw [List.length_append]; show ds.length + 1 ≤ _; omega, fun y hy => ?_, (((((g2.trans g3).trans g4).trans g5).trans g6.any).trans g7.any), (I5.new g6).new g7⟩
          rcases mem_snoc hy with z | z
          · exact hR y z
          · rw [z]; exact hd
        · walk_at "w"
          exact skip H3 g3 I3
      · walk_at "w"
        exact skip H2 Gr.refl I2
    · walk_at "w"
      exact skip H2 Gr.refl I2
  · rintro σ2 H2 ⟨t, o, vs, ds, rfl, et, hvs, hl, hR, g2, I2⟩
    walk_at "w"
    exact k _ _ H2 ⟨ds, rfl, hl, hR⟩ (.tup et hvs) g2 I2
theorem k_sb (T : Txt G) (c1 : Cal G 2 (He.ga G.K "_law_draw") spDraw []) (c2 : Cal G 3 (He.ga G.K "_law_name") spName []) (c3 : Cal G 8 (He.ga G.K "_law_plain") spPlain []) (c4 : Cal G 1 (He.ga G.K "_law_rest") spRest []) : ∀ n : Nat, Cal G (2 * n + 9) (He.ga G.K "_law_block") (spBlk n) []
  | 0 => cal_never T.f__law_block sc__law_block (fun _ _ _ _ _ _ us hl => match us, hl with | [_, _, _, _], _ => rfl) fun vs H Q E ⟨_, _, _, _, _, h, _⟩ => absurd h (by decide)
  | n + 1 => k__law_block T c1 c4 (k__law_statement T c1 c2 c3 (k_sb T c1 c2 c3 c4 n))
end
end Xd

/-! text D8 -/
/-! what spoils a statement -/
namespace Xd
open PySem PySem.Spec PyProof.Rows L2
local macro_rules | `(tactic| walk_at "w1") => `(tactic| first
  | with_reducible apply r_seq
  | with_reducible apply r_asg
  | with_reducible apply r_gname
  | ((with_reducible apply r_var); exact rfl)
  | with_reducible apply r_c
  | with_reducible apply r_op
  | with_reducible apply r_I0
  | ((with_reducible apply r_eq); exact rfl)
  | ((with_reducible apply r_ne); exact rfl)
  | with_reducible apply r_if
  | with_reducible apply r_test
  | with_reducible apply r_tB
  | with_reducible apply r_bl
  | with_reducible apply r_and
  | with_reducible apply r_or
  | with_reducible apply r_not
  | with_reducible apply r_ret
  | with_reducible apply r_drop
  | with_reducible apply r_cons
  | with_reducible apply r_nil
  | with_reducible apply r_cal
  | with_reducible apply r_cb
  | with_reducible apply r_tup
  | with_reducible apply r_lst
  | with_reducible apply r_next
  | with_reducible apply r_retN
  | with_reducible apply r_un
  | with_reducible apply r_U
  | with_reducible apply r_andV
  | with_reducible apply r_orV
  | with_reducible apply r_notV
  | with_reducible apply r_ifx
  | with_reducible apply r_forT
  | with_reducible apply r_forL
  | with_reducible apply r_forR
  | with_reducible apply r_sl
  | with_reducible apply r_nop
  | with_reducible apply r_part
  | with_reducible apply r_kPart
  | with_reducible apply r_gsub
  | with_reducible apply r_int1
  | with_reducible apply r_isN
  | with_reducible apply r_notN
  | with_reducible apply r_ltStr
  | with_reducible apply r_inS
  | with_reducible apply r_niS
  | with_reducible apply r_bm
  | with_reducible apply r_forS
  | with_reducible apply r_lcL
  | with_reducible apply r_lcT
  | with_reducible apply r_m0
  | (with_reducible refine r_l0 (by assumption) ?_)
  | (with_reducible refine r_l2 (by assumption) ?_)
  | (with_reducible refine r_lenN (by assumption) ?_)
  | (with_reducible refine r_lenC (by assumption) ?_)
  | ((with_reducible apply r_ixT'); (assumption); (first | exact rfl | exact atI_0 | exact atI_1 | exact atI_2))
  | ((with_reducible apply r_ixL'); (assumption); (exact rfl))
  | ((with_reducible apply i_f); exact rfl)
  | ((with_reducible apply i_t); exact rfl)
  | ((with_reducible apply r_I); first | exact Or.inr ⟨by decide, by decide⟩ | exact (by decide) | assumption | exact ⟨by omega, by omega⟩ | exact (by omega) | exact ⟨by decide, by decide, by decide⟩))
local macro_rules | `(tactic| walk_at "w") => `(tactic| repeat (walk_at "w1"))

abbrev SGN : Str := (" !\"#$&'()*+,-./0123456789:;<=>?@ABCDEFGHIJKLMNOPQRSTUVWXYZ[\\]^_`" : Str) ++ ("abcdefghijklmnopqrstuvwxyz{|}~" : Str)
/-- what a def promises that is given the pool, but not the lore -/
def spP (xs : List V → Hp → (D → Prop) → Prop) : Sp := fun vs H Q _ => ∃ (w : Wo) (es : List V) (Po : D → Prop), vs = .ref w.p :: es ∧ In w [w.p] H ∧ xs es H Po ∧ Gk w H Po Q
def spNear : Sp := spP fun es H Po => (∃ x, es = [.str x] ∧ isNm x = true) ∧ Po = fun d => ∃ y, d = .str y ∧ Sht y
def spMany (n : Nat) : Sp := fun vs H Q _ => ∃ v d, vs = [v] ∧ Rp H v d ∧ KA n d ∧ ∀ m : Int, 0 < m → m ≤ 5 ^ n → Q (.int m) H
def spWrapped (n : Nat) : Sp := spP fun es H Po => (∃ v d, es = [v] ∧ Rp H v d ∧ KS n d) ∧ Po = KS (n + 5)
def spBadRead : Sp := spG fun es H Po => (∃ v d, es = [v] ∧ Rp H v d ∧ ArgD d ∧ d ≠ .non) ∧ Po = fun d => ∀ PB, Sm PB d
def spBadName (n : Nat) : Sp := spP fun es H Po => (∃ v d, es = [v] ∧ Rp H v d ∧ Sm (KB n) d) ∧ Po = KS (n + 2)
def spBadCell (n : Nat) : Sp := spG fun es H Po => (∃ v d, es = [v] ∧ Rp H v d ∧ Sm (KB n) d) ∧ Po = KS (n + 2)
section
variable {w : Wo} {M : List Addr} {H H1 H' : Hp} {K : PySem.W.Frag} {Q : VK} {E : XK} {r : Int} {Po : D → Prop} {a : Addr} {xs : List V}
theorem Gk.ansP {xs : List V → Hp → (D → Prop) → Prop} {es : List V} (I : In w M H) (hx : xs es H Po) (k : ∀ v d H', Po d → Rp H' v d → Gr [w.p] H H' → In w M H' → Q v H') : spP xs (.ref w.p :: es) H Q E :=
  ⟨w, es, Po, rfl, I.one, hx, fun v d H' hd hv g hP => k v d H' hd hv g (I.gr g hP)⟩
theorem r_ixA (e : H a = some (.lst xs)) (h0 : 0 ≤ r) (h1 : r < xs.length) (k : ∀ v ∈ xs, Q v H) : rIxL K (.ref a) (.int r) H Q := by
  obtain ⟨n, rfl⟩ := Int.eq_ofNat_of_zero_le h0
  have hx : xs[n]? = some (xs[n]'(by omega)) := List.getElem?_eq_getElem _
  exact r_ixL (SqL.of e) (atI_nat hx) (k _ (List.getElem_mem _))
def isS : V → Bool
  | .str _ => true
  | _ => false
def isI : V → Bool
  | .int _ => true
  | _ => false
theorem isS_of {v : V} {xs : List V} (hs : xs.all isS = true) (h : v ∈ xs) : ∃ g, v = .str g := by
  have e := List.all_eq_true.mp hs v h
  cases v <;> first | exact ⟨_, rfl⟩ | cases e
theorem isI_of {v : V} {xs : List V} (hs : xs.all isI = true) (h : v ∈ xs) : ∃ g, v = .int g := by
  have e := List.all_eq_true.mp hs v h
  cases v <;> first | exact ⟨_, rfl⟩ | cases e
/-- [..][draw(n)]: one of the texts -/
theorem pickS {n : Int} {R : TE} {σ : St} (I : In w M H) (hs : xs.all isS = true) (h0 : 0 < n) (h1 : n = xs.length) (h2 : xs.length ≤ 100) (hR : ∀ H1 Q1, (∀ r H2, 0 ≤ r → r < n → Gr [w.p] H1 H2 → In w M H2 → Q1 (.int r) H2) → In w M H1 → R σ H1 Q1)
    (k : ∀ g H2, Gr [w.p] H H2 → In w M H2 → Q (.str g) H2) : kLst xs H fun x H1 => R σ H1 fun i H2 => rIxL K x i H2 Q :=
  k_lst (sz1 (by omega)) fun q H1 hq g1 e1 => hR H1 _ (fun r H2 a0 a1 g2 I2 => r_ixA (g2.keep _ _ e1 (by simpa using (I.P.fresh hq).2)) a0 (by omega) fun v hv => by
    obtain ⟨g, rfl⟩ := isS_of hs hv
    exact k g H2 (g1.any.trans g2) I2) (I.new g1)
theorem kb1 {n : Nat} {d : D} (h : KS n d) : KB n [d] := ⟨by simp, all1 h⟩
theorem kb0 {n : Nat} : KB n [] := ⟨by simp, fun _ z => nomatch z⟩
end
theorem sc__law_signs : FnScope ["_law_signs_here"] [] (defScope s__law_signs) := ⟨rfl, rfl, rfl, by decide +kernel, rfl, by decide +kernel, by decide +kernel⟩
theorem sc__law_near : FnScope ["_law_pool_here", "_law_name_here", "_law_way", "_law_at", "_law_sign"] ["_law_pool_here", "_law_name_here"] (defScope s__law_near) := ⟨rfl, rfl, rfl, by decide +kernel, rfl, by decide +kernel, by decide +kernel⟩
theorem sc__law_many : FnScope ["_law_action_here", "_law_many_here", "_law_inner"] ["_law_action_here"] (defScope s__law_many) := ⟨rfl, rfl, rfl, by decide +kernel, rfl, by decide +kernel, by decide +kernel⟩
section
variable {G : Ctx}
theorem k__law_signs (T : Txt G) : Cal G 1 (He.ga G.K "_law_signs") (spConst (.str SGN)) [] := by
  refine cal_of T.f__law_signs sc__law_signs (fun _ _ _ _ _ _ us hl => match us, hl with | [], _ => rfl) (fun vs H Q E h => ?_) (fun cdv A outer s H vs Q E hr h => ⟨_, ((pss_cons (ps_set (i := 0) sc__law_signs.nd rfl (Or.inl rfl) pe_str)
    (pss_one (ps_ret (pe_op op_addStr (pv 0) pe_str))))), ?_⟩)
  · obtain ⟨rfl, _⟩ := h
    rfl
  obtain ⟨rfl, k⟩ := h
  walk_at "w"
  exact r_addStr (by decide) k
theorem k__law_near (T : Txt G) (c__law_draw : Cal G 2 (He.ga G.K "_law_draw") spDraw []) (c__law_signs : Cal G 1 (He.ga G.K "_law_signs") (spConst (.str SGN)) []) : Cal G 3 (He.ga G.K "_law_near") spNear [] := by
  refine cal_of T.f__law_near sc__law_near (fun _ _ _ _ _ _ us hl => match us, hl with | [_, _], _ => rfl) (fun vs H Q E h => ?_) (fun cdv A outer s H vs Q E hr h => ⟨_, ((pss_cons (ps_set (i := 2) sc__law_near.nd rfl (Or.inl rfl) (pe_cal c__law_draw T.g__law_draw hr (by omega) (takes_of rfl rfl rfl rfl) (fun _ _ _ _ h => h) rfl (pa_cons (pv 0) (pa_cons pe_int pa_nil))))
    (pss_cons (ps_set (i := 3) sc__law_near.nd rfl (Or.inl rfl) (pe_cal c__law_draw T.g__law_draw hr (by omega) (takes_of rfl rfl rfl rfl) (fun _ _ _ _ h => h) rfl (pa_cons (pv 0) (pa_cons (pe_op op_add (pe_callB call_lenStr rfl T.v_len PySem.boot_len (pa_cons (pv 1) pa_nil)) pe_int) pa_nil))))
    (pss_cons (ps_set (i := 4) sc__law_near.nd rfl (Or.inl rfl) (pe_ix ix_str (pe_cal0 c__law_signs T.g__law_signs hr (by omega) (takes_of rfl rfl rfl rfl) (fun _ _ _ _ h => h) rfl) (pe_cal c__law_draw T.g__law_draw hr (by omega) (takes_of rfl rfl rfl rfl) (fun _ _ _ _ h => h) rfl (pa_cons (pv 0) (pa_cons pe_int pa_nil))) (fun _ _ => rfl)))
    (pss_cons (ps_if (pt_cmpR op_eq (pv 2) pe_int (nomark _)) (pss_one (ps_ret (pe_op op_addStr (pe_op op_addStr (pe_slice sl_str (pv 1) po_none (po_some (pv 3))) (pv 4)) (pe_slice sl_str (pv 1) (po_some (pe_op op_add (pv 3) pe_int)) po_none)))) pss_nil)
    (pss_cons (ps_if (pt_cmpR op_eq (pv 2) pe_int (nomark _)) (pss_one (ps_ret (pe_op op_addStr (pe_op op_addStr (pe_slice sl_str (pv 1) po_none (po_some (pv 3))) (pv 4)) (pe_slice sl_str (pv 1) (po_some (pv 3)) po_none)))) pss_nil)
    (pss_cons (ps_if (pt_cmpR op_eq (pv 2) pe_int (nomark _)) (pss_one (ps_ret (pe_op op_addStr (pe_slice sl_str (pv 1) po_none (po_some (pv 3))) (pe_slice sl_str (pv 1) (po_some (pe_op op_add (pv 3) pe_int)) po_none)))) pss_nil)
    (pss_cons (ps_if (pt_cmpR op_eq (pv 2) pe_int (nomark _)) (pss_one (ps_ret (pe_op op_addStr (pe_op op_addStr (pe_slice sl_str (pv 1) po_none (po_some (pv 3))) (pe_upper (pe_slice sl_str (pv 1) (po_some (pv 3)) (po_some (pe_op op_add (pv 3) pe_int))))) (pe_slice sl_str (pv 1) (po_some (pe_op op_add (pv 3) pe_int)) po_none)))) pss_nil)
    (pss_one (ps_ret (pe_op op_mulS (pe_op op_addStr (pv 1) (pv 4)) pe_int))))))))))), ?_⟩)
  · obtain ⟨w, es, Po, rfl, _, ⟨⟨x, rfl, _⟩, _⟩, _⟩ := h
    rfl
  obtain ⟨w, es, Po, rfl, I, ⟨⟨x, rfl, hx⟩, rfl⟩, k⟩ := h
  have nx := isNm_len hx
  walk_at "w"
  refine draw_ans I (by decide) (by decide) fun r1 H1 a0 a1 g1 I1 => ?_
  walk_at "w"
  refine r_lenStr (sz1 (by omega)) ?_
  walk_at "w"
  refine draw_ans I1 (by omega) (by omega) fun r2 H2 b0 b1 g2 I2 => ?_
  walk_at "w"
  refine ⟨rfl, ?_⟩
  walk_at "w"
  refine draw_ans I2 (by decide) (by decide) fun r3 H3 c0 c1 g3 I3 => ?_
  obtain ⟨n3, rfl⟩ := Int.eq_ofNat_of_zero_le c0
  have m3 : n3 < SGN.cps.toList.length := by
    have e : SGN.cps.toList.length = 94 := by decide +kernel
    omega
  refine r_ixS (sz1 (by have e : SGN.length = 94 := by decide +kernel
                        omega)) (c := SGN.cps.toList[n3]) (atI_nat (List.getElem?_eq_getElem m3)) ?_
  generalize SGN.cps.toList[n3] = c
  have g03 := (g1.trans g2).trans g3
  have fin : ∀ y : Str, y.length ≤ 100000 → Q (.str y) H3 := fun y hy => k _ _ H3 ⟨y, rfl, hy⟩ (.str y) g03 I3.P
  have cl : ∀ lo hi, (cutS x lo hi).length ≤ 12 := fun lo hi => Nat.le_trans (cutS_length x lo hi) nx
  have ap : ∀ (y z : Str), (y ++ z).length = y.length + z.length := app_n
  have oc : (⟨#[c]⟩ : Str).length = 1 := rfl
  generalize (⟨#[c]⟩ : Str) = C at oc ⊢
  have s1 : ∀ lo hi lo' hi', (cutS x lo hi).length + C.length ≤ sizeLine ∧ (cutS x lo hi ++ C).length + (cutS x lo' hi').length ≤ sizeLine ∧ (cutS x lo hi ++ C ++ cutS x lo' hi').length ≤ 100000 := fun lo hi lo' hi' => by
    have p1 := cl lo hi
    have p2 := cl lo' hi'
    refine ⟨sz1 (by omega), sz1 (by rw [ap]; omega), by rw [ap, ap]; omega⟩
  walk_at "w"
  refine i_I (fun _ => ?_) (fun _ => ?_)
  · walk_at "w"
    refine r_slS (sz1 (by omega)) ?_
    walk_at "w"
    refine r_addStr (s1 _ _ none none).1 ?_
    walk_at "w"
    refine r_slS (sz1 (by omega)) ?_
    refine r_addStr (s1 _ _ _ _).2.1 ?_
    exact fin _ (s1 _ _ _ _).2.2
  walk_at "w"
  refine i_I (fun _ => ?_) (fun _ => ?_)
  · walk_at "w"
    refine r_slS (sz1 (by omega)) ?_
    walk_at "w"
    refine r_addStr (s1 _ _ none none).1 ?_
    walk_at "w"
    refine r_slS (sz1 (by omega)) ?_
    refine r_addStr (s1 _ _ _ _).2.1 ?_
    exact fin _ (s1 _ _ _ _).2.2
  walk_at "w"
  refine i_I (fun _ => ?_) (fun _ => ?_)
  · walk_at "w"
    refine r_slS (sz1 (by omega)) ?_
    walk_at "w"
    refine r_slS (sz1 (by omega)) ?_
    refine r_addStr (sz1 (by have := cl none (some r2); have := cl (some (r2 + 1)) none; omega)) ?_
    exact fin _ (by rw [ap]; have := cl none (some r2); have := cl (some (r2 + 1)) none; omega)
  walk_at "w"
  refine i_I (fun _ => ?_) (fun _ => ?_)
  · walk_at "w"
    refine r_slS (sz1 (by omega)) ?_
    walk_at "w"
    refine r_slS (sz1 (by omega)) ?_
    have u1 := PyProof.Rows.len_upper (cutS x (some r2) (some (r2 + 1)))
    have u2 := cl (some r2) (some (r2 + 1))
    have u3 := cl none (some r2)
    have u4 := cl (some (r2 + 1)) none
    refine ⟨⟨_, rfl⟩, _, rfl, rfl, by omega, ?_⟩
    refine r_addStr (sz1 (by omega)) ?_
    walk_at "w"
    refine r_slS (sz1 (by omega)) ?_
    refine r_addStr (sz1 (by rw [ap]; omega)) ?_
    exact fin _ (by rw [ap, ap]; omega)
  walk_at "w"
  refine r_addStr (sz1 (by omega)) ?_
  walk_at "w"
  exact ⟨_, 13, rfl, rfl, by decide, by decide, by rw [ap]; omega, fun y hy => fin y hy⟩
theorem k__law_many (T : Txt G) : ∀ n : Nat, Cal G (n + 1) (He.ga G.K "_law_many") (spMany n) []
  | 0 => cal_never T.f__law_many sc__law_many (fun _ _ _ _ _ _ us hl => match us, hl with | [_], _ => rfl) fun vs H Q E ⟨_, _, _, _, h, _⟩ => h
  | n + 1 => by
    have c__law_many := k__law_many T n
    refine cal_of (k := n + 1) T.f__law_many sc__law_many (fun _ _ _ _ _ _ us hl => match us, hl with | [_], _ => rfl) (fun vs H Q E h => ?_) (fun cdv A outer s H vs Q E hr h => ⟨_, ((pss_cons (ps_set (i := 1) sc__law_many.nd rfl (Or.inl rfl) pe_int)
    (pss_cons (ps_for (passes_of rfl) rfl (pi_tup (pe_ix ix_tup (pv 0) pe_int (fun _ _ => rfl))) (pg_name (i := 2) sc__law_many.nd rfl (Or.inl rfl))
    (pss_one (ps_set (i := 1) sc__law_many.nd rfl (Or.inl rfl) (pe_op op_add (pv 1) (pe_cal c__law_many T.g__law_many hr (by omega) (takes_of rfl rfl rfl rfl) (fun _ _ _ _ h => h) rfl (pa_cons (pv 2) pa_nil))))))
    (pss_one (ps_ret (pv 1)))))), ?_⟩)
    · obtain ⟨v, d, rfl, _⟩ := h
      rfl
    obtain ⟨v, d, rfl, hv, ⟨g, s, a, f, rfl, ha, hl, hf⟩, k⟩ := h
    obtain ⟨t, vs, rfl, et, hvs⟩ := hv.tup_of
    obtain ⟨v1, vs, rfl, h1, hvs⟩ := hvs.cons_of
    obtain ⟨v2, vs, rfl, h2, hvs⟩ := hvs.cons_of
    obtain ⟨v3, vs, rfl, h3, hvs⟩ := hvs.cons_of
    obtain ⟨v4, vs, rfl, h4, hvs⟩ := hvs.cons_of
    cases hvs.nil_of
    obtain ⟨tf, fs, rfl, ef, hfs⟩ := h4.tup_of
    walk_at "w"
    refine k_forT (SqT.of ef) (fun i σ' H' => ∃ (m : Int) (o : Option V), σ' = [some (.ref t), some (.int m), o] ∧ H' = H ∧ 0 < m ∧ m ≤ 1 + i * 5 ^ n) ⟨1, none, rfl, rfl, by decide, by simp⟩ (fun i σ' H' hi ⟨m, o, _, e, _⟩ => by rw [e]; exact SqT.of ef) ?_ ?_
    · rintro i x σ' H' hx ⟨m, o, rfl, rfl, h0, hm⟩
      obtain ⟨d, hd, rd⟩ := hfs.get hx
      walk_at "w"
      refine ⟨x, d, rfl, rd, hf d (List.mem_of_getElem? hd), fun j j0 j1 => ?_⟩
      walk_at "w"
      refine ⟨m + j, some x, rfl, rfl, by omega, ?_⟩
      have e : ((i : Int) + 1) * 5 ^ n = i * 5 ^ n + 5 ^ n := by rw [Int.add_mul, Int.one_mul]
      rw [Int.natCast_add, Int.natCast_one, e]
      omega
    · rintro σ' H' ⟨m, o, rfl, rfl, h0, hm⟩
      walk_at "w"
      refine k m h0 ?_
      have e1 : (fs.length : Int) ≤ 4 := by rw [hfs.len]; omega
      have e2 : (fs.length : Int) * 5 ^ n ≤ 4 * 5 ^ n := Int.mul_le_mul_of_nonneg_right e1 (Int.pow_nonneg (by decide))
      have e3 : (1 : Int) ≤ 5 ^ n := by
        have : (0 : Int) < 5 ^ n := Int.pow_pos (by decide)
        omega
      have e4 : (5 : Int) ^ (n + 1) = 5 ^ n * 5 := Int.pow_succ _ _
      omega
end
end Xd

/-! text D9 -/
/-! what spoils a statement: wrapped, read, named, celled -/
namespace Xd
open PySem PySem.Spec PyProof.Rows L2
local macro_rules | `(tactic| walk_at "w1") => `(tactic| first
  | with_reducible apply r_seq
  | with_reducible apply r_asg
  | with_reducible apply r_gname
  | ((with_reducible apply r_var); exact rfl)
  | with_reducible apply r_c
  | with_reducible apply r_op
  | with_reducible apply r_I0
  | ((with_reducible apply r_eq); exact rfl)
  | ((with_reducible apply r_ne); exact rfl)
  | with_reducible apply r_if
  | with_reducible apply r_test
  | with_reducible apply r_tB
  | with_reducible apply r_bl
  | with_reducible apply r_and
  | with_reducible apply r_or
  | with_reducible apply r_not
  | with_reducible apply r_ret
  | with_reducible apply r_drop
  | with_reducible apply r_cons
  | with_reducible apply r_nil
  | with_reducible apply r_cal
  | with_reducible apply r_cb
  | with_reducible apply r_tup
  | with_reducible apply r_lst
  | with_reducible apply r_next
  | with_reducible apply r_retN
  | with_reducible apply r_un
  | with_reducible apply r_U
  | with_reducible apply r_andV
  | with_reducible apply r_orV
  | with_reducible apply r_notV
  | with_reducible apply r_ifx
  | with_reducible apply r_forT
  | with_reducible apply r_forL
  | with_reducible apply r_forR
  | with_reducible apply r_sl
  | with_reducible apply r_nop
  | with_reducible apply r_part
  | with_reducible apply r_kPart
  | with_reducible apply r_gsub
  | with_reducible apply r_int1
  | with_reducible apply r_isN
  | with_reducible apply r_notN
  | with_reducible apply r_ltStr
  | with_reducible apply r_inS
  | with_reducible apply r_niS
  | with_reducible apply r_bm
  | with_reducible apply r_forS
  | with_reducible apply r_lcL
  | with_reducible apply r_lcT
  | with_reducible apply r_m0
  | (with_reducible refine r_l0 (by assumption) ?_)
  | (with_reducible refine r_l2 (by assumption) ?_)
  | (with_reducible refine r_lenN (by assumption) ?_)
  | (with_reducible refine r_lenC (by assumption) ?_)
  | ((with_reducible apply r_ixT'); (assumption); (first | exact rfl | exact atI_0 | exact atI_1 | exact atI_2))
  | ((with_reducible apply r_ixL'); (assumption); (exact rfl))
  | ((with_reducible apply i_f); exact rfl)
  | ((with_reducible apply i_t); exact rfl)
  | ((with_reducible apply r_I); first | exact Or.inr ⟨by decide, by decide⟩ | exact (by decide) | assumption | exact ⟨by omega, by omega⟩ | exact (by omega) | exact ⟨by decide, by decide, by decide⟩))
local macro_rules | `(tactic| walk_at "w") => `(tactic| repeat (walk_at "w1"))

theorem cut_2 {a b : V} {r : List V} : cutV (a :: b :: r) (some 2) none = r := by
  unfold cutV
  have e : HT.sIx (a :: b :: r).length 0 (some 2) = 2 := by
    show HT.sIx (r.length + 2) 0 (some ((2 : Nat) : Int)) = 2
    rw [HT.sIx_nat]; omega
  rw [e, HT.sIx_none]
  show r.take (r.length + 2 - 2) = r
  rw [Nat.add_sub_cancel, List.take_length]
theorem cut_1 {a : V} {r : List V} : cutV (a :: r) (some 1) none = r := by
  unfold cutV
  have e : HT.sIx (a :: r).length 0 (some 1) = 1 := by
    show HT.sIx (r.length + 1) 0 (some ((1 : Nat) : Int)) = 1
    rw [HT.sIx_nat]; omega
  rw [e, HT.sIx_none]
  show r.take (r.length + 1 - 1) = r
  rw [Nat.add_sub_cancel, List.take_length]
theorem Prt.ren {P : List D → Prop} {w y : Str} {r : List D} (p : Prt P w r) (h : w = "if" ∨ w = "while") (hy : Sht y) : ∃ x r', r = x :: r' ∧ Prt P w (.str y :: r') := by
  cases p with
  | if_ x l m z a b => exact ⟨_, _, rfl, .if_ y l m hy a b⟩
  | while_ x l z a => exact ⟨_, _, rfl, .while_ y l hy a⟩
  | _ => exact absurd h (by decide)
theorem Prt.head {P : List D → Prop} {w : Str} {r : List D} (p : Prt P w r) : ∃ x r', r = x :: r' := by
  cases p <;> exact ⟨_, _, rfl⟩
theorem sc__law_wrapped : FnScope ["_law_pool_here", "_law_statement_here", "_law_k", "_law_way"] ["_law_pool_here", "_law_statement_here"] (defScope s__law_wrapped) := ⟨rfl, rfl, rfl, by decide +kernel, rfl, by decide +kernel, by decide +kernel⟩
theorem sc__law_bad_read : FnScope ["_law_pool_here", "_law_lore_here", "_law_value"] ["_law_pool_here", "_law_lore_here", "_law_value"] (defScope s__law_bad_read) := ⟨rfl, rfl, rfl, by decide +kernel, rfl, by decide +kernel, by decide +kernel⟩
theorem sc__law_bad_name : FnScope ["_law_pool_here", "_law_statement_here", "_law_name_here", "_law_way"] ["_law_pool_here", "_law_statement_here"] (defScope s__law_bad_name) := ⟨rfl, rfl, rfl, by decide +kernel, rfl, by decide +kernel, by decide +kernel⟩
theorem sc__law_bad_cell : FnScope ["_law_pool_here", "_law_lore_here", "_law_statement_here", "_law_cell", "_law_way", "_law_pair"] ["_law_pool_here", "_law_lore_here", "_law_statement_here"] (defScope s__law_bad_cell) := ⟨rfl, rfl, rfl, by decide +kernel, rfl, by decide +kernel, by decide +kernel⟩
section
variable {G : Ctx}
theorem k__law_wrapped (T : Txt G) (c__law_draw : Cal G 2 (He.ga G.K "_law_draw") spDraw []) (c__law_name : Cal G 3 (He.ga G.K "_law_name") spName []) {n : Nat} : Cal G 4 (He.ga G.K "_law_wrapped") (spWrapped n) [] := by
  refine cal_of T.f__law_wrapped sc__law_wrapped (fun _ _ _ _ _ _ us hl => match us, hl with | [_, _], _ => rfl) (fun vs H Q E h => ?_) (fun cdv A outer s H vs Q E hr h => ⟨_, ((pss_cons (ps_for (passes_of rfl) rfl (pi_range1 rfl T.v_range (pa_cons (pe_op op_add pe_int (pe_cal c__law_draw T.g__law_draw hr (by omega) (takes_of rfl rfl rfl rfl) (fun _ _ _ _ h => h) rfl (pa_cons (pv 0) (pa_cons pe_int pa_nil)))) pa_nil)) (pg_name (i := 2) sc__law_wrapped.nd rfl (Or.inl rfl))
    (pss_cons (ps_set (i := 3) sc__law_wrapped.nd rfl (Or.inl rfl) (pe_cal c__law_draw T.g__law_draw hr (by omega) (takes_of rfl rfl rfl rfl) (fun _ _ _ _ h => h) rfl (pa_cons (pv 0) (pa_cons pe_int pa_nil))))
    (pss_one (ps_if (pt_cmpR op_eq (pv 3) pe_int (nomark _)) (pss_one (ps_set (i := 1) sc__law_wrapped.nd rfl (Or.inl rfl) (pe_tup (pa_cons pe_str (pa_cons (pe_cal c__law_name T.g__law_name hr (by omega) (takes_of rfl rfl rfl rfl) (fun _ _ _ _ h => h) rfl (pa_cons (pv 0) pa_nil)) (pa_cons (pe_tup (pa_cons (pv 1) pa_nil)) pa_nil)))))) (pss_one (ps_if (pt_cmpR op_eq (pv 3) pe_int (nomark _)) (pss_one (ps_set (i := 1) sc__law_wrapped.nd rfl (Or.inl rfl) (pe_tup (pa_cons pe_str (pa_cons (pe_cal c__law_name T.g__law_name hr (by omega) (takes_of rfl rfl rfl rfl) (fun _ _ _ _ h => h) rfl (pa_cons (pv 0) pa_nil)) (pa_cons (pe_tup pa_nil) (pa_cons (pe_tup (pa_cons (pv 1) pa_nil)) pa_nil))))))) (pss_one (ps_set (i := 1) sc__law_wrapped.nd rfl (Or.inl rfl) (pe_tup (pa_cons pe_str (pa_cons (pe_cal c__law_name T.g__law_name hr (by omega) (takes_of rfl rfl rfl rfl) (fun _ _ _ _ h => h) rfl (pa_cons (pv 0) pa_nil)) (pa_cons (pe_tup (pa_cons (pv 1) pa_nil)) (pa_cons (pe_tup (pa_cons (pe_tup (pa_cons pe_str (pa_cons (pe_cal c__law_name T.g__law_name hr (by omega) (takes_of rfl rfl rfl rfl) (fun _ _ _ _ h => h) rfl (pa_cons (pv 0) pa_nil)) pa_nil))) pa_nil)) pa_nil)))))))))))))
    (pss_one (ps_ret (pv 1))))), ?_⟩)
  · obtain ⟨w, es, Po, rfl, _, ⟨⟨v, d, rfl, _⟩, _⟩, _⟩ := h
    rfl
  obtain ⟨w, es, Po, rfl, I, ⟨⟨v, d, rfl, hv, hd⟩, rfl⟩, k⟩ := h
  walk_at "w"
  refine draw_ans I (by decide) (by decide) fun r1 H1 a0 a1 g1 I1 => ?_
  walk_at "w"
  refine k_forR (by omega) (by omega) (fun i σ' H' => ∃ (v : V) (d : D) (o1 o2 : Option V), σ' = [some (.ref w.p), some v, o1, o2] ∧ Rp H' v d ∧ KS (n + i) d ∧ Gr [w.p] H H' ∧ In w [w.p] H') ⟨v, d, none, none, rfl, hv.mono g1.tu, hd, g1, I1⟩ ?_ ?_
  · rintro i σ2 H2 hi ⟨v, d, o1, o2, rfl, hv, hd, g2, I2⟩
    walk_at "w"
    refine draw_ans I2 (by decide) (by decide) fun r2 H3 b0 b1 g3 I3 => ?_
    walk_at "w"
    have fin : ∀ (ws : List V) (x : Str) (r : List D) H4, Gr [w.p] H2 H4 → In w [w.p] H4 → Rps H4 ws r → Prt (KB (n + i)) x r → ws.length ≤ 1000 → kTup (.str x :: ws) H4 fun u H5 => ∃ (v : V) (d : D) (o1 o2 : Option V), [some (.ref w.p), some u, some (.int i), some (.int r2)] = [some (.ref w.p), some v, o1, o2] ∧ Rp H5 v d ∧ KS (n + (i + 1)) d ∧ Gr [w.p] H H5 ∧ In w [w.p] H5 := by
      intro ws x r H4 g4 I4 hw hp hz
      refine k_tup (sz1 (by rw [List.length_cons]; omega)) fun q H5 g5 e5 => ⟨_, .tup (.str x :: r), _, _, rfl, .tup e5 (.cons (.str _) (Rps.mono g5.tu hw)), Sm.ks (n := n + i) ⟨x, r, rfl, hp⟩, (g2.trans g4).trans g5.any, I4.new g5⟩
    refine i_I (fun _ => ?_) (fun _ => ?_)
    · walk_at "w"
      refine name_ans I3 fun x H4 hx g4 I4 => ?_
      walk_at "w"
      refine k_tup (by show 1 ≤ sizeLine; decide) fun q H5 g5 e5 => ?_
      walk_at "w"
      have t5 := (g3.tu.trans g4.tu).trans g5.tu
      exact fin _ _ _ H5 ((g3.trans g4).trans g5.any) (I4.new g5) (.cons (.str _) (.cons (.tup e5 (.cons (hv.mono t5) .nil)) .nil)) (.while_ x [d] (sht_nm hx) (kb1 hd)) (by simp)
    walk_at "w"
    refine i_I (fun _ => ?_) (fun _ => ?_)
    · walk_at "w"
      refine name_ans I3 fun x H4 hx g4 I4 => ?_
      walk_at "w"
      refine k_tup (by show 0 ≤ sizeLine; decide) fun q0 H5 g5 e5 => ?_
      walk_at "w"
      refine k_tup (by show 1 ≤ sizeLine; decide) fun q H6 g6 e6 => ?_
      walk_at "w"
      have t6 := ((g3.tu.trans g4.tu).trans g5.tu).trans g6.tu
      exact fin _ _ _ H6 (((g3.trans g4).trans g5.any).trans g6.any) ((I4.new g5).new g6) (.cons (.str _) (.cons (.tup (g6.tu _ _ e5) .nil) (.cons (.tup e6 (.cons (hv.mono t6) .nil)) .nil))) (.if_ x [] [d] (sht_nm hx) kb0 (kb1 hd)) (by simp)
    · walk_at "w"
      refine name_ans I3 fun x H4 hx g4 I4 => ?_
      walk_at "w"
      refine k_tup (by show 1 ≤ sizeLine; decide) fun q0 H5 g5 e5 => ?_
      walk_at "w"
      refine name_ans (I4.new g5) fun y H6 hy g6 I6 => ?_
      walk_at "w"
      refine k_tup (by show 2 ≤ sizeLine; decide) fun q1 H7 g7 e7 => ?_
      walk_at "w"
      refine k_tup (by show 1 ≤ sizeLine; decide) fun q2 H8 g8 e8 => ?_
      walk_at "w"
      have t8 := (g6.tu.trans g7.tu).trans g8.tu
      have t08 := ((g3.tu.trans g4.tu).trans g5.tu).trans t8
      have hn : 1 ≤ n + i := by
        cases e : n + i with
        | zero => rw [e] at hd; exact hd.elim
        | succ m => omega
      obtain ⟨m, em⟩ : ∃ m, n + i = m + 1 := ⟨n + i - 1, by omega⟩
      refine fin _ _ [.str x, .tup [d], .tup [.tup [.str "leave", .str y]]] H8 ((((((g3.trans g4).trans g5.any).trans g6).trans g7.any).trans g8.any)) ((I6.new g7).new g8) (.cons (.str _) (.cons (.tup (t8 _ _ e5) (.cons (hv.mono t08) .nil)) (.cons (.tup e8 (.cons (.tup (g8.tu _ _ e7) (.cons (.str _) (.cons (.str _) .nil))) .nil)) .nil))) (.if_ x [d] _ (sht_nm hx) (kb1 hd) ?_) (by simp)
      rw [em]
      exact kb1 (Sm.ks ⟨_, _, rfl, .leave y (sht_nm hy)⟩)
  · rintro σ2 H2 ⟨v, d, o1, o2, rfl, hv, hd, g2, I2⟩
    walk_at "w"
    exact k v d H2 (hd.mono (by omega)) hv g2 I2.P
theorem k__law_bad_read (T : Txt G) (c__law_draw : Cal G 2 (He.ga G.K "_law_draw") spDraw []) : Cal G 3 (He.ga G.K "_law_bad_read") spBadRead [] := by
  refine cal_of T.f__law_bad_read sc__law_bad_read (fun _ _ _ _ _ _ us hl => match us, hl with | [_, _, _], _ => rfl) (fun vs H Q E h => ?_) (fun cdv A outer s H vs Q E hr h => ⟨_, ((pss_cons (ps_if (pt_cmpR op_eq (pe_cal c__law_draw T.g__law_draw hr (by omega) (takes_of rfl rfl rfl rfl) (fun _ _ _ _ h => h) rfl (pa_cons (pv 0) (pa_cons pe_int pa_nil))) pe_int (nomark _)) (pss_one (ps_ret (pe_tup (pa_cons pe_str (pa_cons (pv 2) pa_nil))))) pss_nil)
    (pss_one (ps_ret (pe_tup (pa_cons pe_str (pa_cons (pe_ix ix_list (pe_ix ix_list (pv 1) pe_int (fun _ _ => rfl)) (pe_cal c__law_draw T.g__law_draw hr (by omega) (takes_of rfl rfl rfl rfl) (fun _ _ _ _ h => h) rfl (pa_cons (pv 0) (pa_cons (pe_callB call_lenQ rfl T.v_len PySem.boot_len (pa_cons (pe_ix ix_list (pv 1) pe_int (fun _ _ => rfl)) pa_nil)) pa_nil))) (fun _ _ => rfl)) (pa_cons (pv 2) pa_nil)))))))), ?_⟩)
  · obtain ⟨w, es, Po, rfl, _, ⟨⟨v, d, rfl, _⟩, _⟩, _⟩ := h
    rfl
  obtain ⟨w, es, Po, rfl, I, ⟨⟨v, d, rfl, hv, hd, hn⟩, rfl⟩, k⟩ := h
  walk_at "w"
  refine draw_ans I (by decide) (by decide) fun r1 H1 a0 a1 g1 I1 => ?_
  walk_at "w"
  refine i_I (fun _ => ?_) (fun _ => ?_)
  · walk_at "w"
    exact k_dat I1 g1 (.cons (.str _) (.cons (hv.mono g1.tu) .nil)) (fun PB => ⟨_, _, rfl, .ret d hd hn⟩) k
  walk_at "w"
  refine draw_ans I1 I1.n1.1 I1.n1.2 fun r2 H2 b0 b1 g2 I2 => ?_
  refine r_nameI I2 b0 b1 fun x hx => ?_
  walk_at "w"
  exact k_dat I2 (g1.trans g2) (.cons (.str _) (.cons (.str _) (.cons ((hv.mono g1.tu).mono g2.tu) .nil))) (fun PB => ⟨_, _, rfl, .do_ x d hd⟩) k
theorem k__law_bad_name (T : Txt G) (c__law_draw : Cal G 2 (He.ga G.K "_law_draw") spDraw []) (c__law_name : Cal G 3 (He.ga G.K "_law_name") spName []) (c__law_near : Cal G 3 (He.ga G.K "_law_near") spNear []) {n : Nat} : Cal G 4 (He.ga G.K "_law_bad_name") (spBadName n) [] := by
  refine cal_of T.f__law_bad_name sc__law_bad_name (fun _ _ _ _ _ _ us hl => match us, hl with | [_, _], _ => rfl) (fun vs H Q E h => ?_) (fun cdv A outer s H vs Q E hr h => ⟨_, ((pss_cons (ps_set (i := 2) sc__law_bad_name.nd rfl (Or.inl rfl) (pe_cal c__law_near T.g__law_near hr (by omega) (takes_of rfl rfl rfl rfl) (fun _ _ _ _ h => h) rfl (pa_cons (pv 0) (pa_cons (pe_cal c__law_name T.g__law_name hr (by omega) (takes_of rfl rfl rfl rfl) (fun _ _ _ _ h => h) rfl (pa_cons (pv 0) pa_nil)) pa_nil))))
    (Evl.pss_cut (ps_if (PW.pt (pw_or (pt_cmpR op_eq (pe_ix ix_tup (pv 1) pe_int (fun _ _ => rfl)) pe_str (nomark _)) (pw_or1 (pt_cmpR op_eq (pe_ix ix_tup (pv 1) pe_int (fun _ _ => rfl)) pe_str (nomark _))))) (pss_one (ps_ret (pe_op op_catA (pe_tup (pa_cons (pe_ix ix_tup (pv 1) pe_int (fun _ _ => rfl)) (pa_cons (pv 2) pa_nil))) (pe_slice sl_tupA (pv 1) (po_some pe_int) po_none)))) pss_nil)
    (pss_cons (ps_set (i := 3) sc__law_bad_name.nd rfl (Or.inl rfl) (pe_cal c__law_draw T.g__law_draw hr (by omega) (takes_of rfl rfl rfl rfl) (fun _ _ _ _ h => h) rfl (pa_cons (pv 0) (pa_cons pe_int pa_nil))))
    (pss_cons (ps_if (pt_cmpR op_eq (pv 3) pe_int (nomark _)) (pss_one (ps_ret (pe_tup (pa_cons pe_str (pa_cons (pv 2) pa_nil))))) pss_nil)
    (pss_cons (ps_if (pt_cmpR op_eq (pv 3) pe_int (nomark _)) (pss_one (ps_ret (pe_tup (pa_cons pe_str (pa_cons (pv 2) pa_nil))))) pss_nil)
    (pss_cons (ps_if (pt_cmpR op_eq (pv 3) pe_int (nomark _)) (pss_one (ps_ret (pe_tup (pa_cons pe_str (pa_cons (pv 2) (pa_cons (pe_tup (pa_cons (pv 1) pa_nil)) pa_nil)))))) pss_nil)
    (pss_one (ps_ret (pe_tup (pa_cons pe_str (pa_cons (pv 2) (pa_cons (pe_tup pa_nil) (pa_cons (pe_tup (pa_cons (pv 1) pa_nil)) pa_nil)))))))))))))), ?_⟩)
  · obtain ⟨w, es, Po, rfl, _, ⟨⟨v, d, rfl, _⟩, _⟩, _⟩ := h
    rfl
  obtain ⟨w, es, Po, rfl, I, ⟨⟨v, d, rfl, hv, wd, r, rfl, hp⟩, rfl⟩, k⟩ := h
  have hks : KS (n + 1) (.tup (.str wd :: r)) := Sm.ks ⟨wd, r, rfl, hp⟩
  obtain ⟨x0, r', rfl⟩ := hp.head
  obtain ⟨t, vs, rfl, et, hvs⟩ := hv.tup_of
  obtain ⟨v0, vs, rfl, h0, hvs0⟩ := hvs.cons_of
  cases h0
  obtain ⟨v1, vs, rfl, h1, hvs1⟩ := hvs0.cons_of
  walk_at "w"
  refine name_ans I fun x H1 hx g1 I1 => ?_
  walk_at "w"
  refine Gk.ansP (es := [.str x]) I1 ⟨⟨x, rfl, hx⟩, rfl⟩ fun vy dy H2 hy hvy g2 I2 => ?_
  obtain ⟨y, rfl, hy⟩ := hy
  cases hvy
  have et2 := (g1.tu.trans g2.tu) _ _ et
  have hv2 := (hv.mono g1.tu).mono g2.tu
  have hvs2 := (Rps.mono g1.tu hvs1).mono g2.tu
  walk_at "w"
  refine r_cut (fun σ' H' => σ' = [some (.ref w.p), some (.ref t), some (.str y), none] ∧ H' = H2) ?_ ?_
  · have ren : wd = "if" ∨ wd = "while" → ∀ H3, Gr [] H2 H3 → ∀ q, H3 q = some (.tup [.str wd, .str y]) → rSlA G.K (.ref t) (some 2) none H3 fun u H4 => rCatA G.K (.ref q) u H4 Q := by
      intro hw H3 g3 q eq
      obtain ⟨x', r2, er, hp2⟩ := hp.ren hw hy
      obtain ⟨rfl, rfl⟩ := List.cons.inj er
      refine r_slT (g3.tu _ _ et2) fun q2 H4 g4 e4 => ?_
      rw [cut_2] at e4
      refine r_cat (g4.tu _ _ eq) e4 (by rw [sizeLine_eq, hvs2.len]; have := hp.few; simp at this ⊢; omega) fun q3 H5 g5 e5 => ?_
      refine k _ _ H5 (KS.mono (Sm.ks ⟨wd, _, rfl, hp2⟩) (by omega)) (.tup e5 (.cons (.str _) (.cons (.str _) ((Rps.mono g3.tu hvs2).mono (g4.tu.trans g5.tu))))) ((g1.trans g2).trans ((g3.any.trans g4.any).trans g5.any)) (((I2.new g3).new g4).new g5).P
    walk_at "w"
    refine i_S (fun hw => ?_) (fun _ => ?_)
    · walk_at "w"
      refine k_tup (by show 2 ≤ sizeLine; decide) fun q H3 g3 e3 => ?_
      walk_at "w"
      exact ren (.inl hw) H3 g3 q e3
    walk_at "w"
    refine i_S (fun hw => ?_) (fun _ => ?_)
    · walk_at "w"
      refine k_tup (by show 2 ≤ sizeLine; decide) fun q H3 g3 e3 => ?_
      walk_at "w"
      exact ren (.inr hw) H3 g3 q e3
    · walk_at "w"
      exact ⟨rfl, rfl⟩
  rintro σ' H' ⟨rfl, rfl⟩
  walk_at "w"
  refine draw_ans I2 (by decide) (by decide) fun r2 H3 b0 b1 g3 I3 => ?_
  have g03 := (g1.trans g2).trans g3
  have hv3 := hv2.mono g3.tu
  walk_at "w"
  refine i_I (fun _ => ?_) (fun _ => ?_)
  · walk_at "w"
    exact k_dat I3 g03 (.cons (.str _) (.cons (.str _) .nil)) (KS.mono (Sm.ks (n := n) ⟨_, _, rfl, .leave y hy⟩) (by omega)) k
  walk_at "w"
  refine i_I (fun _ => ?_) (fun _ => ?_)
  · walk_at "w"
    exact k_dat I3 g03 (.cons (.str _) (.cons (.str _) .nil)) (KS.mono (Sm.ks (n := n) ⟨_, _, rfl, .raise_ y hy⟩) (by omega)) k
  walk_at "w"
  refine i_I (fun _ => ?_) (fun _ => ?_)
  · walk_at "w"
    refine k_tup (by show 1 ≤ sizeLine; decide) fun q H4 g4 e4 => ?_
    walk_at "w"
    exact k_dat (I3.new g4) (g03.trans g4.any) (.cons (.str _) (.cons (.str _) (.cons (.tup e4 (.cons (hv3.mono g4.tu) .nil)) .nil))) (Sm.ks (n := n + 1) ⟨_, _, rfl, .while_ y _ hy (kb1 hks)⟩) k
  walk_at "w"
  refine k_tup (by show 0 ≤ sizeLine; decide) fun q0 H4 g4 e4 => ?_
  walk_at "w"
  refine k_tup (by show 1 ≤ sizeLine; decide) fun q H5 g5 e5 => ?_
  walk_at "w"
  exact k_dat ((I3.new g4).new g5) ((g03.trans g4.any).trans g5.any) (.cons (.str _) (.cons (.str _) (.cons (.tup (g5.tu _ _ e4) .nil) (.cons (.tup e5 (.cons ((hv3.mono g4.tu).mono g5.tu) .nil)) .nil)))) (Sm.ks (n := n + 1) ⟨_, _, rfl, .if_ y _ _ hy kb0 (kb1 hks)⟩) k
theorem k__law_bad_cell (T : Txt G) (c__law_draw : Cal G 2 (He.ga G.K "_law_draw") spDraw []) (c__law_fresh : Cal G 4 (He.ga G.K "_law_fresh") spFresh []) (c__law_bad_read : Cal G 3 (He.ga G.K "_law_bad_read") spBadRead []) {n : Nat} : Cal G 5 (He.ga G.K "_law_bad_cell") (spBadCell n) [] := by
  refine cal_of T.f__law_bad_cell sc__law_bad_cell (fun _ _ _ _ _ _ us hl => match us, hl with | [_, _, _], _ => rfl) (fun vs H Q E h => ?_) (fun cdv A outer s H vs Q E hr h => ⟨_, ((pss_cons (ps_set (i := 3) sc__law_bad_cell.nd rfl (Or.inl rfl) (pe_cal c__law_fresh T.g__law_fresh hr (by omega) (takes_of rfl rfl rfl rfl) (fun _ _ _ _ h => h) rfl (pa_cons (pv 0) (pa_cons (pe_lc (own := [("_law_pair", 5)]) rfl sc__law_bad_cell.nd (pi_list (pe_ix ix_list (pv 1) pe_int (fun _ _ => rfl))) (blkOk_by (N := ["_law_pool_here", "_law_lore_here", "_law_statement_here", "_law_cell", "_law_way", "_law_pair"]) (sc := defScope s__law_bad_cell) (by decide +kernel)) (fun _ _ _ _ _ => (pg_name (i := 5) sc__law_bad_cell.nd rfl (Or.inl rfl))) (fun _ _ _ _ _ => pts_nil) (fun _ _ _ _ _ => (pe_ix (ix_tupB (K := G.K) rfl) (pv 5) pe_int (fun _ _ => rfl)))) pa_nil))))
    (pss_cons (ps_set (i := 4) sc__law_bad_cell.nd rfl (Or.inl rfl) (pe_cal c__law_draw T.g__law_draw hr (by omega) (takes_of rfl rfl rfl rfl) (fun _ _ _ _ h => h) rfl (pa_cons (pv 0) (pa_cons pe_int pa_nil))))
    (pss_cons (ps_if (pt_cmpR op_eq (pv 4) pe_int (nomark _)) (pss_one (ps_ret (pe_tup (pa_cons pe_str (pa_cons (pv 3) (pa_cons (pe_cal c__law_draw T.g__law_draw hr (by omega) (takes_of rfl rfl rfl rfl) (fun _ _ _ _ h => h) rfl (pa_cons (pv 0) (pa_cons pe_int pa_nil))) pa_nil)))))) pss_nil)
    (pss_cons (ps_if (pt_cmpR op_eq (pv 4) pe_int (nomark _)) (pss_one (ps_ret (pe_tup (pa_cons pe_str (pa_cons (pv 3) (pa_cons pe_int (pa_cons (pe_tup (pa_cons (pv 2) pa_nil)) (pa_cons (pe_tup pa_nil) pa_nil)))))))) pss_nil)
    (pss_one (ps_ret (pe_cal c__law_bad_read T.g__law_bad_read hr (by omega) (takes_of rfl rfl rfl rfl) (fun _ _ _ _ h => h) rfl (pa_cons (pv 0) (pa_cons (pv 1) (pa_cons (pe_tup (pa_cons pe_str (pa_cons (pv 3) pa_nil))) pa_nil))))))))))), ?_⟩)
  · obtain ⟨w, es, Po, rfl, _, ⟨⟨v, d, rfl, _⟩, _⟩, _⟩ := h
    rfl
  obtain ⟨w, es, Po, rfl, I, ⟨⟨v, d, rfl, hv, hd⟩, rfl⟩, k⟩ := h
  walk_at "w"
  refine k_prs (by show 5 < 6; decide) I.L.ep I.L.er (by have := I.L.ok.c2; omega) fun q H1 hq g1 e1 => ?_
  have I1 := I.new g1
  walk_at "w"
  refine fresh_ans I1 e1 (by rw [List.length_map]; have := I.L.ok.c2; omega) fun x H2 hx g2 I2 => ?_
  walk_at "w"
  refine draw_ans I2 (by decide) (by decide) fun r2 H3 b0 b1 g3 I3 => ?_
  have g03 := ((g1.any (M := [w.p])).trans g2).trans g3
  have hv3 := hv.mono g03.tu
  walk_at "w"
  refine i_I (fun _ => ?_) (fun _ => ?_)
  · walk_at "w"
    refine draw_ans I3 (by decide) (by decide) fun r3 H4 c0 c1 g4 I4 => ?_
    walk_at "w"
    exact k_dat I4 (g03.trans g4) (.cons (.str _) (.cons (.str _) (.cons (.int _) .nil))) (KS.mono (Sm.ks (n := n) ⟨_, _, rfl, .set x r3⟩) (by omega)) k
  walk_at "w"
  refine i_I (fun _ => ?_) (fun _ => ?_)
  · walk_at "w"
    refine k_tup (by show 1 ≤ sizeLine; decide) fun q H5 g5 e5 => ?_
    walk_at "w"
    refine k_tup (by show 0 ≤ sizeLine; decide) fun q0 H6 g6 e6 => ?_
    walk_at "w"
    exact k_dat ((I3.new g5).new g6) ((g03.trans g5.any).trans g6.any) (.cons (.str _) (.cons (.str _) (.cons (.int _) (.cons (.tup (g6.tu _ _ e5) (.cons ((hv3.mono g5.tu).mono g6.tu) .nil)) (.cons (.tup e6 .nil) .nil))))) (Sm.ks (n := n + 1) ⟨_, _, rfl, .when_ x 0 _ _ (kb1 hd.ks) kb0⟩) k
  walk_at "w"
  refine k_tup (by show 2 ≤ sizeLine; decide) fun q5 H5 g5 e5 => ?_
  walk_at "w"
  refine Gk.ans (I3.new g5) ⟨⟨_, _, rfl, .tup e5 (.cons (.str _) (.cons (.str _) .nil)), .pair _ _, fun z => by cases z⟩, rfl⟩ fun v' d' H6 hd' hv' g6 I6 => ?_
  exact k v' d' H6 (KS.mono (Sm.ks (n := n) (hd' _)) (by omega)) hv' ((g03.trans g5.any).trans g6) I6.P
end
end Xd

/-! text D10 -/
/-! what spoils an action -/
namespace Xd
open PySem PySem.Spec PyProof.Rows L2
local macro_rules | `(tactic| walk_at "w1") => `(tactic| first
  | with_reducible apply r_seq
  | with_reducible apply r_asg
  | with_reducible apply r_gname
  | ((with_reducible apply r_var); exact rfl)
  | with_reducible apply r_c
  | with_reducible apply r_op
  | with_reducible apply r_I0
  | ((with_reducible apply r_eq); exact rfl)
  | ((with_reducible apply r_ne); exact rfl)
  | with_reducible apply r_if
  | with_reducible apply r_test
  | with_reducible apply r_tB
  | with_reducible apply r_bl
  | with_reducible apply r_and
  | with_reducible apply r_or
  | with_reducible apply r_not
  | with_reducible apply r_ret
  | with_reducible apply r_drop
  | with_reducible apply r_cons
  | with_reducible apply r_nil
  | with_reducible apply r_cal
  | with_reducible apply r_cb
  | with_reducible apply r_tup
  | with_reducible apply r_lst
  | with_reducible apply r_next
  | with_reducible apply r_retN
  | with_reducible apply r_un
  | with_reducible apply r_U
  | with_reducible apply r_andV
  | with_reducible apply r_orV
  | with_reducible apply r_notV
  | with_reducible apply r_ifx
  | with_reducible apply r_forT
  | with_reducible apply r_forL
  | with_reducible apply r_forR
  | with_reducible apply r_sl
  | with_reducible apply r_nop
  | with_reducible apply r_part
  | with_reducible apply r_kPart
  | with_reducible apply r_gsub
  | with_reducible apply r_int1
  | with_reducible apply r_isN
  | with_reducible apply r_notN
  | with_reducible apply r_ltStr
  | with_reducible apply r_inS
  | with_reducible apply r_niS
  | with_reducible apply r_bm
  | with_reducible apply r_forS
  | with_reducible apply r_lcL
  | with_reducible apply r_lcT
  | with_reducible apply r_m0
  | ((with_reducible apply r_gtup); (assumption); (exact rfl))
  | with_reducible apply r_gcons
  | with_reducible apply r_gnil
  | (with_reducible refine r_l0 (by assumption) ?_)
  | (with_reducible refine r_l2 (by assumption) ?_)
  | (with_reducible refine r_lenN (by assumption) ?_)
  | (with_reducible refine r_lenC (by assumption) ?_)
  | ((with_reducible apply r_ixT'); (assumption); (first | exact rfl | exact atI_0 | exact atI_1 | exact atI_2))
  | ((with_reducible apply r_ixL'); (assumption); (exact rfl))
  | ((with_reducible apply i_f); exact rfl)
  | ((with_reducible apply i_t); exact rfl)
  | ((with_reducible apply r_I); first | exact Or.inr ⟨by decide, by decide⟩ | exact (by decide) | assumption | exact ⟨by omega, by omega⟩ | exact (by omega) | exact ⟨by decide, by decide, by decide⟩))
local macro_rules | `(tactic| walk_at "w") => `(tactic| repeat (walk_at "w1"))

theorem cut_rps {H : Hp} {vs : List V} {ds : List D} (lo hi : Option Int) (h : Rps H vs ds) : ∃ es, Rps H (cutV vs lo hi) es ∧ (∀ x ∈ es, x ∈ ds) ∧ es.length = (cutV vs lo hi).length := by
  refine ⟨(ds.drop (HT.sIx vs.length 0 lo)).take (HT.sIx vs.length vs.length hi - HT.sIx vs.length 0 lo), (h.drop _).take _, fun x hx => List.mem_of_mem_drop (List.mem_of_mem_take hx), ?_⟩
  unfold cutV
  rw [List.length_take, List.length_take, List.length_drop, List.length_drop, h.len]
theorem cut_lo {vs : List V} (k : Nat) : (cutV vs none (some (k : Int))).length ≤ k := by
  unfold cutV
  rw [HT.sIx_nat, List.length_take]
  omega
theorem cut_hi3 {vs : List V} : (cutV vs (some (-3)) none).length ≤ 3 := by
  unfold cutV
  rw [List.length_take, HT.sIx_none]
  show min (vs.length - (if (-3 : Int) < 0 then ((-3 : Int) + (vs.length : Int)).toNat else min (-3 : Int).toNat vs.length)) _ ≤ 3
  rw [if_pos (by decide)]
  omega
def spSpoilt (m : Nat) : Sp := spG fun es H Po => (∃ v d way, es = [v, .int way] ∧ Rp H v d ∧ KA m d) ∧ 4 ≤ m ∧ Po = KA m
theorem sc__law_spoilt : FnScope ["_law_pool_here", "_law_lore_here", "_law_action_here", "_law_way", "_law_guard", "_law_step", "_law_argument_here", "_law_further", "_law_plain_here", "_law_cell", "_law_deep", "_law_pair"] ["_law_pool_here", "_law_lore_here", "_law_action_here", "_law_way"] (defScope s__law_spoilt) := ⟨rfl, rfl, rfl, by decide +kernel, rfl, by decide +kernel, by decide +kernel⟩
section
variable {G : Ctx}
theorem k__law_spoilt (T : Txt G) (c__law_draw : Cal G 2 (He.ga G.K "_law_draw") spDraw []) (c__law_fresh : Cal G 4 (He.ga G.K "_law_fresh") spFresh []) (c__law_name : Cal G 3 (He.ga G.K "_law_name") spName []) {m : Nat} : Cal G 5 (He.ga G.K "_law_spoilt") (spSpoilt m) [] := by
  refine cal_of T.f__law_spoilt sc__law_spoilt (fun _ _ _ _ _ _ us hl => match us, hl with | [_, _, _, _], _ => rfl) (fun vs H Q E h => ?_) (fun cdv A outer s H vs Q E hr h => ⟨_, ((pss_cons (ps_asg (pv 2) (pg_tup rfl (pgs_cons (pg_name (i := 4) sc__law_spoilt.nd rfl (Or.inl rfl)) (pgs_cons (pg_name (i := 5) sc__law_spoilt.nd rfl (Or.inl rfl)) (pgs_cons (pg_name (i := 6) sc__law_spoilt.nd rfl (Or.inl rfl)) (pgs_cons (pg_name (i := 7) sc__law_spoilt.nd rfl (Or.inl rfl)) pgs_nil))))))
    (pss_cons (ps_set (i := 8) sc__law_spoilt.nd rfl (Or.inl rfl) (pe_tup (pa_cons pe_str (pa_cons (pv 5) (pa_cons pe_non (pa_cons (pe_tup pa_nil) pa_nil))))))
    (pss_cons (ps_if (pt_cmpR op_eq (pv 3) pe_int (nomark _)) (pss_one (ps_ret (pe_tup (pa_cons (pe_ix ix_list (pe_lst (pa_cons pe_str (pa_cons pe_str (pa_cons pe_str (pa_cons pe_str (pa_cons pe_str pa_nil)))))) (pe_cal c__law_draw T.g__law_draw hr (by omega) (takes_of rfl rfl rfl rfl) (fun _ _ _ _ h => h) rfl (pa_cons (pv 0) (pa_cons pe_int pa_nil))) (fun _ _ => rfl)) (pa_cons (pv 5) (pa_cons (pv 6) (pa_cons (pv 7) pa_nil))))))) pss_nil)
    (pss_cons (ps_if (pt_cmpR op_eq (pv 3) pe_int (nomark _)) (pss_one (ps_ret (pe_tup (pa_cons (pv 4) (pa_cons (pe_cal c__law_fresh T.g__law_fresh hr (by omega) (takes_of rfl rfl rfl rfl) (fun _ _ _ _ h => h) rfl (pa_cons (pv 0) (pa_cons (pe_ix ix_list (pv 1) pe_int (fun _ _ => rfl)) pa_nil))) (pa_cons (pv 6) (pa_cons (pv 7) pa_nil))))))) pss_nil)
    (pss_cons (ps_if (pt_cmpR op_eq (pv 3) pe_int (nomark _)) (pss_one (ps_ret (pe_tup (pa_cons (pv 4) (pa_cons (pv 5) (pa_cons (pe_ix ix_list (pe_lst (pa_cons pe_int (pa_cons (pe_un un_neg pe_int) (pa_cons (pe_op op_add pe_int (pe_cal c__law_draw T.g__law_draw hr (by omega) (takes_of rfl rfl rfl rfl) (fun _ _ _ _ h => h) rfl (pa_cons (pv 0) (pa_cons (pe_op op_pow pe_int pe_int) pa_nil)))) pa_nil)))) (pe_cal c__law_draw T.g__law_draw hr (by omega) (takes_of rfl rfl rfl rfl) (fun _ _ _ _ h => h) rfl (pa_cons (pv 0) (pa_cons pe_int pa_nil))) (fun _ _ => rfl)) (pa_cons (pv 7) pa_nil))))))) pss_nil)
    (pss_cons (ps_if (pt_cmpR op_eq (pv 3) pe_int (nomark _)) (pss_one (ps_ret (pe_tup (pa_cons (pv 4) (pa_cons (pv 5) (pa_cons (pe_tup (pa_cons (pe_ix ix_list (pe_lst (pa_cons pe_str (pa_cons pe_str (pa_cons pe_str (pa_cons pe_str pa_nil))))) (pe_cal c__law_draw T.g__law_draw hr (by omega) (takes_of rfl rfl rfl rfl) (fun _ _ _ _ h => h) rfl (pa_cons (pv 0) (pa_cons pe_int pa_nil))) (fun _ _ => rfl)) (pa_cons (pe_cal c__law_name T.g__law_name hr (by omega) (takes_of rfl rfl rfl rfl) (fun _ _ _ _ h => h) rfl (pa_cons (pv 0) pa_nil)) pa_nil))) (pa_cons (pv 7) pa_nil))))))) pss_nil)
    (pss_cons (ps_if (pt_cmpR op_eq (pv 3) pe_int (nomark _)) (pss_cons (ps_set (i := 9) sc__law_spoilt.nd rfl (Or.inl rfl) (pe_cal c__law_fresh T.g__law_fresh hr (by omega) (takes_of rfl rfl rfl rfl) (fun _ _ _ _ h => h) rfl (pa_cons (pv 0) (pa_cons (pe_lc (own := [("_law_pair", 11)]) rfl sc__law_spoilt.nd (pi_list (pe_ix ix_list (pv 1) pe_int (fun _ _ => rfl))) (blkOk_by (N := ["_law_pool_here", "_law_lore_here", "_law_action_here", "_law_way", "_law_guard", "_law_step", "_law_argument_here", "_law_further", "_law_plain_here", "_law_cell", "_law_deep", "_law_pair"]) (sc := defScope s__law_spoilt) (by decide +kernel)) (fun _ _ _ _ _ => (pg_name (i := 11) sc__law_spoilt.nd rfl (Or.inl rfl))) (fun _ _ _ _ _ => pts_nil) (fun _ _ _ _ _ => (pe_ix (ix_tupB (K := G.K) rfl) (pv 11) pe_int (fun _ _ => rfl)))) pa_nil))))
    (pss_one (ps_ret (pe_tup (pa_cons (pv 4) (pa_cons (pv 5) (pa_cons (pe_tup (pa_cons (pe_ix ix_list (pe_lst (pa_cons pe_str (pa_cons pe_str pa_nil))) (pe_cal c__law_draw T.g__law_draw hr (by omega) (takes_of rfl rfl rfl rfl) (fun _ _ _ _ h => h) rfl (pa_cons (pv 0) (pa_cons pe_int pa_nil))) (fun _ _ => rfl)) (pa_cons (pv 9) pa_nil))) (pa_cons (pv 7) pa_nil)))))))) pss_nil)
    (pss_cons (ps_if (pt_cmpR op_eq (pv 3) pe_int (nomark _)) (pss_one (ps_ret (pe_tup (pa_cons (pv 4) (pa_cons (pv 5) (pa_cons (pv 6) (pa_cons (pe_slice sl_tupA (pe_op op_catA (pv 7) (pe_tup (pa_cons (pv 8) (pa_cons (pv 8) (pa_cons (pv 8) (pa_cons (pv 8) pa_nil)))))) po_none (po_some pe_int)) pa_nil))))))) pss_nil)
    (pss_cons (ps_if (pt_cmpR op_eq (pv 3) pe_int (nomark _)) (pss_one (ps_ret (pe_tup (pa_cons pe_str (pa_cons (pv 5) (pa_cons (pv 6) (pa_cons (pe_slice sl_tupA (pe_op op_catA (pv 7) (pe_tup (pa_cons (pv 8) pa_nil))) po_none (po_some pe_int)) pa_nil))))))) pss_nil)
    (pss_cons (ps_if (pt_cmpR op_eq (pv 3) pe_int (nomark _)) (pss_cons (ps_set (i := 10) sc__law_spoilt.nd rfl (Or.inl rfl) (pe_tup (pa_cons pe_str (pa_cons (pv 5) (pa_cons pe_int (pa_cons (pe_tup (pa_cons (pv 8) pa_nil)) pa_nil))))))
    (pss_one (ps_ret (pe_tup (pa_cons (pv 4) (pa_cons (pv 5) (pa_cons (pv 6) (pa_cons (pe_slice sl_tupA (pe_op op_catA (pv 7) (pe_tup (pa_cons (pe_tup (pa_cons pe_str (pa_cons (pv 5) (pa_cons pe_non (pa_cons (pe_tup (pa_cons (pv 10) pa_nil)) pa_nil))))) pa_nil))) (po_some (pe_un un_neg pe_int)) po_none) pa_nil)))))))) pss_nil)
    (pss_one (ps_ret (pe_tup (pa_cons (pv 4) (pa_cons (pv 5) (pa_cons (pv 6) (pa_cons (pe_slice sl_tupA (pe_op op_catA (pv 7) (pe_tup (pa_cons (pv 8) (pa_cons (pv 8) (pa_cons (pv 8) pa_nil))))) po_none (po_some pe_int)) pa_nil)))))))))))))))))), ?_⟩)
  · obtain ⟨w, es, Po, rfl, _, ⟨⟨v, d, way, rfl, _⟩, _⟩, _⟩ := h
    rfl
  obtain ⟨w, es, Po, rfl, I0, ⟨⟨v, d, way, rfl, hv, hd⟩, hm, rfl⟩, k⟩ := h
  obtain ⟨m, rfl⟩ : ∃ m', m = m' + 1 := ⟨m - 1, by omega⟩
  obtain ⟨g, st, a, f, rfl, ha, hl, hf⟩ := hd
  obtain ⟨t, vs, rfl, et, hvs⟩ := hv.tup_of
  obtain ⟨v1, vs, rfl, h1, hvs⟩ := hvs.cons_of
  obtain ⟨v2, vs, rfl, h2, hvs⟩ := hvs.cons_of
  obtain ⟨v3, vs, rfl, h3, hvs⟩ := hvs.cons_of
  obtain ⟨v4, vs, rfl, h4, hvs⟩ := hvs.cons_of
  cases hvs.nil_of
  cases h1
  cases h2
  obtain ⟨tf, fs, rfl, ef, hfs⟩ := h4.tup_of
  have fl := hfs.len
  walk_at "w"
  refine k_tup (by show 0 ≤ sizeLine; decide) fun q0 Ha ga ea => ?_
  walk_at "w"
  refine k_tup (by show 4 ≤ sizeLine; decide) fun qp H1 gb eb => ?_
  have g1 := (ga.trans gb).any (M := [w.p])
  have I := (I0.new ga).new gb
  have h3 := h3.mono g1.tu
  have hfs := Rps.mono g1.tu hfs
  have ef := g1.tu _ _ ef
  have hpl : Rp H1 (.ref qp) (.tup [.str "done", .str st, .non, .tup []]) := .tup eb (.cons (.str _) (.cons (.str _) (.cons .non (.cons (.tup (gb.tu _ _ ea) .nil) .nil))))
  have hpk : ∀ n, 1 ≤ n → KA n (.tup [.str "done", .str st, .non, .tup []]) := fun n hn => KA.mono (n := 1) ⟨"done", st, .non, [], rfl, .non, by simp, fun _ z => nomatch z⟩ hn
  clear ga gb ea eb et I0 hv h4
  have fin : ∀ (g' s' : Str) va da vf df H2, Gr [w.p] H1 H2 → In w [w.p] H2 → ArgD da → Rp H2 va da → Rp H2 vf (.tup df) → df.length ≤ 4 → (∀ x ∈ df, KA m x) → kTup [.str g', .str s', va, vf] H2 Q := fun g' s' va da vf df H2 g2 I2 q1 q2 q3 q4 q5 =>
    k_dat I2 (g1.trans g2) (.cons (.str _) (.cons (.str _) (.cons q2 (.cons q3 .nil)))) ⟨g', s', da, df, rfl, q1, q4, q5⟩ k
  have hfd : Rp H1 (.ref tf) (.tup f) := .tup ef hfs
  walk_at "w"
  refine i_I (fun _ => ?_) (fun _ => ?_)
  · walk_at "w"
    refine k_lst (by show 5 ≤ sizeLine; decide) fun q H2 hq g2 e2 => ?_
    walk_at "w"
    refine draw_ans (I.new g2) (by decide) (by decide) fun r H3 a0 a1 g3 I3 => ?_
    refine r_ixA (g3.keep _ _ e2 (by simpa using (I.P.fresh hq).2)) a0 a1 fun v hv => ?_
    obtain ⟨g', rfl⟩ := isS_of rfl hv
    walk_at "w"
    have t3 := g2.tu.trans g3.tu
    exact fin _ _ _ _ _ _ _ (g2.any.trans g3) I3 ha (h3.mono t3) (hfd.mono t3) hl hf
  walk_at "w"
  refine i_I (fun _ => ?_) (fun _ => ?_)
  · walk_at "w"
    refine fresh_ans I I.L.en (by have := I.L.ok.n3; omega) fun x H2 hx g2 I2 => ?_
    walk_at "w"
    exact fin _ _ _ _ _ _ _ g2 I2 ha (h3.mono g2.tu) (hfd.mono g2.tu) hl hf
  walk_at "w"
  refine i_I (fun _ => ?_) (fun _ => ?_)
  · walk_at "w"
    refine draw_ans I (by decide) (by decide) fun r1 H2 a0 a1 g2 I2 => ?_
    walk_at "w"
    refine k_lst (by show 3 ≤ sizeLine; decide) fun q H3 hq g3 e3 => ?_
    walk_at "w"
    refine draw_ans (I2.new g3) (by decide) (by decide) fun r H4 b0 b1 g4 I4 => ?_
    refine r_ixA (g4.keep _ _ e3 (by simpa using (I2.P.fresh hq).2)) b0 b1 fun v hv => ?_
    obtain ⟨z, rfl⟩ := isI_of rfl hv
    walk_at "w"
    have t4 := (g2.tu.trans g3.tu).trans g4.tu
    exact fin _ _ _ _ _ _ _ ((g2.trans g3.any).trans g4) I4 (.int z) (.int z) (hfd.mono t4) hl hf
  walk_at "w"
  refine i_I (fun _ => ?_) (fun _ => ?_)
  · walk_at "w"
    refine k_lst (by show 4 ≤ sizeLine; decide) fun q H3 hq g3 e3 => ?_
    walk_at "w"
    refine draw_ans (I.new g3) (by decide) (by decide) fun r H4 b0 b1 g4 I4 => ?_
    refine r_ixA (g4.keep _ _ e3 (by simpa using (I.P.fresh hq).2)) b0 b1 fun v hv => ?_
    obtain ⟨z, rfl⟩ := isS_of rfl hv
    walk_at "w"
    refine name_ans I4 fun x H5 hx g5 I5 => ?_
    walk_at "w"
    refine k_tup (by show 2 ≤ sizeLine; decide) fun q2 H6 g6 e6 => ?_
    walk_at "w"
    have t6 := ((g3.tu.trans g4.tu).trans g5.tu).trans g6.tu
    exact fin _ _ _ _ _ _ _ (((g3.any.trans g4).trans g5).trans g6.any) (I5.new g6) (.pair z x) (.tup e6 (.cons (.str _) (.cons (.str _) .nil))) (hfd.mono t6) hl hf
  walk_at "w"
  refine i_I (fun _ => ?_) (fun _ => ?_)
  · walk_at "w"
    refine k_prs (by show 11 < 12; decide) I.L.ep I.L.er (by have := I.L.ok.c2; omega) fun q H2 hq g2 e2 => ?_
    walk_at "w"
    refine fresh_ans (I.new g2) e2 (by rw [List.length_map]; have := I.L.ok.c2; omega) fun x H3 hx g3 I3 => ?_
    walk_at "w"
    refine k_lst (by show 2 ≤ sizeLine; decide) fun q H4 hq g4 e4 => ?_
    walk_at "w"
    refine draw_ans (I3.new g4) (by decide) (by decide) fun r H5 b0 b1 g5 I5 => ?_
    refine r_ixA (g5.keep _ _ e4 (by simpa using (I3.P.fresh hq).2)) b0 b1 fun v hv => ?_
    obtain ⟨z, rfl⟩ := isS_of rfl hv
    walk_at "w"
    refine k_tup (by show 2 ≤ sizeLine; decide) fun q2 H6 g6 e6 => ?_
    walk_at "w"
    have t6 := (((g2.tu.trans g3.tu).trans g4.tu).trans g5.tu).trans g6.tu
    exact fin _ _ _ _ _ _ _ ((((g2.any.trans g3).trans g4.any).trans g5).trans g6.any) (I5.new g6) (.pair z x) (.tup e6 (.cons (.str _) (.cons (.str _) .nil))) (hfd.mono t6) hl hf
  have cat : ∀ (g' : Str) (lo hi : Option Int) (ws : List V) (es : List D) H2, Gr [w.p] H1 H2 → In w [w.p] H2 → Rps H2 ws es → (∀ x ∈ es, KA m x) → (∀ xs : List V, (cutV xs lo hi).length ≤ 4) → ∀ q4 H4, Gr [] H2 H4 → H4 q4 = some (.tup (cutV (fs ++ ws) lo hi)) →
      kTup [.str g', .str st, v3, .ref q4] H4 Q := by
    intro g' lo hi ws es H2 g2 I2 hw he hcut q4 H4 g4 e4
    obtain ⟨ds, r1, r2, r3⟩ := cut_rps lo hi ((Rps.mono (g2.tu.trans g4.tu) hfs).append (Rps.mono g4.tu hw))
    refine fin _ _ _ _ _ ds H4 (g2.trans g4.any) (I2.new g4) ha (h3.mono (g2.tu.trans g4.tu)) (.tup e4 r1) (by rw [r3]; exact hcut _) fun x hx => ?_
    rcases List.mem_append.mp (r2 x hx) with z | z
    · exact hf x z
    · exact he x z
  have pk := hpk m (by omega)
  have p1 : ∀ {H2 : Hp}, Tu H1 H2 → Rp H2 (.ref qp) (.tup [.str "done", .str st, .non, .tup []]) := fun t => hpl.mono t
  walk_at "w"
  refine i_I (fun _ => ?_) (fun _ => ?_)
  · walk_at "w"
    refine k_tup (by show 4 ≤ sizeLine; decide) fun q2 H2 g2 e2 => ?_
    walk_at "w"
    refine r_cat (g2.tu _ _ ef) e2 (by rw [sizeLine_eq]; simp; omega) fun q7 H7 g7 e7 => ?_
    walk_at "w"
    refine r_slT e7 fun q8 H8 g8 e8 => ?_
    walk_at "w"
    exact cat g none (some 4) _ _ H2 g2.any (I.new g2) (.cons (p1 g2.tu) (.cons (p1 g2.tu) (.cons (p1 g2.tu) (.cons (p1 g2.tu) .nil)))) (all2 pk (all2 pk (all2 pk (all1 pk)))) (fun xs => cut_lo 4) q8 H8 (g7.trans g8) e8
  walk_at "w"
  refine i_I (fun _ => ?_) (fun _ => ?_)
  · walk_at "w"
    refine k_tup (by show 1 ≤ sizeLine; decide) fun q2 H2 g2 e2 => ?_
    walk_at "w"
    refine r_cat (g2.tu _ _ ef) e2 (by rw [sizeLine_eq]; simp; omega) fun q7 H7 g7 e7 => ?_
    walk_at "w"
    refine r_slT e7 fun q8 H8 g8 e8 => ?_
    walk_at "w"
    exact cat "error" none (some 3) _ _ H2 g2.any (I.new g2) (.cons (p1 g2.tu) .nil) (all1 pk) (fun xs => Nat.le_trans (cut_lo 3) (by decide)) q8 H8 (g7.trans g8) e8
  walk_at "w"
  refine i_I (fun _ => ?_) (fun _ => ?_)
  · walk_at "w"
    refine k_tup (by show 1 ≤ sizeLine; decide) fun q2 H2 g2 e2 => ?_
    walk_at "w"
    refine k_tup (by show 4 ≤ sizeLine; decide) fun q3 H3 g3 e3 => ?_
    walk_at "w"
    refine k_tup (by show 1 ≤ sizeLine; decide) fun q4 H4 g4 e4 => ?_
    walk_at "w"
    refine k_tup (by show 4 ≤ sizeLine; decide) fun q5 H5 g5 e5 => ?_
    walk_at "w"
    refine k_tup (by show 1 ≤ sizeLine; decide) fun q6 H6 g6 e6 => ?_
    have gg := (((g2.trans g3).trans g4).trans g5).trans g6
    have r2 : Rp H6 (.ref q2) (.tup [.tup [.str "done", .str st, .non, .tup []]]) := .tup ((((g3.tu.trans g4.tu).trans g5.tu).trans g6.tu) _ _ e2) (.cons (p1 gg.tu) .nil)
    have r3 : Rp H6 (.ref q3) (.tup [.str "always", .str st, .int 7, .tup [.tup [.str "done", .str st, .non, .tup []]]]) := .tup (((g4.tu.trans g5.tu).trans g6.tu) _ _ e3) (.cons (.str _) (.cons (.str _) (.cons (.int _) (.cons r2 .nil))))
    have r4 : Rp H6 (.ref q4) (.tup [.tup [.str "always", .str st, .int 7, .tup [.tup [.str "done", .str st, .non, .tup []]]]]) := .tup ((g5.tu.trans g6.tu) _ _ e4) (.cons r3 .nil)
    have k2 : KA 2 (.tup [.str "always", .str st, .int 7, .tup [.tup [.str "done", .str st, .non, .tup []]]]) := ⟨"always", st, .int 7, _, rfl, .int 7, by simp, all1 (hpk 1 (by decide))⟩
    have k3 : KA 3 (.tup [.str "done", .str st, .non, .tup [.tup [.str "always", .str st, .int 7, .tup [.tup [.str "done", .str st, .non, .tup []]]]]]) := ⟨"done", st, .non, _, rfl, .non, by simp, all1 k2⟩
    walk_at "w"
    refine r_cat (gg.tu _ _ ef) e6 (by rw [sizeLine_eq]; simp; omega) fun q7 H7 g7 e7 => ?_
    walk_at "w"
    refine r_slT e7 fun q8 H8 g8 e8 => ?_
    walk_at "w"
    exact cat g (some (-3)) none _ _ H6 gg.any (I.new gg) (.cons (.tup (g6.tu _ _ e5) (.cons (.str _) (.cons (.str _) (.cons .non (.cons r4 .nil))))) .nil) (all1 (k3.mono (by omega))) (fun xs => Nat.le_trans cut_hi3 (by decide)) q8 H8 (g7.trans g8) e8
  walk_at "w"
  refine k_tup (by show 3 ≤ sizeLine; decide) fun q2 H2 g2 e2 => ?_
  walk_at "w"
  refine r_cat (g2.tu _ _ ef) e2 (by rw [sizeLine_eq]; simp; omega) fun q7 H7 g7 e7 => ?_
  walk_at "w"
  refine r_slT e7 fun q8 H8 g8 e8 => ?_
  walk_at "w"
  exact cat g none (some 3) _ _ H2 g2.any (I.new g2) (.cons (p1 g2.tu) (.cons (p1 g2.tu) (.cons (p1 g2.tu) .nil))) (all2 pk (all2 pk (all1 pk))) (fun xs => Nat.le_trans (cut_lo 3) (by decide)) q8 H8 (g7.trans g8) e8
end
end Xd

/-! text D11 -/
/-! an action touched; a statement changed; a block rebuilt -/
namespace Xd
open PySem PySem.Spec PyProof.Rows L2
local macro_rules | `(tactic| walk_at "w1") => `(tactic| first
  | with_reducible apply r_seq
  | with_reducible apply r_asg
  | with_reducible apply r_gname
  | ((with_reducible apply r_var); exact rfl)
  | with_reducible apply r_c
  | with_reducible apply r_op
  | with_reducible apply r_I0
  | ((with_reducible apply r_eq); exact rfl)
  | ((with_reducible apply r_ne); exact rfl)
  | with_reducible apply r_if
  | with_reducible apply r_test
  | with_reducible apply r_tB
  | with_reducible apply r_bl
  | with_reducible apply r_and
  | with_reducible apply r_or
  | with_reducible apply r_not
  | with_reducible apply r_ret
  | with_reducible apply r_drop
  | with_reducible apply r_cons
  | with_reducible apply r_nil
  | with_reducible apply r_cal
  | with_reducible apply r_cb
  | with_reducible apply r_tup
  | with_reducible apply r_lst
  | with_reducible apply r_next
  | with_reducible apply r_retN
  | with_reducible apply r_un
  | with_reducible apply r_U
  | with_reducible apply r_andV
  | with_reducible apply r_orV
  | with_reducible apply r_notV
  | with_reducible apply r_ifx
  | with_reducible apply r_forT
  | with_reducible apply r_forL
  | with_reducible apply r_forR
  | with_reducible apply r_sl
  | with_reducible apply r_nop
  | with_reducible apply r_part
  | with_reducible apply r_kPart
  | with_reducible apply r_gsub
  | with_reducible apply r_int1
  | with_reducible apply r_isN
  | with_reducible apply r_notN
  | with_reducible apply r_ltStr
  | with_reducible apply r_inS
  | with_reducible apply r_niS
  | with_reducible apply r_bm
  | with_reducible apply r_forS
  | with_reducible apply r_lcL
  | with_reducible apply r_lcT
  | with_reducible apply r_m0
  | ((with_reducible apply r_gtup); (assumption); (exact rfl))
  | with_reducible apply r_gcons
  | with_reducible apply r_gnil
  | (with_reducible refine r_l0 (by assumption) ?_)
  | (with_reducible refine r_l2 (by assumption) ?_)
  | (with_reducible refine r_lenN (by assumption) ?_)
  | (with_reducible refine r_lenC (by assumption) ?_)
  | ((with_reducible apply r_ixT'); (assumption); (first | exact rfl | exact atI_0 | exact atI_1 | exact atI_2))
  | ((with_reducible apply r_ixL'); (assumption); (exact rfl))
  | ((with_reducible apply i_f); exact rfl)
  | ((with_reducible apply i_t); exact rfl)
  | ((with_reducible apply r_I); first | exact Or.inr ⟨by decide, by decide⟩ | exact (by decide) | assumption | exact ⟨by omega, by omega⟩ | exact (by omega) | exact ⟨by decide, by decide, by decide⟩))
local macro_rules | `(tactic| walk_at "w") => `(tactic| repeat (walk_at "w1"))

def spTouched (n : Nat) : Sp := fun vs H Q _ => ∃ (w : Wo) (rm : Addr) (v : V) (d : D) (way : Int), vs = [.ref w.p, .ref w.a, v, .ref rm, .int way] ∧ InR w rm H ∧ Rp H v d ∧ KA n d ∧ GkR w rm H (KA (n + 4)) Q
theorem sc__law_touched : FnScope ["_law_pool_here", "_law_lore_here", "_law_action_here", "_law_spot", "_law_way", "_law_mine", "_law_further", "_law_inner"] ["_law_pool_here", "_law_lore_here", "_law_action_here", "_law_spot", "_law_way"] (defScope s__law_touched) := ⟨rfl, rfl, rfl, by decide +kernel, rfl, by decide +kernel, by decide +kernel⟩
section
variable {G : Ctx}
theorem k__law_touched (T : Txt G) (c__law_spoilt : ∀ m, Cal G 5 (He.ga G.K "_law_spoilt") (spSpoilt m) []) : ∀ n : Nat, Cal G (n + 6) (He.ga G.K "_law_touched") (spTouched n) []
  | 0 => cal_never T.f__law_touched sc__law_touched (fun _ _ _ _ _ _ us hl => match us, hl with | [_, _, _, _, _], _ => rfl) fun vs H Q E ⟨_, _, _, _, _, _, _, _, h, _⟩ => h
  | n + 1 => by
    have c__law_touched := k__law_touched T c__law_spoilt n
    have c__law_spoilt := c__law_spoilt (n + 1 + 4)
    refine cal_of (k := n + 6) T.f__law_touched sc__law_touched (fun _ _ _ _ _ _ us hl => match us, hl with | [_, _, _, _, _], _ => rfl) (fun vs H Q E h => ?_) (fun cdv A outer s H vs Q E hr h => ⟨_, ((pss_cons (ps_set (i := 5) sc__law_touched.nd rfl (Or.inl rfl) (pe_ix ix_list (pv 3) pe_int (fun _ _ => rfl)))
    (pss_cons (ps_asg (pe_op op_sub (pe_ix ix_list (pv 3) pe_int (fun _ _ => rfl)) pe_int) (pg_sub (pv 3) pe_int set_list))
    (pss_cons (ps_set (i := 6) sc__law_touched.nd rfl (Or.inl rfl) (pe_tup pa_nil))
    (pss_cons (ps_for (passes_of rfl) rfl (pi_tup (pe_ix ix_tup (pv 2) pe_int (fun _ _ => rfl))) (pg_name (i := 7) sc__law_touched.nd rfl (Or.inl rfl))
    (pss_one (ps_set (i := 6) sc__law_touched.nd rfl (Or.inl rfl) (pe_op op_catA (pv 6) (pe_tup (pa_cons (pe_cal c__law_touched T.g__law_touched hr (by omega) (takes_of rfl rfl rfl rfl) (fun _ _ _ _ h => h) rfl (pa_cons (pv 0) (pa_cons (pv 1) (pa_cons (pv 7) (pa_cons (pv 3) (pa_cons (pv 4) pa_nil)))))) pa_nil))))))
    (pss_cons (ps_set (i := 2) sc__law_touched.nd rfl (Or.inl rfl) (pe_tup (pa_cons (pe_ix ix_tup (pv 2) pe_int (fun _ _ => rfl)) (pa_cons (pe_ix ix_tup (pv 2) pe_int (fun _ _ => rfl)) (pa_cons (pe_ix ix_tup (pv 2) pe_int (fun _ _ => rfl)) (pa_cons (pv 6) pa_nil))))))
    (pss_cons (ps_if (pt_cmpR op_eq (pv 5) pe_int (nomark _)) (pss_one (ps_ret (pe_cal c__law_spoilt T.g__law_spoilt hr (by omega) (takes_of rfl rfl rfl rfl) (fun _ _ _ _ h => h) rfl (pa_cons (pv 0) (pa_cons (pv 1) (pa_cons (pv 2) (pa_cons (pv 4) pa_nil))))))) pss_nil)
    (pss_one (ps_ret (pv 2)))))))))), ?_⟩)
    · obtain ⟨w, rm, v, d, way, rfl, _⟩ := h
      rfl
    obtain ⟨w, rm, v, d, way, rfl, I, hv, hd, k⟩ := h
    obtain ⟨g, st, a, f, rfl, ha, hl, hf⟩ := hd
    obtain ⟨t, vs, rfl, et, hvs⟩ := hv.tup_of
    obtain ⟨v1, vs, rfl, h1, hvs⟩ := hvs.cons_of
    obtain ⟨v2, vs, rfl, h2, hvs⟩ := hvs.cons_of
    obtain ⟨v3, vs, rfl, h3, hvs⟩ := hvs.cons_of
    obtain ⟨v4, vs, rfl, h4, hvs⟩ := hvs.cons_of
    cases hvs.nil_of
    cases h1
    cases h2
    obtain ⟨tf, fs, rfl, ef, hfs⟩ := h4.tup_of
    have fl := hfs.len
    obtain ⟨z, ez⟩ := I.e
    walk_at "w"
    refine r_setL (k := 0) ez rfl ?_
    obtain ⟨g1, I1⟩ := I.set (z - 1)
    have e1 : (upd H rm (.lst (([V.int z] : List V).set 0 (.int (z - 1))))) = upd H rm (.lst [.int (z - 1)]) := rfl
    rw [e1]
    generalize upd H rm (.lst [.int (z - 1)]) = H1 at g1 I1 ⊢
    walk_at "w"
    refine k_tup (by show 0 ≤ sizeLine; decide) fun q0 H2 g2 e2 => ?_
    have g02 := g1.trans (g2.any (M := [w.p, rm]))
    have et2 := g02.tu _ _ et
    have ef2 := g02.tu _ _ ef
    walk_at "w"
    refine k_forT (SqT.of ef2) (fun i σ' H' => ∃ (q : Addr) (o : Option V) (ws : List V) (es : List D), σ' = [some (.ref w.p), some (.ref w.a), some (.ref t), some (.ref rm), some (.int way), some (.int z), some (.ref q), o] ∧ H' q = some (.tup ws) ∧ Rps H' ws es ∧ es.length = i ∧ (∀ y ∈ es, KA (n + 4) y) ∧ Gr [w.p, rm] H H' ∧ InR w rm H')
      ⟨q0, none, [], [], rfl, e2, .nil, rfl, fun _ z => (nomatch z), g02, I1.new g2⟩ (fun i σ' H' hi ⟨_, _, _, _, _, _, _, _, _, g', _⟩ => SqT.of (g'.tu _ _ ef)) ?_ ?_
    · rintro i x σ3 H3 hx ⟨q, o, ws, es, rfl, eq, hw, he, hk, g3, I3⟩
      obtain ⟨d, hd, rd⟩ := hfs.get hx
      have hi : i < f.length := (List.getElem?_eq_some_iff.mp hd).1
      walk_at "w"
      refine ⟨w, rm, x, d, way, rfl, I3, rd.mono g3.tu, hf d (List.mem_of_getElem? hd), fun v' d' H4 hd' hv' g4 I4 => ?_⟩
      walk_at "w"
      refine k_tup (by show 1 ≤ sizeLine; decide) fun q2 H5 g5 e5 => ?_
      have t5 := g4.tu.trans g5.tu
      refine r_cat (t5 _ _ eq) e5 (by rw [sizeLine_eq, hw.len]; show es.length + 1 ≤ _; omega) fun q3 H6 g6 e6 => ?_
      walk_at "w"
      refine ⟨q3, some x, _, es ++ [d'], rfl, e6, ((Rps.mono t5 hw).append (.cons (hv'.mono g5.tu) .nil)).mono g6.tu, by rw [List.length_append, he] <;> rfl, fun y hy => ?_, ((g3.trans g4).trans g5.any).trans g6.any, (I4.new g5).new g6⟩
      rcases mem_snoc hy with z | z
      · exact hk y z
      · rw [z]; exact hd'
    · rintro σ3 H3 ⟨q, o, ws, es, rfl, eq, hw, he, hk, g3, I3⟩
      have et3 := g3.tu _ _ et
      walk_at "w"
      refine k_tup (by show 4 ≤ sizeLine; decide) fun q4 H4 g4 e4 => ?_
      have hd4 : KA (n + 1 + 4) (.tup [.str g, .str st, a, .tup es]) := KA.mono (n := n + 4 + 1) ⟨g, st, a, es, rfl, ha, by omega, hk⟩ (by omega)
      have hv4 : Rp H4 (.ref q4) (.tup [.str g, .str st, a, .tup es]) := .tup e4 (.cons (.str _) (.cons (.str _) (.cons (h3.mono (g3.tu.trans g4.tu)) (.cons (.tup (g4.tu _ _ eq) (Rps.mono g4.tu hw)) .nil))))
      walk_at "w"
      refine i_I (fun _ => ?_) (fun _ => ?_)
      · walk_at "w"
        exact Gk.ansR (I3.new g4) ⟨⟨_, _, way, rfl, hv4, hd4⟩, by omega, rfl⟩ fun v' d' H5 hd' hv' g5 I5 => k v' d' H5 hd' hv' ((g3.trans g4.any).trans g5) I5
      · walk_at "w"
        exact k _ _ H4 hd4 hv4 (g3.trans g4.any) (I3.new g4)
end
end Xd

/-! text D12 -/
/-! a statement changed -/
namespace Xd
open PySem PySem.Spec PyProof.Rows L2
local macro_rules | `(tactic| walk_at "w1") => `(tactic| first
  | with_reducible apply r_seq
  | with_reducible apply r_asg
  | with_reducible apply r_gname
  | ((with_reducible apply r_var); exact rfl)
  | with_reducible apply r_c
  | with_reducible apply r_op
  | with_reducible apply r_I0
  | ((with_reducible apply r_eq); exact rfl)
  | ((with_reducible apply r_ne); exact rfl)
  | with_reducible apply r_if
  | with_reducible apply r_test
  | with_reducible apply r_tB
  | with_reducible apply r_bl
  | with_reducible apply r_and
  | with_reducible apply r_or
  | with_reducible apply r_not
  | with_reducible apply r_ret
  | with_reducible apply r_drop
  | with_reducible apply r_cons
  | with_reducible apply r_nil
  | with_reducible apply r_cal
  | with_reducible apply r_cb
  | with_reducible apply r_tup
  | with_reducible apply r_lst
  | with_reducible apply r_next
  | with_reducible apply r_retN
  | with_reducible apply r_un
  | with_reducible apply r_U
  | with_reducible apply r_andV
  | with_reducible apply r_orV
  | with_reducible apply r_notV
  | with_reducible apply r_ifx
  | with_reducible apply r_forT
  | with_reducible apply r_forL
  | with_reducible apply r_forR
  | with_reducible apply r_sl
  | with_reducible apply r_nop
  | with_reducible apply r_part
  | with_reducible apply r_kPart
  | with_reducible apply r_gsub
  | with_reducible apply r_int1
  | with_reducible apply r_isN
  | with_reducible apply r_notN
  | with_reducible apply r_ltStr
  | with_reducible apply r_inS
  | with_reducible apply r_niS
  | with_reducible apply r_bm
  | with_reducible apply r_forS
  | with_reducible apply r_lcL
  | with_reducible apply r_lcT
  | with_reducible apply r_m0
  | ((with_reducible apply r_gtup); (assumption); (exact rfl))
  | with_reducible apply r_gcons
  | with_reducible apply r_gnil
  | (with_reducible refine r_l0 (by assumption) ?_)
  | (with_reducible refine r_l2 (by assumption) ?_)
  | (with_reducible refine r_lenN (by assumption) ?_)
  | (with_reducible refine r_lenC (by assumption) ?_)
  | ((with_reducible apply r_ixT'); (assumption); (first | exact rfl | exact atI_0 | exact atI_1 | exact atI_2))
  | ((with_reducible apply r_ixL'); (assumption); (exact rfl))
  | ((with_reducible apply i_f); exact rfl)
  | ((with_reducible apply i_t); exact rfl)
  | ((with_reducible apply r_I); first | exact Or.inr ⟨by decide, by decide⟩ | exact (by decide) | assumption | exact ⟨by omega, by omega⟩ | exact (by omega) | exact ⟨by decide, by decide, by decide⟩))
local macro_rules | `(tactic| walk_at "w") => `(tactic| repeat (walk_at "w1"))

def spChanged (n : Nat) : Sp := spG fun es H Po => (∃ v d way, es = [v, .int way] ∧ Rp H v d ∧ Sm (KB n) d) ∧ Po = KS (n + 6)
def isBad : V → Bool
  | .str g => (lenOf g).isNone
  | _ => false
theorem isBad_of {v : V} {xs : List V} (hs : xs.all isBad = true) (h : v ∈ xs) : ∃ g, v = .str g ∧ lenOf g = none := by
  have e := List.all_eq_true.mp hs v h
  cases v with
  | str g => exact ⟨g, rfl, Option.isNone_iff_eq_none.mp e⟩
  | _ => cases e
theorem In.room {w : Wo} {q : Addr} {H H1 : Hp} {z : Int} (I : In w [w.p] H) (hq : H q = none) (g : Gr [] H H1) (e : H1 q = some (.lst [.int z])) : InR w q H1 := by
  have f := I.P.fresh hq
  have J := I.new g
  have ne : ∀ {b : Addr} {o : HO}, H b = some o → b ≠ q := fun hb z => by rw [z, hq] at hb; cases hb
  refine ⟨⟨J.P, ⟨J.L.e, J.L.en, J.L.ep, J.L.er, ?_, ?_, ?_, J.L.ok⟩, List.mem_cons_self⟩, f.2, f.1, z, e⟩
  · have := I.L.ma; have := ne I.L.e; simp_all
  · have := I.L.mn; have := ne I.L.en; simp_all
  · have := I.L.mp; have := ne I.L.ep; simp_all
theorem Gr.forget {p q : Addr} {H H1 H2 : Hp} (g : Gr [p] H H1) (hq : H q = none) (g2 : Gr [p, q] H1 H2) : Gr [p] H H2 :=
  ⟨fun c o e n => g2.keep c o (g.keep c o e n) (by
    have : c ≠ q := ne_of_none e hq
    simp at n ⊢
    exact ⟨n, this⟩), g.tu.trans g2.tu⟩
theorem cut_m1 {xs : List V} : cutV xs none (some (-1)) = xs.dropLast := by
  unfold cutV
  rw [HT.sIx_none, List.drop_zero]
  show xs.take ((if (-1 : Int) < 0 then ((-1 : Int) + (xs.length : Int)).toNat else min (-1 : Int).toNat xs.length) - 0) = _
  rw [if_pos (by decide), List.dropLast_eq_take]
  congr 1
  omega
theorem sc__law_changed : FnScope ["_law_pool_here", "_law_lore_here", "_law_statement_here", "_law_way", "_law_pair", "_law_size_here", "_law_action_here"] ["_law_pool_here", "_law_lore_here", "_law_statement_here", "_law_way"] (defScope s__law_changed) := ⟨rfl, rfl, rfl, by decide +kernel, rfl, by decide +kernel, by decide +kernel⟩
section
variable {G : Ctx}
theorem k__law_changed (T : Txt G) {n : Nat} (c__law_draw : Cal G 2 (He.ga G.K "_law_draw") spDraw []) (c__law_fresh : Cal G 4 (He.ga G.K "_law_fresh") spFresh []) (c__law_wrapped : Cal G 4 (He.ga G.K "_law_wrapped") (spWrapped (n + 1)) []) (c__law_bad_cell : Cal G 5 (He.ga G.K "_law_bad_cell") (spBadCell n) []) (c__law_bad_name : Cal G 4 (He.ga G.K "_law_bad_name") (spBadName n) []) (c__law_bad_read : Cal G 3 (He.ga G.K "_law_bad_read") spBadRead [])
    (c__law_action : Cal G 7 (He.ga G.K "_law_action") (spAct 3) []) (c__law_touched : Cal G 9 (He.ga G.K "_law_touched") (spTouched 3) []) (c__law_many : Cal G 4 (He.ga G.K "_law_many") (spMany 3) []) (c__law_plain : Cal G 8 (He.ga G.K "_law_plain") spPlain []) : Cal G 10 (He.ga G.K "_law_changed") (spChanged n) [] := by
  refine cal_of T.f__law_changed sc__law_changed (fun _ _ _ _ _ _ us hl => match us, hl with | [_, _, _, _], _ => rfl) (fun vs H Q E h => ?_) (fun cdv A outer s H vs Q E hr h => ⟨_, ((pss_cons (ps_set (i := 4) sc__law_changed.nd rfl (Or.inl rfl) (pe_tup (pa_cons pe_str (pa_cons pe_int pa_nil))))
    (Evl.pss_cut (ps_if (pt_cmpR op_gt (pe_callB call_lenQ rfl T.v_len PySem.boot_len (pa_cons (pe_ix ix_list (pv 1) pe_int (fun _ _ => rfl)) pa_nil)) pe_int (nomark _)) (pss_one (ps_set (i := 4) sc__law_changed.nd rfl (Or.inl rfl) (pe_ix ix_list (pe_ix ix_list (pv 1) pe_int (fun _ _ => rfl)) (pe_cal c__law_draw T.g__law_draw hr (by omega) (takes_of rfl rfl rfl rfl) (fun _ _ _ _ h => h) rfl (pa_cons (pv 0) (pa_cons (pe_callB call_lenQ rfl T.v_len PySem.boot_len (pa_cons (pe_ix ix_list (pv 1) pe_int (fun _ _ => rfl)) pa_nil)) pa_nil))) (fun _ _ => rfl)))) pss_nil)
    (pss_cons (ps_if (pt_cmpR op_eq (pv 3) pe_int (nomark _)) (pss_one (ps_ret (pe_op op_catA (pe_tup (pa_cons (pe_ix ix_list (pe_lst (pa_cons pe_str (pa_cons pe_str (pa_cons pe_str (pa_cons pe_str (pa_cons pe_str (pa_cons pe_str pa_nil))))))) (pe_cal c__law_draw T.g__law_draw hr (by omega) (takes_of rfl rfl rfl rfl) (fun _ _ _ _ h => h) rfl (pa_cons (pv 0) (pa_cons pe_int pa_nil))) (fun _ _ => rfl)) pa_nil)) (pe_slice sl_tupA (pv 2) (po_some pe_int) po_none)))) pss_nil)
    (pss_cons (ps_if (pt_cmpR op_eq (pv 3) pe_int (nomark _)) (pss_one (ps_ret (pe_op op_catA (pv 2) (pe_tup (pa_cons pe_int pa_nil))))) pss_nil)
    (pss_cons (ps_if (pt_cmpR op_eq (pv 3) pe_int (nomark _)) (pss_one (ps_ret (pe_slice sl_tupA (pv 2) po_none (po_some (pe_un un_neg pe_int))))) pss_nil)
    (pss_cons (ps_if (pt_cmpR op_eq (pv 3) pe_int (nomark _)) (pss_one (ps_ret (pe_cal c__law_wrapped T.g__law_wrapped hr (by omega) (takes_of rfl rfl rfl rfl) (fun _ _ _ _ h => h) rfl (pa_cons (pv 0) (pa_cons (pv 2) pa_nil))))) pss_nil)
    (pss_cons (ps_if (pt_cmpR op_eq (pv 3) pe_int (nomark _)) (pss_one (ps_ret (pe_tup (pa_cons pe_str (pa_cons (pe_cal c__law_fresh T.g__law_fresh hr (by omega) (takes_of rfl rfl rfl rfl) (fun _ _ _ _ h => h) rfl (pa_cons (pv 0) (pa_cons (pe_ix ix_list (pv 1) pe_int (fun _ _ => rfl)) pa_nil))) (pa_cons pe_non pa_nil)))))) pss_nil)
    (pss_cons (ps_if (pt_cmpR op_eq (pv 3) pe_int (nomark _)) (pss_one (ps_ret (pe_cal c__law_bad_cell T.g__law_bad_cell hr (by omega) (takes_of rfl rfl rfl rfl) (fun _ _ _ _ h => h) rfl (pa_cons (pv 0) (pa_cons (pv 1) (pa_cons (pv 2) pa_nil)))))) pss_nil)
    (Evl.pss_cut (ps_if (PW.pt (pw_and (pt_cmpR op_eq (pv 3) pe_int (nomark _)) (pw_and1 (pt_cmpR op_gt (pe_ix ix_tup (pv 4) pe_int (fun _ _ => rfl)) pe_int (nomark _))))) (pss_cons (ps_set (i := 5) sc__law_changed.nd rfl (Or.inl rfl) (pe_op op_add (pe_op op_sub (pe_ix ix_tup (pv 4) pe_int (fun _ _ => rfl)) pe_int) (pe_cal c__law_draw T.g__law_draw hr (by omega) (takes_of rfl rfl rfl rfl) (fun _ _ _ _ h => h) rfl (pa_cons (pv 0) (pa_cons pe_int pa_nil)))))
    (pss_cons (ps_if (pt_cmpR op_eq (pe_cal c__law_draw T.g__law_draw hr (by omega) (takes_of rfl rfl rfl rfl) (fun _ _ _ _ h => h) rfl (pa_cons (pv 0) (pa_cons pe_int pa_nil))) pe_int (nomark _)) (pss_one (ps_ret (pe_tup (pa_cons pe_str (pa_cons (pe_ix ix_tup (pv 4) pe_int (fun _ _ => rfl)) (pa_cons (pv 5) (pa_cons (pe_tup pa_nil) (pa_cons (pe_tup (pa_cons (pv 2) pa_nil)) pa_nil)))))))) pss_nil)
    (pss_one (ps_ret (pe_tup (pa_cons pe_str (pa_cons (pe_ix ix_tup (pv 4) pe_int (fun _ _ => rfl)) (pa_cons (pe_ix ix_list (pe_lst (pa_cons (pv 5) (pa_cons (pv 5) (pa_cons (pe_un un_neg pe_int) pa_nil)))) (pe_cal c__law_draw T.g__law_draw hr (by omega) (takes_of rfl rfl rfl rfl) (fun _ _ _ _ h => h) rfl (pa_cons (pv 0) (pa_cons pe_int pa_nil))) (fun _ _ => rfl)) pa_nil)))))))) pss_nil)
    (pss_cons (ps_if (pt_cmpR op_eq (pv 3) pe_int (nomark _)) (pss_one (ps_ret (pe_cal c__law_bad_name T.g__law_bad_name hr (by omega) (takes_of rfl rfl rfl rfl) (fun _ _ _ _ h => h) rfl (pa_cons (pv 0) (pa_cons (pv 2) pa_nil))))) pss_nil)
    (pss_cons (ps_if (pt_cmpR op_eq (pv 3) pe_int (nomark _)) (pss_one (ps_ret (pe_cal c__law_bad_read T.g__law_bad_read hr (by omega) (takes_of rfl rfl rfl rfl) (fun _ _ _ _ h => h) rfl (pa_cons (pv 0) (pa_cons (pv 1) (pa_cons (pe_ix ix_list (pe_lst (pa_cons pe_int (pa_cons (pe_un un_neg pe_int) (pa_cons pe_int (pa_cons pe_int pa_nil))))) (pe_cal c__law_draw T.g__law_draw hr (by omega) (takes_of rfl rfl rfl rfl) (fun _ _ _ _ h => h) rfl (pa_cons (pv 0) (pa_cons pe_int pa_nil))) (fun _ _ => rfl)) pa_nil)))))) pss_nil)
    (Evl.pss_cut (ps_if (PW.pt (pw_and (pt_cmpR op_eq (pv 3) pe_int (nomark _)) (pw_and1 (pt_cmpR op_gt (pe_ix ix_tup (pv 4) pe_int (fun _ _ => rfl)) pe_int (nomark _))))) (pss_one (ps_ret (pe_cal c__law_bad_read T.g__law_bad_read hr (by omega) (takes_of rfl rfl rfl rfl) (fun _ _ _ _ h => h) rfl (pa_cons (pv 0) (pa_cons (pv 1) (pa_cons (pe_tup (pa_cons (pe_ix ix_list (pe_lst (pa_cons pe_str (pa_cons pe_str (pa_cons pe_str pa_nil)))) (pe_cal c__law_draw T.g__law_draw hr (by omega) (takes_of rfl rfl rfl rfl) (fun _ _ _ _ h => h) rfl (pa_cons (pv 0) (pa_cons pe_int pa_nil))) (fun _ _ => rfl)) (pa_cons (pe_ix ix_tup (pv 4) pe_int (fun _ _ => rfl)) pa_nil))) pa_nil)))))) pss_nil)
    (pss_cons (ps_if (pt_cmpR op_eq (pv 3) pe_int (nomark _)) (pss_cons (ps_set (i := 6) sc__law_changed.nd rfl (Or.inl rfl) (pe_cal c__law_action T.g__law_action hr (by omega) (takes_of rfl rfl rfl rfl) (fun _ _ _ _ h => h) rfl (pa_cons (pv 0) (pa_cons (pv 1) (pa_cons pe_int pa_nil)))))
    (pss_one (ps_ret (pe_tup (pa_cons pe_str (pa_cons (pe_cal c__law_touched T.g__law_touched hr (by omega) (takes_of rfl rfl rfl rfl) (fun _ _ _ _ h => h) rfl (pa_cons (pv 0) (pa_cons (pv 1) (pa_cons (pv 6) (pa_cons (pe_lst (pa_cons (pe_cal c__law_draw T.g__law_draw hr (by omega) (takes_of rfl rfl rfl rfl) (fun _ _ _ _ h => h) rfl (pa_cons (pv 0) (pa_cons (pe_cal c__law_many T.g__law_many hr (by omega) (takes_of rfl rfl rfl rfl) (fun _ _ _ _ h => h) rfl (pa_cons (pv 6) pa_nil)) pa_nil))) pa_nil)) (pa_cons (pe_cal c__law_draw T.g__law_draw hr (by omega) (takes_of rfl rfl rfl rfl) (fun _ _ _ _ h => h) rfl (pa_cons (pv 0) (pa_cons pe_int pa_nil))) pa_nil)))))) pa_nil)))))) pss_nil)
    (pss_one (ps_ret (pe_cal c__law_plain T.g__law_plain hr (by omega) (takes_of rfl rfl rfl rfl) (fun _ _ _ _ h => h) rfl (pa_cons (pv 0) (pa_cons (pv 1) pa_nil))))))))))))))))))), ?_⟩)
  · obtain ⟨w, es, Po, rfl, _, ⟨⟨v, d, way, rfl, _⟩, _⟩, _⟩ := h
    rfl
  obtain ⟨w, es, Po, rfl, I0, ⟨⟨v, d, way, rfl, hv0, hd⟩, rfl⟩, k⟩ := h
  walk_at "w"
  refine k_tup (by show 2 ≤ sizeLine; decide) fun q0 H1 g1 e1 => ?_
  have I1 := I0.new g1
  walk_at "w"
  refine r_cut (fun σ' H' => ∃ (q : Addr) (x : Str) (z : Int), σ' = [some (.ref w.p), some (.ref w.a), some v, some (.int way), some (.ref q), none, none] ∧ H' q = some (.tup [.str x, .int z]) ∧ 0 ≤ z ∧ z ≤ 3 ∧ Gr [w.p] H H' ∧ In w [w.p] H') ?_ ?_
  · walk_at "w"
    refine i_d (fun h0 => ?_) (fun _ => ?_)
    · walk_at "w"
      refine draw_ans I1 (by omega) I1.c2 fun r1 H2 a0 a1 g2 I2 => ?_
      refine r_cellI I2 a0 a1 fun t c hc et => ?_
      walk_at "w"
      have hc2 := (I2.L.ok.cm c hc).2
      exact ⟨t, c.1, c.2, rfl, et, by omega, hc2.2, g1.any.trans g2, I2⟩
    · walk_at "w"
      exact ⟨q0, "", 0, rfl, e1, by decide, by decide, g1.any, I1⟩
  rintro σ' H2 ⟨q, x, z, rfl, eq, z0, z3, g2, I⟩
  have hv := hv0.mono g2.tu
  have hks := hd.ks
  have hdd := hd
  obtain ⟨wd, r, rfl, hp⟩ := hdd
  obtain ⟨t, vs, rfl, et, hvs⟩ := hv.tup_of
  obtain ⟨v0, vs, rfl, h0, hvs0⟩ := hvs.cons_of
  cases h0
  have few := hp.few
  have vl := hvs0.len
  have dep : ∀ y ∈ r, Dep (2 * (n + 5) + 14) y := fun y hy => (hp.dep (m := 2 * n + 14) (fun l q => KB.dep q) (by omega) y hy).mono (by omega)
  clear hv0 I0 I1 g1 e1 hvs
  walk_at "w"
  refine i_I (fun _ => ?_) (fun _ => ?_)
  · walk_at "w"
    refine k_lst (by show 6 ≤ sizeLine; decide) fun q1 H3 hq g3 e3 => ?_
    walk_at "w"
    refine draw_ans (I.new g3) (by decide) (by decide) fun r1 H4 a0 a1 g4 I4 => ?_
    refine r_ixA (g4.keep _ _ e3 (by simpa using (I.P.fresh hq).2)) a0 a1 fun u hu => ?_
    obtain ⟨wb, rfl, hb⟩ := isBad_of (by decide +kernel) hu
    walk_at "w"
    refine k_tup (by show 1 ≤ sizeLine; decide) fun q2 H5 g5 e5 => ?_
    walk_at "w"
    have t5 := (g3.tu.trans g4.tu).trans g5.tu
    refine r_slT (t5 _ _ et) fun q3 H6 g6 e6 => ?_
    rw [cut_1] at e6
    refine r_cat (g6.tu _ _ e5) e6 (by rw [sizeLine_eq, vl]; show 1 + r.length ≤ _; omega) fun q4 H7 g7 e7 => ?_
    exact k _ _ H7 (KS.bad (n := n + 5) (by omega) dep (by rw [hb]; intro z; cases z)) (.tup e7 (.cons (.str _) (Rps.mono (t5.trans (g6.tu.trans g7.tu)) hvs0))) ((g2.trans g3.any).trans ((g4.trans g5.any).trans (g6.any.trans g7.any))) (((I4.new g5).new g6).new g7).P
  walk_at "w"
  refine i_I (fun _ => ?_) (fun _ => ?_)
  · walk_at "w"
    refine k_tup (by show 1 ≤ sizeLine; decide) fun q2 H5 g5 e5 => ?_
    refine r_cat (g5.tu _ _ et) e5 (by rw [sizeLine_eq, List.length_cons, vl]; show r.length + 1 + 1 ≤ _; omega) fun q4 H7 g7 e7 => ?_
    refine k _ _ H7 (KS.bad (n := n + 5) (r := r ++ [.int 0]) (by rw [List.length_append]; show r.length + 1 ≤ 5; omega) (fun y hy => ?_) (by rw [hp.len, List.length_append]; intro z; have z := Option.some.inj z; simp at z; omega)) (.tup e7 (.cons (.str _) ((Rps.mono (g5.tu.trans g7.tu) hvs0).append (.cons (.int _) .nil)))) ((g2.trans g5.any).trans g7.any) ((I.new g5).new g7).P
    rcases mem_snoc hy with z | z
    · exact dep y z
    · rw [z]; exact dep_int
  walk_at "w"
  refine i_I (fun _ => ?_) (fun _ => ?_)
  · walk_at "w"
    refine r_slT et fun q4 H7 g7 e7 => ?_
    obtain ⟨x0, r', rfl⟩ := hp.head
    obtain ⟨v1, vs, rfl, h1, hvs1⟩ := hvs0.cons_of
    rw [cut_m1] at e7
    have hq := (Rps.cons h1 hvs1).take ((v1 :: vs).length - 1)
    have e8 : (V.str wd :: v1 :: vs).dropLast = V.str wd :: (v1 :: vs).take ((v1 :: vs).length - 1) := by rw [← List.dropLast_eq_take] <;> rfl
    rw [e8] at e7
    refine k _ _ H7 (KS.bad (n := n + 5) (r := (x0 :: r').take ((v1 :: vs).length - 1)) (by rw [List.length_take]; omega) (fun y hy => dep y (List.mem_of_mem_take hy)) (by rw [hp.len, List.length_take, hvs0.len]; intro z; have z := Option.some.inj z; simp at z; omega)) (.tup e7 (.cons (.str _) (Rps.mono g7.tu hq))) (g2.trans g7.any) (I.new g7).P
  walk_at "w"
  refine i_I (fun _ => ?_) (fun _ => ?_)
  · walk_at "w"
    exact Gk.ansP (es := [.ref t]) I ⟨⟨_, _, rfl, hv, hks⟩, rfl⟩ fun v' d' H3 hd' hv' g3 I3 => k v' d' H3 (KS.mono hd' (by omega)) hv' (g2.trans g3) I3.P
  walk_at "w"
  refine i_I (fun _ => ?_) (fun _ => ?_)
  · walk_at "w"
    refine fresh_ans I I.L.en (by have := I.L.ok.n3; omega) fun y H3 hy g3 I3 => ?_
    walk_at "w"
    exact k_dat I3 (g2.trans g3) (.cons (.str _) (.cons (.str _) (.cons .non .nil))) (KS.mono (Sm.ks (n := n) ⟨_, _, rfl, .do_ y .non .non⟩) (by omega)) k
  walk_at "w"
  refine i_I (fun _ => ?_) (fun _ => ?_)
  · walk_at "w"
    exact Gk.ans (es := [.ref t]) I ⟨⟨_, _, rfl, hv, hd⟩, rfl⟩ fun v' d' H3 hd' hv' g3 I3 => k v' d' H3 (KS.mono hd' (by omega)) hv' (g2.trans g3) I3.P
  walk_at "w"
  refine r_cut (fun σ' H' => σ' = [some (.ref w.p), some (.ref w.a), some (.ref t), some (.int way), some (.ref q), none, none] ∧ H' = H2) ?_ ?_
  · walk_at "w"
    refine i_I (fun _ => ?_) (fun _ => ?_)
    · walk_at "w"
      refine i_d (fun _ => ?_) (fun _ => ?_)
      · walk_at "w"
        refine draw_ans I (by decide) (by decide) fun r1 H3 a0 a1 g3 I3 => ?_
        walk_at "w"
        refine draw_ans I3 (by decide) (by decide) fun r2 H4 b0 b1 g4 I4 => ?_
        have eq4 := (g3.tu.trans g4.tu) _ _ eq
        have hv4 := (hv.mono g3.tu).mono g4.tu
        walk_at "w"
        refine i_I (fun _ => ?_) (fun _ => ?_)
        · walk_at "w"
          refine k_tup (by show 0 ≤ sizeLine; decide) fun q1 H5 g5 e5 => ?_
          walk_at "w"
          refine k_tup (by show 1 ≤ sizeLine; decide) fun q2 H6 g6 e6 => ?_
          walk_at "w"
          exact k_dat ((I4.new g5).new g6) ((((g2.trans g3).trans g4).trans g5.any).trans g6.any) (.cons (.str _) (.cons (.str _) (.cons (.int _) (.cons (.tup (g6.tu _ _ e5) .nil) (.cons (.tup e6 (.cons ((hv4.mono g5.tu).mono g6.tu) .nil)) .nil))))) (KS.mono (Sm.ks (n := n + 1) ⟨_, _, rfl, .when_ x _ _ _ kb0 (kb1 hks)⟩) (by omega)) k
        · walk_at "w"
          refine k_lst (by show 3 ≤ sizeLine; decide) fun q1 H5 hq g5 e5 => ?_
          walk_at "w"
          refine draw_ans (I4.new g5) (by decide) (by decide) fun r3 H6 c0 c1 g6 I6 => ?_
          refine r_ixA (g6.keep _ _ e5 (by simpa using (I4.P.fresh hq).2)) c0 c1 fun u hu => ?_
          obtain ⟨i, rfl⟩ := isI_of rfl hu
          walk_at "w"
          exact k_dat I6 ((((g2.trans g3).trans g4).trans g5.any).trans g6) (.cons (.str _) (.cons (.str _) (.cons (.int _) .nil))) (KS.mono (Sm.ks (n := n) ⟨_, _, rfl, .set x i⟩) (by omega)) k
      · walk_at "w"
        exact ⟨rfl, rfl⟩
    · walk_at "w"
      exact ⟨rfl, rfl⟩
  rintro σ' H3' ⟨rfl, e2⟩
  subst e2
  walk_at "w"
  refine i_I (fun _ => ?_) (fun _ => ?_)
  · walk_at "w"
    exact Gk.ansP (es := [.ref t]) I ⟨⟨_, _, rfl, hv, hd⟩, rfl⟩ fun v' d' H3 hd' hv' g3 I3 => k v' d' H3 (KS.mono hd' (by omega)) hv' (g2.trans g3) I3.P
  walk_at "w"
  refine i_I (fun _ => ?_) (fun _ => ?_)
  · walk_at "w"
    refine k_lst (by show 4 ≤ sizeLine; decide) fun q1 H5 hq g5 e5 => ?_
    walk_at "w"
    refine draw_ans (I.new g5) (by decide) (by decide) fun r3 H6 c0 c1 g6 I6 => ?_
    refine r_ixA (g6.keep _ _ e5 (by simpa using (I.P.fresh hq).2)) c0 c1 fun u hu => ?_
    obtain ⟨i, rfl⟩ := isI_of rfl hu
    walk_at "w"
    exact Gk.ans (es := [.int i]) I6 ⟨⟨_, _, rfl, .int i, .int i, fun z => by cases z⟩, rfl⟩ fun v' d' H7 hd' hv' g7 I7 => k v' d' H7 (KS.mono (Sm.ks (n := n) (hd' _)) (by omega)) hv' (((g2.trans g5.any).trans g6).trans g7) I7.P
  walk_at "w"
  refine r_cut (fun σ' H' => σ' = [some (.ref w.p), some (.ref w.a), some (.ref t), some (.int way), some (.ref q), none, none] ∧ H' = H3') ?_ ?_
  · walk_at "w"
    refine i_I (fun _ => ?_) (fun _ => ?_)
    · walk_at "w"
      refine i_d (fun _ => ?_) (fun _ => ?_)
      · walk_at "w"
        refine k_lst (by show 3 ≤ sizeLine; decide) fun q1 H5 hq g5 e5 => ?_
        walk_at "w"
        refine draw_ans (I.new g5) (by decide) (by decide) fun r3 H6 c0 c1 g6 I6 => ?_
        refine r_ixA (g6.keep _ _ e5 (by simpa using (I.P.fresh hq).2)) c0 c1 fun u hu => ?_
        obtain ⟨y, rfl⟩ := isS_of rfl hu
        have eq6 := (g5.tu.trans g6.tu) _ _ eq
        walk_at "w"
        refine k_tup (by show 2 ≤ sizeLine; decide) fun q2 H7 g7 e7 => ?_
        walk_at "w"
        exact Gk.ans (es := [.ref q2]) (I6.new g7) ⟨⟨_, _, rfl, .tup e7 (.cons (.str _) (.cons (.str _) .nil)), .pair _ _, fun z => by cases z⟩, rfl⟩ fun v' d' H8 hd' hv' g8 I8 => k v' d' H8 (KS.mono (Sm.ks (n := n) (hd' _)) (by omega)) hv' ((((g2.trans g5.any).trans g6).trans g7.any).trans g8) I8.P
      · walk_at "w"
        exact ⟨rfl, rfl⟩
    · walk_at "w"
      exact ⟨rfl, rfl⟩
  rintro σ' H' ⟨rfl, rfl⟩
  walk_at "w"
  refine i_I (fun _ => ?_) (fun _ => ?_)
  · walk_at "w"
    refine Gk.ans (es := [.int 0]) I ⟨⟨0, rfl, by decide, by decide⟩, by decide, rfl⟩ fun va da H3 hda hva g3 I3 => ?_
    walk_at "w"
    refine ⟨va, da, rfl, hva, hda, fun m m0 m1 => ?_⟩
    walk_at "w"
    refine draw_ans I3 m0 (Int.lt_of_le_of_lt m1 (by decide)) fun r3 H4 c0 c1 g4 I4 => ?_
    walk_at "w"
    refine k_lst (by show 1 ≤ sizeLine; decide) fun q1 H5 hq g5 e5 => ?_
    walk_at "w"
    have I5 := I4.room hq g5 e5
    refine draw_ansR I5 (by decide) (by decide) fun r4 H6 _ _ g6 I6 => ?_
    walk_at "w"
    refine ⟨w, q1, va, da, r4, rfl, I6, (hva.mono g4.tu).mono (g5.tu.trans g6.tu), hda, fun v' d' H7 hd' hv' g7 I7 => ?_⟩
    have g47 : Gr [w.p] H4 H7 := Gr.forget g5.any hq (g6.trans g7)
    have I7' := I4.gr g47 I7.I.P
    walk_at "w"
    exact k_dat I7' (((g2.trans g3).trans g4).trans g47) (.cons (.str _) (.cons hv' .nil)) (KS.mono (Sm.ks (n := n) ⟨_, _, rfl, .put d' hd'⟩) (by omega)) k
  · walk_at "w"
    exact Gk.ans (es := []) I ⟨rfl, rfl⟩ fun v' d' H8 hd' hv' g8 I8 => k v' d' H8 (KS.mono (Sm.ks (n := n) (hd' _)) (by omega)) hv' (g2.trans g8) I8.P
end
end Xd

/-! text D13 -/
/-! a block rebuilt -/
namespace Xd
open PySem PySem.Spec PyProof.Rows L2
local macro_rules | `(tactic| walk_at "w1") => `(tactic| first
  | with_reducible apply r_seq
  | with_reducible apply r_asg
  | with_reducible apply r_gname
  | ((with_reducible apply r_var); exact rfl)
  | with_reducible apply r_c
  | with_reducible apply r_op
  | with_reducible apply r_I0
  | ((with_reducible apply r_eq); exact rfl)
  | ((with_reducible apply r_ne); exact rfl)
  | with_reducible apply r_if
  | with_reducible apply r_test
  | with_reducible apply r_tB
  | with_reducible apply r_bl
  | with_reducible apply r_and
  | with_reducible apply r_or
  | with_reducible apply r_not
  | with_reducible apply r_ret
  | with_reducible apply r_drop
  | with_reducible apply r_cons
  | with_reducible apply r_nil
  | with_reducible apply r_cal
  | with_reducible apply r_cb
  | with_reducible apply r_tup
  | with_reducible apply r_lst
  | with_reducible apply r_next
  | with_reducible apply r_retN
  | with_reducible apply r_un
  | with_reducible apply r_U
  | with_reducible apply r_andV
  | with_reducible apply r_orV
  | with_reducible apply r_notV
  | with_reducible apply r_ifx
  | with_reducible apply r_forT
  | with_reducible apply r_forL
  | with_reducible apply r_forR
  | with_reducible apply r_sl
  | with_reducible apply r_nop
  | with_reducible apply r_part
  | with_reducible apply r_kPart
  | with_reducible apply r_gsub
  | with_reducible apply r_int1
  | with_reducible apply r_isN
  | with_reducible apply r_notN
  | with_reducible apply r_ltStr
  | with_reducible apply r_inS
  | with_reducible apply r_niS
  | with_reducible apply r_bm
  | with_reducible apply r_forS
  | with_reducible apply r_lcL
  | with_reducible apply r_lcT
  | with_reducible apply r_m0
  | with_reducible apply r_din
  | with_reducible apply r_dnin
  | with_reducible apply r_dget
  | ((with_reducible apply r_gtup); (assumption); (exact rfl))
  | with_reducible apply r_gcons
  | with_reducible apply r_gnil
  | (with_reducible refine r_l0 (by assumption) ?_)
  | (with_reducible refine r_l2 (by assumption) ?_)
  | (with_reducible refine r_lenN (by assumption) ?_)
  | (with_reducible refine r_lenC (by assumption) ?_)
  | ((with_reducible apply r_ixT'); (assumption); (first | exact rfl | exact atI_0 | exact atI_1 | exact atI_2))
  | ((with_reducible apply r_ixL'); (assumption); (exact rfl))
  | ((with_reducible apply i_f); exact rfl)
  | ((with_reducible apply i_t); exact rfl)
  | ((with_reducible apply r_I); first | exact Or.inr ⟨by decide, by decide⟩ | exact (by decide) | assumption | exact ⟨by omega, by omega⟩ | exact (by omega) | exact ⟨by decide, by decide, by decide⟩))
local macro_rules | `(tactic| walk_at "w") => `(tactic| repeat (walk_at "w1"))

section
variable {P : List D → Prop} {w : Str} {r : List D}
theorem Prt.while_inv (p : Prt P w r) (e : w = "while") : ∃ x l, r = [.str x, .tup l] ∧ Sht x ∧ P l := by
  cases p with
  | while_ x l z a => exact ⟨x, l, rfl, z, a⟩
  | _ => exact absurd e (by decide)
theorem Prt.if_inv (p : Prt P w r) (e : w = "if") : ∃ x l m, r = [.str x, .tup l, .tup m] ∧ Sht x ∧ P l ∧ P m := by
  cases p with
  | if_ x l m z a b => exact ⟨x, l, m, rfl, z, a, b⟩
  | _ => exact absurd e (by decide)
theorem Prt.when_inv (p : Prt P w r) (e : w = "when") : ∃ x i l m, r = [.str x, .int i, .tup l, .tup m] ∧ P l ∧ P m := by
  cases p with
  | when_ x i l m a b => exact ⟨x, i, l, m, rfl, a, b⟩
  | _ => exact absurd e (by decide)
theorem Prt.plain_inv {P' : List D → Prop} (p : Prt P w r) (h1 : w ≠ "while") (h2 : w ≠ "if") (h3 : w ≠ "when") : Prt P' w r := by
  cases p with
  | do_ x v a => exact .do_ x v a
  | put a k => exact .put a k
  | set x i => exact .set x i
  | if_ x l m z a b => exact absurd rfl h2
  | while_ x l z a => exact absurd rfl h1
  | when_ x i l m a b => exact absurd rfl h3
  | ret v a n => exact .ret v a n
  | leave x z => exact .leave x z
  | raise_ x z => exact .raise_ x z
end
/-- the ways: ints -/
def Ways (H : Hp) (wd : Addr) : Prop := ∃ kvs : List (Key × V), H wd = some (.dK kvs) ∧ ∀ k v, valV kvs k = some v → ∃ i, v = .int i
def RB' : Nat → List D → Prop
  | 0, _ => False
  | n + 1, l => RB n l
def spRebuilt (n : Nat) : Sp := fun vs H Q _ => ∃ (w : Wo) (rm wd : Addr) (v : V) (l : List D), vs = [.ref w.p, .ref w.a, v, .ref rm, .ref wd] ∧ InR w rm H ∧ Ways H wd ∧ Rp H v (.tup l) ∧ RB' n l ∧ GkR w rm H (fun d => ∃ l', d = .tup l' ∧ KB (7 * n) l') Q
theorem Ways.gr {w : Wo} {rm wd : Addr} {H H' : Hp} (h : Ways H wd) (I : InR w rm H) (g : Gr [w.p, rm] H H') : Ways H' wd := by
  obtain ⟨kvs, e, q⟩ := h
  refine ⟨kvs, g.keep _ _ e ?_, q⟩
  intro z
  rcases List.mem_cons.mp z with z | z
  · obtain ⟨_, _, _, _, _, e2, _⟩ := I.I.P
    rw [← z, e] at e2
    cases e2
  · obtain ⟨_, e2⟩ := I.e
    rw [← List.mem_singleton.mp z, e] at e2
    cases e2
theorem sc__law_rebuilt : FnScope ["_law_pool_here", "_law_lore_here", "_law_block_here", "_law_spot", "_law_ways", "_law_rows", "_law_statement_here", "_law_mine", "_law_inner"] ["_law_pool_here", "_law_lore_here", "_law_block_here", "_law_spot", "_law_ways"] (defScope s__law_rebuilt) := ⟨rfl, rfl, rfl, by decide +kernel, rfl, by decide +kernel, by decide +kernel⟩
section
variable {G : Ctx}
theorem k__law_rebuilt (T : Txt G) (c__law_changed : ∀ m, Cal G 10 (He.ga G.K "_law_changed") (spChanged m) []) : ∀ n : Nat, Cal G (n + 11) (He.ga G.K "_law_rebuilt") (spRebuilt n) []
  | 0 => cal_never T.f__law_rebuilt sc__law_rebuilt (fun _ _ _ _ _ _ us hl => match us, hl with | [_, _, _, _, _], _ => rfl) fun vs H Q E ⟨_, _, _, _, _, _, _, _, _, h, _⟩ => h
  | n + 1 => by
    have c__law_rebuilt := k__law_rebuilt T c__law_changed n
    have c__law_changed := c__law_changed (7 * n)
    refine cal_of (k := n + 11) T.f__law_rebuilt sc__law_rebuilt (fun _ _ _ _ _ _ us hl => match us, hl with | [_, _, _, _, _], _ => rfl) (fun vs H Q E h => ?_) (fun cdv A outer s H vs Q E hr h => ⟨_, ((pss_cons (ps_set (i := 5) sc__law_rebuilt.nd rfl (Or.inl rfl) (pe_tup pa_nil))
    (pss_cons (ps_for (passes_of rfl) rfl (pi_tup (pv 2)) (pg_name (i := 6) sc__law_rebuilt.nd rfl (Or.inl rfl))
    (pss_cons (ps_set (i := 7) sc__law_rebuilt.nd rfl (Or.inl rfl) (pe_ix ix_list (pv 3) pe_int (fun _ _ => rfl)))
    (pss_cons (ps_asg (pe_op op_add (pe_ix ix_list (pv 3) pe_int (fun _ _ => rfl)) pe_int) (pg_sub (pv 3) pe_int set_list))
    (Evl.pss_cut (ps_if (pt_cmpR op_eq (pe_ix ix_tup (pv 6) pe_int (fun _ _ => rfl)) pe_str (nomark _)) (pss_one (ps_set (i := 6) sc__law_rebuilt.nd rfl (Or.inl rfl) (pe_op op_catA (pe_slice sl_tupA (pv 6) po_none (po_some pe_int)) (pe_tup (pa_cons (pe_cal c__law_rebuilt T.g__law_rebuilt hr (by omega) (takes_of rfl rfl rfl rfl) (fun _ _ _ _ h => h) rfl (pa_cons (pv 0) (pa_cons (pv 1) (pa_cons (pe_ix ix_tup (pv 6) pe_int (fun _ _ => rfl)) (pa_cons (pv 3) (pa_cons (pv 4) pa_nil)))))) pa_nil))))) (pss_one (ps_if (PW.pt (pw_or (pt_cmpR op_eq (pe_ix ix_tup (pv 6) pe_int (fun _ _ => rfl)) pe_str (nomark _)) (pw_or1 (pt_cmpR op_eq (pe_ix ix_tup (pv 6) pe_int (fun _ _ => rfl)) pe_str (nomark _))))) (pss_cons (ps_set (i := 8) sc__law_rebuilt.nd rfl (Or.inl rfl) (pe_cal c__law_rebuilt T.g__law_rebuilt hr (by omega) (takes_of rfl rfl rfl rfl) (fun _ _ _ _ h => h) rfl (pa_cons (pv 0) (pa_cons (pv 1) (pa_cons (pe_ix ix_tup (pv 6) (pe_un un_neg pe_int) (fun _ _ => rfl)) (pa_cons (pv 3) (pa_cons (pv 4) pa_nil)))))))
    (pss_one (ps_set (i := 6) sc__law_rebuilt.nd rfl (Or.inl rfl) (pe_op op_catA (pe_slice sl_tupA (pv 6) po_none (po_some (pe_un un_neg pe_int))) (pe_tup (pa_cons (pv 8) (pa_cons (pe_cal c__law_rebuilt T.g__law_rebuilt hr (by omega) (takes_of rfl rfl rfl rfl) (fun _ _ _ _ h => h) rfl (pa_cons (pv 0) (pa_cons (pv 1) (pa_cons (pe_ix ix_tup (pv 6) (pe_un un_neg pe_int) (fun _ _ => rfl)) (pa_cons (pv 3) (pa_cons (pv 4) pa_nil)))))) pa_nil))))))) pss_nil)))
    (Evl.pss_cut (ps_if (pt_cmp (pc_din (hu_of hr) (pv 7) (pv 4))) (pss_one (ps_set (i := 6) sc__law_rebuilt.nd rfl (Or.inl rfl) (pe_cal c__law_changed T.g__law_changed hr (by omega) (takes_of rfl rfl rfl rfl) (fun _ _ _ _ h => h) rfl (pa_cons (pv 0) (pa_cons (pv 1) (pa_cons (pv 6) (pa_cons (pe_dget (hu_of hr) (pv 4) (pv 7) (fun _ _ => rfl)) pa_nil))))))) pss_nil)
    (pss_one (ps_set (i := 5) sc__law_rebuilt.nd rfl (Or.inl rfl) (pe_op op_catA (pv 5) (pe_tup (pa_cons (pv 6) pa_nil))))))))))
    (pss_one (ps_ret (pv 5)))))), ?_⟩)
    · obtain ⟨w, rm, wd, v, l, rfl, _⟩ := h
      rfl
    obtain ⟨w, rm, wd, v, l, rfl, I, W, hv, hl, k⟩ := h
    obtain ⟨t, vs, rfl, et, hvs⟩ := hv.tup_of
    have vl := hvs.len
    walk_at "w"
    refine k_tup (by show 0 ≤ sizeLine; decide) fun q0 H1 g1 e1 => ?_
    walk_at "w"
    refine k_forT (SqT.of (g1.tu _ _ et)) (fun i σ' H' => ∃ (q : Addr) (o1 o2 o3 : Option V) (ws : List V) (es : List D), σ' = [some (.ref w.p), some (.ref w.a), some (.ref t), some (.ref rm), some (.ref wd), some (.ref q), o1, o2, o3] ∧ H' q = some (.tup ws) ∧ Rps H' ws es ∧ es.length = i ∧ (∀ y ∈ es, KS (7 * n + 7) y) ∧ Gr [w.p, rm] H H' ∧ InR w rm H')
      ⟨q0, none, none, none, [], [], rfl, e1, .nil, rfl, fun _ z => (nomatch z), g1.any, I.new g1⟩ (fun i σ' H' hi ⟨_, _, _, _, _, _, _, _, _, _, _, g', _⟩ => SqT.of (g'.tu _ _ et)) ?_ ?_
    · rintro i x σ2 H2 hx ⟨q, o1, o2, o3, ws, es, rfl, eq, hw, he, hk, g2, I2⟩
      obtain ⟨d, hd, rd⟩ := hvs.get hx
      have hil : i < l.length := (List.getElem?_eq_some_iff.mp hd).1
      have hd0 := hl.2 d (List.mem_of_getElem? hd)
      obtain ⟨m, rfl⟩ : ∃ m, n = m + 1 := by
        cases n with
        | zero => exact hd0.elim
        | succ m => exact ⟨m, rfl⟩
      obtain ⟨wo, r, rfl, hp⟩ := hd0
      have rd2 := rd.mono g2.tu
      obtain ⟨ts, us, rfl, ets, hus⟩ := rd2.tup_of
      obtain ⟨u0, us, rfl, h0, hus0⟩ := hus.cons_of
      cases h0
      obtain ⟨z, ez⟩ := I2.e
      walk_at "w"
      refine r_setL (k := 0) ez rfl ?_
      obtain ⟨g3, I3⟩ := I2.set (z + 1)
      have e3 : (upd H2 rm (.lst (([V.int z] : List V).set 0 (.int (z + 1))))) = upd H2 rm (.lst [.int (z + 1)]) := rfl
      rw [e3]
      generalize upd H2 rm (.lst [.int (z + 1)]) = H3 at g3 I3 ⊢
      have ets3 := g3.tu _ _ ets
      have hus3 := Rps.mono g3.tu hus0
      have W3 := (W.gr I g2).gr I2 g3
      refine r_cut (fun σ' H' => ∃ (v : V) (d : D) (o3 : Option V), σ' = [some (.ref w.p), some (.ref w.a), some (.ref t), some (.ref rm), some (.ref wd), some (.ref q), some v, some (.int z), o3] ∧ Rp H' v d ∧ Sm (KB (7 * (m + 1))) d ∧ Gr [w.p, rm] H3 H' ∧ InR w rm H' ∧ Ways H' wd) ?_ ?_
      · have rec_ : ∀ (b : V) (lb : List D) (H5 : Hp) (R : VK), InR w rm H5 → Ways H5 wd → Rp H5 b (.tup lb) → RB m lb → (∀ v' l' H6, KB (7 * (m + 1)) l' → Rp H6 v' (.tup l') → Gr [w.p, rm] H5 H6 → InR w rm H6 → Ways H6 wd → R v' H6) → spRebuilt (m + 1) [.ref w.p, .ref w.a, b, .ref rm, .ref wd] H5 R E :=
          fun b lb H5 R I5 W5 hb hlb kk => ⟨w, rm, wd, b, lb, rfl, I5, W5, hb, hlb, fun v' d' H6 ⟨l', e', hl'⟩ hv' g6 I6 => kk v' l' H6 hl' (by rw [← e']; exact hv') g6 I6 (W5.gr I5 g6)⟩
        walk_at "w"
        refine i_S (fun hw => ?_) (fun hw1 => ?_)
        · obtain ⟨x, lb, rfl, hx, hlb⟩ := hp.while_inv hw
          subst hw
          obtain ⟨u1, us, rfl, r1, hz0⟩ := hus3.cons_of
          cases r1
          obtain ⟨u2, us, rfl, r2, hz1⟩ := hz0.cons_of
          cases hz1.nil_of
          walk_at "w"
          refine r_slT ets3 fun q4 H4 g4 e4 => ?_
          have ets4 := g4.tu _ _ ets3
          walk_at "w"
          refine rec_ _ lb H4 _ (I3.new g4) (W3.gr I3 g4.any) (r2.mono g4.tu) hlb fun v' l' H5 hl' hv' g5 I5 W5 => ?_
          walk_at "w"
          refine k_tup (by show 1 ≤ sizeLine; decide) fun q5 H6 g6 e6 => ?_
          have e4' : H4 q4 = some (.tup [.str "while", .str x]) := e4
          refine r_cat ((g5.tu.trans g6.tu) _ _ e4') e6 (by show 3 ≤ sizeLine; decide) fun q7 H7 g7 e7 => ?_
          walk_at "w"
          exact ⟨_, _, _, rfl, .tup e7 (.cons (.str _) (.cons (.str _) (.cons (hv'.mono (g6.tu.trans g7.tu)) .nil))), ⟨_, _, rfl, .while_ x l' hx hl'⟩, ((g4.any.trans g5).trans g6.any).trans g7.any, (I5.new g6).new g7, ((W5.gr I5 g6.any).gr (I5.new g6) g7.any)⟩
        walk_at "w"
        refine i_S (fun hw => ?_) (fun hw2 => ?_)
        · obtain ⟨x, lb, mb, rfl, hx, hlb, hmb⟩ := hp.if_inv hw
          subst hw
          obtain ⟨u1, us, rfl, r1, hz0⟩ := hus3.cons_of
          cases r1
          obtain ⟨u2, us, rfl, r2, hz1⟩ := hz0.cons_of
          obtain ⟨u3, us, rfl, r3, hz2⟩ := hz1.cons_of
          cases hz2.nil_of
          walk_at "w"
          refine rec_ _ lb H3 _ I3 W3 r2 hlb fun v1 l1 H4 hl1 hv1 g4 I4 W4 => ?_
          walk_at "w"
          refine r_slT (g4.tu _ _ ets3) fun q4 H5 g5 e5 => ?_
          have e5' : H5 q4 = some (.tup [.str "if", .str x]) := e5
          have ets5 := (g4.tu.trans g5.tu) _ _ ets3
          walk_at "w"
          refine rec_ _ mb H5 _ (I4.new g5) (W4.gr I4 g5.any) (r3.mono (g4.tu.trans g5.tu)) hmb fun v2 l2 H6 hl2 hv2 g6 I6 W6 => ?_
          walk_at "w"
          refine k_tup (by show 2 ≤ sizeLine; decide) fun q5 H7 g7 e7 => ?_
          refine r_cat ((g6.tu.trans g7.tu) _ _ e5') e7 (sz1 (by simp)) fun q8 H8 g8 e8 => ?_
          walk_at "w"
          exact ⟨_, _, _, rfl, .tup e8 (.cons (.str _) (.cons (.str _) (.cons (hv1.mono (((g5.tu.trans g6.tu).trans g7.tu).trans g8.tu)) (.cons (hv2.mono (g7.tu.trans g8.tu)) .nil)))), ⟨_, _, rfl, .if_ x l1 l2 hx hl1 hl2⟩, (((g4.trans g5.any).trans g6).trans g7.any).trans g8.any, (I6.new g7).new g8, (W6.gr I6 g7.any).gr (I6.new g7) g8.any⟩
        walk_at "w"
        refine i_S (fun hw => ?_) (fun hw3 => ?_)
        · obtain ⟨x, iz, lb, mb, rfl, hlb, hmb⟩ := hp.when_inv hw
          subst hw
          obtain ⟨u1, us, rfl, r1, hz0⟩ := hus3.cons_of
          cases r1
          obtain ⟨u2, us, rfl, r2, hz1⟩ := hz0.cons_of
          cases r2
          obtain ⟨u3, us, rfl, r2, hz2⟩ := hz1.cons_of
          obtain ⟨u4, us, rfl, r3, hz3⟩ := hz2.cons_of
          cases hz3.nil_of
          walk_at "w"
          refine rec_ _ lb H3 _ I3 W3 r2 hlb fun v1 l1 H4 hl1 hv1 g4 I4 W4 => ?_
          walk_at "w"
          refine r_slT (g4.tu _ _ ets3) fun q4 H5 g5 e5 => ?_
          have e5' : H5 q4 = some (.tup [.str "when", .str x, .int iz]) := e5
          have ets5 := (g4.tu.trans g5.tu) _ _ ets3
          walk_at "w"
          refine rec_ _ mb H5 _ (I4.new g5) (W4.gr I4 g5.any) (r3.mono (g4.tu.trans g5.tu)) hmb fun v2 l2 H6 hl2 hv2 g6 I6 W6 => ?_
          walk_at "w"
          refine k_tup (by show 2 ≤ sizeLine; decide) fun q5 H7 g7 e7 => ?_
          refine r_cat ((g6.tu.trans g7.tu) _ _ e5') e7 (sz1 (by simp)) fun q8 H8 g8 e8 => ?_
          walk_at "w"
          exact ⟨_, _, _, rfl, .tup e8 (.cons (.str _) (.cons (.str _) (.cons (.int _) (.cons (hv1.mono (((g5.tu.trans g6.tu).trans g7.tu).trans g8.tu)) (.cons (hv2.mono (g7.tu.trans g8.tu)) .nil))))), ⟨_, _, rfl, .when_ x iz l1 l2 hl1 hl2⟩, (((g4.trans g5.any).trans g6).trans g7.any).trans g8.any, (I6.new g7).new g8, (W6.gr I6 g7.any).gr (I6.new g7) g8.any⟩
        · walk_at "w"
          exact ⟨_, _, _, rfl, .tup ets3 (.cons (.str _) hus3), ⟨_, _, rfl, hp.plain_inv hw1 hw2 hw3⟩, Gr.refl, I3, W3⟩
      rintro σ4 H4 ⟨v, d, o3, rfl, hv4, hd4, g4, I4, W4⟩
      refine r_cut (fun σ' H' => ∃ (v : V) (d : D) (o3 : Option V), σ' = [some (.ref w.p), some (.ref w.a), some (.ref t), some (.ref rm), some (.ref wd), some (.ref q), some v, some (.int z), o3] ∧ Rp H' v d ∧ KS (7 * (m + 1) + 7) d ∧ Gr [w.p, rm] H4 H' ∧ InR w rm H') ?_ ?_
      · obtain ⟨kvs, ew, hkv⟩ := W4
        walk_at "w"
        refine k_din (k := .inl z) ew ?_
        walk_at "w"
        refine i_2 (fun hs => ?_) (fun _ => ?_)
        · obtain ⟨u, hu⟩ := Option.isSome_iff_exists.mp hs
          obtain ⟨i', rfl⟩ := hkv _ _ hu
          walk_at "w"
          refine k_dget (k := .inl z) ew hu ?_
          walk_at "w"
          refine Gk.ansR (es := [v, .int i']) I4 ⟨⟨_, _, _, rfl, hv4, hd4⟩, rfl⟩ fun v' d' H5 hd' hv' g5 I5 => ?_
          walk_at "w"
          exact ⟨v', d', o3, rfl, hv', KS.mono hd' (by omega), g5, I5⟩
        · walk_at "w"
          exact ⟨v, d, o3, rfl, hv4, KS.mono hd4.ks (by omega), Gr.refl, I4⟩
      rintro σ5 H5 ⟨v, d, o3, rfl, hv5, hd5, g5, I5⟩
      walk_at "w"
      refine k_tup (by show 1 ≤ sizeLine; decide) fun q2 H6 g6 e6 => ?_
      have g26 := (((g3.trans g4).trans g5).trans (g6.any (M := [w.p, rm])))
      refine r_cat (g26.tu _ _ eq) e6 (by rw [sizeLine_eq, hw.len]; have := hl.1; show es.length + 1 ≤ _; omega) fun q3 H7 g7 e7 => ?_
      walk_at "w"
      refine ⟨q3, some v, some (.int z), o3, _, es ++ [d], rfl, e7, ((Rps.mono g26.tu hw).append (.cons (hv5.mono g6.tu) .nil)).mono g7.tu, by rw [List.length_append, he] <;> rfl, fun y hy => ?_, (g2.trans g26).trans g7.any, (I5.new g6).new g7⟩
      rcases mem_snoc hy with z | z
      · exact hk y z
      · rw [z]; exact hd5
    · rintro σ2 H2 ⟨q, o1, o2, o3, ws, es, rfl, eq, hw, he, hk, g2, I2⟩
      walk_at "w"
      have e9 : 7 * (n + 1) = 7 * n + 7 := by omega
      exact k _ _ H2 ⟨es, rfl, by have := hl.1; omega, by rw [e9]; exact hk⟩ (.tup eq hw) g2 I2
end
end Xd

/-! text D14 -/
/-! the law's reading of statements: lengths, blocks, names -/
namespace Xd
open PySem PySem.Spec PyProof.Rows L2
local macro_rules | `(tactic| walk_at "w1") => `(tactic| first
  | with_reducible apply r_seq
  | with_reducible apply r_asg
  | with_reducible apply r_gname
  | ((with_reducible apply r_var); exact rfl)
  | with_reducible apply r_c
  | with_reducible apply r_op
  | with_reducible apply r_I0
  | ((with_reducible apply r_eq); exact rfl)
  | ((with_reducible apply r_ne); exact rfl)
  | with_reducible apply r_if
  | with_reducible apply r_test
  | with_reducible apply r_tB
  | with_reducible apply r_bl
  | with_reducible apply r_and
  | with_reducible apply r_or
  | with_reducible apply r_not
  | with_reducible apply r_ret
  | with_reducible apply r_drop
  | with_reducible apply r_cons
  | with_reducible apply r_nil
  | with_reducible apply r_cal
  | with_reducible apply r_cb
  | with_reducible apply r_tup
  | with_reducible apply r_lst
  | with_reducible apply r_next
  | with_reducible apply r_retN
  | with_reducible apply r_un
  | with_reducible apply r_U
  | with_reducible apply r_andV
  | with_reducible apply r_orV
  | with_reducible apply r_notV
  | with_reducible apply r_ifx
  | with_reducible apply r_forT
  | with_reducible apply r_forL
  | with_reducible apply r_forR
  | with_reducible apply r_sl
  | with_reducible apply r_nop
  | with_reducible apply r_part
  | with_reducible apply r_kPart
  | with_reducible apply r_gsub
  | with_reducible apply r_int1
  | with_reducible apply r_isN
  | with_reducible apply r_notN
  | with_reducible apply r_ltStr
  | with_reducible apply r_inS
  | with_reducible apply r_niS
  | with_reducible apply r_bm
  | with_reducible apply r_forS
  | with_reducible apply r_lcL
  | with_reducible apply r_lcT
  | with_reducible apply r_m0
  | with_reducible apply r_din
  | with_reducible apply r_dnin
  | with_reducible apply r_dget
  | ((with_reducible apply r_gtup); (assumption); (exact rfl))
  | with_reducible apply r_gcons
  | with_reducible apply r_gnil
  | (with_reducible refine r_lo0 (by assumption) ?_)
  | (with_reducible refine r_lo2 (by assumption) ?_)
  | (with_reducible refine r_isi_non (b := true) (by decide +kernel) ?_)
  | (with_reducible refine r_isi_int (b := true) (by decide +kernel) ?_)
  | (with_reducible refine r_isi_str (b := true) (by decide +kernel) ?_)
  | ((with_reducible apply r_isi_tup (b := true)); (assumption); (exact (by decide +kernel)))
  | ((with_reducible apply r_isi_lst (b := true)); (assumption); (exact (by decide +kernel)))
  | (with_reducible refine r_isi_non (b := false) (by decide +kernel) ?_)
  | (with_reducible refine r_isi_int (b := false) (by decide +kernel) ?_)
  | (with_reducible refine r_isi_str (b := false) (by decide +kernel) ?_)
  | ((with_reducible apply r_isi_tup (b := false)); (assumption); (exact (by decide +kernel)))
  | ((with_reducible apply r_isi_lst (b := false)); (assumption); (exact (by decide +kernel)))
  | (with_reducible refine r_l0 (by assumption) ?_)
  | (with_reducible refine r_l2 (by assumption) ?_)
  | (with_reducible refine r_lenN (by assumption) ?_)
  | (with_reducible refine r_lenC (by assumption) ?_)
  | ((with_reducible apply r_ixT'); (assumption); (first | exact rfl | exact atI_0 | exact atI_1 | exact atI_2))
  | ((with_reducible apply r_ixL'); (assumption); (exact rfl))
  | ((with_reducible apply i_f); exact rfl)
  | ((with_reducible apply i_t); exact rfl)
  | ((with_reducible apply r_I); first | exact Or.inr ⟨by decide, by decide⟩ | exact (by decide) | assumption | exact ⟨by omega, by omega⟩ | exact (by omega) | exact ⟨by decide, by decide, by decide⟩))
local macro_rules | `(tactic| walk_at "w") => `(tactic| repeat (walk_at "w1"))

/-- the lore, read only -/
abbrev Lo (w : Wo) (H : Hp) : Prop := LoreE [] H w.a w.an w.ak w.ap w.us w.N w.C
theorem LoreE.lo {w : Wo} {M : List Addr} {H : Hp} (L : LoreE M H w.a w.an w.ak w.ap w.us w.N w.C) : Lo w H := L.less fun x z => nomatch z
theorem Lo.gr {w : Wo} {H H' : Hp} (L : Lo w H) (g : Gr [] H H') : Lo w H' := LoreE.gr L g
def tyD : D → String
  | .non => "NoneType"
  | .int _ => "int"
  | .str _ => "str"
  | .tup _ => "tuple"
theorem Rp.ty {K : PySem.W.Frag} {H : Hp} {v : V} {d : D} (h : Rp H v d) : TyX K H v (.type (tyD d)) := by
  cases h with
  | non => exact .base .non
  | int i => exact .base (.int i)
  | str x => exact .base (.str x)
  | tup e r => exact .base (.tup e)
section
variable {w : Wo} {H : Hp} {K : PySem.W.Frag} {Q : VK} {a : Addr}
theorem r_isD {T : String} {v : V} {d : D} {b : Bool} (hv : Rp H v d) (hk : PySem.W.kitOne K (.type (tyD d)) (.type T) = some b) (h : Q (.bl b) H) : rIsi K [v, .ty T] H Q := ⟨v, .ty T, _, _, b, rfl, .ty T, hv.ty, hk, h⟩
theorem r_isi_non {T : String} {b : Bool} (hk : kitB "NoneType" T = some b) (h : Q (.bl b) H) : rIsi K [.non, .ty T] H Q := ⟨.non, .ty T, _, _, b, rfl, .ty T, .base .non, kit_ty hk, h⟩
theorem r_isi_int {T : String} {b : Bool} {i : Int} (hk : kitB "int" T = some b) (h : Q (.bl b) H) : rIsi K [.int i, .ty T] H Q := ⟨.int i, .ty T, _, _, b, rfl, .ty T, .base (.int i), kit_ty hk, h⟩
theorem r_isi_str {T : String} {b : Bool} {x : Str} (hk : kitB "str" T = some b) (h : Q (.bl b) H) : rIsi K [.str x, .ty T] H Q := ⟨.str x, .ty T, _, _, b, rfl, .ty T, .base (.str x), kit_ty hk, h⟩
theorem r_isi_tup {T : String} {b : Bool} {xs : List V} (e : H a = some (.tup xs)) (hk : kitB "tuple" T = some b) (h : Q (.bl b) H) : rIsi K [.ref a, .ty T] H Q := ⟨.ref a, .ty T, _, _, b, rfl, .ty T, .base (.tup e), kit_ty hk, h⟩
theorem r_isi_lst {T : String} {b : Bool} {xs : List V} (e : H a = some (.lst xs)) (hk : kitB "list" T = some b) (h : Q (.bl b) H) : rIsi K [.ref a, .ty T] H Q := ⟨.ref a, .ty T, _, _, b, rfl, .ty T, .base (.lst e), kit_ty hk, h⟩
theorem r_lo0 (L : Lo w H) (k : Q (.ref w.an) H) : rIxL K (.ref w.a) (.int 0) H Q := r_ixL (SqL.of L.e) rfl k
theorem r_lo2 (L : Lo w H) (k : Q (.ref w.ap) H) : rIxL K (.ref w.a) (.int 2) H Q := r_ixL (SqL.of L.e) rfl k
theorem r_inStrT {us : List Str} {x : Str} {neg : Bool} (e : H a = some (.tup (us.map V.str))) (h : Q (.bl (if neg then !decide (x ∈ us) else decide (x ∈ us))) H) : rIn K neg (.str x) (.ref a) H Q :=
  r_inL (.inr (SqT.of e)) rfl (flat_strs us) (by rw [inV_str]; exact h)
theorem r_inStrL {us : List Str} {x : Str} {neg : Bool} (e : H a = some (.lst (us.map V.str))) (h : Q (.bl (if neg then !decide (x ∈ us) else decide (x ∈ us))) H) : rIn K neg (.str x) (.ref a) H Q :=
  r_inL (.inl (SqL.of e)) rfl (flat_strs us) (by rw [inV_str]; exact h)
end
/-- the table of lengths -/
abbrev LK : List (Key × V) := [(.inr "do", .int 3), (.inr "put", .int 2), (.inr "set", .int 3), (.inr "if", .int 4), (.inr "while", .int 3), (.inr "when", .int 5), (.inr "return", .int 2), (.inr "leave", .int 2), (.inr "raise", .int 2)]
theorem LK_get (w : Str) : valV LK (.inr w) = (lenOf w).map V.int := by
  unfold lenOf
  have pos : ∀ (x : Str) (v : V) (r : List (Key × V)), w = x → valV ((.inr x, v) :: r) (.inr w) = some v := fun x v r e => valV_pos (by rw [e])
  have neg : ∀ (x : Str) (v : V) (r : List (Key × V)), ¬ w = x → valV ((.inr x, v) :: r) (.inr w) = valV r (.inr w) := fun x v r e => valV_neg fun z => e (Sum.inr.inj z).symm
  split
  · rename_i e; exact pos _ _ _ e
  rename_i e; rw [neg _ _ _ e]; clear e
  split
  · rename_i e; exact pos _ _ _ e
  rename_i e; rw [neg _ _ _ e]; clear e
  split
  · rename_i e; exact pos _ _ _ e
  rename_i e; rw [neg _ _ _ e]; clear e
  split
  · rename_i e; exact pos _ _ _ e
  rename_i e; rw [neg _ _ _ e]; clear e
  split
  · rename_i e; exact pos _ _ _ e
  rename_i e; rw [neg _ _ _ e]; clear e
  split
  · rename_i e; exact pos _ _ _ e
  rename_i e; rw [neg _ _ _ e]; clear e
  split
  · rename_i e; exact pos _ _ _ e
  rename_i e; rw [neg _ _ _ e]; clear e
  split
  · rename_i e; exact pos _ _ _ e
  rename_i e; rw [neg _ _ _ e]; clear e
  split
  · rename_i e; exact pos _ _ _ e
  rename_i e; rw [neg _ _ _ e]
  rfl
def spLengths : Sp := fun vs H Q _ => vs = [] ∧ ∀ q H', Gr [] H H' → H' q = some (.dK LK) → Q (.ref q) H'
def spBlocks (P : List D → Prop) : Sp := fun vs H Q _ => ∃ v w r, vs = [v] ∧ Rp H v (.tup (.str w :: r)) ∧ Prt P w r ∧ ∀ q us H', Gr [] H H' → H q = none → H' q = some (.lst us) → Rps H' us ((blks w r).map D.tup) → Q (.ref q) H'
def spIsName : Sp := fun vs H Q _ => ∃ x, vs = [.str x] ∧ Sht x ∧ Q (.bl (isNm x)) H
theorem sc__law_lengths : FnScope [] [] (defScope s__law_lengths) := ⟨rfl, rfl, rfl, by decide +kernel, rfl, by decide +kernel, by decide +kernel⟩
theorem sc__law_blocks : FnScope ["_law_statement_here"] ["_law_statement_here"] (defScope s__law_blocks) := ⟨rfl, rfl, rfl, by decide +kernel, rfl, by decide +kernel, by decide +kernel⟩
theorem sc__law_is_name : FnScope ["_law_text", "_law_sign"] ["_law_text"] (defScope s__law_is_name) := ⟨rfl, rfl, rfl, by decide +kernel, rfl, by decide +kernel, by decide +kernel⟩
theorem isNm_f1 {x : Str} (h : x.length < 1) : isNm x = false := by
  cases e : isNm x with
  | false => rfl
  | true =>
    obtain ⟨c, r, e1, _⟩ := isNm_to e
    rw [len_l, e1, List.length_cons] at h
    omega
theorem isNm_f2 {x : Str} (h : 12 < x.length) : isNm x = false := by
  cases e : isNm x with
  | false => rfl
  | true => have := isNm_len e; omega
theorem isNm_f3 {x : Str} {c : Nat} {r : List Nat} (e : x.cps.toList = c :: r) (h : c ∉ letL) : isNm x = false := by
  cases e1 : isNm x with
  | false => rfl
  | true =>
    obtain ⟨c', r', e2, _, h2, _⟩ := isNm_to e1
    rw [e] at e2
    obtain ⟨rfl, _⟩ := List.cons.inj e2
    exact absurd h2 h
theorem isNm_f4 {x : Str} {d : Nat} (h : d ∈ x.cps.toList) (hd : d ∉ letL ++ digL) : isNm x = false := by
  cases e1 : isNm x with
  | false => rfl
  | true =>
    obtain ⟨c', r', e2, _, h2, h3⟩ := isNm_to e1
    rw [e2] at h
    rcases List.mem_cons.mp h with rfl | h
    · exact absurd (List.mem_append_left _ h2) hd
    · exact absurd (h3 d h) hd
section
variable {G : Ctx}
theorem k__law_lengths (T : Txt G) : Cal G 1 (He.ga G.K "_law_lengths") spLengths [] := by
  refine cal_of T.f__law_lengths sc__law_lengths (fun _ _ _ _ _ _ us hl => match us, hl with | [], _ => rfl) (fun vs H Q E h => ?_) (fun cdv A outer s H vs Q E hr h => ⟨_, ((pss_one (ps_ret (pe_disp (pps_cons pe_str pe_int (pps_cons pe_str pe_int (pps_cons pe_str pe_int (pps_cons pe_str pe_int (pps_cons pe_str pe_int (pps_cons pe_str pe_int (pps_cons pe_str pe_int (pps_cons pe_str pe_int (pps_cons pe_str pe_int pps_nil))))))))) (by rfl) (by rfl) (fun z => by cases z) (by decide))))), ?_⟩)
  · obtain ⟨rfl, _⟩ := h
    rfl
  obtain ⟨rfl, k⟩ := h
  walk_at "w"
  intro p hp
  refine ⟨upd_same, LK, rfl, by decide, ?_⟩
  refine k p _ ?_ upd_same
  rw [upd_upd]
  exact Gr.new hp
theorem k__law_blocks (T : Txt G) {P : List D → Prop} : Cal G 1 (He.ga G.K "_law_blocks") (spBlocks P) [] := by
  refine cal_of T.f__law_blocks sc__law_blocks (fun _ _ _ _ _ _ us hl => match us, hl with | [_], _ => rfl) (fun vs H Q E h => ?_) (fun cdv A outer s H vs Q E hr h => ⟨_, ((pss_cons (ps_if (PW.pt (pw_or (pt_cmpR op_eq (pe_ix ix_tup (pv 0) pe_int (fun _ _ => rfl)) pe_str (nomark _)) (pw_or1 (pt_cmpR op_eq (pe_ix ix_tup (pv 0) pe_int (fun _ _ => rfl)) pe_str (nomark _))))) (pss_one (ps_ret (pe_lst (pa_cons (pe_ix ix_tup (pv 0) (pe_un un_neg pe_int) (fun _ _ => rfl)) (pa_cons (pe_ix ix_tup (pv 0) (pe_un un_neg pe_int) (fun _ _ => rfl)) pa_nil))))) pss_nil)
    (pss_cons (ps_if (pt_cmpR op_eq (pe_ix ix_tup (pv 0) pe_int (fun _ _ => rfl)) pe_str (nomark _)) (pss_one (ps_ret (pe_lst (pa_cons (pe_ix ix_tup (pv 0) pe_int (fun _ _ => rfl)) pa_nil)))) pss_nil)
    (pss_one (ps_ret (pe_lst pa_nil)))))), ?_⟩)
  · obtain ⟨v, w, r, rfl, _⟩ := h
    rfl
  obtain ⟨v, w, r, rfl, hv, hp, k⟩ := h
  obtain ⟨t, vs, rfl, et, hz⟩ := hv.tup_of
  obtain ⟨v0, vs, rfl, h0, hz0⟩ := hz.cons_of
  cases h0
  walk_at "w"
  refine i_S (fun hw => ?_) (fun hw1 => ?_)
  · obtain ⟨x, l, m, rfl, _⟩ := hp.if_inv hw
    subst hw
    obtain ⟨u1, us, rfl, r1, hz1⟩ := hz0.cons_of
    obtain ⟨u2, us, rfl, r2, hz2⟩ := hz1.cons_of
    obtain ⟨u3, us, rfl, r3, hz3⟩ := hz2.cons_of
    cases hz3.nil_of
    walk_at "w"
    refine k_lst (by show 2 ≤ sizeLine; decide) fun q H1 hq g1 e1 => ?_
    exact k q _ H1 g1 hq e1 (.cons (r2.mono g1.tu) (.cons (r3.mono g1.tu) .nil))
  walk_at "w"
  refine i_S (fun hw => ?_) (fun hw2 => ?_)
  · obtain ⟨x, i, l, m, rfl, _⟩ := hp.when_inv hw
    subst hw
    obtain ⟨u1, us, rfl, r1, hz1⟩ := hz0.cons_of
    obtain ⟨u4, us, rfl, r4, hz4⟩ := hz1.cons_of
    obtain ⟨u2, us, rfl, r2, hz2⟩ := hz4.cons_of
    obtain ⟨u3, us, rfl, r3, hz3⟩ := hz2.cons_of
    cases hz3.nil_of
    walk_at "w"
    refine k_lst (by show 2 ≤ sizeLine; decide) fun q H1 hq g1 e1 => ?_
    exact k q _ H1 g1 hq e1 (.cons (r2.mono g1.tu) (.cons (r3.mono g1.tu) .nil))
  walk_at "w"
  refine i_S (fun hw => ?_) (fun hw3 => ?_)
  · obtain ⟨x, l, rfl, _⟩ := hp.while_inv hw
    subst hw
    obtain ⟨u1, us, rfl, r1, hz1⟩ := hz0.cons_of
    obtain ⟨u2, us, rfl, r2, hz2⟩ := hz1.cons_of
    cases hz2.nil_of
    walk_at "w"
    refine k_lst (by show 1 ≤ sizeLine; decide) fun q H1 hq g1 e1 => ?_
    exact k q _ H1 g1 hq e1 (.cons (r2.mono g1.tu) .nil)
  walk_at "w"
  refine k_lst (by show 0 ≤ sizeLine; decide) fun q H1 hq g1 e1 => ?_
  have e : blks w r = [] := by
    unfold blks
    rw [if_neg hw1, if_neg hw3, if_neg hw2]
  exact k q _ H1 g1 hq e1 (by rw [e]; exact .nil)
theorem k__law_is_name (T : Txt G) (c__law_letters : Cal G 1 (He.ga G.K "_law_letters") (spConst (.str LET)) []) : Cal G 2 (He.ga G.K "_law_is_name") spIsName [] := by
  refine cal_of T.f__law_is_name sc__law_is_name (fun _ _ _ _ _ _ us hl => match us, hl with | [_], _ => rfl) (fun vs H Q E h => ?_) (fun cdv A outer s H vs Q E hr h => ⟨_, ((pss_cons (ps_if (PW.pt (pw_or (pt_cmpR op_lt (pe_callB call_lenStr rfl T.v_len PySem.boot_len (pa_cons (pv 0) pa_nil)) pe_int (nomark _)) (pw_or (pt_cmpR op_gt (pe_callB call_lenStr rfl T.v_len PySem.boot_len (pa_cons (pv 0) pa_nil)) pe_int (nomark _)) (pw_or1 (pt_cmpR op_notInS (pe_ix ix_str (pv 0) pe_int (fun _ _ => rfl)) (pe_cal0 c__law_letters T.g__law_letters hr (by omega) (takes_of rfl rfl rfl rfl) (fun _ _ _ _ h => h) rfl) rfl))))) (pss_one (ps_ret pe_bl)) pss_nil)
    (pss_cons (ps_for (passes_of rfl) rfl (pi_str (pv 0)) (pg_name (i := 1) sc__law_is_name.nd rfl (Or.inl rfl))
    (pss_one (ps_if (pt_cmpR op_notInS (pv 1) (pe_op op_addStr (pe_cal0 c__law_letters T.g__law_letters hr (by omega) (takes_of rfl rfl rfl rfl) (fun _ _ _ _ h => h) rfl) pe_str) rfl) (pss_one (ps_ret pe_bl)) pss_nil)))
    (pss_one (ps_ret pe_bl))))), ?_⟩)
  · obtain ⟨x, rfl, _⟩ := h
    rfl
  obtain ⟨x, rfl, hx, k⟩ := h
  have hz := sz1 hx
  walk_at "w"
  refine r_lenStr hz ?_
  walk_at "w"
  refine i_d (fun h => ?_) (fun h1 => ?_)
  · walk_at "w"
    rw [← isNm_f1 (x := x) (by omega)]
    exact k
  walk_at "w"
  refine r_lenStr hz ?_
  walk_at "w"
  refine i_d (fun h => ?_) (fun h2 => ?_)
  · walk_at "w"
    rw [← isNm_f2 (x := x) (by omega)]
    exact k
  obtain ⟨c, r, ex⟩ : ∃ c r, x.cps.toList = c :: r := by
    cases e : x.cps.toList with
    | nil => rw [len_l, e] at h1; simp at h1
    | cons c r => exact ⟨c, r, rfl⟩
  walk_at "w"
  refine r_ixS hz (c := c) (by rw [ex]; exact atI_nat (j := 0) rfl) ?_
  walk_at "w"
  refine ⟨rfl, ?_⟩
  walk_at "w"
  rw [LET_l]
  refine i_n (fun h3 => ?_) (fun h3 => ?_)
  · walk_at "w"
    have eS : (LET ++ ("0123456789" : Str)).cps.toList = letL ++ digL := by rw [app_l, LET_l, DIG_l]
    refine k_forS (fun i σ' H' => ∃ o, σ' = [some (.str x), o] ∧ H' = H ∧ ∀ j d, j < i → x.cps.toList[j]? = some d → d ∈ letL ++ digL) ⟨none, rfl, rfl, fun j d z => by omega⟩ ?_ ?_
    · rintro i d σ' H' hd ⟨o, rfl, rfl, hall⟩
      walk_at "w"
      refine ⟨rfl, ?_⟩
      walk_at "w"
      refine r_addStr (by decide) ?_
      walk_at "w"
      rw [eS]
      refine i_n (fun h4 => ?_) (fun h4 => ?_)
      · walk_at "w"
        refine ⟨_, rfl, rfl, fun j d' hj hd' => ?_⟩
        by_cases e : j = i
        · subst e
          rw [hd] at hd'
          cases hd'
          exact h4
        · exact hall j d' (by omega) hd'
      · walk_at "w"
        rw [← isNm_f4 (x := x) (List.mem_of_getElem? hd) h4]
        exact k
    · rintro σ' H' ⟨o, rfl, rfl, hall⟩
      walk_at "w"
      have e : isNm x = true := isNm_of ex (by rw [len_l, ex, List.length_cons] at h2; omega) h3 fun d hd => by
        obtain ⟨j, hj, e⟩ := List.getElem_of_mem hd
        exact hall (j + 1) d (by rw [ex, List.length_cons]; omega) (by rw [ex, List.getElem?_cons_succ, List.getElem?_eq_getElem hj, e])
      rw [← e]
      exact k
  · walk_at "w"
    rw [← isNm_f3 ex h3]
    exact k
end
end Xd

/-! text D15 -/
/-! the law's own check of actions and parts -/
namespace Xd
open PySem PySem.Spec PyProof.Rows L2
local macro_rules | `(tactic| walk_at "w1") => `(tactic| first
  | with_reducible apply r_seq
  | with_reducible apply r_asg
  | with_reducible apply r_gname
  | ((with_reducible apply r_var); exact rfl)
  | with_reducible apply r_c
  | with_reducible apply r_op
  | with_reducible apply r_I0
  | ((with_reducible apply r_eq); exact rfl)
  | ((with_reducible apply r_ne); exact rfl)
  | with_reducible apply r_if
  | with_reducible apply r_test
  | with_reducible apply r_tB
  | with_reducible apply r_bl
  | with_reducible apply r_and
  | with_reducible apply r_or
  | with_reducible apply r_not
  | with_reducible apply r_ret
  | with_reducible apply r_drop
  | with_reducible apply r_cons
  | with_reducible apply r_nil
  | with_reducible apply r_cal
  | with_reducible apply r_cb
  | with_reducible apply r_tup
  | with_reducible apply r_lst
  | with_reducible apply r_next
  | with_reducible apply r_retN
  | with_reducible apply r_un
  | with_reducible apply r_U
  | with_reducible apply r_andV
  | with_reducible apply r_orV
  | with_reducible apply r_notV
  | with_reducible apply r_ifx
  | with_reducible apply r_forT
  | with_reducible apply r_forL
  | with_reducible apply r_forR
  | with_reducible apply r_sl
  | with_reducible apply r_nop
  | with_reducible apply r_part
  | with_reducible apply r_kPart
  | with_reducible apply r_gsub
  | with_reducible apply r_int1
  | with_reducible apply r_isN
  | with_reducible apply r_notN
  | with_reducible apply r_ltStr
  | with_reducible apply r_inS
  | with_reducible apply r_niS
  | with_reducible apply r_bm
  | with_reducible apply r_forS
  | with_reducible apply r_lcL
  | with_reducible apply r_lcT
  | with_reducible apply r_m0
  | with_reducible apply r_din
  | with_reducible apply r_dnin
  | with_reducible apply r_dget
  | ((with_reducible apply r_gtup); (assumption); (exact rfl))
  | with_reducible apply r_gcons
  | with_reducible apply r_gnil
  | (with_reducible refine r_lo0 (by assumption) ?_)
  | (with_reducible refine r_lo2 (by assumption) ?_)
  | (with_reducible refine r_isi_non (b := true) (by decide +kernel) ?_)
  | (with_reducible refine r_isi_int (b := true) (by decide +kernel) ?_)
  | (with_reducible refine r_isi_str (b := true) (by decide +kernel) ?_)
  | ((with_reducible apply r_isi_tup (b := true)); (assumption); (exact (by decide +kernel)))
  | ((with_reducible apply r_isi_lst (b := true)); (assumption); (exact (by decide +kernel)))
  | (with_reducible refine r_isi_non (b := false) (by decide +kernel) ?_)
  | (with_reducible refine r_isi_int (b := false) (by decide +kernel) ?_)
  | (with_reducible refine r_isi_str (b := false) (by decide +kernel) ?_)
  | ((with_reducible apply r_isi_tup (b := false)); (assumption); (exact (by decide +kernel)))
  | ((with_reducible apply r_isi_lst (b := false)); (assumption); (exact (by decide +kernel)))
  | (with_reducible refine r_l0 (by assumption) ?_)
  | (with_reducible refine r_l2 (by assumption) ?_)
  | (with_reducible refine r_lenN (by assumption) ?_)
  | (with_reducible refine r_lenC (by assumption) ?_)
  | ((with_reducible apply r_ixT'); (assumption); (first | exact rfl | exact atI_0 | exact atI_1 | exact atI_2))
  | ((with_reducible apply r_ixL'); (assumption); (exact rfl))
  | ((with_reducible apply i_f); exact rfl)
  | ((with_reducible apply i_t); exact rfl)
  | ((with_reducible apply r_I); first | exact Or.inr ⟨by decide, by decide⟩ | exact (by decide) | assumption | exact ⟨by omega, by omega⟩ | exact (by omega) | exact ⟨by decide, by decide, by decide⟩))
local macro_rules | `(tactic| walk_at "w") => `(tactic| repeat (walk_at "w1"))

abbrev ft (x : Str) (d : D) : Option Flt := some (x, d)
/-- a fault as the law gives it -/
def FltK (r : Option Flt) (H : Hp) (Q : VK) : Prop := (r = none → ∀ H', Gr [] H H' → Q .non H') ∧ ∀ x e, r = some (x, e) → ∀ H' v, Gr [] H H' → Rp H' v (.tup [.str x, e]) → Q v H'
section
variable {r : Option Flt} {H H1 : Hp} {Q : VK} {v : V} {d : D} {x : Str}
theorem FltK.none (k : FltK r H Q) (e : r = none) (g : Gr [] H H1) : Q .non H1 := k.1 e _ g
theorem FltK.some (k : FltK r H Q) (e : r = some (x, d)) (g : Gr [] H H1) (hv : Rp H1 v d) : kTup [.str x, v] H1 Q :=
  k_tup (by show 2 ≤ sizeLine; decide) fun q H2 g2 e2 => k.2 x d e H2 _ (g.trans g2) (.tup e2 (.cons (.str _) (.cons (hv.mono g2.tu) .nil)))
theorem FltK.mono (k : FltK r H Q) (g : Gr [] H H1) : FltK r H1 Q := ⟨fun e H' g' => k.1 e H' (g.trans g'), fun x d e H' v g' hv => k.2 x d e H' v (g.trans g') hv⟩
theorem FltK.val (k : FltK r H Q) (e : r = Option.some (x, d)) (g : Gr [] H H1) (hv : Rp H1 v (.tup [.str x, d])) : Q v H1 := k.2 x d e _ _ g hv
end
section
variable {er : Str} {ok C : List Str} {s : D} {i : Int} {w x : Str}
theorem rdF_n : rdF er ok C .non s = none := rfl
theorem rdF_i1 (h0 : 0 ≤ i) (h1 : i ≤ 999) : rdF er ok C (.int i) s = none := if_pos ⟨h0, h1⟩
theorem rdF_i2 (h : ¬ (0 ≤ i ∧ i ≤ 999)) : rdF er ok C (.int i) s = ft "BadNumber" (.int i) := if_neg h
theorem rdF_w (h : w ∉ ok) : rdF er ok C (.tup [.str w, .str x]) s = ft er (s) := if_neg h
theorem rdF_x (h : w ∈ ok) (hx : x ∉ C) : rdF er ok C (.tup [.str w, .str x]) s = ft "UnknownCell" (.str x) := (if_pos h).trans (if_neg hx)
theorem rdF_o (h : w ∈ ok) (hx : x ∈ C) : rdF er ok C (.tup [.str w, .str x]) s = none := (if_pos h).trans (if_pos hx)
variable {N : List Str} {n : Nat} {dp : Int} {g st : Str} {a : D} {f : List D}
theorem aF_g (h : g ∉ (["done", "error", "always"] : List Str)) : aF N C (n + 1) dp (.tup [.str g, .str st, a, .tup f]) = ft "BadAction" (.tup [.str g, .str st, a, .tup f]) := if_neg h
theorem aF_s (h : g ∈ (["done", "error", "always"] : List Str)) (hs : st ∉ N) : aF N C (n + 1) dp (.tup [.str g, .str st, a, .tup f]) = ft "UnknownStep" (.str st) := (if_pos h).trans (if_neg hs)
theorem aF_r {e : Flt} (h : g ∈ (["done", "error", "always"] : List Str)) (hs : st ∈ N) (hr : rdF "BadAction" ["now", "late"] C a (.tup [.str g, .str st, a, .tup f]) = some e) : aF N C (n + 1) dp (.tup [.str g, .str st, a, .tup f]) = some e := by
  refine (if_pos h).trans ((if_pos hs).trans ?_)
  rw [hr]
theorem aF_f (h : g ∈ (["done", "error", "always"] : List Str)) (hs : st ∈ N) (hr : rdF "BadAction" ["now", "late"] C a (.tup [.str g, .str st, a, .tup f]) = none) (hc : 3 < f.length ∨ (f ≠ [] ∧ (g = "error" ∨ dp = 2))) :
    aF N C (n + 1) dp (.tup [.str g, .str st, a, .tup f]) = ft "BadAction" (.tup [.str g, .str st, a, .tup f]) := by
  refine (if_pos h).trans ((if_pos hs).trans ?_)
  rw [hr]
  exact if_pos hc
theorem aF_l (h : g ∈ (["done", "error", "always"] : List Str)) (hs : st ∈ N) (hr : rdF "BadAction" ["now", "late"] C a (.tup [.str g, .str st, a, .tup f]) = none) (hc : ¬ (3 < f.length ∨ (f ≠ [] ∧ (g = "error" ∨ dp = 2)))) :
    aF N C (n + 1) dp (.tup [.str g, .str st, a, .tup f]) = f.findSome? (aF N C n (dp + 1)) := by
  refine (if_pos h).trans ((if_pos hs).trans ?_)
  rw [hr]
  exact if_neg hc
end
def spFault (n : Nat) : Sp := fun vs H Q _ => ∃ (w : Wo) (v : V) (d : D) (dp : Int), vs = [.ref w.a, v, .int dp] ∧ Lo w H ∧ Rp H v d ∧ KA n d ∧ FltK (aF w.N (w.C.map (·.1)) n dp d) H Q
def spReadFault : Sp := fun vs H Q _ => ∃ (w : Wo) (v s : V) (d e : D), vs = [.ref w.a, v, s] ∧ Lo w H ∧ Rp H v d ∧ Rp H s e ∧ ArgD d ∧ FltK (rdF "BadStatement" ["now"] (w.C.map (·.1)) d e) H Q
def spPartsFault (P : List D → Prop) : Sp := fun vs H Q _ => ∃ (w : Wo) (v : V) (wd : Str) (r : List D), vs = [.ref w.a, v] ∧ Lo w H ∧ Rp H v (.tup (.str wd :: r)) ∧ Prt P wd r ∧ FltK (pF w.N w.C wd r) H Q
theorem sc__law_fault : FnScope ["_law_lore_here", "_law_action_here", "_law_depth", "_law_guard", "_law_step", "_law_argument_here", "_law_further", "_law_inner", "_law_fault_here", "_law_pair"] ["_law_lore_here", "_law_action_here", "_law_depth"] (defScope s__law_fault) := ⟨rfl, rfl, rfl, by decide +kernel, rfl, by decide +kernel, by decide +kernel⟩
section
variable {G : Ctx}
theorem k__law_fault (T : Txt G) : ∀ n : Nat, Cal G (n + 1) (He.ga G.K "_law_fault") (spFault n) []
  | 0 => cal_never T.f__law_fault sc__law_fault (fun _ _ _ _ _ _ us hl => match us, hl with | [_, _, _], _ => rfl) fun vs H Q E ⟨_, _, _, _, _, _, _, h, _⟩ => h
  | n + 1 => by
    have c__law_fault := k__law_fault T n
    refine cal_of (k := n + 1) T.f__law_fault sc__law_fault (fun _ _ _ _ _ _ us hl => match us, hl with | [_, _, _], _ => rfl) (fun vs H Q E h => ?_) (fun cdv A outer s H vs Q E hr h => ⟨_, ((pss_cons (ps_asg (pv 1) (pg_tup rfl (pgs_cons (pg_name (i := 3) sc__law_fault.nd rfl (Or.inl rfl)) (pgs_cons (pg_name (i := 4) sc__law_fault.nd rfl (Or.inl rfl)) (pgs_cons (pg_name (i := 5) sc__law_fault.nd rfl (Or.inl rfl)) (pgs_cons (pg_name (i := 6) sc__law_fault.nd rfl (Or.inl rfl)) pgs_nil))))))
    (pss_cons (ps_if (pt_cmpR op_notIn_seq (pv 3) (pe_tup (pa_cons pe_str (pa_cons pe_str (pa_cons pe_str pa_nil)))) rfl) (pss_one (ps_ret (pe_tup (pa_cons pe_str (pa_cons (pv 1) pa_nil))))) pss_nil)
    (pss_cons (ps_if (pt_cmpR op_notIn_seq (pv 4) (pe_ix ix_list (pv 0) pe_int (fun _ _ => rfl)) rfl) (pss_one (ps_ret (pe_tup (pa_cons pe_str (pa_cons (pv 4) pa_nil))))) pss_nil)
    (Evl.pss_cut (ps_if (pt_val (pe_callB call_isi rfl T.v_isinstance (by decide +kernel) (pa_cons (pv 5) (pa_cons (pe_bltn (v := .ty "tuple") rfl T.v_tuple (by decide +kernel) rfl) pa_nil)))) (pss_cons (ps_if (pt_cmpR op_notIn_seq (pe_ix ix_tup (pv 5) pe_int (fun _ _ => rfl)) (pe_tup (pa_cons pe_str (pa_cons pe_str pa_nil))) rfl) (pss_one (ps_ret (pe_tup (pa_cons pe_str (pa_cons (pv 1) pa_nil))))) pss_nil)
    (pss_one (ps_if (pt_cmpR op_notIn_seq (pe_ix ix_tup (pv 5) pe_int (fun _ _ => rfl)) (pe_lc (own := [("_law_pair", 9)]) rfl sc__law_fault.nd (pi_list (pe_ix ix_list (pv 0) pe_int (fun _ _ => rfl))) (blkOk_by (N := ["_law_lore_here", "_law_action_here", "_law_depth", "_law_guard", "_law_step", "_law_argument_here", "_law_further", "_law_inner", "_law_fault_here", "_law_pair"]) (sc := defScope s__law_fault) (by decide +kernel)) (fun _ _ _ _ _ => (pg_name (i := 9) sc__law_fault.nd rfl (Or.inl rfl))) (fun _ _ _ _ _ => pts_nil) (fun _ _ _ _ _ => (pe_ix (ix_tupB (K := G.K) rfl) (pv 9) pe_int (fun _ _ => rfl)))) rfl) (pss_one (ps_ret (pe_tup (pa_cons pe_str (pa_cons (pe_ix ix_tup (pv 5) pe_int (fun _ _ => rfl)) pa_nil))))) pss_nil))) (pss_one (ps_if (PW.pt (pw_and (pt_cmpR op_notN1 (pv 5) pe_non (nomark _)) (pw_and1 (pt_not (PW.pt (pw_and (pt_cmpR op_le pe_int (pv 5) (nomark _)) (pw_and1 (pt_cmpR op_le (pv 5) pe_int (nomark _))))))))) (pss_one (ps_ret (pe_tup (pa_cons pe_str (pa_cons (pv 5) pa_nil))))) pss_nil)))
    (Evl.pss_cut (ps_if (PW.pt (pw_or (pt_cmpR op_gt (pe_callB call_lenQ rfl T.v_len PySem.boot_len (pa_cons (pv 6) pa_nil)) pe_int (nomark _)) (pw_or1 (PW.pt (pw_and (pt_cmpR op_gt (pe_callB call_lenQ rfl T.v_len PySem.boot_len (pa_cons (pv 6) pa_nil)) pe_int (nomark _)) (pw_and1 (PW.pt (pw_or (pt_cmpR op_eq (pv 3) pe_str (nomark _)) (pw_or1 (pt_cmpR op_eq (pv 2) pe_int (nomark _))))))))))) (pss_one (ps_ret (pe_tup (pa_cons pe_str (pa_cons (pv 1) pa_nil))))) pss_nil)
    (pss_cons (ps_for (passes_of rfl) rfl (pi_tup (pv 6)) (pg_name (i := 7) sc__law_fault.nd rfl (Or.inl rfl))
    (pss_cons (ps_set (i := 8) sc__law_fault.nd rfl (Or.inl rfl) (pe_cal c__law_fault T.g__law_fault hr (by omega) (takes_of rfl rfl rfl rfl) (fun _ _ _ _ h => h) rfl (pa_cons (pv 0) (pa_cons (pv 7) (pa_cons (pe_op op_add (pv 2) pe_int) pa_nil)))))
    (pss_one (ps_if (pt_cmpR op_notN1 (pv 8) pe_non (nomark _)) (pss_one (ps_ret (pv 8))) pss_nil))))
    (pss_one (ps_ret pe_non))))))))), ?_⟩)
    · obtain ⟨w, v, d, dp, rfl, _⟩ := h
      rfl
    obtain ⟨w, v, d, dp, rfl, L, hv, ⟨g, st, a, f, rfl, ha, hl, hf⟩, k⟩ := h
    have hv0 := hv
    obtain ⟨t, vs, rfl, et, hz⟩ := hv.tup_of
    obtain ⟨v1, vs, rfl, h1, hz1⟩ := hz.cons_of
    obtain ⟨v2, vs, rfl, h2, hz2⟩ := hz1.cons_of
    obtain ⟨v3, vs, rfl, h3, hz3⟩ := hz2.cons_of
    obtain ⟨v4, vs, rfl, h4, hz4⟩ := hz3.cons_of
    cases hz4.nil_of
    cases h1
    cases h2
    obtain ⟨tf, fs, rfl, ef, hfs⟩ := h4.tup_of
    have fl := hfs.len
    walk_at "w"
    refine k_tup (by show 3 ≤ sizeLine; decide) fun q H1 g1 e1 => ?_
    walk_at "w"
    refine r_inStrT (us := ["done", "error", "always"]) e1 ?_
    walk_at "w"
    refine i_n (fun hg => ?_) (fun hg => ?_)
    rotate_left
    · walk_at "w"
      exact k.some (aF_g hg) g1 (hv0.mono g1.tu)
    have L1 := L.gr g1
    walk_at "w"
    refine r_inStrL L1.en ?_
    walk_at "w"
    refine i_n (fun hs => ?_) (fun hs => ?_)
    rotate_left
    · walk_at "w"
      exact k.some (aF_s hg hs) g1 (.str _)
    walk_at "w"
    refine r_cut (fun σ' H' => σ' = [some (.ref w.a), some (.ref t), some (.int dp), some (.str g), some (.str st), some v3, some (.ref tf), none, none, none] ∧ Gr [] H H' ∧ rdF "BadAction" ["now", "late"] (w.C.map (·.1)) a (.tup [.str g, .str st, a, .tup f]) = none) ?_ ?_
    · have h31 := h3.mono g1.tu
      cases ha with
      | non =>
        cases h31
        walk_at "w"
        exact ⟨rfl, g1, rdF_n⟩
      | int i =>
        cases h31
        walk_at "w"
        refine i_d (fun h0 => ?_) (fun h0 => ?_)
        · walk_at "w"
          refine i_n (fun h9 => ?_) (fun h9 => ?_)
          · walk_at "w"
            exact ⟨rfl, g1, rdF_i1 h0 h9⟩
          · walk_at "w"
            exact k.some (aF_r hg hs (rdF_i2 fun z => h9 z.2)) g1 (.int _)
        · walk_at "w"
          exact k.some (aF_r hg hs (rdF_i2 fun z => h0 z.1)) g1 (.int _)
      | pair y x =>
        obtain ⟨ta, us, rfl, eta, ht⟩ := h31.tup_of
        obtain ⟨u1, us, rfl, r1, ht1⟩ := ht.cons_of
        obtain ⟨u2, us, rfl, r2, ht2⟩ := ht1.cons_of
        cases ht2.nil_of
        cases r1
        cases r2
        walk_at "w"
        refine k_tup (by show 2 ≤ sizeLine; decide) fun q2 H2 g2 e2 => ?_
        have eta2 := g2.tu _ _ eta
        walk_at "w"
        refine r_inStrT (us := ["now", "late"]) e2 ?_
        walk_at "w"
        refine i_n (fun hy => ?_) (fun hy => ?_)
        · have L2 := L1.gr g2
          walk_at "w"
          refine k_prs (by show 9 < 10; decide) L2.ep L2.er (by have := L2.ok.c2; omega) fun q3 H3 hq g3 e3 => ?_
          have eta3 := g3.tu _ _ eta2
          refine r_inStrL e3 ?_
          walk_at "w"
          refine i_n (fun hx => ?_) (fun hx => ?_)
          · walk_at "w"
            exact ⟨rfl, (g1.trans g2).trans g3, rdF_o hy hx⟩
          · walk_at "w"
            exact k.some (aF_r hg hs (rdF_x hy hx)) ((g1.trans g2).trans g3) (.str _)
        · walk_at "w"
          exact k.some (aF_r hg hs (rdF_w hy)) (g1.trans g2) ((hv0.mono g1.tu).mono g2.tu)
    rintro σ' H2 ⟨rfl, g2, hrd⟩
    have ef2 := g2.tu _ _ ef
    refine r_cut (fun σ' H' => σ' = [some (.ref w.a), some (.ref t), some (.int dp), some (.str g), some (.str st), some v3, some (.ref tf), none, none, none] ∧ H' = H2 ∧ ¬ (3 < f.length ∨ (f ≠ [] ∧ (g = "error" ∨ dp = 2)))) ?_ ?_
    · have f0 : 0 < f.length → f ≠ [] := fun z e => by rw [e] at z; exact absurd z (by decide)
      walk_at "w"
      refine r_lenT ef2 ?_
      walk_at "w"
      refine i_d (fun hc => ?_) (fun hc => ?_)
      · walk_at "w"
        exact k.some (aF_f hg hs hrd (.inl (by omega))) g2 (hv0.mono g2.tu)
      walk_at "w"
      refine r_lenT ef2 ?_
      walk_at "w"
      refine i_d (fun hc2 => ?_) (fun hc2 => ?_)
      · walk_at "w"
        refine i_S (fun hc3 => ?_) (fun hc3 => ?_)
        · walk_at "w"
          exact k.some (aF_f hg hs hrd (.inr ⟨f0 (by omega), .inl hc3⟩)) g2 (hv0.mono g2.tu)
        walk_at "w"
        refine i_I (fun hc4 => ?_) (fun hc4 => ?_)
        · walk_at "w"
          exact k.some (aF_f hg hs hrd (.inr ⟨f0 (by omega), .inr hc4⟩)) g2 (hv0.mono g2.tu)
        · walk_at "w"
          exact ⟨rfl, rfl, fun z => z.elim (fun z => hc (by omega)) fun z => z.2.elim hc3 hc4⟩
      · walk_at "w"
        exact ⟨rfl, rfl, fun z => z.elim (fun z => hc (by omega)) fun z => hc2 (by have := List.length_pos_iff.mpr z.1; omega)⟩
    rintro σ' H2' ⟨rfl, e2, hc⟩
    subst e2
    have eA := aF_l (n := n) hg hs hrd hc
    walk_at "w"
    refine k_forT (SqT.of ef2) (fun i σ' H' => ∃ o1 o2, σ' = [some (.ref w.a), some (.ref t), some (.int dp), some (.str g), some (.str st), some v3, some (.ref tf), o1, o2, none] ∧ Gr [] H H' ∧ ∀ j y, j < i → f[j]? = some y → aF w.N (w.C.map (·.1)) n (dp + 1) y = none) ⟨none, none, rfl, g2, fun j y z => by omega⟩ (fun i σ' H' hi ⟨_, _, _, g', _⟩ => SqT.of (g'.tu _ _ ef)) ?_ ?_
    · rintro i x σ3 H3 hx ⟨o1, o2, rfl, g3, hall⟩
      obtain ⟨y, hy, ry⟩ := hfs.get hx
      walk_at "w"
      refine ⟨w, x, y, dp + 1, rfl, L.gr g3, ry.mono g3.tu, hf y (List.mem_of_getElem? hy), fun e0 H4 g4 => ?_, fun xe de e0 H4 v4 g4 hv4 => ?_⟩
      · walk_at "w"
        refine ⟨some x, some .non, rfl, g3.trans g4, fun j y' hj hy' => ?_⟩
        by_cases e : j = i
        · subst e
          rw [hy] at hy'
          cases hy'
          exact e0
        · exact hall j y' (by omega) hy'
      · obtain ⟨b4, _, rfl, _⟩ := hv4.tup_of
        walk_at "w"
        exact k.val (eA.trans (find_at hy e0 hall)) (g3.trans g4) hv4
    · rintro σ3 H3 ⟨o1, o2, rfl, g3, hall⟩
      walk_at "w"
      exact k.none (eA.trans (find_no' fun j y hj hy => hall j y (by omega) hy)) g3
end
end Xd

/-! text D16 -/
/-! the law's own check of values and parts -/
namespace Xd
open PySem PySem.Spec PyProof.Rows L2
local macro_rules | `(tactic| walk_at "w1") => `(tactic| first
  | with_reducible apply r_seq
  | with_reducible apply r_asg
  | with_reducible apply r_gname
  | ((with_reducible apply r_var); exact rfl)
  | with_reducible apply r_c
  | with_reducible apply r_op
  | with_reducible apply r_I0
  | ((with_reducible apply r_eq); exact rfl)
  | ((with_reducible apply r_ne); exact rfl)
  | with_reducible apply r_if
  | with_reducible apply r_test
  | with_reducible apply r_tB
  | with_reducible apply r_bl
  | with_reducible apply r_and
  | with_reducible apply r_or
  | with_reducible apply r_not
  | with_reducible apply r_ret
  | with_reducible apply r_drop
  | with_reducible apply r_cons
  | with_reducible apply r_nil
  | with_reducible apply r_cal
  | with_reducible apply r_cb
  | with_reducible apply r_tup
  | with_reducible apply r_lst
  | with_reducible apply r_next
  | with_reducible apply r_retN
  | with_reducible apply r_un
  | with_reducible apply r_U
  | with_reducible apply r_andV
  | with_reducible apply r_orV
  | with_reducible apply r_notV
  | with_reducible apply r_ifx
  | with_reducible apply r_forT
  | with_reducible apply r_forL
  | with_reducible apply r_forR
  | with_reducible apply r_sl
  | with_reducible apply r_nop
  | with_reducible apply r_part
  | with_reducible apply r_kPart
  | with_reducible apply r_gsub
  | with_reducible apply r_int1
  | with_reducible apply r_isN
  | with_reducible apply r_notN
  | with_reducible apply r_ltStr
  | with_reducible apply r_inS
  | with_reducible apply r_niS
  | with_reducible apply r_bm
  | with_reducible apply r_forS
  | with_reducible apply r_lcL
  | with_reducible apply r_lcT
  | with_reducible apply r_m0
  | with_reducible apply r_din
  | with_reducible apply r_dnin
  | with_reducible apply r_dget
  | ((with_reducible apply r_gtup); (assumption); (exact rfl))
  | with_reducible apply r_gcons
  | with_reducible apply r_gnil
  | (with_reducible refine r_lo0 (by assumption) ?_)
  | (with_reducible refine r_lo2 (by assumption) ?_)
  | (with_reducible refine r_isi_non (b := true) (by decide +kernel) ?_)
  | (with_reducible refine r_isi_int (b := true) (by decide +kernel) ?_)
  | (with_reducible refine r_isi_str (b := true) (by decide +kernel) ?_)
  | ((with_reducible apply r_isi_tup (b := true)); (assumption); (exact (by decide +kernel)))
  | ((with_reducible apply r_isi_lst (b := true)); (assumption); (exact (by decide +kernel)))
  | (with_reducible refine r_isi_non (b := false) (by decide +kernel) ?_)
  | (with_reducible refine r_isi_int (b := false) (by decide +kernel) ?_)
  | (with_reducible refine r_isi_str (b := false) (by decide +kernel) ?_)
  | ((with_reducible apply r_isi_tup (b := false)); (assumption); (exact (by decide +kernel)))
  | ((with_reducible apply r_isi_lst (b := false)); (assumption); (exact (by decide +kernel)))
  | (with_reducible refine r_l0 (by assumption) ?_)
  | (with_reducible refine r_l2 (by assumption) ?_)
  | (with_reducible refine r_lenN (by assumption) ?_)
  | (with_reducible refine r_lenC (by assumption) ?_)
  | ((with_reducible apply r_ixT'); (assumption); (first | exact rfl | exact atI_0 | exact atI_1 | exact atI_2))
  | ((with_reducible apply r_ixL'); (assumption); (exact rfl))
  | ((with_reducible apply i_f); exact rfl)
  | ((with_reducible apply i_t); exact rfl)
  | ((with_reducible apply r_I); first | exact Or.inr ⟨by decide, by decide⟩ | exact (by decide) | assumption | exact ⟨by omega, by omega⟩ | exact (by omega) | exact ⟨by decide, by decide, by decide⟩))
local macro_rules | `(tactic| walk_at "w") => `(tactic| repeat (walk_at "w1"))

theorem sc__law_read_fault : FnScope ["_law_lore_here", "_law_value", "_law_statement_here", "_law_pair"] ["_law_lore_here", "_law_value", "_law_statement_here"] (defScope s__law_read_fault) := ⟨rfl, rfl, rfl, by decide +kernel, rfl, by decide +kernel, by decide +kernel⟩
theorem sc__law_parts_fault : FnScope ["_law_lore_here", "_law_statement_here", "_law_word", "_law_pair"] ["_law_lore_here", "_law_statement_here"] (defScope s__law_parts_fault) := ⟨rfl, rfl, rfl, by decide +kernel, rfl, by decide +kernel, by decide +kernel⟩
section
variable {N : List Str} {C : List (Str × Int)} {x : Str} {v a : D} {i : Int} {r : List D}
theorem pF_do : pF N C "do" [.str x, v] = if x ∈ N then rdF "BadStatement" ["now"] (C.map (·.1)) v (.tup [.str "do", .str x, v]) else ft "UnknownStep" (.str x) := if_pos rfl
theorem pF_put : pF N C "put" [a] = aF N (C.map (·.1)) 7 0 a := (if_neg (by decide)).trans (if_pos rfl)
theorem pF_set : pF N C "set" (.str x :: .int i :: r) = cellF C x i := (if_neg (by decide)).trans ((if_neg (by decide)).trans (if_pos (.inl rfl)))
theorem pF_when : pF N C "when" (.str x :: .int i :: r) = cellF C x i := (if_neg (by decide)).trans ((if_neg (by decide)).trans (if_pos (.inr rfl)))
theorem pF_ret : pF N C "return" [v] = rdF "BadStatement" ["now"] (C.map (·.1)) v (.tup [.str "return", v]) := (if_neg (by decide)).trans ((if_neg (by decide)).trans ((if_neg (by decide)).trans (if_pos rfl)))
theorem pF_nm {w : Str} (h1 : w ≠ "do") (h2 : w ≠ "put") (h3 : ¬ (w = "set" ∨ w = "when")) (h4 : w ≠ "return") : pF N C w (.str x :: r) = nmF x := (if_neg h1).trans ((if_neg h2).trans ((if_neg h3).trans (if_neg h4)))
theorem nmF_t (h : isNm x = true) : nmF x = none := if_pos h
theorem nmF_f (h : isNm x = false) : nmF x = ft "BadName" (.str x) := if_neg (by rw [h]; decide)
theorem cellF_nil : cellF [] x i = ft "UnknownCell" (.str x) := rfl
theorem cellF_no {c : Str × Int} (h : ¬ c.1 = x) : cellF (c :: C) x i = cellF C x i := if_neg h
theorem cellF_in {c : Str × Int} (h : c.1 = x) (h2 : 0 ≤ i ∧ i < c.2) : cellF (c :: C) x i = none := (if_pos h).trans (if_pos h2)
theorem cellF_out {c : Str × Int} (h : c.1 = x) (h2 : ¬ (0 ≤ i ∧ i < c.2)) : cellF (c :: C) x i = ft "BadNumber" (.int i) := (if_pos h).trans (if_neg h2)
end
section
variable {G : Ctx}
theorem k__law_read_fault (T : Txt G) : Cal G 1 (He.ga G.K "_law_read_fault") spReadFault [] := by
  refine cal_of T.f__law_read_fault sc__law_read_fault (fun _ _ _ _ _ _ us hl => match us, hl with | [_, _, _], _ => rfl) (fun vs H Q E h => ?_) (fun cdv A outer s H vs Q E hr h => ⟨_, ((pss_cons (ps_if (pt_val (pe_callB call_isi rfl T.v_isinstance (by decide +kernel) (pa_cons (pv 1) (pa_cons (pe_bltn (v := .ty "tuple") rfl T.v_tuple (by decide +kernel) rfl) pa_nil)))) (pss_cons (ps_if (pt_cmpR op_ne (pe_ix ix_tup (pv 1) pe_int (fun _ _ => rfl)) pe_str (nomark _)) (pss_one (ps_ret (pe_tup (pa_cons pe_str (pa_cons (pv 2) pa_nil))))) pss_nil)
    (pss_one (ps_if (pt_cmpR op_notIn_seq (pe_ix ix_tup (pv 1) pe_int (fun _ _ => rfl)) (pe_lc (own := [("_law_pair", 3)]) rfl sc__law_read_fault.nd (pi_list (pe_ix ix_list (pv 0) pe_int (fun _ _ => rfl))) (blkOk_by (N := ["_law_lore_here", "_law_value", "_law_statement_here", "_law_pair"]) (sc := defScope s__law_read_fault) (by decide +kernel)) (fun _ _ _ _ _ => (pg_name (i := 3) sc__law_read_fault.nd rfl (Or.inl rfl))) (fun _ _ _ _ _ => pts_nil) (fun _ _ _ _ _ => (pe_ix (ix_tupB (K := G.K) rfl) (pv 3) pe_int (fun _ _ => rfl)))) rfl) (pss_one (ps_ret (pe_tup (pa_cons pe_str (pa_cons (pe_ix ix_tup (pv 1) pe_int (fun _ _ => rfl)) pa_nil))))) pss_nil))) (pss_one (ps_if (PW.pt (pw_and (pt_cmpR op_notN1 (pv 1) pe_non (nomark _)) (pw_and1 (pt_not (PW.pt (pw_and (pt_cmpR op_le pe_int (pv 1) (nomark _)) (pw_and1 (pt_cmpR op_le (pv 1) pe_int (nomark _))))))))) (pss_one (ps_ret (pe_tup (pa_cons pe_str (pa_cons (pv 1) pa_nil))))) pss_nil)))
    (pss_one (ps_ret pe_non)))), ?_⟩)
  · obtain ⟨w, v, s, d, e, rfl, _⟩ := h
    rfl
  obtain ⟨w, v, s, d, e, rfl, L, hv, hs, ha, k⟩ := h
  cases ha with
  | non =>
    cases hv
    walk_at "w"
    exact k.none rdF_n Gr.refl
  | int i =>
    cases hv
    walk_at "w"
    refine i_d (fun h0 => ?_) (fun h0 => ?_)
    · walk_at "w"
      refine i_n (fun h9 => ?_) (fun h9 => ?_)
      · walk_at "w"
        exact k.none (rdF_i1 h0 h9) Gr.refl
      · walk_at "w"
        exact k.some (rdF_i2 fun z => h9 z.2) Gr.refl (.int _)
    · walk_at "w"
      exact k.some (rdF_i2 fun z => h0 z.1) Gr.refl (.int _)
  | pair y x =>
    obtain ⟨ta, us, rfl, eta, ht⟩ := hv.tup_of
    obtain ⟨u1, us, rfl, r1, ht1⟩ := ht.cons_of
    obtain ⟨u2, us, rfl, r2, ht2⟩ := ht1.cons_of
    cases ht2.nil_of
    cases r1
    cases r2
    walk_at "w"
    refine i_nS (fun hy => ?_) (fun hy => ?_)
    · walk_at "w"
      refine k_prs (by show 3 < 4; decide) L.ep L.er (by have := L.ok.c2; omega) fun q3 H3 hq g3 e3 => ?_
      have eta3 := g3.tu _ _ eta
      refine r_inStrL e3 ?_
      walk_at "w"
      refine i_n (fun hx => ?_) (fun hx => ?_)
      · walk_at "w"
        exact k.none (rdF_o (List.mem_singleton.mpr hy) hx) g3
      · walk_at "w"
        exact k.some (rdF_x (List.mem_singleton.mpr hy) hx) g3 (.str _)
    · walk_at "w"
      exact k.some (rdF_w fun z => hy (List.mem_singleton.mp z)) Gr.refl hs
theorem k__law_parts_fault (T : Txt G) (c__law_read_fault : Cal G 1 (He.ga G.K "_law_read_fault") spReadFault []) (c__law_fault : Cal G 8 (He.ga G.K "_law_fault") (spFault 7) []) (c__law_is_name : Cal G 2 (He.ga G.K "_law_is_name") spIsName []) {P : List D → Prop} : Cal G 9 (He.ga G.K "_law_parts_fault") (spPartsFault P) [] := by
  refine cal_of T.f__law_parts_fault sc__law_parts_fault (fun _ _ _ _ _ _ us hl => match us, hl with | [_, _], _ => rfl) (fun vs H Q E h => ?_) (fun cdv A outer s H vs Q E hr h => ⟨_, ((pss_cons (ps_set (i := 2) sc__law_parts_fault.nd rfl (Or.inl rfl) (pe_ix ix_tup (pv 1) pe_int (fun _ _ => rfl)))
    (pss_cons (ps_if (pt_cmpR op_eq (pv 2) pe_str (nomark _)) (pss_cons (ps_if (pt_cmpR op_notIn_seq (pe_ix ix_tup (pv 1) pe_int (fun _ _ => rfl)) (pe_ix ix_list (pv 0) pe_int (fun _ _ => rfl)) rfl) (pss_one (ps_ret (pe_tup (pa_cons pe_str (pa_cons (pe_ix ix_tup (pv 1) pe_int (fun _ _ => rfl)) pa_nil))))) pss_nil)
    (pss_one (ps_ret (pe_cal c__law_read_fault T.g__law_read_fault hr (by omega) (takes_of rfl rfl rfl rfl) (fun _ _ _ _ h => h) rfl (pa_cons (pv 0) (pa_cons (pe_ix ix_tup (pv 1) pe_int (fun _ _ => rfl)) (pa_cons (pv 1) pa_nil))))))) pss_nil)
    (pss_cons (ps_if (pt_cmpR op_eq (pv 2) pe_str (nomark _)) (pss_one (ps_ret (pe_cal c__law_fault T.g__law_fault hr (by omega) (takes_of rfl rfl rfl rfl) (fun _ _ _ _ h => h) rfl (pa_cons (pv 0) (pa_cons (pe_ix ix_tup (pv 1) pe_int (fun _ _ => rfl)) (pa_cons pe_int pa_nil)))))) pss_nil)
    (pss_cons (ps_if (PW.pt (pw_or (pt_cmpR op_eq (pv 2) pe_str (nomark _)) (pw_or1 (pt_cmpR op_eq (pv 2) pe_str (nomark _))))) (pss_cons (ps_for (passes_of rfl) rfl (pi_list (pe_ix ix_list (pv 0) pe_int (fun _ _ => rfl))) (pg_name (i := 3) sc__law_parts_fault.nd rfl (Or.inl rfl))
    (pss_one (ps_if (pt_cmpR op_eq (pe_ix ix_tup (pv 3) pe_int (fun _ _ => rfl)) (pe_ix ix_tup (pv 1) pe_int (fun _ _ => rfl)) (nomark _)) (pss_cons (ps_if (PW.pt (pw_and (pt_cmpR op_le pe_int (pe_ix ix_tup (pv 1) pe_int (fun _ _ => rfl)) (nomark _)) (pw_and1 (pt_cmpR op_lt (pe_ix ix_tup (pv 1) pe_int (fun _ _ => rfl)) (pe_ix ix_tup (pv 3) pe_int (fun _ _ => rfl)) (nomark _))))) (pss_one (ps_ret pe_non)) pss_nil)
    (pss_one (ps_ret (pe_tup (pa_cons pe_str (pa_cons (pe_ix ix_tup (pv 1) pe_int (fun _ _ => rfl)) pa_nil)))))) pss_nil)))
    (pss_one (ps_ret (pe_tup (pa_cons pe_str (pa_cons (pe_ix ix_tup (pv 1) pe_int (fun _ _ => rfl)) pa_nil)))))) pss_nil)
    (pss_cons (ps_if (pt_cmpR op_eq (pv 2) pe_str (nomark _)) (pss_one (ps_ret (pe_cal c__law_read_fault T.g__law_read_fault hr (by omega) (takes_of rfl rfl rfl rfl) (fun _ _ _ _ h => h) rfl (pa_cons (pv 0) (pa_cons (pe_ix ix_tup (pv 1) pe_int (fun _ _ => rfl)) (pa_cons (pv 1) pa_nil)))))) pss_nil)
    (pss_cons (ps_if (pt_val (pe_cal c__law_is_name T.g__law_is_name hr (by omega) (takes_of rfl rfl rfl rfl) (fun _ _ _ _ h => h) rfl (pa_cons (pe_ix ix_tup (pv 1) pe_int (fun _ _ => rfl)) pa_nil))) (pss_one (ps_ret pe_non)) pss_nil)
    (pss_one (ps_ret (pe_tup (pa_cons pe_str (pa_cons (pe_ix ix_tup (pv 1) pe_int (fun _ _ => rfl)) pa_nil)))))))))))), ?_⟩)
  · obtain ⟨w, v, wd, r, rfl, _⟩ := h
    rfl
  obtain ⟨w, v, wd, r, rfl, L, hv, hp, k⟩ := h
  have hv0 := hv
  obtain ⟨t, vs, rfl, et, hz⟩ := hv.tup_of
  obtain ⟨v0, vs, rfl, h0, hz0⟩ := hz.cons_of
  cases h0
  cases hp with
  | do_ x v ha =>
    obtain ⟨u1, us, rfl, r1, hz1⟩ := hz0.cons_of
    obtain ⟨u2, us, rfl, r2, hz2⟩ := hz1.cons_of
    cases hz2.nil_of
    cases r1
    rw [pF_do] at k
    walk_at "w"
    refine r_inStrL L.en ?_
    walk_at "w"
    refine i_n (fun hx => ?_) (fun hx => ?_)
    · rw [if_pos hx] at k
      walk_at "w"
      exact ⟨w, _, _, _, _, rfl, L, r2, hv0, ha, k⟩
    · rw [if_neg hx] at k
      walk_at "w"
      exact k.some rfl Gr.refl (.str _)
  | put a ha =>
    obtain ⟨u1, us, rfl, r1, hz1⟩ := hz0.cons_of
    cases hz1.nil_of
    rw [pF_put] at k
    walk_at "w"
    exact ⟨w, _, _, _, rfl, L, r1, ha, k⟩
  | set x i0 =>
    obtain ⟨u1, us, rfl, r1, hz1⟩ := hz0.cons_of
    obtain ⟨u2, us, rfl, r2, hz2⟩ := hz1.cons_of
    cases hz2.nil_of
    cases r1
    cases r2
    rw [pF_set] at k
    walk_at "w"
    refine k_forL (SqL.of L.ep) (fun i σ' H' => ∃ o, σ' = [some (.ref w.a), some (.ref t), some (.str "set"), o] ∧ H' = H ∧ cellF w.C x i0 = cellF (w.C.drop i) x i0) ⟨none, rfl, rfl, rfl⟩ (fun i σ' H' hi ⟨_, _, e, _⟩ => by rw [e]; exact SqL.of L.ep) ?_ ?_
    · rintro i u σ3 H3 hu ⟨o, rfl, rfl, hc⟩
      obtain ⟨d, hd, rd⟩ := L.er.get hu
      rw [List.getElem?_map] at hd
      obtain ⟨c, hcc, e⟩ := Option.map_eq_some_iff.mp hd
      subst e
      obtain ⟨tc, rfl, etc⟩ := pr_of rd
      have hdr : w.C.drop i = c :: w.C.drop (i + 1) := by
        obtain ⟨hi, e⟩ := List.getElem?_eq_some_iff.mp hcc
        rw [← e]
        exact List.drop_eq_getElem_cons hi
      rw [hdr] at hc
      walk_at "w"
      refine i_S (fun hn => ?_) (fun hn => ?_)
      · walk_at "w"
        refine i_d (fun h0 => ?_) (fun h0 => ?_)
        · walk_at "w"
          refine i_d (fun h9 => ?_) (fun h9 => ?_)
          · walk_at "w"
            exact k.none (hc.trans (cellF_in hn ⟨h0, h9⟩)) Gr.refl
          · walk_at "w"
            exact k.some (hc.trans (cellF_out hn fun z => h9 z.2)) Gr.refl (.int _)
        · walk_at "w"
          exact k.some (hc.trans (cellF_out hn fun z => h0 z.1)) Gr.refl (.int _)
      · walk_at "w"
        exact ⟨_, rfl, rfl, hc.trans (cellF_no hn)⟩
    · rintro σ3 H3 ⟨o, rfl, rfl, hc⟩
      have lu : w.us.length = w.C.length := by rw [L.er.len, List.length_map]
      rw [lu, List.drop_length] at hc
      walk_at "w"
      exact k.some (hc.trans cellF_nil) Gr.refl (.str _)
  | when_ x i0 l m a b =>
    obtain ⟨u1, us, rfl, r1, hz1⟩ := hz0.cons_of
    obtain ⟨u2, us, rfl, r2, hz2⟩ := hz1.cons_of
    obtain ⟨u3, us, rfl, r3, hz3⟩ := hz2.cons_of
    obtain ⟨u4, us, rfl, r4, hz4⟩ := hz3.cons_of
    cases hz4.nil_of
    cases r1
    cases r2
    rw [pF_when] at k
    walk_at "w"
    refine k_forL (SqL.of L.ep) (fun i σ' H' => ∃ o, σ' = [some (.ref w.a), some (.ref t), some (.str "when"), o] ∧ H' = H ∧ cellF w.C x i0 = cellF (w.C.drop i) x i0) ⟨none, rfl, rfl, rfl⟩ (fun i σ' H' hi ⟨_, _, e, _⟩ => by rw [e]; exact SqL.of L.ep) ?_ ?_
    · rintro i u σ3 H3 hu ⟨o, rfl, rfl, hc⟩
      obtain ⟨d, hd, rd⟩ := L.er.get hu
      rw [List.getElem?_map] at hd
      obtain ⟨c, hcc, e⟩ := Option.map_eq_some_iff.mp hd
      subst e
      obtain ⟨tc, rfl, etc⟩ := pr_of rd
      have hdr : w.C.drop i = c :: w.C.drop (i + 1) := by
        obtain ⟨hi, e⟩ := List.getElem?_eq_some_iff.mp hcc
        rw [← e]
        exact List.drop_eq_getElem_cons hi
      rw [hdr] at hc
      walk_at "w"
      refine i_S (fun hn => ?_) (fun hn => ?_)
      · walk_at "w"
        refine i_d (fun h0 => ?_) (fun h0 => ?_)
        · walk_at "w"
          refine i_d (fun h9 => ?_) (fun h9 => ?_)
          · walk_at "w"
            exact k.none (hc.trans (cellF_in hn ⟨h0, h9⟩)) Gr.refl
          · walk_at "w"
            exact k.some (hc.trans (cellF_out hn fun z => h9 z.2)) Gr.refl (.int _)
        · walk_at "w"
          exact k.some (hc.trans (cellF_out hn fun z => h0 z.1)) Gr.refl (.int _)
      · walk_at "w"
        exact ⟨_, rfl, rfl, hc.trans (cellF_no hn)⟩
    · rintro σ3 H3 ⟨o, rfl, rfl, hc⟩
      have lu : w.us.length = w.C.length := by rw [L.er.len, List.length_map]
      rw [lu, List.drop_length] at hc
      walk_at "w"
      exact k.some (hc.trans cellF_nil) Gr.refl (.str _)
  | ret v ha hn =>
    obtain ⟨u1, us, rfl, r1, hz1⟩ := hz0.cons_of
    cases hz1.nil_of
    rw [pF_ret] at k
    walk_at "w"
    exact ⟨w, _, _, _, _, rfl, L, r1, hv0, ha, k⟩
  | if_ x l m hx a b =>
    obtain ⟨u1, us, rfl, r1, hz1⟩ := hz0.cons_of
    obtain ⟨u2, us, rfl, r2, hz2⟩ := hz1.cons_of
    obtain ⟨u3, us, rfl, r3, hz3⟩ := hz2.cons_of
    cases hz3.nil_of
    cases r1
    rw [pF_nm (by decide) (by decide) (by decide) (by decide)] at k
    walk_at "w"
    refine ⟨x, rfl, hx, ?_⟩
    walk_at "w"
    refine i_2 (fun h => ?_) (fun h => ?_)
    · walk_at "w"
      exact k.none (nmF_t h) Gr.refl
    · walk_at "w"
      exact k.some (nmF_f h) Gr.refl (.str _)
  | while_ x l hx a =>
    obtain ⟨u1, us, rfl, r1, hz1⟩ := hz0.cons_of
    obtain ⟨u2, us, rfl, r2, hz2⟩ := hz1.cons_of
    cases hz2.nil_of
    cases r1
    rw [pF_nm (by decide) (by decide) (by decide) (by decide)] at k
    walk_at "w"
    refine ⟨x, rfl, hx, ?_⟩
    walk_at "w"
    refine i_2 (fun h => ?_) (fun h => ?_)
    · walk_at "w"
      exact k.none (nmF_t h) Gr.refl
    · walk_at "w"
      exact k.some (nmF_f h) Gr.refl (.str _)
  | leave x hx =>
    obtain ⟨u1, us, rfl, r1, hz1⟩ := hz0.cons_of
    cases hz1.nil_of
    cases r1
    rw [pF_nm (by decide) (by decide) (by decide) (by decide)] at k
    walk_at "w"
    refine ⟨x, rfl, hx, ?_⟩
    walk_at "w"
    refine i_2 (fun h => ?_) (fun h => ?_)
    · walk_at "w"
      exact k.none (nmF_t h) Gr.refl
    · walk_at "w"
      exact k.some (nmF_f h) Gr.refl (.str _)
  | raise_ x hx =>
    obtain ⟨u1, us, rfl, r1, hz1⟩ := hz0.cons_of
    cases hz1.nil_of
    cases r1
    rw [pF_nm (by decide) (by decide) (by decide) (by decide)] at k
    walk_at "w"
    refine ⟨x, rfl, hx, ?_⟩
    walk_at "w"
    refine i_2 (fun h => ?_) (fun h => ?_)
    · walk_at "w"
      exact k.none (nmF_t h) Gr.refl
    · walk_at "w"
      exact k.some (nmF_f h) Gr.refl (.str _)
end
end Xd

/-! text D17 -/
/-! the law's own check of blocks -/
namespace Xd
open PySem PySem.Spec PyProof.Rows L2
local macro_rules | `(tactic| walk_at "w1") => `(tactic| first
  | with_reducible apply r_seq
  | with_reducible apply r_asg
  | with_reducible apply r_gname
  | ((with_reducible apply r_var); exact rfl)
  | with_reducible apply r_c
  | with_reducible apply r_op
  | with_reducible apply r_I0
  | ((with_reducible apply r_eq); exact rfl)
  | ((with_reducible apply r_ne); exact rfl)
  | with_reducible apply r_if
  | with_reducible apply r_test
  | with_reducible apply r_tB
  | with_reducible apply r_bl
  | with_reducible apply r_and
  | with_reducible apply r_or
  | with_reducible apply r_not
  | with_reducible apply r_ret
  | with_reducible apply r_drop
  | with_reducible apply r_cons
  | with_reducible apply r_nil
  | with_reducible apply r_cal
  | with_reducible apply r_cb
  | with_reducible apply r_tup
  | with_reducible apply r_lst
  | with_reducible apply r_next
  | with_reducible apply r_retN
  | with_reducible apply r_un
  | with_reducible apply r_U
  | with_reducible apply r_andV
  | with_reducible apply r_orV
  | with_reducible apply r_notV
  | with_reducible apply r_ifx
  | with_reducible apply r_forT
  | with_reducible apply r_forL
  | with_reducible apply r_forR
  | with_reducible apply r_sl
  | with_reducible apply r_nop
  | with_reducible apply r_part
  | with_reducible apply r_kPart
  | with_reducible apply r_gsub
  | with_reducible apply r_int1
  | with_reducible apply r_isN
  | with_reducible apply r_notN
  | with_reducible apply r_ltStr
  | with_reducible apply r_inS
  | with_reducible apply r_niS
  | with_reducible apply r_bm
  | with_reducible apply r_forS
  | with_reducible apply r_lcL
  | with_reducible apply r_lcT
  | with_reducible apply r_m0
  | with_reducible apply r_din
  | with_reducible apply r_dnin
  | with_reducible apply r_dget
  | ((with_reducible apply r_gtup); (assumption); (exact rfl))
  | with_reducible apply r_gcons
  | with_reducible apply r_gnil
  | (with_reducible refine r_lo0 (by assumption) ?_)
  | (with_reducible refine r_lo2 (by assumption) ?_)
  | (with_reducible refine r_isi_non (b := true) (by decide +kernel) ?_)
  | (with_reducible refine r_isi_int (b := true) (by decide +kernel) ?_)
  | (with_reducible refine r_isi_str (b := true) (by decide +kernel) ?_)
  | ((with_reducible apply r_isi_tup (b := true)); (assumption); (exact (by decide +kernel)))
  | ((with_reducible apply r_isi_lst (b := true)); (assumption); (exact (by decide +kernel)))
  | (with_reducible refine r_isi_non (b := false) (by decide +kernel) ?_)
  | (with_reducible refine r_isi_int (b := false) (by decide +kernel) ?_)
  | (with_reducible refine r_isi_str (b := false) (by decide +kernel) ?_)
  | ((with_reducible apply r_isi_tup (b := false)); (assumption); (exact (by decide +kernel)))
  | ((with_reducible apply r_isi_lst (b := false)); (assumption); (exact (by decide +kernel)))
  | (with_reducible refine r_l0 (by assumption) ?_)
  | (with_reducible refine r_l2 (by assumption) ?_)
  | (with_reducible refine r_lenN (by assumption) ?_)
  | (with_reducible refine r_lenC (by assumption) ?_)
  | ((with_reducible apply r_ixT'); (assumption); (first | exact rfl | exact atI_0 | exact atI_1 | exact atI_2))
  | ((with_reducible apply r_ixL'); (assumption); (exact rfl))
  | ((with_reducible apply i_f); exact rfl)
  | ((with_reducible apply i_t); exact rfl)
  | ((with_reducible apply r_I); first | exact Or.inr ⟨by decide, by decide⟩ | exact (by decide) | assumption | exact ⟨by omega, by omega⟩ | exact (by omega) | exact ⟨by decide, by decide, by decide⟩))
local macro_rules | `(tactic| walk_at "w") => `(tactic| repeat (walk_at "w1"))

theorem Prt.blks {P : List D → Prop} {w : Str} {r : List D} (p : Prt P w r) : ∀ l ∈ blks w r, P l := by
  cases p with
  | if_ x l m z a b => exact all2' a (all1' b)
  | while_ x l z a => exact all1' a
  | when_ x i l m a b => exact all2' a (all1' b)
  | _ => exact fun l hl => nomatch hl
where
  all1' {P : List D → Prop} {a : List D} (h : P a) : ∀ x ∈ [a], P x := fun x hx => by rw [List.mem_singleton.mp hx]; exact h
  all2' {P : List D → Prop} {a : List D} {l : List (List D)} (h : P a) (t : ∀ x ∈ l, P x) : ∀ x ∈ a :: l, P x := fun x hx => by
    rcases List.mem_cons.mp hx with rfl | hx
    · exact h
    · exact t x hx
/-- the fault of one statement, b levels left -/
def gF (N : List Str) (C : List (Str × Int)) : Nat → D → Option Flt
  | 0, s => some ("BadStatement", s)
  | b + 1, s => sF N C (bF N C b) s
theorem bF_g (N : List Str) (C : List (Str × Int)) : ∀ (b : Nat) (l : List D), bF N C b l = l.findSome? (gF N C b)
  | 0, [] => rfl
  | 0, s :: r => rfl
  | b + 1, l => rfl
section
variable {N : List Str} {C : List (Str × Int)} {b : Nat} {w : Str} {r : List D}
theorem gF_bad (h : b ≠ 0 → lenOf w ≠ some ((r.length : Int) + 1)) : gF N C b (.tup (.str w :: r)) = ft "BadStatement" (.tup (.str w :: r)) := by
  cases b with
  | zero => rfl
  | succ b => exact if_neg (h (by omega))
theorem gF_part {e : Flt} (h : lenOf w = some ((r.length : Int) + 1)) (hp : pF N C w r = some e) : gF N C (b + 1) (.tup (.str w :: r)) = some e := by
  refine (if_pos h).trans ?_
  rw [hp]
theorem gF_blk (h : lenOf w = some ((r.length : Int) + 1)) (hp : pF N C w r = none) : gF N C (b + 1) (.tup (.str w :: r)) = (blks w r).findSome? (bF N C b) := by
  refine (if_pos h).trans ?_
  rw [hp]
end
def spBlockFault (b : Nat) : Sp := fun vs H Q _ => ∃ (w : Wo) (v : V) (l : List D) (dp : Int) (n : Nat), vs = [.ref w.a, v, .int dp] ∧ Lo w H ∧ Rp H v (.tup l) ∧ KB n l ∧ 0 ≤ dp ∧ dp + b = 5 ∧ FltK (bF w.N w.C b l) H Q
theorem sc__law_block_fault : FnScope ["_law_lore_here", "_law_block_here", "_law_depth", "_law_statement_here", "_law_word", "_law_fault_here", "_law_inner"] ["_law_lore_here", "_law_block_here", "_law_depth"] (defScope s__law_block_fault) := ⟨rfl, rfl, rfl, by decide +kernel, rfl, by decide +kernel, by decide +kernel⟩
section
variable {G : Ctx}
theorem step__law_block_fault (T : Txt G) (c__law_lengths : Cal G 1 (He.ga G.K "_law_lengths") spLengths []) (c__law_blocks : ∀ P, Cal G 1 (He.ga G.K "_law_blocks") (spBlocks P) []) (c__law_parts_fault : ∀ P, Cal G 9 (He.ga G.K "_law_parts_fault") (spPartsFault P) []) {b : Nat} {sp' : Sp} (c__law_block_fault : Cal G (b + 9) (He.ga G.K "_law_block_fault") sp' [])
    (hsp : ∀ b', b = b' + 1 → ∀ vs H Q E, spBlockFault b' vs H Q E → sp' vs H Q E) : Cal G (b + 10) (He.ga G.K "_law_block_fault") (spBlockFault b) [] := by
  have lv := fun m => c__law_parts_fault (KB m)
  have lb := fun m => c__law_blocks (KB m)
  refine cal_of (k := b + 9) T.f__law_block_fault sc__law_block_fault (fun _ _ _ _ _ _ us hl => match us, hl with | [_, _, _], _ => rfl) (fun vs H Q E h => ?_) (fun cdv A outer s H vs Q E hr h => ?_)
  · obtain ⟨w, v, l, dp, n, rfl, _⟩ := h
    rfl
  obtain ⟨w, v, l, dp, n, rfl, L, hv, hl, d0, d5, k⟩ := h
  have c__law_parts_fault := lv (n - 1)
  have c__law_blocks := lb (n - 1)
  refine ⟨_, ((pss_cons (ps_for (passes_of rfl) rfl (pi_tup (pv 1)) (pg_name (i := 3) sc__law_block_fault.nd rfl (Or.inl rfl))
    (pss_cons (ps_set (i := 4) sc__law_block_fault.nd rfl (Or.inl rfl) (pe_ix ix_tup (pv 3) pe_int (fun _ _ => rfl)))
    (Evl.pss_cut (ps_if (PW.pt (pw_or (pt_cmp (pc_dnotin (hu_of hr) (pv 4) (pe_cal0 c__law_lengths T.g__law_lengths hr (by omega) (takes_of rfl rfl rfl rfl) (fun _ _ _ _ h => h) rfl))) (pw_or (pt_cmpR op_ne (pe_callB call_lenQ rfl T.v_len PySem.boot_len (pa_cons (pv 3) pa_nil)) (pe_dget (hu_of hr) (pe_cal0 c__law_lengths T.g__law_lengths hr (by omega) (takes_of rfl rfl rfl rfl) (fun _ _ _ _ h => h) rfl) (pv 4) (fun _ _ => rfl)) (nomark _)) (pw_or1 (pt_cmpR op_gt (pv 2) pe_int (nomark _)))))) (pss_one (ps_ret (pe_tup (pa_cons pe_str (pa_cons (pv 3) pa_nil))))) pss_nil)
    (pss_cons (ps_set (i := 5) sc__law_block_fault.nd rfl (Or.inl rfl) (pe_cal c__law_parts_fault T.g__law_parts_fault hr (by omega) (takes_of rfl rfl rfl rfl) (fun _ _ _ _ h => h) rfl (pa_cons (pv 0) (pa_cons (pv 3) pa_nil))))
    (pss_cons (ps_if (pt_cmpR op_notN1 (pv 5) pe_non (nomark _)) (pss_one (ps_ret (pv 5))) pss_nil)
    (pss_one (ps_for (passes_of rfl) rfl (pi_list (pe_cal c__law_blocks T.g__law_blocks hr (by omega) (takes_of rfl rfl rfl rfl) (fun _ _ _ _ h => h) rfl (pa_cons (pv 3) pa_nil))) (pg_name (i := 6) sc__law_block_fault.nd rfl (Or.inl rfl))
    (pss_cons (ps_set (i := 5) sc__law_block_fault.nd rfl (Or.inl rfl) (pe_cal c__law_block_fault T.g__law_block_fault hr (by omega) (takes_of rfl rfl rfl rfl) (fun _ _ _ _ h => h) rfl (pa_cons (pv 0) (pa_cons (pv 6) (pa_cons (pe_op op_add (pv 2) pe_int) pa_nil)))))
    (pss_one (ps_if (pt_cmpR op_notN1 (pv 5) pe_non (nomark _)) (pss_one (ps_ret (pv 5))) pss_nil))))))))))
    (pss_one (ps_ret pe_non)))), ?_⟩
  obtain ⟨t, vs, rfl, et, hz⟩ := hv.tup_of
  rw [bF_g] at k
  walk_at "w"
  refine k_forT (SqT.of et) (fun i σ' H' => ∃ o1 o2 o3 o4, σ' = [some (.ref w.a), some (.ref t), some (.int dp), o1, o2, o3, o4] ∧ Gr [] H H' ∧ ∀ j y, j < i → l[j]? = some y → gF w.N w.C b y = none) ⟨none, none, none, none, rfl, Gr.refl, fun j y z => by omega⟩ (fun i σ' H' hi ⟨_, _, _, _, _, g', _⟩ => SqT.of (g'.tu _ _ et)) ?_ ?_
  · rintro i x σ1 H1 hx ⟨o1, o2, o3, o4, rfl, g1, hall⟩
    obtain ⟨d, hd, rd⟩ := hz.get hx
    have rd1 := rd.mono g1.tu
    have hks := hl.2 d (List.mem_of_getElem? hd)
    obtain ⟨m, rfl⟩ : ∃ m, n = m + 1 := by
      cases n with
      | zero => exact hks.elim
      | succ m => exact ⟨m, rfl⟩
    obtain ⟨wd, r, rfl, h5, hdp, hpt⟩ := hks
    have fnd : ∀ {e : Flt}, gF w.N w.C b (.tup (.str wd :: r)) = some e → l.findSome? (gF w.N w.C b) = some e := fun e => find_at hd e hall
    have rd0 := rd1
    obtain ⟨ts, us, rfl, ets, hus⟩ := rd1.tup_of
    obtain ⟨v0, us, rfl, h0, hus0⟩ := hus.cons_of
    cases h0
    have ul := hus0.len
    walk_at "w"
    refine r_cut (fun σ' H' => σ' = [some (.ref w.a), some (.ref t), some (.int dp), some (.ref ts), some (.str wd), o3, o4] ∧ Gr [] H1 H' ∧ lenOf wd = some ((r.length : Int) + 1) ∧ b ≠ 0) ?_ ?_
    · walk_at "w"
      refine ⟨rfl, fun q H2 g2 e2 => ?_⟩
      refine k_dnin (k := .inr wd) e2 ?_
      rw [LK_get]
      cases hw : lenOf wd with
      | none =>
        walk_at "w"
        exact k.some (fnd (gF_bad fun _ => by rw [hw]; intro z; cases z)) (g1.trans g2) (rd0.mono g2.tu)
      | some j =>
        have ets2 := g2.tu _ _ ets
        walk_at "w"
        refine r_lenT ets2 ?_
        walk_at "w"
        refine ⟨rfl, fun q3 H3 g3 e3 => ?_⟩
        walk_at "w"
        refine k_dget (k := .inr wd) e3 (v := .int j) (by rw [LK_get, hw] <;> rfl) ?_
        walk_at "w"
        refine i_n (fun hj => ?_) (fun hj => ?_)
        · have hj2 : lenOf wd = some ((r.length : Int) + 1) := by
            have := V.int.inj hj
            rw [hw, ← this, List.length_cons, ul] <;> rfl
          walk_at "w"
          refine i_d (fun h4 => ?_) (fun h4 => ?_)
          · walk_at "w"
            exact k.some (fnd (gF_bad fun z => absurd h4 (by omega))) ((g1.trans g2).trans g3) (rd0.mono (g2.tu.trans g3.tu))
          · walk_at "w"
            exact ⟨rfl, g2.trans g3, by rw [← hw]; exact hj2, fun z => h4 (by omega)⟩
        · walk_at "w"
          refine k.some (fnd (gF_bad fun _ z => hj ?_)) ((g1.trans g2).trans g3) (rd0.mono (g2.tu.trans g3.tu))
          rw [hw] at z
          rw [Option.some.inj z, List.length_cons, ul] <;> rfl
    rintro σ2 H2 ⟨rfl, g2, hlen, hb⟩
    obtain ⟨b, rfl⟩ : ∃ b', b = b' + 1 := ⟨b - 1, by omega⟩
    have hp := hpt hlen
    have ets2 := g2.tu _ _ ets
    have g12 := g1.trans g2
    walk_at "w"
    refine ⟨w, _, wd, r, rfl, L.gr g12, rd0.mono g2.tu, hp, fun e0 H3 g3 => ?_, fun xe de e0 H3 v3 g3 hv3 => ?_⟩
    rotate_left
    · obtain ⟨b4, _, rfl, _⟩ := hv3.tup_of
      walk_at "w"
      exact k.val (fnd (gF_part hlen e0)) (g12.trans g3) hv3
    walk_at "w"
    refine ⟨_, wd, r, rfl, (rd0.mono g2.tu).mono g3.tu, hp, fun q us4 H4 g4 hq e4 hr4 => ?_⟩
    have g14 := (g12.trans g3).trans g4
    refine k_forL (SqL.of e4) (fun i' σ' H' => ∃ o3 o4, σ' = [some (.ref w.a), some (.ref t), some (.int dp), some (.ref ts), some (.str wd), o3, o4] ∧ Gr [] H4 H' ∧ ∀ j y, j < i' → (blks wd r)[j]? = some y → bF w.N w.C b y = none) ⟨_, _, rfl, Gr.refl, fun j y z => by omega⟩ (fun i σ' H' hi ⟨_, _, _, g', _⟩ => SqL.of (g'.at0 e4)) ?_ ?_
    · rintro i' u σ5 H5 hu ⟨o3, o4, rfl, g5, hall5⟩
      obtain ⟨d5', hd5, rd5⟩ := hr4.get hu
      rw [List.getElem?_map] at hd5
      obtain ⟨lb', hlb, e⟩ := Option.map_eq_some_iff.mp hd5
      subst e
      walk_at "w"
      refine hsp b rfl _ _ _ _ ⟨w, u, lb', dp + 1, _, rfl, L.gr (g14.trans g5), rd5.mono g5.tu, hp.blks lb' (List.mem_of_getElem? hlb), by omega, by omega, fun e0 H6 g6 => ?_, fun xe de e0 H6 v6 g6 hv6 => ?_⟩
      · walk_at "w"
        refine ⟨_, _, rfl, g5.trans g6, fun j y hj hy => ?_⟩
        by_cases e : j = i'
        · subst e
          rw [hlb] at hy
          cases hy
          exact e0
        · exact hall5 j y (by omega) hy
      · obtain ⟨b6, _, rfl, _⟩ := hv6.tup_of
        walk_at "w"
        exact k.val (fnd ((gF_blk hlen ‹pF w.N w.C wd r = none›).trans (find_at hlb e0 hall5))) ((g14.trans g5).trans g6) hv6
    · rintro σ5 H5 ⟨o3, o4, rfl, g5, hall5⟩
      have e0 : pF w.N w.C wd r = none := by assumption
      refine ⟨_, _, _, _, rfl, g14.trans g5, fun j y hj hy => ?_⟩
      by_cases e : j = i
      · subst e
        rw [hd] at hy
        cases hy
        refine (gF_blk hlen e0).trans (find_no' fun j y hj hy => hall5 j y ?_ hy)
        rw [hr4.len, List.length_map]
        exact hj
      · exact hall j y (by omega) hy
  · rintro σ1 H1 ⟨o1, o2, o3, o4, rfl, g1, hall⟩
    walk_at "w"
    exact k.none (find_no' fun j y hj hy => hall j y (by rw [hz.len]; exact hj) hy) g1
theorem k__law_block_fault (T : Txt G) (c__law_lengths : Cal G 1 (He.ga G.K "_law_lengths") spLengths []) (c__law_blocks : ∀ P, Cal G 1 (He.ga G.K "_law_blocks") (spBlocks P) []) (c__law_parts_fault : ∀ P, Cal G 9 (He.ga G.K "_law_parts_fault") (spPartsFault P) []) : ∀ b : Nat, Cal G (b + 10) (He.ga G.K "_law_block_fault") (spBlockFault b) []
  | 0 => step__law_block_fault T c__law_lengths c__law_blocks c__law_parts_fault (sp' := fun _ _ _ _ => False) (cal_never T.f__law_block_fault sc__law_block_fault (fun _ _ _ _ _ _ us hl => match us, hl with | [_, _, _], _ => rfl) fun _ _ _ _ h => h) fun b' e => by cases e
  | b + 1 => step__law_block_fault T c__law_lengths c__law_blocks c__law_parts_fault (k__law_block_fault T c__law_lengths c__law_blocks c__law_parts_fault b) fun b' e => by cases e; exact fun _ _ _ _ h => h
end
end Xd

/-! text D18 -/
/-! sizes; sameness -/
namespace Xd
open PySem PySem.Spec PyProof.Rows L2
local macro_rules | `(tactic| walk_at "w1") => `(tactic| first
  | with_reducible apply r_seq
  | with_reducible apply r_asg
  | with_reducible apply r_gname
  | ((with_reducible apply r_var); exact rfl)
  | with_reducible apply r_c
  | with_reducible apply r_op
  | with_reducible apply r_I0
  | ((with_reducible apply r_eq); exact rfl)
  | ((with_reducible apply r_ne); exact rfl)
  | with_reducible apply r_if
  | with_reducible apply r_test
  | with_reducible apply r_tB
  | with_reducible apply r_bl
  | with_reducible apply r_and
  | with_reducible apply r_or
  | with_reducible apply r_not
  | with_reducible apply r_ret
  | with_reducible apply r_drop
  | with_reducible apply r_cons
  | with_reducible apply r_nil
  | with_reducible apply r_cal
  | with_reducible apply r_cb
  | with_reducible apply r_tup
  | with_reducible apply r_lst
  | with_reducible apply r_next
  | with_reducible apply r_retN
  | with_reducible apply r_un
  | with_reducible apply r_U
  | with_reducible apply r_andV
  | with_reducible apply r_orV
  | with_reducible apply r_notV
  | with_reducible apply r_ifx
  | with_reducible apply r_forT
  | with_reducible apply r_forL
  | with_reducible apply r_forR
  | with_reducible apply r_sl
  | with_reducible apply r_nop
  | with_reducible apply r_part
  | with_reducible apply r_kPart
  | with_reducible apply r_gsub
  | with_reducible apply r_int1
  | with_reducible apply r_isN
  | with_reducible apply r_notN
  | with_reducible apply r_ltStr
  | with_reducible apply r_inS
  | with_reducible apply r_niS
  | with_reducible apply r_bm
  | with_reducible apply r_forS
  | with_reducible apply r_lcL
  | with_reducible apply r_lcT
  | with_reducible apply r_m0
  | with_reducible apply r_bm0
  | with_reducible apply r_din
  | with_reducible apply r_dnin
  | with_reducible apply r_dget
  | ((with_reducible apply r_gtup); (assumption); (exact rfl))
  | with_reducible apply r_gcons
  | with_reducible apply r_gnil
  | (with_reducible refine r_lo0 (by assumption) ?_)
  | (with_reducible refine r_lo2 (by assumption) ?_)
  | (with_reducible refine r_isi_non (b := true) (by decide +kernel) ?_)
  | (with_reducible refine r_isi_int (b := true) (by decide +kernel) ?_)
  | (with_reducible refine r_isi_str (b := true) (by decide +kernel) ?_)
  | ((with_reducible apply r_isi_tup (b := true)); (assumption); (exact (by decide +kernel)))
  | ((with_reducible apply r_isi_lst (b := true)); (assumption); (exact (by decide +kernel)))
  | (with_reducible refine r_isi_non (b := false) (by decide +kernel) ?_)
  | (with_reducible refine r_isi_int (b := false) (by decide +kernel) ?_)
  | (with_reducible refine r_isi_str (b := false) (by decide +kernel) ?_)
  | ((with_reducible apply r_isi_tup (b := false)); (assumption); (exact (by decide +kernel)))
  | ((with_reducible apply r_isi_lst (b := false)); (assumption); (exact (by decide +kernel)))
  | (with_reducible refine r_l0 (by assumption) ?_)
  | (with_reducible refine r_l2 (by assumption) ?_)
  | (with_reducible refine r_lenN (by assumption) ?_)
  | (with_reducible refine r_lenC (by assumption) ?_)
  | ((with_reducible apply r_ixT'); (assumption); (first | exact rfl | exact atI_0 | exact atI_1 | exact atI_2))
  | ((with_reducible apply r_ixL'); (assumption); (exact rfl))
  | ((with_reducible apply i_f); exact rfl)
  | ((with_reducible apply i_t); exact rfl)
  | ((with_reducible apply r_I); first | exact Or.inr ⟨by decide, by decide⟩ | exact (by decide) | assumption | exact ⟨by omega, by omega⟩ | exact (by omega) | exact ⟨by decide, by decide, by decide⟩))
local macro_rules | `(tactic| walk_at "w") => `(tactic| repeat (walk_at "w1"))

theorem Rps.snoc_of {H : Hp} : ∀ {ds : List D} {us : List V} {d : D}, Rps H us (ds ++ [d]) → ∃ ws v, us = ws ++ [v] ∧ Rps H ws ds ∧ Rp H v d
  | [], us, d, h => by
    obtain ⟨v, ws, rfl, h1, h2⟩ := h.cons_of
    cases h2.nil_of
    exact ⟨[], v, rfl, .nil, h1⟩
  | d0 :: ds, us, d, h => by
    obtain ⟨v, ws, rfl, h1, h2⟩ := Rps.cons_of (d := d0) (ds := ds ++ [d]) h
    obtain ⟨ws', v', rfl, h3, h4⟩ := Rps.snoc_of h2
    exact ⟨v :: ws', v', rfl, .cons h1 h3, h4⟩
theorem dep_len {n : Nat} {l : List D} (h : Dep n (.tup l)) : l.length ≤ 1000 := by
  cases n with
  | zero => exact h.elim
  | succ n => exact h.1
def cn : Nat × D → Nat
  | (0, _) => 0
  | (n + 1, d) => cntS (cnt n) d
theorem cn_pos {p : Nat × D} (h : RS p.1 p.2) : 1 ≤ cn p := by
  match p, h with
  | (n + 1, d), ⟨w, r, e, hp⟩ =>
    subst e
    show 1 ≤ 1 + _
    omega
theorem cn_blk {n : Nat} {l : List D} (h : RB n l) : ((l.map fun s => (n, s)).map cn).sum = cnt n l := by
  cases n with
  | zero =>
    cases l with
    | nil => rfl
    | cons a r => exact (h.2 a List.mem_cons_self).elim
  | succ n =>
    rw [List.map_map] <;> rfl
theorem cn_blks {n : Nat} : ∀ {bl : List (List D)}, (∀ b ∈ bl, RB n b) → ((bl.flatten.map fun s => (n, s)).map cn).sum = (bl.map (cnt n)).sum
  | [], _ => rfl
  | b :: r, h => by
    rw [List.flatten_cons, List.map_append, List.map_append, List.sum_append, cn_blk (h b List.mem_cons_self), cn_blks fun b hb => h b (List.mem_cons_of_mem _ hb), List.map_cons, List.sum_cons]
theorem len_sum : ∀ {l : List (Nat × D)}, (∀ p ∈ l, RS p.1 p.2) → l.length ≤ (l.map cn).sum
  | [], _ => by simp
  | a :: r, h => by
    have h1 := cn_pos (h a List.mem_cons_self)
    have h2 := len_sum fun p hp => h p (List.mem_cons_of_mem _ hp)
    rw [List.map_cons, List.sum_cons, List.length_cons]
    omega
def spSize : Sp := fun vs H Q _ => ∃ v l n, vs = [v] ∧ Rp H v (.tup l) ∧ RB n l ∧ n ≤ 5 ∧ ∀ H', Gr [] H H' → Q (.int (cnt n l)) H'
def spSame (n : Nat) : Sp := fun vs H Q _ => ∃ v1 v2 d, vs = [v1, v2] ∧ Rp H v1 d ∧ Rp H v2 d ∧ Dep n d ∧ ∀ H', Gr [] H H' → Q (.bl true) H'
theorem sc__law_size : FnScope ["_law_statements", "_law_many_here", "_law_statement_here", "_law_todo"] ["_law_statements"] (defScope s__law_size) := ⟨rfl, rfl, rfl, by decide +kernel, rfl, by decide +kernel, by decide +kernel⟩
theorem sc__law_same : FnScope ["_law_actual", "_law_expected", "_law_k"] ["_law_actual", "_law_expected"] (defScope s__law_same) := ⟨rfl, rfl, rfl, by decide +kernel, rfl, by decide +kernel, by decide +kernel⟩
section
variable {G : Ctx}
theorem k__law_size (T : Txt G) : Cal G 1 (He.ga G.K "_law_size") spSize [] := by
  refine cal_of T.f__law_size sc__law_size (fun _ _ _ _ _ _ us hl => match us, hl with | [_], _ => rfl) (fun vs H Q E h => ?_) (fun cdv A outer s H vs Q E hr h => ⟨_, ((pss_cons (ps_set (i := 1) sc__law_size.nd rfl (Or.inl rfl) pe_int)
    (pss_cons (ps_setLc (i := 3) (own := [("_law_statement_here", 2)]) rfl sc__law_size.nd rfl rfl (sw_true rfl rfl rfl (by decide +kernel)) (pi_tup (pv 0)) (blkOk_by (N := ["_law_statements", "_law_many_here", "_law_statement_here", "_law_todo"]) (sc := defScope s__law_size) (by decide +kernel)) (fun _ _ _ _ _ => (pg_name (i := 2) sc__law_size.nd rfl (Or.inl rfl))) (fun _ _ _ _ _ => pts_nil) (fun _ _ _ _ _ => (pv 2)))
    (pss_cons (ps_while (passes_of rfl) (pt_cmpR op_gt (pe_callB call_lenQ rfl T.v_len PySem.boot_len (pa_cons (pv 3) pa_nil)) pe_int (nomark _)) (pss_cons (ps_set (i := 2) sc__law_size.nd rfl (Or.inl rfl) (pe_bm0 PySem.F.plainAttrs_list PySem.F.slot_list_pop PySem.F.type_list_pop mt_pop (pv 3)))
    (pss_cons (ps_set (i := 1) sc__law_size.nd rfl (Or.inl rfl) (pe_op op_add (pv 1) pe_int))
    (pss_cons (ps_if (PW.pt (pw_or (pt_cmpR op_eq (pe_ix ix_tup (pv 2) pe_int (fun _ _ => rfl)) pe_str (nomark _)) (pw_or1 (pt_cmpR op_eq (pe_ix ix_tup (pv 2) pe_int (fun _ _ => rfl)) pe_str (nomark _))))) (pss_one (ps_set (i := 3) sc__law_size.nd rfl (Or.inl rfl) (pe_op op_cat (pe_op op_cat (pv 3) (pe_callTy call_lstOf rfl T.v_list (by decide +kernel) (pa_cons (pe_ix ix_tup (pv 2) (pe_un un_neg pe_int) (fun _ _ => rfl)) pa_nil))) (pe_callTy call_lstOf rfl T.v_list (by decide +kernel) (pa_cons (pe_ix ix_tup (pv 2) (pe_un un_neg pe_int) (fun _ _ => rfl)) pa_nil))))) pss_nil)
    (pss_one (ps_if (pt_cmpR op_eq (pe_ix ix_tup (pv 2) pe_int (fun _ _ => rfl)) pe_str (nomark _)) (pss_one (ps_set (i := 3) sc__law_size.nd rfl (Or.inl rfl) (pe_op op_cat (pv 3) (pe_callTy call_lstOf rfl T.v_list (by decide +kernel) (pa_cons (pe_ix ix_tup (pv 2) pe_int (fun _ _ => rfl)) pa_nil))))) pss_nil))))))
    (pss_one (ps_ret (pv 1))))))), ?_⟩)
  · obtain ⟨v, l, n, rfl, _⟩ := h
    rfl
  obtain ⟨v, l, n, rfl, hv, hl, n5, k⟩ := h
  have hM : cnt n l + 1 ≤ 9 ^ 5 := Nat.le_trans (cnt_le hl) (Nat.pow_le_pow_right (by decide) n5)
  obtain ⟨t, vs, rfl, et, hz⟩ := hv.tup_of
  walk_at "w"
  refine k_lcT et (fun i acc _ => acc = vs.take i) (fun _ _ => rfl) ?_ ?_
  · intro D i x acc H2 hD hx g2 hi e2 pv
    walk_at "w"
    refine ⟨rfl, ?_⟩
    walk_at "w"
    have hlen : i < vs.length := (List.getElem?_eq_some_iff.mp hx).1
    refine k_el hD g2 e2 hi (by have := hz.len; have := hl.1; omega) Gr.refl fun H5 g5 => ?_
    subst pv
    rw [List.take_add_one, hx] <;> rfl
  intro q H1 acc hq g1 e1 hal pv
  rw [List.take_length] at pv
  subst pv
  walk_at "w"
  refine r_while (fun m σ' H' => ∃ (q : Addr) (us : List V) (its : List (Nat × D)) (o : Option V), σ' = [some (.ref t), some (.int ((cnt n l : Int) - m)), o, some (.ref q)] ∧ H q = none ∧ H' q = some (.lst us) ∧ Rps H' us (its.map (·.2)) ∧ (∀ p ∈ its, RS p.1 p.2) ∧ (its.map cn).sum = m ∧ m ≤ cnt n l ∧ Gr [] H H') (cnt n l) ?_ ?_
  · refine ⟨q, _, l.map fun s => (n, s), none, ?_, hq, e1, ?_, ?_, cn_blk hl, Nat.le_refl _, g1⟩
    · rw [Int.sub_self] <;> rfl
    · have e : (l.map fun s => (n, s)).map (·.2) = l := by
        rw [List.map_map]
        exact List.map_id _
      rw [e]
      exact Rps.mono g1.tu hz
    · intro p hp
      obtain ⟨s, hs, rfl⟩ := List.mem_map.mp hp
      exact hl.2 s hs
  · rintro m σ2 H2 ⟨q, us, its, o, rfl, hq0, eq, hus, hits, hm, hmc, g2⟩
    have hil := len_sum hits
    walk_at "w"
    refine r_lenL eq ?_
    walk_at "w"
    refine i_d (fun hpos => ?_) (fun hz0 => ?_)
    · refine ⟨fun σ' H' => ∃ m', m' < m ∧ ∃ (q : Addr) (us : List V) (its : List (Nat × D)) (o : Option V), σ' = [some (.ref t), some (.int ((cnt n l : Int) - m')), o, some (.ref q)] ∧ H q = none ∧ H' q = some (.lst us) ∧ Rps H' us (its.map (·.2)) ∧ (∀ p ∈ its, RS p.1 p.2) ∧ (its.map cn).sum = m' ∧ m' ≤ cnt n l ∧ Gr [] H H', fun _ _ h => h, ?_⟩
      obtain ⟨its, p, rfl⟩ : ∃ i' p, its = i' ++ [p] := by
        rcases List.eq_nil_or_concat its with e | ⟨i', p, e⟩
        · subst e
          have := hus.len
          simp at this
          rw [this] at hpos
          simp at hpos
        · exact ⟨i', p, by rw [e, List.concat_eq_append]⟩
      rw [List.map_append] at hus
      obtain ⟨ws, v, rfl, hws, hv⟩ := Rps.snoc_of hus
      have hp := hits p (List.mem_append_right _ List.mem_cons_self)
      have hits' : ∀ p ∈ its, RS p.1 p.2 := fun p hp => hits p (List.mem_append_left _ hp)
      obtain ⟨pn, pd⟩ := p
      match pn, hp with
      | pn + 1, ⟨wd, r, e, hpt⟩ =>
      have e : pd = .tup (.str wd :: r) := e
      subst e
      rw [List.map_append, List.sum_append] at hm
      have hm2 : (its.map cn).sum + (1 + ((blks wd r).map (cnt pn)).sum + 0) = m := hm
      walk_at "w"
      refine ⟨.inl ⟨rfl, _, SqL.of eq⟩, ?_⟩
      refine r_pop eq ?_
      have g3 : Gr [q] H2 (upd H2 q (.lst ws)) := Gr.set eq List.mem_cons_self (fun xs z => nomatch z)
      have g03 : Gr [] H (upd H2 q (.lst ws)) := g2.own hq0
      have eq3 : upd H2 q (.lst ws) q = some (.lst ws) := upd_same
      generalize upd H2 q (.lst ws) = H3 at g3 g03 eq3 ⊢
      have hv3 := hv.mono g3.tu
      have hws3 := Rps.mono g3.tu hws
      have wl : ws.length = its.length := by rw [hws.len, List.length_map]
      have il : its.length ≤ 60000 := by
        have := len_sum hits'
        have e5 : (9 : Nat) ^ 5 = 59049 := by decide
        omega
      obtain ⟨ts, vs', rfl, ets, hvs'⟩ := hv3.tup_of
      obtain ⟨v0, vs', rfl, h0, hvs0⟩ := hvs'.cons_of
      cases h0
      have hcnt : ∀ k : Nat, m = k + 1 → ((cnt n l : Int) - m) + 1 = (cnt n l : Int) - k := fun k e => by omega
      have fin : ∀ (q7 : Addr) (us7 : List V) (bl : List (List D)) H7, blks wd r = bl → H q7 = none → H7 q7 = some (.lst us7) → Rps H7 us7 (its.map (·.2) ++ bl.flatten) → Gr [] H3 H7 →
          ∃ m', m' < m ∧ ∃ (q : Addr) (us : List V) (its : List (Nat × D)) (o : Option V), [some (.ref t), some (.int ((cnt n l : Int) - m + 1)), some (.ref ts), some (.ref q7)] = [some (.ref t), some (.int ((cnt n l : Int) - m')), o, some (.ref q)] ∧ H q = none ∧ H7 q = some (.lst us) ∧ Rps H7 us (its.map (·.2)) ∧ (∀ p ∈ its, RS p.1 p.2) ∧ (its.map cn).sum = m' ∧ m' ≤ cnt n l ∧ Gr [] H H7 := by
        intro q7 us7 bl H7 hbl h7 e7 hr7 g7
        subst hbl
        have hbb : ∀ b ∈ blks wd r, RB pn b := hpt.blks
        refine ⟨(its.map cn).sum + ((blks wd r).map (cnt pn)).sum, by omega, q7, us7, its ++ ((blks wd r).flatten.map fun s => (pn, s)), some (.ref ts), ?_, h7, e7, ?_, ?_, ?_, by omega, g03.trans g7⟩
        · rw [hcnt ((its.map cn).sum + ((blks wd r).map (cnt pn)).sum) (by omega)]
        · have eb : ∀ l : List D, (l.map fun s => (pn, s)).map (·.2) = l := fun l => by
            rw [List.map_map]
            exact List.map_id _
          rw [List.map_append, eb]
          exact hr7
        · intro p hp
          rcases List.mem_append.mp hp with hp | hp
          · exact hits' p hp
          · obtain ⟨s, hs, rfl⟩ := List.mem_map.mp hp
            obtain ⟨b, hb, hsb⟩ := List.mem_flatten.mp hs
            exact (hbb b hb).2 s hsb
        · rw [List.map_append, List.sum_append, cn_blks hbb]
      have none_of : ∀ {H5 : Hp} {q : Addr}, Gr [] H3 H5 → H5 q = none → H q = none := fun {H5 q} g h => by
        cases e : H q with
        | none => rfl
        | some o' => have := (g03.trans g).at0 e; rw [h] at this; cases this
      clear hus hm hv
      walk_at "w"
      refine i_S (fun hw => ?_) (fun hw1 => ?_)
      · obtain ⟨x, lb, mb, rfl, hx, hlb, hmb⟩ := hpt.if_inv hw
        subst hw
        obtain ⟨u1, us1, rfl, r1, hz1⟩ := hvs0.cons_of
        obtain ⟨u2, us2, rfl, r2, hz2⟩ := hz1.cons_of
        obtain ⟨u3, us3, rfl, r3, hz3⟩ := hz2.cons_of
        cases hz3.nil_of
        obtain ⟨t2, w2, rfl, et2, hw2⟩ := r2.tup_of
        obtain ⟨t3, w3, rfl, et3, hw3⟩ := r3.tup_of
        have l2 := hw2.len
        have l3 := hw3.len
        have b2 := hlb.1
        have b3 := hmb.1
        walk_at "w"
        refine r_lstOf (.inr (SqT.of et2)) fun q4 H4 hq4 g4 e4 => ?_
        walk_at "w"
        refine r_catL (g4.at0 eq3) e4 (sz1 (by omega)) fun q5 H5 hq5 g5 e5 => ?_
        have ets5 := (g4.tu.trans g5.tu) _ _ ets
        walk_at "w"
        refine r_lstOf (.inr (SqT.of ((g4.tu.trans g5.tu) _ _ et3))) fun q6 H6 hq6 g6 e6 => ?_
        walk_at "w"
        refine r_catL (g6.at0 e5) e6 (sz1 (by rw [List.length_append]; omega)) fun q7 H7 hq7 g7 e7 => ?_
        have g37 := ((g4.trans g5).trans g6).trans g7
        have ets7 := g37.tu _ _ ets
        walk_at "w"
        refine fin q7 _ [lb, mb] H7 rfl (none_of ((g4.trans g5).trans g6) hq7) e7 ?_ g37
        rw [List.append_assoc]
        have e2 : ([lb, mb] : List (List D)).flatten = lb ++ mb := by simp
        rw [e2]
        exact (Rps.mono g37.tu hws3).append ((Rps.mono g37.tu hw2).append (Rps.mono g37.tu hw3))
      walk_at "w"
      refine i_S (fun hw => ?_) (fun hw2 => ?_)
      · obtain ⟨x, iz, lb, mb, rfl, hlb, hmb⟩ := hpt.when_inv hw
        subst hw
        obtain ⟨u1, us1, rfl, r1, hz1⟩ := hvs0.cons_of
        obtain ⟨u4, us4, rfl, r4, hz4⟩ := hz1.cons_of
        obtain ⟨u2, us2, rfl, r2, hz2⟩ := hz4.cons_of
        obtain ⟨u3, us3, rfl, r3, hz3⟩ := hz2.cons_of
        cases hz3.nil_of
        obtain ⟨t2, w2, rfl, et2, hw2⟩ := r2.tup_of
        obtain ⟨t3, w3, rfl, et3, hw3⟩ := r3.tup_of
        have l2 := hw2.len
        have l3 := hw3.len
        have b2 := hlb.1
        have b3 := hmb.1
        walk_at "w"
        refine r_lstOf (.inr (SqT.of et2)) fun q4 H4 hq4 g4 e4 => ?_
        walk_at "w"
        refine r_catL (g4.at0 eq3) e4 (sz1 (by omega)) fun q5 H5 hq5 g5 e5 => ?_
        have ets5 := (g4.tu.trans g5.tu) _ _ ets
        walk_at "w"
        refine r_lstOf (.inr (SqT.of ((g4.tu.trans g5.tu) _ _ et3))) fun q6 H6 hq6 g6 e6 => ?_
        walk_at "w"
        refine r_catL (g6.at0 e5) e6 (sz1 (by rw [List.length_append]; omega)) fun q7 H7 hq7 g7 e7 => ?_
        have g37 := ((g4.trans g5).trans g6).trans g7
        have ets7 := g37.tu _ _ ets
        walk_at "w"
        refine fin q7 _ [lb, mb] H7 rfl (none_of ((g4.trans g5).trans g6) hq7) e7 ?_ g37
        rw [List.append_assoc]
        have e2 : ([lb, mb] : List (List D)).flatten = lb ++ mb := by simp
        rw [e2]
        exact (Rps.mono g37.tu hws3).append ((Rps.mono g37.tu hw2).append (Rps.mono g37.tu hw3))
      walk_at "w"
      refine i_S (fun hw => ?_) (fun hw3 => ?_)
      · obtain ⟨x, lb, rfl, hx, hlb⟩ := hpt.while_inv hw
        subst hw
        obtain ⟨u1, us1, rfl, r1, hz1⟩ := hvs0.cons_of
        obtain ⟨u2, us2, rfl, r2, hz2⟩ := hz1.cons_of
        cases hz2.nil_of
        obtain ⟨t2, w2, rfl, et2, hw2⟩ := r2.tup_of
        have l2 := hw2.len
        have b2 := hlb.1
        walk_at "w"
        refine r_lstOf (.inr (SqT.of et2)) fun q4 H4 hq4 g4 e4 => ?_
        walk_at "w"
        refine r_catL (g4.at0 eq3) e4 (sz1 (by omega)) fun q5 H5 hq5 g5 e5 => ?_
        walk_at "w"
        refine fin q5 _ [lb] H5 rfl (none_of g4 hq5) e5 ?_ (g4.trans g5)
        have e2 : ([lb] : List (List D)).flatten = lb := by simp
        rw [e2]
        exact (Rps.mono (g4.tu.trans g5.tu) hws3).append (Rps.mono (g4.tu.trans g5.tu) hw2)
      · walk_at "w"
        have e : blks wd r = [] := by
          unfold blks
          rw [if_neg hw1, if_neg hw3, if_neg hw2]
        exact fin q ws [] H3 e hq0 eq3 (by rw [List.flatten_nil, List.append_nil]; exact hws3) Gr.refl
    · walk_at "w"
      have hul := hus.len
      rw [List.length_map] at hul
      have hi0 : its = [] := List.length_eq_zero_iff.mp (by omega)
      subst hi0
      have hm0 : m = 0 := by rw [← hm] <;> rfl
      subst hm0
      have e := k H2 g2
      have e2 : ((cnt n l : Int) - (0 : Nat)) = cnt n l := by omega
      rw [e2]
      exact e
theorem k__law_same (T : Txt G) : ∀ n : Nat, Cal G (n + 1) (He.ga G.K "_law_same") (spSame n) []
  | n => by
    have rec_ : ∃ sp', Cal G n (He.ga G.K "_law_same") sp' [] ∧ ∀ (v1 v2 : V) (l : List D) (i : Nat) (H : Hp) (Q : VK) (E : XK), Dep n (.tup l) → (∃ d, l[i]? = some d ∧ Rp H v1 d ∧ Rp H v2 d) → (∀ H', Gr [] H H' → Q (.bl true) H') → sp' [v1, v2] H Q E := by
      cases n with
      | zero => exact ⟨fun _ _ _ _ => False, cal_never T.f__law_same sc__law_same (fun _ _ _ _ _ _ us hl => match us, hl with | [_, _], _ => rfl) fun _ _ _ _ h => h, fun v1 v2 l i H Q E h => h.elim⟩
      | succ n => exact ⟨spSame n, k__law_same T n, fun v1 v2 l i H Q E h ⟨d, hd, h1, h2⟩ k => ⟨v1, v2, d, rfl, h1, h2, h.2 d (List.mem_of_getElem? hd), k⟩⟩
    obtain ⟨sp', c__law_same, hsp⟩ := rec_
    refine cal_of (k := n) T.f__law_same sc__law_same (fun _ _ _ _ _ _ us hl => match us, hl with | [_, _], _ => rfl) (fun vs H Q E h => ?_) (fun cdv A outer s H vs Q E hr h => ⟨_, ((pss_cons (ps_if (pt_cmpR op_isN1 (pv 1) pe_non (nomark _)) (pss_one (ps_ret (pe_cmpR op_isN1 (pv 0) pe_non (nomark _)))) pss_nil)
    (pss_cons (ps_if (pt_val (pe_callB call_isi rfl T.v_isinstance (by decide +kernel) (pa_cons (pv 1) (pa_cons (pe_bltn (v := .ty "bool") rfl T.v_bool (by decide +kernel) rfl) pa_nil)))) (pss_one (ps_ret (pe_and (pe_callB call_isi rfl T.v_isinstance (by decide +kernel) (pa_cons (pv 0) (pa_cons (pe_bltn (v := .ty "bool") rfl T.v_bool (by decide +kernel) rfl) pa_nil))) (pe_one (pe_cmpR op_eq (pv 0) (pv 1) (nomark _)))))) pss_nil)
    (pss_cons (ps_if (pt_val (pe_callB call_isi rfl T.v_isinstance (by decide +kernel) (pa_cons (pv 1) (pa_cons (pe_bltn (v := .ty "int") rfl T.v_int (by decide +kernel) rfl) pa_nil)))) (pss_one (ps_ret (pe_and (pe_callB call_isi rfl T.v_isinstance (by decide +kernel) (pa_cons (pv 0) (pa_cons (pe_bltn (v := .ty "int") rfl T.v_int (by decide +kernel) rfl) pa_nil))) (pe_and (pe_not (pe_callB call_isi rfl T.v_isinstance (by decide +kernel) (pa_cons (pv 0) (pa_cons (pe_bltn (v := .ty "bool") rfl T.v_bool (by decide +kernel) rfl) pa_nil)))) (pe_one (pe_cmpR op_eq (pv 0) (pv 1) (nomark _))))))) pss_nil)
    (pss_cons (ps_if (pt_val (pe_callB call_isi rfl T.v_isinstance (by decide +kernel) (pa_cons (pv 1) (pa_cons (pe_bltn (v := .ty "str") rfl T.v_str (by decide +kernel) rfl) pa_nil)))) (pss_one (ps_ret (pe_and (pe_callB call_isi rfl T.v_isinstance (by decide +kernel) (pa_cons (pv 0) (pa_cons (pe_bltn (v := .ty "str") rfl T.v_str (by decide +kernel) rfl) pa_nil))) (pe_one (pe_cmpR op_eq (pv 0) (pv 1) (nomark _)))))) pss_nil)
    (pss_cons (ps_if (PW.pt (pw_and (pt_val (pe_callB call_isi rfl T.v_isinstance (by decide +kernel) (pa_cons (pv 1) (pa_cons (pe_bltn (v := .ty "tuple") rfl T.v_tuple (by decide +kernel) rfl) pa_nil)))) (pw_and1 (pt_not (pt_val (pe_callB call_isi rfl T.v_isinstance (by decide +kernel) (pa_cons (pv 0) (pa_cons (pe_bltn (v := .ty "tuple") rfl T.v_tuple (by decide +kernel) rfl) pa_nil)))))))) (pss_one (ps_ret pe_bl)) pss_nil)
    (pss_cons (ps_if (PW.pt (pw_and (pt_val (pe_callB call_isi rfl T.v_isinstance (by decide +kernel) (pa_cons (pv 1) (pa_cons (pe_bltn (v := .ty "list") rfl T.v_list (by decide +kernel) rfl) pa_nil)))) (pw_and1 (pt_not (pt_val (pe_callB call_isi rfl T.v_isinstance (by decide +kernel) (pa_cons (pv 0) (pa_cons (pe_bltn (v := .ty "list") rfl T.v_list (by decide +kernel) rfl) pa_nil)))))))) (pss_one (ps_ret pe_bl)) pss_nil)
    (pss_cons (ps_if (pt_cmpR op_ne (pe_callB call_lenQ rfl T.v_len PySem.boot_len (pa_cons (pv 0) pa_nil)) (pe_callB call_lenQ rfl T.v_len PySem.boot_len (pa_cons (pv 1) pa_nil)) (nomark _)) (pss_one (ps_ret pe_bl)) pss_nil)
    (pss_cons (ps_for (passes_of rfl) rfl (pi_range1 rfl T.v_range (pa_cons (pe_callB call_lenQ rfl T.v_len PySem.boot_len (pa_cons (pv 1) pa_nil)) pa_nil)) (pg_name (i := 2) sc__law_same.nd rfl (Or.inl rfl))
    (pss_one (ps_if (pt_not (pt_val (pe_cal c__law_same T.g__law_same hr (by omega) (takes_of rfl rfl rfl rfl) (fun _ _ _ _ h => h) rfl (pa_cons (pe_ix ix_tup (pv 0) (pv 2) (fun _ _ => rfl)) (pa_cons (pe_ix ix_tup (pv 1) (pv 2) (fun _ _ => rfl)) pa_nil))))) (pss_one (ps_ret pe_bl)) pss_nil)))
    (pss_one (ps_ret pe_bl))))))))))), ?_⟩)
    · obtain ⟨v1, v2, d, rfl, _⟩ := h
      rfl
    obtain ⟨v1, v2, d, rfl, h1, h2, hd, k⟩ := h
    have k0 := k H Gr.refl
    cases d with
    | non =>
      cases h1
      cases h2
      walk_at "w"
      exact k0
    | int i =>
      cases h1
      cases h2
      walk_at "w"
      rw [decide_eq_true rfl]
      exact k0
    | str x =>
      cases h1
      cases h2
      walk_at "w"
      rw [decide_eq_true rfl]
      exact k0
    | tup l =>
      obtain ⟨t1, w1, rfl, e1, r1⟩ := h1.tup_of
      obtain ⟨t2, w2, rfl, e2, r2⟩ := h2.tup_of
      have l1 := r1.len
      have l2 := r2.len
      have lz : l.length ≤ 1000 := dep_len hd
      walk_at "w"
      refine r_lenT e1 ?_
      walk_at "w"
      refine r_lenT e2 ?_
      walk_at "w"
      refine i_nI (fun _ => ?_) (fun z => absurd (by rw [l1, l2]) z)
      walk_at "w"
      refine r_lenT e2 ?_
      refine k_forR (by omega) (by omega) (fun i σ' H' => ∃ o, σ' = [some (.ref t1), some (.ref t2), o] ∧ Gr [] H H') ⟨none, rfl, Gr.refl⟩ ?_ ?_
      · rintro i σ' H' hi ⟨o, rfl, g⟩
        have hi2 : i < l.length := by omega
        obtain ⟨v1, hv1, q1⟩ := r1.get' (List.getElem?_eq_getElem hi2)
        obtain ⟨v2, hv2, q2⟩ := r2.get' (List.getElem?_eq_getElem hi2)
        walk_at "w"
        refine r_ixT (SqT.of (g.tu _ _ e1)) (atI_nat hv1) ?_
        walk_at "w"
        refine r_ixT (SqT.of (g.tu _ _ e2)) (atI_nat hv2) ?_
        walk_at "w"
        refine hsp v1 v2 l i H' _ _ hd ⟨_, List.getElem?_eq_getElem hi2, q1.mono g.tu, q2.mono g.tu⟩ fun H2 g2 => ?_
        walk_at "w"
        exact ⟨_, rfl, g.trans g2⟩
      · rintro σ' H' ⟨o, rfl, g⟩
        walk_at "w"
        exact k H' g
end
end Xd

/-! text E1 -/
/-! the program: exceptions, names, kinds -/
namespace Xd
open PySem PySem.Spec PyProof.Rows L2
local macro_rules | `(tactic| walk_at "w1") => `(tactic| first
  | with_reducible apply r_seq
  | with_reducible apply r_asg
  | with_reducible apply r_gname
  | ((with_reducible apply r_var); exact rfl)
  | with_reducible apply r_c
  | with_reducible apply r_op
  | with_reducible apply r_I0
  | ((with_reducible apply r_eq); exact rfl)
  | ((with_reducible apply r_ne); exact rfl)
  | with_reducible apply r_if
  | with_reducible apply r_test
  | with_reducible apply r_tB
  | with_reducible apply r_bl
  | with_reducible apply r_and
  | with_reducible apply r_or
  | with_reducible apply r_not
  | with_reducible apply r_ret
  | with_reducible apply r_drop
  | with_reducible apply r_cons
  | with_reducible apply r_nil
  | with_reducible apply r_cal
  | with_reducible apply r_cb
  | with_reducible apply r_tup
  | with_reducible apply r_lst
  | with_reducible apply r_next
  | with_reducible apply r_retN
  | with_reducible apply r_un
  | with_reducible apply r_U
  | with_reducible apply r_andV
  | with_reducible apply r_orV
  | with_reducible apply r_notV
  | with_reducible apply r_ifx
  | with_reducible apply r_forT
  | with_reducible apply r_forL
  | with_reducible apply r_forR
  | with_reducible apply r_sl
  | with_reducible apply r_nop
  | with_reducible apply r_part
  | with_reducible apply r_kPart
  | with_reducible apply r_gsub
  | with_reducible apply r_int1
  | with_reducible apply r_isN
  | with_reducible apply r_notN
  | with_reducible apply r_ltStr
  | with_reducible apply r_inS
  | with_reducible apply r_niS
  | with_reducible apply r_bm
  | with_reducible apply r_forS
  | with_reducible apply r_lcL
  | with_reducible apply r_lcT
  | with_reducible apply r_m0
  | with_reducible apply r_chain
  | with_reducible apply r_rz
  | with_reducible apply r_veI
  | with_reducible apply r_ost
  | with_reducible apply r_bm0
  | with_reducible apply r_din
  | with_reducible apply r_dnin
  | with_reducible apply r_dget
  | ((with_reducible apply r_gtup); (assumption); (exact rfl))
  | with_reducible apply r_gcons
  | with_reducible apply r_gnil
  | (with_reducible refine r_lo0 (by assumption) ?_)
  | (with_reducible refine r_lo2 (by assumption) ?_)
  | (with_reducible refine r_isi_non (b := true) (by decide +kernel) ?_)
  | (with_reducible refine r_isi_int (b := true) (by decide +kernel) ?_)
  | (with_reducible refine r_isi_str (b := true) (by decide +kernel) ?_)
  | ((with_reducible apply r_isi_tup (b := true)); (assumption); (exact (by decide +kernel)))
  | ((with_reducible apply r_isi_lst (b := true)); (assumption); (exact (by decide +kernel)))
  | (with_reducible refine r_isi_non (b := false) (by decide +kernel) ?_)
  | (with_reducible refine r_isi_int (b := false) (by decide +kernel) ?_)
  | (with_reducible refine r_isi_str (b := false) (by decide +kernel) ?_)
  | ((with_reducible apply r_isi_tup (b := false)); (assumption); (exact (by decide +kernel)))
  | ((with_reducible apply r_isi_lst (b := false)); (assumption); (exact (by decide +kernel)))
  | (with_reducible refine r_l0 (by assumption) ?_)
  | (with_reducible refine r_l2 (by assumption) ?_)
  | (with_reducible refine r_lenN (by assumption) ?_)
  | (with_reducible refine r_lenC (by assumption) ?_)
  | ((with_reducible apply r_ixT'); (assumption); (first | exact rfl | exact atI_0 | exact atI_1 | exact atI_2))
  | ((with_reducible apply r_ixL'); (assumption); (exact rfl))
  | ((with_reducible apply i_f); exact rfl)
  | ((with_reducible apply i_t); exact rfl)
  | ((with_reducible apply r_I); first | exact Or.inr ⟨by decide, by decide⟩ | exact (by decide) | assumption | exact ⟨by omega, by omega⟩ | exact (by omega) | exact ⟨by decide, by decide, by decide⟩))
local macro_rules | `(tactic| walk_at "w") => `(tactic| repeat (walk_at "w1"))

/-- the field of an error -/
def fld (w : Str) : Str := if w = "BadName" then "name" else if w = "BadNumber" then "number" else if w = "BadAction" then "action" else if w = "BadStatement" then "statement" else if w = "UnknownStep" then "step" else if w = "UnknownCell" then "cell" else "most"
/-- the ways out of a check -/
def ErK (K : PySem.W.Frag) (r : Option Flt) (H : Hp) (E : XK) : Prop := ∀ w d, r = some (w, d) → ∀ H' dx v, Gr [] H H' → H' dx = some (.xd [(fld w, v)]) → Rp H' v d → E (.ref (He.ga K w)) (some dx) H'
structure CkK (K : PySem.W.Frag) (r : Option Flt) (H : Hp) (E : XK) (Q : VK) (v : V) : Prop where
  ok : r = none → ∀ H', Gr [] H H' → Q v H'
  er : ErK K r H E
section
variable {K : PySem.W.Frag} {r r' : Option Flt} {H H1 : Hp} {E : XK} {Q : VK} {v u : V}
theorem ErK.mono (k : ErK K r H E) (g : Gr [] H H1) : ErK K r H1 E := fun w d e H' dx v g' => k w d e H' dx v (g.trans g')
theorem CkK.mono (k : CkK K r H E Q u) (g : Gr [] H H1) : CkK K r H1 E Q u := ⟨fun e H' g' => k.ok e H' (g.trans g'), k.er.mono g⟩
theorem k_er {w f : Str} {d : D} (k : ErK K r H E) (e : r = some (w, d)) (hf : fld w = f) (g : Gr [] H H1) (hv : Rp H1 v d) : kX (He.ga K w) f v H1 E :=
  k_x fun dx H2 g2 e2 => k w d e H2 dx v (g.trans g2) (by rw [hf]; exact e2) (hv.mono g2.tu)
/-- a check within a check -/
theorem ErK.sub (k : ErK K r H E) (g : Gr [] H H1) (h : ∀ e, r' = some e → r = some e) : ErK K r' H1 E := fun w d e H' dx v g' => k w d (h _ e) H' dx v (g.trans g')
end
theorem sc_BadName_init : FnScope ["self", "name"] ["self", "name"] (defScope s_BadName_init) := ⟨rfl, rfl, rfl, by decide +kernel, rfl, by decide +kernel, by decide +kernel⟩
theorem sc_BadNumber_init : FnScope ["self", "number"] ["self", "number"] (defScope s_BadNumber_init) := ⟨rfl, rfl, rfl, by decide +kernel, rfl, by decide +kernel, by decide +kernel⟩
theorem sc_BadKind_init : FnScope ["self", "kind"] ["self", "kind"] (defScope s_BadKind_init) := ⟨rfl, rfl, rfl, by decide +kernel, rfl, by decide +kernel, by decide +kernel⟩
theorem sc_BadAction_init : FnScope ["self", "action"] ["self", "action"] (defScope s_BadAction_init) := ⟨rfl, rfl, rfl, by decide +kernel, rfl, by decide +kernel, by decide +kernel⟩
theorem sc_BadStatement_init : FnScope ["self", "statement"] ["self", "statement"] (defScope s_BadStatement_init) := ⟨rfl, rfl, rfl, by decide +kernel, rfl, by decide +kernel, by decide +kernel⟩
theorem sc_UnknownStep_init : FnScope ["self", "step"] ["self", "step"] (defScope s_UnknownStep_init) := ⟨rfl, rfl, rfl, by decide +kernel, rfl, by decide +kernel, by decide +kernel⟩
theorem sc_UnknownCell_init : FnScope ["self", "cell"] ["self", "cell"] (defScope s_UnknownCell_init) := ⟨rfl, rfl, rfl, by decide +kernel, rfl, by decide +kernel, by decide +kernel⟩
theorem sc_TooLarge_init : FnScope ["self", "most"] ["self", "most"] (defScope s_TooLarge_init) := ⟨rfl, rfl, rfl, by decide +kernel, rfl, by decide +kernel, by decide +kernel⟩
theorem sc_Clash_init : FnScope ["self", "name"] ["self", "name"] (defScope s_Clash_init) := ⟨rfl, rfl, rfl, by decide +kernel, rfl, by decide +kernel, by decide +kernel⟩
theorem sc_is_name : FnScope ["text", "char"] ["text"] (defScope s_is_name) := ⟨rfl, rfl, rfl, by decide +kernel, rfl, by decide +kernel, by decide +kernel⟩
theorem sc_check_name : FnScope ["name"] ["name"] (defScope s_check_name) := ⟨rfl, rfl, rfl, by decide +kernel, rfl, by decide +kernel, by decide +kernel⟩
theorem sc_check_number : FnScope ["number"] ["number"] (defScope s_check_number) := ⟨rfl, rfl, rfl, by decide +kernel, rfl, by decide +kernel, by decide +kernel⟩
theorem sc_check_kind : FnScope ["kind"] ["kind"] (defScope s_check_kind) := ⟨rfl, rfl, rfl, by decide +kernel, rfl, by decide +kernel, by decide +kernel⟩
abbrev CalX (G : Ctx) (C f : Str) : Prop := Cal G 1 (He.ma G.K (He.ga G.K C) "__init__") (spXi (He.ga G.K C) f) []
def spCkName (K : PySem.W.Frag) : Sp := fun vs H Q E => ∃ (x : Str), vs = [.str x] ∧ Sht x ∧ CkK K (nmF x) H E Q (.str x)
section
variable {G : Ctx}
theorem k_BadName (T : Txt G) : CalX G "BadName" "name" := by
  refine cal_of T.f_BadName_init sc_BadName_init (fun _ _ _ _ _ _ us hl => match us, hl with | [_, _], _ => rfl) (fun vs H Q E h => ?_) (fun cdv A outer s H vs Q E hr h => ⟨_, ((pss_cons (ps_expr (pe_deed rfl T.g_DeedError T.deed.1 T.deed.2 (pa_cons (pv 0) (pa_cons pe_str pa_nil))))
    (pss_one (ps_ost (pv 0) (pv 1))))), ?_⟩)
  · obtain ⟨a, v, rfl, _⟩ := h
    rfl
  obtain ⟨a, v, rfl, ea, k⟩ := h
  walk_at "w"
  refine ⟨a, _, [_], rfl, by decide, T.o_BadName, ea, ?_⟩
  walk_at "w"
  exact k_ost T.o_BadName T.j_BadName.no ea fun dx h1 h2 => k dx h1 h2
theorem k_BadNumber (T : Txt G) : CalX G "BadNumber" "number" := by
  refine cal_of T.f_BadNumber_init sc_BadNumber_init (fun _ _ _ _ _ _ us hl => match us, hl with | [_, _], _ => rfl) (fun vs H Q E h => ?_) (fun cdv A outer s H vs Q E hr h => ⟨_, ((pss_cons (ps_expr (pe_deed rfl T.g_DeedError T.deed.1 T.deed.2 (pa_cons (pv 0) (pa_cons pe_str pa_nil))))
    (pss_one (ps_ost (pv 0) (pv 1))))), ?_⟩)
  · obtain ⟨a, v, rfl, _⟩ := h
    rfl
  obtain ⟨a, v, rfl, ea, k⟩ := h
  walk_at "w"
  refine ⟨a, _, [_], rfl, by decide, T.o_BadNumber, ea, ?_⟩
  walk_at "w"
  exact k_ost T.o_BadNumber T.j_BadNumber.no ea fun dx h1 h2 => k dx h1 h2
theorem k_BadKind (T : Txt G) : CalX G "BadKind" "kind" := by
  refine cal_of T.f_BadKind_init sc_BadKind_init (fun _ _ _ _ _ _ us hl => match us, hl with | [_, _], _ => rfl) (fun vs H Q E h => ?_) (fun cdv A outer s H vs Q E hr h => ⟨_, ((pss_cons (ps_expr (pe_deed rfl T.g_DeedError T.deed.1 T.deed.2 (pa_cons (pv 0) (pa_cons pe_str pa_nil))))
    (pss_one (ps_ost (pv 0) (pv 1))))), ?_⟩)
  · obtain ⟨a, v, rfl, _⟩ := h
    rfl
  obtain ⟨a, v, rfl, ea, k⟩ := h
  walk_at "w"
  refine ⟨a, _, [_], rfl, by decide, T.o_BadKind, ea, ?_⟩
  walk_at "w"
  exact k_ost T.o_BadKind T.j_BadKind.no ea fun dx h1 h2 => k dx h1 h2
theorem k_BadAction (T : Txt G) : CalX G "BadAction" "action" := by
  refine cal_of T.f_BadAction_init sc_BadAction_init (fun _ _ _ _ _ _ us hl => match us, hl with | [_, _], _ => rfl) (fun vs H Q E h => ?_) (fun cdv A outer s H vs Q E hr h => ⟨_, ((pss_cons (ps_expr (pe_deed rfl T.g_DeedError T.deed.1 T.deed.2 (pa_cons (pv 0) (pa_cons pe_str pa_nil))))
    (pss_one (ps_ost (pv 0) (pv 1))))), ?_⟩)
  · obtain ⟨a, v, rfl, _⟩ := h
    rfl
  obtain ⟨a, v, rfl, ea, k⟩ := h
  walk_at "w"
  refine ⟨a, _, [_], rfl, by decide, T.o_BadAction, ea, ?_⟩
  walk_at "w"
  exact k_ost T.o_BadAction T.j_BadAction.no ea fun dx h1 h2 => k dx h1 h2
theorem k_BadStatement (T : Txt G) : CalX G "BadStatement" "statement" := by
  refine cal_of T.f_BadStatement_init sc_BadStatement_init (fun _ _ _ _ _ _ us hl => match us, hl with | [_, _], _ => rfl) (fun vs H Q E h => ?_) (fun cdv A outer s H vs Q E hr h => ⟨_, ((pss_cons (ps_expr (pe_deed rfl T.g_DeedError T.deed.1 T.deed.2 (pa_cons (pv 0) (pa_cons pe_str pa_nil))))
    (pss_one (ps_ost (pv 0) (pv 1))))), ?_⟩)
  · obtain ⟨a, v, rfl, _⟩ := h
    rfl
  obtain ⟨a, v, rfl, ea, k⟩ := h
  walk_at "w"
  refine ⟨a, _, [_], rfl, by decide, T.o_BadStatement, ea, ?_⟩
  walk_at "w"
  exact k_ost T.o_BadStatement T.j_BadStatement.no ea fun dx h1 h2 => k dx h1 h2
theorem k_UnknownStep (T : Txt G) : CalX G "UnknownStep" "step" := by
  refine cal_of T.f_UnknownStep_init sc_UnknownStep_init (fun _ _ _ _ _ _ us hl => match us, hl with | [_, _], _ => rfl) (fun vs H Q E h => ?_) (fun cdv A outer s H vs Q E hr h => ⟨_, ((pss_cons (ps_expr (pe_deed rfl T.g_DeedError T.deed.1 T.deed.2 (pa_cons (pv 0) (pa_cons pe_str pa_nil))))
    (pss_one (ps_ost (pv 0) (pv 1))))), ?_⟩)
  · obtain ⟨a, v, rfl, _⟩ := h
    rfl
  obtain ⟨a, v, rfl, ea, k⟩ := h
  walk_at "w"
  refine ⟨a, _, [_], rfl, by decide, T.o_UnknownStep, ea, ?_⟩
  walk_at "w"
  exact k_ost T.o_UnknownStep T.j_UnknownStep.no ea fun dx h1 h2 => k dx h1 h2
theorem k_UnknownCell (T : Txt G) : CalX G "UnknownCell" "cell" := by
  refine cal_of T.f_UnknownCell_init sc_UnknownCell_init (fun _ _ _ _ _ _ us hl => match us, hl with | [_, _], _ => rfl) (fun vs H Q E h => ?_) (fun cdv A outer s H vs Q E hr h => ⟨_, ((pss_cons (ps_expr (pe_deed rfl T.g_DeedError T.deed.1 T.deed.2 (pa_cons (pv 0) (pa_cons pe_str pa_nil))))
    (pss_one (ps_ost (pv 0) (pv 1))))), ?_⟩)
  · obtain ⟨a, v, rfl, _⟩ := h
    rfl
  obtain ⟨a, v, rfl, ea, k⟩ := h
  walk_at "w"
  refine ⟨a, _, [_], rfl, by decide, T.o_UnknownCell, ea, ?_⟩
  walk_at "w"
  exact k_ost T.o_UnknownCell T.j_UnknownCell.no ea fun dx h1 h2 => k dx h1 h2
theorem k_TooLarge (T : Txt G) : CalX G "TooLarge" "most" := by
  refine cal_of T.f_TooLarge_init sc_TooLarge_init (fun _ _ _ _ _ _ us hl => match us, hl with | [_, _], _ => rfl) (fun vs H Q E h => ?_) (fun cdv A outer s H vs Q E hr h => ⟨_, ((pss_cons (ps_expr (pe_deed rfl T.g_DeedError T.deed.1 T.deed.2 (pa_cons (pv 0) (pa_cons pe_str pa_nil))))
    (pss_one (ps_ost (pv 0) (pv 1))))), ?_⟩)
  · obtain ⟨a, v, rfl, _⟩ := h
    rfl
  obtain ⟨a, v, rfl, ea, k⟩ := h
  walk_at "w"
  refine ⟨a, _, [_], rfl, by decide, T.o_TooLarge, ea, ?_⟩
  walk_at "w"
  exact k_ost T.o_TooLarge T.j_TooLarge.no ea fun dx h1 h2 => k dx h1 h2
theorem k_Clash (T : Txt G) : CalX G "Clash" "name" := by
  refine cal_of T.f_Clash_init sc_Clash_init (fun _ _ _ _ _ _ us hl => match us, hl with | [_, _], _ => rfl) (fun vs H Q E h => ?_) (fun cdv A outer s H vs Q E hr h => ⟨_, ((pss_cons (ps_expr (pe_deed rfl T.g_DeedError T.deed.1 T.deed.2 (pa_cons (pv 0) (pa_cons pe_str pa_nil))))
    (pss_one (ps_ost (pv 0) (pv 1))))), ?_⟩)
  · obtain ⟨a, v, rfl, _⟩ := h
    rfl
  obtain ⟨a, v, rfl, ea, k⟩ := h
  walk_at "w"
  refine ⟨a, _, [_], rfl, by decide, T.o_Clash, ea, ?_⟩
  walk_at "w"
  exact k_ost T.o_Clash T.j_Clash.no ea fun dx h1 h2 => k dx h1 h2
abbrev DIGl : DIG.cps.toList = digL := DIG_l
theorem k_is_name (T : Txt G) : Cal G 1 (He.ga G.K "is_name") spIsName [] := by
  refine cal_of T.f_is_name sc_is_name (fun _ _ _ _ _ _ us hl => match us, hl with | [_], _ => rfl) (fun vs H Q E h => ?_) (fun cdv A outer s H vs Q E hr h => ⟨_, ((pss_cons (ps_if (PW.pt (pw_or (pt_cmpR op_eq (pv 0) pe_str (nomark _)) (pw_or (pt_cmpR op_gt (pe_callB call_lenStr rfl T.v_len PySem.boot_len (pa_cons (pv 0) pa_nil)) (pe_gI rfl T.i_LONGEST) (nomark _)) (pw_or1 (pt_cmpR op_notInS (pe_ix ix_str (pv 0) pe_int (fun _ _ => rfl)) (pe_gS rfl T.t_LETTERS) rfl))))) (pss_one (ps_ret pe_bl)) pss_nil)
    (pss_cons (ps_for (passes_of rfl) rfl (pi_str (pv 0)) (pg_name (i := 1) sc_is_name.nd rfl (Or.inl rfl))
    (pss_one (ps_if (PW.pt (pw_and (pt_cmpR op_notInS (pv 1) (pe_gS rfl T.t_LETTERS) rfl) (pw_and1 (pt_cmpR op_notInS (pv 1) (pe_gS rfl T.t_DIGITS) rfl)))) (pss_one (ps_ret pe_bl)) pss_nil)))
    (pss_one (ps_ret pe_bl))))), ?_⟩)
  · obtain ⟨x, rfl, _⟩ := h
    rfl
  obtain ⟨x, rfl, hx, k⟩ := h
  have hz := sz1 hx
  walk_at "w"
  refine i_S (fun h1 => ?_) (fun h1 => ?_)
  · walk_at "w"
    rw [← isNm_f1 (x := x) (by rw [h1]; decide)]
    exact k
  walk_at "w"
  refine r_lenStr hz ?_
  walk_at "w"
  refine i_d (fun h => ?_) (fun h2 => ?_)
  · walk_at "w"
    rw [← isNm_f2 (x := x) (by omega)]
    exact k
  obtain ⟨c, r, ex⟩ : ∃ c r, x.cps.toList = c :: r := by
    cases e : x.cps.toList with
    | nil =>
      refine absurd ?_ h1
      have e2 : x.cps = #[] := Array.toList_eq_nil_iff.mp e
      cases x
      exact congrArg Str.mk e2
    | cons c r => exact ⟨c, r, rfl⟩
  walk_at "w"
  refine r_ixS hz (c := c) (by rw [ex]; exact atI_nat (j := 0) rfl) ?_
  walk_at "w"
  rw [LET_l]
  refine i_n (fun h3 => ?_) (fun h3 => ?_)
  · walk_at "w"
    refine k_forS (fun i σ' H' => ∃ o, σ' = [some (.str x), o] ∧ H' = H ∧ ∀ j d, j < i → x.cps.toList[j]? = some d → d ∈ letL ++ digL) ⟨none, rfl, rfl, fun j d z => by omega⟩ ?_ ?_
    · rintro i d σ' H' hd ⟨o, rfl, rfl, hall⟩
      have go : d ∈ letL ++ digL → ∀ j d', j < i + 1 → x.cps.toList[j]? = some d' → d' ∈ letL ++ digL := fun h4 j d' hj hd' => by
        by_cases e : j = i
        · subst e
          rw [hd] at hd'
          cases hd'
          exact h4
        · exact hall j d' (by omega) hd'
      walk_at "w"
      rw [LET_l]
      refine i_n (fun h4 => ?_) (fun h4 => ?_)
      · walk_at "w"
        exact ⟨_, rfl, rfl, go (List.mem_append_left _ h4)⟩
      walk_at "w"
      rw [DIG_l]
      refine i_n (fun h5 => ?_) (fun h5 => ?_)
      · walk_at "w"
        exact ⟨_, rfl, rfl, go (List.mem_append_right _ h5)⟩
      · walk_at "w"
        rw [← isNm_f4 (x := x) (List.mem_of_getElem? hd) fun z => (List.mem_append.mp z).elim h4 h5]
        exact k
    · rintro σ' H' ⟨o, rfl, rfl, hall⟩
      walk_at "w"
      have e : isNm x = true := isNm_of ex (by rw [len_l, ex, List.length_cons] at h2; omega) h3 fun d hd => by
        obtain ⟨j, hj, e⟩ := List.getElem_of_mem hd
        exact hall (j + 1) d (by rw [ex, List.length_cons]; omega) (by rw [ex, List.getElem?_cons_succ, List.getElem?_eq_getElem hj, e])
      rw [← e]
      exact k
  · walk_at "w"
    rw [← isNm_f3 ex h3]
    exact k
theorem k_check_name (T : Txt G) (c_is_name : Cal G 1 (He.ga G.K "is_name") spIsName []) (c_BadName : CalX G "BadName" "name") : Cal G 3 (He.ga G.K "check_name") (spCkName G.K) [] := by
  refine cal_of T.f_check_name sc_check_name (fun _ _ _ _ _ _ us hl => match us, hl with | [_], _ => rfl) (fun vs H Q E h => ?_) (fun cdv A outer s H vs Q E hr h => ⟨_, ((pss_cons (ps_if (pt_not (pt_val (pe_cal c_is_name T.g_is_name hr (by omega) (takes_of rfl rfl rfl rfl) (fun _ _ _ _ h => h) rfl (pa_cons (pv 0) pa_nil)))) (pss_one (ps_rz T.o_BadName T.j_BadName.ini T.j_BadName.ty c_BadName hr (by omega) rfl (takes_of rfl rfl rfl rfl) rfl T.g_BadName (pv 0))) pss_nil)
    (pss_one (ps_ret (pv 0))))), ?_⟩)
  · obtain ⟨x, rfl, _⟩ := h
    rfl
  obtain ⟨x, rfl, hx, k⟩ := h
  walk_at "w"
  refine ⟨x, rfl, hx, ?_⟩
  walk_at "w"
  cases hn : isNm x with
  | true =>
    walk_at "w"
    exact k.ok (nmF_t hn) H Gr.refl
  | false =>
    walk_at "w"
    exact k_er k.er (nmF_f hn) rfl Gr.refl (.str x)
def spCkNum (K : PySem.W.Frag) : Sp := fun vs H Q E => ∃ i : Int, vs = [.int i] ∧ CkK K (if 0 ≤ i ∧ i ≤ 999 then none else ft "BadNumber" (.int i)) H E Q (.int i)
theorem k_check_number (T : Txt G) (c_BadNumber : CalX G "BadNumber" "number") : Cal G 3 (He.ga G.K "check_number") (spCkNum G.K) [] := by
  refine cal_of T.f_check_number sc_check_number (fun _ _ _ _ _ _ us hl => match us, hl with | [_], _ => rfl) (fun vs H Q E h => ?_) (fun cdv A outer s H vs Q E hr h => ⟨_, ((pss_cons (ps_if (pt_not (pt_chain op_le op_le pe_int (pv 0) (pe_gI rfl T.i_GREATEST))) (pss_one (ps_rz T.o_BadNumber T.j_BadNumber.ini T.j_BadNumber.ty c_BadNumber hr (by omega) rfl (takes_of rfl rfl rfl rfl) rfl T.g_BadNumber (pv 0))) pss_nil)
    (pss_one (ps_ret (pv 0))))), ?_⟩)
  · obtain ⟨x, rfl, _⟩ := h
    rfl
  obtain ⟨i, rfl, k⟩ := h
  walk_at "w"
  refine i_d (fun h0 => ?_) (fun h0 => ?_)
  · walk_at "w"
    refine i_n (fun h9 => ?_) (fun h9 => ?_)
    · walk_at "w"
      exact k.ok (if_pos ⟨h0, h9⟩) H Gr.refl
    · walk_at "w"
      exact k_er k.er (if_neg fun z => h9 z.2) rfl Gr.refl (.int i)
  · walk_at "w"
    exact k_er k.er (if_neg fun z => h0 z.1) rfl Gr.refl (.int i)
end
end Xd

/-! text E2 -/
/-! the program: books -/
namespace Xd
open PySem PySem.Spec PyProof.Rows L2
def kFld (K : PySem.W.Frag) (f : Str) (x : V) (H : Hp) (Q : VK) : Prop := ∃ a C dx fs v, x = .ref a ∧ H a = some (.ins C dx fs) ∧ Cls K C ∧ NoAttr K C f ∧ fs.lookup f = some v ∧ Q v H
def kSfld (K : PySem.W.Frag) (f : Str) (x y : V) (H : Hp) (Nx : Hp → Prop) : Prop := ∃ a C dx fs, x = .ref a ∧ H a = some (.ins C dx fs) ∧ Cls K C ∧ NoAttr K C f ∧ fs.length < 1000 ∧ Nx (upd H a (.ins C dx (putF f y fs)))
def kCval (K : PySem.W.Frag) (f : Str) (x : V) (H : Hp) (Q : VK) : Prop := ∃ C mc v u, x = .ref C ∧ ClX.CRead K C mc ∧ ClX.CVal K C mc f v u ∧ Q v H
def kMake (C : Addr) (sp : Sp) (dvs : List V) (E : XK) (vs : List V) (H1 : Hp) (Q : VK) : Prop := ∀ x dx, H1 x = none → H1 dx = none → dx ≠ x → sp (.ref x :: (vs ++ dvs)) (upd (upd H1 dx (.own x)) x (.ins C dx [])) (fun v H2 => v = .non ∧ Q (.ref x) H2) E
def kProp (C : Addr) (sp : Sp) (dvs : List V) (E : XK) (x : V) (H1 : Hp) (Q : VK) : Prop := ∃ a dx fs, x = .ref a ∧ H1 a = some (.ins C dx fs) ∧ sp (.ref a :: dvs) H1 Q E
def kMeth (C : Addr) (m : Str) (sp : Sp) (dvs : List V) (E : XK) (t : TA) (σ : St) (x : V) (H1 : Hp) (Q : VK) : Prop := ∃ a dx fs, x = .ref a ∧ H1 a = some (.ins C dx fs) ∧ fs.lookup m = none ∧ t σ H1 fun vs H2 => sp (x :: (vs ++ dvs)) H2 Q E
section
variable {K : PySem.W.Frag} {f m : Str} {ta tv : TE} {t : TA} {σ : St} {H : Hp} {Q : VK} {nx : St → Hp → Prop} {rt : VK} {bk ct : St → Hp → Prop} {a C dx : Addr} {fs : List (Str × V)} {v y : V} {sp : Sp} {dvs : List V} {E : XK}
theorem r_fld (h : ta σ H fun x H1 => kFld K f x H1 Q) : tFld K ta f σ H Q := h
theorem k_fld (cl : Cls K C) (no : NoAttr K C f) (e : H a = some (.ins C dx fs)) (l : fs.lookup f = some v) (h : Q v H) : kFld K f (.ref a) H Q := ⟨a, C, dx, fs, v, rfl, e, cl, no, l, h⟩
theorem r_sfld (h : tv σ H fun y H1 => ta σ H1 fun x H2 => kSfld K f x y H2 (nx σ)) : sFld K ta tv f ⟨nx, rt, bk, ct⟩ σ H := h
theorem k_sfld {Nx : Hp → Prop} (cl : Cls K C) (no : NoAttr K C f) (e : H a = some (.ins C dx fs)) (l : fs.length < 1000) (h : Nx (upd H a (.ins C dx (putF f y fs)))) : kSfld K f (.ref a) y H Nx := ⟨a, C, dx, fs, rfl, e, cl, no, l, h⟩
theorem r_cval (h : ta σ H fun x H1 => kCval K f x H1 Q) : ClX.tCVal K ta f σ H Q := h
theorem k_cval (z : ClX.CRead K C (.type "type") ∧ ∃ u, ClX.CVal K C (.type "type") f v u) (h : Q v H) : kCval K f (.ref C) H Q := ⟨C, _, v, z.2.choose, rfl, z.1, z.2.choose_spec, h⟩
theorem r_make (h : t σ H fun vs H1 => kMake C sp dvs E vs H1 Q) : tMake C sp dvs E t σ H Q := h
theorem r_prop (h : ta σ H fun x H1 => kProp C sp dvs E x H1 Q) : tProp C sp dvs E ta σ H Q := h
theorem r_meth (h : ta σ H fun x H1 => kMeth C m sp dvs E t σ x H1 Q) : tMeth C m sp dvs E ta t σ H Q := h
end
local macro_rules | `(tactic| walk_at "w1") => `(tactic| first
  | with_reducible apply r_seq
  | with_reducible apply r_asg
  | with_reducible apply r_gname
  | ((with_reducible apply r_var); exact rfl)
  | with_reducible apply r_c
  | with_reducible apply r_op
  | with_reducible apply r_I0
  | ((with_reducible apply r_eq); exact rfl)
  | ((with_reducible apply r_ne); exact rfl)
  | with_reducible apply r_if
  | with_reducible apply r_test
  | with_reducible apply r_tB
  | with_reducible apply r_bl
  | with_reducible apply r_and
  | with_reducible apply r_or
  | with_reducible apply r_not
  | with_reducible apply r_ret
  | with_reducible apply r_drop
  | with_reducible apply r_cons
  | with_reducible apply r_nil
  | with_reducible apply r_cal
  | with_reducible apply r_cb
  | with_reducible apply r_tup
  | with_reducible apply r_lst
  | with_reducible apply r_next
  | with_reducible apply r_retN
  | with_reducible apply r_un
  | with_reducible apply r_U
  | with_reducible apply r_andV
  | with_reducible apply r_orV
  | with_reducible apply r_notV
  | with_reducible apply r_ifx
  | with_reducible apply r_forT
  | with_reducible apply r_forL
  | with_reducible apply r_forR
  | with_reducible apply r_sl
  | with_reducible apply r_nop
  | with_reducible apply r_part
  | with_reducible apply r_kPart
  | with_reducible apply r_gsub
  | with_reducible apply r_int1
  | with_reducible apply r_isN
  | with_reducible apply r_notN
  | with_reducible apply r_ltStr
  | with_reducible apply r_inS
  | with_reducible apply r_niS
  | with_reducible apply r_bm
  | with_reducible apply r_forS
  | with_reducible apply r_lcL
  | with_reducible apply r_lcT
  | with_reducible apply r_m0
  | with_reducible apply r_fld
  | with_reducible apply r_sfld
  | with_reducible apply r_cval
  | with_reducible apply r_make
  | with_reducible apply r_prop
  | with_reducible apply r_meth
  | with_reducible apply r_chain
  | with_reducible apply r_rz
  | with_reducible apply r_veI
  | with_reducible apply r_ost
  | with_reducible apply r_bm0
  | with_reducible apply r_din
  | with_reducible apply r_dnin
  | with_reducible apply r_dget
  | ((with_reducible apply r_gtup); (assumption); (exact rfl))
  | with_reducible apply r_gcons
  | with_reducible apply r_gnil
  | (with_reducible refine r_lo0 (by assumption) ?_)
  | (with_reducible refine r_lo2 (by assumption) ?_)
  | (with_reducible refine r_isi_non (b := true) (by decide +kernel) ?_)
  | (with_reducible refine r_isi_int (b := true) (by decide +kernel) ?_)
  | (with_reducible refine r_isi_str (b := true) (by decide +kernel) ?_)
  | ((with_reducible apply r_isi_tup (b := true)); (assumption); (exact (by decide +kernel)))
  | ((with_reducible apply r_isi_lst (b := true)); (assumption); (exact (by decide +kernel)))
  | (with_reducible refine r_isi_non (b := false) (by decide +kernel) ?_)
  | (with_reducible refine r_isi_int (b := false) (by decide +kernel) ?_)
  | (with_reducible refine r_isi_str (b := false) (by decide +kernel) ?_)
  | ((with_reducible apply r_isi_tup (b := false)); (assumption); (exact (by decide +kernel)))
  | ((with_reducible apply r_isi_lst (b := false)); (assumption); (exact (by decide +kernel)))
  | (with_reducible refine r_l0 (by assumption) ?_)
  | (with_reducible refine r_l2 (by assumption) ?_)
  | (with_reducible refine r_lenN (by assumption) ?_)
  | (with_reducible refine r_lenC (by assumption) ?_)
  | ((with_reducible apply r_ixT'); (assumption); (first | exact rfl | exact atI_0 | exact atI_1 | exact atI_2))
  | ((with_reducible apply r_ixL'); (assumption); (exact rfl))
  | ((with_reducible apply i_f); exact rfl)
  | ((with_reducible apply i_t); exact rfl)
  | ((with_reducible apply r_I); first | exact Or.inr ⟨by decide, by decide⟩ | exact (by decide) | assumption | exact ⟨by omega, by omega⟩ | exact (by omega) | exact ⟨by decide, by decide, by decide⟩))
local macro_rules | `(tactic| walk_at "w") => `(tactic| repeat (walk_at "w1"))

/-- a book at b: kinds kk at kd, sizes ss at sd -/
structure Bk (K : PySem.W.Frag) (H : Hp) (b kd sd : Addr) (kk ss : List (Key × V)) : Prop where
  e : ∃ dx, H b = some (.ins (He.ga K "Book") dx [("_kinds", .ref kd), ("_sizes", .ref sd)])
  ek : H kd = some (.dK kk)
  es : H sd = some (.dK ss)
theorem Bk.gr {K : PySem.W.Frag} {M : List Addr} {H H' : Hp} {b kd sd : Addr} {kk ss : List (Key × V)} (B : Bk K H b kd sd kk ss) (g : Gr M H H') (n1 : b ∉ M) (n2 : kd ∉ M) (n3 : sd ∉ M) : Bk K H' b kd sd kk ss :=
  ⟨let ⟨dx, e⟩ := B.e; ⟨dx, g.keep _ _ e n1⟩, g.keep _ _ B.ek n2, g.keep _ _ B.es n3⟩
theorem Bk.at0 {K : PySem.W.Frag} {H H' : Hp} {b kd sd : Addr} {kk ss : List (Key × V)} (B : Bk K H b kd sd kk ss) (g : Gr [] H H') : Bk K H' b kd sd kk ss := B.gr g (by simp) (by simp) (by simp)
def spCkKind : Sp := fun vs H Q _ => ∃ v d, vs = [v] ∧ Rp H v d ∧ KindD d ∧ ∀ H', Gr [] H H' → Q v H'
/-- what dict(..) is given -/
def Src (K : PySem.W.Frag) (H : Hp) (a : Addr) (kvs : List (Key × V)) : Prop := Rd H a (.dK kvs) ∨ (tupE K a = true ∧ kvs = [])
def spBookInit (K : PySem.W.Frag) : Sp := fun vs H Q _ => ∃ (x a b dx : Addr) (kk ss : List (Key × V)), vs = [.ref x, .ref a, .ref b] ∧ H x = some (.ins (He.ga K "Book") dx []) ∧ Src K H a kk ∧ Src K H b ss ∧
  ∀ kd sd H', Gr [x] H H' → H kd = none → H sd = none → kd ≠ sd → Bk K H' x kd sd kk ss → Q .non H'
def spBookIn (K : PySem.W.Frag) : Sp := fun vs H Q _ => ∃ (b kd sd : Addr) (kk ss : List (Key × V)) (x : Str), vs = [.ref b, .str x] ∧ Bk K H b kd sd kk ss ∧ Q (.bl (valV kk (.inr x)).isSome) H
def spBookSet (K : PySem.W.Frag) : Sp := fun vs H Q _ => ∃ (b kd sd : Addr) (kk ss : List (Key × V)) (x : Str) (v : V) (d : D), vs = [.ref b, .str x, v] ∧ Bk K H b kd sd kk ss ∧ kd ≠ sd ∧ isNm x = true ∧ Rp H v d ∧ KindD d ∧ kk.length < 12 ∧
  ∀ H', Gr [kd] H H' → Bk K H' b kd sd (putK kk (.inr x) v) ss → Q .non H'
def spAddCell (K : PySem.W.Frag) : Sp := fun vs H Q _ => ∃ (b kd sd : Addr) (kk ss : List (Key × V)) (x : Str) (i : Int), vs = [.ref b, .str x, .int i] ∧ Bk K H b kd sd kk ss ∧ kd ≠ sd ∧ isNm x = true ∧ (i = 2 ∨ i = 3) ∧ valV ss (.inr x) = none ∧ ss.length < 2 ∧
  ∀ H', Gr [sd] H H' → Bk K H' b kd sd kk (putK ss (.inr x) (.int i)) → Q .non H'
def spCopied (K : PySem.W.Frag) : Sp := fun vs H Q _ => ∃ (b kd sd : Addr) (kk ss : List (Key × V)), vs = [.ref b] ∧ Bk K H b kd sd kk ss ∧ ∀ (b' kd' sd' : Addr) H', Gr [] H H' → H b' = none → Bk K H' b' kd' sd' kk ss → Q (.ref b') H'
theorem sc_Book_init : FnScope ["self", "kinds", "sizes"] ["self", "kinds", "sizes"] (defScope s_Book_init) := ⟨rfl, rfl, rfl, by decide +kernel, rfl, by decide +kernel, by decide +kernel⟩
theorem sc_Book_contains : FnScope ["self", "name"] ["self", "name"] (defScope s_Book_contains) := ⟨rfl, rfl, rfl, by decide +kernel, rfl, by decide +kernel, by decide +kernel⟩
theorem sc_Book_setitem : FnScope ["self", "name", "kind"] ["self", "name", "kind"] (defScope s_Book_setitem) := ⟨rfl, rfl, rfl, by decide +kernel, rfl, by decide +kernel, by decide +kernel⟩
theorem sc_Book_add_cell : FnScope ["self", "name", "size"] ["self", "name", "size"] (defScope s_Book_add_cell) := ⟨rfl, rfl, rfl, by decide +kernel, rfl, by decide +kernel, by decide +kernel⟩
theorem sc_copied : FnScope ["book"] ["book"] (defScope s_copied) := ⟨rfl, rfl, rfl, by decide +kernel, rfl, by decide +kernel, by decide +kernel⟩
section
variable {G : Ctx}
theorem k_check_kind (T : Txt G) (c_check_name : Cal G 3 (He.ga G.K "check_name") (spCkName G.K) []) (c_check_number : Cal G 3 (He.ga G.K "check_number") (spCkNum G.K) []) (c_BadKind : CalX G "BadKind" "kind") : Cal G 4 (He.ga G.K "check_kind") spCkKind [] := by
  refine cal_of T.f_check_kind sc_check_kind (fun _ _ _ _ _ _ us hl => match us, hl with | [_], _ => rfl) (fun vs H Q E h => ?_) (fun cdv A outer s H vs Q E hr h => ⟨_, ((pss_cons (ps_if (pt_cmpR (op_eqP hr.units) (pv 0) (pe_tup (pa_cons pe_str pa_nil)) (nomark _)) (pss_one (ps_ret (pv 0))) pss_nil)
    (pss_cons (ps_if (PW.pt (pw_or (pt_cmpR op_ne (pe_callB call_lenQ rfl T.v_len PySem.boot_len (pa_cons (pv 0) pa_nil)) pe_int (nomark _)) (pw_or1 (PW.pt (pw_and (pt_cmpR op_notIn_seq (pe_ix ix_tup (pv 0) pe_int (fun _ _ => rfl)) (pe_gR rfl T.g_NUMBERED) rfl) (pw_and1 (pt_cmpR op_notIn_seq (pe_ix ix_tup (pv 0) pe_int (fun _ _ => rfl)) (pe_gR rfl T.g_NAMED) rfl))))))) (pss_one (ps_rz T.o_BadKind T.j_BadKind.ini T.j_BadKind.ty c_BadKind hr (by omega) rfl (takes_of rfl rfl rfl rfl) rfl T.g_BadKind (pv 0))) pss_nil)
    (pss_cons (ps_if (pt_cmpR op_in_seq (pe_ix ix_tup (pv 0) pe_int (fun _ _ => rfl)) (pe_gR rfl T.g_NUMBERED) rfl) (pss_one (ps_expr (pe_cal c_check_number T.g_check_number hr (by omega) (takes_of rfl rfl rfl rfl) (fun _ _ _ _ h => h) rfl (pa_cons (pe_ix ix_tup (pv 0) pe_int (fun _ _ => rfl)) pa_nil)))) (pss_one (ps_expr (pe_cal c_check_name T.g_check_name hr (by omega) (takes_of rfl rfl rfl rfl) (fun _ _ _ _ h => h) rfl (pa_cons (pe_ix ix_tup (pv 0) pe_int (fun _ _ => rfl)) pa_nil)))))
    (pss_one (ps_ret (pv 0))))))), ?_⟩)
  · obtain ⟨v, d, rfl, _⟩ := h
    rfl
  obtain ⟨v, d, rfl, hv, hd, k⟩ := h
  walk_at "w"
  refine k_tup (by show 1 ≤ sizeLine; decide) fun q H1 g1 e1 => ?_
  have hp : Rp H1 (.ref q) (.tup [.str "plain"]) := .tup e1 (.cons (.str _) .nil)
  have num : ∀ (wd : Str) (n : Int), wd = "answer" ∨ wd = "heal" → 0 ≤ n → n ≤ 999 → d = .tup [.str wd, .int n] → True := fun _ _ _ _ _ _ => trivial
  have hv1 := hv.mono g1.tu
  cases hd with
  | plain =>
    refine ⟨_, _, hv1, hp, by decide, ?_⟩
    walk_at "w"
    exact k H1 g1
  | num wd n hw h0 h9 =>
    refine ⟨_, _, hv1, hp, by show 1 ≤ 64; decide, ?_⟩
    obtain ⟨t, vs, rfl, et, hz⟩ := hv1.tup_of
    obtain ⟨v1, vs, rfl, r1, hz1⟩ := hz.cons_of
    obtain ⟨v2, vs, rfl, r2, hz2⟩ := hz1.cons_of
    cases hz2.nil_of
    cases r1
    cases r2
    rcases hw with rfl | rfl
    · walk_at "w"
      refine r_lenT et ?_
      walk_at "w"
      refine r_inL (.inr (He.tupB_ok T.l_NUMBERED H1)) rfl rfl ?_
      walk_at "w"
      refine r_inL (.inr (He.tupB_ok T.l_NUMBERED H1)) rfl rfl ?_
      walk_at "w"
      refine ⟨n, rfl, ⟨fun _ H2 g2 => ?_, fun w d e => ?_⟩⟩
      · walk_at "w"
        exact k H2 (g1.trans g2)
      · rw [if_pos ⟨h0, h9⟩] at e
        cases e
    · walk_at "w"
      refine r_lenT et ?_
      walk_at "w"
      refine r_inL (.inr (He.tupB_ok T.l_NUMBERED H1)) rfl rfl ?_
      walk_at "w"
      refine r_inL (.inr (He.tupB_ok T.l_NUMBERED H1)) rfl rfl ?_
      walk_at "w"
      refine ⟨n, rfl, ⟨fun _ H2 g2 => ?_, fun w d e => ?_⟩⟩
      · walk_at "w"
        exact k H2 (g1.trans g2)
      · rw [if_pos ⟨h0, h9⟩] at e
        cases e
  | nam wd x hw hx =>
    refine ⟨_, _, hv1, hp, by show 1 ≤ 64; decide, ?_⟩
    obtain ⟨t, vs, rfl, et, hz⟩ := hv1.tup_of
    obtain ⟨v1, vs, rfl, r1, hz1⟩ := hz.cons_of
    obtain ⟨v2, vs, rfl, r2, hz2⟩ := hz1.cons_of
    cases hz2.nil_of
    cases r1
    cases r2
    rcases hw with rfl | rfl
    · walk_at "w"
      refine r_lenT et ?_
      walk_at "w"
      refine r_inL (.inr (He.tupB_ok T.l_NUMBERED H1)) rfl rfl ?_
      walk_at "w"
      refine r_inL (.inr (He.tupB_ok T.l_NAMED H1)) rfl rfl ?_
      walk_at "w"
      refine r_inL (.inr (He.tupB_ok T.l_NUMBERED H1)) rfl rfl ?_
      walk_at "w"
      refine ⟨x, rfl, sht_nm hx, ⟨fun _ H2 g2 => ?_, fun w d e => ?_⟩⟩
      · walk_at "w"
        exact k H2 (g1.trans g2)
      · rw [nmF_t hx] at e
        cases e
    · walk_at "w"
      refine r_lenT et ?_
      walk_at "w"
      refine r_inL (.inr (He.tupB_ok T.l_NUMBERED H1)) rfl rfl ?_
      walk_at "w"
      refine r_inL (.inr (He.tupB_ok T.l_NAMED H1)) rfl rfl ?_
      walk_at "w"
      refine r_inL (.inr (He.tupB_ok T.l_NUMBERED H1)) rfl rfl ?_
      walk_at "w"
      refine ⟨x, rfl, sht_nm hx, ⟨fun _ H2 g2 => ?_, fun w d e => ?_⟩⟩
      · walk_at "w"
        exact k H2 (g1.trans g2)
      · rw [nmF_t hx] at e
        cases e
theorem fn_Book_init (T : Txt G) {fd : FuncData} (F : FunD G.K "__init__" "Book.__init__" (defArgs s_Book_init) (defBody s_Book_init) (defScope s_Book_init) [.ref (He.dflAt ("Book", some "__init__") 0 G.K), .ref (He.dflAt ("Book", some "__init__") 1 G.K)] [] (He.ma G.K (He.ga G.K "Book") "__init__") fd) : FnG G 1 (He.ma G.K (He.ga G.K "Book") "__init__") fd ["self", "kinds", "sizes"] (spBookInit G.K) := by
  refine F.ok (k := 0) sc_Book_init (fun vs H Q E h => ?_) (fun cdv A outer s H vs Q E hr h => ⟨_, ((pss_cons (ps_fld (pv 0) (pe_callTy (call_dct rfl) rfl T.v_dict (by decide +kernel) (pa_cons (pv 1) pa_nil)) rfl)
    (pss_one (ps_fld (pv 0) (pe_callTy (call_dct rfl) rfl T.v_dict (by decide +kernel) (pa_cons (pv 2) pa_nil)) rfl)))), ?_⟩)
  · obtain ⟨x, a, b, dx, kk, ss, rfl, _⟩ := h
    rfl
  obtain ⟨x, a, b, dx, kk, ss, rfl, ex, ha, hb, k⟩ := h
  walk_at "w"
  refine ⟨a, kk, rfl, ha, fun kd hkd => ?_⟩
  walk_at "w"
  have g1 : Gr [] H (upd H kd (.dK kk)) := Gr.new hkd
  have ek1 : upd H kd (.dK kk) kd = some (.dK kk) := upd_same
  generalize upd H kd (.dK kk) = H1 at g1 ek1 ⊢
  have ex1 := g1.at0 ex
  refine k_sfld T.c_Book T.n_Book__kinds ex1 (by decide) ?_
  have g2 : Gr [x] H1 (upd H1 x (.ins (He.ga G.K "Book") dx (putF "_kinds" (.ref kd) []))) := Gr.set ex1 List.mem_cons_self (fun xs z => nomatch z)
  have ex2 : upd H1 x (.ins (He.ga G.K "Book") dx (putF "_kinds" (.ref kd) [])) x = some (.ins (He.ga G.K "Book") dx [("_kinds", .ref kd)]) := upd_same
  generalize upd H1 x (.ins (He.ga G.K "Book") dx (putF "_kinds" (.ref kd) [])) = H2 at g2 ex2 ⊢
  have nx : ∀ {c : Addr} {l : List (Key × V)}, Rd H c (.dK l) → Rd H2 c (.dK l) := fun {c l} r => by
    have nc : c ≠ x := fun z => by
      rw [z] at r
      rcases r with r | ⟨o, r⟩
      · rw [ex] at r; cases r
      · rw [ex] at r; cases r
    rcases r with r | ⟨o, r⟩
    · exact .inl (g2.keep _ _ (g1.at0 r) (by simpa using nc))
    · exact .inr ⟨o, g2.keep _ _ (g1.at0 r) (by simpa using nc)⟩
  have nkx : kd ≠ x := fun z => by rw [z, ex] at hkd; cases hkd
  have ek2 := g2.keep _ _ ek1 (by simpa using nkx)
  walk_at "w"
  refine ⟨b, ss, rfl, hb.imp nx id, fun sd hsd => ?_⟩
  have g3 : Gr [] H2 (upd H2 sd (.dK ss)) := Gr.new hsd
  have es3 : upd H2 sd (.dK ss) sd = some (.dK ss) := upd_same
  generalize upd H2 sd (.dK ss) = H3 at g3 es3 ⊢
  have ex3 := g3.at0 ex2
  have ek3 := g3.at0 ek2
  walk_at "w"
  refine k_sfld T.c_Book T.n_Book__sizes ex3 (by show 1 < 1000; decide) ?_
  have g4 : Gr [x] H3 (upd H3 x (.ins (He.ga G.K "Book") dx (putF "_sizes" (.ref sd) [("_kinds", .ref kd)]))) := Gr.set ex3 List.mem_cons_self (fun xs z => nomatch z)
  have nsx : sd ≠ x := fun z => by rw [z, ex2] at hsd; cases hsd
  have hsd0 : H sd = none := by
    cases e : H sd with
    | none => rfl
    | some o => have := g2.keep _ _ (g1.at0 e) (by simpa using nsx); rw [hsd] at this; cases this
  exact k kd sd _ ((g1.any.trans g2).trans (g3.any.trans g4)) hkd hsd0 (fun z => by rw [z, hsd] at ek2; cases ek2) ⟨⟨dx, upd_same⟩, g4.keep _ _ ek3 (by simpa using nkx), g4.keep _ _ es3 (by simpa using nsx)⟩
theorem k_Book2 (T : Txt G) : Cal G 1 (He.ma G.K (He.ga G.K "Book") "__init__") (spBookInit G.K) [] := by
  obtain ⟨fd, F⟩ := T.f_Book_init
  obtain ⟨ds, hv, hb⟩ := F.binds1 (ps := ["self", "kinds", "sizes"]) 3 2 (by simp) rfl fun T kV doc pm an cdv ct us its hu hi => match us, its, hu, hi with
    | [_, _, _], [_, _], _, _ => ⟨_, rfl, rfl⟩
  exact ⟨fd, _, ds, fn_Book_init T F, F.kp, hb, hv⟩
theorem k_Book0 (T : Txt G) : Cal G 1 (He.ma G.K (He.ga G.K "Book") "__init__") (spBookInit G.K) [.ref (He.dflAt ("Book", some "__init__") 0 G.K), .ref (He.dflAt ("Book", some "__init__") 1 G.K)] := by
  obtain ⟨fd, F⟩ := T.f_Book_init
  obtain ⟨ds, hv, hb⟩ := F.binds1 (ps := ["self", "kinds", "sizes"]) 1 0 (by simp) rfl fun T kV doc pm an cdv ct us its hu hi => match us, its, hu, hi with
    | [_], [_, _], _, _ => ⟨_, rfl, rfl⟩
  exact ⟨fd, _, ds, fn_Book_init T F, F.kp, hb, hv⟩
theorem k_Book_contains (T : Txt G) : Cal G 1 (He.ma G.K (He.ga G.K "Book") "__contains__") (spBookIn G.K) [] := by
  refine cal_of T.f_Book_contains sc_Book_contains (fun _ _ _ _ _ _ us hl => match us, hl with | [_, _], _ => rfl) (fun vs H Q E h => ?_) (fun cdv A outer s H vs Q E hr h => ⟨_, ((pss_one (ps_ret (pe_cmp (pc_din (hu_of hr) (pv 1) (pe_fld (pv 0) rfl)) rfl)))), ?_⟩)
  · obtain ⟨b, kd, sd, kk, ss, x, rfl, _⟩ := h
    rfl
  obtain ⟨b, kd, sd, kk, ss, x, rfl, B, k⟩ := h
  obtain ⟨dx, eb⟩ := B.e
  walk_at "w"
  refine k_fld T.c_Book T.n_Book__kinds eb rfl ?_
  refine k_din (k := .inr x) B.ek ?_
  exact k
theorem k_Book_setitem (T : Txt G) (c_check_name : Cal G 3 (He.ga G.K "check_name") (spCkName G.K) []) (c_check_kind : Cal G 4 (He.ga G.K "check_kind") spCkKind []) (c_TooLarge : CalX G "TooLarge" "most") : Cal G 5 (He.ma G.K (He.ga G.K "Book") "__setitem__") (spBookSet G.K) [] := by
  refine cal_of T.f_Book_setitem sc_Book_setitem (fun _ _ _ _ _ _ us hl => match us, hl with | [_, _, _], _ => rfl) (fun vs H Q E h => ?_) (fun cdv A outer s H vs Q E hr h => ⟨_, ((pss_cons (ps_expr (pe_cal c_check_name T.g_check_name hr (by omega) (takes_of rfl rfl rfl rfl) (fun _ _ _ _ h => h) rfl (pa_cons (pv 1) pa_nil)))
    (pss_cons (ps_expr (pe_cal c_check_kind T.g_check_kind hr (by omega) (takes_of rfl rfl rfl rfl) (fun _ _ _ _ h => h) rfl (pa_cons (pv 2) pa_nil)))
    (pss_cons (ps_if (PW.pt (pw_and (pt_cmp (pc_dnotin (hu_of hr) (pv 1) (pe_fld (pv 0) rfl))) (pw_and1 (pt_cmpR op_eq (pe_callB call_lenD rfl T.v_len PySem.boot_len (pa_cons (pe_fld (pv 0) rfl) pa_nil)) (ClX.pe_cval (pe_gR rfl T.g_Book)) (nomark _))))) (pss_one (ps_rz T.o_TooLarge T.j_TooLarge.ini T.j_TooLarge.ty c_TooLarge hr (by omega) rfl (takes_of rfl rfl rfl rfl) rfl T.g_TooLarge (ClX.pe_cval (pe_gR rfl T.g_Book)))) pss_nil)
    (pss_one (ps_asg (pv 2) (pg_sub (pe_fld (pv 0) rfl) (pv 1) (set_dict (hu_of hr))))))))), ?_⟩)
  · obtain ⟨b, kd, sd, kk, ss, x, v, d, rfl, _⟩ := h
    rfl
  obtain ⟨b, kd, sd, kk, ss, x, v, d, rfl, B, nks, hx, hv, hd, hz, k⟩ := h
  walk_at "w"
  refine ⟨x, rfl, sht_nm hx, ⟨fun _ H1 g1 => ?_, fun w d e => ?_⟩⟩
  rotate_left
  · rw [nmF_t hx] at e
    cases e
  walk_at "w"
  refine ⟨v, d, rfl, hv.mono g1.tu, hd, fun H2 g2 => ?_⟩
  have B2 := B.at0 (g1.trans g2)
  obtain ⟨dx, eb⟩ := B2.e
  have fin : ∀ o, (fun H3 => Q .non H3) = o → o (upd H2 kd (.dK (putK kk (.inr x) v))) := fun o e => by
    subst e
    have g3 : Gr [kd] H2 (upd H2 kd (.dK (putK kk (.inr x) v))) := Gr.set B2.ek List.mem_cons_self (fun xs z => nomatch z)
    have nb : b ≠ kd := fun z => by rw [z, B2.ek] at eb; cases eb
    exact k _ ((g1.any.trans g2.any).trans g3) ⟨⟨dx, g3.keep _ _ eb (by simpa using nb)⟩, upd_same, g3.keep _ _ B2.es (by simpa using nks.symm)⟩
  walk_at "w"
  refine k_fld T.c_Book T.n_Book__kinds eb rfl ?_
  refine k_dnin (k := .inr x) B2.ek ?_
  walk_at "w"
  refine i_2 (fun _ => ?_) (fun _ => ?_)
  · walk_at "w"
    refine k_fld T.c_Book T.n_Book__kinds eb rfl ?_
    walk_at "w"
    refine ⟨kd, kk, rfl, B2.ek, ?_⟩
    walk_at "w"
    refine k_cval T.k_Book_STEPS ?_
    walk_at "w"
    refine i_I (fun z => absurd z (by omega)) (fun _ => ?_)
    walk_at "w"
    refine k_fld T.c_Book T.n_Book__kinds eb rfl ?_
    walk_at "w"
    exact r_setD B2.ek (by rw [sizeLine_eq]; omega) (fin _ rfl)
  · walk_at "w"
    refine k_fld T.c_Book T.n_Book__kinds eb rfl ?_
    walk_at "w"
    exact r_setD B2.ek (by rw [sizeLine_eq]; omega) (fin _ rfl)
theorem k_Book_add_cell (T : Txt G) (c_check_name : Cal G 3 (He.ga G.K "check_name") (spCkName G.K) []) (c_BadNumber : CalX G "BadNumber" "number") (c_Clash : CalX G "Clash" "name") (c_TooLarge : CalX G "TooLarge" "most") : Cal G 4 (He.ma G.K (He.ga G.K "Book") "add_cell") (spAddCell G.K) [] := by
  refine cal_of T.f_Book_add_cell sc_Book_add_cell (fun _ _ _ _ _ _ us hl => match us, hl with | [_, _, _], _ => rfl) (fun vs H Q E h => ?_) (fun cdv A outer s H vs Q E hr h => ⟨_, ((pss_cons (ps_expr (pe_cal c_check_name T.g_check_name hr (by omega) (takes_of rfl rfl rfl rfl) (fun _ _ _ _ h => h) rfl (pa_cons (pv 1) pa_nil)))
    (pss_cons (ps_if (pt_cmpR op_notIn_seq (pv 2) (pe_tup (pa_cons pe_int (pa_cons pe_int pa_nil))) rfl) (pss_one (ps_rz T.o_BadNumber T.j_BadNumber.ini T.j_BadNumber.ty c_BadNumber hr (by omega) rfl (takes_of rfl rfl rfl rfl) rfl T.g_BadNumber (pv 2))) pss_nil)
    (pss_cons (ps_if (pt_cmp (pc_din (hu_of hr) (pv 1) (pe_fld (pv 0) rfl))) (pss_one (ps_rz T.o_Clash T.j_Clash.ini T.j_Clash.ty c_Clash hr (by omega) rfl (takes_of rfl rfl rfl rfl) rfl T.g_Clash (pv 1))) pss_nil)
    (pss_cons (ps_if (pt_cmpR op_eq (pe_callB call_lenD rfl T.v_len PySem.boot_len (pa_cons (pe_fld (pv 0) rfl) pa_nil)) (ClX.pe_cval (pe_gR rfl T.g_Book)) (nomark _)) (pss_one (ps_rz T.o_TooLarge T.j_TooLarge.ini T.j_TooLarge.ty c_TooLarge hr (by omega) rfl (takes_of rfl rfl rfl rfl) rfl T.g_TooLarge (ClX.pe_cval (pe_gR rfl T.g_Book)))) pss_nil)
    (pss_one (ps_asg (pv 2) (pg_sub (pe_fld (pv 0) rfl) (pv 1) (set_dict (hu_of hr)))))))))), ?_⟩)
  · obtain ⟨b, kd, sd, kk, ss, x, i, rfl, _⟩ := h
    rfl
  obtain ⟨b, kd, sd, kk, ss, x, i, rfl, B, nks, hx, hi, hno, hz, k⟩ := h
  walk_at "w"
  refine ⟨x, rfl, sht_nm hx, ⟨fun _ H1 g1 => ?_, fun w d e => ?_⟩⟩
  rotate_left
  · rw [nmF_t hx] at e
    cases e
  walk_at "w"
  refine k_tup (by show 2 ≤ sizeLine; decide) fun q H2 g2 e2 => ?_
  have B2 := B.at0 (g1.trans g2)
  obtain ⟨dx, eb⟩ := B2.e
  have hin : inV (.int i) [.int 2, .int 3] = true := by rcases hi with rfl | rfl <;> rfl
  refine r_inL (.inr (SqT.of e2)) rfl rfl ?_
  rw [hin]
  walk_at "w"
  refine k_fld T.c_Book T.n_Book__sizes eb rfl ?_
  refine k_din (k := .inr x) B2.es ?_
  rw [hno]
  walk_at "w"
  refine k_fld T.c_Book T.n_Book__sizes eb rfl ?_
  walk_at "w"
  refine ⟨sd, ss, rfl, B2.es, ?_⟩
  walk_at "w"
  refine k_cval T.k_Book_CELLS ?_
  walk_at "w"
  refine i_I (fun z => absurd z (by omega)) (fun _ => ?_)
  walk_at "w"
  refine k_fld T.c_Book T.n_Book__sizes eb rfl ?_
  walk_at "w"
  refine r_setD B2.es (by rw [sizeLine_eq]; omega) ?_
  have g3 : Gr [sd] H2 (upd H2 sd (.dK (putK ss (.inr x) (.int i)))) := Gr.set B2.es List.mem_cons_self (fun xs z => nomatch z)
  have nb : b ≠ sd := fun z => by rw [z, B2.es] at eb; cases eb
  exact k _ ((g1.any.trans g2.any).trans g3) ⟨⟨dx, g3.keep _ _ eb (by simpa using nb)⟩, g3.keep _ _ B2.ek (by simpa using nks), upd_same⟩
theorem k_copied (T : Txt G) (c_Book : Cal G 1 (He.ma G.K (He.ga G.K "Book") "__init__") (spBookInit G.K) []) : Cal G 3 (He.ga G.K "copied") (spCopied G.K) [] := by
  refine cal_of T.f_copied sc_copied (fun _ _ _ _ _ _ us hl => match us, hl with | [_], _ => rfl) (fun vs H Q E h => ?_) (fun cdv A outer s H vs Q E hr h => ⟨_, ((pss_one (ps_ret (pe_new T.m_Book c_Book T.g_Book hr (by omega) (takes_of rfl rfl rfl rfl) (fun _ _ _ _ h => h) rfl (pa_cons (pe_fld (pv 0) rfl) (pa_cons (pe_fld (pv 0) rfl) pa_nil)))))), ?_⟩)
  · obtain ⟨b, kd, sd, kk, ss, rfl, _⟩ := h
    rfl
  obtain ⟨b, kd, sd, kk, ss, rfl, B, k⟩ := h
  obtain ⟨dx, eb⟩ := B.e
  walk_at "w"
  refine k_fld T.c_Book T.n_Book__kinds eb rfl ?_
  walk_at "w"
  refine k_fld T.c_Book T.n_Book__sizes eb rfl ?_
  walk_at "w"
  intro x d hx hd ne
  have g1 : Gr [] H (upd (upd H d (.own x)) x (.ins (He.ga G.K "Book") d [])) := ((Gr.refl (M := [])).own hd).own hx
  have ex : upd (upd H d (.own x)) x (.ins (He.ga G.K "Book") d []) x = some (.ins (He.ga G.K "Book") d []) := upd_same
  refine ⟨x, kd, sd, d, kk, ss, rfl, ex, .inl (.inl (g1.at0 B.ek)), .inl (.inl (g1.at0 B.es)), fun kd' sd' H' g2 _ _ _ B' => ⟨rfl, k x kd' sd' H' ?_ hx B'⟩⟩
  exact ⟨fun c o e _ => g2.keep _ _ (g1.at0 e) (by simpa using ne_of_none e hx), g1.tu.trans g2.tu⟩
end
end Xd

/-! text E3 -/
/-! the program: books compared, cells, stores -/
namespace Xd
open PySem PySem.Spec PyProof.Rows L2
theorem pe_fldB {X : Cx} {K : PySem.W.Frag} {e : Expr} {f : Str} {pos : Pos} {ta : TE} (h : X.K = K) (he : PE X e ta) (hb : attributeBase e f X.env (eval e X.env) = eval e X.env) : PE X (.Attribute e f pos) (tFld K ta f) := by
  subst h
  exact pe_fld he hb
theorem pg_tupB {X : Cx} {K : PySem.W.Frag} {es : List Expr} {k : Nat} {t : TGs} {n : Nat} {pos : Pos} (h : X.K = K) (hc : X.calm = true) (hp : PGs X es t)
    (hn : (assignEach es X.env).length = n := by rfl) (hst : (assignEach es X.env).findIdx? (·.1) = none := by rfl) : PG X (.Tuple es k pos) (gTup K n t) := by
  subst h
  exact pg_tup hc hp hn hst
def rSortD : List V → Hp → VK → Prop := fun xs H Q => ∃ (a : Addr) (kvs : List (Key × V)) (ks : List Str), xs = [.ref a] ∧ Rd H a (.dK kvs) ∧ kvs.map (·.1) = ks.map Sum.inr ∧ ks.length < 64 ∧
    ∀ ys p, ys.Perm ks → sortedS ys = true → H p = none → Q (.ref p) (upd H p (.lst (ys.map V.str)))
theorem call_sortD {X : Cx} (hc : X.calm = true) : CallR X (.builtin "sorted") rSortD := call_sortedD hc
/-- for k in d -/
def kForK (x : V) (g : TG) (tb : TS) (D : Ends) (σ : St) (H : Hp) : Prop := ∃ d o, x = .ref d ∧ ((∃ kvs, H d = some (.frz o (.dK kvs)) ∧ ∃ W : Nat → Nat → St → Hp → Prop, (∃ m, W 0 m σ H) ∧ ∀ i m σ H, W i m σ H →
  ((Itk d o kvs).stop i H ∧ D.nx σ H) ∨ ((Itk d o kvs).go i H ∧ ∃ N : St → Hp → Prop, (∀ σ' H', N σ' H' → ∃ m', m' < m ∧ W (i + 1) m' σ' H') ∧ ∀ x H', (Itk d o kvs).yld i H x H' → g x σ H' fun σ2 H2 => tb { D with nx := N, ct := N, bk := D.nx } σ2 H2)) ∨
  (∃ kvs, H d = some (.frz o (.dT kvs)) ∧ ∃ W : Nat → Nat → St → Hp → Prop, (∃ m, W 0 m σ H) ∧ ∀ i m σ H, W i m σ H →
  ((Itkt d o kvs).stop i H ∧ D.nx σ H) ∨ ((Itkt d o kvs).go i H ∧ ∃ N : St → Hp → Prop, (∀ σ' H', N σ' H' → ∃ m', m' < m ∧ W (i + 1) m' σ' H') ∧ ∀ x H', (Itkt d o kvs).yld i H x H' → g x σ H' fun σ2 H2 => tb { D with nx := N, ct := N, bk := D.nx } σ2 H2)))
section
variable {σ : St} {H : Hp} {nx : St → Hp → Prop} {rt : VK} {bk ct : St → Hp → Prop} {t : TS} {te : TE} {g : TG}
theorem r_forK (h : te σ H fun x H1 => kForK x g t ⟨nx, rt, bk, ct⟩ σ H1) : tFor (iKeys te) g t ⟨nx, rt, bk, ct⟩ σ H := h
theorem k_forK {d : Addr} {o : Obj} {kvs : List (Key × V)} (e : H d = some (.frz o (.dK kvs))) (Pv : Nat → St → Hp → Prop) (h0 : Pv 0 σ H) (hl : ∀ i σ H, i ≤ kvs.length → Pv i σ H → H d = some (.frz o (.dK kvs)))
    (hs : ∀ i k v σ H, kvs[i]? = some (k, v) → Pv i σ H → g (kV k) σ H fun σ2 H2 => t ⟨Pv (i + 1), rt, nx, Pv (i + 1)⟩ σ2 H2) (hd : ∀ σ H, Pv kvs.length σ H → nx σ H) : kForK (.ref d) g t ⟨nx, rt, bk, ct⟩ σ H := by
  refine ⟨d, o, rfl, .inl ⟨kvs, e, for_it (D := ⟨nx, rt, bk, ct⟩) walk_keys Pv h0 hl (fun i x σ H H' hi p y => ?_) fun σ H p => hd σ H p⟩⟩
  obtain ⟨rfl, k, v, hk, rfl⟩ := y
  exact hs i k v σ _ hk p
theorem r_lock {T : TS} {d : Addr} {u : HO} (e : H d = some u) (mu : Mut (some u)) (h : ∀ od, T ⟨fun σ' H' => H' d = some (.frz od u) ∧ nx σ' (upd H' d u), fun v H' => H' d = some (.frz od u) ∧ rt v (upd H' d u), fun σ' H' => H' d = some (.frz od u) ∧ bk σ' (upd H' d u), fun σ' H' => H' d = some (.frz od u) ∧ ct σ' (upd H' d u)⟩ σ (upd H d (.frz od u))) : tLock T ⟨nx, rt, bk, ct⟩ σ H := ⟨d, u, e, mu, h⟩
theorem upd_back {d : Addr} {u o : HO} (e : H d = some u) : upd (upd H d o) d u = H := by
  rw [upd_upd]
  funext b
  by_cases z : b = d
  · rw [z, upd_same, e]
  · exact upd_ne z
end
local macro_rules | `(tactic| walk_at "w1") => `(tactic| first
  | with_reducible apply r_seq
  | with_reducible apply r_asg
  | with_reducible apply r_gname
  | ((with_reducible apply r_var); exact rfl)
  | with_reducible apply r_c
  | with_reducible apply r_op
  | with_reducible apply r_I0
  | ((with_reducible apply r_eq); exact rfl)
  | ((with_reducible apply r_ne); exact rfl)
  | with_reducible apply r_if
  | with_reducible apply r_test
  | with_reducible apply r_tB
  | with_reducible apply r_bl
  | with_reducible apply r_and
  | with_reducible apply r_or
  | with_reducible apply r_not
  | with_reducible apply r_ret
  | with_reducible apply r_drop
  | with_reducible apply r_cons
  | with_reducible apply r_nil
  | with_reducible apply r_cal
  | with_reducible apply r_cb
  | with_reducible apply r_tup
  | with_reducible apply r_lst
  | with_reducible apply r_next
  | with_reducible apply r_retN
  | with_reducible apply r_un
  | with_reducible apply r_U
  | with_reducible apply r_andV
  | with_reducible apply r_orV
  | with_reducible apply r_notV
  | with_reducible apply r_ifx
  | with_reducible apply r_forT
  | with_reducible apply r_forL
  | with_reducible apply r_forR
  | with_reducible apply r_sl
  | with_reducible apply r_nop
  | with_reducible apply r_part
  | with_reducible apply r_kPart
  | with_reducible apply r_gsub
  | with_reducible apply r_int1
  | with_reducible apply r_isN
  | with_reducible apply r_notN
  | with_reducible apply r_ltStr
  | with_reducible apply r_inS
  | with_reducible apply r_niS
  | with_reducible apply r_bm
  | with_reducible apply r_forS
  | with_reducible apply r_lcL
  | with_reducible apply r_lcT
  | with_reducible apply r_m0
  | with_reducible apply r_fld
  | with_reducible apply r_sfld
  | with_reducible apply r_cval
  | with_reducible apply r_make
  | with_reducible apply r_prop
  | with_reducible apply r_meth
  | with_reducible apply r_chain
  | with_reducible apply r_rz
  | with_reducible apply r_veI
  | with_reducible apply r_ost
  | with_reducible apply r_bm0
  | with_reducible apply r_din
  | with_reducible apply r_dnin
  | with_reducible apply r_dget
  | ((with_reducible apply r_gtup); (assumption); (exact rfl))
  | with_reducible apply r_gcons
  | with_reducible apply r_gnil
  | (with_reducible refine r_lo0 (by assumption) ?_)
  | (with_reducible refine r_lo2 (by assumption) ?_)
  | (with_reducible refine r_isi_non (b := true) (by decide +kernel) ?_)
  | (with_reducible refine r_isi_int (b := true) (by decide +kernel) ?_)
  | (with_reducible refine r_isi_str (b := true) (by decide +kernel) ?_)
  | ((with_reducible apply r_isi_tup (b := true)); (assumption); (exact (by decide +kernel)))
  | ((with_reducible apply r_isi_lst (b := true)); (assumption); (exact (by decide +kernel)))
  | (with_reducible refine r_isi_non (b := false) (by decide +kernel) ?_)
  | (with_reducible refine r_isi_int (b := false) (by decide +kernel) ?_)
  | (with_reducible refine r_isi_str (b := false) (by decide +kernel) ?_)
  | ((with_reducible apply r_isi_tup (b := false)); (assumption); (exact (by decide +kernel)))
  | ((with_reducible apply r_isi_lst (b := false)); (assumption); (exact (by decide +kernel)))
  | (with_reducible refine r_l0 (by assumption) ?_)
  | (with_reducible refine r_l2 (by assumption) ?_)
  | (with_reducible refine r_lenN (by assumption) ?_)
  | (with_reducible refine r_lenC (by assumption) ?_)
  | ((with_reducible apply r_ixT'); (assumption); (first | exact rfl | exact atI_0 | exact atI_1 | exact atI_2))
  | ((with_reducible apply r_ixL'); (assumption); (exact rfl))
  | ((with_reducible apply i_f); exact rfl)
  | ((with_reducible apply i_t); exact rfl)
  | ((with_reducible apply r_I); first | exact Or.inr ⟨by decide, by decide⟩ | exact (by decide) | assumption | exact ⟨by omega, by omega⟩ | exact (by omega) | exact ⟨by decide, by decide, by decide⟩))
local macro_rules | `(tactic| walk_at "w") => `(tactic| repeat (walk_at "w1"))

/-- a dict that may be compared -/
def Good (kvs : List (Key × V)) : Prop := (kvs.map (·.1)).Nodup ∧ ∀ p ∈ kvs, flatB p.2 = true ∨ ∃ a, p.2 = .ref a
theorem Good.nil : Good [] := ⟨List.nodup_nil, fun _ h => nomatch h⟩
theorem Good.put {kvs : List (Key × V)} {k : Key} {v : V} (h : Good kvs) (hv : flatB v = true ∨ ∃ a, v = .ref a) : Good (putK kvs k v) := by
  unfold putK
  by_cases a : (kvs.any fun kv => decide (kv.1 = k)) = true
  · rw [if_pos a]
    refine ⟨?_, fun p hp => ?_⟩
    · rw [List.map_map]
      have e : kvs.map ((fun x => x.1) ∘ fun kv => if kv.1 = k then (kv.1, v) else kv) = kvs.map (·.1) := List.map_congr_left fun kv _ => by
        show (if kv.1 = k then (kv.1, v) else kv).1 = kv.1
        split <;> rfl
      rw [e]
      exact h.1
    · obtain ⟨q, hq, rfl⟩ := List.mem_map.mp hp
      split
      · exact hv
      · exact h.2 q hq
  · rw [if_neg a]
    refine ⟨?_, fun p hp => ?_⟩
    · rw [List.map_append]
      refine List.nodup_append.mpr ⟨h.1, List.nodup_cons.mpr ⟨fun z => (nomatch z), List.nodup_nil⟩, fun x hx y hy => ?_⟩
      have ey : y = k := List.mem_singleton.mp hy
      rw [ey]
      intro z
      obtain ⟨q, hq, e⟩ := List.mem_map.mp hx
      exact a (List.any_eq_true.mpr ⟨q, hq, decide_eq_true (e.trans z)⟩)
    · rcases mem_snoc hp with z | z
      · exact h.2 p z
      · rw [z]
        exact hv
theorem r_eqGood {K : PySem.W.Frag} {a b : Addr} {kvs : List (Key × V)} {H : Hp} {Q : VK} (ea : H a = some (.dK kvs)) (eb : H b = some (.dK kvs)) (g : Good kvs) (q : Q (.bl true) H) : rEqV K (.ref a) (.ref b) H Q :=
  ⟨1, by decide, .inr ⟨a, b, kvs, kvs, rfl, rfl, ea, eb, rfl, fun p hp => ⟨p.2, val_nodup g.1 p hp, (g.2 p hp).elim (fun f => .inl ⟨rfl, f⟩) fun ⟨c, e⟩ => .inr (.inl ⟨c, e, e⟩)⟩⟩, q⟩
def spBookEq (K : PySem.W.Frag) : Sp := fun vs H Q _ => ∃ (b kd sd b' kd' sd' : Addr) (kk ss : List (Key × V)), vs = [.ref b, .ref b'] ∧ Bk K H b kd sd kk ss ∧ Bk K H b' kd' sd' kk ss ∧ Good kk ∧ Good ss ∧ Q (.bl true) H
/-- the sizes dict of these cells -/
def szs (C : List (Str × Int)) : List (Key × V) := C.map fun c => (.inr c.1, .int c.2)
structure COk (C : List (Str × Int)) : Prop where
  c2 : C.length ≤ 2
  cm : ∀ c ∈ C, isNm c.1 = true ∧ 2 ≤ c.2 ∧ c.2 ≤ 3
  cd : (C.map (·.1)).Nodup
theorem szs_get {C : List (Str × Int)} (nd : (C.map (·.1)).Nodup) : ∀ c ∈ C, valV (szs C) (.inr c.1) = some (.int c.2) := by
  induction C with
  | nil => intro c h; cases h
  | cons a r ih =>
    intro c hc
    rw [List.map_cons, List.nodup_cons] at nd
    rcases List.mem_cons.mp hc with rfl | hc
    · exact valV_pos rfl
    · refine (valV_neg (fun z => nd.1 ?_)).trans (ih nd.2 c hc)
      rw [Sum.inr.inj z]
      exact List.mem_map.mpr ⟨c, hc, rfl⟩
def spCells (K : PySem.W.Frag) : Sp := fun vs H Q _ => ∃ (b kd sd : Addr) (kk : List (Key × V)) (C : List (Str × Int)), vs = [.ref b] ∧ Bk K H b kd sd kk (szs C) ∧ COk C ∧ ∀ (q : Addr) (us : List V) (C' : List (Str × Int)) H', Gr [] H H' → H' q = some (.tup us) → Rps H' us (C'.map prD) → C'.Perm C → Q (.ref q) H'
def spStores (K : PySem.W.Frag) : Sp := fun vs H Q _ => ∃ (b kd sd : Addr) (kk : List (Key × V)) (C : List (Str × Int)), vs = [.ref b] ∧ Bk K H b kd sd kk (szs C) ∧ COk C ∧ ∀ H', Gr [] H H' → Q (.int (stores C)) H'
def spCellNames (K : PySem.W.Frag) : Sp := fun vs H Q _ => ∃ (b kd sd : Addr) (kk : List (Key × V)) (C : List (Str × Int)), vs = [.ref b] ∧ Bk K H b kd sd kk (szs C) ∧ COk C ∧ ∀ q (C' : List (Str × Int)) H', Gr [] H H' → H' q = some (.lst ((C'.map (·.1)).map V.str)) → C'.Perm C → Q (.ref q) H'
theorem sc_Book_eq : FnScope ["self", "other"] ["self", "other"] (defScope s_Book_eq) := ⟨rfl, rfl, rfl, by decide +kernel, rfl, by decide +kernel, by decide +kernel⟩
theorem sc_Book_cells : FnScope ["self", "name"] ["self"] (defScope s_Book_cells) := ⟨rfl, rfl, rfl, by decide +kernel, rfl, by decide +kernel, by decide +kernel⟩
theorem sc_Book_stores : FnScope ["self", "many", "name"] ["self"] (defScope s_Book_stores) := ⟨rfl, rfl, rfl, by decide +kernel, rfl, by decide +kernel, by decide +kernel⟩
theorem sc_cell_names : FnScope ["book", "name", "size"] ["book"] (defScope s_cell_names) := ⟨rfl, rfl, rfl, by decide +kernel, rfl, by decide +kernel, by decide +kernel⟩
section
variable {G : Ctx}
theorem k_Book_eq (T : Txt G) : Cal G 1 (He.ma G.K (He.ga G.K "Book") "__eq__") (spBookEq G.K) [] := by
  refine cal_of T.f_Book_eq sc_Book_eq (fun _ _ _ _ _ _ us hl => match us, hl with | [_, _], _ => rfl) (fun vs H Q E h => ?_) (fun cdv A outer s H vs Q E hr h => ⟨_, ((pss_one (ps_ret (pe_and (pe_callB call_isi rfl T.v_isinstance (by decide +kernel) (pa_cons (pv 1) (pa_cons (pe_gR rfl T.g_Book) pa_nil))) (pe_and (pe_cmpR (op_eqV hr.units) (pe_fld (pv 0) rfl) (pe_fld (pv 1) rfl) (nomark _)) (pe_one (pe_cmpR (op_eqV hr.units) (pe_fld (pv 0) rfl) (pe_fld (pv 1) rfl) (nomark _)))))))), ?_⟩)
  · obtain ⟨b, kd, sd, b', kd', sd', kk, ss, rfl, _⟩ := h
    rfl
  obtain ⟨b, kd, sd, b', kd', sd', kk, ss, rfl, B, B', gk, gs, k⟩ := h
  obtain ⟨dx, eb⟩ := B.e
  obtain ⟨dx', eb'⟩ := B'.e
  walk_at "w"
  refine ⟨.ref b', .ref (He.ga G.K "Book"), .ref (He.ga G.K "Book"), .ref (He.ga G.K "Book"), true, rfl, .own _, .base (.ins eb' T.c_Book T.w_Book.ha T.w_Book.hn T.w_Book.ht T.w_Book.hm), T.z_Book, ?_⟩
  walk_at "w"
  refine k_fld T.c_Book T.n_Book__kinds eb rfl ?_
  walk_at "w"
  refine k_fld T.c_Book T.n_Book__kinds eb' rfl ?_
  refine r_eqGood B.ek B'.ek gk ?_
  walk_at "w"
  refine k_fld T.c_Book T.n_Book__sizes eb rfl ?_
  walk_at "w"
  refine k_fld T.c_Book T.n_Book__sizes eb' rfl ?_
  exact r_eqGood B.es B'.es gs k
theorem k_cells (T : Txt G) : Cal G 1 (pg G.K "Book" "cells") (spCells G.K) [] := by
  refine cal_of T.f_Book_cells sc_Book_cells (fun _ _ _ _ _ _ us hl => match us, hl with | [_], _ => rfl) (fun vs H Q E h => ?_) (fun cdv A outer s H vs Q E hr h => ⟨_, ((pss_one (ps_ret (pe_callTy call_tupOf rfl T.v_tuple (by decide +kernel) (pa_cons (pe_lc (own := [("name", 1)]) rfl sc_Book_cells.nd (pi_list (pe_callB (call_sortD rfl) rfl T.v_sorted (by decide +kernel) (pa_cons (pe_fld (pv 0) rfl) pa_nil))) (blkOk_by (N := ["self", "name"]) (sc := defScope s_Book_cells) (by decide +kernel)) (fun _ _ _ _ _ => (pg_name (i := 1) sc_Book_cells.nd rfl (Or.inl rfl))) (fun _ _ _ _ _ => pts_nil) (fun _ _ _ _ _ => (pe_tup (pa_cons (pv 1) (pa_cons (pe_dget (hu_of hr) (pe_fldB (K := G.K) rfl (pv 0) rfl) (pv 1) (fun _ _ => rfl)) pa_nil))))) pa_nil))))), ?_⟩)
  · obtain ⟨b, kd, sd, kk, C, rfl, _⟩ := h
    rfl
  obtain ⟨b, kd, sd, kk, C, rfl, B, ok, k⟩ := h
  obtain ⟨dx, eb⟩ := B.e
  walk_at "w"
  refine k_fld T.c_Book T.n_Book__sizes eb rfl ?_
  walk_at "w"
  refine ⟨sd, szs C, C.map (·.1), rfl, .inl B.es, ?_, ?_, fun ys p hp _ hn => ?_⟩
  · unfold szs
    rw [List.map_map, List.map_map] <;> rfl
  · rw [List.length_map]
    have := ok.c2
    omega
  have g1 : Gr [] H (upd H p (.lst (ys.map V.str))) := Gr.new hn
  have e1 : upd H p (.lst (ys.map V.str)) p = some (.lst (ys.map V.str)) := upd_same
  generalize upd H p (.lst (ys.map V.str)) = H1 at g1 e1 ⊢
  let f : Str → Str × Int := fun y => (y, match valV (szs C) (.inr y) with
    | some (.int i) => i
    | _ => 0)
  have hfc : ∀ c ∈ C, f c.1 = c := fun c hc => by
    show (c.1, _) = c
    rw [szs_get ok.cd c hc]
  have hperm : (ys.map f).Perm C := by
    have h1 := hp.map f
    have e : (C.map (·.1)).map f = C := by
      rw [List.map_map]
      refine (List.map_congr_left fun c hc => ?_).trans (List.map_id C)
      exact hfc c hc
    rw [e] at h1
    exact h1
  have yl : ys.length = C.length := by rw [hp.length_eq, List.length_map]
  refine k_lcL (SqL.of e1) (fun H2 g => SqL.of (g.at0 e1)) (fun i acc H2 => Rps H2 acc (((ys.map f).map prD).take i)) (fun H2 _ => by rw [List.take_zero]; exact .nil) ?_ ?_
  · intro D i x acc H2 hD hx g2 hi e2 pv
    rw [List.getElem?_map] at hx
    obtain ⟨y, hy, rfl⟩ := Option.map_eq_some_iff.mp hx
    have hmem : f y ∈ C := hperm.mem_iff.mp (List.mem_map.mpr ⟨y, List.mem_of_getElem? hy, rfl⟩)
    have hget : valV (szs C) (.inr y) = some (.int (f y).2) := szs_get ok.cd (f y) hmem
    walk_at "w"
    refine ⟨rfl, ?_⟩
    walk_at "w"
    have g02 := g1.trans g2
    refine k_fld T.c_Book T.n_Book__sizes (g02.at0 eb) rfl ?_
    walk_at "w"
    refine k_dget (k := .inr y) (g02.at0 B.es) hget ?_
    walk_at "w"
    refine k_tup (by show 2 ≤ sizeLine; decide) fun q H3 g3 e3 => ?_
    have il : i < ys.length := (List.getElem?_eq_some_iff.mp hy).1
    refine k_el hD g2 e2 hi (by have := ok.c2; omega) g3 fun H5 g5 => ?_
    rw [List.take_add_one, List.getElem?_map, List.getElem?_map, hy]
    exact (Rps.mono (g3.tu.trans g5.tu) pv).append (.cons (.tup (g5.tu _ _ e3) (.cons (.str _) (.cons (.int _) .nil))) .nil)
  · intro q H2 acc hq g2 e2 hl pv
    walk_at "w"
    refine r_tupOfL e2 fun q3 H3 g3 e3 => ?_
    refine k q3 acc (ys.map f) H3 ((g1.trans g2).trans g3) e3 ?_ hperm
    rw [List.take_of_length_le (by simp)] at pv
    exact Rps.mono g3.tu pv
theorem k_stores (T : Txt G) : Cal G 1 (pg G.K "Book" "stores") (spStores G.K) [] := by
  refine cal_of T.f_Book_stores sc_Book_stores (fun _ _ _ _ _ _ us hl => match us, hl with | [_], _ => rfl) (fun vs H Q E h => ?_) (fun cdv A outer s H vs Q E hr h => ⟨_, ((pss_cons (ps_set (i := 1) sc_Book_stores.nd rfl (Or.inl rfl) pe_int)
    (pss_cons (ps_lock (ps_for (passes_of rfl) rfl (pi_keys (pe_fld (pv 0) rfl)) (pg_name (i := 2) sc_Book_stores.nd rfl (Or.inl rfl))
    (pss_one (ps_set (i := 1) sc_Book_stores.nd rfl (Or.inl rfl) (pe_op op_mul (pv 1) (pe_dget (hu_of hr) (pe_fld (pv 0) rfl) (pv 2) (fun _ _ => rfl)))))))
    (pss_one (ps_ret (pv 1)))))), ?_⟩)
  · obtain ⟨b, kd, sd, kk, C, rfl, _⟩ := h
    rfl
  obtain ⟨b, kd, sd, kk, C, rfl, B, ok, k⟩ := h
  obtain ⟨dx, eb⟩ := B.e
  walk_at "w"
  refine r_lock B.es trivial fun od => ?_
  have nbs : b ≠ sd := fun z => by rw [z, B.es] at eb; cases eb
  have eb1 : upd H sd (.frz od (.dK (szs C))) b = some (.ins (He.ga G.K "Book") dx [("_kinds", .ref kd), ("_sizes", .ref sd)]) := by rw [upd_ne nbs]; exact eb
  refine r_forK ?_
  walk_at "w"
  refine k_fld T.c_Book T.n_Book__sizes eb1 rfl ?_
  refine k_forK upd_same (fun i σ' H' => ∃ (m : Int) (o : Option V), σ' = [some (.ref b), some (.int m), o] ∧ H' = upd H sd (.frz od (.dK (szs C))) ∧ 0 < m ∧ m ≤ 3 ^ i ∧ m * stores (C.drop i) = stores C) ⟨1, none, rfl, rfl, by decide, by decide, by rw [List.drop_zero, Int.one_mul]⟩ (fun i σ' H' _ ⟨_, _, _, e, _⟩ => by rw [e]; exact upd_same) ?_ ?_
  · rintro i kx v σ2 H2 hkv ⟨m, o, rfl, rfl, h0, h3, hm⟩
    unfold szs at hkv
    rw [List.getElem?_map] at hkv
    obtain ⟨c, hc, e⟩ := Option.map_eq_some_iff.mp hkv
    obtain ⟨rfl, rfl⟩ := Prod.mk.inj e
    have hmem := List.mem_of_getElem? hc
    have il : i < C.length := (List.getElem?_eq_some_iff.mp hc).1
    have c2 := ok.c2
    have cc := (ok.cm c hmem).2
    have i1 : i = 0 ∨ i = 1 := by omega
    have m3 : m ≤ 3 := by
      rcases i1 with rfl | rfl
      · simp at h3; omega
      · simpa using h3
    walk_at "w"
    refine k_fld T.c_Book T.n_Book__sizes eb1 rfl ?_
    walk_at "w"
    refine ⟨sd, .int c.2, rfl, .inl ⟨szs C, .inr c.1, .inr ⟨od, upd_same⟩, rfl, (szs_get ok.cd c hmem).symm⟩, ?_⟩
    refine r_I (.inl ⟨by omega, by omega⟩) ?_
    walk_at "w"
    have hd : C.drop i = c :: C.drop (i + 1) := by
      obtain ⟨hi, e⟩ := List.getElem?_eq_some_iff.mp hc
      rw [← e]
      exact List.drop_eq_getElem_cons hi
    rw [hd] at hm
    have hmul : m * c.2 ≤ m * 3 := Int.mul_le_mul_of_nonneg_left cc.2 (by omega)
    have hpos : m * 2 ≤ m * c.2 := Int.mul_le_mul_of_nonneg_left cc.1 (by omega)
    refine ⟨m * c.2, _, rfl, rfl, by omega, ?_, ?_⟩
    · rw [Int.pow_succ]
      omega
    · rw [Int.mul_assoc]
      exact hm
  · rintro σ2 H2 ⟨m, o, rfl, rfl, h0, h3, hm⟩
    have sl : (szs C).length = C.length := by unfold szs; rw [List.length_map]
    rw [sl, List.drop_length] at hm
    refine ⟨upd_same, ?_⟩
    rw [upd_back B.es]
    walk_at "w"
    have e : m = stores C := by
      rw [← hm]
      show m = m * 1
      omega
    rw [e]
    exact k H Gr.refl
theorem k_cell_names (T : Txt G) (c_cells : Cal G 1 (pg G.K "Book" "cells") (spCells G.K) []) : Cal G 3 (He.ga G.K "cell_names") (spCellNames G.K) [] := by
  refine cal_of T.f_cell_names sc_cell_names (fun _ _ _ _ _ _ us hl => match us, hl with | [_], _ => rfl) (fun vs H Q E h => ?_) (fun cdv A outer s H vs Q E hr h => ⟨_, ((pss_one (ps_ret (pe_lc (own := [("name", 1), ("size", 2)]) rfl sc_cell_names.nd (pi_tup (pe_prp T.c_Book T.p_Book_cells c_cells hr (by omega) (pv 0))) (blkOk_by (N := ["book", "name", "size"]) (sc := defScope s_cell_names) (by decide +kernel)) (fun _ _ _ _ _ => (pg_tupB (K := G.K) (n := 2) rfl rfl (pgs_cons (pg_name (i := 1) sc_cell_names.nd rfl (Or.inl rfl)) (pgs_cons (pg_name (i := 2) sc_cell_names.nd rfl (Or.inl rfl)) pgs_nil)))) (fun _ _ _ _ _ => pts_nil) (fun _ _ _ _ _ => (pv 1)))))), ?_⟩)
  · obtain ⟨b, kd, sd, kk, C, rfl, _⟩ := h
    rfl
  obtain ⟨b, kd, sd, kk, C, rfl, B, ok, k⟩ := h
  obtain ⟨dx, eb⟩ := B.e
  walk_at "w"
  refine ⟨b, dx, _, rfl, eb, b, kd, sd, kk, C, rfl, B, ok, fun q us C' H1 g1 e1 hr1 hperm => ?_⟩
  have hul : us.length = C'.length := by rw [hr1.len, List.length_map]
  have hcl := hperm.length_eq
  have c2 := ok.c2
  refine k_lcT e1 (fun i acc _ => acc = ((C'.map (·.1)).map V.str).take i) (fun _ _ => rfl) ?_ ?_
  · intro D j x acc H2 hD hx g2 hj e2 pv
    obtain ⟨d, hd, rd⟩ := hr1.get hx
    rw [List.getElem?_map] at hd
    obtain ⟨c, hc, e⟩ := Option.map_eq_some_iff.mp hd
    subst e
    obtain ⟨t, rfl, et⟩ := pr_of rd
    have et2 := g2.at0 et
    walk_at "w"
    refine ⟨rfl, ?_⟩
    walk_at "w"
    have jl : j < C'.length := (List.getElem?_eq_some_iff.mp hc).1
    refine k_el hD g2 e2 hj (by omega) Gr.refl fun H5 g5 => ?_
    subst pv
    rw [List.take_add_one, List.getElem?_map, List.getElem?_map, hc] <;> rfl
  · intro p H2 acc hp g2 e2 hl2 pv
    refine k p C' H2 (g1.trans g2) ?_ hperm
    rw [e2, pv, List.take_of_length_le (by rw [List.length_map, List.length_map, hul]; exact Nat.le_refl _)]
end
end Xd

/-! text E4 -/
/-! the program: checks of actions and parts -/
namespace Xd
open PySem PySem.Spec PyProof.Rows L2
local macro_rules | `(tactic| walk_at "w1") => `(tactic| first
  | with_reducible apply r_seq
  | with_reducible apply r_asg
  | with_reducible apply r_gname
  | ((with_reducible apply r_var); exact rfl)
  | with_reducible apply r_c
  | with_reducible apply r_op
  | with_reducible apply r_I0
  | ((with_reducible apply r_eq); exact rfl)
  | ((with_reducible apply r_ne); exact rfl)
  | with_reducible apply r_if
  | with_reducible apply r_test
  | with_reducible apply r_tB
  | with_reducible apply r_bl
  | with_reducible apply r_and
  | with_reducible apply r_or
  | with_reducible apply r_not
  | with_reducible apply r_ret
  | with_reducible apply r_drop
  | with_reducible apply r_cons
  | with_reducible apply r_nil
  | with_reducible apply r_cal
  | with_reducible apply r_cb
  | with_reducible apply r_tup
  | with_reducible apply r_lst
  | with_reducible apply r_next
  | with_reducible apply r_retN
  | with_reducible apply r_un
  | with_reducible apply r_U
  | with_reducible apply r_andV
  | with_reducible apply r_orV
  | with_reducible apply r_notV
  | with_reducible apply r_ifx
  | with_reducible apply r_forT
  | with_reducible apply r_forL
  | with_reducible apply r_forR
  | with_reducible apply r_sl
  | with_reducible apply r_nop
  | with_reducible apply r_part
  | with_reducible apply r_kPart
  | with_reducible apply r_gsub
  | with_reducible apply r_int1
  | with_reducible apply r_isN
  | with_reducible apply r_notN
  | with_reducible apply r_ltStr
  | with_reducible apply r_inS
  | with_reducible apply r_niS
  | with_reducible apply r_bm
  | with_reducible apply r_forS
  | with_reducible apply r_lcL
  | with_reducible apply r_lcT
  | with_reducible apply r_m0
  | with_reducible apply r_fld
  | with_reducible apply r_sfld
  | with_reducible apply r_cval
  | with_reducible apply r_make
  | with_reducible apply r_prop
  | with_reducible apply r_meth
  | with_reducible apply r_chain
  | with_reducible apply r_rz
  | with_reducible apply r_veI
  | with_reducible apply r_ost
  | with_reducible apply r_bm0
  | with_reducible apply r_din
  | with_reducible apply r_dnin
  | with_reducible apply r_dget
  | ((with_reducible apply r_gtup); (assumption); (exact rfl))
  | with_reducible apply r_gcons
  | with_reducible apply r_gnil
  | (with_reducible refine r_lo0 (by assumption) ?_)
  | (with_reducible refine r_lo2 (by assumption) ?_)
  | (with_reducible refine r_isi_non (b := true) (by decide +kernel) ?_)
  | (with_reducible refine r_isi_int (b := true) (by decide +kernel) ?_)
  | (with_reducible refine r_isi_str (b := true) (by decide +kernel) ?_)
  | ((with_reducible apply r_isi_tup (b := true)); (assumption); (exact (by decide +kernel)))
  | ((with_reducible apply r_isi_lst (b := true)); (assumption); (exact (by decide +kernel)))
  | (with_reducible refine r_isi_non (b := false) (by decide +kernel) ?_)
  | (with_reducible refine r_isi_int (b := false) (by decide +kernel) ?_)
  | (with_reducible refine r_isi_str (b := false) (by decide +kernel) ?_)
  | ((with_reducible apply r_isi_tup (b := false)); (assumption); (exact (by decide +kernel)))
  | ((with_reducible apply r_isi_lst (b := false)); (assumption); (exact (by decide +kernel)))
  | (with_reducible refine r_l0 (by assumption) ?_)
  | (with_reducible refine r_l2 (by assumption) ?_)
  | (with_reducible refine r_lenN (by assumption) ?_)
  | (with_reducible refine r_lenC (by assumption) ?_)
  | ((with_reducible apply r_ixT'); (assumption); (first | exact rfl | exact atI_0 | exact atI_1 | exact atI_2))
  | ((with_reducible apply r_ixL'); (assumption); (exact rfl))
  | ((with_reducible apply i_f); exact rfl)
  | ((with_reducible apply i_t); exact rfl)
  | ((with_reducible apply r_I); first | exact Or.inr ⟨by decide, by decide⟩ | exact (by decide) | assumption | exact ⟨by omega, by omega⟩ | exact (by omega) | exact ⟨by decide, by decide, by decide⟩))
local macro_rules | `(tactic| walk_at "w") => `(tactic| repeat (walk_at "w1"))

/-- a book of these steps and cells -/
def BkW (K : PySem.W.Frag) (H : Hp) (b : Addr) (N : List Str) (C : List (Str × Int)) : Prop := COk C ∧ ∃ kd sd kk, Bk K H b kd sd kk (szs C) ∧ ∀ x, (valV kk (.inr x)).isSome = decide (x ∈ N)
theorem BkW.at0 {K : PySem.W.Frag} {H H' : Hp} {b : Addr} {N : List Str} {C : List (Str × Int)} (B : BkW K H b N C) (g : Gr [] H H') : BkW K H' b N C := ⟨B.1, let ⟨kd, sd, kk, q, h⟩ := B.2; ⟨kd, sd, kk, q.at0 g, h⟩⟩
theorem BkW.in_ {K : PySem.W.Frag} {H : Hp} {b : Addr} {N : List Str} {C : List (Str × Int)} {x : Str} {neg : Bool} {Q : VK} {E : XK} (B : BkW K H b N C) (h : Q (.bl (if neg then !decide (x ∈ N) else decide (x ∈ N))) H) : rInO (He.ga K "Book") (spBookIn K) E neg (.str x) (.ref b) H Q := by
  obtain ⟨_, kd, sd, kk, q, hn⟩ := B
  obtain ⟨dx, eb⟩ := q.e
  exact ⟨b, dx, _, rfl, eb, b, kd, sd, kk, _, x, rfl, q, _, rfl, by rw [hn]; exact h⟩
theorem BkW.names {K : PySem.W.Frag} {H : Hp} {b : Addr} {N : List Str} {C : List (Str × Int)} {Q : VK} {E : XK} (B : BkW K H b N C) (h : ∀ q (Ns : List Str) H', Gr [] H H' → H' q = some (.lst (Ns.map V.str)) → (∀ x, x ∈ Ns ↔ x ∈ C.map (·.1)) → Q (.ref q) H') : spCellNames K [.ref b] H Q E := by
  obtain ⟨ok, kd, sd, kk, q, hn⟩ := B
  exact ⟨b, kd, sd, kk, C, rfl, q, ok, fun p C' H' g e hp => h p _ H' g e fun x => (hp.map (·.1)).mem_iff⟩
section
variable {K : PySem.W.Frag} {r r' : Option Flt} {H H1 : Hp} {E : XK} {Q : VK} {u : V}
/-- a check by a check -/
theorem CkK.call {Q' : VK} {v : V} (k : CkK K r H E Q u) (g : Gr [] H H1) (h : ∀ e, r' = some e → r = some e) (ok : r' = none → ∀ H', Gr [] H1 H' → Q' v H') : CkK K r' H1 E Q' v := ⟨ok, k.er.sub g h⟩
end
def spCkArg (K : PySem.W.Frag) : Sp := fun vs H Q E => ∃ (b : Addr) (v s : V) (d e : D) (N : List Str) (C : List (Str × Int)), vs = [.ref b, v, s] ∧ BkW K H b N C ∧ Rp H v d ∧ Rp H s e ∧ ArgD d ∧ CkK K (rdF "BadAction" ["now", "late"] (C.map (·.1)) d e) H E Q .non
def spCkNow (K : PySem.W.Frag) : Sp := fun vs H Q E => ∃ (b : Addr) (v s : V) (d e : D) (N : List Str) (C : List (Str × Int)), vs = [.ref b, v, s] ∧ BkW K H b N C ∧ Rp H v d ∧ Rp H s e ∧ ArgD d ∧ d ≠ .non ∧ CkK K (rdF "BadStatement" ["now"] (C.map (·.1)) d e) H E Q .non
def spCkAt (K : PySem.W.Frag) (n : Nat) : Sp := fun vs H Q E => ∃ (b : Addr) (v : V) (d : D) (dp : Int) (N : List Str) (C : List (Str × Int)), vs = [.ref b, v, .int dp] ∧ BkW K H b N C ∧ Rp H v d ∧ KA n d ∧ CkK K (aF N (C.map (·.1)) n dp d) H E Q v
def spCkAct (K : PySem.W.Frag) : Sp := fun vs H Q E => ∃ (b : Addr) (v : V) (d : D) (N : List Str) (C : List (Str × Int)), vs = [.ref b, v] ∧ BkW K H b N C ∧ Rp H v d ∧ KA 7 d ∧ CkK K (aF N (C.map (·.1)) 7 0 d) H E Q v
def spCkCell (K : PySem.W.Frag) : Sp := fun vs H Q E => ∃ (b : Addr) (x : Str) (i : Int) (N : List Str) (C : List (Str × Int)), vs = [.ref b, .str x, .int i] ∧ BkW K H b N C ∧ CkK K (cellF C x i) H E Q .non
def spCkParts (K : PySem.W.Frag) (P : List D → Prop) : Sp := fun vs H Q E => ∃ (b : Addr) (v : V) (wd : Str) (r : List D) (N : List Str) (C : List (Str × Int)), vs = [.ref b, v] ∧ BkW K H b N C ∧ Rp H v (.tup (.str wd :: r)) ∧ Prt P wd r ∧ CkK K (pF N C wd r) H E Q .non
theorem cellF_perm {x : Str} {i : Int} {C C' : List (Str × Int)} (p : C.Perm C') : (C.map (·.1)).Nodup → cellF C x i = cellF C' x i := by
  induction p with
  | nil => intro _; rfl
  | @cons a l l' _ ih =>
    intro nd
    rw [List.map_cons, List.nodup_cons] at nd
    unfold cellF
    rw [ih nd.2]
  | swap a c l =>
    intro nd
    rw [List.map_cons, List.map_cons, List.nodup_cons] at nd
    have hne : ¬ c.1 = a.1 := fun z => nd.1 (by rw [z]; exact List.mem_cons_self)
    by_cases h1 : c.1 = x
    · have h2 : ¬ a.1 = x := fun z => hne (h1.trans z.symm)
      rw [cellF_no (c := a) h2]
      show (if c.1 = x then _ else _) = (if c.1 = x then _ else _)
      rw [if_pos h1, if_pos h1]
    · rw [cellF_no (c := c) h1]
      show (if a.1 = x then _ else _) = (if a.1 = x then _ else _)
      rw [cellF_no (c := c) h1]
  | @trans l m n p1 p2 i1 i2 =>
    intro nd
    exact (i1 nd).trans (i2 ((p1.map (·.1)).nodup_iff.mp nd))
theorem sc_check_argument : FnScope ["book", "argument", "owner"] ["book", "argument", "owner"] (defScope s_check_argument) := ⟨rfl, rfl, rfl, by decide +kernel, rfl, by decide +kernel, by decide +kernel⟩
theorem sc_check_at : FnScope ["book", "action", "depth", "guard", "step", "argument", "further", "inner"] ["book", "action", "depth"] (defScope s_check_at) := ⟨rfl, rfl, rfl, by decide +kernel, rfl, by decide +kernel, by decide +kernel⟩
theorem sc_check_action : FnScope ["book", "action"] ["book", "action"] (defScope s_check_action) := ⟨rfl, rfl, rfl, by decide +kernel, rfl, by decide +kernel, by decide +kernel⟩
theorem sc_check_now : FnScope ["book", "value", "statement"] ["book", "value", "statement"] (defScope s_check_now) := ⟨rfl, rfl, rfl, by decide +kernel, rfl, by decide +kernel, by decide +kernel⟩
theorem sc_check_cell : FnScope ["book", "cell", "value", "name", "size"] ["book", "cell", "value"] (defScope s_check_cell) := ⟨rfl, rfl, rfl, by decide +kernel, rfl, by decide +kernel, by decide +kernel⟩
section
variable {G : Ctx}
theorem k_check_argument (T : Txt G) (c_check_number : Cal G 3 (He.ga G.K "check_number") (spCkNum G.K) []) (c_cell_names : Cal G 3 (He.ga G.K "cell_names") (spCellNames G.K) []) (c_BadAction : CalX G "BadAction" "action") (c_UnknownCell : CalX G "UnknownCell" "cell") : Cal G 4 (He.ga G.K "check_argument") (spCkArg G.K) [] := by
  refine cal_of T.f_check_argument sc_check_argument (fun _ _ _ _ _ _ us hl => match us, hl with | [_, _, _], _ => rfl) (fun vs H Q E h => ?_) (fun cdv A outer s H vs Q E hr h => ⟨_, ((pss_cons (ps_if (pt_cmpR op_isN1 (pv 1) pe_non (nomark _)) (pss_one ps_retN) pss_nil)
    (pss_cons (ps_if (pt_not (pt_val (pe_callB call_isi rfl T.v_isinstance (by decide +kernel) (pa_cons (pv 1) (pa_cons (pe_bltn (v := .ty "tuple") rfl T.v_tuple (by decide +kernel) rfl) pa_nil))))) (pss_cons (ps_expr (pe_cal c_check_number T.g_check_number hr (by omega) (takes_of rfl rfl rfl rfl) (fun _ _ _ _ h => h) rfl (pa_cons (pv 1) pa_nil)))
    (pss_one ps_retN)) pss_nil)
    (pss_cons (ps_if (pt_cmpR op_notIn_seq (pe_ix ix_tup (pv 1) pe_int (fun _ _ => rfl)) (pe_gR rfl T.g_READS) rfl) (pss_one (ps_rz T.o_BadAction T.j_BadAction.ini T.j_BadAction.ty c_BadAction hr (by omega) rfl (takes_of rfl rfl rfl rfl) rfl T.g_BadAction (pv 2))) pss_nil)
    (pss_one (ps_if (pt_cmpR op_notIn_seq (pe_ix ix_tup (pv 1) pe_int (fun _ _ => rfl)) (pe_cal c_cell_names T.g_cell_names hr (by omega) (takes_of rfl rfl rfl rfl) (fun _ _ _ _ h => h) rfl (pa_cons (pv 0) pa_nil)) rfl) (pss_one (ps_rz T.o_UnknownCell T.j_UnknownCell.ini T.j_UnknownCell.ty c_UnknownCell hr (by omega) rfl (takes_of rfl rfl rfl rfl) rfl T.g_UnknownCell (pe_ix ix_tup (pv 1) pe_int (fun _ _ => rfl)))) pss_nil)))))), ?_⟩)
  · obtain ⟨b, v, s, d, e, N, C, rfl, _⟩ := h
    rfl
  obtain ⟨b, v, s, d, e, N, C, rfl, B, hv, hs, ha, k⟩ := h
  cases ha with
  | non =>
    cases hv
    walk_at "w"
    exact k.ok rdF_n H Gr.refl
  | int i =>
    cases hv
    walk_at "w"
    refine ⟨i, rfl, k.call Gr.refl (fun e he => he) fun h0 H1 g1 => ?_⟩
    walk_at "w"
    exact k.ok h0 H1 g1
  | pair y x =>
    obtain ⟨ta, us, rfl, eta, ht⟩ := hv.tup_of
    obtain ⟨u1, us, rfl, r1, ht1⟩ := ht.cons_of
    obtain ⟨u2, us, rfl, r2, ht2⟩ := ht1.cons_of
    cases ht2.nil_of
    cases r1
    cases r2
    walk_at "w"
    refine r_inL (xs := (["now", "late"] : List Str).map V.str) (.inr (He.tupB_ok T.l_READS H)) rfl rfl ?_
    rw [inV_str]
    walk_at "w"
    refine i_n (fun hy => ?_) (fun hy => ?_)
    · walk_at "w"
      refine B.names fun q Ns H1 g1 e1 hm => ?_
      have eta1 := g1.tu _ _ eta
      refine r_inStrL e1 ?_
      walk_at "w"
      refine i_n (fun hx => ?_) (fun hx => ?_)
      · walk_at "w"
        exact k.ok (rdF_o hy ((hm x).mp hx)) H1 g1
      · walk_at "w"
        exact k_er k.er (rdF_x hy fun z => hx ((hm x).mpr z)) rfl g1 (.str _)
    · walk_at "w"
      exact k_er k.er (rdF_w hy) rfl Gr.refl hs
theorem k_check_now (T : Txt G) (c_check_number : Cal G 3 (He.ga G.K "check_number") (spCkNum G.K) []) (c_cell_names : Cal G 3 (He.ga G.K "cell_names") (spCellNames G.K) []) (c_BadStatement : CalX G "BadStatement" "statement") (c_UnknownCell : CalX G "UnknownCell" "cell") : Cal G 4 (He.ga G.K "check_now") (spCkNow G.K) [] := by
  refine cal_of T.f_check_now sc_check_now (fun _ _ _ _ _ _ us hl => match us, hl with | [_, _, _], _ => rfl) (fun vs H Q E h => ?_) (fun cdv A outer s H vs Q E hr h => ⟨_, ((pss_cons (ps_if (pt_not (pt_val (pe_callB call_isi rfl T.v_isinstance (by decide +kernel) (pa_cons (pv 1) (pa_cons (pe_bltn (v := .ty "tuple") rfl T.v_tuple (by decide +kernel) rfl) pa_nil))))) (pss_cons (ps_expr (pe_cal c_check_number T.g_check_number hr (by omega) (takes_of rfl rfl rfl rfl) (fun _ _ _ _ h => h) rfl (pa_cons (pv 1) pa_nil)))
    (pss_one ps_retN)) pss_nil)
    (pss_cons (ps_if (pt_cmpR op_ne (pe_ix ix_tup (pv 1) pe_int (fun _ _ => rfl)) pe_str (nomark _)) (pss_one (ps_rz T.o_BadStatement T.j_BadStatement.ini T.j_BadStatement.ty c_BadStatement hr (by omega) rfl (takes_of rfl rfl rfl rfl) rfl T.g_BadStatement (pv 2))) pss_nil)
    (pss_one (ps_if (pt_cmpR op_notIn_seq (pe_ix ix_tup (pv 1) pe_int (fun _ _ => rfl)) (pe_cal c_cell_names T.g_cell_names hr (by omega) (takes_of rfl rfl rfl rfl) (fun _ _ _ _ h => h) rfl (pa_cons (pv 0) pa_nil)) rfl) (pss_one (ps_rz T.o_UnknownCell T.j_UnknownCell.ini T.j_UnknownCell.ty c_UnknownCell hr (by omega) rfl (takes_of rfl rfl rfl rfl) rfl T.g_UnknownCell (pe_ix ix_tup (pv 1) pe_int (fun _ _ => rfl)))) pss_nil))))), ?_⟩)
  · obtain ⟨b, v, s, d, e, N, C, rfl, _⟩ := h
    rfl
  obtain ⟨b, v, s, d, e, N, C, rfl, B, hv, hs, ha, hn, k⟩ := h
  cases ha with
  | non => exact absurd rfl hn
  | int i =>
    cases hv
    walk_at "w"
    refine ⟨i, rfl, k.call Gr.refl (fun e he => he) fun h0 H1 g1 => ?_⟩
    walk_at "w"
    exact k.ok h0 H1 g1
  | pair y x =>
    obtain ⟨ta, us, rfl, eta, ht⟩ := hv.tup_of
    obtain ⟨u1, us, rfl, r1, ht1⟩ := ht.cons_of
    obtain ⟨u2, us, rfl, r2, ht2⟩ := ht1.cons_of
    cases ht2.nil_of
    cases r1
    cases r2
    walk_at "w"
    refine i_nS (fun hy => ?_) (fun hy => ?_)
    · walk_at "w"
      refine B.names fun q Ns H1 g1 e1 hm => ?_
      have eta1 := g1.tu _ _ eta
      refine r_inStrL e1 ?_
      walk_at "w"
      refine i_n (fun hx => ?_) (fun hx => ?_)
      · walk_at "w"
        exact k.ok (rdF_o (List.mem_singleton.mpr hy) ((hm x).mp hx)) H1 g1
      · walk_at "w"
        exact k_er k.er (rdF_x (List.mem_singleton.mpr hy) fun z => hx ((hm x).mpr z)) rfl g1 (.str _)
    · walk_at "w"
      exact k_er k.er (rdF_w fun z => hy (List.mem_singleton.mp z)) rfl Gr.refl hs
theorem k_check_cell (T : Txt G) (c_cells : Cal G 1 (pg G.K "Book" "cells") (spCells G.K) []) (c_BadNumber : CalX G "BadNumber" "number") (c_UnknownCell : CalX G "UnknownCell" "cell") : Cal G 4 (He.ga G.K "check_cell") (spCkCell G.K) [] := by
  refine cal_of T.f_check_cell sc_check_cell (fun _ _ _ _ _ _ us hl => match us, hl with | [_, _, _], _ => rfl) (fun vs H Q E h => ?_) (fun cdv A outer s H vs Q E hr h => ⟨_, ((pss_cons (ps_for (passes_of rfl) rfl (pi_tup (pe_prp T.c_Book T.p_Book_cells c_cells hr (by omega) (pv 0))) (pg_tup rfl (pgs_cons (pg_name (i := 3) sc_check_cell.nd rfl (Or.inl rfl)) (pgs_cons (pg_name (i := 4) sc_check_cell.nd rfl (Or.inl rfl)) pgs_nil)))
    (pss_one (ps_if (pt_cmpR op_eq (pv 3) (pv 1) (nomark _)) (pss_cons (ps_if (pt_not (pt_chain op_le op_lt pe_int (pv 2) (pv 4))) (pss_one (ps_rz T.o_BadNumber T.j_BadNumber.ini T.j_BadNumber.ty c_BadNumber hr (by omega) rfl (takes_of rfl rfl rfl rfl) rfl T.g_BadNumber (pv 2))) pss_nil)
    (pss_one ps_retN)) pss_nil)))
    (pss_one (ps_rz T.o_UnknownCell T.j_UnknownCell.ini T.j_UnknownCell.ty c_UnknownCell hr (by omega) rfl (takes_of rfl rfl rfl rfl) rfl T.g_UnknownCell (pv 1))))), ?_⟩)
  · obtain ⟨b, x, i, N, C, rfl, _⟩ := h
    rfl
  obtain ⟨b, x, i0, N, C, rfl, ⟨ok, kd, sd, kk, B, hn⟩, k⟩ := h
  obtain ⟨dx, eb⟩ := B.e
  walk_at "w"
  refine ⟨b, dx, _, rfl, eb, b, kd, sd, kk, C, rfl, B, ok, fun q us C' H1 g1 e1 hr1 hperm => ?_⟩
  have hce : cellF C x i0 = cellF C' x i0 := (cellF_perm hperm.symm ok.cd).symm ▸ rfl
  have hul : us.length = C'.length := by rw [hr1.len, List.length_map]
  refine k_forT (SqT.of e1) (fun i σ' H' => ∃ o1 o2, σ' = [some (.ref b), some (.str x), some (.int i0), o1, o2] ∧ H' = H1 ∧ cellF C x i0 = cellF (C'.drop i) x i0) ⟨none, none, rfl, rfl, hce⟩ (fun i σ' H' hi ⟨_, _, _, e, _⟩ => by rw [e]; exact SqT.of e1) ?_ ?_
  · rintro i u σ3 H3 hu ⟨o1, o2, rfl, rfl, hc⟩
    obtain ⟨d, hd, rd⟩ := hr1.get hu
    rw [List.getElem?_map] at hd
    obtain ⟨c, hcc, e⟩ := Option.map_eq_some_iff.mp hd
    subst e
    obtain ⟨tc, rfl, etc⟩ := pr_of rd
    have hdr : C'.drop i = c :: C'.drop (i + 1) := by
      obtain ⟨hi, e⟩ := List.getElem?_eq_some_iff.mp hcc
      rw [← e]
      exact List.drop_eq_getElem_cons hi
    rw [hdr] at hc
    walk_at "w"
    refine i_S (fun hn => ?_) (fun hn => ?_)
    · walk_at "w"
      refine i_d (fun h0 => ?_) (fun h0 => ?_)
      · walk_at "w"
        refine i_n (fun h9 => ?_) (fun h9 => ?_)
        · walk_at "w"
          exact k.ok (hc.trans (cellF_in hn ⟨h0, h9⟩)) _ g1
        · walk_at "w"
          exact k_er k.er (hc.trans (cellF_out hn fun z => h9 z.2)) rfl g1 (.int _)
      · walk_at "w"
        exact k_er k.er (hc.trans (cellF_out hn fun z => h0 z.1)) rfl g1 (.int _)
    · walk_at "w"
      exact ⟨_, _, rfl, rfl, hc.trans (cellF_no hn)⟩
  · rintro σ3 H3 ⟨o1, o2, rfl, rfl, hc⟩
    rw [hul, List.drop_length] at hc
    walk_at "w"
    exact k_er k.er (hc.trans cellF_nil) rfl g1 (.str _)
theorem k_check_at (T : Txt G) (c_contains : Cal G 1 (He.ma G.K (He.ga G.K "Book") "__contains__") (spBookIn G.K) []) (c_check_argument : Cal G 4 (He.ga G.K "check_argument") (spCkArg G.K) []) (c_BadAction : CalX G "BadAction" "action") (c_UnknownStep : CalX G "UnknownStep" "step") : ∀ n : Nat, Cal G (n + 5) (He.ga G.K "check_at") (spCkAt G.K n) []
  | 0 => cal_never T.f_check_at sc_check_at (fun _ _ _ _ _ _ us hl => match us, hl with | [_, _, _], _ => rfl) fun vs H Q E ⟨_, _, _, _, _, _, _, _, _, h, _⟩ => h
  | n + 1 => by
    have c_check_at := k_check_at T c_contains c_check_argument c_BadAction c_UnknownStep n
    refine cal_of (k := n + 5) T.f_check_at sc_check_at (fun _ _ _ _ _ _ us hl => match us, hl with | [_, _, _], _ => rfl) (fun vs H Q E h => ?_) (fun cdv A outer s H vs Q E hr h => ⟨_, ((pss_cons (ps_asg (pv 1) (pg_tup rfl (pgs_cons (pg_name (i := 3) sc_check_at.nd rfl (Or.inl rfl)) (pgs_cons (pg_name (i := 4) sc_check_at.nd rfl (Or.inl rfl)) (pgs_cons (pg_name (i := 5) sc_check_at.nd rfl (Or.inl rfl)) (pgs_cons (pg_name (i := 6) sc_check_at.nd rfl (Or.inl rfl)) pgs_nil))))))
    (pss_cons (ps_if (pt_cmpR op_notIn_seq (pv 3) (pe_gR rfl T.g_GUARDS) rfl) (pss_one (ps_rz T.o_BadAction T.j_BadAction.ini T.j_BadAction.ty c_BadAction hr (by omega) rfl (takes_of rfl rfl rfl rfl) rfl T.g_BadAction (pv 1))) pss_nil)
    (pss_cons (ps_if (pt_cmpR (op_niO T.h_Book_contains c_contains hr (by omega) (takes_of rfl rfl rfl rfl) (fun _ _ _ _ h => h)) (pv 4) (pv 0) rfl) (pss_one (ps_rz T.o_UnknownStep T.j_UnknownStep.ini T.j_UnknownStep.ty c_UnknownStep hr (by omega) rfl (takes_of rfl rfl rfl rfl) rfl T.g_UnknownStep (pv 4))) pss_nil)
    (pss_cons (ps_expr (pe_cal c_check_argument T.g_check_argument hr (by omega) (takes_of rfl rfl rfl rfl) (fun _ _ _ _ h => h) rfl (pa_cons (pv 0) (pa_cons (pv 5) (pa_cons (pv 1) pa_nil)))))
    (Evl.pss_cut (ps_if (PW.pt (pw_or (PW.pt (pw_and (pt_cmpR (op_ne0 hr.units) (pv 6) (pe_tup pa_nil) (nomark _)) (pw_and1 (PW.pt (pw_or (pt_cmpR op_eq (pv 3) pe_str (nomark _)) (pw_or1 (pt_cmpR op_eq (pv 2) (pe_gI rfl T.i_DEEP) (nomark _)))))))) (pw_or1 (pt_cmpR op_gt (pe_callB call_lenQ rfl T.v_len PySem.boot_len (pa_cons (pv 6) pa_nil)) (pe_gI rfl T.i_MANY) (nomark _))))) (pss_one (ps_rz T.o_BadAction T.j_BadAction.ini T.j_BadAction.ty c_BadAction hr (by omega) rfl (takes_of rfl rfl rfl rfl) rfl T.g_BadAction (pv 1))) pss_nil)
    (pss_cons (ps_for (passes_of rfl) rfl (pi_tup (pv 6)) (pg_name (i := 7) sc_check_at.nd rfl (Or.inl rfl))
    (pss_one (ps_expr (pe_cal c_check_at T.g_check_at hr (by omega) (takes_of rfl rfl rfl rfl) (fun _ _ _ _ h => h) rfl (pa_cons (pv 0) (pa_cons (pv 7) (pa_cons (pe_op op_add (pv 2) pe_int) pa_nil)))))))
    (pss_one (ps_ret (pv 1)))))))))), ?_⟩)
    · obtain ⟨b, v, d, dp, N, C, rfl, _⟩ := h
      rfl
    obtain ⟨b, v, d, dp, N, C, rfl, B, hv, ⟨g, st, a, f, rfl, ha, hl, hf⟩, k⟩ := h
    have hv0 := hv
    obtain ⟨t, vs, rfl, et, hz⟩ := hv.tup_of
    obtain ⟨v1, vs, rfl, h1, hz1⟩ := hz.cons_of
    obtain ⟨v2, vs, rfl, h2, hz2⟩ := hz1.cons_of
    obtain ⟨v3, vs, rfl, h3, hz3⟩ := hz2.cons_of
    obtain ⟨v4, vs, rfl, h4, hz4⟩ := hz3.cons_of
    cases hz4.nil_of
    cases h1
    cases h2
    have h40 := h4
    obtain ⟨tf, fs, rfl, ef, hfs⟩ := h4.tup_of
    have fl := hfs.len
    walk_at "w"
    refine r_inL (xs := (["done", "error", "always"] : List Str).map V.str) (.inr (He.tupB_ok T.l_GUARDS H)) rfl rfl ?_
    rw [inV_str]
    walk_at "w"
    refine i_n (fun hg => ?_) (fun hg => ?_)
    rotate_left
    · walk_at "w"
      exact k_er k.er (aF_g hg) rfl Gr.refl hv0
    walk_at "w"
    refine B.in_ ?_
    walk_at "w"
    refine i_n (fun hs => ?_) (fun hs => ?_)
    rotate_left
    · walk_at "w"
      exact k_er k.er (aF_s hg hs) rfl Gr.refl (.str _)
    walk_at "w"
    refine ⟨b, v3, .ref t, a, _, N, C, rfl, B, h3, hv0, ha, k.call Gr.refl (fun e he => aF_r hg hs he) fun hrd H2 g2 => ?_⟩
    have ef2 := g2.tu _ _ ef
    walk_at "w"
    refine r_cut (fun σ' H' => σ' = [some (.ref b), some (.ref t), some (.int dp), some (.str g), some (.str st), some v3, some (.ref tf), none] ∧ Gr [] H H' ∧ ¬ (3 < f.length ∨ (f ≠ [] ∧ (g = "error" ∨ dp = 2)))) ?_ ?_
    · have bad : (3 < f.length ∨ (f ≠ [] ∧ (g = "error" ∨ dp = 2))) → ∀ H3, Gr [] H H3 → kX (He.ga G.K "BadAction") "action" (.ref t) H3 E := fun hc H3 g3 => k_er k.er (aF_f hg hs hrd hc) rfl g3 (hv0.mono g3.tu)
      have last : ∀ H3, Gr [] H2 H3 → (f ≠ [] → ¬ (g = "error" ∨ dp = 2)) → (3 < f.length → kX (He.ga G.K "BadAction") "action" (.ref t) H3 E) ∧ (¬ 3 < f.length → Gr [] H H3 ∧ ¬ (3 < f.length ∨ (f ≠ [] ∧ (g = "error" ∨ dp = 2)))) := fun H3 g3 hno =>
        ⟨fun h => bad (.inl h) H3 (g2.trans g3), fun h => ⟨g2.trans g3, fun z => z.elim h fun y => hno y.1 y.2⟩⟩
      walk_at "w"
      refine k_tup (by show 0 ≤ sizeLine; decide) fun q H3 g3 e3 => ?_
      have ef3 := g3.tu _ _ ef2
      refine ⟨f, q, h40.mono (g2.tu.trans g3.tu), rfl, e3, ?_⟩
      walk_at "w"
      cases hfe0 : f.isEmpty with
      | true =>
        have hfe : f = [] := List.isEmpty_iff.mp hfe0
        have l3 := last H3 g3 fun z => absurd hfe z
        walk_at "w"
        refine r_lenT ef3 ?_
        walk_at "w"
        refine i_d (fun hc => ?_) (fun hc => ?_)
        · exfalso
          rw [hfe] at fl
          simp at fl
          rw [fl] at hc
          simp at hc
        · walk_at "w"
          exact ⟨rfl, l3.2 (by rw [hfe]; decide)⟩
      | false =>
        have fne : f ≠ [] := by
          intro z
          rw [z] at hfe0
          cases hfe0
        walk_at "w"
        refine i_S (fun hc3 => ?_) (fun hc3 => ?_)
        · walk_at "w"
          exact bad (.inr ⟨fne, .inl hc3⟩) H3 (g2.trans g3)
        walk_at "w"
        refine i_I (fun hc4 => ?_) (fun hc4 => ?_)
        · walk_at "w"
          exact bad (.inr ⟨fne, .inr hc4⟩) H3 (g2.trans g3)
        have l3 := last H3 g3 fun _ z => z.elim hc3 hc4
        walk_at "w"
        refine r_lenT ef3 ?_
        walk_at "w"
        refine i_d (fun hc => ?_) (fun hc => ?_)
        · walk_at "w"
          exact l3.1 (by omega)
        · walk_at "w"
          exact ⟨rfl, l3.2 (by omega)⟩
    rintro σ' H3 ⟨rfl, g3, hc⟩
    have eA := aF_l (n := n) hg hs hrd hc
    walk_at "w"
    refine k_forT (SqT.of (g3.tu _ _ ef)) (fun i σ' H' => ∃ o1, σ' = [some (.ref b), some (.ref t), some (.int dp), some (.str g), some (.str st), some v3, some (.ref tf), o1] ∧ Gr [] H H' ∧ ∀ j y, j < i → f[j]? = some y → aF N (C.map (·.1)) n (dp + 1) y = none) ⟨none, rfl, g3, fun j y z => by omega⟩ (fun i σ' H' hi ⟨_, _, g', _⟩ => SqT.of (g'.tu _ _ ef)) ?_ ?_
    · rintro i x σ4 H4 hx ⟨o1, rfl, g4, hall⟩
      obtain ⟨y, hy, ry⟩ := hfs.get hx
      walk_at "w"
      refine ⟨b, x, y, dp + 1, N, C, rfl, B.at0 g4, ry.mono g4.tu, hf y (List.mem_of_getElem? hy), k.call g4 (fun e he => eA.trans (find_at hy he hall)) fun e0 H5 g5 => ?_⟩
      walk_at "w"
      refine ⟨some x, rfl, g4.trans g5, fun j y' hj hy' => ?_⟩
      by_cases e : j = i
      · subst e
        rw [hy] at hy'
        cases hy'
        exact e0
      · exact hall j y' (by omega) hy'
    · rintro σ4 H4 ⟨o1, rfl, g4, hall⟩
      walk_at "w"
      exact k.ok (eA.trans (find_no' fun j y hj hy => hall j y (by omega) hy)) H4 g4
theorem k_check_action (T : Txt G) (c_check_at : Cal G 12 (He.ga G.K "check_at") (spCkAt G.K 7) []) : Cal G 13 (He.ga G.K "check_action") (spCkAct G.K) [] := by
  refine cal_of T.f_check_action sc_check_action (fun _ _ _ _ _ _ us hl => match us, hl with | [_, _], _ => rfl) (fun vs H Q E h => ?_) (fun cdv A outer s H vs Q E hr h => ⟨_, ((pss_one (ps_ret (pe_cal c_check_at T.g_check_at hr (by omega) (takes_of rfl rfl rfl rfl) (fun _ _ _ _ h => h) rfl (pa_cons (pv 0) (pa_cons (pv 1) (pa_cons pe_int pa_nil))))))), ?_⟩)
  · obtain ⟨b, v, d, N, C, rfl, _⟩ := h
    rfl
  obtain ⟨b, v, d, N, C, rfl, B, hv, hd, k⟩ := h
  walk_at "w"
  exact ⟨b, v, d, 0, N, C, rfl, B, hv, hd, k⟩
end
end Xd

/-! text E5 -/
/-! the program: checks of blocks -/
namespace Xd
open PySem PySem.Spec PyProof.Rows L2
/-- the table of lengths -/
theorem Txt.len_ns {G : Ctx} (T : Txt G) (z : Str) : ∃ r, PySem.W.nsIn G.K (He.ga G.K "LENGTHS") z = some r ∧ r.isSome = (lenOf z).isSome ∧ ∀ j, lenOf z = some j → ∃ u, r = some u ∧ RelV (.int j) u := by
  by_cases h : z ∈ (["do", "put", "set", "if", "while", "when", "return", "leave", "raise"] : List Str)
  · have ok : ∀ (x : Str) (i : Int), lenOf x = some i → (x, He.Dv.int i) ∈ ([("do", .int 3), ("put", .int 2), ("set", .int 3), ("if", .int 4), ("while", .int 3), ("when", .int 5), ("return", .int 2), ("leave", .int 2), ("raise", .int 2)] : List (Str × He.Dv)) → ∃ r, PySem.W.nsIn G.K (He.ga G.K "LENGTHS") x = some r ∧ r.isSome = (lenOf x).isSome ∧ ∀ j, lenOf x = some j → ∃ u, r = some u ∧ RelV (.int j) u := by
      intro x i hi hm
      obtain ⟨u, e, ru⟩ := He.valsB_ok T.lens hm
      refine ⟨some u, e, by rw [hi] <;> rfl, fun j hj => ⟨u, rfl, ?_⟩⟩
      rw [hi] at hj
      rw [← Option.some.inj hj]
      exact ru
    simp only [List.mem_cons, List.not_mem_nil, or_false] at h
    rcases h with rfl | rfl | rfl | rfl | rfl | rfl | rfl | rfl | rfl
    · exact ok _ 3 rfl (by simp)
    · exact ok _ 2 rfl (by simp)
    · exact ok _ 3 rfl (by simp)
    · exact ok _ 4 rfl (by simp)
    · exact ok _ 3 rfl (by simp)
    · exact ok _ 5 rfl (by simp)
    · exact ok _ 2 rfl (by simp)
    · exact ok _ 2 rfl (by simp)
    · exact ok _ 2 rfl (by simp)
  · refine ⟨none, T.len_no h, ?_, ?_⟩
    · have e : lenOf z = none := by
        simp only [List.mem_cons, List.not_mem_nil, or_false, not_or] at h
        obtain ⟨h1, h2, h3, h4, h5, h6, h7, h8, h9⟩ := h
        unfold lenOf
        rw [if_neg h1, if_neg h2, if_neg h3, if_neg h4, if_neg h5, if_neg h6, if_neg h7, if_neg h8, if_neg h9]
      rw [e] <;> rfl
    · intro j hj
      exfalso
      simp only [List.mem_cons, List.not_mem_nil, or_false, not_or] at h
      obtain ⟨h1, h2, h3, h4, h5, h6, h7, h8, h9⟩ := h
      unfold lenOf at hj
      rw [if_neg h1, if_neg h2, if_neg h3, if_neg h4, if_neg h5, if_neg h6, if_neg h7, if_neg h8, if_neg h9] at hj
      cases hj
def rNiLen (K : PySem.W.Frag) : R2 := fun x y H Q => ∃ z : Str, x = .str z ∧ y = .ref (He.ga K "LENGTHS") ∧ Q (.bl (!(lenOf z).isSome)) H
def rIxLen (K : PySem.W.Frag) : R2 := fun x y H Q => ∃ (z : Str) (j : Int), x = .ref (He.ga K "LENGTHS") ∧ y = .str z ∧ lenOf z = some j ∧ Q (.int j) H
theorem op_niLen {X : Cx} (T : Txt (cxo X)) : OpR X (compareOp .NotIn) (rNiLen X.K) := by
  intro pins s σ H x y v u Q I rx ry h
  obtain ⟨z, ex, ey, q⟩ := h
  obtain ⟨es, n, D⟩ := T.tab 0
  obtain ⟨r, e1, e2, _⟩ := T.len_ns z
  refine op_notIn_kd D pins s σ H x y v u Q I rx ry ⟨z, r, ex, ey, e1, ?_⟩
  rw [e2]
  exact q
theorem ix_len {X : Cx} (T : Txt (cxo X)) : IxR X (rIxLen X.K) := by
  intro value slice pins s σ H x y v u Q I rx ry h hs
  obtain ⟨z, j, ex, ey, hj, q⟩ := h
  obtain ⟨es, n, D⟩ := T.tab 0
  obtain ⟨r, e1, _, e3⟩ := T.len_ns z
  obtain ⟨u0, rfl, ru⟩ := e3 j hj
  exact ix_kdict value slice pins s σ H x y v u Q I rx ry ⟨_, z, _, ex, ey, ⟨es, n, u0, D.at_, D.lit, e1, ru⟩, q⟩ hs
local macro_rules | `(tactic| walk_at "w1") => `(tactic| first
  | with_reducible apply r_seq
  | with_reducible apply r_asg
  | with_reducible apply r_gname
  | ((with_reducible apply r_var); exact rfl)
  | with_reducible apply r_c
  | with_reducible apply r_op
  | with_reducible apply r_I0
  | ((with_reducible apply r_eq); exact rfl)
  | ((with_reducible apply r_ne); exact rfl)
  | with_reducible apply r_if
  | with_reducible apply r_test
  | with_reducible apply r_tB
  | with_reducible apply r_bl
  | with_reducible apply r_and
  | with_reducible apply r_or
  | with_reducible apply r_not
  | with_reducible apply r_ret
  | with_reducible apply r_drop
  | with_reducible apply r_cons
  | with_reducible apply r_nil
  | with_reducible apply r_cal
  | with_reducible apply r_cb
  | with_reducible apply r_tup
  | with_reducible apply r_lst
  | with_reducible apply r_next
  | with_reducible apply r_retN
  | with_reducible apply r_un
  | with_reducible apply r_U
  | with_reducible apply r_andV
  | with_reducible apply r_orV
  | with_reducible apply r_notV
  | with_reducible apply r_ifx
  | with_reducible apply r_forT
  | with_reducible apply r_forL
  | with_reducible apply r_forR
  | with_reducible apply r_sl
  | with_reducible apply r_nop
  | with_reducible apply r_part
  | with_reducible apply r_kPart
  | with_reducible apply r_gsub
  | with_reducible apply r_int1
  | with_reducible apply r_isN
  | with_reducible apply r_notN
  | with_reducible apply r_ltStr
  | with_reducible apply r_inS
  | with_reducible apply r_niS
  | with_reducible apply r_bm
  | with_reducible apply r_forS
  | with_reducible apply r_lcL
  | with_reducible apply r_lcT
  | with_reducible apply r_m0
  | with_reducible apply r_fld
  | with_reducible apply r_sfld
  | with_reducible apply r_cval
  | with_reducible apply r_make
  | with_reducible apply r_prop
  | with_reducible apply r_meth
  | with_reducible apply r_chain
  | with_reducible apply r_rz
  | with_reducible apply r_veI
  | with_reducible apply r_ost
  | with_reducible apply r_bm0
  | with_reducible apply r_din
  | with_reducible apply r_dnin
  | with_reducible apply r_dget
  | ((with_reducible apply r_gtup); (assumption); (exact rfl))
  | with_reducible apply r_gcons
  | with_reducible apply r_gnil
  | (with_reducible refine r_lo0 (by assumption) ?_)
  | (with_reducible refine r_lo2 (by assumption) ?_)
  | (with_reducible refine r_isi_non (b := true) (by decide +kernel) ?_)
  | (with_reducible refine r_isi_int (b := true) (by decide +kernel) ?_)
  | (with_reducible refine r_isi_str (b := true) (by decide +kernel) ?_)
  | ((with_reducible apply r_isi_tup (b := true)); (assumption); (exact (by decide +kernel)))
  | ((with_reducible apply r_isi_lst (b := true)); (assumption); (exact (by decide +kernel)))
  | (with_reducible refine r_isi_non (b := false) (by decide +kernel) ?_)
  | (with_reducible refine r_isi_int (b := false) (by decide +kernel) ?_)
  | (with_reducible refine r_isi_str (b := false) (by decide +kernel) ?_)
  | ((with_reducible apply r_isi_tup (b := false)); (assumption); (exact (by decide +kernel)))
  | ((with_reducible apply r_isi_lst (b := false)); (assumption); (exact (by decide +kernel)))
  | (with_reducible refine r_l0 (by assumption) ?_)
  | (with_reducible refine r_l2 (by assumption) ?_)
  | (with_reducible refine r_lenN (by assumption) ?_)
  | (with_reducible refine r_lenC (by assumption) ?_)
  | ((with_reducible apply r_ixT'); (assumption); (first | exact rfl | exact atI_0 | exact atI_1 | exact atI_2))
  | ((with_reducible apply r_ixL'); (assumption); (exact rfl))
  | ((with_reducible apply i_f); exact rfl)
  | ((with_reducible apply i_t); exact rfl)
  | ((with_reducible apply r_I); first | exact Or.inr ⟨by decide, by decide⟩ | exact (by decide) | assumption | exact ⟨by omega, by omega⟩ | exact (by omega) | exact ⟨by decide, by decide, by decide⟩))
local macro_rules | `(tactic| walk_at "w") => `(tactic| repeat (walk_at "w1"))

def spBlocksOf (P : List D → Prop) : Sp := fun vs H Q _ => ∃ v w r, vs = [v] ∧ Rp H v (.tup (.str w :: r)) ∧ Prt P w r ∧ ∀ (q : Addr) (us : List V) H', Gr [] H H' → H' q = some (.tup us) → Rps H' us ((blks w r).map D.tup) → Q (.ref q) H'
def spCkAll (K : PySem.W.Frag) (b : Nat) : Sp := fun vs H Q E => ∃ (bk : Addr) (v : V) (l : List D) (dp : Int) (n : Nat) (N : List Str) (C : List (Str × Int)), vs = [.ref bk, v, .int dp] ∧ BkW K H bk N C ∧ Rp H v (.tup l) ∧ KB n l ∧ 0 ≤ dp ∧ dp + b = 5 ∧ CkK K (bF N C b l) H E Q .non
theorem sc_check_parts : FnScope ["book", "statement", "word"] ["book", "statement"] (defScope s_check_parts) := ⟨rfl, rfl, rfl, by decide +kernel, rfl, by decide +kernel, by decide +kernel⟩
theorem sc_blocks_of : FnScope ["statement"] ["statement"] (defScope s_blocks_of) := ⟨rfl, rfl, rfl, by decide +kernel, rfl, by decide +kernel, by decide +kernel⟩
theorem sc_check_all : FnScope ["book", "statements", "depth", "statement", "word", "block"] ["book", "statements", "depth"] (defScope s_check_all) := ⟨rfl, rfl, rfl, by decide +kernel, rfl, by decide +kernel, by decide +kernel⟩
section
variable {G : Ctx}
theorem k_check_parts (T : Txt G) (c_contains : Cal G 1 (He.ma G.K (He.ga G.K "Book") "__contains__") (spBookIn G.K) []) (c_check_now : Cal G 4 (He.ga G.K "check_now") (spCkNow G.K) []) (c_check_action : Cal G 13 (He.ga G.K "check_action") (spCkAct G.K) []) (c_check_cell : Cal G 4 (He.ga G.K "check_cell") (spCkCell G.K) []) (c_check_name : Cal G 3 (He.ga G.K "check_name") (spCkName G.K) []) (c_UnknownStep : CalX G "UnknownStep" "step") {P : List D → Prop} : Cal G 14 (He.ga G.K "check_parts") (spCkParts G.K P) [] := by
  refine cal_of T.f_check_parts sc_check_parts (fun _ _ _ _ _ _ us hl => match us, hl with | [_, _], _ => rfl) (fun vs H Q E h => ?_) (fun cdv A outer s H vs Q E hr h => ⟨_, ((pss_cons (ps_set (i := 2) sc_check_parts.nd rfl (Or.inl rfl) (pe_ix ix_tup (pv 1) pe_int (fun _ _ => rfl)))
    (pss_one (ps_if (pt_cmpR op_eq (pv 2) pe_str (nomark _)) (pss_cons (ps_if (pt_cmpR (op_niO T.h_Book_contains c_contains hr (by omega) (takes_of rfl rfl rfl rfl) (fun _ _ _ _ h => h)) (pe_ix ix_tup (pv 1) pe_int (fun _ _ => rfl)) (pv 0) rfl) (pss_one (ps_rz T.o_UnknownStep T.j_UnknownStep.ini T.j_UnknownStep.ty c_UnknownStep hr (by omega) rfl (takes_of rfl rfl rfl rfl) rfl T.g_UnknownStep (pe_ix ix_tup (pv 1) pe_int (fun _ _ => rfl)))) pss_nil)
    (pss_one (ps_if (pt_cmpR op_notN1 (pe_ix ix_tup (pv 1) pe_int (fun _ _ => rfl)) pe_non (nomark _)) (pss_one (ps_expr (pe_cal c_check_now T.g_check_now hr (by omega) (takes_of rfl rfl rfl rfl) (fun _ _ _ _ h => h) rfl (pa_cons (pv 0) (pa_cons (pe_ix ix_tup (pv 1) pe_int (fun _ _ => rfl)) (pa_cons (pv 1) pa_nil)))))) pss_nil))) (pss_one (ps_if (pt_cmpR op_eq (pv 2) pe_str (nomark _)) (pss_one (ps_expr (pe_cal c_check_action T.g_check_action hr (by omega) (takes_of rfl rfl rfl rfl) (fun _ _ _ _ h => h) rfl (pa_cons (pv 0) (pa_cons (pe_ix ix_tup (pv 1) pe_int (fun _ _ => rfl)) pa_nil))))) (pss_one (ps_if (pt_cmpR op_in_seq (pv 2) (pe_tup (pa_cons pe_str (pa_cons pe_str pa_nil))) rfl) (pss_one (ps_expr (pe_cal c_check_cell T.g_check_cell hr (by omega) (takes_of rfl rfl rfl rfl) (fun _ _ _ _ h => h) rfl (pa_cons (pv 0) (pa_cons (pe_ix ix_tup (pv 1) pe_int (fun _ _ => rfl)) (pa_cons (pe_ix ix_tup (pv 1) pe_int (fun _ _ => rfl)) pa_nil)))))) (pss_one (ps_if (pt_cmpR op_eq (pv 2) pe_str (nomark _)) (pss_one (ps_expr (pe_cal c_check_now T.g_check_now hr (by omega) (takes_of rfl rfl rfl rfl) (fun _ _ _ _ h => h) rfl (pa_cons (pv 0) (pa_cons (pe_ix ix_tup (pv 1) pe_int (fun _ _ => rfl)) (pa_cons (pv 1) pa_nil)))))) (pss_one (ps_expr (pe_cal c_check_name T.g_check_name hr (by omega) (takes_of rfl rfl rfl rfl) (fun _ _ _ _ h => h) rfl (pa_cons (pe_ix ix_tup (pv 1) pe_int (fun _ _ => rfl)) pa_nil)))))))))))))), ?_⟩)
  · obtain ⟨b, v, wd, r, N, C, rfl, _⟩ := h
    rfl
  obtain ⟨b, v, wd, r, N, C, rfl, B, hv, hp, k⟩ := h
  have hv0 := hv
  obtain ⟨t, vs, rfl, et, hz⟩ := hv.tup_of
  obtain ⟨v0, vs, rfl, h0, hz0⟩ := hz.cons_of
  cases h0
  cases hp with
  | do_ x v ha =>
    obtain ⟨u1, us, rfl, r1, hz1⟩ := hz0.cons_of
    obtain ⟨u2, us, rfl, r2, hz2⟩ := hz1.cons_of
    cases hz2.nil_of
    cases r1
    rw [pF_do] at k
    walk_at "w"
    refine B.in_ ?_
    walk_at "w"
    refine i_n (fun hx => ?_) (fun hx => ?_)
    · rw [if_pos hx] at k
      cases ha with
      | non =>
        cases r2
        walk_at "w"
        exact k.ok rdF_n H Gr.refl
      | int i =>
        have r20 := r2
        cases r2
        walk_at "w"
        refine ⟨b, _, _, _, _, N, C, rfl, B, r20, hv0, .int i, (fun z => by cases z), k.call Gr.refl (fun e he => he) fun h0 H1 g1 => ?_⟩
        walk_at "w"
        exact k.ok h0 H1 g1
      | pair y z =>
        obtain ⟨ta, ws, rfl, eta, _⟩ := r2.tup_of
        walk_at "w"
        refine ⟨b, _, _, _, _, N, C, rfl, B, r2, hv0, .pair y z, (fun z => by cases z), k.call Gr.refl (fun e he => he) fun h0 H1 g1 => ?_⟩
        walk_at "w"
        exact k.ok h0 H1 g1
    · rw [if_neg hx] at k
      walk_at "w"
      exact k_er k.er rfl rfl Gr.refl (.str _)
  | put a ha =>
    obtain ⟨u1, us, rfl, r1, hz1⟩ := hz0.cons_of
    cases hz1.nil_of
    rw [pF_put] at k
    walk_at "w"
    refine ⟨b, _, a, N, C, rfl, B, r1, ha, k.call Gr.refl (fun e he => he) fun h0 H1 g1 => ?_⟩
    walk_at "w"
    exact k.ok h0 H1 g1
  | set x i0 =>
    obtain ⟨u1, us, rfl, r1, hz1⟩ := hz0.cons_of
    obtain ⟨u2, us, rfl, r2, hz2⟩ := hz1.cons_of
    cases hz2.nil_of
    cases r1
    cases r2
    rw [pF_set] at k
    walk_at "w"
    refine k_tup (by show 2 ≤ sizeLine; decide) fun q0 H0 g0 e0 => ?_
    refine r_inStrT (us := ["set", "when"]) e0 ?_
    have et0 := g0.tu _ _ et
    walk_at "w"
    refine ⟨b, x, i0, N, C, rfl, B.at0 g0, (k.mono g0).call Gr.refl (fun e he => he) fun h0 H1 g1 => ?_⟩
    walk_at "w"
    exact k.ok h0 H1 (g0.trans g1)
  | when_ x i0 l m pa pb =>
    obtain ⟨u1, us, rfl, r1, hz1⟩ := hz0.cons_of
    obtain ⟨u2, us, rfl, r2, hz2⟩ := hz1.cons_of
    obtain ⟨u3, us, rfl, r3, hz3⟩ := hz2.cons_of
    obtain ⟨u4, us, rfl, r4, hz4⟩ := hz3.cons_of
    cases hz4.nil_of
    cases r1
    cases r2
    rw [pF_when] at k
    walk_at "w"
    refine k_tup (by show 2 ≤ sizeLine; decide) fun q0 H0 g0 e0 => ?_
    refine r_inStrT (us := ["set", "when"]) e0 ?_
    have et0 := g0.tu _ _ et
    walk_at "w"
    refine ⟨b, x, i0, N, C, rfl, B.at0 g0, (k.mono g0).call Gr.refl (fun e he => he) fun h0 H1 g1 => ?_⟩
    walk_at "w"
    exact k.ok h0 H1 (g0.trans g1)
  | ret v ha hn =>
    obtain ⟨u1, us, rfl, r1, hz1⟩ := hz0.cons_of
    cases hz1.nil_of
    rw [pF_ret] at k
    walk_at "w"
    refine k_tup (by show 2 ≤ sizeLine; decide) fun q0 H0 g0 e0 => ?_
    refine r_inStrT (us := ["set", "when"]) e0 ?_
    have et0 := g0.tu _ _ et
    walk_at "w"
    refine ⟨b, _, _, _, _, N, C, rfl, B.at0 g0, r1.mono g0.tu, hv0.mono g0.tu, ha, hn, (k.mono g0).call Gr.refl (fun e he => he) fun h0 H1 g1 => ?_⟩
    walk_at "w"
    exact k.ok h0 H1 (g0.trans g1)
  | if_ x l m hx pa pb =>
    obtain ⟨u1, us, rfl, r1, hz1⟩ := hz0.cons_of
    obtain ⟨u2, us, rfl, r2, hz2⟩ := hz1.cons_of
    obtain ⟨u3, us, rfl, r3, hz3⟩ := hz2.cons_of
    cases hz3.nil_of
    cases r1
    rw [pF_nm (by decide) (by decide) (by decide) (by decide)] at k
    walk_at "w"
    refine k_tup (by show 2 ≤ sizeLine; decide) fun q0 H0 g0 e0 => ?_
    refine r_inStrT (us := ["set", "when"]) e0 ?_
    have et0 := g0.tu _ _ et
    walk_at "w"
    refine ⟨x, rfl, hx, (k.mono g0).call Gr.refl (fun e he => he) fun h0 H1 g1 => ?_⟩
    walk_at "w"
    exact k.ok h0 H1 (g0.trans g1)
  | while_ x l hx a =>
    obtain ⟨u1, us, rfl, r1, hz1⟩ := hz0.cons_of
    obtain ⟨u2, us, rfl, r2, hz2⟩ := hz1.cons_of
    cases hz2.nil_of
    cases r1
    rw [pF_nm (by decide) (by decide) (by decide) (by decide)] at k
    walk_at "w"
    refine k_tup (by show 2 ≤ sizeLine; decide) fun q0 H0 g0 e0 => ?_
    refine r_inStrT (us := ["set", "when"]) e0 ?_
    have et0 := g0.tu _ _ et
    walk_at "w"
    refine ⟨x, rfl, hx, (k.mono g0).call Gr.refl (fun e he => he) fun h0 H1 g1 => ?_⟩
    walk_at "w"
    exact k.ok h0 H1 (g0.trans g1)
  | leave x hx =>
    obtain ⟨u1, us, rfl, r1, hz1⟩ := hz0.cons_of
    cases hz1.nil_of
    cases r1
    rw [pF_nm (by decide) (by decide) (by decide) (by decide)] at k
    walk_at "w"
    refine k_tup (by show 2 ≤ sizeLine; decide) fun q0 H0 g0 e0 => ?_
    refine r_inStrT (us := ["set", "when"]) e0 ?_
    have et0 := g0.tu _ _ et
    walk_at "w"
    refine ⟨x, rfl, hx, (k.mono g0).call Gr.refl (fun e he => he) fun h0 H1 g1 => ?_⟩
    walk_at "w"
    exact k.ok h0 H1 (g0.trans g1)
  | raise_ x hx =>
    obtain ⟨u1, us, rfl, r1, hz1⟩ := hz0.cons_of
    cases hz1.nil_of
    cases r1
    rw [pF_nm (by decide) (by decide) (by decide) (by decide)] at k
    walk_at "w"
    refine k_tup (by show 2 ≤ sizeLine; decide) fun q0 H0 g0 e0 => ?_
    refine r_inStrT (us := ["set", "when"]) e0 ?_
    have et0 := g0.tu _ _ et
    walk_at "w"
    refine ⟨x, rfl, hx, (k.mono g0).call Gr.refl (fun e he => he) fun h0 H1 g1 => ?_⟩
    walk_at "w"
    exact k.ok h0 H1 (g0.trans g1)
theorem k_blocks_of (T : Txt G) {P : List D → Prop} : Cal G 1 (He.ga G.K "blocks_of") (spBlocksOf P) [] := by
  refine cal_of T.f_blocks_of sc_blocks_of (fun _ _ _ _ _ _ us hl => match us, hl with | [_], _ => rfl) (fun vs H Q E h => ?_) (fun cdv A outer s H vs Q E hr h => ⟨_, ((pss_cons (ps_if (pt_cmpR op_eq (pe_ix ix_tup (pv 0) pe_int (fun _ _ => rfl)) pe_str (nomark _)) (pss_one (ps_ret (pe_slice sl_tupA (pv 0) (po_some pe_int) (po_some pe_int)))) pss_nil)
    (pss_cons (ps_if (pt_cmpR op_eq (pe_ix ix_tup (pv 0) pe_int (fun _ _ => rfl)) pe_str (nomark _)) (pss_one (ps_ret (pe_slice sl_tupA (pv 0) (po_some pe_int) (po_some pe_int)))) pss_nil)
    (pss_cons (ps_if (pt_cmpR op_eq (pe_ix ix_tup (pv 0) pe_int (fun _ _ => rfl)) pe_str (nomark _)) (pss_one (ps_ret (pe_slice sl_tupA (pv 0) (po_some pe_int) (po_some pe_int)))) pss_nil)
    (pss_one (ps_ret (pe_tup pa_nil))))))), ?_⟩)
  · obtain ⟨v, w, r, rfl, _⟩ := h
    rfl
  obtain ⟨v, w, r, rfl, hv, hp, k⟩ := h
  obtain ⟨t, vs, rfl, et, hz⟩ := hv.tup_of
  obtain ⟨v0, vs, rfl, h0, hz0⟩ := hz.cons_of
  cases h0
  walk_at "w"
  refine i_S (fun hw => ?_) (fun hw1 => ?_)
  · obtain ⟨x, l, m, rfl, _⟩ := hp.if_inv hw
    subst hw
    obtain ⟨u1, us, rfl, r1, hz1⟩ := hz0.cons_of
    obtain ⟨u2, us, rfl, r2, hz2⟩ := hz1.cons_of
    obtain ⟨u3, us, rfl, r3, hz3⟩ := hz2.cons_of
    cases hz3.nil_of
    walk_at "w"
    refine r_slT et fun q H1 g1 e1 => ?_
    exact k q [u2, u3] H1 g1 e1 (.cons (r2.mono g1.tu) (.cons (r3.mono g1.tu) .nil))
  walk_at "w"
  refine i_S (fun hw => ?_) (fun hw2 => ?_)
  · obtain ⟨x, l, rfl, _⟩ := hp.while_inv hw
    subst hw
    obtain ⟨u1, us, rfl, r1, hz1⟩ := hz0.cons_of
    obtain ⟨u2, us, rfl, r2, hz2⟩ := hz1.cons_of
    cases hz2.nil_of
    walk_at "w"
    refine r_slT et fun q H1 g1 e1 => ?_
    exact k q [u2] H1 g1 e1 (.cons (r2.mono g1.tu) .nil)
  walk_at "w"
  refine i_S (fun hw => ?_) (fun hw3 => ?_)
  · obtain ⟨x, i, l, m, rfl, _⟩ := hp.when_inv hw
    subst hw
    obtain ⟨u1, us, rfl, r1, hz1⟩ := hz0.cons_of
    obtain ⟨u4, us, rfl, r4, hz4⟩ := hz1.cons_of
    obtain ⟨u2, us, rfl, r2, hz2⟩ := hz4.cons_of
    obtain ⟨u3, us, rfl, r3, hz3⟩ := hz2.cons_of
    cases hz3.nil_of
    walk_at "w"
    refine r_slT et fun q H1 g1 e1 => ?_
    exact k q [u2, u3] H1 g1 e1 (.cons (r2.mono g1.tu) (.cons (r3.mono g1.tu) .nil))
  walk_at "w"
  refine k_tup (by show 0 ≤ sizeLine; decide) fun q H1 g1 e1 => ?_
  have e : blks w r = [] := by
    unfold blks
    rw [if_neg hw1, if_neg hw2, if_neg hw3]
  exact k q [] H1 g1 e1 (by rw [e]; exact .nil)
theorem step_check_all (T : Txt G) (c_blocks_of : ∀ P, Cal G 1 (He.ga G.K "blocks_of") (spBlocksOf P) []) (c_check_parts : ∀ P, Cal G 14 (He.ga G.K "check_parts") (spCkParts G.K P) []) (c_BadStatement : CalX G "BadStatement" "statement") {b : Nat} {sp' : Sp} (c_check_all : Cal G (b + 14) (He.ga G.K "check_all") sp' [])
    (hsp : ∀ b', b = b' + 1 → ∀ vs H Q E, spCkAll G.K b' vs H Q E → sp' vs H Q E) : Cal G (b + 15) (He.ga G.K "check_all") (spCkAll G.K b) [] := by
  have lv := fun m => c_check_parts (KB m)
  have lb := fun m => c_blocks_of (KB m)
  refine cal_of (k := b + 14) T.f_check_all sc_check_all (fun _ _ _ _ _ _ us hl => match us, hl with | [_, _, _], _ => rfl) (fun vs H Q E h => ?_) (fun cdv A outer s H vs Q E hr h => ?_)
  · obtain ⟨bk, v, l, dp, n, N, C, rfl, _⟩ := h
    rfl
  obtain ⟨bk, v, l, dp, n, N, C, rfl, B, hv, hl, d0, d5, k⟩ := h
  have c_check_parts := lv (n - 1)
  have c_blocks_of := lb (n - 1)
  refine ⟨_, ((pss_one (ps_for (passes_of rfl) rfl (pi_tup (pv 1)) (pg_name (i := 3) sc_check_all.nd rfl (Or.inl rfl))
    (pss_cons (ps_set (i := 4) sc_check_all.nd rfl (Or.inl rfl) (pe_ifExp (pt_cmpR (op_ne0 hr.units) (pv 3) (pe_tup pa_nil) (nomark _)) (pe_ix ix_tup (pv 3) pe_int (fun _ _ => rfl)) pe_str))
    (Evl.pss_cut (ps_if (PW.pt (pw_or (pt_cmpR (op_niLen T) (pv 4) (pe_gR rfl T.g_LENGTHS) rfl) (pw_or (pt_cmpR op_ne (pe_callB call_lenQ rfl T.v_len PySem.boot_len (pa_cons (pv 3) pa_nil)) (pe_ix (ix_len T) (pe_gR rfl T.g_LENGTHS) (pv 4) (fun _ _ => rfl)) (nomark _)) (pw_or1 (pt_cmpR op_gt (pv 2) (pe_gI rfl T.i_DEPTH) (nomark _)))))) (pss_one (ps_rz T.o_BadStatement T.j_BadStatement.ini T.j_BadStatement.ty c_BadStatement hr (by omega) rfl (takes_of rfl rfl rfl rfl) rfl T.g_BadStatement (pv 3))) pss_nil)
    (pss_cons (ps_expr (pe_cal c_check_parts T.g_check_parts hr (by omega) (takes_of rfl rfl rfl rfl) (fun _ _ _ _ h => h) rfl (pa_cons (pv 0) (pa_cons (pv 3) pa_nil))))
    (pss_one (ps_for (passes_of rfl) rfl (pi_tup (pe_cal c_blocks_of T.g_blocks_of hr (by omega) (takes_of rfl rfl rfl rfl) (fun _ _ _ _ h => h) rfl (pa_cons (pv 3) pa_nil))) (pg_name (i := 5) sc_check_all.nd rfl (Or.inl rfl))
    (pss_one (ps_expr (pe_cal c_check_all T.g_check_all hr (by omega) (takes_of rfl rfl rfl rfl) (fun _ _ _ _ h => h) rfl (pa_cons (pv 0) (pa_cons (pv 5) (pa_cons (pe_op op_add (pv 2) pe_int) pa_nil)))))))))))))), ?_⟩
  obtain ⟨t, vs, rfl, et, hz⟩ := hv.tup_of
  rw [bF_g] at k
  walk_at "w"
  refine k_forT (SqT.of et) (fun i σ' H' => ∃ o2 o3 o4, σ' = [some (.ref bk), some (.ref t), some (.int dp), o2, o3, o4] ∧ Gr [] H H' ∧ ∀ j y, j < i → l[j]? = some y → gF N C b y = none) ⟨none, none, none, rfl, Gr.refl, fun j y z => by omega⟩ (fun i σ' H' hi ⟨_, _, _, _, g', _⟩ => SqT.of (g'.tu _ _ et)) ?_ ?_
  · rintro i x σ1 H1 hx ⟨o2, o3, o4, rfl, g1, hall⟩
    obtain ⟨d, hd, rd⟩ := hz.get hx
    have rd1 := rd.mono g1.tu
    have hks := hl.2 d (List.mem_of_getElem? hd)
    obtain ⟨m, rfl⟩ : ∃ m, n = m + 1 := by
      cases n with
      | zero => exact hks.elim
      | succ m => exact ⟨m, rfl⟩
    obtain ⟨wd, r, rfl, h5, hdp, hpt⟩ := hks
    have fnd : ∀ {e : Flt}, gF N C b (.tup (.str wd :: r)) = some e → l.findSome? (gF N C b) = some e := fun e => find_at hd e hall
    have rd0 := rd1
    obtain ⟨ts, us, rfl, ets, hus⟩ := rd1.tup_of
    obtain ⟨v0, us, rfl, h0, hus0⟩ := hus.cons_of
    cases h0
    have ul := hus0.len
    walk_at "w"
    refine k_tup (by show 0 ≤ sizeLine; decide) fun qe H1' g1' e1' => ?_
    refine ⟨_, qe, rd0.mono g1'.tu, rfl, e1', ?_⟩
    have ets1 := g1'.tu _ _ ets
    walk_at "w"
    refine r_cut (fun σ' H' => σ' = [some (.ref bk), some (.ref t), some (.int dp), some (.ref ts), some (.str wd), o4] ∧ Gr [] H1 H' ∧ lenOf wd = some ((r.length : Int) + 1) ∧ b ≠ 0) ?_ ?_
    · walk_at "w"
      refine ⟨wd, rfl, rfl, ?_⟩
      cases hw : lenOf wd with
      | none =>
        walk_at "w"
        exact k_er k.er (fnd (gF_bad fun _ => by rw [hw]; intro z; cases z)) rfl (g1.trans g1') (rd0.mono g1'.tu)
      | some j =>
        walk_at "w"
        refine r_lenT ets1 ?_
        walk_at "w"
        refine ⟨wd, j, rfl, rfl, hw, ?_⟩
        walk_at "w"
        refine i_n (fun hj => ?_) (fun hj => ?_)
        · have hj2 : lenOf wd = some ((r.length : Int) + 1) := by
            have := V.int.inj hj
            rw [hw, ← this, List.length_cons, ul] <;> rfl
          walk_at "w"
          refine i_d (fun h4 => ?_) (fun h4 => ?_)
          · walk_at "w"
            exact k_er k.er (fnd (gF_bad fun z => absurd h4 (by omega))) rfl (g1.trans g1') (rd0.mono g1'.tu)
          · walk_at "w"
            exact ⟨rfl, g1', by rw [← hw]; exact hj2, fun z => h4 (by omega)⟩
        · walk_at "w"
          refine k_er k.er (fnd (gF_bad fun _ z => hj ?_)) rfl (g1.trans g1') (rd0.mono g1'.tu)
          rw [hw] at z
          rw [Option.some.inj z, List.length_cons, ul] <;> rfl
    rintro σ2 H2 ⟨rfl, g2, hlen, hb⟩
    obtain ⟨b, rfl⟩ : ∃ b', b = b' + 1 := ⟨b - 1, by omega⟩
    have hp := hpt hlen
    have g12 := g1.trans g2
    walk_at "w"
    refine ⟨bk, _, wd, r, N, C, rfl, B.at0 g12, rd0.mono g2.tu, hp, k.call g12 (fun e he => fnd (gF_part hlen he)) fun e0 H3 g3 => ?_⟩
    walk_at "w"
    refine ⟨_, wd, r, rfl, (rd0.mono g2.tu).mono g3.tu, hp, fun q us4 H4 g4 e4 hr4 => ?_⟩
    have g14 := (g12.trans g3).trans g4
    refine k_forT (SqT.of e4) (fun i' σ' H' => ∃ o4, σ' = [some (.ref bk), some (.ref t), some (.int dp), some (.ref ts), some (.str wd), o4] ∧ Gr [] H4 H' ∧ ∀ j y, j < i' → (blks wd r)[j]? = some y → bF N C b y = none) ⟨_, rfl, Gr.refl, fun j y z => by omega⟩ (fun i σ' H' hi ⟨_, _, g', _⟩ => SqT.of (g'.tu _ _ e4)) ?_ ?_
    · rintro i' u σ5 H5 hu ⟨o4, rfl, g5, hall5⟩
      obtain ⟨d5', hd5, rd5⟩ := hr4.get hu
      rw [List.getElem?_map] at hd5
      obtain ⟨lb', hlb, e⟩ := Option.map_eq_some_iff.mp hd5
      subst e
      walk_at "w"
      refine hsp b rfl _ _ _ _ ⟨bk, u, lb', dp + 1, _, N, C, rfl, B.at0 (g14.trans g5), rd5.mono g5.tu, hp.blks lb' (List.mem_of_getElem? hlb), by omega, by omega, k.call (g14.trans g5) (fun e he => fnd ((gF_blk hlen e0).trans (find_at hlb he hall5))) fun e6 H6 g6 => ?_⟩
      walk_at "w"
      refine ⟨_, rfl, g5.trans g6, fun j y hj hy => ?_⟩
      by_cases e : j = i'
      · subst e
        rw [hlb] at hy
        cases hy
        exact e6
      · exact hall5 j y (by omega) hy
    · rintro σ5 H5 ⟨o4, rfl, g5, hall5⟩
      refine ⟨_, _, _, rfl, g14.trans g5, fun j y hj hy => ?_⟩
      by_cases e : j = i
      · subst e
        rw [hd] at hy
        cases hy
        refine (gF_blk hlen e0).trans (find_no' fun j y hj hy => hall5 j y ?_ hy)
        rw [hr4.len, List.length_map]
        exact hj
      · exact hall j y (by omega) hy
  · rintro σ1 H1 ⟨o2, o3, o4, rfl, g1, hall⟩
    walk_at "w"
    exact k.ok (find_no' fun j y hj hy => hall j y (by rw [hz.len]; exact hj) hy) H1 g1
theorem k_check_all (T : Txt G) (c_blocks_of : ∀ P, Cal G 1 (He.ga G.K "blocks_of") (spBlocksOf P) []) (c_check_parts : ∀ P, Cal G 14 (He.ga G.K "check_parts") (spCkParts G.K P) []) (c_BadStatement : CalX G "BadStatement" "statement") : ∀ b : Nat, Cal G (b + 15) (He.ga G.K "check_all") (spCkAll G.K b) []
  | 0 => step_check_all T c_blocks_of c_check_parts c_BadStatement (sp' := fun _ _ _ _ => False) (cal_never T.f_check_all sc_check_all (fun _ _ _ _ _ _ us hl => match us, hl with | [_, _, _], _ => rfl) fun _ _ _ _ h => h) fun b' e => by cases e
  | b + 1 => step_check_all T c_blocks_of c_check_parts c_BadStatement (k_check_all T c_blocks_of c_check_parts c_BadStatement b) fun b' e => by cases e; exact fun _ _ _ _ h => h
end
end Xd

/-! text E6 -/
/-! the program: bodies -/
namespace Xd
open PySem PySem.Spec PyProof.Rows L2
local macro_rules | `(tactic| walk_at "w1") => `(tactic| first
  | with_reducible apply r_seq
  | with_reducible apply r_asg
  | with_reducible apply r_gname
  | ((with_reducible apply r_var); exact rfl)
  | with_reducible apply r_c
  | with_reducible apply r_op
  | with_reducible apply r_I0
  | ((with_reducible apply r_eq); exact rfl)
  | ((with_reducible apply r_ne); exact rfl)
  | with_reducible apply r_if
  | with_reducible apply r_test
  | with_reducible apply r_tB
  | with_reducible apply r_bl
  | with_reducible apply r_and
  | with_reducible apply r_or
  | with_reducible apply r_not
  | with_reducible apply r_ret
  | with_reducible apply r_drop
  | with_reducible apply r_cons
  | with_reducible apply r_nil
  | with_reducible apply r_cal
  | with_reducible apply r_cb
  | with_reducible apply r_tup
  | with_reducible apply r_lst
  | with_reducible apply r_next
  | with_reducible apply r_retN
  | with_reducible apply r_un
  | with_reducible apply r_U
  | with_reducible apply r_andV
  | with_reducible apply r_orV
  | with_reducible apply r_notV
  | with_reducible apply r_ifx
  | with_reducible apply r_forT
  | with_reducible apply r_forL
  | with_reducible apply r_forR
  | with_reducible apply r_sl
  | with_reducible apply r_nop
  | with_reducible apply r_part
  | with_reducible apply r_kPart
  | with_reducible apply r_gsub
  | with_reducible apply r_int1
  | with_reducible apply r_isN
  | with_reducible apply r_notN
  | with_reducible apply r_ltStr
  | with_reducible apply r_inS
  | with_reducible apply r_niS
  | with_reducible apply r_bm
  | with_reducible apply r_forS
  | with_reducible apply r_lcL
  | with_reducible apply r_lcT
  | with_reducible apply r_m0
  | with_reducible apply r_fld
  | with_reducible apply r_sfld
  | with_reducible apply r_cval
  | with_reducible apply r_make
  | with_reducible apply r_prop
  | with_reducible apply r_meth
  | with_reducible apply r_chain
  | with_reducible apply r_rz
  | with_reducible apply r_veI
  | with_reducible apply r_ost
  | with_reducible apply r_bm0
  | with_reducible apply r_din
  | with_reducible apply r_dnin
  | with_reducible apply r_dget
  | ((with_reducible apply r_gtup); (assumption); (exact rfl))
  | with_reducible apply r_gcons
  | with_reducible apply r_gnil
  | (with_reducible refine r_lo0 (by assumption) ?_)
  | (with_reducible refine r_lo2 (by assumption) ?_)
  | (with_reducible refine r_isi_non (b := true) (by decide +kernel) ?_)
  | (with_reducible refine r_isi_int (b := true) (by decide +kernel) ?_)
  | (with_reducible refine r_isi_str (b := true) (by decide +kernel) ?_)
  | ((with_reducible apply r_isi_tup (b := true)); (assumption); (exact (by decide +kernel)))
  | ((with_reducible apply r_isi_lst (b := true)); (assumption); (exact (by decide +kernel)))
  | (with_reducible refine r_isi_non (b := false) (by decide +kernel) ?_)
  | (with_reducible refine r_isi_int (b := false) (by decide +kernel) ?_)
  | (with_reducible refine r_isi_str (b := false) (by decide +kernel) ?_)
  | ((with_reducible apply r_isi_tup (b := false)); (assumption); (exact (by decide +kernel)))
  | ((with_reducible apply r_isi_lst (b := false)); (assumption); (exact (by decide +kernel)))
  | (with_reducible refine r_l0 (by assumption) ?_)
  | (with_reducible refine r_l2 (by assumption) ?_)
  | (with_reducible refine r_lenN (by assumption) ?_)
  | (with_reducible refine r_lenC (by assumption) ?_)
  | ((with_reducible apply r_ixT'); (assumption); (first | exact rfl | exact atI_0 | exact atI_1 | exact atI_2))
  | ((with_reducible apply r_ixL'); (assumption); (exact rfl))
  | ((with_reducible apply i_f); exact rfl)
  | ((with_reducible apply i_t); exact rfl)
  | ((with_reducible apply r_I); first | exact Or.inr ⟨by decide, by decide⟩ | exact (by decide) | assumption | exact ⟨by omega, by omega⟩ | exact (by omega) | exact ⟨by decide, by decide, by decide⟩))
local macro_rules | `(tactic| walk_at "w") => `(tactic| repeat (walk_at "w1"))

def cS : Nat → D → Nat
  | 0 => fun _ => 0
  | m + 1 => cntS (cnt m)
theorem cnt_s {n : Nat} {l : List D} : cnt n l = (l.map (cS n)).sum := by
  cases n with
  | zero =>
    show 0 = (l.map fun _ => 0).sum
    induction l with
    | nil => rfl
    | cons a r ih => rw [List.map_cons, List.sum_cons, ← ih]
  | succ n => rfl
theorem sum_take_le {α : Type} {f : α → Nat} : ∀ {l : List α} {i : Nat}, ((l.take i).map f).sum ≤ (l.map f).sum
  | [], i => by simp
  | a :: r, 0 => by simp
  | a :: r, i + 1 => by
    rw [List.take_succ_cons, List.map_cons, List.map_cons, List.sum_cons, List.sum_cons]
    have := sum_take_le (f := f) (l := r) (i := i)
    omega
theorem sum_take_succ {α : Type} {f : α → Nat} {l : List α} {i : Nat} {x : α} (h : l[i]? = some x) : ((l.take (i + 1)).map f).sum = ((l.take i).map f).sum + f x := by
  rw [List.take_add_one, h]
  show ((l.take i ++ [x]).map f).sum = _
  rw [List.map_append, List.sum_append]
  simp
def spInOrder (n : Nat) : Sp := fun vs H Q _ => ∃ (v : V) (l : List D), vs = [v] ∧ Rp H v (.tup l) ∧ RB n l ∧ n ≤ 5 ∧ ∀ (q : Addr) (us : List V) H', Gr [] H H' → H' q = some (.lst us) → us.length = cnt n l → Q (.ref q) H'
theorem sc_in_order : FnScope ["statements", "found", "statement", "block"] ["statements"] (defScope s_in_order) := ⟨rfl, rfl, rfl, by decide +kernel, rfl, by decide +kernel, by decide +kernel⟩
theorem sc_Body_init : FnScope ["self", "book", "statements", "many"] ["self", "book", "statements"] (defScope s_Body_init) := ⟨rfl, rfl, rfl, by decide +kernel, rfl, by decide +kernel, by decide +kernel⟩
theorem sc_Body_len : FnScope ["self"] ["self"] (defScope s_Body_len) := ⟨rfl, rfl, rfl, by decide +kernel, rfl, by decide +kernel, by decide +kernel⟩
section
variable {G : Ctx}
theorem none_gr {H H' : Hp} (g : Gr [] H H') {q : Addr} (h : H' q = none) : H q = none := by
  cases e : H q with
  | none => rfl
  | some o => have := g.at0 e; rw [h] at this; cases this
theorem step_in_order (T : Txt G) (c_blocks_of : ∀ P, Cal G 1 (He.ga G.K "blocks_of") (spBlocksOf P) []) {n : Nat} {sp' : Sp} (c_in_order : Cal G (n + 1) (He.ga G.K "in_order") sp' [])
    (hsp : ∀ m, n = m + 1 → ∀ vs H Q E, spInOrder m vs H Q E → sp' vs H Q E) : Cal G (n + 2) (He.ga G.K "in_order") (spInOrder n) [] := by
  have lb := fun m => c_blocks_of (RB m)
  have c_blocks_of := lb (n - 1)
  refine cal_of (k := n + 1) T.f_in_order sc_in_order (fun _ _ _ _ _ _ us hl => match us, hl with | [_], _ => rfl) (fun vs H Q E h => ?_) (fun cdv A outer s H vs Q E hr h => ⟨_, ((pss_cons (ps_set (i := 1) sc_in_order.nd rfl (Or.inl rfl) (pe_lst pa_nil))
    (pss_cons (ps_for (passes_of rfl) rfl (pi_tup (pv 0)) (pg_name (i := 2) sc_in_order.nd rfl (Or.inl rfl))
    (pss_cons (ps_expr (pe_bm PySem.F.plainAttrs_list PySem.F.slot_list_append PySem.F.type_list_append mt_append (pv 1) (pa_cons (pv 2) pa_nil)))
    (pss_one (ps_for (passes_of rfl) rfl (pi_tup (pe_cal c_blocks_of T.g_blocks_of hr (by omega) (takes_of rfl rfl rfl rfl) (fun _ _ _ _ h => h) rfl (pa_cons (pv 2) pa_nil))) (pg_name (i := 3) sc_in_order.nd rfl (Or.inl rfl))
    (pss_one (ps_expr (pe_bm PySem.F.plainAttrs_list PySem.F.slot_list_extend PySem.F.type_list_extend mt_extend (pv 1) (pa_cons (pe_cal c_in_order T.g_in_order hr (by omega) (takes_of rfl rfl rfl rfl) (fun _ _ _ _ h => h) rfl (pa_cons (pv 3) pa_nil)) pa_nil))))))))
    (pss_one (ps_ret (pv 1)))))), ?_⟩)
  · obtain ⟨v, l, rfl, _⟩ := h
    rfl
  obtain ⟨v, l, rfl, hv, hl, n5, k⟩ := h
  have hM : cnt n l + 1 ≤ 9 ^ 5 := Nat.le_trans (cnt_le hl) (Nat.pow_le_pow_right (by decide) n5)
  have e95 : (9 : Nat) ^ 5 = 59049 := by decide
  rw [cnt_s] at hM k
  obtain ⟨t, vs, rfl, et, hz⟩ := hv.tup_of
  walk_at "w"
  refine k_lst (by show 0 ≤ sizeLine; decide) fun q H1 hq g1 e1 => ?_
  walk_at "w"
  refine k_forT (SqT.of (g1.tu _ _ et)) (fun i σ' H' => ∃ o2 o3 us, σ' = [some (.ref t), some (.ref q), o2, o3] ∧ Gr [] H H' ∧ H' q = some (.lst us) ∧ us.length = ((l.take i).map (cS n)).sum) ⟨none, none, [], rfl, g1, e1, rfl⟩ (fun i σ' H' hi ⟨_, _, _, _, g', _⟩ => SqT.of (g'.tu _ _ et)) ?_ ?_
  · rintro i x σ2 H2 hx ⟨o2, o3, us, rfl, g2, eq, hus⟩
    obtain ⟨d, hd, rd⟩ := hz.get hx
    have hrs := hl.2 d (List.mem_of_getElem? hd)
    obtain ⟨m, rfl⟩ : ∃ m, n = m + 1 := by
      cases n with
      | zero => exact hrs.elim
      | succ m => exact ⟨m, rfl⟩
    obtain ⟨wd, r, rfl, hp⟩ := hrs
    have tot := sum_take_succ (f := cS (m + 1)) hd
    have le1 := sum_take_le (f := cS (m + 1)) (l := l) (i := i + 1)
    have eS : cS (m + 1) (.tup (.str wd :: r)) = 1 + ((blks wd r).map (cnt m)).sum := rfl
    have rd2 := rd.mono g2.tu
    walk_at "w"
    refine ⟨.inl ⟨rfl, _, SqL.of eq⟩, ?_⟩
    walk_at "w"
    refine r_app eq (by rw [sizeLine_eq]; omega) ?_
    have t3 : Gr [q] H2 (upd H2 q (.lst (us ++ [x]))) := Gr.set eq List.mem_cons_self (fun xs z => nomatch z)
    have g3 : Gr [] H (upd H2 q (.lst (us ++ [x]))) := g2.own hq
    have eq3 : upd H2 q (.lst (us ++ [x])) q = some (.lst (us ++ [x])) := upd_same
    generalize upd H2 q (.lst (us ++ [x])) = H3 at t3 g3 eq3 ⊢
    walk_at "w"
    refine ⟨x, wd, r, rfl, rd2.mono t3.tu, hp, fun p ws H4 g4 e4 hr4 => ?_⟩
    refine k_forT (SqT.of e4) (fun j σ' H' => ∃ o3 us', σ' = [some (.ref t), some (.ref q), some x, o3] ∧ Gr [] H H' ∧ Tu H4 H' ∧ H' q = some (.lst us') ∧ us'.length = us.length + 1 + (((blks wd r).take j).map (cnt m)).sum) ⟨o3, us ++ [x], rfl, g3.trans g4, Tu.refl, g4.at0 eq3, by rw [List.length_append]; rfl⟩ (fun i σ' H' hi ⟨_, _, _, _, tu, _⟩ => SqT.of (tu _ _ e4)) ?_ ?_
    · rintro j y σ5 H5 hy ⟨o3, us', rfl, g5, tu5, eq5, hus5⟩
      obtain ⟨d5, hd5, rd5⟩ := hr4.get hy
      rw [List.getElem?_map] at hd5
      obtain ⟨lb', hlb, e⟩ := Option.map_eq_some_iff.mp hd5
      subst e
      have tot2 := sum_take_succ (f := cnt m) hlb
      have le2 := sum_take_le (f := cnt m) (l := blks wd r) (i := j + 1)
      walk_at "w"
      refine ⟨.inl ⟨rfl, _, SqL.of eq5⟩, ?_⟩
      walk_at "w"
      refine hsp m rfl _ _ _ _ ⟨y, lb', rfl, rd5.mono tu5, hp.blks lb' (List.mem_of_getElem? hlb), by omega, fun q6 us6 H6 g6 e6 hl6 => ?_⟩
      walk_at "w"
      have eq6 := g6.at0 eq5
      refine ⟨q, q6, us', us6, rfl, rfl, eq6, e6, by rw [sizeLine_eq]; omega, ?_⟩
      refine ⟨_, _, rfl, (g5.trans g6).own hq, tu5.trans (g6.tu.trans (Gr.set (M := [q]) eq6 List.mem_cons_self (fun xs z => nomatch z)).tu), upd_same, ?_⟩
      rw [List.length_append, hl6, tot2]
      omega
    · rintro σ5 H5 ⟨o3, us', rfl, g5, tu5, eq5, hus5⟩
      refine ⟨_, _, us', rfl, g5, eq5, ?_⟩
      have hw : ws.length = (blks wd r).length := by rw [hr4.len, List.length_map]
      rw [hw, List.take_length] at hus5
      omega
  · rintro σ2 H2 ⟨o2, o3, us, rfl, g2, eq, hus⟩
    rw [hz.len, List.take_length] at hus
    walk_at "w"
    exact k q us H2 g2 eq hus
theorem k_in_order (T : Txt G) (c_blocks_of : ∀ P, Cal G 1 (He.ga G.K "blocks_of") (spBlocksOf P) []) : ∀ n : Nat, Cal G (n + 2) (He.ga G.K "in_order") (spInOrder n) []
  | 0 => step_in_order T c_blocks_of (sp' := fun _ _ _ _ => False) (cal_never T.f_in_order sc_in_order (fun _ _ _ _ _ _ us hl => match us, hl with | [_], _ => rfl) fun _ _ _ _ h => h) fun b' e => by cases e
  | b + 1 => step_in_order T c_blocks_of (k_in_order T c_blocks_of b) fun b' e => by cases e; exact fun _ _ _ _ h => h
end
/-- a body at x -/
structure Bo (K : PySem.W.Frag) (H : Hp) (x : Addr) (kk ss : List (Key × V)) (l : List D) : Prop where
  ex : ∃ dx bk kd sd ts us, H x = some (.ins (He.ga K "Body") dx [("book", .ref bk), ("statements", .ref ts)]) ∧ Bk K H bk kd sd kk ss ∧ H ts = some (.tup us) ∧ Rps H us l
def spBodyInit (K : PySem.W.Frag) : Sp := fun vs H Q E => ∃ (x dx bk kd sd a : Addr) (kk : List (Key × V)) (us : List V) (l : List D) (n : Nat) (N : List Str) (C : List (Str × Int)), vs = [.ref x, .ref bk, .ref a] ∧ H x = some (.ins (He.ga K "Body") dx []) ∧ Bk K H bk kd sd kk (szs C) ∧ COk C ∧
  (∀ y, (valV kk (.inr y)).isSome = decide (y ∈ N)) ∧ (H a = some (.lst us) ∨ H a = some (.tup us)) ∧ Rps H us l ∧ KB n l ∧ (fullF N C l = none → ∀ H', Gr [x] H H' → Bo K H' x kk (szs C) l → Q .non H') ∧
  ∀ w d, fullF N C l = some (w, d) → ∀ H' dx v, Gr [x] H H' → H' dx = some (.xd [(fld w, v)]) → Rp H' v d → E (.ref (He.ga K w)) (some dx) H'
def spBodyLen (K : PySem.W.Frag) : Sp := fun vs H Q _ => ∃ (x : Addr) (kk ss : List (Key × V)) (l : List D), vs = [.ref x] ∧ Bo K H x kk ss l ∧ RB 5 l ∧ ∀ H', Gr [] H H' → Q (.int (cnt 5 l)) H'
section
variable {G : Ctx}
theorem k_Body_len (T : Txt G) (c_in_order : Cal G 7 (He.ga G.K "in_order") (spInOrder 5) []) : Cal G 8 (He.ma G.K (He.ga G.K "Body") "__len__") (spBodyLen G.K) [] := by
  refine cal_of T.f_Body_len sc_Body_len (fun _ _ _ _ _ _ us hl => match us, hl with | [_], _ => rfl) (fun vs H Q E h => ?_) (fun cdv A outer s H vs Q E hr h => ⟨_, ((pss_one (ps_ret (pe_callB call_lenQ rfl T.v_len PySem.boot_len (pa_cons (pe_cal c_in_order T.g_in_order hr (by omega) (takes_of rfl rfl rfl rfl) (fun _ _ _ _ h => h) rfl (pa_cons (pe_fld (pv 0) rfl) pa_nil)) pa_nil))))), ?_⟩)
  · obtain ⟨x, kk, ss, l, rfl, _⟩ := h
    rfl
  obtain ⟨x, kk, ss, l, rfl, ⟨dx, bk, kd, sd, ts, us, ex, B, et, hz⟩, hl, k⟩ := h
  walk_at "w"
  refine k_fld T.c_Body T.n_Body_statements ex rfl ?_
  walk_at "w"
  refine ⟨.ref ts, l, rfl, .tup et hz, hl, by decide, fun q us' H1 g1 e1 hlen => ?_⟩
  walk_at "w"
  refine r_lenL e1 ?_
  rw [hlen]
  exact k H1 g1
theorem stores_le {C : List (Str × Int)} (ok : COk C) : 0 ≤ stores C ∧ stores C ≤ 9 := by
  have h2 := ok.c2
  have hm := ok.cm
  match C, h2 with
  | [], _ => exact ⟨by decide, by decide⟩
  | [c], _ =>
    have h := (hm c List.mem_cons_self).2
    show 0 ≤ c.2 * 1 ∧ c.2 * 1 ≤ 9
    omega
  | [c, e], _ =>
    have h := (hm c List.mem_cons_self).2
    have h' := (hm e (List.mem_cons_of_mem _ List.mem_cons_self)).2
    show 0 ≤ c.2 * (e.2 * 1) ∧ c.2 * (e.2 * 1) ≤ 9
    have c3 : c.2 = 2 ∨ c.2 = 3 := by omega
    rcases c3 with z | z <;> rw [z] <;> omega
theorem k_Body_init (T : Txt G) (c_copied : Cal G 3 (He.ga G.K "copied") (spCopied G.K) []) (c_check_all : Cal G 20 (He.ga G.K "check_all") (spCkAll G.K 5) []) (c_in_order : Cal G 7 (He.ga G.K "in_order") (spInOrder 5) []) (c_stores : Cal G 1 (pg G.K "Book" "stores") (spStores G.K) []) (c_TooLarge : CalX G "TooLarge" "most") : Cal G 21 (He.ma G.K (He.ga G.K "Body") "__init__") (spBodyInit G.K) [] := by
  refine cal_of T.f_Body_init sc_Body_init (fun _ _ _ _ _ _ us hl => match us, hl with | [_, _, _], _ => rfl) (fun vs H Q E h => ?_) (fun cdv A outer s H vs Q E hr h => ⟨_, ((pss_cons (ps_fld (pv 0) (pe_cal c_copied T.g_copied hr (by omega) (takes_of rfl rfl rfl rfl) (fun _ _ _ _ h => h) rfl (pa_cons (pv 1) pa_nil)) rfl)
    (pss_cons (ps_fld (pv 0) (pe_callTy call_tupOf rfl T.v_tuple (by decide +kernel) (pa_cons (pv 2) pa_nil)) rfl)
    (pss_cons (ps_expr (pe_cal c_check_all T.g_check_all hr (by omega) (takes_of rfl rfl rfl rfl) (fun _ _ _ _ h => h) rfl (pa_cons (pe_fld (pv 0) rfl) (pa_cons (pe_fld (pv 0) rfl) (pa_cons pe_int pa_nil)))))
    (pss_cons (ps_set (i := 3) sc_Body_init.nd rfl (Or.inl rfl) (pe_callB call_lenQ rfl T.v_len PySem.boot_len (pa_cons (pe_cal c_in_order T.g_in_order hr (by omega) (takes_of rfl rfl rfl rfl) (fun _ _ _ _ h => h) rfl (pa_cons (pe_fld (pv 0) rfl) pa_nil)) pa_nil)))
    (pss_cons (ps_if (pt_cmpR op_gt (pv 3) (ClX.pe_cval (pe_gR rfl T.g_Body)) (nomark _)) (pss_one (ps_rz T.o_TooLarge T.j_TooLarge.ini T.j_TooLarge.ty c_TooLarge hr (by omega) rfl (takes_of rfl rfl rfl rfl) rfl T.g_TooLarge (ClX.pe_cval (pe_gR rfl T.g_Body)))) pss_nil)
    (pss_one (ps_if (pt_cmpR op_gt (pe_op op_mul (pe_op op_add (pv 3) pe_int) (pe_prp T.c_Book T.p_Book_stores c_stores hr (by omega) (pe_fld (pv 0) rfl))) (ClX.pe_cval (pe_gR rfl T.g_Body)) (nomark _)) (pss_one (ps_rz T.o_TooLarge T.j_TooLarge.ini T.j_TooLarge.ty c_TooLarge hr (by omega) rfl (takes_of rfl rfl rfl rfl) rfl T.g_TooLarge (ClX.pe_cval (pe_gR rfl T.g_Body)))) pss_nil)))))))), ?_⟩)
  · obtain ⟨x, dx, bk, kd, sd, a, kk, us, l, n, N, C, rfl, _⟩ := h
    rfl
  obtain ⟨x, dx, bk, kd, sd, a, kk, us, l, n, N, C, rfl, ex, B, ok, hN, ha, hz, hl, kok, ker⟩ := h
  walk_at "w"
  refine ⟨bk, kd, sd, kk, szs C, rfl, B, fun b' kd' sd' H1 g1 hb' B1 => ?_⟩
  have ex1 := g1.at0 ex
  walk_at "w"
  refine k_sfld T.c_Body T.n_Body_book ex1 (by show 0 < 1000; decide) ?_
  have nbx : b' ≠ x := fun z => by rw [z, ex] at hb'; cases hb'
  have nk : kd' ≠ x := fun z => by have := B1.ek; rw [z, ex1] at this; cases this
  have ns : sd' ≠ x := fun z => by have := B1.es; rw [z, ex1] at this; cases this
  have nax : a ≠ x := fun z => by rw [z] at ha; rcases ha with h | h <;> rw [ex] at h <;> cases h
  have t2 : Gr [x] H1 (upd H1 x (.ins (He.ga G.K "Body") dx (putF "book" (.ref b') []))) := Gr.set ex1 List.mem_cons_self (fun xs z => nomatch z)
  have ex2 : upd H1 x (.ins (He.ga G.K "Body") dx (putF "book" (.ref b') [])) x = some (.ins (He.ga G.K "Body") dx [("book", .ref b')]) := upd_same
  generalize upd H1 x (.ins (He.ga G.K "Body") dx (putF "book" (.ref b') [])) = H2 at t2 ex2 ⊢
  have B2 := B1.gr t2 (by simpa using nbx) (by simpa using nk) (by simpa using ns)
  have hz2 := (Rps.mono g1.tu hz).mono t2.tu
  have g02 := (g1.any (M := [x])).trans t2
  walk_at "w"
  have mid : ∀ ts H3, Gr [] H2 H3 → H3 ts = some (.tup us) → ∀ R : VK, R (.ref ts) H3 → R (.ref ts) H3 := fun _ _ _ _ _ h => h
  have tupof : ∀ R : VK, (∀ ts H3, Gr [] H2 H3 → H3 ts = some (.tup us) → R (.ref ts) H3) → rTupOf G.K [.ref a] H2 R := fun R hR => by
    rcases ha with h | h
    · exact r_tupOfL (t2.keep _ _ (g1.at0 h) (by simpa using nax)) fun p H3 g3 e3 => hR p H3 g3 e3
    · have h2 := t2.keep _ _ (g1.at0 h) (by simpa using nax)
      exact r_tupOfT h2 (hR a H2 Gr.refl h2)
  refine tupof _ fun ts H3 g3 e3 => ?_
  have ex3 := g3.at0 ex2
  walk_at "w"
  refine k_sfld T.c_Body T.n_Body_statements ex3 (by show 1 < 1000; decide) ?_
  have t4 : Gr [x] H3 (upd H3 x (.ins (He.ga G.K "Body") dx (putF "statements" (.ref ts) [("book", .ref b')]))) := Gr.set ex3 List.mem_cons_self (fun xs z => nomatch z)
  have ex4 : upd H3 x (.ins (He.ga G.K "Body") dx (putF "statements" (.ref ts) [("book", .ref b')])) x = some (.ins (He.ga G.K "Body") dx [("book", .ref b'), ("statements", .ref ts)]) := upd_same
  generalize upd H3 x (.ins (He.ga G.K "Body") dx (putF "statements" (.ref ts) [("book", .ref b')])) = H4 at t4 ex4 ⊢
  have B4 := (B2.at0 g3).gr t4 (by simpa using nbx) (by simpa using nk) (by simpa using ns)
  have et4 := t4.tu _ _ e3
  have hz4 := (Rps.mono g3.tu hz2).mono t4.tu
  have g04 := (g02.trans g3.any).trans t4
  have er4 : ErK G.K (fullF N C l) H4 E := fun w d e H' dx v g => ker w d e H' dx v (g04.trans g.any)
  walk_at "w"
  refine k_fld T.c_Body T.n_Body_book ex4 rfl ?_
  walk_at "w"
  refine k_fld T.c_Body T.n_Body_statements ex4 rfl ?_
  walk_at "w"
  refine ⟨b', .ref ts, l, 0, n, N, C, rfl, ⟨ok, kd', sd', kk, B4, hN⟩, .tup et4 hz4, hl, by decide, by decide, fun e0 H5 g5 => ?_, er4.sub Gr.refl fun e he => by unfold fullF; rw [he]⟩
  have hrb := bF_none hl e0
  have full : fullF N C l = if 24 < cnt 5 l then ft "TooLarge" (.int 24) else if 120 < ((cnt 5 l : Int) + 1) * stores C then ft "TooLarge" (.int 120) else none := by unfold fullF; rw [e0]
  have ex5 := g5.at0 ex4
  walk_at "w"
  refine k_fld T.c_Body T.n_Body_statements ex5 rfl ?_
  walk_at "w"
  refine ⟨.ref ts, l, rfl, .tup (g5.tu _ _ et4) (Rps.mono g5.tu hz4), hrb, by decide, fun q us6 H6 g6 e6 hl6 => ?_⟩
  walk_at "w"
  refine r_lenL e6 ?_
  rw [hl6]
  have g46 := g5.trans g6
  walk_at "w"
  refine k_cval T.k_Body_STATEMENTS ?_
  walk_at "w"
  refine i_d (fun h24 => ?_) (fun h24 => ?_)
  · walk_at "w"
    refine k_cval T.k_Body_STATEMENTS ?_
    exact k_er er4 (full.trans (if_pos (by omega))) rfl g46 (.int 24)
  walk_at "w"
  refine k_fld T.c_Body T.n_Body_book (g46.at0 ex4) rfl ?_
  have B6 := B4.at0 g46
  obtain ⟨dxb, eb6⟩ := B6.e
  walk_at "w"
  refine ⟨b', dxb, _, rfl, eb6, b', kd', sd', kk, C, rfl, B6, ok, fun H7 g7 => ?_⟩
  have sl := stores_le ok
  have c24 : (cnt 5 l : Int) ≤ 24 := by omega
  refine r_I (.inl ⟨by omega, by omega⟩) ?_
  walk_at "w"
  refine k_cval T.k_Body_SIZE ?_
  walk_at "w"
  have g47 := g46.trans g7
  refine i_d (fun h120 => ?_) (fun h120 => ?_)
  · walk_at "w"
    refine k_cval T.k_Body_SIZE ?_
    exact k_er er4 (full.trans ((if_neg (by omega)).trans (if_pos h120))) rfl g47 (.int 120)
  · walk_at "w"
    exact kok (full.trans ((if_neg (by omega)).trans (if_neg h120))) H7 (g04.trans g47.any) ⟨dx, b', kd', sd', ts, us, g47.at0 ex4, B4.at0 g47, g47.tu _ _ et4, Rps.mono g47.tu hz4⟩
end
end Xd

/-! text F1 -/
/-! the law's pool and book -/
namespace Xd
open PySem PySem.Spec PyProof.Rows L2
local macro_rules | `(tactic| walk_at "w1") => `(tactic| first
  | with_reducible apply r_seq
  | with_reducible apply r_asg
  | with_reducible apply r_gname
  | ((with_reducible apply r_var); exact rfl)
  | with_reducible apply r_c
  | with_reducible apply r_op
  | with_reducible apply r_I0
  | ((with_reducible apply r_eq); exact rfl)
  | ((with_reducible apply r_ne); exact rfl)
  | with_reducible apply r_if
  | with_reducible apply r_test
  | with_reducible apply r_tB
  | with_reducible apply r_bl
  | with_reducible apply r_and
  | with_reducible apply r_or
  | with_reducible apply r_not
  | with_reducible apply r_ret
  | with_reducible apply r_drop
  | with_reducible apply r_cons
  | with_reducible apply r_nil
  | with_reducible apply r_cal
  | with_reducible apply r_cb
  | with_reducible apply r_tup
  | with_reducible apply r_lst
  | with_reducible apply r_next
  | with_reducible apply r_retN
  | with_reducible apply r_un
  | with_reducible apply r_U
  | with_reducible apply r_andV
  | with_reducible apply r_orV
  | with_reducible apply r_notV
  | with_reducible apply r_ifx
  | with_reducible apply r_forT
  | with_reducible apply r_forL
  | with_reducible apply r_forR
  | with_reducible apply r_sl
  | with_reducible apply r_nop
  | with_reducible apply r_part
  | with_reducible apply r_kPart
  | with_reducible apply r_gsub
  | with_reducible apply r_int1
  | with_reducible apply r_isN
  | with_reducible apply r_notN
  | with_reducible apply r_ltStr
  | with_reducible apply r_inS
  | with_reducible apply r_niS
  | with_reducible apply r_bm
  | with_reducible apply r_forS
  | with_reducible apply r_lcL
  | with_reducible apply r_lcT
  | with_reducible apply r_m0
  | with_reducible apply r_fld
  | with_reducible apply r_sfld
  | with_reducible apply r_cval
  | with_reducible apply r_make
  | with_reducible apply r_prop
  | with_reducible apply r_meth
  | with_reducible apply r_chain
  | with_reducible apply r_rz
  | with_reducible apply r_veI
  | with_reducible apply r_ost
  | with_reducible apply r_bm0
  | with_reducible apply r_din
  | with_reducible apply r_dnin
  | with_reducible apply r_dget
  | ((with_reducible apply r_gtup); (assumption); (exact rfl))
  | with_reducible apply r_gcons
  | with_reducible apply r_gnil
  | (with_reducible refine r_lo0 (by assumption) ?_)
  | (with_reducible refine r_lo2 (by assumption) ?_)
  | (with_reducible refine r_isi_non (b := true) (by decide +kernel) ?_)
  | (with_reducible refine r_isi_int (b := true) (by decide +kernel) ?_)
  | (with_reducible refine r_isi_str (b := true) (by decide +kernel) ?_)
  | ((with_reducible apply r_isi_tup (b := true)); (assumption); (exact (by decide +kernel)))
  | ((with_reducible apply r_isi_lst (b := true)); (assumption); (exact (by decide +kernel)))
  | (with_reducible refine r_isi_non (b := false) (by decide +kernel) ?_)
  | (with_reducible refine r_isi_int (b := false) (by decide +kernel) ?_)
  | (with_reducible refine r_isi_str (b := false) (by decide +kernel) ?_)
  | ((with_reducible apply r_isi_tup (b := false)); (assumption); (exact (by decide +kernel)))
  | ((with_reducible apply r_isi_lst (b := false)); (assumption); (exact (by decide +kernel)))
  | (with_reducible refine r_l0 (by assumption) ?_)
  | (with_reducible refine r_l2 (by assumption) ?_)
  | (with_reducible refine r_lenN (by assumption) ?_)
  | (with_reducible refine r_lenC (by assumption) ?_)
  | ((with_reducible apply r_ixT'); (assumption); (first | exact rfl | exact atI_0 | exact atI_1 | exact atI_2))
  | ((with_reducible apply r_ixL'); (assumption); (exact rfl))
  | ((with_reducible apply i_f); exact rfl)
  | ((with_reducible apply i_t); exact rfl)
  | ((with_reducible apply r_I); first | exact Or.inr ⟨by decide, by decide⟩ | exact (by decide) | assumption | exact ⟨by omega, by omega⟩ | exact (by omega) | exact ⟨by decide, by decide, by decide⟩))
local macro_rules | `(tactic| walk_at "w") => `(tactic| repeat (walk_at "w1"))

theorem Gr.forget1 {q : Addr} {H H1 H2 : Hp} (g : Gr [] H H1) (hq : H q = none) (g2 : Gr [q] H1 H2) : Gr [] H H2 :=
  ⟨fun c o e _ => g2.keep c o (g.at0 e) (by simpa using ne_of_none e hq), g.tu.trans g2.tu⟩
def spPool (K : PySem.W.Frag) : Sp := fun vs H Q _ => ∃ (s : Addr) (xs : List Int), vs = [.ref s] ∧ SqL K H s (xs.map V.int) ∧ ∀ sc p H', Gr [] H H' → Pool sc p H' → Q (.ref p) H'
def spBook (K : PySem.W.Frag) : Sp := fun vs H Q _ => ∃ (w : Wo), vs = [.ref w.a] ∧ Lo w H ∧ Kd H w.ak w.N ∧ ∀ (b kd sd : Addr) (kk : List (Key × V)) H', Gr [] H H' → H b = none → H kd = none → H sd = none → Bk K H' b kd sd kk (szs w.C) → Good kk → (∀ x, (valV kk (.inr x)).isSome = decide (x ∈ w.N)) → Q (.ref b) H'
theorem sc__law_pool : FnScope ["_law_script"] ["_law_script"] (defScope s__law_pool) := ⟨rfl, rfl, rfl, by decide +kernel, rfl, by decide +kernel, by decide +kernel⟩
theorem sc__law_book : FnScope ["_law_lore_here", "_law_book_here", "_law_name_here", "_law_pair"] ["_law_lore_here"] (defScope s__law_book) := ⟨rfl, rfl, rfl, by decide +kernel, rfl, by decide +kernel, by decide +kernel⟩
theorem szs_put {C : List (Str × Int)} {i : Nat} {c : Str × Int} (hc : C[i]? = some c) (nd : (C.map (·.1)).Nodup) : valV (szs (C.take i)) (.inr c.1) = none ∧ putK (szs (C.take i)) (.inr c.1) (.int c.2) = szs (C.take (i + 1)) := by
  have hno : ((szs (C.take i)).any fun kv => decide (kv.1 = (Sum.inr c.1 : Key))) = false := by
    rw [List.any_eq_false]
    intro kv hkv
    unfold szs at hkv
    obtain ⟨e, he, rfl⟩ := List.mem_map.mp hkv
    obtain ⟨j, hj, ej⟩ := List.getElem_of_mem he
    have hj' : j < i := by
      rw [List.length_take] at hj
      omega
    have ej2 : C[j]? = some e := by
      rw [List.getElem_take] at ej
      rw [← ej]
      exact List.getElem?_eq_getElem _
    simp only [decide_eq_true_eq]
    intro z
    have z : e.1 = c.1 := Sum.inr.inj z
    have h1 : (C.map (·.1))[j]? = some e.1 := by rw [List.getElem?_map, ej2] <;> rfl
    have h2 : (C.map (·.1))[i]? = some e.1 := by rw [List.getElem?_map, hc, z] <;> rfl
    have hi : i < (C.map (·.1)).length := (List.getElem?_eq_some_iff.mp h2).1
    have hj2 : j < (C.map (·.1)).length := by omega
    have := (List.getElem?_inj hj2 nd).mp (h1.trans h2.symm)
    omega
  refine ⟨?_, ?_⟩
  · have := valV_any (Sum.inr c.1 : Key) (szs (C.take i))
    rw [hno] at this
    exact Option.isNone_iff_eq_none.mp (by rw [Option.isNone_iff_eq_none]; cases h : valV (szs (C.take i)) (Sum.inr c.1) with
      | none => rfl
      | some v => rw [h] at this; cases this)
  · unfold putK
    rw [hno]
    unfold szs
    rw [if_neg (by decide), List.take_add_one, hc, List.map_append] <;> rfl
theorem KindD.ref {H : Hp} {v : V} {d : D} (h : KindD d) (r : Rp H v d) : ∃ a, v = .ref a := by
  cases h <;> (obtain ⟨a, _, e, _⟩ := r.tup_of; exact ⟨a, e⟩)
section
variable {G : Ctx}
theorem k__law_pool (T : Txt G) : Cal G 1 (He.ga G.K "_law_pool") (spPool G.K) [] := by
  refine cal_of T.f__law_pool sc__law_pool (fun _ _ _ _ _ _ us hl => match us, hl with | [_], _ => rfl) (fun vs H Q E h => ?_) (fun cdv A outer s H vs Q E hr h => ⟨_, ((pss_one (ps_ret (pe_lst (pa_cons (pe_callTy call_lstOf rfl T.v_list (by decide +kernel) (pa_cons (pv 0) pa_nil)) (pa_cons pe_int (pa_cons pe_int (pa_cons pe_int (pa_cons pe_int pa_nil))))))))), ?_⟩)
  · obtain ⟨s, xs, rfl, _⟩ := h
    rfl
  obtain ⟨s, xs, rfl, es, k⟩ := h
  walk_at "w"
  refine r_lstOf (.inl es) fun sc H1 hsc g1 e1 => ?_
  walk_at "w"
  refine k_lst (by show 5 ≤ sizeLine; decide) fun p H2 hp g2 e2 => ?_
  exact k sc p H2 (g1.trans g2) ⟨xs, 0, 0, 0, 0, e2, g2.at0 e1, (fun z => by rw [z, hp] at e1; cases e1), Int.le_refl _⟩
theorem k__law_book (T : Txt G) (c_Book : Cal G 1 (He.ma G.K (He.ga G.K "Book") "__init__") (spBookInit G.K) [.ref (He.dflAt ("Book", some "__init__") 0 G.K), .ref (He.dflAt ("Book", some "__init__") 1 G.K)]) (c_setitem : Cal G 5 (He.ma G.K (He.ga G.K "Book") "__setitem__") (spBookSet G.K) []) (c_add_cell : Cal G 4 (He.ma G.K (He.ga G.K "Book") "add_cell") (spAddCell G.K) []) : Cal G 6 (He.ga G.K "_law_book") (spBook G.K) [] := by
  refine cal_of T.f__law_book sc__law_book (fun _ _ _ _ _ _ us hl => match us, hl with | [_], _ => rfl) (fun vs H Q E h => ?_) (fun cdv A outer s H vs Q E hr h => ⟨_, ((pss_cons (ps_set (i := 1) sc__law_book.nd rfl (Or.inl rfl) (pe_new0 T.m_Book c_Book T.g_Book hr (by omega) (takes_of rfl rfl rfl rfl) (fun _ _ _ _ h => h) rfl))
    (pss_cons (ps_for (passes_of rfl) rfl (pi_list (pe_ix ix_list (pv 0) pe_int (fun _ _ => rfl))) (pg_name (i := 2) sc__law_book.nd rfl (Or.inl rfl))
    (pss_one (ps_asg (pe_dget (hu_of hr) (pe_ix ix_list (pv 0) pe_int (fun _ _ => rfl)) (pv 2) (fun _ _ => rfl)) (pg_sub (pv 1) (pv 2) (set_own T.own_setitem T.h_Book_setitem c_setitem hr (by omega) (takes_of rfl rfl rfl rfl) (fun _ _ _ _ h => h))))))
    (pss_cons (ps_for (passes_of rfl) rfl (pi_list (pe_ix ix_list (pv 0) pe_int (fun _ _ => rfl))) (pg_name (i := 3) sc__law_book.nd rfl (Or.inl rfl))
    (pss_one (ps_expr (pe_mth T.c_Book T.h_Book_add_cell c_add_cell hr (by omega) (takes_of rfl rfl rfl rfl) (fun _ _ _ _ h => h) (pv 1) (pa_cons (pe_ix ix_tup (pv 3) pe_int (fun _ _ => rfl)) (pa_cons (pe_ix ix_tup (pv 3) pe_int (fun _ _ => rfl)) pa_nil))))))
    (pss_one (ps_ret (pv 1))))))), ?_⟩)
  · obtain ⟨w, rfl, _⟩ := h
    rfl
  obtain ⟨w, rfl, L, ⟨kvs, ek, hk⟩, k⟩ := h
  have ok := L.ok
  walk_at "w"
  intro b dx hb hdx ne
  have g1 : Gr [] H (upd (upd H dx (.own b)) b (.ins (He.ga G.K "Book") dx [])) := ((Gr.refl (M := [])).own hdx).own hb
  have ex : upd (upd H dx (.own b)) b (.ins (He.ga G.K "Book") dx []) b = some (.ins (He.ga G.K "Book") dx []) := upd_same
  generalize upd (upd H dx (.own b)) b (.ins (He.ga G.K "Book") dx []) = H1 at g1 ex ⊢
  refine ⟨b, _, _, dx, [], [], rfl, ex, .inr ⟨T.d_0, rfl⟩, .inr ⟨T.d_1, rfl⟩, fun kd sd H2 g2 hkd hsd nks B2 => ⟨rfl, ?_⟩⟩
  have hkd0 := none_gr g1 hkd
  have hsd0 := none_gr g1 hsd
  have g02 := Gr.forget1 g1 hb g2
  walk_at "w"
  refine r_lo0 (L.gr g02) ?_
  refine k_forL (SqL.of (g02.at0 L.en)) (fun i σ' H' => ∃ (o : Option V) (kk : List (Key × V)), σ' = [some (.ref w.a), some (.ref b), o, none] ∧ Bk G.K H' b kd sd kk (szs (w.C.take 0)) ∧ Good kk ∧ kk.length ≤ i ∧ (∀ x, (valV kk (.inr x)).isSome = decide (x ∈ w.N.take i)) ∧ Gr [] H H')
    ⟨none, [], rfl, B2, Good.nil, Nat.le_refl _, fun x => by simp [valV], g02⟩ (fun i σ' H' hi ⟨_, _, _, _, _, _, _, g'⟩ => SqL.of (g'.at0 L.en)) ?_ ?_
  · rintro i u σ3 H3 hu ⟨o, kk, rfl, B3, gd, hz, hn, g3⟩
    rw [List.getElem?_map] at hu
    obtain ⟨x, hx, rfl⟩ := Option.map_eq_some_iff.mp hu
    have il : i < w.N.length := (List.getElem?_eq_some_iff.mp hx).1
    have hxm := List.mem_of_getElem? hx
    obtain ⟨v, d, hv1, hv2, hv3⟩ := hk x hxm
    walk_at "w"
    refine r_ixL (SqL.of (L.gr g3).e) (v := .ref w.ak) rfl ?_
    walk_at "w"
    refine k_dget (k := .inr x) (g3.at0 ek) hv1 ?_
    walk_at "w"
    obtain ⟨dy, eb⟩ := B3.e
    refine ⟨b, dy, _, rfl, eb, b, kd, sd, kk, _, x, v, d, rfl, B3, nks, ok.nm x hxm, hv2.mono g3.tu, hv3, by have := ok.n3; omega, fun H4 g4 B4 => ?_⟩
    walk_at "w"
    refine ⟨_, _, rfl, B4, gd.put (.inr (hv3.ref hv2)), Nat.le_trans (putK_len _ _ _) (by omega), fun y => ?_, Gr.forget1 g3 hkd0 g4⟩
    rw [valV_put, List.take_add_one, hx]
    by_cases e : (Sum.inr y : Key) = Sum.inr x
    · rw [if_pos e]
      have e2 : y = x := Sum.inr.inj e
      exact (decide_eq_true (List.mem_append_right _ (by rw [e2]; exact List.mem_cons_self))).symm
    · rw [if_neg e, hn y]
      refine decide_eq_decide.mpr ⟨fun z => List.mem_append_left _ z, fun z => (List.mem_append.mp z).elim id fun z => absurd ?_ e⟩
      rw [List.mem_singleton.mp z]
  · rintro σ3 H3 ⟨o, kk, rfl, B3, gd, hz, hn, g3⟩
    rw [List.length_map, List.take_length] at hn
    walk_at "w"
    refine r_lo2 (L.gr g3) ?_
    refine k_forL (SqL.of (g3.at0 L.ep)) (fun i σ' H' => ∃ (o o2 : Option V), σ' = [some (.ref w.a), some (.ref b), o, o2] ∧ Bk G.K H' b kd sd kk (szs (w.C.take i)) ∧ Gr [] H H')
      ⟨o, none, rfl, B3, g3⟩ (fun i σ' H' hi ⟨_, _, _, _, g'⟩ => SqL.of (g'.at0 L.ep)) ?_ ?_
    · rintro i u σ4 H4 hu ⟨o, o2, rfl, B4, g4⟩
      obtain ⟨d, hd, rd⟩ := L.er.get hu
      rw [List.getElem?_map] at hd
      obtain ⟨c, hc, e⟩ := Option.map_eq_some_iff.mp hd
      subst e
      obtain ⟨t, rfl, et⟩ := pr_of (rd.mono g4.tu)
      have il : i < w.C.length := (List.getElem?_eq_some_iff.mp hc).1
      have hcm := ok.cm c (List.mem_of_getElem? hc)
      obtain ⟨h1, h2⟩ := szs_put hc ok.cd
      obtain ⟨dy, eb⟩ := B4.e
      walk_at "w"
      refine ⟨b, dy, _, rfl, eb, rfl, ?_⟩
      walk_at "w"
      refine ⟨b, kd, sd, kk, _, c.1, c.2, rfl, B4, nks, hcm.1, by omega, h1, by unfold szs; rw [List.length_map, List.length_take]; have := ok.c2; omega, fun H5 g5 B5 => ?_⟩
      rw [h2] at B5
      walk_at "w"
      exact ⟨_, _, rfl, B5, Gr.forget1 g4 hsd0 g5⟩
    · rintro σ4 H4 ⟨o, o2, rfl, B4, g4⟩
      have lu : w.us.length = w.C.length := by rw [L.er.len, List.length_map]
      rw [lu, List.take_length] at B4
      walk_at "w"
      exact k b kd sd kk H4 g4 hb hkd0 hsd0 B4 gd hn
end
end Xd

/-! text F2 -/
/-! the law reads the exception -/
namespace Xd
open PySem PySem.Spec PyProof.Rows L2
section
variable {K : PySem.W.Frag} {p : Addr × Obj} {H : Hp} {Q : VK} {σ : St} {te : TE} {C D d : Addr} {f : Str} {c : V} {cv : Value} {fs : List (Str × V)} {v : V} {b : Bool}
theorem r_isP (hc : ClsV c cv) (hx : IsX K D d p) (hq : ExcC K D) (hd : H d = some (.xd fs)) (hk : PySem.W.kitOne K (.ref D) cv = some b) (h : Q (.bl b) H) : rIsP K p [.ref p.1, c] H Q := ⟨D, d, fs, c, cv, b, rfl, hc, hx, hq, hd, hk, h⟩
def kXp (p : Addr × Obj) (K : PySem.W.Frag) (C : Addr) (f : Str) (x : V) (H : Hp) (Q : VK) : Prop := x = .ref p.1 ∧ ∃ d fs v, IsX K C d p ∧ H d = some (.xd fs) ∧ fs.lookup f = some v ∧ Q v H
theorem r_xp (h : te σ H fun x H1 => kXp p K C f x H1 Q) : tXp p K C f te σ H Q := h
end
local macro_rules | `(tactic| walk_at "w1") => `(tactic| first
  | with_reducible apply r_seq
  | with_reducible apply r_asg
  | with_reducible apply r_gname
  | ((with_reducible apply r_var); exact rfl)
  | with_reducible apply r_c
  | with_reducible apply r_op
  | with_reducible apply r_I0
  | ((with_reducible apply r_eq); exact rfl)
  | ((with_reducible apply r_ne); exact rfl)
  | with_reducible apply r_if
  | with_reducible apply r_test
  | with_reducible apply r_tB
  | with_reducible apply r_bl
  | with_reducible apply r_and
  | with_reducible apply r_or
  | with_reducible apply r_not
  | with_reducible apply r_ret
  | with_reducible apply r_drop
  | with_reducible apply r_cons
  | with_reducible apply r_nil
  | with_reducible apply r_cal
  | with_reducible apply r_cb
  | with_reducible apply r_tup
  | with_reducible apply r_lst
  | with_reducible apply r_next
  | with_reducible apply r_retN
  | with_reducible apply r_un
  | with_reducible apply r_U
  | with_reducible apply r_andV
  | with_reducible apply r_orV
  | with_reducible apply r_notV
  | with_reducible apply r_ifx
  | with_reducible apply r_forT
  | with_reducible apply r_forL
  | with_reducible apply r_forR
  | with_reducible apply r_sl
  | with_reducible apply r_nop
  | with_reducible apply r_part
  | with_reducible apply r_kPart
  | with_reducible apply r_gsub
  | with_reducible apply r_int1
  | with_reducible apply r_isN
  | with_reducible apply r_notN
  | with_reducible apply r_ltStr
  | with_reducible apply r_inS
  | with_reducible apply r_niS
  | with_reducible apply r_bm
  | with_reducible apply r_forS
  | with_reducible apply r_lcL
  | with_reducible apply r_lcT
  | with_reducible apply r_m0
  | with_reducible apply r_int1b
  | with_reducible apply r_calE
  | with_reducible apply r_xp
  | ((with_reducible apply r_isP); (first | exact ClsV.own _ | exact ClsV.ty _); (assumption); (assumption); (assumption); (assumption))
  | with_reducible apply r_fld
  | with_reducible apply r_sfld
  | with_reducible apply r_cval
  | with_reducible apply r_make
  | with_reducible apply r_prop
  | with_reducible apply r_meth
  | with_reducible apply r_chain
  | with_reducible apply r_rz
  | with_reducible apply r_veI
  | with_reducible apply r_ost
  | with_reducible apply r_bm0
  | with_reducible apply r_din
  | with_reducible apply r_dnin
  | with_reducible apply r_dget
  | ((with_reducible apply r_gtup); (assumption); (exact rfl))
  | with_reducible apply r_gcons
  | with_reducible apply r_gnil
  | (with_reducible refine r_lo0 (by assumption) ?_)
  | (with_reducible refine r_lo2 (by assumption) ?_)
  | (with_reducible refine r_isi_non (b := true) (by decide +kernel) ?_)
  | (with_reducible refine r_isi_int (b := true) (by decide +kernel) ?_)
  | (with_reducible refine r_isi_str (b := true) (by decide +kernel) ?_)
  | ((with_reducible apply r_isi_tup (b := true)); (assumption); (exact (by decide +kernel)))
  | ((with_reducible apply r_isi_lst (b := true)); (assumption); (exact (by decide +kernel)))
  | (with_reducible refine r_isi_non (b := false) (by decide +kernel) ?_)
  | (with_reducible refine r_isi_int (b := false) (by decide +kernel) ?_)
  | (with_reducible refine r_isi_str (b := false) (by decide +kernel) ?_)
  | ((with_reducible apply r_isi_tup (b := false)); (assumption); (exact (by decide +kernel)))
  | ((with_reducible apply r_isi_lst (b := false)); (assumption); (exact (by decide +kernel)))
  | (with_reducible refine r_l0 (by assumption) ?_)
  | (with_reducible refine r_l2 (by assumption) ?_)
  | (with_reducible refine r_lenN (by assumption) ?_)
  | (with_reducible refine r_lenC (by assumption) ?_)
  | ((with_reducible apply r_ixT'); (assumption); (first | exact rfl | exact atI_0 | exact atI_1 | exact atI_2))
  | ((with_reducible apply r_ixL'); (assumption); (exact rfl))
  | ((with_reducible apply i_f); exact rfl)
  | ((with_reducible apply i_t); exact rfl)
  | ((with_reducible apply r_I); first | exact Or.inr ⟨by decide, by decide⟩ | exact (by decide) | assumption | exact ⟨by omega, by omega⟩ | exact (by omega) | exact ⟨by decide, by decide, by decide⟩))
local macro_rules | `(tactic| walk_at "w") => `(tactic| repeat (walk_at "w1"))

def E7 : List Str := ["BadAction", "BadName", "BadNumber", "BadStatement", "TooLarge", "UnknownCell", "UnknownStep"]
/-- the exception p is a w that says v -/
def XcP (K : PySem.W.Frag) (p : Addr × Obj) (H : Hp) (w : Str) (v : V) : Prop := ∃ d, IsX K (He.ga K w) d p ∧ H d = some (.xd [(fld w, v)])
def spSingle (K : PySem.W.Frag) : Addr × Obj → Sp := fun p vs H Q _ => ∃ (w : Str) (v : V), vs = [.ref p.1] ∧ w ∈ E7 ∧ XcP K p H w v ∧ Q (.bl true) H
def spReason (K : PySem.W.Frag) : Addr × Obj → Sp := fun p vs H Q _ => ∃ (w : Str) (v : V), vs = [.ref p.1] ∧ w ∈ E7 ∧ XcP K p H w v ∧ ∀ (q : Addr) H', Gr [] H H' → H' q = some (.tup [.str w, v]) → Q (.ref q) H'
theorem sc__law_single : FnScope ["_law_e", "_law_many_here"] ["_law_e"] (defScope s__law_single) := ⟨rfl, rfl, rfl, by decide +kernel, rfl, by decide +kernel, by decide +kernel⟩
theorem sc__law_reason : FnScope ["_law_e"] ["_law_e"] (defScope s__law_reason) := ⟨rfl, rfl, rfl, by decide +kernel, rfl, by decide +kernel, by decide +kernel⟩
theorem e7_cases {w : Str} {P : Str → Prop} (h : w ∈ E7) (h0 : P "BadAction") (h1 : P "BadName") (h2 : P "BadNumber") (h3 : P "BadStatement") (h4 : P "TooLarge") (h5 : P "UnknownCell") (h6 : P "UnknownStep") : P w := by
  unfold E7 at h
  simp only [List.mem_cons, List.not_mem_nil, or_false] at h
  rcases h with rfl | rfl | rfl | rfl | rfl | rfl | rfl
  · exact h0
  · exact h1
  · exact h2
  · exact h3
  · exact h4
  · exact h5
  · exact h6
section
variable {G : Ctx}
theorem k__law_single (T : Txt G) : CalE G 1 (He.ga G.K "_law_single") (spSingle G.K) := by
  obtain ⟨fd, F⟩ := T.f__law_single
  refine calE_of F sc__law_single (fun _ _ _ _ _ _ us hl => match us, hl with | [_], _ => rfl) (fun p vs H Q E h => ?_) (fun cdv A outer s H vs Q E p hr h => ?_)
  · obtain ⟨w, v, rfl, _⟩ := h
    rfl
  have hp : p ∈ (cxE G ["_law_e", "_law_many_here"] "_law_single" (defScope s__law_single) (He.ga G.K "_law_single") cdv A outer s H E p).pn := List.mem_cons_self
  refine ⟨_, ((pss_cons (ps_set (i := 1) sc__law_single.nd rfl (Or.inl rfl) (pe_op op_add (pe_op op_add (pe_callTy call_int1n rfl T.v_int (by decide +kernel) (pa_cons (pe_callB (call_isP hp) rfl T.v_isinstance (by decide +kernel) (pa_cons (pv 0) (pa_cons (pe_gR rfl T.g_BadAction) pa_nil))) pa_nil)) (pe_callTy call_int1n rfl T.v_int (by decide +kernel) (pa_cons (pe_callB (call_isP hp) rfl T.v_isinstance (by decide +kernel) (pa_cons (pv 0) (pa_cons (pe_gR rfl T.g_BadKind) pa_nil))) pa_nil))) (pe_callTy call_int1n rfl T.v_int (by decide +kernel) (pa_cons (pe_callB (call_isP hp) rfl T.v_isinstance (by decide +kernel) (pa_cons (pv 0) (pa_cons (pe_gR rfl T.g_BadName) pa_nil))) pa_nil))))
    (pss_cons (ps_set (i := 1) sc__law_single.nd rfl (Or.inl rfl) (pe_op op_add (pe_op op_add (pv 1) (pe_callTy call_int1n rfl T.v_int (by decide +kernel) (pa_cons (pe_callB (call_isP hp) rfl T.v_isinstance (by decide +kernel) (pa_cons (pv 0) (pa_cons (pe_gR rfl T.g_BadNumber) pa_nil))) pa_nil))) (pe_callTy call_int1n rfl T.v_int (by decide +kernel) (pa_cons (pe_callB (call_isP hp) rfl T.v_isinstance (by decide +kernel) (pa_cons (pv 0) (pa_cons (pe_gR rfl T.g_BadStatement) pa_nil))) pa_nil))))
    (pss_cons (ps_set (i := 1) sc__law_single.nd rfl (Or.inl rfl) (pe_op op_add (pe_op op_add (pv 1) (pe_callTy call_int1n rfl T.v_int (by decide +kernel) (pa_cons (pe_callB (call_isP hp) rfl T.v_isinstance (by decide +kernel) (pa_cons (pv 0) (pa_cons (pe_gR rfl T.g_TooLarge) pa_nil))) pa_nil))) (pe_callTy call_int1n rfl T.v_int (by decide +kernel) (pa_cons (pe_callB (call_isP hp) rfl T.v_isinstance (by decide +kernel) (pa_cons (pv 0) (pa_cons (pe_gR rfl T.g_UnknownCell) pa_nil))) pa_nil))))
    (pss_cons (ps_set (i := 1) sc__law_single.nd rfl (Or.inl rfl) (pe_op op_add (pv 1) (pe_callTy call_int1n rfl T.v_int (by decide +kernel) (pa_cons (pe_callB (call_isP hp) rfl T.v_isinstance (by decide +kernel) (pa_cons (pv 0) (pa_cons (pe_gR rfl T.g_UnknownStep) pa_nil))) pa_nil))))
    (pss_one (ps_ret (pe_and (pe_cmpR op_eq (pv 1) pe_int (nomark _)) (pe_and (pe_callB (call_isP hp) rfl T.v_isinstance (by decide +kernel) (pa_cons (pv 0) (pa_cons (pe_gR rfl T.g_DeedError) pa_nil))) (pe_one (pe_callB (call_isP hp) rfl T.v_isinstance (by decide +kernel) (pa_cons (pv 0) (pa_cons (pe_bltn (v := .ty "ValueError") rfl T.v_ValueError (by decide +kernel) rfl) pa_nil))))))))))))), ?_⟩
  obtain ⟨w, v, rfl, hw, hx, k⟩ := h
  revert hx
  refine e7_cases (P := fun w => XcP G.K p H w v → _) hw ?_ ?_ ?_ ?_ ?_ ?_ ?_
  · rintro ⟨d, hx, hd⟩
    have hq := T.q_BadAction
    have z0 := T.z_BadAction_BadAction
    have z1 := T.z_BadAction_BadKind
    have z2 := T.z_BadAction_BadName
    have z3 := T.z_BadAction_BadNumber
    have z4 := T.z_BadAction_BadStatement
    have z5 := T.z_BadAction_TooLarge
    have z6 := T.z_BadAction_UnknownCell
    have z7 := T.z_BadAction_UnknownStep
    have z8 := T.z_BadAction_DeedError
    have z9 := T.z_BadAction_ValueError
    walk_at "w"
    exact k
  · rintro ⟨d, hx, hd⟩
    have hq := T.q_BadName
    have z0 := T.z_BadName_BadAction
    have z1 := T.z_BadName_BadKind
    have z2 := T.z_BadName_BadName
    have z3 := T.z_BadName_BadNumber
    have z4 := T.z_BadName_BadStatement
    have z5 := T.z_BadName_TooLarge
    have z6 := T.z_BadName_UnknownCell
    have z7 := T.z_BadName_UnknownStep
    have z8 := T.z_BadName_DeedError
    have z9 := T.z_BadName_ValueError
    walk_at "w"
    exact k
  · rintro ⟨d, hx, hd⟩
    have hq := T.q_BadNumber
    have z0 := T.z_BadNumber_BadAction
    have z1 := T.z_BadNumber_BadKind
    have z2 := T.z_BadNumber_BadName
    have z3 := T.z_BadNumber_BadNumber
    have z4 := T.z_BadNumber_BadStatement
    have z5 := T.z_BadNumber_TooLarge
    have z6 := T.z_BadNumber_UnknownCell
    have z7 := T.z_BadNumber_UnknownStep
    have z8 := T.z_BadNumber_DeedError
    have z9 := T.z_BadNumber_ValueError
    walk_at "w"
    exact k
  · rintro ⟨d, hx, hd⟩
    have hq := T.q_BadStatement
    have z0 := T.z_BadStatement_BadAction
    have z1 := T.z_BadStatement_BadKind
    have z2 := T.z_BadStatement_BadName
    have z3 := T.z_BadStatement_BadNumber
    have z4 := T.z_BadStatement_BadStatement
    have z5 := T.z_BadStatement_TooLarge
    have z6 := T.z_BadStatement_UnknownCell
    have z7 := T.z_BadStatement_UnknownStep
    have z8 := T.z_BadStatement_DeedError
    have z9 := T.z_BadStatement_ValueError
    walk_at "w"
    exact k
  · rintro ⟨d, hx, hd⟩
    have hq := T.q_TooLarge
    have z0 := T.z_TooLarge_BadAction
    have z1 := T.z_TooLarge_BadKind
    have z2 := T.z_TooLarge_BadName
    have z3 := T.z_TooLarge_BadNumber
    have z4 := T.z_TooLarge_BadStatement
    have z5 := T.z_TooLarge_TooLarge
    have z6 := T.z_TooLarge_UnknownCell
    have z7 := T.z_TooLarge_UnknownStep
    have z8 := T.z_TooLarge_DeedError
    have z9 := T.z_TooLarge_ValueError
    walk_at "w"
    exact k
  · rintro ⟨d, hx, hd⟩
    have hq := T.q_UnknownCell
    have z0 := T.z_UnknownCell_BadAction
    have z1 := T.z_UnknownCell_BadKind
    have z2 := T.z_UnknownCell_BadName
    have z3 := T.z_UnknownCell_BadNumber
    have z4 := T.z_UnknownCell_BadStatement
    have z5 := T.z_UnknownCell_TooLarge
    have z6 := T.z_UnknownCell_UnknownCell
    have z7 := T.z_UnknownCell_UnknownStep
    have z8 := T.z_UnknownCell_DeedError
    have z9 := T.z_UnknownCell_ValueError
    walk_at "w"
    exact k
  · rintro ⟨d, hx, hd⟩
    have hq := T.q_UnknownStep
    have z0 := T.z_UnknownStep_BadAction
    have z1 := T.z_UnknownStep_BadKind
    have z2 := T.z_UnknownStep_BadName
    have z3 := T.z_UnknownStep_BadNumber
    have z4 := T.z_UnknownStep_BadStatement
    have z5 := T.z_UnknownStep_TooLarge
    have z6 := T.z_UnknownStep_UnknownCell
    have z7 := T.z_UnknownStep_UnknownStep
    have z8 := T.z_UnknownStep_DeedError
    have z9 := T.z_UnknownStep_ValueError
    walk_at "w"
    exact k
theorem k__law_reason (T : Txt G) (c__law_single : CalE G 1 (He.ga G.K "_law_single") (spSingle G.K)) : CalE G 2 (He.ga G.K "_law_reason") (spReason G.K) := by
  obtain ⟨fd, F⟩ := T.f__law_reason
  refine calE_of F sc__law_reason (fun _ _ _ _ _ _ us hl => match us, hl with | [_], _ => rfl) (fun p vs H Q E h => ?_) (fun cdv A outer s H vs Q E p hr h => ?_)
  · obtain ⟨w, v, rfl, _⟩ := h
    rfl
  have hp : p ∈ (cxE G ["_law_e"] "_law_reason" (defScope s__law_reason) (He.ga G.K "_law_reason") cdv A outer s H E p).pn := List.mem_cons_self
  refine ⟨_, ((pss_cons (ps_if (pt_not (pt_val (pe_calE c__law_single T.g__law_single hr (by omega) hp rfl (pa_cons (pv 0) pa_nil)))) (pss_one (ps_ret (pe_tup pa_nil))) pss_nil)
    (pss_cons (ps_if (pt_val (pe_callB (call_isP hp) rfl T.v_isinstance (by decide +kernel) (pa_cons (pv 0) (pa_cons (pe_gR rfl T.g_BadAction) pa_nil)))) (pss_one (ps_ret (pe_tup (pa_cons pe_str (pa_cons (pe_xp T.q_BadAction T.j_BadAction.no hp (pv 0)) pa_nil))))) pss_nil)
    (pss_cons (ps_if (pt_val (pe_callB (call_isP hp) rfl T.v_isinstance (by decide +kernel) (pa_cons (pv 0) (pa_cons (pe_gR rfl T.g_BadName) pa_nil)))) (pss_one (ps_ret (pe_tup (pa_cons pe_str (pa_cons (pe_xp T.q_BadName T.j_BadName.no hp (pv 0)) pa_nil))))) pss_nil)
    (pss_cons (ps_if (pt_val (pe_callB (call_isP hp) rfl T.v_isinstance (by decide +kernel) (pa_cons (pv 0) (pa_cons (pe_gR rfl T.g_BadNumber) pa_nil)))) (pss_one (ps_ret (pe_tup (pa_cons pe_str (pa_cons (pe_xp T.q_BadNumber T.j_BadNumber.no hp (pv 0)) pa_nil))))) pss_nil)
    (pss_cons (ps_if (pt_val (pe_callB (call_isP hp) rfl T.v_isinstance (by decide +kernel) (pa_cons (pv 0) (pa_cons (pe_gR rfl T.g_BadStatement) pa_nil)))) (pss_one (ps_ret (pe_tup (pa_cons pe_str (pa_cons (pe_xp T.q_BadStatement T.j_BadStatement.no hp (pv 0)) pa_nil))))) pss_nil)
    (pss_cons (ps_if (pt_val (pe_callB (call_isP hp) rfl T.v_isinstance (by decide +kernel) (pa_cons (pv 0) (pa_cons (pe_gR rfl T.g_TooLarge) pa_nil)))) (pss_one (ps_ret (pe_tup (pa_cons pe_str (pa_cons (pe_xp T.q_TooLarge T.j_TooLarge.no hp (pv 0)) pa_nil))))) pss_nil)
    (pss_cons (ps_if (pt_val (pe_callB (call_isP hp) rfl T.v_isinstance (by decide +kernel) (pa_cons (pv 0) (pa_cons (pe_gR rfl T.g_UnknownCell) pa_nil)))) (pss_one (ps_ret (pe_tup (pa_cons pe_str (pa_cons (pe_xp T.q_UnknownCell T.j_UnknownCell.no hp (pv 0)) pa_nil))))) pss_nil)
    (pss_cons (ps_if (pt_val (pe_callB (call_isP hp) rfl T.v_isinstance (by decide +kernel) (pa_cons (pv 0) (pa_cons (pe_gR rfl T.g_UnknownStep) pa_nil)))) (pss_one (ps_ret (pe_tup (pa_cons pe_str (pa_cons (pe_xp T.q_UnknownStep T.j_UnknownStep.no hp (pv 0)) pa_nil))))) pss_nil)
    (pss_one (ps_ret (pe_tup pa_nil)))))))))))), ?_⟩
  obtain ⟨w, v, rfl, hw, hx, k⟩ := h
  revert hx k
  refine e7_cases (P := fun w => XcP G.K p H w v → (∀ (q : Addr) H', Gr [] H H' → H' q = some (.tup [.str w, v]) → Q (.ref q) H') → _) hw ?_ ?_ ?_ ?_ ?_ ?_ ?_
  · rintro ⟨d, hx, hd⟩ k
    have hq := T.q_BadAction
    have z0 := T.z_BadAction_BadAction
    have z1 := T.z_BadAction_BadKind
    have z2 := T.z_BadAction_BadName
    have z3 := T.z_BadAction_BadNumber
    have z4 := T.z_BadAction_BadStatement
    have z5 := T.z_BadAction_TooLarge
    have z6 := T.z_BadAction_UnknownCell
    have z7 := T.z_BadAction_UnknownStep
    walk_at "w"
    refine ⟨"BadAction", v, rfl, by decide, ⟨d, hx, hd⟩, ?_⟩
    walk_at "w"
    refine ⟨rfl, d, _, v, hx, hd, rfl, ?_⟩
    walk_at "w"
    exact k_tup (by show 2 ≤ sizeLine; decide) fun q H1 g1 e1 => k q H1 g1 e1
  · rintro ⟨d, hx, hd⟩ k
    have hq := T.q_BadName
    have z0 := T.z_BadName_BadAction
    have z1 := T.z_BadName_BadKind
    have z2 := T.z_BadName_BadName
    have z3 := T.z_BadName_BadNumber
    have z4 := T.z_BadName_BadStatement
    have z5 := T.z_BadName_TooLarge
    have z6 := T.z_BadName_UnknownCell
    have z7 := T.z_BadName_UnknownStep
    walk_at "w"
    refine ⟨"BadName", v, rfl, by decide, ⟨d, hx, hd⟩, ?_⟩
    walk_at "w"
    refine ⟨rfl, d, _, v, hx, hd, rfl, ?_⟩
    walk_at "w"
    exact k_tup (by show 2 ≤ sizeLine; decide) fun q H1 g1 e1 => k q H1 g1 e1
  · rintro ⟨d, hx, hd⟩ k
    have hq := T.q_BadNumber
    have z0 := T.z_BadNumber_BadAction
    have z1 := T.z_BadNumber_BadKind
    have z2 := T.z_BadNumber_BadName
    have z3 := T.z_BadNumber_BadNumber
    have z4 := T.z_BadNumber_BadStatement
    have z5 := T.z_BadNumber_TooLarge
    have z6 := T.z_BadNumber_UnknownCell
    have z7 := T.z_BadNumber_UnknownStep
    walk_at "w"
    refine ⟨"BadNumber", v, rfl, by decide, ⟨d, hx, hd⟩, ?_⟩
    walk_at "w"
    refine ⟨rfl, d, _, v, hx, hd, rfl, ?_⟩
    walk_at "w"
    exact k_tup (by show 2 ≤ sizeLine; decide) fun q H1 g1 e1 => k q H1 g1 e1
  · rintro ⟨d, hx, hd⟩ k
    have hq := T.q_BadStatement
    have z0 := T.z_BadStatement_BadAction
    have z1 := T.z_BadStatement_BadKind
    have z2 := T.z_BadStatement_BadName
    have z3 := T.z_BadStatement_BadNumber
    have z4 := T.z_BadStatement_BadStatement
    have z5 := T.z_BadStatement_TooLarge
    have z6 := T.z_BadStatement_UnknownCell
    have z7 := T.z_BadStatement_UnknownStep
    walk_at "w"
    refine ⟨"BadStatement", v, rfl, by decide, ⟨d, hx, hd⟩, ?_⟩
    walk_at "w"
    refine ⟨rfl, d, _, v, hx, hd, rfl, ?_⟩
    walk_at "w"
    exact k_tup (by show 2 ≤ sizeLine; decide) fun q H1 g1 e1 => k q H1 g1 e1
  · rintro ⟨d, hx, hd⟩ k
    have hq := T.q_TooLarge
    have z0 := T.z_TooLarge_BadAction
    have z1 := T.z_TooLarge_BadKind
    have z2 := T.z_TooLarge_BadName
    have z3 := T.z_TooLarge_BadNumber
    have z4 := T.z_TooLarge_BadStatement
    have z5 := T.z_TooLarge_TooLarge
    have z6 := T.z_TooLarge_UnknownCell
    have z7 := T.z_TooLarge_UnknownStep
    walk_at "w"
    refine ⟨"TooLarge", v, rfl, by decide, ⟨d, hx, hd⟩, ?_⟩
    walk_at "w"
    refine ⟨rfl, d, _, v, hx, hd, rfl, ?_⟩
    walk_at "w"
    exact k_tup (by show 2 ≤ sizeLine; decide) fun q H1 g1 e1 => k q H1 g1 e1
  · rintro ⟨d, hx, hd⟩ k
    have hq := T.q_UnknownCell
    have z0 := T.z_UnknownCell_BadAction
    have z1 := T.z_UnknownCell_BadKind
    have z2 := T.z_UnknownCell_BadName
    have z3 := T.z_UnknownCell_BadNumber
    have z4 := T.z_UnknownCell_BadStatement
    have z5 := T.z_UnknownCell_TooLarge
    have z6 := T.z_UnknownCell_UnknownCell
    have z7 := T.z_UnknownCell_UnknownStep
    walk_at "w"
    refine ⟨"UnknownCell", v, rfl, by decide, ⟨d, hx, hd⟩, ?_⟩
    walk_at "w"
    refine ⟨rfl, d, _, v, hx, hd, rfl, ?_⟩
    walk_at "w"
    exact k_tup (by show 2 ≤ sizeLine; decide) fun q H1 g1 e1 => k q H1 g1 e1
  · rintro ⟨d, hx, hd⟩ k
    have hq := T.q_UnknownStep
    have z0 := T.z_UnknownStep_BadAction
    have z1 := T.z_UnknownStep_BadKind
    have z2 := T.z_UnknownStep_BadName
    have z3 := T.z_UnknownStep_BadNumber
    have z4 := T.z_UnknownStep_BadStatement
    have z5 := T.z_UnknownStep_TooLarge
    have z6 := T.z_UnknownStep_UnknownCell
    have z7 := T.z_UnknownStep_UnknownStep
    walk_at "w"
    refine ⟨"UnknownStep", v, rfl, by decide, ⟨d, hx, hd⟩, ?_⟩
    walk_at "w"
    refine ⟨rfl, d, _, v, hx, hd, rfl, ?_⟩
    walk_at "w"
    exact k_tup (by show 2 ≤ sizeLine; decide) fun q H1 g1 e1 => k q H1 g1 e1
end
end Xd

/-! text F3 -/
/-! the law asks for a body -/
namespace Xd
open PySem PySem.Spec PyProof.Rows L2
/-- C(e, ..) in a try: what comes out is told with the slots -/
def tNewS (C : Addr) (sp : Sp) (E : St → XK) (t : TA) : TE := fun σ H Q => t σ H fun vs H1 => kMake C sp [] (E σ) vs H1 Q
theorem r_newS {C : Addr} {sp : Sp} {E : St → XK} {t : TA} {σ : St} {H : Hp} {Q : VK} (h : t σ H fun vs H1 => kMake C sp [] (E σ) vs H1 Q) : tNewS C sp E t σ H Q := h
theorem pe_newS {X : Cx} {C f : Addr} {k j : Nat} {sp : Sp} {W : WX} {x : Str} {p pos : Pos} {e : Expr} {es : List Expr} {t : TA} (M : Mk X.K C f) (c : Cal (cxo X) k f sp []) (hm : X.mg x = some (.ref C)) (hr : Room j X.A) (hk : k + 1 ≤ j) (tk : Takes X W) (hg : Gl X x) (ha : PA X (e :: es) t)
    (hdb : (x == ("__debug__" : Str)) = false := by decide) (he : starEach (e :: es) X.env = (false, eval e X.env) :: starEach es X.env := by rfl) (hpl : (backTo pos (starEach es X.env)).any (·.1) = false := by rfl) :
    PE X (.Call (.Name x p) (e :: es) [] pos) (tNewS C sp (fun σ => WE W σ) t) := by
  obtain ⟨fd, ps, ds, F, kp, hb, hd⟩ := c.ex
  cases hd
  refine ⟨fun pins s σ H Q I want => wpAny_Call_Name_kw (ld_glob I hg hm ?_ hdb)⟩
  have args := ha.run pos pins s σ H _ I want
  refine PySem.W.callWith_K (h₀ := X.base) I.ok.mod.kin M.kp (thn args fun us s1 got => ?_) he hpl
  obtain ⟨vs, H1, I1, r, q⟩ := got
  refine ⟨I1.kIn, ?_⟩
  have n0 := I1.hok.fresh (Nat.le_succ s1.heap.objs.size)
  have n1 := I1.hok.fresh (Nat.le_refl s1.heap.objs.size)
  have want1 := q (s1.heap.objs.size + 1) s1.heap.objs.size n0 n1 (Nat.ne_of_lt (Nat.lt_succ_self _))
  rw [List.append_nil] at want1
  have I2 := Inv.made (C := C) I1
  have own : RelV (V.ref (s1.heap.objs.size + 1)) (Value.ref (s1.heap.objs.size + 1)) := rfl
  have r2 : Vals (V.ref (s1.heap.objs.size + 1) :: vs) (Value.ref (s1.heap.objs.size + 1) :: us) := .cons own r
  have many : (Value.ref (s1.heap.objs.size + 1) :: us ++ []).length = ps.length := by
    rw [List.append_nil, ← r2.length]
    exact F.len _ _ _ _ want1
  have bound := hb _ (Value.ref (s1.heap.objs.size + 1) :: us) I2.kIn many
  rw [List.append_nil] at bound
  have room := (hr.mono hk).make C us []
  have body := F.run _ X.stack _ _ ⟨Value.ref (s1.heap.objs.size + 1) :: us, []⟩ _ _ _ (WE W σ) room (I2.env0.make C us []) bound r2 want1
  refine wpAny_call (make_map (f := f) I1.kIn M.makes M.init (beq_iff_eq.mp M.fn) (codeAny_mono body fun out s2 told => ?_))
  cases out with
  | error err => exact passAt tk σ pins _ _ err s2 I2 told
  | ok fl =>
    cases fl with
    | ret u =>
      obtain ⟨v, H2, I3, rv, ev, q3⟩ := I2.after told
      subst ev
      exact ⟨rv, V.ref (s1.heap.objs.size + 1), H2, I3, rfl, q3⟩
    | next => exact told.elim
    | brk => exact told.elim
    | cont => exact told.elim
/-- what the suite asks -/
def spReasonA (K : PySem.W.Frag) (a : Addr) (cls : Value) (d : Option Addr) : Sp := fun vs H Q _ => ∃ (w : Str) (v : V) (dd : Addr), vs = [.ref a] ∧ w ∈ E7 ∧ cls = .ref (He.ga K w) ∧ d = some dd ∧ H dd = some (.xd [(fld w, v)]) ∧ ∀ (q : Addr) H', Gr [] H H' → H' q = some (.tup [.str w, v]) → Q (.ref q) H'
def tReasonA (K : PySem.W.Frag) (i : Nat) (a : Addr) (cls : Value) (d : Option Addr) : TE := fun σ H Q => ∃ v, σ[i]? = some (some v) ∧ spReasonA K a cls d [v] H Q E0
theorem pe_reason {X : Cx} {K : PySem.W.Frag} (hK : X.K = K) {k j i : Nat} {f : Addr} {x : Str} {q pos : Pos} {e : Expr} {a : Addr} {oe : Obj} {cls : Value} {d : Option Addr} (c : CalE (cxo X) k f (spReason X.K)) (hm : X.mg x = some (.ref f)) (hr : L2H.RoomH j X.A) (hk : k ≤ j) (hp : (a, oe) ∈ X.pn) (hg : Gl X x) (ha : PE X e (tVar i))
    (hz : Zc cls d oe) (hf : ∃ vs, oe.data = .fields vs) (hdb : (x == ("__debug__" : Str)) = false := by decide) (he : starEach [e] X.env = (false, eval e X.env) :: starEach [] X.env := by rfl) (hpl : (backTo pos (starEach [] X.env)).any (·.1) = false := by rfl) :
    PE X (.Call (.Name x q) [e] [] pos) (tReasonA K i a cls d) := by
  subst hK
  have go := pe_calE (pos := pos) (q := q) c hm hr hk hp hg (pa_cons ha pa_nil he) hdb he hpl
  refine ⟨fun pins s σ H Q I h => go.run pins s σ H Q I ?_⟩
  obtain ⟨v, hv, w, u, dd, e1, hw, rfl, rfl, hd, kk⟩ := h
  exact ⟨v, hv, w, u, e1, hw, ⟨dd, ⟨hz, hf⟩, hd⟩, kk⟩
local macro_rules | `(tactic| walk_at "w1") => `(tactic| first
  | with_reducible apply r_seq
  | with_reducible apply r_asg
  | with_reducible apply r_gname
  | ((with_reducible apply r_var); exact rfl)
  | with_reducible apply r_c
  | with_reducible apply r_op
  | with_reducible apply r_I0
  | ((with_reducible apply r_eq); exact rfl)
  | ((with_reducible apply r_ne); exact rfl)
  | with_reducible apply r_if
  | with_reducible apply r_test
  | with_reducible apply r_tB
  | with_reducible apply r_bl
  | with_reducible apply r_and
  | with_reducible apply r_or
  | with_reducible apply r_not
  | with_reducible apply r_ret
  | with_reducible apply r_drop
  | with_reducible apply r_cons
  | with_reducible apply r_nil
  | with_reducible apply r_cal
  | with_reducible apply r_cb
  | with_reducible apply r_tup
  | with_reducible apply r_lst
  | with_reducible apply r_next
  | with_reducible apply r_retN
  | with_reducible apply r_un
  | with_reducible apply r_U
  | with_reducible apply r_andV
  | with_reducible apply r_orV
  | with_reducible apply r_notV
  | with_reducible apply r_ifx
  | with_reducible apply r_forT
  | with_reducible apply r_forL
  | with_reducible apply r_forR
  | with_reducible apply r_sl
  | with_reducible apply r_nop
  | with_reducible apply r_part
  | with_reducible apply r_kPart
  | with_reducible apply r_gsub
  | with_reducible apply r_int1
  | with_reducible apply r_isN
  | with_reducible apply r_notN
  | with_reducible apply r_ltStr
  | with_reducible apply r_inS
  | with_reducible apply r_niS
  | with_reducible apply r_bm
  | with_reducible apply r_forS
  | with_reducible apply r_lcL
  | with_reducible apply r_lcT
  | with_reducible apply r_m0
  | with_reducible apply r_fld
  | with_reducible apply r_sfld
  | with_reducible apply r_cval
  | with_reducible apply r_make
  | with_reducible apply r_prop
  | with_reducible apply r_meth
  | with_reducible apply r_chain
  | with_reducible apply r_rz
  | with_reducible apply r_veI
  | with_reducible apply r_ost
  | with_reducible apply r_bm0
  | with_reducible apply r_din
  | with_reducible apply r_dnin
  | with_reducible apply r_dget
  | ((with_reducible apply r_gtup); (assumption); (exact rfl))
  | with_reducible apply r_gcons
  | with_reducible apply r_gnil
  | (with_reducible refine r_lo0 (by assumption) ?_)
  | (with_reducible refine r_lo2 (by assumption) ?_)
  | (with_reducible refine r_isi_non (b := true) (by decide +kernel) ?_)
  | (with_reducible refine r_isi_int (b := true) (by decide +kernel) ?_)
  | (with_reducible refine r_isi_str (b := true) (by decide +kernel) ?_)
  | ((with_reducible apply r_isi_tup (b := true)); (assumption); (exact (by decide +kernel)))
  | ((with_reducible apply r_isi_lst (b := true)); (assumption); (exact (by decide +kernel)))
  | (with_reducible refine r_isi_non (b := false) (by decide +kernel) ?_)
  | (with_reducible refine r_isi_int (b := false) (by decide +kernel) ?_)
  | (with_reducible refine r_isi_str (b := false) (by decide +kernel) ?_)
  | ((with_reducible apply r_isi_tup (b := false)); (assumption); (exact (by decide +kernel)))
  | ((with_reducible apply r_isi_lst (b := false)); (assumption); (exact (by decide +kernel)))
  | (with_reducible refine r_l0 (by assumption) ?_)
  | (with_reducible refine r_l2 (by assumption) ?_)
  | (with_reducible refine r_lenN (by assumption) ?_)
  | (with_reducible refine r_lenC (by assumption) ?_)
  | ((with_reducible apply r_ixT'); (assumption); (first | exact rfl | exact atI_0 | exact atI_1 | exact atI_2))
  | ((with_reducible apply r_ixL'); (assumption); (exact rfl))
  | ((with_reducible apply i_f); exact rfl)
  | ((with_reducible apply i_t); exact rfl)
  | ((with_reducible apply r_I); first | exact Or.inr ⟨by decide, by decide⟩ | exact (by decide) | assumption | exact ⟨by omega, by omega⟩ | exact (by omega) | exact ⟨by decide, by decide, by decide⟩))
local macro_rules | `(tactic| walk_at "w") => `(tactic| repeat (walk_at "w1"))

/-! the words of the faults -/
def FW (r : Option Flt) : Prop := ∀ w d, r = some (w, d) → w ∈ E7
theorem FW.none : FW none := fun _ _ e => by cases e
theorem FW.ft {x : Str} {d : D} (h : x ∈ E7) : FW (ft x d) := fun w d' e => by
  rw [← (Prod.mk.inj (Option.some.inj e)).1]
  exact h
theorem fw_rd {er : Str} {ok C : List Str} {v s : D} (h : er ∈ E7) : FW (rdF er ok C v s) := by
  unfold rdF
  split
  · split
    · exact FW.none
    · exact FW.ft (by decide)
  · split
    · split
      · exact FW.none
      · exact FW.ft (by decide)
    · exact FW.ft h
  · exact FW.none
theorem fw_find {l : List D} {f : D → Option Flt} (h : ∀ x ∈ l, FW (f x)) : FW (l.findSome? f) := fun w d e => by
  obtain ⟨x, hx, e2⟩ := List.exists_of_findSome?_eq_some e
  exact h x hx w d e2
theorem fw_findL {l : List (List D)} {f : List D → Option Flt} (h : ∀ x ∈ l, FW (f x)) : FW (l.findSome? f) := fun w d e => by
  obtain ⟨x, hx, e2⟩ := List.exists_of_findSome?_eq_some e
  exact h x hx w d e2
theorem fw_a {N C : List Str} : ∀ (n : Nat) (dp : Int) (d : D), KA n d → FW (aF N C n dp d)
  | 0, _, _, h => h.elim
  | n + 1, dp, _, ⟨g, s, a, f, rfl, ha, hl, hf⟩ => by
    by_cases hg : g ∈ (["done", "error", "always"] : List Str)
    · by_cases hs : s ∈ N
      · cases hr : rdF "BadAction" ["now", "late"] C a (.tup [.str g, .str s, a, .tup f]) with
        | some e =>
          rw [aF_r hg hs hr, ← hr]
          exact fw_rd (by decide)
        | none =>
          by_cases hc : 3 < f.length ∨ (f ≠ [] ∧ (g = "error" ∨ dp = 2))
          · rw [aF_f hg hs hr hc]
            exact FW.ft (by decide)
          · rw [aF_l hg hs hr hc]
            exact fw_find fun x hx => fw_a n (dp + 1) x (hf x hx)
      · rw [aF_s hg hs]
        exact FW.ft (by decide)
    · rw [aF_g hg]
      exact FW.ft (by decide)
theorem fw_c {x : Str} {i : Int} : ∀ C : List (Str × Int), FW (cellF C x i)
  | [] => FW.ft (by decide)
  | c :: r => by
    unfold cellF
    split
    · split
      · exact FW.none
      · exact FW.ft (by decide)
    · exact fw_c r
theorem fw_n {x : Str} : FW (nmF x) := by
  unfold nmF
  split
  · exact FW.none
  · exact FW.ft (by decide)
theorem fw_p {N : List Str} {C : List (Str × Int)} {P : List D → Prop} {w : Str} {r : List D} (p : Prt P w r) : FW (pF N C w r) := by
  cases p with
  | do_ x v a =>
    rw [pF_do]
    split
    · exact fw_rd (by decide)
    · exact FW.ft (by decide)
  | put a k =>
    rw [pF_put]
    exact fw_a 7 0 a k
  | set x i =>
    rw [pF_set]
    exact fw_c C
  | when_ x i l m a b =>
    rw [pF_when]
    exact fw_c C
  | ret v a n =>
    rw [pF_ret]
    exact fw_rd (by decide)
  | _ =>
    rw [pF_nm (by decide) (by decide) (by decide) (by decide)]
    exact fw_n
theorem fw_b {N : List Str} {C : List (Str × Int)} : ∀ (b n : Nat) (l : List D), KB n l → FW (bF N C b l)
  | 0, n, l, h => by
    cases l with
    | nil => exact FW.none
    | cons a r => exact FW.ft (by decide)
  | b + 1, n, l, h => by
    rw [bF_g]
    refine fw_find fun s hs => ?_
    match n, h.2 s hs with
    | n + 1, ⟨w, r, e, h5, hd, hp⟩ =>
      subst e
      by_cases hl : lenOf w = some ((r.length : Int) + 1)
      · have p := hp hl
        cases hpf : pF N C w r with
        | some e =>
          rw [gF_part hl hpf, ← hpf]
          exact fw_p p
        | none =>
          rw [gF_blk hl hpf]
          exact fw_findL fun m hm => fw_b b n m (p.blks m hm)
      · rw [gF_bad fun _ => hl]
        exact FW.ft (by decide)
theorem fw_full {N : List Str} {C : List (Str × Int)} {n : Nat} {l : List D} (h : KB n l) : FW (fullF N C l) := by
  unfold fullF
  cases hb : bF N C 5 l with
  | some e =>
    show FW (some e)
    rw [← hb]
    exact fw_b 5 n l h
  | none =>
    dsimp only
    split
    · exact FW.ft (by decide)
    · split
      · exact FW.ft (by decide)
      · exact FW.none
def spOutcome (K : PySem.W.Frag) : Sp := fun vs H Q _ => ∃ (bk kd sd a : Addr) (kk : List (Key × V)) (us : List V) (l : List D) (n : Nat) (N : List Str) (C : List (Str × Int)), vs = [.ref bk, .ref a] ∧ Bk K H bk kd sd kk (szs C) ∧ COk C ∧ (∀ y, (valV kk (.inr y)).isSome = decide (y ∈ N)) ∧ (H a = some (.lst us) ∨ H a = some (.tup us)) ∧ Rps H us l ∧ KB n l ∧
  (fullF N C l = none → ∀ (q x : Addr) H', Gr [] H H' → H q = none → H' q = some (.lst [.ref x]) → Bo K H' x kk (szs C) l → Q (.ref q) H') ∧ ∀ w d, fullF N C l = some (w, d) → ∀ v H', Gr [] H H' → Rp H' v (.tup [.str w, d]) → Q v H'
theorem sc__law_outcome : FnScope ["_law_book_here", "_law_statements", "_law_e"] ["_law_book_here", "_law_statements"] (defScope s__law_outcome) := ⟨rfl, rfl, rfl, by decide +kernel, rfl, by decide +kernel, by decide +kernel⟩
section
variable {G : Ctx}
theorem x_deed (T : Txt G) {w : Str} (h : w ∈ E7) : PySem.W.exmOne G.K (.ref (He.ga G.K w)) (.ref (He.ga G.K "DeedError")) = some true :=
  e7_cases (P := fun w => PySem.W.exmOne G.K (.ref (He.ga G.K w)) (.ref (He.ga G.K "DeedError")) = some true) h T.x_BadAction T.x_BadName T.x_BadNumber T.x_BadStatement T.x_TooLarge T.x_UnknownCell T.x_UnknownStep
theorem k__law_outcome (T : Txt G) (c_Body : Cal G 21 (He.ma G.K (He.ga G.K "Body") "__init__") (spBodyInit G.K) []) (c__law_reason : CalE G 2 (He.ga G.K "_law_reason") (spReason G.K)) : Cal G 23 (He.ga G.K "_law_outcome") (spOutcome G.K) [] := by
  refine cal_of T.f__law_outcome sc__law_outcome (fun _ _ _ _ _ _ us hl => match us, hl with | [_, _], _ => rfl) (fun vs H Q E h => ?_) (fun cdv A outer s H vs Q E hr h => ⟨_, pss_one (ps_try_as (i := 2) rfl rfl sc__law_outcome.nd rfl rfl ⟨rfl, by decide, .inl T.g_DeedError⟩ (takes_of rfl rfl rfl rfl) (fun W pn xe tk _ => pss_one (ps_ret (pe_lst (pa_cons (pe_newS T.m_Body c_Body T.g_Body hr (by omega) tk rfl (pa_cons (pv 0) (pa_cons (pv 1) pa_nil))) pa_nil)))) (fun a oe cls d pn hz hf => pss_one (ps_ret (pe_reason (j := 22) (K := G.K) rfl c__law_reason T.g__law_reason ⟨hr.dp, hr.un⟩ (by omega) List.mem_cons_self rfl (pv 2) hz hf)))), ?_⟩)
  · obtain ⟨bk, kd, sd, a, kk, us, l, n, N, C, rfl, _⟩ := h
    rfl
  obtain ⟨bk, kd, sd, a, kk, us, l, n, N, C, rfl, B, ok, hN, ha, hz, hl, kok, ker⟩ := h
  walk_at "w"
  refine r_newS ?_
  walk_at "w"
  intro x dx hx hdx ne
  have g1 : Gr [] H (upd (upd H dx (.own x)) x (.ins (He.ga G.K "Body") dx [])) := ((Gr.refl (M := [])).own hdx).own hx
  have ex : upd (upd H dx (.own x)) x (.ins (He.ga G.K "Body") dx []) x = some (.ins (He.ga G.K "Body") dx []) := upd_same
  generalize upd (upd H dx (.own x)) x (.ins (He.ga G.K "Body") dx []) = H1 at g1 ex ⊢
  refine ⟨x, dx, bk, kd, sd, a, kk, us, l, n, N, C, rfl, ex, B.at0 g1, ok, hN, ha.imp g1.at0 g1.at0, Rps.mono g1.tu hz, hl, fun e0 H2 g2 bo => ⟨rfl, ?_⟩, fun w d e0 H2 dd v g2 hd hv => ?_⟩
  · have g02 := Gr.forget1 g1 hx g2
    walk_at "w"
    refine k_lst (by show 1 ≤ sizeLine; decide) fun q H3 hq g3 e3 => ?_
    obtain ⟨dy, bk', kd', sd', ts, us', h1, h2, h3, h4⟩ := bo
    exact kok e0 q x H3 (g02.trans g3) (none_gr g02 hq) e3 ⟨dy, bk', kd', sd', ts, us', g3.at0 h1, h2.at0 g3, g3.tu _ _ h3, Rps.mono g3.tu h4⟩
  · have g02 := Gr.forget1 g1 hx g2
    have hw := fw_full hl w d e0
    refine ⟨true, x_deed T hw, fun _ a' ha' => ?_, fun z => by cases z⟩
    walk_at "w"
    refine ⟨_, rfl, w, v, dd, rfl, hw, rfl, rfl, hd, fun q H3 g3 e3 => ?_⟩
    exact ker w d e0 (.ref q) H3 (g02.trans g3) (.tup e3 (.cons (.str _) (.cons (hv.mono g3.tu) .nil)))
end
end Xd

/-! text F4 -/
/-! the law's judgement of one body -/
namespace Xd
open PySem PySem.Spec PyProof.Rows L2
local macro_rules | `(tactic| walk_at "w1") => `(tactic| first
  | with_reducible apply r_seq
  | with_reducible apply r_asg
  | with_reducible apply r_gname
  | ((with_reducible apply r_var); exact rfl)
  | with_reducible apply r_c
  | with_reducible apply r_op
  | with_reducible apply r_I0
  | ((with_reducible apply r_eq); exact rfl)
  | ((with_reducible apply r_ne); exact rfl)
  | with_reducible apply r_if
  | with_reducible apply r_test
  | with_reducible apply r_tB
  | with_reducible apply r_bl
  | with_reducible apply r_and
  | with_reducible apply r_or
  | with_reducible apply r_not
  | with_reducible apply r_ret
  | with_reducible apply r_drop
  | with_reducible apply r_cons
  | with_reducible apply r_nil
  | with_reducible apply r_cal
  | with_reducible apply r_cb
  | with_reducible apply r_tup
  | with_reducible apply r_lst
  | with_reducible apply r_next
  | with_reducible apply r_retN
  | with_reducible apply r_un
  | with_reducible apply r_U
  | with_reducible apply r_andV
  | with_reducible apply r_orV
  | with_reducible apply r_notV
  | with_reducible apply r_ifx
  | with_reducible apply r_forT
  | with_reducible apply r_forL
  | with_reducible apply r_forR
  | with_reducible apply r_sl
  | with_reducible apply r_nop
  | with_reducible apply r_part
  | with_reducible apply r_kPart
  | with_reducible apply r_gsub
  | with_reducible apply r_int1
  | with_reducible apply r_isN
  | with_reducible apply r_notN
  | with_reducible apply r_ltStr
  | with_reducible apply r_inS
  | with_reducible apply r_niS
  | with_reducible apply r_bm
  | with_reducible apply r_forS
  | with_reducible apply r_lcL
  | with_reducible apply r_lcT
  | with_reducible apply r_m0
  | with_reducible apply r_fld
  | with_reducible apply r_sfld
  | with_reducible apply r_cval
  | with_reducible apply r_make
  | with_reducible apply r_prop
  | with_reducible apply r_meth
  | with_reducible apply r_chain
  | with_reducible apply r_rz
  | with_reducible apply r_veI
  | with_reducible apply r_ost
  | with_reducible apply r_bm0
  | with_reducible apply r_din
  | with_reducible apply r_dnin
  | with_reducible apply r_dget
  | ((with_reducible apply r_gtup); (assumption); (exact rfl))
  | with_reducible apply r_gcons
  | with_reducible apply r_gnil
  | (with_reducible refine r_lo0 (by assumption) ?_)
  | (with_reducible refine r_lo2 (by assumption) ?_)
  | (with_reducible refine r_isi_non (b := true) (by decide +kernel) ?_)
  | (with_reducible refine r_isi_int (b := true) (by decide +kernel) ?_)
  | (with_reducible refine r_isi_str (b := true) (by decide +kernel) ?_)
  | ((with_reducible apply r_isi_tup (b := true)); (assumption); (exact (by decide +kernel)))
  | ((with_reducible apply r_isi_lst (b := true)); (assumption); (exact (by decide +kernel)))
  | (with_reducible refine r_isi_non (b := false) (by decide +kernel) ?_)
  | (with_reducible refine r_isi_int (b := false) (by decide +kernel) ?_)
  | (with_reducible refine r_isi_str (b := false) (by decide +kernel) ?_)
  | ((with_reducible apply r_isi_tup (b := false)); (assumption); (exact (by decide +kernel)))
  | ((with_reducible apply r_isi_lst (b := false)); (assumption); (exact (by decide +kernel)))
  | (with_reducible refine r_l0 (by assumption) ?_)
  | (with_reducible refine r_l2 (by assumption) ?_)
  | (with_reducible refine r_lenN (by assumption) ?_)
  | (with_reducible refine r_lenC (by assumption) ?_)
  | ((with_reducible apply r_ixT'); (assumption); (first | exact rfl | exact atI_0 | exact atI_1 | exact atI_2))
  | ((with_reducible apply r_ixL'); (assumption); (exact rfl))
  | ((with_reducible apply i_f); exact rfl)
  | ((with_reducible apply i_t); exact rfl)
  | ((with_reducible apply r_I); first | exact Or.inr ⟨by decide, by decide⟩ | exact (by decide) | assumption | exact ⟨by omega, by omega⟩ | exact (by omega) | exact ⟨by decide, by decide, by decide⟩))
local macro_rules | `(tactic| walk_at "w") => `(tactic| repeat (walk_at "w1"))

/-! what the faults say is no deeper than the block -/
def FD (m : Nat) (r : Option Flt) : Prop := ∀ w d, r = some (w, d) → Dep m d
theorem FD.none {m : Nat} : FD m none := fun _ _ e => by cases e
theorem FD.ft {m : Nat} {x : Str} {d : D} (h : Dep m d) : FD m (ft x d) := fun w d' e => by
  rw [← (Prod.mk.inj (Option.some.inj e)).2]
  exact h
theorem fd_rd {m : Nat} {er : Str} {ok C : List Str} {v s : D} (h : Dep m s) : FD m (rdF er ok C v s) := by
  unfold rdF
  split
  · split
    · exact FD.none
    · exact FD.ft dep_int
  · split
    · split
      · exact FD.none
      · exact FD.ft dep_str
    · exact FD.ft h
  · exact FD.none
theorem fd_find {m : Nat} {l : List D} {f : D → Option Flt} (h : ∀ x ∈ l, FD m (f x)) : FD m (l.findSome? f) := fun w d e => by
  obtain ⟨x, hx, e2⟩ := List.exists_of_findSome?_eq_some e
  exact h x hx w d e2
theorem fd_findL {m : Nat} {l : List (List D)} {f : List D → Option Flt} (h : ∀ x ∈ l, FD m (f x)) : FD m (l.findSome? f) := fun w d e => by
  obtain ⟨x, hx, e2⟩ := List.exists_of_findSome?_eq_some e
  exact h x hx w d e2
theorem fd_a {N C : List Str} : ∀ (n m : Nat) (dp : Int) (d : D), KA n d → 2 * n ≤ m → FD m (aF N C n dp d)
  | 0, _, _, _, h, _ => h.elim
  | n + 1, m, dp, _, ⟨g, s, a, f, rfl, ha, hl, hf⟩, hm => by
    have hdep : Dep m (.tup [.str g, .str s, a, .tup f]) := (KA.dep (n := n + 1) ⟨g, s, a, f, rfl, ha, hl, hf⟩).mono hm
    by_cases hg : g ∈ (["done", "error", "always"] : List Str)
    · by_cases hs : s ∈ N
      · cases hr : rdF "BadAction" ["now", "late"] C a (.tup [.str g, .str s, a, .tup f]) with
        | some e =>
          rw [aF_r hg hs hr, ← hr]
          exact fd_rd hdep
        | none =>
          by_cases hc : 3 < f.length ∨ (f ≠ [] ∧ (g = "error" ∨ dp = 2))
          · rw [aF_f hg hs hr hc]
            exact FD.ft hdep
          · rw [aF_l hg hs hr hc]
            exact fd_find fun x hx => fd_a n m (dp + 1) x (hf x hx) (by omega)
      · rw [aF_s hg hs]
        exact FD.ft dep_str
    · rw [aF_g hg]
      exact FD.ft hdep
theorem fd_c {m : Nat} {x : Str} {i : Int} : ∀ C : List (Str × Int), FD m (cellF C x i)
  | [] => FD.ft dep_str
  | c :: r => by
    unfold cellF
    split
    · split
      · exact FD.none
      · exact FD.ft dep_int
    · exact fd_c r
theorem fd_n {m : Nat} {x : Str} : FD m (nmF x) := by
  unfold nmF
  split
  · exact FD.none
  · exact FD.ft dep_str
theorem fd_p {m : Nat} {N : List Str} {C : List (Str × Int)} {P : List D → Prop} {w : Str} {r : List D} (p : Prt P w r) (hm : 14 ≤ m) (hd : Dep m (.tup (.str w :: r))) : FD m (pF N C w r) := by
  cases p with
  | do_ x v a =>
    rw [pF_do]
    split
    · exact fd_rd hd
    · exact FD.ft dep_str
  | put a k =>
    rw [pF_put]
    exact fd_a 7 m 0 a k (by omega)
  | set x i =>
    rw [pF_set]
    exact fd_c C
  | when_ x i l m a b =>
    rw [pF_when]
    exact fd_c C
  | ret v a n =>
    rw [pF_ret]
    exact fd_rd hd
  | _ =>
    rw [pF_nm (by decide) (by decide) (by decide) (by decide)]
    exact fd_n
theorem fd_b {N : List Str} {C : List (Str × Int)} : ∀ (b n m : Nat) (l : List D), KB n l → 2 * n + 14 ≤ m → FD m (bF N C b l)
  | 0, n, m, l, h, hm => by
    cases l with
    | nil => exact FD.none
    | cons a r => exact FD.ft ((h.2 a List.mem_cons_self).dep.mono (by omega))
  | b + 1, n, m, l, h, hm => by
    rw [bF_g]
    refine fd_find fun s hs => ?_
    have hsd : Dep m s := (h.2 s hs).dep.mono (by omega)
    match n, h.2 s hs with
    | n + 1, ⟨w, r, e, h5, hd, hp⟩ =>
      subst e
      by_cases hl : lenOf w = some ((r.length : Int) + 1)
      · have p := hp hl
        cases hpf : pF N C w r with
        | some e =>
          rw [gF_part hl hpf, ← hpf]
          exact fd_p p (by omega) hsd
        | none =>
          rw [gF_blk hl hpf]
          exact fd_findL fun k hk => fd_b b n m k (p.blks k hk) (by omega)
      · rw [gF_bad fun _ => hl]
        exact FD.ft hsd
theorem fd_full {N : List Str} {C : List (Str × Int)} {n m : Nat} {l : List D} (h : KB n l) (hm : 2 * n + 14 ≤ m) : FD m (fullF N C l) := by
  unfold fullF
  cases hb : bF N C 5 l with
  | some e =>
    show FD m (some e)
    rw [← hb]
    exact fd_b 5 n m l h hm
  | none =>
    dsimp only
    split
    · exact FD.ft dep_int
    · split
      · exact FD.ft dep_int
      · exact FD.none
theorem Bo.at0 {K : PySem.W.Frag} {H H' : Hp} {x : Addr} {kk ss : List (Key × V)} {l : List D} (b : Bo K H x kk ss l) (g : Gr [] H H') : Bo K H' x kk ss l := by
  obtain ⟨dx, bk, kd, sd, ts, us, h1, h2, h3, h4⟩ := b
  exact ⟨dx, bk, kd, sd, ts, us, g.at0 h1, h2.at0 g, g.tu _ _ h3, Rps.mono g.tu h4⟩
theorem Bo.lst {K : PySem.W.Frag} {H H' : Hp} {x p : Addr} {kk ss : List (Key × V)} {l : List D} {zs : List V} (b : Bo K H x kk ss l) (e : H p = some (.lst zs)) (g : Gr [p] H H') : Bo K H' x kk ss l := by
  obtain ⟨dx, bk, kd, sd, ts, us, h1, h2, h3, h4⟩ := b
  obtain ⟨dy, h5⟩ := h2.e
  have n1 : x ≠ p := fun z => by rw [z, e] at h1; cases h1
  have n2 : bk ≠ p := fun z => by rw [z, e] at h5; cases h5
  have n3 : kd ≠ p := fun z => by have := h2.ek; rw [z, e] at this; cases this
  have n4 : sd ≠ p := fun z => by have := h2.es; rw [z, e] at this; cases this
  exact ⟨dx, bk, kd, sd, ts, us, g.keep _ _ h1 (by simpa using n1), h2.gr g (by simpa using n2) (by simpa using n3) (by simpa using n4), g.tu _ _ h3, Rps.mono g.tu h4⟩
def spRight (K : PySem.W.Frag) : Sp := fun vs H Q _ => ∃ (w : Wo) (bk kd sd : Addr) (kk : List (Key × V)) (v : V) (l : List D) (n : Nat) (lt : Bool), vs = [.ref w.a, .ref bk, v, .bl lt] ∧ Lo w H ∧ Bk K H bk kd sd kk (szs w.C) ∧ Good kk ∧ (∀ y, (valV kk (.inr y)).isSome = decide (y ∈ w.N)) ∧ Rp H v (.tup l) ∧ KB n l ∧ n ≤ 42 ∧
  ∀ H', Gr [] H H' → Q (.bl true) H'
/-- a fault, as a value -/
def FV (r : Option Flt) (H : Hp) (v : V) : Prop := (r = none ∧ v = .non) ∨ ∃ w d, r = some (w, d) ∧ Rp H v (.tup [.str w, d])
theorem sc__law_right : FnScope ["_law_lore_here", "_law_book_here", "_law_statements", "_law_listed_too", "_law_stores", "_law_pair", "_law_due", "_law_passed", "_law_found"] ["_law_lore_here", "_law_book_here", "_law_statements", "_law_listed_too"] (defScope s__law_right) := ⟨rfl, rfl, rfl, by decide +kernel, rfl, by decide +kernel, by decide +kernel⟩
section
variable {G : Ctx}
theorem szs_good {C : List (Str × Int)} (nd : (C.map (·.1)).Nodup) : Good (szs C) := by
  refine ⟨?_, fun p hp => ?_⟩
  · unfold szs
    rw [List.map_map]
    have e : C.map ((fun x : Key × V => x.1) ∘ fun c => (Sum.inr c.1, V.int c.2)) = (C.map (·.1)).map Sum.inr := by rw [List.map_map] <;> rfl
    rw [e]
    exact List.pairwise_map.mpr (List.Pairwise.imp (fun h z => h (Sum.inr.inj z)) nd)
  · unfold szs at hp
    obtain ⟨c, _, rfl⟩ := List.mem_map.mp hp
    exact .inl rfl
theorem k__law_right (T : Txt G) (c__law_block_fault : Cal G 15 (He.ga G.K "_law_block_fault") (spBlockFault 5) []) (c__law_size : Cal G 1 (He.ga G.K "_law_size") spSize []) (c__law_outcome : Cal G 23 (He.ga G.K "_law_outcome") (spOutcome G.K) []) (c__law_same : Cal G 101 (He.ga G.K "_law_same") (spSame 100) [])
    (c_len : Cal G 8 (He.ma G.K (He.ga G.K "Body") "__len__") (spBodyLen G.K) []) (c_eq : Cal G 1 (He.ma G.K (He.ga G.K "Book") "__eq__") (spBookEq G.K) []) : Cal G 102 (He.ga G.K "_law_right") (spRight G.K) [] := by
  refine cal_of T.f__law_right sc__law_right (fun _ _ _ _ _ _ us hl => match us, hl with | [_, _, _, _], _ => rfl) (fun vs H Q E h => ?_) (fun cdv A outer s H vs Q E hr h => ⟨_, ((pss_cons (ps_set (i := 4) sc__law_right.nd rfl (Or.inl rfl) pe_int)
    (pss_cons (ps_for (passes_of rfl) rfl (pi_list (pe_ix ix_list (pv 0) pe_int (fun _ _ => rfl))) (pg_name (i := 5) sc__law_right.nd rfl (Or.inl rfl))
    (pss_one (ps_set (i := 4) sc__law_right.nd rfl (Or.inl rfl) (pe_op op_mul (pv 4) (pe_ix ix_tup (pv 5) pe_int (fun _ _ => rfl))))))
    (Evl.pss_cut (ps_set (i := 6) sc__law_right.nd rfl (Or.inl rfl) (pe_cal c__law_block_fault T.g__law_block_fault hr (by omega) (takes_of rfl rfl rfl rfl) (fun _ _ _ _ h => h) rfl (pa_cons (pv 0) (pa_cons (pv 2) (pa_cons pe_int pa_nil)))))
    (Evl.pss_cut (ps_if (pt_cmpR op_isN1 (pv 6) pe_non (nomark _)) (pss_one (ps_if (pt_cmpR op_gt (pe_cal c__law_size T.g__law_size hr (by omega) (takes_of rfl rfl rfl rfl) (fun _ _ _ _ h => h) rfl (pa_cons (pv 2) pa_nil)) pe_int (nomark _)) (pss_one (ps_set (i := 6) sc__law_right.nd rfl (Or.inl rfl) (pe_tup (pa_cons pe_str (pa_cons pe_int pa_nil))))) (pss_one (ps_if (pt_cmpR op_gt (pe_op op_mul (pe_op op_add (pe_cal c__law_size T.g__law_size hr (by omega) (takes_of rfl rfl rfl rfl) (fun _ _ _ _ h => h) rfl (pa_cons (pv 2) pa_nil)) pe_int) (pv 4)) pe_int (nomark _)) (pss_one (ps_set (i := 6) sc__law_right.nd rfl (Or.inl rfl) (pe_tup (pa_cons pe_str (pa_cons pe_int pa_nil))))) pss_nil)))) pss_nil)
    (Evl.pss_cut (ps_if (pt_val (pv 3)) (pss_cons (ps_set (i := 7) sc__law_right.nd rfl (Or.inl rfl) (pe_callTy call_lstOf rfl T.v_list (by decide +kernel) (pa_cons (pv 2) pa_nil)))
    (pss_cons (ps_set (i := 8) sc__law_right.nd rfl (Or.inl rfl) (pe_cal c__law_outcome T.g__law_outcome hr (by omega) (takes_of rfl rfl rfl rfl) (fun _ _ _ _ h => h) rfl (pa_cons (pv 1) (pa_cons (pv 7) pa_nil))))
    (pss_one (ps_expr (pe_bm PySem.F.plainAttrs_list PySem.F.slot_list_append PySem.F.type_list_append mt_append (pv 7) (pa_cons (pe_tup (pa_cons pe_str (pa_cons pe_str pa_nil))) pa_nil)))))) (pss_one (ps_set (i := 8) sc__law_right.nd rfl (Or.inl rfl) (pe_cal c__law_outcome T.g__law_outcome hr (by omega) (takes_of rfl rfl rfl rfl) (fun _ _ _ _ h => h) rfl (pa_cons (pv 1) (pa_cons (pv 2) pa_nil))))))
    (pss_cons (ps_if (pt_cmpR op_notN1 (pv 6) pe_non (nomark _)) (pss_one (ps_ret (pe_cal c__law_same T.g__law_same hr (by omega) (takes_of rfl rfl rfl rfl) (fun _ _ _ _ h => h) rfl (pa_cons (pv 8) (pa_cons (pv 6) pa_nil))))) pss_nil)
    (pss_cons (ps_if (PW.pt (pw_or (pt_not (pt_val (pe_callB call_isi rfl T.v_isinstance (by decide +kernel) (pa_cons (pv 8) (pa_cons (pe_bltn (v := .ty "list") rfl T.v_list (by decide +kernel) rfl) pa_nil))))) (pw_or (pt_not (pt_val (pe_callB call_isi rfl T.v_isinstance (by decide +kernel) (pa_cons (pe_ix ix_list (pv 8) pe_int (fun _ _ => rfl)) (pa_cons (pe_gR rfl T.g_Body) pa_nil))))) (pw_or1 (pt_not (pt_val (pe_cal c__law_same T.g__law_same hr (by omega) (takes_of rfl rfl rfl rfl) (fun _ _ _ _ h => h) rfl (pa_cons (pe_fld (pe_ix ix_list (pv 8) pe_int (fun _ _ => rfl)) rfl) (pa_cons (pv 2) pa_nil))))))))) (pss_one (ps_ret pe_bl)) pss_nil)
    (pss_one (ps_ret (pe_and (pe_cal c__law_same T.g__law_same hr (by omega) (takes_of rfl rfl rfl rfl) (fun _ _ _ _ h => h) rfl (pa_cons (pe_callB (call_lenO T.h_Body_len c_len hr (by omega)) rfl T.v_len PySem.boot_len (pa_cons (pe_ix ix_list (pv 8) pe_int (fun _ _ => rfl)) pa_nil)) (pa_cons (pe_cal c__law_size T.g__law_size hr (by omega) (takes_of rfl rfl rfl rfl) (fun _ _ _ _ h => h) rfl (pa_cons (pv 2) pa_nil)) pa_nil))) (pe_one (pe_cmpR (op_eqO T.h_Book_eq c_eq hr (by omega) (takes_of rfl rfl rfl rfl) (fun _ _ _ _ h => h)) (pe_fld (pe_ix ix_list (pv 8) pe_int (fun _ _ => rfl)) rfl) (pv 1) (nomark _)))))))))))))), ?_⟩)
  · obtain ⟨w, bk, kd, sd, kk, v, l, n, lt, rfl, _⟩ := h
    rfl
  obtain ⟨w, bk, kd, sd, kk, v, l, n, lt, rfl, L, B, gd, hN, hv, hl, n42, k⟩ := h
  have ok := L.ok
  have cok : COk w.C := ⟨ok.c2, ok.cm, ok.cd⟩
  walk_at "w"
  refine k_forL (SqL.of L.ep) (fun i σ' H' => ∃ (m : Int) (o : Option V), σ' = [some (.ref w.a), some (.ref bk), some v, some (.bl lt), some (.int m), o, none, none, none] ∧ H' = H ∧ 0 < m ∧ m ≤ 3 ^ i ∧ m * stores (w.C.drop i) = stores w.C) ⟨1, none, rfl, rfl, by decide, by decide, by rw [List.drop_zero, Int.one_mul]⟩ (fun i σ' H' hi ⟨_, _, _, e, _⟩ => by rw [e]; exact SqL.of L.ep) ?_ ?_
  · rintro i u σ2 H2 hu ⟨m, o, rfl, rfl, h0, h3, hm⟩
    obtain ⟨d, hd, rd⟩ := L.er.get hu
    rw [List.getElem?_map] at hd
    obtain ⟨c, hc, e⟩ := Option.map_eq_some_iff.mp hd
    subst e
    obtain ⟨tc, rfl, etc⟩ := pr_of rd
    have hmem := List.mem_of_getElem? hc
    have il : i < w.C.length := (List.getElem?_eq_some_iff.mp hc).1
    have c2 := ok.c2
    have cc := (ok.cm c hmem).2
    have i1 : i = 0 ∨ i = 1 := by omega
    have m3 : m ≤ 3 := by
      rcases i1 with rfl | rfl
      · simp at h3; omega
      · simpa using h3
    walk_at "w"
    refine r_I (.inl ⟨by omega, by omega⟩) ?_
    walk_at "w"
    have hdr : w.C.drop i = c :: w.C.drop (i + 1) := by
      obtain ⟨hi, e⟩ := List.getElem?_eq_some_iff.mp hc
      rw [← e]
      exact List.drop_eq_getElem_cons hi
    rw [hdr] at hm
    have hmul : m * c.2 ≤ m * 3 := Int.mul_le_mul_of_nonneg_left cc.2 (by omega)
    have hpos : m * 2 ≤ m * c.2 := Int.mul_le_mul_of_nonneg_left cc.1 (by omega)
    refine ⟨m * c.2, _, rfl, rfl, by omega, ?_, ?_⟩
    · rw [Int.pow_succ]
      omega
    · rw [Int.mul_assoc]
      exact hm
  rintro σ2 H2 ⟨m, o, rfl, e2, h0, h3, hm⟩
  have e2' := e2.symm
  subst e2'
  have lu : w.us.length = w.C.length := by rw [L.er.len, List.length_map]
  rw [lu, List.drop_length] at hm
  have em : m = stores w.C := by
    rw [← hm]
    show m = m * 1
    omega
  subst em
  clear hm h3 h0
  have sl := stores_le cok
  refine r_cut (fun σ' H' => ∃ vd, σ' = [some (.ref w.a), some (.ref bk), some v, some (.bl lt), some (.int (stores w.C)), o, some vd, none, none] ∧ Gr [] H H' ∧ FV (bF w.N w.C 5 l) H' vd) ?_ ?_
  · walk_at "w"
    refine ⟨w, v, l, 0, n, rfl, L, hv, hl, by decide, by decide, fun e0 H1 g1 => ?_, fun x e e0 H1 v1 g1 hv1 => ?_⟩
    · walk_at "w"
      exact ⟨.non, rfl, g1, .inl ⟨e0, rfl⟩⟩
    · walk_at "w"
      exact ⟨v1, rfl, g1, .inr ⟨x, e, e0, hv1⟩⟩
  rintro σ1 H1 ⟨vd, rfl, g1, hfv⟩
  refine r_cut (fun σ' H' => ∃ vd, σ' = [some (.ref w.a), some (.ref bk), some v, some (.bl lt), some (.int (stores w.C)), o, some vd, none, none] ∧ Gr [] H H' ∧ FV (fullF w.N w.C l) H' vd) ?_ ?_
  · rcases hfv with ⟨e0, rfl⟩ | ⟨x, e, e0, hv1⟩
    · have hrb := bF_none hl e0
      have full : fullF w.N w.C l = if 24 < cnt 5 l then ft "TooLarge" (.int 24) else if 120 < ((cnt 5 l : Int) + 1) * stores w.C then ft "TooLarge" (.int 120) else none := by unfold fullF; rw [e0]
      walk_at "w"
      refine ⟨v, l, 5, rfl, hv.mono g1.tu, hrb, by decide, fun H2 g2 => ?_⟩
      walk_at "w"
      refine i_d (fun h24 => ?_) (fun h24 => ?_)
      · walk_at "w"
        refine k_tup (by show 2 ≤ sizeLine; decide) fun q H3 g3 e3 => ?_
        walk_at "w"
        exact ⟨_, rfl, (g1.trans g2).trans g3, .inr ⟨_, _, full.trans (if_pos (by omega)), .tup e3 (.cons (.str _) (.cons (.int _) .nil))⟩⟩
      · walk_at "w"
        refine ⟨v, l, 5, rfl, (hv.mono g1.tu).mono g2.tu, hrb, by decide, fun H3 g3 => ?_⟩
        walk_at "w"
        have c24 : (cnt 5 l : Int) ≤ 24 := by omega
        refine r_I (.inl ⟨by omega, by omega⟩) ?_
        walk_at "w"
        refine i_d (fun h120 => ?_) (fun h120 => ?_)
        · walk_at "w"
          refine k_tup (by show 2 ≤ sizeLine; decide) fun q H4 g4 e4 => ?_
          walk_at "w"
          exact ⟨_, rfl, ((g1.trans g2).trans g3).trans g4, .inr ⟨_, _, full.trans ((if_neg (by omega)).trans (if_pos h120)), .tup e4 (.cons (.str _) (.cons (.int _) .nil))⟩⟩
        · walk_at "w"
          exact ⟨_, rfl, (g1.trans g2).trans g3, .inl ⟨full.trans ((if_neg (by omega)).trans (if_neg h120)), rfl⟩⟩
    · obtain ⟨t1, _, rfl, _⟩ := hv1.tup_of
      walk_at "w"
      refine ⟨_, rfl, g1, .inr ⟨x, e, ?_, hv1⟩⟩
      unfold fullF
      rw [e0]
  rintro σ2 H2' ⟨vd, rfl, g2, hfv⟩
  obtain ⟨tv, us, rfl, ev, hus⟩ := hv.tup_of
  have vl := hus.len
  refine r_cut (fun σ' H' => ∃ o7 vf, σ' = [some (.ref w.a), some (.ref bk), some (.ref tv), some (.bl lt), some (.int (stores w.C)), o, some vd, o7, some vf] ∧ Gr [] H H' ∧ FV (fullF w.N w.C l) H' vd ∧ ((fullF w.N w.C l = none ∧ ∃ q x, vf = .ref q ∧ H' q = some (.lst [.ref x]) ∧ Bo G.K H' x kk (szs w.C) l) ∨ ∃ y d, fullF w.N w.C l = some (y, d) ∧ Rp H' vf (.tup [.str y, d]))) ?_ ?_
  · have fv2 : ∀ {Ha Hb : Hp} {r : Option Flt} {u : V}, Tu Ha Hb → FV r Ha u → FV r Hb u := fun t h => h.imp id fun ⟨y, d, e, r⟩ => ⟨y, d, e, r.mono t⟩
    cases lt with
    | true =>
      walk_at "w"
      refine r_lstOf (.inr (SqT.of (g2.tu _ _ ev))) fun p H3 hp g3 e3 => ?_
      have g03 := g2.trans g3
      have hp0 := none_gr g2 hp
      walk_at "w"
      have app : ∀ H4 H5 q5, Gr [] H3 H4 → Gr [] H4 H5 → H5 q5 = some (.tup [.str "leave", .str "a"]) → ∀ R : Hp → Prop, (∀ H6, Gr [] H H6 → Gr [p] H5 H6 → R H6) → rAppend (.ref p) [.ref q5] H5 fun _ H6 => R H6 := fun H4 H5 q5 g4 g5 e5 R hR => by
        have ep := (g4.trans g5).at0 e3
        refine r_app ep (by rw [sizeLine_eq, vl]; have := hl.1; omega) ?_
        exact hR _ (((g03.trans g4).trans g5).own hp0) (Gr.set ep List.mem_cons_self (fun xs z => nomatch z))
      refine ⟨bk, kd, sd, p, kk, us, l, n, w.N, w.C, rfl, B.at0 g03, cok, hN, .inl e3, Rps.mono g03.tu hus, hl, fun e0 q x H4 g4 hqn eq bo => ?_, fun y d e0 vf H4 g4 hvf => ?_⟩
      · walk_at "w"
        refine ⟨.inl ⟨rfl, _, SqL.of (g4.at0 e3)⟩, ?_⟩
        walk_at "w"
        refine k_tup (by show 2 ≤ sizeLine; decide) fun q5 H5 g5 e5 => ?_
        walk_at "w"
        refine app H4 H5 q5 g4 g5 e5 _ fun H6 g06 g6 => ?_
        have nq : q ≠ p := fun z => by rw [z, e3] at hqn; cases hqn
        have t36 := ((g3.tu.trans g4.tu).trans g5.tu).trans g6.tu
        exact ⟨_, _, rfl, g06, fv2 t36 hfv, .inl ⟨e0, q, x, rfl, g6.keep _ _ (g5.at0 eq) (by simpa using nq), (bo.at0 g5).lst ((g4.trans g5).at0 e3) g6⟩⟩
      · walk_at "w"
        refine ⟨.inl ⟨rfl, _, SqL.of (g4.at0 e3)⟩, ?_⟩
        walk_at "w"
        refine k_tup (by show 2 ≤ sizeLine; decide) fun q5 H5 g5 e5 => ?_
        walk_at "w"
        refine app H4 H5 q5 g4 g5 e5 _ fun H6 g06 g6 => ?_
        have t36 := ((g3.tu.trans g4.tu).trans g5.tu).trans g6.tu
        exact ⟨_, vf, rfl, g06, fv2 t36 hfv, .inr ⟨y, d, e0, hvf.mono (g5.tu.trans g6.tu)⟩⟩
    | false =>
      walk_at "w"
      refine ⟨bk, kd, sd, tv, kk, us, l, n, w.N, w.C, rfl, B.at0 g2, cok, hN, .inr (g2.tu _ _ ev), Rps.mono g2.tu hus, hl, fun e0 q x H4 g4 hqn eq bo => ?_, fun y d e0 vf H4 g4 hvf => ?_⟩
      · walk_at "w"
        exact ⟨none, _, rfl, g2.trans g4, fv2 g4.tu hfv, .inl ⟨e0, q, x, rfl, eq, bo⟩⟩
      · walk_at "w"
        exact ⟨none, vf, rfl, g2.trans g4, fv2 g4.tu hfv, .inr ⟨y, d, e0, hvf⟩⟩
  rintro σ3 H3 ⟨o7, vf, rfl, g3, hfv3, hfo⟩
  rcases hfo with ⟨e0, q, x, rfl, eq, bo⟩ | ⟨y, d, e0, hvf⟩
  · rcases hfv3 with ⟨_, rfl⟩ | ⟨y, d, e1, _⟩
    · obtain ⟨dx, bk', kd', sd', ts, us', ex, B', et', hus'⟩ := bo
      have hb : bF w.N w.C 5 l = none := by
        cases hb : bF w.N w.C 5 l with
        | none => rfl
        | some e => unfold fullF at e0; rw [hb] at e0; cases e0
      have hrb := bF_none hl hb
      have hd : Dep 100 (.tup l) := hl.dep.mono (by omega)
      walk_at "w"
      refine ⟨.ref x, .ref (He.ga G.K "Body"), .ref (He.ga G.K "Body"), .ref (He.ga G.K "Body"), true, rfl, .own _, .base (.ins ex T.c_Body T.w_Body.ha T.w_Body.hn T.w_Body.ht T.w_Body.hm), T.z_Body, ?_⟩
      walk_at "w"
      refine k_fld T.c_Body T.n_Body_statements ex rfl ?_
      walk_at "w"
      refine ⟨.ref ts, .ref tv, .tup l, rfl, .tup et' hus', hv.mono g3.tu, hd, fun H4 g4 => ?_⟩
      have eq4 := g4.at0 eq
      have ex4 := g4.at0 ex
      walk_at "w"
      refine ⟨x, dx, _, rfl, ex4, x, kk, szs w.C, l, rfl, ⟨dx, bk', kd', sd', ts, us', ex4, B'.at0 g4, g4.tu _ _ et', Rps.mono g4.tu hus'⟩, hrb, fun H5 g5 => ?_⟩
      have cl := cnt_le hrb
      have e95 : (9 : Nat) ^ 5 = 59049 := by decide
      refine ⟨cnt 5 l, rfl, by omega, by omega, ?_⟩
      walk_at "w"
      refine ⟨.ref tv, l, 5, rfl, hv.mono ((g3.trans g4).trans g5).tu, hrb, by decide, fun H6 g6 => ?_⟩
      walk_at "w"
      refine ⟨_, _, .int (cnt 5 l), rfl, .int _, .int _, dep_int, fun H7 g7 => ?_⟩
      have g47 := (g5.trans g6).trans g7
      have eq7 := g47.at0 eq4
      have ex7 := g47.at0 ex4
      walk_at "w"
      refine k_fld T.c_Body T.n_Body_book ex7 rfl ?_
      have g37 := g4.trans g47
      have B7 := B.at0 (g3.trans g37)
      have B7' := B'.at0 g37
      obtain ⟨d1, h1⟩ := B7.e
      obtain ⟨d2, h2⟩ := B7'.e
      walk_at "w"
      exact ⟨bk', bk, d2, d1, _, _, rfl, rfl, h2, h1, bk', kd', sd', bk, kd, sd, kk, szs w.C, rfl, B7', B7, gd, szs_good ok.cd, true, rfl, k H7 (g3.trans g37)⟩
    · rw [e0] at e1
      cases e1
  · rcases hfv3 with ⟨e1, _⟩ | ⟨y', d', e1, hvd⟩
    · rw [e0] at e1
      cases e1
    · rw [e0] at e1
      obtain ⟨rfl, rfl⟩ := Prod.mk.inj (Option.some.inj e1)
      obtain ⟨td, _, rfl, etd, _⟩ := hvd.tup_of
      walk_at "w"
      exact ⟨vf, .ref td, _, rfl, hvf, hvd, ⟨by show 2 ≤ 1000; decide, all2 dep_str (all1 (fd_full (m := 99) hl (by omega) y d e0))⟩, fun H4 g4 => k H4 (g3.trans g4)⟩
end
end Xd

/-! text F5 -/
/-! the law -/
namespace Xd
open PySem PySem.Spec PyProof.Rows L2
local macro_rules | `(tactic| walk_at "w1") => `(tactic| first
  | with_reducible apply r_seq
  | with_reducible apply r_asg
  | with_reducible apply r_gname
  | ((with_reducible apply r_var); exact rfl)
  | with_reducible apply r_c
  | with_reducible apply r_op
  | with_reducible apply r_I0
  | ((with_reducible apply r_eq); exact rfl)
  | ((with_reducible apply r_ne); exact rfl)
  | with_reducible apply r_if
  | with_reducible apply r_test
  | with_reducible apply r_tB
  | with_reducible apply r_bl
  | with_reducible apply r_and
  | with_reducible apply r_or
  | with_reducible apply r_not
  | with_reducible apply r_ret
  | with_reducible apply r_drop
  | with_reducible apply r_cons
  | with_reducible apply r_nil
  | with_reducible apply r_cal
  | with_reducible apply r_cb
  | with_reducible apply r_tup
  | with_reducible apply r_lst
  | with_reducible apply r_next
  | with_reducible apply r_retN
  | with_reducible apply r_un
  | with_reducible apply r_U
  | with_reducible apply r_andV
  | with_reducible apply r_orV
  | with_reducible apply r_notV
  | with_reducible apply r_ifx
  | with_reducible apply r_forT
  | with_reducible apply r_forL
  | with_reducible apply r_forR
  | with_reducible apply r_sl
  | with_reducible apply r_nop
  | with_reducible apply r_part
  | with_reducible apply r_kPart
  | with_reducible apply r_gsub
  | with_reducible apply r_int1
  | with_reducible apply r_isN
  | with_reducible apply r_notN
  | with_reducible apply r_ltStr
  | with_reducible apply r_inS
  | with_reducible apply r_niS
  | with_reducible apply r_bm
  | with_reducible apply r_forS
  | with_reducible apply r_lcL
  | with_reducible apply r_lcT
  | with_reducible apply r_m0
  | with_reducible apply r_fld
  | with_reducible apply r_sfld
  | with_reducible apply r_cval
  | with_reducible apply r_make
  | with_reducible apply r_prop
  | with_reducible apply r_meth
  | with_reducible apply r_chain
  | with_reducible apply r_rz
  | with_reducible apply r_veI
  | with_reducible apply r_ost
  | with_reducible apply r_bm0
  | with_reducible apply r_din
  | with_reducible apply r_dnin
  | with_reducible apply r_dget
  | ((with_reducible apply r_gtup); (assumption); (exact rfl))
  | with_reducible apply r_gcons
  | with_reducible apply r_gnil
  | (with_reducible refine r_lo0 (by assumption) ?_)
  | (with_reducible refine r_lo2 (by assumption) ?_)
  | (with_reducible refine r_isi_non (b := true) (by decide +kernel) ?_)
  | (with_reducible refine r_isi_int (b := true) (by decide +kernel) ?_)
  | (with_reducible refine r_isi_str (b := true) (by decide +kernel) ?_)
  | ((with_reducible apply r_isi_tup (b := true)); (assumption); (exact (by decide +kernel)))
  | ((with_reducible apply r_isi_lst (b := true)); (assumption); (exact (by decide +kernel)))
  | (with_reducible refine r_isi_non (b := false) (by decide +kernel) ?_)
  | (with_reducible refine r_isi_int (b := false) (by decide +kernel) ?_)
  | (with_reducible refine r_isi_str (b := false) (by decide +kernel) ?_)
  | ((with_reducible apply r_isi_tup (b := false)); (assumption); (exact (by decide +kernel)))
  | ((with_reducible apply r_isi_lst (b := false)); (assumption); (exact (by decide +kernel)))
  | (with_reducible refine r_l0 (by assumption) ?_)
  | (with_reducible refine r_l2 (by assumption) ?_)
  | (with_reducible refine r_lenN (by assumption) ?_)
  | (with_reducible refine r_lenC (by assumption) ?_)
  | ((with_reducible apply r_ixT'); (assumption); (first | exact rfl | exact atI_0 | exact atI_1 | exact atI_2))
  | ((with_reducible apply r_ixL'); (assumption); (exact rfl))
  | ((with_reducible apply i_f); exact rfl)
  | ((with_reducible apply i_t); exact rfl)
  | ((with_reducible apply r_I); first | exact Or.inr ⟨by decide, by decide⟩ | exact (by decide) | assumption | exact ⟨by omega, by omega⟩ | exact (by omega) | exact ⟨by decide, by decide, by decide⟩))
local macro_rules | `(tactic| walk_at "w") => `(tactic| repeat (walk_at "w1"))

theorem Bk.lsts {K : PySem.W.Frag} {M : List Addr} {H H' : Hp} {b kd sd : Addr} {kk ss : List (Key × V)} (B : Bk K H b kd sd kk ss) (hM : ∀ a ∈ M, ∃ zs, H a = some (.lst zs)) (g : Gr M H H') : Bk K H' b kd sd kk ss := by
  obtain ⟨dx, eb⟩ := B.e
  exact B.gr g (fun z => by obtain ⟨zs, e⟩ := hM _ z; rw [eb] at e; cases e) (fun z => by obtain ⟨zs, e⟩ := hM _ z; rw [B.ek] at e; cases e) (fun z => by obtain ⟨zs, e⟩ := hM _ z; rw [B.es] at e; cases e)
theorem In.lsts {w : Wo} {H : Hp} {M : List Addr} (I : In w M H) : ∀ a ∈ [w.p], ∃ zs, H a = some (.lst zs) := fun a ha => by
  rw [List.mem_singleton.mp ha]
  obtain ⟨xs, h⟩ := I.P.lst
  exact ⟨_, h⟩
theorem InR.lsts {w : Wo} {rm : Addr} {H : Hp} (I : InR w rm H) : ∀ a ∈ [w.p, rm], ∃ zs, H a = some (.lst zs) := fun a ha => by
  rcases List.mem_cons.mp ha with rfl | ha
  · obtain ⟨xs, h⟩ := I.I.P.lst
    exact ⟨_, h⟩
  · rw [List.mem_singleton.mp ha]
    obtain ⟨z, e⟩ := I.e
    exact ⟨_, e⟩
theorem cnt_pos {n : Nat} {l : List D} (h : RB n l) (hl : l ≠ []) : 1 ≤ cnt n l := by
  cases l with
  | nil => exact absurd rfl hl
  | cons s r =>
    have hs := h.2 s List.mem_cons_self
    match n, hs with
    | n + 1, ⟨w, q, e, p⟩ =>
      subst e
      show 1 ≤ ((cntS (cnt n) (.tup (.str w :: q)) :: r.map (cntS (cnt n)))).sum
      rw [List.sum_cons]
      show 1 ≤ (1 + ((blks w q).map (cnt n)).sum) + _
      omega
def spLaw (K : PySem.W.Frag) : Sp := fun vs H Q _ => ∃ (s : Addr) (xs : List Int), vs = [.ref s] ∧ SqL K H s (xs.map V.int) ∧ ∀ H', Q (.bl true) H'
theorem sc_law : FnScope ["_law_script", "_law_pool_here", "_law_lore_here", "_law_book_here", "_law_base", "_law_many_here", "_law_way", "_law_ways"] ["_law_script"] (defScope s_law) := ⟨rfl, rfl, rfl, by decide +kernel, rfl, by decide +kernel, by decide +kernel⟩
section
variable {G : Ctx}
theorem fn_law (T : Txt G) {fd : FuncData} (F : FunD G.K "law" "law" (defArgs s_law) (defBody s_law) (defScope s_law) [] [] (He.ga G.K "law") fd) (c__law_pool : Cal G 1 (He.ga G.K "_law_pool") (spPool G.K) []) (c__law_lore : Cal G 5 (He.ga G.K "_law_lore") spLore []) (c__law_book : Cal G 6 (He.ga G.K "_law_book") (spBook G.K) []) (c__law_block : Cal G 19 (He.ga G.K "_law_block") (spBlk 5) [])
    (c__law_size : Cal G 1 (He.ga G.K "_law_size") spSize []) (c__law_draw : Cal G 2 (He.ga G.K "_law_draw") spDraw []) (c__law_rebuilt : Cal G 17 (He.ga G.K "_law_rebuilt") (spRebuilt 6) []) (c__law_right : Cal G 102 (He.ga G.K "_law_right") (spRight G.K) []) : FnG G 103 (He.ga G.K "law") fd ["_law_script"] (spLaw G.K) := by
  refine F.ok (k := 102) sc_law (fun vs H Q E h => ?_) (fun cdv A outer s H vs Q E hr h => ⟨_, ((pss_cons (ps_set (i := 1) sc_law.nd rfl (Or.inl rfl) (pe_cal c__law_pool T.g__law_pool hr (by omega) (takes_of rfl rfl rfl rfl) (fun _ _ _ _ h => h) rfl (pa_cons (pv 0) pa_nil)))
    (pss_cons (ps_set (i := 2) sc_law.nd rfl (Or.inl rfl) (pe_cal c__law_lore T.g__law_lore hr (by omega) (takes_of rfl rfl rfl rfl) (fun _ _ _ _ h => h) rfl (pa_cons (pv 1) (pa_cons pe_int (pa_cons pe_int pa_nil)))))
    (pss_cons (ps_set (i := 3) sc_law.nd rfl (Or.inl rfl) (pe_cal c__law_book T.g__law_book hr (by omega) (takes_of rfl rfl rfl rfl) (fun _ _ _ _ h => h) rfl (pa_cons (pv 2) pa_nil)))
    (pss_cons (ps_set (i := 4) sc_law.nd rfl (Or.inl rfl) (pe_cal c__law_block T.g__law_block hr (by omega) (takes_of rfl rfl rfl rfl) (fun _ _ _ _ h => h) rfl (pa_cons (pv 1) (pa_cons (pv 2) (pa_cons (pe_lst (pa_cons pe_int pa_nil)) (pa_cons pe_int pa_nil))))))
    (Evl.pss_cut (ps_if (pt_cmpR op_eq (pe_callB call_lenQ rfl T.v_len PySem.boot_len (pa_cons (pv 4) pa_nil)) pe_int (nomark _)) (pss_one (ps_set (i := 4) sc_law.nd rfl (Or.inl rfl) (pe_tup (pa_cons (pe_tup (pa_cons pe_str (pa_cons pe_int pa_nil))) pa_nil)))) pss_nil)
    (pss_cons (ps_set (i := 5) sc_law.nd rfl (Or.inl rfl) (pe_cal c__law_size T.g__law_size hr (by omega) (takes_of rfl rfl rfl rfl) (fun _ _ _ _ h => h) rfl (pa_cons (pv 4) pa_nil)))
    (pss_cons (ps_for (passes_of rfl) rfl (pi_range1 rfl T.v_range (pa_cons pe_int pa_nil)) (pg_name (i := 6) sc_law.nd rfl (Or.inl rfl))
    (pss_cons (ps_set (i := 7) sc_law.nd rfl (Or.inl rfl) (pe_disp (pps_cons (pe_cal c__law_draw T.g__law_draw hr (by omega) (takes_of rfl rfl rfl rfl) (fun _ _ _ _ h => h) rfl (pa_cons (pv 1) (pa_cons (pv 5) pa_nil))) (pv 6) pps_nil) (by rfl) (by rfl) (fun z => by cases z) (by decide)))
    (Evl.pss_cut (ps_if (pt_cmpR op_eq (pe_cal c__law_draw T.g__law_draw hr (by omega) (takes_of rfl rfl rfl rfl) (fun _ _ _ _ h => h) rfl (pa_cons (pv 1) (pa_cons pe_int pa_nil))) pe_int (nomark _)) (pss_one (ps_asg (pe_cal c__law_draw T.g__law_draw hr (by omega) (takes_of rfl rfl rfl rfl) (fun _ _ _ _ h => h) rfl (pa_cons (pv 1) (pa_cons pe_int pa_nil))) (pg_sub (pv 7) (pe_cal c__law_draw T.g__law_draw hr (by omega) (takes_of rfl rfl rfl rfl) (fun _ _ _ _ h => h) rfl (pa_cons (pv 1) (pa_cons (pv 5) pa_nil))) (set_dict (hu_of hr))))) pss_nil)
    (pss_one (ps_if (pt_not (pt_val (pe_cal c__law_right T.g__law_right hr (by omega) (takes_of rfl rfl rfl rfl) (fun _ _ _ _ h => h) rfl (pa_cons (pv 2) (pa_cons (pv 3) (pa_cons (pe_cal c__law_rebuilt T.g__law_rebuilt hr (by omega) (takes_of rfl rfl rfl rfl) (fun _ _ _ _ h => h) rfl (pa_cons (pv 1) (pa_cons (pv 2) (pa_cons (pv 4) (pa_cons (pe_lst (pa_cons pe_int pa_nil)) (pa_cons (pv 7) pa_nil)))))) (pa_cons (pe_cmpR op_eq (pe_op op_mod (pv 6) pe_int) pe_int (nomark _)) pa_nil))))))) (pss_one (ps_ret pe_bl)) pss_nil)))))
    (pss_one (ps_ret (pe_cal c__law_right T.g__law_right hr (by omega) (takes_of rfl rfl rfl rfl) (fun _ _ _ _ h => h) rfl (pa_cons (pv 2) (pa_cons (pv 3) (pa_cons (pv 4) (pa_cons pe_bl pa_nil))))))))))))))), ?_⟩)
  · obtain ⟨s, xs, rfl, _⟩ := h
    rfl
  obtain ⟨s, xs, rfl, es, k⟩ := h
  walk_at "w"
  refine ⟨s, xs, rfl, es, fun sc p H1 g1 hP1 => ?_⟩
  walk_at "w"
  refine ⟨sc, p, rfl, hP1, fun a an ak ap us N C H2 g2 hP2 L2' hk2 => ?_⟩
  obtain ⟨w, ew⟩ : ∃ w : Wo, w = ⟨sc, p, a, an, ak, ap, us, N, C⟩ := ⟨_, rfl⟩
  have I2 : In w [w.p] H2 := by rw [ew]; exact ⟨hP2, L2', List.mem_cons_self⟩
  have hk2' : Kd H2 w.ak w.N := by rw [ew]; exact hk2
  have ep : p = w.p := by rw [ew]
  have ea : a = w.a := by rw [ew]
  rw [ep, ea]
  clear ew ep ea hk2 L2' hP2 g2 hP1 g1
  have ok := I2.L.ok
  walk_at "w"
  refine ⟨w, rfl, I2.L.lo, hk2', fun b kd sd kk H3 g3 hb hkd hsd B3 gd hN => ?_⟩
  have I3 := I2.new g3
  walk_at "w"
  refine k_lst (by show 1 ≤ sizeLine; decide) fun rm H4 hrm g4 e4 => ?_
  have I4 := I3.room hrm g4 e4
  have B4 := B3.at0 g4
  walk_at "w"
  refine rm_ans I4 (by decide) (by decide) (by decide) fun v d H5 hd hv g5 I5 => ?_
  obtain ⟨l, rfl, hl⟩ := hd
  have B5 := B4.lsts I4.lsts g5
  obtain ⟨tv, ws, rfl, ev, hws⟩ := hv.tup_of
  walk_at "w"
  refine r_cut (fun σ' H' => ∃ tv l, σ' = [some (.ref s), some (.ref w.p), some (.ref w.a), some (.ref b), some (.ref tv), none, none, none] ∧ In w [w.p] H' ∧ Bk G.K H' b kd sd kk (szs w.C) ∧ Rp H' (.ref tv) (.tup l) ∧ RB 5 l ∧ l ≠ []) ?_ ?_
  · walk_at "w"
    refine r_lenT ev ?_
    have wl := hws.len
    walk_at "w"
    refine i_I (fun h0 => ?_) (fun h0 => ?_)
    · walk_at "w"
      refine k_tup (by show 2 ≤ sizeLine; decide) fun q H6 g6 e6 => ?_
      walk_at "w"
      refine k_tup (by show 1 ≤ sizeLine; decide) fun q2 H7 g7 e7 => ?_
      walk_at "w"
      refine ⟨q2, [.tup [.str "return", .int 0]], rfl, (I5.I.one.new g6).new g7, (B5.at0 g6).at0 g7, .tup e7 (.cons (.tup (g7.tu _ _ e6) (.cons (.str _) (.cons (.int _) .nil))) .nil), ⟨by simp, all1 ?_⟩, by simp⟩
      exact ⟨_, _, rfl, .ret (.int 0) (.int 0) (fun z => by cases z)⟩
    · walk_at "w"
      exact ⟨tv, l, rfl, I5.I.one, B5, hv, hl, fun z => h0 (by rw [wl, z] <;> rfl)⟩
  rintro σ' H6 ⟨tv, l, rfl, I6, B6, hv6, hl6, hne⟩
  have pos := cnt_pos hl6 hne
  have le := cnt_le hl6
  have e95 : (9 : Nat) ^ 5 = 59049 := by decide
  have m0 : 0 < (cnt 5 l : Int) := by omega
  have m1 : (cnt 5 l : Int) < 1073741824 := by omega
  walk_at "w"
  refine ⟨.ref tv, l, 5, rfl, hv6, hl6, by decide, fun H7 g7 => ?_⟩
  walk_at "w"
  refine k_forR (by decide) (by decide) (fun i σ' H' => ∃ o6 o7, σ' = [some (.ref s), some (.ref w.p), some (.ref w.a), some (.ref b), some (.ref tv), some (.int (cnt 5 l)), o6, o7] ∧ In w [w.p] H' ∧ Bk G.K H' b kd sd kk (szs w.C) ∧ Rp H' (.ref tv) (.tup l)) ⟨none, none, rfl, I6.new g7, B6.at0 g7, hv6.mono g7.tu⟩ ?_ ?_
  · rintro i σ8 H8 hi ⟨o6, o7, rfl, I8, B8, hv8⟩
    walk_at "w"
    intro dw hdw
    have g9 : Gr [] H8 (upd H8 dw (.dK [])) := Gr.new hdw
    have e9 : upd H8 dw (.dK []) dw = some (.dK []) := upd_same
    generalize upd H8 dw (.dK []) = H9 at g9 e9 ⊢
    have I9 := I8.new g9
    have nd := (I8.P.fresh hdw)
    refine r_cal ?_
    walk_at "w"
    refine draw_ans I9 m0 m1 fun r1 H10 a0 a1 g10 I10 => ?_
    walk_at "w"
    have e10 := g10.keep _ _ e9 (by simpa using nd.2)
    refine ⟨e10, [(.inl r1, .int i)], rfl, by show 1 ≤ 15; decide, ?_⟩
    have g89 := (g9.any (M := [w.p])).trans g10
    have g11 : Gr [w.p] H8 (upd H10 dw (.dK (mergeK [] [(.inl r1, .int i)]))) := g89.own hdw
    have I11 : In w [w.p] (upd H10 dw (.dK (mergeK [] [(.inl r1, .int i)]))) := I8.gr g11 (I10.P.upd nd.1 nd.2)
    have W11 : Ways (upd H10 dw (.dK (mergeK [] [(.inl r1, .int i)]))) dw := ⟨_, upd_same, fun kx v hv => by
      have e : mergeK [] [((Sum.inl r1 : Key), V.int i)] = putK [] (Sum.inl r1) (V.int i) := rfl
      rw [e, valV_put] at hv
      split at hv
      · exact ⟨i, (Option.some.inj hv).symm⟩
      · cases hv⟩
    have z11 : (mergeK [] [((Sum.inl r1 : Key), V.int i)]).length ≤ 5 := Nat.le_trans (putK_len [] _ _) (by decide)
    generalize hkv : mergeK [] [((Sum.inl r1 : Key), V.int i)] = kv0 at g11 I11 W11 z11 ⊢
    have e11 : upd H10 dw (.dK kv0) dw = some (.dK kv0) := upd_same
    have B11 := B8.lsts I8.lsts g11
    have hv11 := hv8.mono g11.tu
    generalize upd H10 dw (.dK kv0) = H11 at g11 I11 W11 e11 B11 hv11 ⊢
    walk_at "w"
    refine r_cut (fun σ' H' => σ' = [some (.ref s), some (.ref w.p), some (.ref w.a), some (.ref b), some (.ref tv), some (.int (cnt 5 l)), some (.int i), some (.ref dw)] ∧ In w [w.p] H' ∧ Bk G.K H' b kd sd kk (szs w.C) ∧ Rp H' (.ref tv) (.tup l) ∧ Ways H' dw) ?_ ?_
    · walk_at "w"
      refine draw_ans I11 (by decide) (by decide) fun r2 H12 _ _ g12 I12 => ?_
      have e12 := g12.keep _ _ e11 (by simpa using nd.2)
      have B12 := B11.lsts I11.lsts g12
      have hv12 := hv11.mono g12.tu
      have W12 : Ways H12 dw := by
        obtain ⟨kvs, q1, q2⟩ := W11
        rw [e11] at q1
        exact ⟨kv0, e12, by rw [HO.dK.inj (Option.some.inj q1)]; exact q2⟩
      walk_at "w"
      refine i_I (fun _ => ?_) (fun _ => ?_)
      · walk_at "w"
        refine draw_ans I12 (by decide) (by decide) fun r3 H13 _ _ g13 I13 => ?_
        walk_at "w"
        refine draw_ans I13 m0 m1 fun r4 H14 _ _ g14 I14 => ?_
        have g1214 := g13.trans g14
        have e14 := g1214.keep _ _ e12 (by simpa using nd.2)
        refine ⟨dw, _, rfl, DPut.k (k := .inl r4) e14 (by rw [sizeLine_eq]; omega), ?_⟩
        have t15 : Gr [dw] H14 (upd H14 dw (.dK (putK kv0 (.inl r4) (.int r3)))) := Gr.set e14 List.mem_cons_self (fun xs z => nomatch z)
        have nb : b ≠ dw := fun z => by obtain ⟨dx, eb⟩ := B8.e; rw [z, hdw] at eb; cases eb
        have nk : kd ≠ dw := fun z => by have := B8.ek; rw [z, hdw] at this; cases this
        have ns : sd ≠ dw := fun z => by have := B8.es; rw [z, hdw] at this; cases this
        have g15 : Gr [w.p] H8 (upd H14 dw (.dK (putK kv0 (.inl r4) (.int r3)))) := ((g11.trans g12).trans g1214).own hdw
        walk_at "w"
        refine ⟨rfl, I8.gr g15 (I14.P.upd nd.1 nd.2), (B12.lsts I12.lsts g1214).gr t15 (by simpa using nb) (by simpa using nk) (by simpa using ns), (hv12.mono g1214.tu).mono t15.tu, _, upd_same, fun kx v hv => ?_⟩
        rw [valV_put] at hv
        split at hv
        · exact ⟨r3, (Option.some.inj hv).symm⟩
        · obtain ⟨kvs, q1, q2⟩ := W12
          rw [e12] at q1
          rw [HO.dK.inj (Option.some.inj q1)] at hv
          exact q2 kx v hv
      · walk_at "w"
        exact ⟨rfl, I12, B12, hv12, W12⟩
    rintro σ' H12 ⟨rfl, I12, B12, hv12, W12⟩
    walk_at "w"
    refine k_lst (by show 1 ≤ sizeLine; decide) fun rm H13 hrm g13 e13 => ?_
    have I13 := I12.room hrm g13 e13
    have W13 : Ways H13 dw := by
      obtain ⟨kvs, q1, q2⟩ := W12
      exact ⟨kvs, g13.at0 q1, q2⟩
    walk_at "w"
    refine ⟨w, rm, dw, .ref tv, l, rfl, I13, W13, hv12.mono g13.tu, hl6, fun v' d' H14 hd' hv' g14 I14 => ?_⟩
    obtain ⟨l', rfl, hl'⟩ := hd'
    have B14 := (B12.at0 g13).lsts I13.lsts g14
    have hv14 := (hv12.mono g13.tu).mono g14.tu
    walk_at "w"
    refine ⟨w, b, kd, sd, kk, v', l', 42, _, rfl, I14.I.L.lo, B14, gd, hN, hv', hl', by decide, fun H15 g15 => ?_⟩
    walk_at "w"
    exact ⟨_, _, rfl, I14.I.one.new g15, B14.at0 g15, hv14.mono g15.tu⟩
  · rintro σ8 H8 ⟨o6, o7, rfl, I8, B8, hv8⟩
    walk_at "w"
    exact ⟨w, b, kd, sd, kk, .ref tv, l, 5, false, rfl, I8.L.lo, B8, gd, hN, hv8, hl6.kb, by decide, fun H9 g9 => k H9⟩
end
end Xd

/-! text F6 -/
/-! all defs together -/
namespace Xd
open PySem PySem.Spec PyProof.Rows L2
section
variable {G : Ctx}
/-- the program: a body is made, or the first fault comes out -/
theorem all_Body (T : Txt G) : Cal G 21 (He.ma G.K (He.ga G.K "Body") "__init__") (spBodyInit G.K) [] ∧ Cal G 8 (He.ma G.K (He.ga G.K "Body") "__len__") (spBodyLen G.K) [] := by
  have isn := k_is_name T
  have ckn := k_check_name T isn (k_BadName T)
  have cku := k_check_number T (k_BadNumber T)
  have cel := k_cells T
  have cns := k_cell_names T cel
  have con := k_Book_contains T
  have ckg := k_check_argument T cku cns (k_BadAction T) (k_UnknownCell T)
  have cat_ := k_check_at T con ckg (k_BadAction T) (k_UnknownStep T)
  have act := k_check_action T (cat_ 7)
  have now_ := k_check_now T cku cns (k_BadStatement T) (k_UnknownCell T)
  have cell := k_check_cell T cel (k_BadNumber T) (k_UnknownCell T)
  have prt := fun P => k_check_parts T con now_ act cell ckn (k_UnknownStep T) (P := P)
  have blo := fun P => k_blocks_of T (P := P)
  have all_ := k_check_all T blo prt (k_BadStatement T)
  have ord := k_in_order T blo
  exact ⟨k_Body_init T (k_copied T (k_Book2 T)) (all_ 5) (ord 5) (k_stores T) (k_TooLarge T), k_Body_len T (ord 5)⟩
theorem all_law (T : Txt G) {fd : FuncData} (F : FunD G.K "law" "law" (defArgs s_law) (defBody s_law) (defScope s_law) [] [] (He.ga G.K "law") fd) : (∀ (s : Shared) (u : Value), BindsTo s fd ⟨[u], []⟩ [("_law_script", u)]) ∧ FnG G 103 (He.ga G.K "law") fd ["_law_script"] (spLaw G.K) := by
  have mi := k__law_mixed T
  have dr := k__law_draw T mi
  have re := k__law_rest T
  have le := k__law_letters T
  have nm := k__law_name T le dr
  have fr := k__law_fresh T le nm
  have nu := k__law_number T dr
  have kd := k__law_kind T dr nm nu
  have lo := k__law_lore T dr fr kd
  have ar := k__law_argument T dr nu
  have ac := k__law_action T dr ar
  have pl := k__law_plain T dr nu nm ar (ac 3)
  have bl := k_sb T dr nm pl re
  have sg := k__law_signs T
  have ne := k__law_near T dr sg
  have ma := k__law_many T
  have wr := fun n => k__law_wrapped T dr nm (n := n)
  have br := k__law_bad_read T dr
  have bn := fun n => k__law_bad_name T dr nm ne (n := n)
  have bc := fun n => k__law_bad_cell T dr fr br (n := n)
  have sp := fun m => k__law_spoilt T dr fr nm (m := m)
  have to := k__law_touched T sp
  have ch := fun n => k__law_changed T (n := n) dr fr (wr (n + 1)) (bc n) (bn n) br (ac 3) (to 3) (ma 3) pl
  have rb := k__law_rebuilt T ch
  have ln := k__law_lengths T
  have bs := fun P => k__law_blocks T (P := P)
  have isn := k__law_is_name T le
  have fa := k__law_fault T
  have rf := k__law_read_fault T
  have pf := fun P => k__law_parts_fault T rf (fa 7) isn (P := P)
  have bf := k__law_block_fault T ln bs pf
  have sz := k__law_size T
  have sm := k__law_same T
  obtain ⟨bi, bln⟩ := all_Body T
  have si := k__law_single T
  have rs := k__law_reason T si
  have oc := k__law_outcome T bi rs
  have rt := k__law_right T (bf 5) sz oc (sm 100) bln (k_Book_eq T)
  have ckn := k_check_name T (k_is_name T) (k_BadName T)
  have ckk := k_check_kind T ckn (k_check_number T (k_BadNumber T)) (k_BadKind T)
  have bk := k__law_book T (k_Book0 T) (k_Book_setitem T ckn ckk (k_TooLarge T)) (k_Book_add_cell T ckn (k_BadNumber T) (k_Clash T) (k_TooLarge T))
  have po := k__law_pool T
  refine ⟨fun s u => ?_, fn_law T F po lo bk (bl 5) sz dr (rb 6) rt⟩
  exact F.bindsA (ps := ["_law_script"]) (fun _ _ _ _ _ _ us hl => match us, hl with | [_], _ => rfl) s [u] rfl
end
/-- no exception leaves the law -/
theorem fn_dry {P : Program} {w : World} {K : PySem.W.Frag} {mg : Str → Option Value} {base : Heap} {k : Nat} {f : Addr} {fd : FuncData} {ps : List Str} {sp : Sp} (F : FnOk P w K mg base (L2.CX P w) k f fd ps sp) (dry : ∀ vs H Q E, sp vs H Q E → sp vs H Q E0) : FnOk P w K mg base L2.CX0 k f fd ps sp := by
  refine ⟨F.len, fun A outer s H args us vs Q E room e0 bnd rel want => ?_⟩
  refine codeAny_mono (F.run A outer s H args us vs Q E0 room e0 bnd rel (dry vs H Q E want)) fun r s2 told => ?_
  cases r with
  | error err =>
    obtain ⟨_, _, _, _, _, _, _, _, _, _, _, _, no⟩ := told
    exact no.elim
  | ok fl =>
    cases fl with
    | ret u => exact told
    | next => exact told.elim
    | brk => exact told.elim
    | cont => exact told.elim
end Xd

/-! text Z -/
/-! the end -/
namespace Xd
open PySem PySem.Spec PyProof.Rows L2
theorem law_at {w : World} {mg : Str → Option Value} {h : Heap} {fa : Addr} {K : PySem.W.Frag} (KX : K.In h) (c : SaysZ w K) (N : h.Ns mainGlobals mg) (e : mg "law" = some (.ref fa)) : ∃ fd : FuncData, (∀ (s : Shared) (u : Value), BindsTo s fd ⟨[u], []⟩ [("_law_script", u)]) ∧
    ∀ base : Heap, K.In base → base.Ns mainGlobals mg → FnOk PySem.Challenge.rw_exitdeeds_k09_whole_body_checks.prog w K mg base L2.CX0 103 fa fd ["_law_script"] (spLaw K) := by
  have T0 : ∀ base : Heap, Txt ⟨PySem.Challenge.rw_exitdeeds_k09_whole_body_checks.prog, w, K, mg, base⟩ := fun base => ⟨⟨h, KX, N⟩, c⟩
  have ef : fa = He.ga K "law" := by
    have e2 := (T0 h).g_law
    have e3 : (some (.ref fa) : Option Value) = some (.ref (He.ga K "law")) := e.symm.trans e2
    cases e3
    rfl
  subst ef
  obtain ⟨fd, F⟩ := (T0 h).f_law
  exact ⟨fd, (all_law (T0 h) F).1, fun base _ _ => fn_dry (all_law (T0 base) F).2 fun _ _ _ _ h => h⟩
end Xd
theorem PySem.Challenge.cw_exitdeeds_k09_whole_body_checks_holds : PySem.Challenge.rw_exitdeeds_k09_whole_body_checks.Holds := by
  refine Xd.head_end fun w mg fa h K KX c N e => ?_
  obtain ⟨fd, hb, hF⟩ := Xd.law_at KX c N e
  exact ⟨fd, Xd.spLaw K, hb, fun H a ns hS => ⟨a, ns, rfl, hS, fun _ => rfl⟩, hF⟩

