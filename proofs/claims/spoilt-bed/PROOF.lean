import PyProof.Rows.All
import Wide.All
import OpenK.AllK
import Wide.FinOn
import KE.KStateDown
import Lean
import HandS.ForMost
import HandS.Exc
import HandS.Defaults
import HandS.Flow
import HandS.Style
import HandS.Strs
import HandS.IsInst
import HandS.Deep
import HandS.OwnEq
import HandS.TupSets
import HandS.DictTup
import HandS.SetKeys
import HandS.More
import HandS.ListItems
import HandS.Codes
import HandS.HeadHook1
import HandS.HeadHook2
import PySem.Challenge.RW_rootpledge_k82_whole_a_spoilt_bed_alone
import HandS.Walk
import HandS.SetFor
import HandS.Set
import HandS.SortKw
import KE.SortKeyHeap
import KE.SortData
import HandS.Head0
import HandS.Head1
import HandS.Head2
import HandS.HeadEnd
set_option Elab.async false
set_option linter.all false
set_option maxRecDepth 100000
set_option maxHeartbeats 4000000

namespace Rp
open PySem PySem.Spec PyProof.Rows L2
/-! ### the text by its places -/
def top (i : Nat) : Stmt := PySem.Challenge.pw_rootpledge_k82_whole_a_spoilt_bed_alone.main.body.getD i (.Pass ⟨0, 0, 0, 0⟩)
abbrev s_is_whole : Stmt := top 15
abbrev s_is_between : Stmt := top 16
abbrev s_is_from : Stmt := top 17
abbrev s_is_name : Stmt := top 18
abbrev s_common : Stmt := top 19
abbrev s_Part_init : Stmt := inClass (top 20) 0
abbrev s_Part_eq : Stmt := inClass (top 20) 1
abbrev s_plus : Stmt := top 21
abbrev s_minus : Stmt := top 22
abbrev s_less : Stmt := top 23
abbrev s_is_grade : Stmt := top 33
abbrev s_are_grades : Stmt := top 34
abbrev s_Breed_init : Stmt := inClass (top 35) 0
abbrev s_first_wrong : Stmt := top 36
abbrev s_Bed_init : Stmt := inClass (top 37) 0
abbrev s_are_unlike : Stmt := top 38
abbrev s_are_breeds : Stmt := top 39
abbrev s_are_beds : Stmt := top 40
abbrev s_Field_init : Stmt := inClass (top 41) 0
abbrev s_Field_bed_of : Stmt := inClass (top 41) 3
abbrev s_Field_bed_names : Stmt := inClass (top 41) 4
abbrev s_is_thing : Stmt := top 46
abbrev s_has : Stmt := top 47
abbrev s_is_rule : Stmt := top 48
abbrev s_goes_with : Stmt := top 49
abbrev s_is_going : Stmt := top 50
abbrev s_Promise_init : Stmt := inClass (top 51) 0
abbrev s_Spoiling_init : Stmt := inClass (top 52) 0
abbrev s_is_line : Stmt := top 55
abbrev s_when : Stmt := top 56
abbrev s_in_time : Stmt := top 57
abbrev s_Standing_init : Stmt := inClass (top 60) 0
abbrev s_Standing_back : Stmt := inClass (top 60) 1
abbrev s_Standing_holds : Stmt := inClass (top 60) 2
abbrev s_Standing_moves : Stmt := inClass (top 60) 3
abbrev s_Standing_go : Stmt := inClass (top 60) 4
abbrev s_Standing_void : Stmt := inClass (top 60) 5
abbrev s_Standing_spoil : Stmt := inClass (top 60) 6
abbrev s_Standing_take : Stmt := inClass (top 60) 7
abbrev s_Ledger_init : Stmt := inClass (top 61) 0
abbrev s_Ledger_check : Stmt := inClass (top 61) 2
abbrev s_Ledger_tell : Stmt := inClass (top 61) 3
abbrev s_Ledger_lines : Stmt := inClass (top 61) 4
abbrev s_Ledger_standing : Stmt := inClass (top 61) 5
abbrev s_Ledger_voids : Stmt := inClass (top 61) 6
abbrev s_Ledger_undone : Stmt := inClass (top 61) 7
abbrev s_Ledger_hold : Stmt := inClass (top 61) 8
abbrev s_Ledger_spoiled : Stmt := inClass (top 61) 9
abbrev s_Ledger_check_thing : Stmt := inClass (top 61) 10
abbrev s_Ledger_holder : Stmt := inClass (top 61) 11
abbrev s_Ledger_row : Stmt := inClass (top 61) 12
abbrev s_Ledger_holders : Stmt := inClass (top 61) 13
abbrev s_l_cell_at : Stmt := top 63
abbrev s_l_source : Stmt := top 64
abbrev s_l_next : Stmt := top 65
abbrev s_l_names : Stmt := top 66
abbrev s_l_breed_rows : Stmt := top 67
abbrev s_l_bed_rows : Stmt := top 68
abbrev s_l_field : Stmt := top 69
abbrev s_l_made : Stmt := top 70
abbrev s_l_things : Stmt := top 71
abbrev s_l_in_time : Stmt := top 72
abbrev s_l_back : Stmt := top 73
abbrev s_l_begin : Stmt := top 74
abbrev s_l_keys : Stmt := top 75
abbrev s_l_promised : Stmt := top 76
abbrev s_l_spoiled : Stmt := top 77
abbrev s_l_led : Stmt := top 78
abbrev s_l_likely : Stmt := top 79
abbrev s_l_row_of : Stmt := top 80
abbrev s_l_scene : Stmt := top 81
abbrev s_l_rows : Stmt := top 82
abbrev s_l_told : Stmt := top 84
abbrev s_l_bed : Stmt := top 85
abbrev s_l_of : Stmt := top 86
abbrev s_l_undone : Stmt := top 87
abbrev s_law : Stmt := top 88
/-! ### the defs as data -/
def dd_is_whole : He.DefD := ⟨("is_whole", none), "is_whole", "is_whole", defArgs s_is_whole, defBody s_is_whole, defScope s_is_whole, [], []⟩
def dd_is_between : He.DefD := ⟨("is_between", none), "is_between", "is_between", defArgs s_is_between, defBody s_is_between, defScope s_is_between, [], []⟩
def dd_is_from : He.DefD := ⟨("is_from", none), "is_from", "is_from", defArgs s_is_from, defBody s_is_from, defScope s_is_from, [], []⟩
def dd_is_name : He.DefD := ⟨("is_name", none), "is_name", "is_name", defArgs s_is_name, defBody s_is_name, defScope s_is_name, [], []⟩
def dd_common : He.DefD := ⟨("common", none), "common", "common", defArgs s_common, defBody s_common, defScope s_common, [], []⟩
def dd_Part_init : He.DefD := ⟨("Part", some "__init__"), "__init__", "Part.__init__", defArgs s_Part_init, defBody s_Part_init, defScope s_Part_init, [.int 1], []⟩
def dd_Part_eq : He.DefD := ⟨("Part", some "__eq__"), "__eq__", "Part.__eq__", defArgs s_Part_eq, defBody s_Part_eq, defScope s_Part_eq, [], []⟩
def dd_plus : He.DefD := ⟨("plus", none), "plus", "plus", defArgs s_plus, defBody s_plus, defScope s_plus, [], []⟩
def dd_minus : He.DefD := ⟨("minus", none), "minus", "minus", defArgs s_minus, defBody s_minus, defScope s_minus, [], []⟩
def dd_less : He.DefD := ⟨("less", none), "less", "less", defArgs s_less, defBody s_less, defScope s_less, [], []⟩
def dd_is_grade : He.DefD := ⟨("is_grade", none), "is_grade", "is_grade", defArgs s_is_grade, defBody s_is_grade, defScope s_is_grade, [], []⟩
def dd_are_grades : He.DefD := ⟨("are_grades", none), "are_grades", "are_grades", defArgs s_are_grades, defBody s_are_grades, defScope s_are_grades, [], []⟩
def dd_Breed_init : He.DefD := ⟨("Breed", some "__init__"), "__init__", "Breed.__init__", defArgs s_Breed_init, defBody s_Breed_init, defScope s_Breed_init, [], []⟩
def dd_first_wrong : He.DefD := ⟨("first_wrong", none), "first_wrong", "first_wrong", defArgs s_first_wrong, defBody s_first_wrong, defScope s_first_wrong, [], []⟩
def dd_Bed_init : He.DefD := ⟨("Bed", some "__init__"), "__init__", "Bed.__init__", defArgs s_Bed_init, defBody s_Bed_init, defScope s_Bed_init, [.int 0, .str "roots"], []⟩
def dd_are_unlike : He.DefD := ⟨("are_unlike", none), "are_unlike", "are_unlike", defArgs s_are_unlike, defBody s_are_unlike, defScope s_are_unlike, [], []⟩
def dd_are_breeds : He.DefD := ⟨("are_breeds", none), "are_breeds", "are_breeds", defArgs s_are_breeds, defBody s_are_breeds, defScope s_are_breeds, [], []⟩
def dd_are_beds : He.DefD := ⟨("are_beds", none), "are_beds", "are_beds", defArgs s_are_beds, defBody s_are_beds, defScope s_are_beds, [], []⟩
def dd_Field_init : He.DefD := ⟨("Field", some "__init__"), "__init__", "Field.__init__", defArgs s_Field_init, defBody s_Field_init, defScope s_Field_init, [], []⟩
def dd_Field_bed_of : He.DefD := ⟨("Field", some "bed_of"), "bed_of", "Field.bed_of", defArgs s_Field_bed_of, defBody s_Field_bed_of, defScope s_Field_bed_of, [], []⟩
def dd_Field_bed_names : He.DefD := ⟨("Field", some "bed_names"), "bed_names", "Field.bed_names", defArgs s_Field_bed_names, defBody s_Field_bed_names, defScope s_Field_bed_names, [], []⟩
def dd_is_thing : He.DefD := ⟨("is_thing", none), "is_thing", "is_thing", defArgs s_is_thing, defBody s_is_thing, defScope s_is_thing, [], []⟩
def dd_has : He.DefD := ⟨("has", none), "has", "has", defArgs s_has, defBody s_has, defScope s_has, [], []⟩
def dd_is_rule : He.DefD := ⟨("is_rule", none), "is_rule", "is_rule", defArgs s_is_rule, defBody s_is_rule, defScope s_is_rule, [], []⟩
def dd_goes_with : He.DefD := ⟨("goes_with", none), "goes_with", "goes_with", defArgs s_goes_with, defBody s_goes_with, defScope s_goes_with, [], []⟩
def dd_is_going : He.DefD := ⟨("is_going", none), "is_going", "is_going", defArgs s_is_going, defBody s_is_going, defScope s_is_going, [], []⟩
def dd_Promise_init : He.DefD := ⟨("Promise", some "__init__"), "__init__", "Promise.__init__", defArgs s_Promise_init, defBody s_Promise_init, defScope s_Promise_init, [.str "weighed", .str "go", .int 0], []⟩
def dd_Spoiling_init : He.DefD := ⟨("Spoiling", some "__init__"), "__init__", "Spoiling.__init__", defArgs s_Spoiling_init, defBody s_Spoiling_init, defScope s_Spoiling_init, [], []⟩
def dd_is_line : He.DefD := ⟨("is_line", none), "is_line", "is_line", defArgs s_is_line, defBody s_is_line, defScope s_is_line, [], []⟩
def dd_when : He.DefD := ⟨("when", none), "when", "when", defArgs s_when, defBody s_when, defScope s_when, [], []⟩
def dd_in_time : He.DefD := ⟨("in_time", none), "in_time", "in_time", defArgs s_in_time, defBody s_in_time, defScope s_in_time, [], []⟩
def dd_Standing_init : He.DefD := ⟨("Standing", some "__init__"), "__init__", "Standing.__init__", defArgs s_Standing_init, defBody s_Standing_init, defScope s_Standing_init, [], []⟩
def dd_Standing_back : He.DefD := ⟨("Standing", some "back"), "back", "Standing.back", defArgs s_Standing_back, defBody s_Standing_back, defScope s_Standing_back, [], []⟩
def dd_Standing_holds : He.DefD := ⟨("Standing", some "holds"), "holds", "Standing.holds", defArgs s_Standing_holds, defBody s_Standing_holds, defScope s_Standing_holds, [], []⟩
def dd_Standing_moves : He.DefD := ⟨("Standing", some "moves"), "moves", "Standing.moves", defArgs s_Standing_moves, defBody s_Standing_moves, defScope s_Standing_moves, [], []⟩
def dd_Standing_go : He.DefD := ⟨("Standing", some "go"), "go", "Standing.go", defArgs s_Standing_go, defBody s_Standing_go, defScope s_Standing_go, [], []⟩
def dd_Standing_void : He.DefD := ⟨("Standing", some "void"), "void", "Standing.void", defArgs s_Standing_void, defBody s_Standing_void, defScope s_Standing_void, [], []⟩
def dd_Standing_spoil : He.DefD := ⟨("Standing", some "spoil"), "spoil", "Standing.spoil", defArgs s_Standing_spoil, defBody s_Standing_spoil, defScope s_Standing_spoil, [], []⟩
def dd_Standing_take : He.DefD := ⟨("Standing", some "take"), "take", "Standing.take", defArgs s_Standing_take, defBody s_Standing_take, defScope s_Standing_take, [], []⟩
def dd_Ledger_init : He.DefD := ⟨("Ledger", some "__init__"), "__init__", "Ledger.__init__", defArgs s_Ledger_init, defBody s_Ledger_init, defScope s_Ledger_init, [], []⟩
def dd_Ledger_check : He.DefD := ⟨("Ledger", some "check"), "check", "Ledger.check", defArgs s_Ledger_check, defBody s_Ledger_check, defScope s_Ledger_check, [], []⟩
def dd_Ledger_tell : He.DefD := ⟨("Ledger", some "tell"), "tell", "Ledger.tell", defArgs s_Ledger_tell, defBody s_Ledger_tell, defScope s_Ledger_tell, [], []⟩
def dd_Ledger_lines : He.DefD := ⟨("Ledger", some "lines"), "lines", "Ledger.lines", defArgs s_Ledger_lines, defBody s_Ledger_lines, defScope s_Ledger_lines, [], []⟩
def dd_Ledger_standing : He.DefD := ⟨("Ledger", some "standing"), "standing", "Ledger.standing", defArgs s_Ledger_standing, defBody s_Ledger_standing, defScope s_Ledger_standing, [], []⟩
def dd_Ledger_voids : He.DefD := ⟨("Ledger", some "voids"), "voids", "Ledger.voids", defArgs s_Ledger_voids, defBody s_Ledger_voids, defScope s_Ledger_voids, [], []⟩
def dd_Ledger_undone : He.DefD := ⟨("Ledger", some "undone"), "undone", "Ledger.undone", defArgs s_Ledger_undone, defBody s_Ledger_undone, defScope s_Ledger_undone, [], []⟩
def dd_Ledger_hold : He.DefD := ⟨("Ledger", some "hold"), "hold", "Ledger.hold", defArgs s_Ledger_hold, defBody s_Ledger_hold, defScope s_Ledger_hold, [], []⟩
def dd_Ledger_spoiled : He.DefD := ⟨("Ledger", some "spoiled"), "spoiled", "Ledger.spoiled", defArgs s_Ledger_spoiled, defBody s_Ledger_spoiled, defScope s_Ledger_spoiled, [], []⟩
def dd_Ledger_check_thing : He.DefD := ⟨("Ledger", some "check_thing"), "check_thing", "Ledger.check_thing", defArgs s_Ledger_check_thing, defBody s_Ledger_check_thing, defScope s_Ledger_check_thing, [], []⟩
def dd_Ledger_holder : He.DefD := ⟨("Ledger", some "holder"), "holder", "Ledger.holder", defArgs s_Ledger_holder, defBody s_Ledger_holder, defScope s_Ledger_holder, [], []⟩
def dd_Ledger_row : He.DefD := ⟨("Ledger", some "row"), "row", "Ledger.row", defArgs s_Ledger_row, defBody s_Ledger_row, defScope s_Ledger_row, [], []⟩
def dd_Ledger_holders : He.DefD := ⟨("Ledger", some "holders"), "holders", "Ledger.holders", defArgs s_Ledger_holders, defBody s_Ledger_holders, defScope s_Ledger_holders, [], []⟩
def dd_l_cell_at : He.DefD := ⟨("_law_cell_at", none), "_law_cell_at", "_law_cell_at", defArgs s_l_cell_at, defBody s_l_cell_at, defScope s_l_cell_at, [], []⟩
def dd_l_source : He.DefD := ⟨("_law_source", none), "_law_source", "_law_source", defArgs s_l_source, defBody s_l_source, defScope s_l_source, [], []⟩
def dd_l_next : He.DefD := ⟨("_law_next", none), "_law_next", "_law_next", defArgs s_l_next, defBody s_l_next, defScope s_l_next, [], []⟩
def dd_l_names : He.DefD := ⟨("_law_names", none), "_law_names", "_law_names", defArgs s_l_names, defBody s_l_names, defScope s_l_names, [], []⟩
def dd_l_breed_rows : He.DefD := ⟨("_law_breed_rows", none), "_law_breed_rows", "_law_breed_rows", defArgs s_l_breed_rows, defBody s_l_breed_rows, defScope s_l_breed_rows, [], []⟩
def dd_l_bed_rows : He.DefD := ⟨("_law_bed_rows", none), "_law_bed_rows", "_law_bed_rows", defArgs s_l_bed_rows, defBody s_l_bed_rows, defScope s_l_bed_rows, [], []⟩
def dd_l_field : He.DefD := ⟨("_law_field", none), "_law_field", "_law_field", defArgs s_l_field, defBody s_l_field, defScope s_l_field, [], []⟩
def dd_l_made : He.DefD := ⟨("_law_made", none), "_law_made", "_law_made", defArgs s_l_made, defBody s_l_made, defScope s_l_made, [], []⟩
def dd_l_things : He.DefD := ⟨("_law_things", none), "_law_things", "_law_things", defArgs s_l_things, defBody s_l_things, defScope s_l_things, [], []⟩
def dd_l_in_time : He.DefD := ⟨("_law_in_time", none), "_law_in_time", "_law_in_time", defArgs s_l_in_time, defBody s_l_in_time, defScope s_l_in_time, [], []⟩
def dd_l_back : He.DefD := ⟨("_law_back", none), "_law_back", "_law_back", defArgs s_l_back, defBody s_l_back, defScope s_l_back, [], []⟩
def dd_l_begin : He.DefD := ⟨("_law_begin", none), "_law_begin", "_law_begin", defArgs s_l_begin, defBody s_l_begin, defScope s_l_begin, [], []⟩
def dd_l_keys : He.DefD := ⟨("_law_keys", none), "_law_keys", "_law_keys", defArgs s_l_keys, defBody s_l_keys, defScope s_l_keys, [], []⟩
def dd_l_promised : He.DefD := ⟨("_law_promised", none), "_law_promised", "_law_promised", defArgs s_l_promised, defBody s_l_promised, defScope s_l_promised, [], []⟩
def dd_l_spoiled : He.DefD := ⟨("_law_spoiled", none), "_law_spoiled", "_law_spoiled", defArgs s_l_spoiled, defBody s_l_spoiled, defScope s_l_spoiled, [], []⟩
def dd_l_led : He.DefD := ⟨("_law_led", none), "_law_led", "_law_led", defArgs s_l_led, defBody s_l_led, defScope s_l_led, [], []⟩
def dd_l_likely : He.DefD := ⟨("_law_likely", none), "_law_likely", "_law_likely", defArgs s_l_likely, defBody s_l_likely, defScope s_l_likely, [], []⟩
def dd_l_row_of : He.DefD := ⟨("_law_row_of", none), "_law_row_of", "_law_row_of", defArgs s_l_row_of, defBody s_l_row_of, defScope s_l_row_of, [], []⟩
def dd_l_scene : He.DefD := ⟨("_law_scene", none), "_law_scene", "_law_scene", defArgs s_l_scene, defBody s_l_scene, defScope s_l_scene, [], []⟩
def dd_l_rows : He.DefD := ⟨("_law_rows", none), "_law_rows", "_law_rows", defArgs s_l_rows, defBody s_l_rows, defScope s_l_rows, [], []⟩
def dd_l_told : He.DefD := ⟨("_law_told", none), "_law_told", "_law_told", defArgs s_l_told, defBody s_l_told, defScope s_l_told, [], []⟩
def dd_l_bed : He.DefD := ⟨("_law_bed", none), "_law_bed", "_law_bed", defArgs s_l_bed, defBody s_l_bed, defScope s_l_bed, [], []⟩
def dd_l_of : He.DefD := ⟨("_law_of", none), "_law_of", "_law_of", defArgs s_l_of, defBody s_l_of, defScope s_l_of, [], []⟩
def dd_l_undone : He.DefD := ⟨("_law_undone", none), "_law_undone", "_law_undone", defArgs s_l_undone, defBody s_l_undone, defScope s_l_undone, [], []⟩
def dd_law : He.DefD := ⟨("law", none), "law", "law", defArgs s_law, defBody s_law, defScope s_law, [], []⟩
def fn0 : List He.DefD := [dd_is_whole, dd_is_between, dd_is_from, dd_is_name, dd_common, dd_Part_init, dd_Part_eq, dd_plus, dd_minus, dd_less, dd_is_grade, dd_are_grades, dd_Breed_init, dd_first_wrong, dd_Bed_init, dd_are_unlike, dd_are_breeds, dd_are_beds, dd_Field_init, dd_Field_bed_of]
def fn1 : List He.DefD := [dd_Field_bed_names, dd_is_thing, dd_has, dd_is_rule, dd_goes_with, dd_is_going, dd_Promise_init, dd_Spoiling_init, dd_is_line, dd_when, dd_in_time, dd_Standing_init, dd_Standing_back, dd_Standing_holds, dd_Standing_moves, dd_Standing_go, dd_Standing_void, dd_Standing_spoil, dd_Standing_take, dd_Ledger_init]
def fn2 : List He.DefD := [dd_Ledger_check, dd_Ledger_tell, dd_Ledger_lines, dd_Ledger_standing, dd_Ledger_voids, dd_Ledger_undone, dd_Ledger_hold, dd_Ledger_spoiled, dd_Ledger_check_thing, dd_Ledger_holder, dd_Ledger_row, dd_Ledger_holders, dd_l_cell_at, dd_l_source, dd_l_next, dd_l_names, dd_l_breed_rows, dd_l_bed_rows, dd_l_field, dd_l_made]
def fn3 : List He.DefD := [dd_l_things, dd_l_in_time, dd_l_back, dd_l_begin, dd_l_keys, dd_l_promised, dd_l_spoiled, dd_l_led, dd_l_likely, dd_l_row_of, dd_l_scene, dd_l_rows, dd_l_told, dd_l_bed, dd_l_of, dd_l_undone, dd_law]
def fn : List He.DefD := fn0 ++ (fn1 ++ (fn2 ++ (fn3)))
def fa0 : List He.Fa := [.glo "is_whole", .glo "is_between", .glo "is_from", .glo "is_name", .glo "common", .glo "plus", .glo "minus", .glo "less", .glo "is_grade", .glo "are_grades", .glo "first_wrong", .glo "are_unlike", .glo "are_breeds", .glo "are_beds", .glo "is_thing", .glo "has", .glo "is_rule", .glo "goes_with", .glo "is_going", .glo "is_line", .glo "when", .glo "in_time", .glo "_law_cell_at", .glo "_law_source", .glo "_law_next", .glo "_law_names", .glo "_law_breed_rows", .glo "_law_bed_rows", .glo "_law_field", .glo "_law_made"]
def fa1 : List He.Fa := [.glo "_law_things", .glo "_law_in_time", .glo "_law_back", .glo "_law_begin", .glo "_law_keys", .glo "_law_promised", .glo "_law_spoiled", .glo "_law_led", .glo "_law_likely", .glo "_law_row_of", .glo "_law_scene", .glo "_law_rows", .glo "_law_told", .glo "_law_bed", .glo "_law_of", .glo "_law_undone", .glo "law", .glo "Part", .cls "Part", .mkr "Part", .noat "Part" "top", .noat "Part" "bottom", .meth "Part" "__eq__", .glo "Breed", .cls "Breed", .mkr "Breed", .noat "Breed" "name", .noat "Breed" "grades", .glo "Bed", .cls "Bed"]
def fa2 : List He.Fa := [.mkr "Bed", .noat "Bed" "name", .noat "Bed" "breed", .noat "Bed" "owner", .noat "Bed" "roots", .noat "Bed" "guess", .noat "Bed" "offsets", .noat "Bed" "kind", .glo "Field", .cls "Field", .mkr "Field", .noat "Field" "grown", .noat "Field" "dug", .meth "Field" "bed_of", .meth "Field" "bed_names", .glo "Promise", .cls "Promise", .mkr "Promise", .noat "Promise" "number", .noat "Promise" "moment", .noat "Promise" "seller", .noat "Promise" "buyer", .noat "Promise" "thing", .noat "Promise" "price", .noat "Promise" "rule", .noat "Promise" "offsets", .noat "Promise" "earnest", .glo "Spoiling", .cls "Spoiling", .mkr "Spoiling"]
def fa3 : List He.Fa := [.noat "Spoiling" "number", .noat "Spoiling" "moment", .noat "Spoiling" "bed", .glo "Standing", .cls "Standing", .mkr "Standing", .noat "Standing" "field", .noat "Standing" "held", .noat "Standing" "parts", .noat "Standing" "spoilt", .noat "Standing" "good", .noat "Standing" "void_rows", .noat "Standing" "gone", .meth "Standing" "back", .meth "Standing" "holds", .meth "Standing" "moves", .meth "Standing" "go", .meth "Standing" "void", .meth "Standing" "spoil", .meth "Standing" "take", .glo "Ledger", .cls "Ledger", .mkr "Ledger", .noat "Ledger" "field", .noat "Ledger" "known_lines", .noat "Ledger" "come", .meth "Ledger" "check", .meth "Ledger" "tell", .meth "Ledger" "lines", .meth "Ledger" "standing"]
def fa4 : List He.Fa := [.meth "Ledger" "voids", .meth "Ledger" "undone", .meth "Ledger" "hold", .meth "Ledger" "spoiled", .meth "Ledger" "check_thing", .meth "Ledger" "holder", .meth "Ledger" "row", .meth "Ledger" "holders", .free "abs", .free "all", .free "bool", .free "dict", .free "enumerate", .free "int", .free "isinstance", .free "len", .free "list", .free "max", .free "min", .free "range", .free "set", .free "sorted", .free "str", .free "tuple", .str "LETTERS" "abcdefghijklmnopqrstuvwxyz", .int "MOST_LETTERS" 8, .int "MOST_GRADES" 6, .int "MOST_LEAST" 1000000, .int "MOST_HUNDREDTHS" 1000, .int "MOST_BEDS" 6]
def fa5 : List He.Fa := [.int "MOST_ROOTS" 12, .int "MOST_GUESS" 60, .int "MOST_OFFSETS" 60, .int "MOST_SUM" 1000000, .int "MOST_BOTTOM" 12, .int "MOST_LINES" 120, .glo "KINDS", .glo "RULES"]
def fa : List He.Fa := fa0 ++ (fa1 ++ (fa2 ++ (fa3 ++ (fa4 ++ (fa5)))))
/-- what isinstance asks of an own class -/
def insB (K : PySem.W.Frag) (x : Str) : Bool := He.eqO (PySem.W.findIn K (.ref (He.ga K x)) "__class__") (some (some (.builtin "object.__class__"))) && (decide (PySem.W.mroIn K (He.ga K x) (.type "object") = some true))
def ex (K : PySem.W.Frag) : Bool := He.eqO (PySem.W.specialIn K (.builtin "object.__class__") "__get__") (some (some (.builtin "getset_descriptor.__get__"))) && decide (PySem.W.takesIn K (.builtin "object.__class__") = some true) && insB K "Breed" && insB K "Bed" && insB K "Part" && insB K "Promise" && insB K "Spoiling" && decide (PySem.W.kitOne K (.ref (He.ga K "Spoiling")) (.ref (He.ga K "Promise")) = some false) && He.tupB K "KINDS" [.str "roots", .str "shares"] && He.tupB K "RULES" [.str "flat", .str "weighed", .str "graded", .str "gram"]
/-! ### what the walks lean on -/
structure Tx (K : PySem.W.Frag) (mg : Str → Option Value) : Prop where
  h : ∃ g : Heap, K.In g ∧ g.Ns mainGlobals mg
  c : He.SaysD fa fn K
  e : ex K = true
def fdOf (K : PySem.W.Frag) (d : He.DefD) : FuncData := match K.lookup (He.fAd K d.at_) with
  | some ⟨_, _, .func fd, _⟩ => fd
  | _ => PySem.W.fnOf "" "" ⟨[], [], none, [], [], none, []⟩ [] ⟨.function, [], false, false, []⟩ .none .none .none .none none .none .none
theorem fdOf_eq {K : PySem.W.Frag} {d : He.DefD} {fd : FuncData} {x q : Str} {a : Arguments} {b : List Stmt} {s : Scope} {dv : List V} {kw : List (Str × V)} (F : FunD K x q a b s dv kw (He.fAd K d.at_) fd) : fdOf K d = fd := by
  obtain ⟨oc, od, dV, kV, doc, pm, an, cdv, ct, osl, e, lk, r⟩ := F.ex
  unfold fdOf
  rw [lk]
section
variable {K : PySem.W.Frag} {mg : Str → Option Value}
theorem Tx.fn (T : Tx K mg) (i : Nat) {d : He.DefD} (h : fn[i]? = some d) : FunD K d.name d.qual d.params d.body d.scope (d.dvs K) (d.kws K) (He.fAd K d.at_) (fdOf K d) := by
  obtain ⟨fd, F⟩ := T.c.def_ i h
  rw [fdOf_eq F]
  exact F
theorem Tx.glo (T : Tx K mg) (i : Nat) {x : Str} (h : fa[i]? = some (.glo x)) : mg x = some (.ref (He.ga K x)) := let ⟨_, X, G⟩ := T.h; He.glo_ok X G (T.c.fact i h)
theorem Tx.free (T : Tx K mg) (i : Nat) {x : Str} (h : fa[i]? = some (.free x)) : mg x = none := let ⟨_, X, G⟩ := T.h; He.free_ok X G (T.c.fact i h)
theorem Tx.int (T : Tx K mg) (i : Nat) {x : Str} {n : Int} (h : fa[i]? = some (.int x n)) : ∃ u, mg x = some u ∧ RelV (.int n) u := let ⟨_, X, G⟩ := T.h; let ⟨t, e⟩ := He.int_ok X G (T.c.fact i h); ⟨_, e, t, rfl⟩
theorem Tx.str (T : Tx K mg) (i : Nat) {x z : Str} (h : fa[i]? = some (.str x z)) : ∃ u, mg x = some u ∧ RelV (.str z) u := let ⟨_, X, G⟩ := T.h; let ⟨t, e⟩ := He.str_ok X G (T.c.fact i h); ⟨_, e, t, rfl⟩
theorem Tx.cls (T : Tx K mg) (i : Nat) {x : Str} (h : fa[i]? = some (.cls x)) : Cls K (He.ga K x) := He.cls_ok (T.c.fact i h)
theorem Tx.mkr (T : Tx K mg) (i : Nat) {x : Str} (h : fa[i]? = some (.mkr x)) : Mk K (He.ga K x) (He.ma K (He.ga K x) "__init__") := He.mkr_ok (T.c.fact i h)
theorem Tx.noat (T : Tx K mg) (i : Nat) {x f : Str} (h : fa[i]? = some (.noat x f)) : NoAttr K (He.ga K x) f := He.noat_ok (T.c.fact i h)
theorem Tx.meth (T : Tx K mg) (i : Nat) {x m : Str} (h : fa[i]? = some (.meth x m)) : Meth K (He.ga K x) m (He.ma K (He.ga K x) m) := He.meth_ok (T.c.fact i h)
theorem Tx.g_is_whole (T : Tx K mg) : mg "is_whole" = some (.ref (He.ga K "is_whole")) := T.glo 0 (by rfl)
theorem Tx.g_is_between (T : Tx K mg) : mg "is_between" = some (.ref (He.ga K "is_between")) := T.glo 1 (by rfl)
theorem Tx.g_is_from (T : Tx K mg) : mg "is_from" = some (.ref (He.ga K "is_from")) := T.glo 2 (by rfl)
theorem Tx.g_is_name (T : Tx K mg) : mg "is_name" = some (.ref (He.ga K "is_name")) := T.glo 3 (by rfl)
theorem Tx.g_common (T : Tx K mg) : mg "common" = some (.ref (He.ga K "common")) := T.glo 4 (by rfl)
theorem Tx.g_plus (T : Tx K mg) : mg "plus" = some (.ref (He.ga K "plus")) := T.glo 5 (by rfl)
theorem Tx.g_minus (T : Tx K mg) : mg "minus" = some (.ref (He.ga K "minus")) := T.glo 6 (by rfl)
theorem Tx.g_less (T : Tx K mg) : mg "less" = some (.ref (He.ga K "less")) := T.glo 7 (by rfl)
theorem Tx.g_is_grade (T : Tx K mg) : mg "is_grade" = some (.ref (He.ga K "is_grade")) := T.glo 8 (by rfl)
theorem Tx.g_are_grades (T : Tx K mg) : mg "are_grades" = some (.ref (He.ga K "are_grades")) := T.glo 9 (by rfl)
theorem Tx.g_first_wrong (T : Tx K mg) : mg "first_wrong" = some (.ref (He.ga K "first_wrong")) := T.glo 10 (by rfl)
theorem Tx.g_are_unlike (T : Tx K mg) : mg "are_unlike" = some (.ref (He.ga K "are_unlike")) := T.glo 11 (by rfl)
theorem Tx.g_are_breeds (T : Tx K mg) : mg "are_breeds" = some (.ref (He.ga K "are_breeds")) := T.glo 12 (by rfl)
theorem Tx.g_are_beds (T : Tx K mg) : mg "are_beds" = some (.ref (He.ga K "are_beds")) := T.glo 13 (by rfl)
theorem Tx.g_is_thing (T : Tx K mg) : mg "is_thing" = some (.ref (He.ga K "is_thing")) := T.glo 14 (by rfl)
theorem Tx.g_has (T : Tx K mg) : mg "has" = some (.ref (He.ga K "has")) := T.glo 15 (by rfl)
theorem Tx.g_is_rule (T : Tx K mg) : mg "is_rule" = some (.ref (He.ga K "is_rule")) := T.glo 16 (by rfl)
theorem Tx.g_goes_with (T : Tx K mg) : mg "goes_with" = some (.ref (He.ga K "goes_with")) := T.glo 17 (by rfl)
theorem Tx.g_is_going (T : Tx K mg) : mg "is_going" = some (.ref (He.ga K "is_going")) := T.glo 18 (by rfl)
theorem Tx.g_is_line (T : Tx K mg) : mg "is_line" = some (.ref (He.ga K "is_line")) := T.glo 19 (by rfl)
theorem Tx.g_when (T : Tx K mg) : mg "when" = some (.ref (He.ga K "when")) := T.glo 20 (by rfl)
theorem Tx.g_in_time (T : Tx K mg) : mg "in_time" = some (.ref (He.ga K "in_time")) := T.glo 21 (by rfl)
theorem Tx.g_l_cell_at (T : Tx K mg) : mg "_law_cell_at" = some (.ref (He.ga K "_law_cell_at")) := T.glo 22 (by rfl)
theorem Tx.g_l_source (T : Tx K mg) : mg "_law_source" = some (.ref (He.ga K "_law_source")) := T.glo 23 (by rfl)
theorem Tx.g_l_next (T : Tx K mg) : mg "_law_next" = some (.ref (He.ga K "_law_next")) := T.glo 24 (by rfl)
theorem Tx.g_l_names (T : Tx K mg) : mg "_law_names" = some (.ref (He.ga K "_law_names")) := T.glo 25 (by rfl)
theorem Tx.g_l_breed_rows (T : Tx K mg) : mg "_law_breed_rows" = some (.ref (He.ga K "_law_breed_rows")) := T.glo 26 (by rfl)
theorem Tx.g_l_bed_rows (T : Tx K mg) : mg "_law_bed_rows" = some (.ref (He.ga K "_law_bed_rows")) := T.glo 27 (by rfl)
theorem Tx.g_l_field (T : Tx K mg) : mg "_law_field" = some (.ref (He.ga K "_law_field")) := T.glo 28 (by rfl)
theorem Tx.g_l_made (T : Tx K mg) : mg "_law_made" = some (.ref (He.ga K "_law_made")) := T.glo 29 (by rfl)
theorem Tx.g_l_things (T : Tx K mg) : mg "_law_things" = some (.ref (He.ga K "_law_things")) := T.glo 30 (by rfl)
theorem Tx.g_l_in_time (T : Tx K mg) : mg "_law_in_time" = some (.ref (He.ga K "_law_in_time")) := T.glo 31 (by rfl)
theorem Tx.g_l_back (T : Tx K mg) : mg "_law_back" = some (.ref (He.ga K "_law_back")) := T.glo 32 (by rfl)
theorem Tx.g_l_begin (T : Tx K mg) : mg "_law_begin" = some (.ref (He.ga K "_law_begin")) := T.glo 33 (by rfl)
theorem Tx.g_l_keys (T : Tx K mg) : mg "_law_keys" = some (.ref (He.ga K "_law_keys")) := T.glo 34 (by rfl)
theorem Tx.g_l_promised (T : Tx K mg) : mg "_law_promised" = some (.ref (He.ga K "_law_promised")) := T.glo 35 (by rfl)
theorem Tx.g_l_spoiled (T : Tx K mg) : mg "_law_spoiled" = some (.ref (He.ga K "_law_spoiled")) := T.glo 36 (by rfl)
theorem Tx.g_l_led (T : Tx K mg) : mg "_law_led" = some (.ref (He.ga K "_law_led")) := T.glo 37 (by rfl)
theorem Tx.g_l_likely (T : Tx K mg) : mg "_law_likely" = some (.ref (He.ga K "_law_likely")) := T.glo 38 (by rfl)
theorem Tx.g_l_row_of (T : Tx K mg) : mg "_law_row_of" = some (.ref (He.ga K "_law_row_of")) := T.glo 39 (by rfl)
theorem Tx.g_l_scene (T : Tx K mg) : mg "_law_scene" = some (.ref (He.ga K "_law_scene")) := T.glo 40 (by rfl)
theorem Tx.g_l_rows (T : Tx K mg) : mg "_law_rows" = some (.ref (He.ga K "_law_rows")) := T.glo 41 (by rfl)
theorem Tx.g_l_told (T : Tx K mg) : mg "_law_told" = some (.ref (He.ga K "_law_told")) := T.glo 42 (by rfl)
theorem Tx.g_l_bed (T : Tx K mg) : mg "_law_bed" = some (.ref (He.ga K "_law_bed")) := T.glo 43 (by rfl)
theorem Tx.g_l_of (T : Tx K mg) : mg "_law_of" = some (.ref (He.ga K "_law_of")) := T.glo 44 (by rfl)
theorem Tx.g_l_undone (T : Tx K mg) : mg "_law_undone" = some (.ref (He.ga K "_law_undone")) := T.glo 45 (by rfl)
theorem Tx.g_law (T : Tx K mg) : mg "law" = some (.ref (He.ga K "law")) := T.glo 46 (by rfl)
theorem Tx.g_Part (T : Tx K mg) : mg "Part" = some (.ref (He.ga K "Part")) := T.glo 47 (by rfl)
theorem Tx.c_Part (T : Tx K mg) : Cls K (He.ga K "Part") := T.cls 48 (by rfl)
theorem Tx.mk_Part (T : Tx K mg) : Mk K (He.ga K "Part") (He.ma K (He.ga K "Part") "__init__") := T.mkr 49 (by rfl)
theorem Tx.n_Part_top (T : Tx K mg) : NoAttr K (He.ga K "Part") "top" := T.noat 50 (by rfl)
theorem Tx.n_Part_bottom (T : Tx K mg) : NoAttr K (He.ga K "Part") "bottom" := T.noat 51 (by rfl)
theorem Tx.m_Part_eq (T : Tx K mg) : Meth K (He.ga K "Part") "__eq__" (He.ma K (He.ga K "Part") "__eq__") := T.meth 52 (by rfl)
theorem Tx.g_Breed (T : Tx K mg) : mg "Breed" = some (.ref (He.ga K "Breed")) := T.glo 53 (by rfl)
theorem Tx.c_Breed (T : Tx K mg) : Cls K (He.ga K "Breed") := T.cls 54 (by rfl)
theorem Tx.mk_Breed (T : Tx K mg) : Mk K (He.ga K "Breed") (He.ma K (He.ga K "Breed") "__init__") := T.mkr 55 (by rfl)
theorem Tx.n_Breed_name (T : Tx K mg) : NoAttr K (He.ga K "Breed") "name" := T.noat 56 (by rfl)
theorem Tx.n_Breed_grades (T : Tx K mg) : NoAttr K (He.ga K "Breed") "grades" := T.noat 57 (by rfl)
theorem Tx.g_Bed (T : Tx K mg) : mg "Bed" = some (.ref (He.ga K "Bed")) := T.glo 58 (by rfl)
theorem Tx.c_Bed (T : Tx K mg) : Cls K (He.ga K "Bed") := T.cls 59 (by rfl)
theorem Tx.mk_Bed (T : Tx K mg) : Mk K (He.ga K "Bed") (He.ma K (He.ga K "Bed") "__init__") := T.mkr 60 (by rfl)
theorem Tx.n_Bed_name (T : Tx K mg) : NoAttr K (He.ga K "Bed") "name" := T.noat 61 (by rfl)
theorem Tx.n_Bed_breed (T : Tx K mg) : NoAttr K (He.ga K "Bed") "breed" := T.noat 62 (by rfl)
theorem Tx.n_Bed_owner (T : Tx K mg) : NoAttr K (He.ga K "Bed") "owner" := T.noat 63 (by rfl)
theorem Tx.n_Bed_roots (T : Tx K mg) : NoAttr K (He.ga K "Bed") "roots" := T.noat 64 (by rfl)
theorem Tx.n_Bed_guess (T : Tx K mg) : NoAttr K (He.ga K "Bed") "guess" := T.noat 65 (by rfl)
theorem Tx.n_Bed_offsets (T : Tx K mg) : NoAttr K (He.ga K "Bed") "offsets" := T.noat 66 (by rfl)
theorem Tx.n_Bed_kind (T : Tx K mg) : NoAttr K (He.ga K "Bed") "kind" := T.noat 67 (by rfl)
theorem Tx.g_Field (T : Tx K mg) : mg "Field" = some (.ref (He.ga K "Field")) := T.glo 68 (by rfl)
theorem Tx.c_Field (T : Tx K mg) : Cls K (He.ga K "Field") := T.cls 69 (by rfl)
theorem Tx.mk_Field (T : Tx K mg) : Mk K (He.ga K "Field") (He.ma K (He.ga K "Field") "__init__") := T.mkr 70 (by rfl)
theorem Tx.n_Field_grown (T : Tx K mg) : NoAttr K (He.ga K "Field") "grown" := T.noat 71 (by rfl)
theorem Tx.n_Field_dug (T : Tx K mg) : NoAttr K (He.ga K "Field") "dug" := T.noat 72 (by rfl)
theorem Tx.m_Field_bed_of (T : Tx K mg) : Meth K (He.ga K "Field") "bed_of" (He.ma K (He.ga K "Field") "bed_of") := T.meth 73 (by rfl)
theorem Tx.m_Field_bed_names (T : Tx K mg) : Meth K (He.ga K "Field") "bed_names" (He.ma K (He.ga K "Field") "bed_names") := T.meth 74 (by rfl)
theorem Tx.g_Promise (T : Tx K mg) : mg "Promise" = some (.ref (He.ga K "Promise")) := T.glo 75 (by rfl)
theorem Tx.c_Promise (T : Tx K mg) : Cls K (He.ga K "Promise") := T.cls 76 (by rfl)
theorem Tx.mk_Promise (T : Tx K mg) : Mk K (He.ga K "Promise") (He.ma K (He.ga K "Promise") "__init__") := T.mkr 77 (by rfl)
theorem Tx.n_Promise_number (T : Tx K mg) : NoAttr K (He.ga K "Promise") "number" := T.noat 78 (by rfl)
theorem Tx.n_Promise_moment (T : Tx K mg) : NoAttr K (He.ga K "Promise") "moment" := T.noat 79 (by rfl)
theorem Tx.n_Promise_seller (T : Tx K mg) : NoAttr K (He.ga K "Promise") "seller" := T.noat 80 (by rfl)
theorem Tx.n_Promise_buyer (T : Tx K mg) : NoAttr K (He.ga K "Promise") "buyer" := T.noat 81 (by rfl)
theorem Tx.n_Promise_thing (T : Tx K mg) : NoAttr K (He.ga K "Promise") "thing" := T.noat 82 (by rfl)
theorem Tx.n_Promise_price (T : Tx K mg) : NoAttr K (He.ga K "Promise") "price" := T.noat 83 (by rfl)
theorem Tx.n_Promise_rule (T : Tx K mg) : NoAttr K (He.ga K "Promise") "rule" := T.noat 84 (by rfl)
theorem Tx.n_Promise_offsets (T : Tx K mg) : NoAttr K (He.ga K "Promise") "offsets" := T.noat 85 (by rfl)
theorem Tx.n_Promise_earnest (T : Tx K mg) : NoAttr K (He.ga K "Promise") "earnest" := T.noat 86 (by rfl)
theorem Tx.g_Spoiling (T : Tx K mg) : mg "Spoiling" = some (.ref (He.ga K "Spoiling")) := T.glo 87 (by rfl)
theorem Tx.c_Spoiling (T : Tx K mg) : Cls K (He.ga K "Spoiling") := T.cls 88 (by rfl)
theorem Tx.mk_Spoiling (T : Tx K mg) : Mk K (He.ga K "Spoiling") (He.ma K (He.ga K "Spoiling") "__init__") := T.mkr 89 (by rfl)
theorem Tx.n_Spoiling_number (T : Tx K mg) : NoAttr K (He.ga K "Spoiling") "number" := T.noat 90 (by rfl)
theorem Tx.n_Spoiling_moment (T : Tx K mg) : NoAttr K (He.ga K "Spoiling") "moment" := T.noat 91 (by rfl)
theorem Tx.n_Spoiling_bed (T : Tx K mg) : NoAttr K (He.ga K "Spoiling") "bed" := T.noat 92 (by rfl)
theorem Tx.g_Standing (T : Tx K mg) : mg "Standing" = some (.ref (He.ga K "Standing")) := T.glo 93 (by rfl)
theorem Tx.c_Standing (T : Tx K mg) : Cls K (He.ga K "Standing") := T.cls 94 (by rfl)
theorem Tx.mk_Standing (T : Tx K mg) : Mk K (He.ga K "Standing") (He.ma K (He.ga K "Standing") "__init__") := T.mkr 95 (by rfl)
theorem Tx.n_Standing_field (T : Tx K mg) : NoAttr K (He.ga K "Standing") "field" := T.noat 96 (by rfl)
theorem Tx.n_Standing_held (T : Tx K mg) : NoAttr K (He.ga K "Standing") "held" := T.noat 97 (by rfl)
theorem Tx.n_Standing_parts (T : Tx K mg) : NoAttr K (He.ga K "Standing") "parts" := T.noat 98 (by rfl)
theorem Tx.n_Standing_spoilt (T : Tx K mg) : NoAttr K (He.ga K "Standing") "spoilt" := T.noat 99 (by rfl)
theorem Tx.n_Standing_good (T : Tx K mg) : NoAttr K (He.ga K "Standing") "good" := T.noat 100 (by rfl)
theorem Tx.n_Standing_void_rows (T : Tx K mg) : NoAttr K (He.ga K "Standing") "void_rows" := T.noat 101 (by rfl)
theorem Tx.n_Standing_gone (T : Tx K mg) : NoAttr K (He.ga K "Standing") "gone" := T.noat 102 (by rfl)
theorem Tx.m_Standing_back (T : Tx K mg) : Meth K (He.ga K "Standing") "back" (He.ma K (He.ga K "Standing") "back") := T.meth 103 (by rfl)
theorem Tx.m_Standing_holds (T : Tx K mg) : Meth K (He.ga K "Standing") "holds" (He.ma K (He.ga K "Standing") "holds") := T.meth 104 (by rfl)
theorem Tx.m_Standing_moves (T : Tx K mg) : Meth K (He.ga K "Standing") "moves" (He.ma K (He.ga K "Standing") "moves") := T.meth 105 (by rfl)
theorem Tx.m_Standing_go (T : Tx K mg) : Meth K (He.ga K "Standing") "go" (He.ma K (He.ga K "Standing") "go") := T.meth 106 (by rfl)
theorem Tx.m_Standing_void (T : Tx K mg) : Meth K (He.ga K "Standing") "void" (He.ma K (He.ga K "Standing") "void") := T.meth 107 (by rfl)
theorem Tx.m_Standing_spoil (T : Tx K mg) : Meth K (He.ga K "Standing") "spoil" (He.ma K (He.ga K "Standing") "spoil") := T.meth 108 (by rfl)
theorem Tx.m_Standing_take (T : Tx K mg) : Meth K (He.ga K "Standing") "take" (He.ma K (He.ga K "Standing") "take") := T.meth 109 (by rfl)
theorem Tx.g_Ledger (T : Tx K mg) : mg "Ledger" = some (.ref (He.ga K "Ledger")) := T.glo 110 (by rfl)
theorem Tx.c_Ledger (T : Tx K mg) : Cls K (He.ga K "Ledger") := T.cls 111 (by rfl)
theorem Tx.mk_Ledger (T : Tx K mg) : Mk K (He.ga K "Ledger") (He.ma K (He.ga K "Ledger") "__init__") := T.mkr 112 (by rfl)
theorem Tx.n_Ledger_field (T : Tx K mg) : NoAttr K (He.ga K "Ledger") "field" := T.noat 113 (by rfl)
theorem Tx.n_Ledger_known_lines (T : Tx K mg) : NoAttr K (He.ga K "Ledger") "known_lines" := T.noat 114 (by rfl)
theorem Tx.n_Ledger_come (T : Tx K mg) : NoAttr K (He.ga K "Ledger") "come" := T.noat 115 (by rfl)
theorem Tx.m_Ledger_check (T : Tx K mg) : Meth K (He.ga K "Ledger") "check" (He.ma K (He.ga K "Ledger") "check") := T.meth 116 (by rfl)
theorem Tx.m_Ledger_tell (T : Tx K mg) : Meth K (He.ga K "Ledger") "tell" (He.ma K (He.ga K "Ledger") "tell") := T.meth 117 (by rfl)
theorem Tx.m_Ledger_lines (T : Tx K mg) : Meth K (He.ga K "Ledger") "lines" (He.ma K (He.ga K "Ledger") "lines") := T.meth 118 (by rfl)
theorem Tx.m_Ledger_standing (T : Tx K mg) : Meth K (He.ga K "Ledger") "standing" (He.ma K (He.ga K "Ledger") "standing") := T.meth 119 (by rfl)
theorem Tx.m_Ledger_voids (T : Tx K mg) : Meth K (He.ga K "Ledger") "voids" (He.ma K (He.ga K "Ledger") "voids") := T.meth 120 (by rfl)
theorem Tx.m_Ledger_undone (T : Tx K mg) : Meth K (He.ga K "Ledger") "undone" (He.ma K (He.ga K "Ledger") "undone") := T.meth 121 (by rfl)
theorem Tx.m_Ledger_hold (T : Tx K mg) : Meth K (He.ga K "Ledger") "hold" (He.ma K (He.ga K "Ledger") "hold") := T.meth 122 (by rfl)
theorem Tx.m_Ledger_spoiled (T : Tx K mg) : Meth K (He.ga K "Ledger") "spoiled" (He.ma K (He.ga K "Ledger") "spoiled") := T.meth 123 (by rfl)
theorem Tx.m_Ledger_check_thing (T : Tx K mg) : Meth K (He.ga K "Ledger") "check_thing" (He.ma K (He.ga K "Ledger") "check_thing") := T.meth 124 (by rfl)
theorem Tx.m_Ledger_holder (T : Tx K mg) : Meth K (He.ga K "Ledger") "holder" (He.ma K (He.ga K "Ledger") "holder") := T.meth 125 (by rfl)
theorem Tx.m_Ledger_row (T : Tx K mg) : Meth K (He.ga K "Ledger") "row" (He.ma K (He.ga K "Ledger") "row") := T.meth 126 (by rfl)
theorem Tx.m_Ledger_holders (T : Tx K mg) : Meth K (He.ga K "Ledger") "holders" (He.ma K (He.ga K "Ledger") "holders") := T.meth 127 (by rfl)
theorem Tx.f_abs (T : Tx K mg) : mg "abs" = none := T.free 128 (by rfl)
theorem Tx.f_all (T : Tx K mg) : mg "all" = none := T.free 129 (by rfl)
theorem Tx.f_bool (T : Tx K mg) : mg "bool" = none := T.free 130 (by rfl)
theorem Tx.f_dict (T : Tx K mg) : mg "dict" = none := T.free 131 (by rfl)
theorem Tx.f_enumerate (T : Tx K mg) : mg "enumerate" = none := T.free 132 (by rfl)
theorem Tx.f_int (T : Tx K mg) : mg "int" = none := T.free 133 (by rfl)
theorem Tx.f_isinstance (T : Tx K mg) : mg "isinstance" = none := T.free 134 (by rfl)
theorem Tx.f_len (T : Tx K mg) : mg "len" = none := T.free 135 (by rfl)
theorem Tx.f_list (T : Tx K mg) : mg "list" = none := T.free 136 (by rfl)
theorem Tx.f_max (T : Tx K mg) : mg "max" = none := T.free 137 (by rfl)
theorem Tx.f_min (T : Tx K mg) : mg "min" = none := T.free 138 (by rfl)
theorem Tx.f_range (T : Tx K mg) : mg "range" = none := T.free 139 (by rfl)
theorem Tx.f_set (T : Tx K mg) : mg "set" = none := T.free 140 (by rfl)
theorem Tx.f_sorted (T : Tx K mg) : mg "sorted" = none := T.free 141 (by rfl)
theorem Tx.f_str (T : Tx K mg) : mg "str" = none := T.free 142 (by rfl)
theorem Tx.f_tuple (T : Tx K mg) : mg "tuple" = none := T.free 143 (by rfl)
theorem Tx.i_LETTERS (T : Tx K mg) : ∃ u, mg "LETTERS" = some u ∧ RelV (.str "abcdefghijklmnopqrstuvwxyz") u := T.str 144 (by rfl)
theorem Tx.i_MOST_LETTERS (T : Tx K mg) : ∃ u, mg "MOST_LETTERS" = some u ∧ RelV (.int 8) u := T.int 145 (by rfl)
theorem Tx.i_MOST_GRADES (T : Tx K mg) : ∃ u, mg "MOST_GRADES" = some u ∧ RelV (.int 6) u := T.int 146 (by rfl)
theorem Tx.i_MOST_LEAST (T : Tx K mg) : ∃ u, mg "MOST_LEAST" = some u ∧ RelV (.int 1000000) u := T.int 147 (by rfl)
theorem Tx.i_MOST_HUNDREDTHS (T : Tx K mg) : ∃ u, mg "MOST_HUNDREDTHS" = some u ∧ RelV (.int 1000) u := T.int 148 (by rfl)
theorem Tx.i_MOST_BEDS (T : Tx K mg) : ∃ u, mg "MOST_BEDS" = some u ∧ RelV (.int 6) u := T.int 149 (by rfl)
theorem Tx.i_MOST_ROOTS (T : Tx K mg) : ∃ u, mg "MOST_ROOTS" = some u ∧ RelV (.int 12) u := T.int 150 (by rfl)
theorem Tx.i_MOST_GUESS (T : Tx K mg) : ∃ u, mg "MOST_GUESS" = some u ∧ RelV (.int 60) u := T.int 151 (by rfl)
theorem Tx.i_MOST_OFFSETS (T : Tx K mg) : ∃ u, mg "MOST_OFFSETS" = some u ∧ RelV (.int 60) u := T.int 152 (by rfl)
theorem Tx.i_MOST_SUM (T : Tx K mg) : ∃ u, mg "MOST_SUM" = some u ∧ RelV (.int 1000000) u := T.int 153 (by rfl)
theorem Tx.i_MOST_BOTTOM (T : Tx K mg) : ∃ u, mg "MOST_BOTTOM" = some u ∧ RelV (.int 12) u := T.int 154 (by rfl)
theorem Tx.i_MOST_LINES (T : Tx K mg) : ∃ u, mg "MOST_LINES" = some u ∧ RelV (.int 120) u := T.int 155 (by rfl)
theorem Tx.g_KINDS (T : Tx K mg) : mg "KINDS" = some (.ref (He.ga K "KINDS")) := T.glo 156 (by rfl)
theorem Tx.g_RULES (T : Tx K mg) : mg "RULES" = some (.ref (He.ga K "RULES")) := T.glo 157 (by rfl)
theorem Tx.d_is_whole (T : Tx K mg) : FunD K "is_whole" "is_whole" (defArgs s_is_whole) (defBody s_is_whole) (defScope s_is_whole) (dd_is_whole.dvs K) [] (He.ga K "is_whole") (fdOf K dd_is_whole) := T.fn 0 (d := dd_is_whole) (by rfl)
theorem Tx.b_is_whole (T : Tx K mg) : L2.Binds K (fdOf K dd_is_whole) ["thing"] [] := T.d_is_whole.bindsN fun _ _ _ _ _ _ us hl => match us, hl with | [_], _ => rfl
abbrev N_is_whole : List Str := ["thing"]
theorem sc_is_whole : FnScope N_is_whole ["thing"] (defScope s_is_whole) := ⟨rfl, rfl, rfl, by decide +kernel, rfl, by decide +kernel, by decide +kernel⟩
theorem Tx.d_is_between (T : Tx K mg) : FunD K "is_between" "is_between" (defArgs s_is_between) (defBody s_is_between) (defScope s_is_between) (dd_is_between.dvs K) [] (He.ga K "is_between") (fdOf K dd_is_between) := T.fn 1 (d := dd_is_between) (by rfl)
theorem Tx.b_is_between (T : Tx K mg) : L2.Binds K (fdOf K dd_is_between) ["thing", "least", "most"] [] := T.d_is_between.bindsN fun _ _ _ _ _ _ us hl => match us, hl with | [_, _, _], _ => rfl
abbrev N_is_between : List Str := ["thing", "least", "most"]
theorem sc_is_between : FnScope N_is_between ["thing", "least", "most"] (defScope s_is_between) := ⟨rfl, rfl, rfl, by decide +kernel, rfl, by decide +kernel, by decide +kernel⟩
theorem Tx.d_is_from (T : Tx K mg) : FunD K "is_from" "is_from" (defArgs s_is_from) (defBody s_is_from) (defScope s_is_from) (dd_is_from.dvs K) [] (He.ga K "is_from") (fdOf K dd_is_from) := T.fn 2 (d := dd_is_from) (by rfl)
theorem Tx.b_is_from (T : Tx K mg) : L2.Binds K (fdOf K dd_is_from) ["thing", "least"] [] := T.d_is_from.bindsN fun _ _ _ _ _ _ us hl => match us, hl with | [_, _], _ => rfl
abbrev N_is_from : List Str := ["thing", "least"]
theorem sc_is_from : FnScope N_is_from ["thing", "least"] (defScope s_is_from) := ⟨rfl, rfl, rfl, by decide +kernel, rfl, by decide +kernel, by decide +kernel⟩
theorem Tx.d_is_name (T : Tx K mg) : FunD K "is_name" "is_name" (defArgs s_is_name) (defBody s_is_name) (defScope s_is_name) (dd_is_name.dvs K) [] (He.ga K "is_name") (fdOf K dd_is_name) := T.fn 3 (d := dd_is_name) (by rfl)
theorem Tx.b_is_name (T : Tx K mg) : L2.Binds K (fdOf K dd_is_name) ["thing"] [] := T.d_is_name.bindsN fun _ _ _ _ _ _ us hl => match us, hl with | [_], _ => rfl
abbrev N_is_name : List Str := ["thing", "sign"]
theorem sc_is_name : FnScope N_is_name ["thing"] (defScope s_is_name) := ⟨rfl, rfl, rfl, by decide +kernel, rfl, by decide +kernel, by decide +kernel⟩
theorem Tx.d_common (T : Tx K mg) : FunD K "common" "common" (defArgs s_common) (defBody s_common) (defScope s_common) (dd_common.dvs K) [] (He.ga K "common") (fdOf K dd_common) := T.fn 4 (d := dd_common) (by rfl)
theorem Tx.b_common (T : Tx K mg) : L2.Binds K (fdOf K dd_common) ["one", "other"] [] := T.d_common.bindsN fun _ _ _ _ _ _ us hl => match us, hl with | [_, _], _ => rfl
abbrev N_common : List Str := ["one", "other"]
theorem sc_common : FnScope N_common ["one", "other"] (defScope s_common) := ⟨rfl, rfl, rfl, by decide +kernel, rfl, by decide +kernel, by decide +kernel⟩
theorem Tx.d_Part_init (T : Tx K mg) : FunD K "__init__" "Part.__init__" (defArgs s_Part_init) (defBody s_Part_init) (defScope s_Part_init) (dd_Part_init.dvs K) [] (He.ma K (He.ga K "Part") "__init__") (fdOf K dd_Part_init) := T.fn 5 (d := dd_Part_init) (by rfl)
abbrev N_Part_init : List Str := ["self", "top", "bottom", "by"]
theorem sc_Part_init : FnScope N_Part_init ["self", "top", "bottom"] (defScope s_Part_init) := ⟨rfl, rfl, rfl, by decide +kernel, rfl, by decide +kernel, by decide +kernel⟩
theorem Tx.d_Part_eq (T : Tx K mg) : FunD K "__eq__" "Part.__eq__" (defArgs s_Part_eq) (defBody s_Part_eq) (defScope s_Part_eq) (dd_Part_eq.dvs K) [] (He.ma K (He.ga K "Part") "__eq__") (fdOf K dd_Part_eq) := T.fn 6 (d := dd_Part_eq) (by rfl)
theorem Tx.b_Part_eq (T : Tx K mg) : L2.Binds K (fdOf K dd_Part_eq) ["self", "other"] [] := T.d_Part_eq.bindsN fun _ _ _ _ _ _ us hl => match us, hl with | [_, _], _ => rfl
abbrev N_Part_eq : List Str := ["self", "other"]
theorem sc_Part_eq : FnScope N_Part_eq ["self", "other"] (defScope s_Part_eq) := ⟨rfl, rfl, rfl, by decide +kernel, rfl, by decide +kernel, by decide +kernel⟩
theorem Tx.d_plus (T : Tx K mg) : FunD K "plus" "plus" (defArgs s_plus) (defBody s_plus) (defScope s_plus) (dd_plus.dvs K) [] (He.ga K "plus") (fdOf K dd_plus) := T.fn 7 (d := dd_plus) (by rfl)
theorem Tx.b_plus (T : Tx K mg) : L2.Binds K (fdOf K dd_plus) ["one", "other"] [] := T.d_plus.bindsN fun _ _ _ _ _ _ us hl => match us, hl with | [_, _], _ => rfl
abbrev N_plus : List Str := ["one", "other"]
theorem sc_plus : FnScope N_plus ["one", "other"] (defScope s_plus) := ⟨rfl, rfl, rfl, by decide +kernel, rfl, by decide +kernel, by decide +kernel⟩
theorem Tx.d_minus (T : Tx K mg) : FunD K "minus" "minus" (defArgs s_minus) (defBody s_minus) (defScope s_minus) (dd_minus.dvs K) [] (He.ga K "minus") (fdOf K dd_minus) := T.fn 8 (d := dd_minus) (by rfl)
theorem Tx.b_minus (T : Tx K mg) : L2.Binds K (fdOf K dd_minus) ["one", "other"] [] := T.d_minus.bindsN fun _ _ _ _ _ _ us hl => match us, hl with | [_, _], _ => rfl
abbrev N_minus : List Str := ["one", "other"]
theorem sc_minus : FnScope N_minus ["one", "other"] (defScope s_minus) := ⟨rfl, rfl, rfl, by decide +kernel, rfl, by decide +kernel, by decide +kernel⟩
theorem Tx.d_less (T : Tx K mg) : FunD K "less" "less" (defArgs s_less) (defBody s_less) (defScope s_less) (dd_less.dvs K) [] (He.ga K "less") (fdOf K dd_less) := T.fn 9 (d := dd_less) (by rfl)
theorem Tx.b_less (T : Tx K mg) : L2.Binds K (fdOf K dd_less) ["one", "other"] [] := T.d_less.bindsN fun _ _ _ _ _ _ us hl => match us, hl with | [_, _], _ => rfl
abbrev N_less : List Str := ["one", "other"]
theorem sc_less : FnScope N_less ["one", "other"] (defScope s_less) := ⟨rfl, rfl, rfl, by decide +kernel, rfl, by decide +kernel, by decide +kernel⟩
theorem Tx.d_is_grade (T : Tx K mg) : FunD K "is_grade" "is_grade" (defArgs s_is_grade) (defBody s_is_grade) (defScope s_is_grade) (dd_is_grade.dvs K) [] (He.ga K "is_grade") (fdOf K dd_is_grade) := T.fn 10 (d := dd_is_grade) (by rfl)
theorem Tx.b_is_grade (T : Tx K mg) : L2.Binds K (fdOf K dd_is_grade) ["thing"] [] := T.d_is_grade.bindsN fun _ _ _ _ _ _ us hl => match us, hl with | [_], _ => rfl
abbrev N_is_grade : List Str := ["thing"]
theorem sc_is_grade : FnScope N_is_grade ["thing"] (defScope s_is_grade) := ⟨rfl, rfl, rfl, by decide +kernel, rfl, by decide +kernel, by decide +kernel⟩
theorem Tx.d_are_grades (T : Tx K mg) : FunD K "are_grades" "are_grades" (defArgs s_are_grades) (defBody s_are_grades) (defScope s_are_grades) (dd_are_grades.dvs K) [] (He.ga K "are_grades") (fdOf K dd_are_grades) := T.fn 11 (d := dd_are_grades) (by rfl)
theorem Tx.b_are_grades (T : Tx K mg) : L2.Binds K (fdOf K dd_are_grades) ["thing"] [] := T.d_are_grades.bindsN fun _ _ _ _ _ _ us hl => match us, hl with | [_], _ => rfl
abbrev N_are_grades : List Str := ["thing", "one", "k"]
theorem sc_are_grades : FnScope N_are_grades ["thing"] (defScope s_are_grades) := ⟨rfl, rfl, rfl, by decide +kernel, rfl, by decide +kernel, by decide +kernel⟩
theorem Tx.d_Breed_init (T : Tx K mg) : FunD K "__init__" "Breed.__init__" (defArgs s_Breed_init) (defBody s_Breed_init) (defScope s_Breed_init) (dd_Breed_init.dvs K) [] (He.ma K (He.ga K "Breed") "__init__") (fdOf K dd_Breed_init) := T.fn 12 (d := dd_Breed_init) (by rfl)
theorem Tx.b_Breed_init (T : Tx K mg) : L2.Binds K (fdOf K dd_Breed_init) ["self", "name", "grades"] [] := T.d_Breed_init.bindsN fun _ _ _ _ _ _ us hl => match us, hl with | [_, _, _], _ => rfl
abbrev N_Breed_init : List Str := ["self", "name", "grades"]
theorem sc_Breed_init : FnScope N_Breed_init ["self", "name", "grades"] (defScope s_Breed_init) := ⟨rfl, rfl, rfl, by decide +kernel, rfl, by decide +kernel, by decide +kernel⟩
theorem Tx.d_first_wrong (T : Tx K mg) : FunD K "first_wrong" "first_wrong" (defArgs s_first_wrong) (defBody s_first_wrong) (defScope s_first_wrong) (dd_first_wrong.dvs K) [] (He.ga K "first_wrong") (fdOf K dd_first_wrong) := T.fn 13 (d := dd_first_wrong) (by rfl)
theorem Tx.b_first_wrong (T : Tx K mg) : L2.Binds K (fdOf K dd_first_wrong) ["rows"] [] := T.d_first_wrong.bindsN fun _ _ _ _ _ _ us hl => match us, hl with | [_], _ => rfl
abbrev N_first_wrong : List Str := ["rows", "word", "is_so"]
theorem sc_first_wrong : FnScope N_first_wrong ["rows"] (defScope s_first_wrong) := ⟨rfl, rfl, rfl, by decide +kernel, rfl, by decide +kernel, by decide +kernel⟩
theorem Tx.d_Bed_init (T : Tx K mg) : FunD K "__init__" "Bed.__init__" (defArgs s_Bed_init) (defBody s_Bed_init) (defScope s_Bed_init) (dd_Bed_init.dvs K) [] (He.ma K (He.ga K "Bed") "__init__") (fdOf K dd_Bed_init) := T.fn 14 (d := dd_Bed_init) (by rfl)
abbrev N_Bed_init : List Str := ["self", "name", "breed", "owner", "roots", "guess", "offsets", "kind", "rows", "wrong"]
theorem sc_Bed_init : FnScope N_Bed_init ["self", "name", "breed", "owner", "roots", "guess", "offsets", "kind"] (defScope s_Bed_init) := ⟨rfl, rfl, rfl, by decide +kernel, rfl, by decide +kernel, by decide +kernel⟩
theorem Tx.d_are_unlike (T : Tx K mg) : FunD K "are_unlike" "are_unlike" (defArgs s_are_unlike) (defBody s_are_unlike) (defScope s_are_unlike) (dd_are_unlike.dvs K) [] (He.ga K "are_unlike") (fdOf K dd_are_unlike) := T.fn 15 (d := dd_are_unlike) (by rfl)
theorem Tx.b_are_unlike (T : Tx K mg) : L2.Binds K (fdOf K dd_are_unlike) ["names"] [] := T.d_are_unlike.bindsN fun _ _ _ _ _ _ us hl => match us, hl with | [_], _ => rfl
abbrev N_are_unlike : List Str := ["names"]
theorem sc_are_unlike : FnScope N_are_unlike ["names"] (defScope s_are_unlike) := ⟨rfl, rfl, rfl, by decide +kernel, rfl, by decide +kernel, by decide +kernel⟩
theorem Tx.d_are_breeds (T : Tx K mg) : FunD K "are_breeds" "are_breeds" (defArgs s_are_breeds) (defBody s_are_breeds) (defScope s_are_breeds) (dd_are_breeds.dvs K) [] (He.ga K "are_breeds") (fdOf K dd_are_breeds) := T.fn 16 (d := dd_are_breeds) (by rfl)
theorem Tx.b_are_breeds (T : Tx K mg) : L2.Binds K (fdOf K dd_are_breeds) ["thing"] [] := T.d_are_breeds.bindsN fun _ _ _ _ _ _ us hl => match us, hl with | [_], _ => rfl
abbrev N_are_breeds : List Str := ["thing", "one"]
theorem sc_are_breeds : FnScope N_are_breeds ["thing"] (defScope s_are_breeds) := ⟨rfl, rfl, rfl, by decide +kernel, rfl, by decide +kernel, by decide +kernel⟩
theorem Tx.d_are_beds (T : Tx K mg) : FunD K "are_beds" "are_beds" (defArgs s_are_beds) (defBody s_are_beds) (defScope s_are_beds) (dd_are_beds.dvs K) [] (He.ga K "are_beds") (fdOf K dd_are_beds) := T.fn 17 (d := dd_are_beds) (by rfl)
theorem Tx.b_are_beds (T : Tx K mg) : L2.Binds K (fdOf K dd_are_beds) ["thing"] [] := T.d_are_beds.bindsN fun _ _ _ _ _ _ us hl => match us, hl with | [_], _ => rfl
abbrev N_are_beds : List Str := ["thing", "one"]
theorem sc_are_beds : FnScope N_are_beds ["thing"] (defScope s_are_beds) := ⟨rfl, rfl, rfl, by decide +kernel, rfl, by decide +kernel, by decide +kernel⟩
theorem Tx.d_Field_init (T : Tx K mg) : FunD K "__init__" "Field.__init__" (defArgs s_Field_init) (defBody s_Field_init) (defScope s_Field_init) (dd_Field_init.dvs K) [] (He.ma K (He.ga K "Field") "__init__") (fdOf K dd_Field_init) := T.fn 18 (d := dd_Field_init) (by rfl)
theorem Tx.b_Field_init (T : Tx K mg) : L2.Binds K (fdOf K dd_Field_init) ["self", "breeds", "beds"] [] := T.d_Field_init.bindsN fun _ _ _ _ _ _ us hl => match us, hl with | [_, _, _], _ => rfl
abbrev N_Field_init : List Str := ["self", "breeds", "beds", "one"]
theorem sc_Field_init : FnScope N_Field_init ["self", "breeds", "beds"] (defScope s_Field_init) := ⟨rfl, rfl, rfl, by decide +kernel, rfl, by decide +kernel, by decide +kernel⟩
theorem Tx.d_Field_bed_of (T : Tx K mg) : FunD K "bed_of" "Field.bed_of" (defArgs s_Field_bed_of) (defBody s_Field_bed_of) (defScope s_Field_bed_of) (dd_Field_bed_of.dvs K) [] (He.ma K (He.ga K "Field") "bed_of") (fdOf K dd_Field_bed_of) := T.fn 19 (d := dd_Field_bed_of) (by rfl)
theorem Tx.b_Field_bed_of (T : Tx K mg) : L2.Binds K (fdOf K dd_Field_bed_of) ["self", "name"] [] := T.d_Field_bed_of.bindsN fun _ _ _ _ _ _ us hl => match us, hl with | [_, _], _ => rfl
abbrev N_Field_bed_of : List Str := ["self", "name"]
theorem sc_Field_bed_of : FnScope N_Field_bed_of ["self", "name"] (defScope s_Field_bed_of) := ⟨rfl, rfl, rfl, by decide +kernel, rfl, by decide +kernel, by decide +kernel⟩
theorem Tx.d_Field_bed_names (T : Tx K mg) : FunD K "bed_names" "Field.bed_names" (defArgs s_Field_bed_names) (defBody s_Field_bed_names) (defScope s_Field_bed_names) (dd_Field_bed_names.dvs K) [] (He.ma K (He.ga K "Field") "bed_names") (fdOf K dd_Field_bed_names) := T.fn 20 (d := dd_Field_bed_names) (by rfl)
theorem Tx.b_Field_bed_names (T : Tx K mg) : L2.Binds K (fdOf K dd_Field_bed_names) ["self"] [] := T.d_Field_bed_names.bindsN fun _ _ _ _ _ _ us hl => match us, hl with | [_], _ => rfl
abbrev N_Field_bed_names : List Str := ["self"]
theorem sc_Field_bed_names : FnScope N_Field_bed_names ["self"] (defScope s_Field_bed_names) := ⟨rfl, rfl, rfl, by decide +kernel, rfl, by decide +kernel, by decide +kernel⟩
theorem Tx.d_is_thing (T : Tx K mg) : FunD K "is_thing" "is_thing" (defArgs s_is_thing) (defBody s_is_thing) (defScope s_is_thing) (dd_is_thing.dvs K) [] (He.ga K "is_thing") (fdOf K dd_is_thing) := T.fn 21 (d := dd_is_thing) (by rfl)
theorem Tx.b_is_thing (T : Tx K mg) : L2.Binds K (fdOf K dd_is_thing) ["thing"] [] := T.d_is_thing.bindsN fun _ _ _ _ _ _ us hl => match us, hl with | [_], _ => rfl
abbrev N_is_thing : List Str := ["thing"]
theorem sc_is_thing : FnScope N_is_thing ["thing"] (defScope s_is_thing) := ⟨rfl, rfl, rfl, by decide +kernel, rfl, by decide +kernel, by decide +kernel⟩
theorem Tx.d_has (T : Tx K mg) : FunD K "has" "has" (defArgs s_has) (defBody s_has) (defScope s_has) (dd_has.dvs K) [] (He.ga K "has") (fdOf K dd_has) := T.fn 22 (d := dd_has) (by rfl)
theorem Tx.b_has (T : Tx K mg) : L2.Binds K (fdOf K dd_has) ["field", "thing"] [] := T.d_has.bindsN fun _ _ _ _ _ _ us hl => match us, hl with | [_, _], _ => rfl
abbrev N_has : List Str := ["field", "thing", "bed"]
theorem sc_has : FnScope N_has ["field", "thing"] (defScope s_has) := ⟨rfl, rfl, rfl, by decide +kernel, rfl, by decide +kernel, by decide +kernel⟩
theorem Tx.d_is_rule (T : Tx K mg) : FunD K "is_rule" "is_rule" (defArgs s_is_rule) (defBody s_is_rule) (defScope s_is_rule) (dd_is_rule.dvs K) [] (He.ga K "is_rule") (fdOf K dd_is_rule) := T.fn 23 (d := dd_is_rule) (by rfl)
theorem Tx.b_is_rule (T : Tx K mg) : L2.Binds K (fdOf K dd_is_rule) ["rule"] [] := T.d_is_rule.bindsN fun _ _ _ _ _ _ us hl => match us, hl with | [_], _ => rfl
abbrev N_is_rule : List Str := ["rule"]
theorem sc_is_rule : FnScope N_is_rule ["rule"] (defScope s_is_rule) := ⟨rfl, rfl, rfl, by decide +kernel, rfl, by decide +kernel, by decide +kernel⟩
theorem Tx.d_goes_with (T : Tx K mg) : FunD K "goes_with" "goes_with" (defArgs s_goes_with) (defBody s_goes_with) (defScope s_goes_with) (dd_goes_with.dvs K) [] (He.ga K "goes_with") (fdOf K dd_goes_with) := T.fn 24 (d := dd_goes_with) (by rfl)
theorem Tx.b_goes_with (T : Tx K mg) : L2.Binds K (fdOf K dd_goes_with) ["rule", "thing"] [] := T.d_goes_with.bindsN fun _ _ _ _ _ _ us hl => match us, hl with | [_, _], _ => rfl
abbrev N_goes_with : List Str := ["rule", "thing"]
theorem sc_goes_with : FnScope N_goes_with ["rule", "thing"] (defScope s_goes_with) := ⟨rfl, rfl, rfl, by decide +kernel, rfl, by decide +kernel, by decide +kernel⟩
theorem Tx.d_is_going (T : Tx K mg) : FunD K "is_going" "is_going" (defArgs s_is_going) (defBody s_is_going) (defScope s_is_going) (dd_is_going.dvs K) [] (He.ga K "is_going") (fdOf K dd_is_going) := T.fn 25 (d := dd_is_going) (by rfl)
theorem Tx.b_is_going (T : Tx K mg) : L2.Binds K (fdOf K dd_is_going) ["offsets", "thing"] [] := T.d_is_going.bindsN fun _ _ _ _ _ _ us hl => match us, hl with | [_, _], _ => rfl
abbrev N_is_going : List Str := ["offsets", "thing"]
theorem sc_is_going : FnScope N_is_going ["offsets", "thing"] (defScope s_is_going) := ⟨rfl, rfl, rfl, by decide +kernel, rfl, by decide +kernel, by decide +kernel⟩
theorem Tx.d_Promise_init (T : Tx K mg) : FunD K "__init__" "Promise.__init__" (defArgs s_Promise_init) (defBody s_Promise_init) (defScope s_Promise_init) (dd_Promise_init.dvs K) [] (He.ma K (He.ga K "Promise") "__init__") (fdOf K dd_Promise_init) := T.fn 26 (d := dd_Promise_init) (by rfl)
abbrev N_Promise_init : List Str := ["self", "number", "moment", "seller", "buyer", "thing", "price", "rule", "offsets", "earnest", "rows", "wrong"]
theorem sc_Promise_init : FnScope N_Promise_init ["self", "number", "moment", "seller", "buyer", "thing", "price", "rule", "offsets", "earnest"] (defScope s_Promise_init) := ⟨rfl, rfl, rfl, by decide +kernel, rfl, by decide +kernel, by decide +kernel⟩
theorem Tx.d_Spoiling_init (T : Tx K mg) : FunD K "__init__" "Spoiling.__init__" (defArgs s_Spoiling_init) (defBody s_Spoiling_init) (defScope s_Spoiling_init) (dd_Spoiling_init.dvs K) [] (He.ma K (He.ga K "Spoiling") "__init__") (fdOf K dd_Spoiling_init) := T.fn 27 (d := dd_Spoiling_init) (by rfl)
theorem Tx.b_Spoiling_init (T : Tx K mg) : L2.Binds K (fdOf K dd_Spoiling_init) ["self", "number", "moment", "bed"] [] := T.d_Spoiling_init.bindsN fun _ _ _ _ _ _ us hl => match us, hl with | [_, _, _, _], _ => rfl
abbrev N_Spoiling_init : List Str := ["self", "number", "moment", "bed", "wrong"]
theorem sc_Spoiling_init : FnScope N_Spoiling_init ["self", "number", "moment", "bed"] (defScope s_Spoiling_init) := ⟨rfl, rfl, rfl, by decide +kernel, rfl, by decide +kernel, by decide +kernel⟩
theorem Tx.d_is_line (T : Tx K mg) : FunD K "is_line" "is_line" (defArgs s_is_line) (defBody s_is_line) (defScope s_is_line) (dd_is_line.dvs K) [] (He.ga K "is_line") (fdOf K dd_is_line) := T.fn 28 (d := dd_is_line) (by rfl)
theorem Tx.b_is_line (T : Tx K mg) : L2.Binds K (fdOf K dd_is_line) ["thing"] [] := T.d_is_line.bindsN fun _ _ _ _ _ _ us hl => match us, hl with | [_], _ => rfl
abbrev N_is_line : List Str := ["thing"]
theorem sc_is_line : FnScope N_is_line ["thing"] (defScope s_is_line) := ⟨rfl, rfl, rfl, by decide +kernel, rfl, by decide +kernel, by decide +kernel⟩
theorem Tx.d_when (T : Tx K mg) : FunD K "when" "when" (defArgs s_when) (defBody s_when) (defScope s_when) (dd_when.dvs K) [] (He.ga K "when") (fdOf K dd_when) := T.fn 29 (d := dd_when) (by rfl)
theorem Tx.b_when (T : Tx K mg) : L2.Binds K (fdOf K dd_when) ["line"] [] := T.d_when.bindsN fun _ _ _ _ _ _ us hl => match us, hl with | [_], _ => rfl
abbrev N_when : List Str := ["line"]
theorem sc_when : FnScope N_when ["line"] (defScope s_when) := ⟨rfl, rfl, rfl, by decide +kernel, rfl, by decide +kernel, by decide +kernel⟩
theorem Tx.d_in_time (T : Tx K mg) : FunD K "in_time" "in_time" (defArgs s_in_time) (defBody s_in_time) (defScope s_in_time) (dd_in_time.dvs K) [] (He.ga K "in_time") (fdOf K dd_in_time) := T.fn 30 (d := dd_in_time) (by rfl)
theorem Tx.b_in_time (T : Tx K mg) : L2.Binds K (fdOf K dd_in_time) ["lines"] [] := T.d_in_time.bindsN fun _ _ _ _ _ _ us hl => match us, hl with | [_], _ => rfl
abbrev N_in_time : List Str := ["lines"]
theorem sc_in_time : FnScope N_in_time ["lines"] (defScope s_in_time) := ⟨rfl, rfl, rfl, by decide +kernel, rfl, by decide +kernel, by decide +kernel⟩
theorem Tx.d_Standing_init (T : Tx K mg) : FunD K "__init__" "Standing.__init__" (defArgs s_Standing_init) (defBody s_Standing_init) (defScope s_Standing_init) (dd_Standing_init.dvs K) [] (He.ma K (He.ga K "Standing") "__init__") (fdOf K dd_Standing_init) := T.fn 31 (d := dd_Standing_init) (by rfl)
theorem Tx.b_Standing_init (T : Tx K mg) : L2.Binds K (fdOf K dd_Standing_init) ["self", "field"] [] := T.d_Standing_init.bindsN fun _ _ _ _ _ _ us hl => match us, hl with | [_, _], _ => rfl
abbrev N_Standing_init : List Str := ["self", "field", "name"]
theorem sc_Standing_init : FnScope N_Standing_init ["self", "field"] (defScope s_Standing_init) := ⟨rfl, rfl, rfl, by decide +kernel, rfl, by decide +kernel, by decide +kernel⟩
theorem Tx.d_Standing_back (T : Tx K mg) : FunD K "back" "Standing.back" (defArgs s_Standing_back) (defBody s_Standing_back) (defScope s_Standing_back) (dd_Standing_back.dvs K) [] (He.ma K (He.ga K "Standing") "back") (fdOf K dd_Standing_back) := T.fn 32 (d := dd_Standing_back) (by rfl)
theorem Tx.b_Standing_back (T : Tx K mg) : L2.Binds K (fdOf K dd_Standing_back) ["self", "bed"] [] := T.d_Standing_back.bindsN fun _ _ _ _ _ _ us hl => match us, hl with | [_, _], _ => rfl
abbrev N_Standing_back : List Str := ["self", "bed", "k"]
theorem sc_Standing_back : FnScope N_Standing_back ["self", "bed"] (defScope s_Standing_back) := ⟨rfl, rfl, rfl, by decide +kernel, rfl, by decide +kernel, by decide +kernel⟩
theorem Tx.d_Standing_holds (T : Tx K mg) : FunD K "holds" "Standing.holds" (defArgs s_Standing_holds) (defBody s_Standing_holds) (defScope s_Standing_holds) (dd_Standing_holds.dvs K) [] (He.ma K (He.ga K "Standing") "holds") (fdOf K dd_Standing_holds) := T.fn 33 (d := dd_Standing_holds) (by rfl)
theorem Tx.b_Standing_holds (T : Tx K mg) : L2.Binds K (fdOf K dd_Standing_holds) ["self", "promise"] [] := T.d_Standing_holds.bindsN fun _ _ _ _ _ _ us hl => match us, hl with | [_, _], _ => rfl
abbrev N_Standing_holds : List Str := ["self", "promise", "kind", "bed", "which"]
theorem sc_Standing_holds : FnScope N_Standing_holds ["self", "promise"] (defScope s_Standing_holds) := ⟨rfl, rfl, rfl, by decide +kernel, rfl, by decide +kernel, by decide +kernel⟩
theorem Tx.d_Standing_moves (T : Tx K mg) : FunD K "moves" "Standing.moves" (defArgs s_Standing_moves) (defBody s_Standing_moves) (defScope s_Standing_moves) (dd_Standing_moves.dvs K) [] (He.ma K (He.ga K "Standing") "moves") (fdOf K dd_Standing_moves) := T.fn 34 (d := dd_Standing_moves) (by rfl)
theorem Tx.b_Standing_moves (T : Tx K mg) : L2.Binds K (fdOf K dd_Standing_moves) ["self", "promise"] [] := T.d_Standing_moves.bindsN fun _ _ _ _ _ _ us hl => match us, hl with | [_, _], _ => rfl
abbrev N_Standing_moves : List Str := ["self", "promise", "kind", "bed", "which", "offsets"]
theorem sc_Standing_moves : FnScope N_Standing_moves ["self", "promise"] (defScope s_Standing_moves) := ⟨rfl, rfl, rfl, by decide +kernel, rfl, by decide +kernel, by decide +kernel⟩
theorem Tx.d_Standing_go (T : Tx K mg) : FunD K "go" "Standing.go" (defArgs s_Standing_go) (defBody s_Standing_go) (defScope s_Standing_go) (dd_Standing_go.dvs K) [] (He.ma K (He.ga K "Standing") "go") (fdOf K dd_Standing_go) := T.fn 35 (d := dd_Standing_go) (by rfl)
theorem Tx.b_Standing_go (T : Tx K mg) : L2.Binds K (fdOf K dd_Standing_go) ["self", "promise"] [] := T.d_Standing_go.bindsN fun _ _ _ _ _ _ us hl => match us, hl with | [_, _], _ => rfl
abbrev N_Standing_go : List Str := ["self", "promise", "kind", "bed", "which", "shares", "things", "thing"]
theorem sc_Standing_go : FnScope N_Standing_go ["self", "promise"] (defScope s_Standing_go) := ⟨rfl, rfl, rfl, by decide +kernel, rfl, by decide +kernel, by decide +kernel⟩
theorem Tx.d_Standing_void (T : Tx K mg) : FunD K "void" "Standing.void" (defArgs s_Standing_void) (defBody s_Standing_void) (defScope s_Standing_void) (dd_Standing_void.dvs K) [] (He.ma K (He.ga K "Standing") "void") (fdOf K dd_Standing_void) := T.fn 36 (d := dd_Standing_void) (by rfl)
theorem Tx.b_Standing_void (T : Tx K mg) : L2.Binds K (fdOf K dd_Standing_void) ["self", "promise"] [] := T.d_Standing_void.bindsN fun _ _ _ _ _ _ us hl => match us, hl with | [_, _], _ => rfl
abbrev N_Standing_void : List Str := ["self", "promise", "kind", "bed", "which", "thing", "row", "other", "things"]
theorem sc_Standing_void : FnScope N_Standing_void ["self", "promise"] (defScope s_Standing_void) := ⟨rfl, rfl, rfl, by decide +kernel, rfl, by decide +kernel, by decide +kernel⟩
theorem Tx.d_Standing_spoil (T : Tx K mg) : FunD K "spoil" "Standing.spoil" (defArgs s_Standing_spoil) (defBody s_Standing_spoil) (defScope s_Standing_spoil) (dd_Standing_spoil.dvs K) [] (He.ma K (He.ga K "Standing") "spoil") (fdOf K dd_Standing_spoil) := T.fn 37 (d := dd_Standing_spoil) (by rfl)
theorem Tx.b_Standing_spoil (T : Tx K mg) : L2.Binds K (fdOf K dd_Standing_spoil) ["self", "spoiling"] [] := T.d_Standing_spoil.bindsN fun _ _ _ _ _ _ us hl => match us, hl with | [_, _], _ => rfl
abbrev N_Standing_spoil : List Str := ["self", "spoiling", "bed", "undone", "promise", "things"]
theorem sc_Standing_spoil : FnScope N_Standing_spoil ["self", "spoiling"] (defScope s_Standing_spoil) := ⟨rfl, rfl, rfl, by decide +kernel, rfl, by decide +kernel, by decide +kernel⟩
theorem Tx.d_Standing_take (T : Tx K mg) : FunD K "take" "Standing.take" (defArgs s_Standing_take) (defBody s_Standing_take) (defScope s_Standing_take) (dd_Standing_take.dvs K) [] (He.ma K (He.ga K "Standing") "take") (fdOf K dd_Standing_take) := T.fn 38 (d := dd_Standing_take) (by rfl)
theorem Tx.b_Standing_take (T : Tx K mg) : L2.Binds K (fdOf K dd_Standing_take) ["self", "line"] [] := T.d_Standing_take.bindsN fun _ _ _ _ _ _ us hl => match us, hl with | [_, _], _ => rfl
abbrev N_Standing_take : List Str := ["self", "line"]
theorem sc_Standing_take : FnScope N_Standing_take ["self", "line"] (defScope s_Standing_take) := ⟨rfl, rfl, rfl, by decide +kernel, rfl, by decide +kernel, by decide +kernel⟩
theorem Tx.d_Ledger_init (T : Tx K mg) : FunD K "__init__" "Ledger.__init__" (defArgs s_Ledger_init) (defBody s_Ledger_init) (defScope s_Ledger_init) (dd_Ledger_init.dvs K) [] (He.ma K (He.ga K "Ledger") "__init__") (fdOf K dd_Ledger_init) := T.fn 39 (d := dd_Ledger_init) (by rfl)
theorem Tx.b_Ledger_init (T : Tx K mg) : L2.Binds K (fdOf K dd_Ledger_init) ["self", "field"] [] := T.d_Ledger_init.bindsN fun _ _ _ _ _ _ us hl => match us, hl with | [_, _], _ => rfl
abbrev N_Ledger_init : List Str := ["self", "field"]
theorem sc_Ledger_init : FnScope N_Ledger_init ["self", "field"] (defScope s_Ledger_init) := ⟨rfl, rfl, rfl, by decide +kernel, rfl, by decide +kernel, by decide +kernel⟩
theorem Tx.d_Ledger_check (T : Tx K mg) : FunD K "check" "Ledger.check" (defArgs s_Ledger_check) (defBody s_Ledger_check) (defScope s_Ledger_check) (dd_Ledger_check.dvs K) [] (He.ma K (He.ga K "Ledger") "check") (fdOf K dd_Ledger_check) := T.fn 40 (d := dd_Ledger_check) (by rfl)
theorem Tx.b_Ledger_check (T : Tx K mg) : L2.Binds K (fdOf K dd_Ledger_check) ["self", "line"] [] := T.d_Ledger_check.bindsN fun _ _ _ _ _ _ us hl => match us, hl with | [_, _], _ => rfl
abbrev N_Ledger_check : List Str := ["self", "line"]
theorem sc_Ledger_check : FnScope N_Ledger_check ["self", "line"] (defScope s_Ledger_check) := ⟨rfl, rfl, rfl, by decide +kernel, rfl, by decide +kernel, by decide +kernel⟩
theorem Tx.d_Ledger_tell (T : Tx K mg) : FunD K "tell" "Ledger.tell" (defArgs s_Ledger_tell) (defBody s_Ledger_tell) (defScope s_Ledger_tell) (dd_Ledger_tell.dvs K) [] (He.ma K (He.ga K "Ledger") "tell") (fdOf K dd_Ledger_tell) := T.fn 41 (d := dd_Ledger_tell) (by rfl)
theorem Tx.b_Ledger_tell (T : Tx K mg) : L2.Binds K (fdOf K dd_Ledger_tell) ["self", "line"] [] := T.d_Ledger_tell.bindsN fun _ _ _ _ _ _ us hl => match us, hl with | [_, _], _ => rfl
abbrev N_Ledger_tell : List Str := ["self", "line"]
theorem sc_Ledger_tell : FnScope N_Ledger_tell ["self", "line"] (defScope s_Ledger_tell) := ⟨rfl, rfl, rfl, by decide +kernel, rfl, by decide +kernel, by decide +kernel⟩
theorem Tx.d_Ledger_lines (T : Tx K mg) : FunD K "lines" "Ledger.lines" (defArgs s_Ledger_lines) (defBody s_Ledger_lines) (defScope s_Ledger_lines) (dd_Ledger_lines.dvs K) [] (He.ma K (He.ga K "Ledger") "lines") (fdOf K dd_Ledger_lines) := T.fn 42 (d := dd_Ledger_lines) (by rfl)
theorem Tx.b_Ledger_lines (T : Tx K mg) : L2.Binds K (fdOf K dd_Ledger_lines) ["self"] [] := T.d_Ledger_lines.bindsN fun _ _ _ _ _ _ us hl => match us, hl with | [_], _ => rfl
abbrev N_Ledger_lines : List Str := ["self"]
theorem sc_Ledger_lines : FnScope N_Ledger_lines ["self"] (defScope s_Ledger_lines) := ⟨rfl, rfl, rfl, by decide +kernel, rfl, by decide +kernel, by decide +kernel⟩
theorem Tx.d_Ledger_standing (T : Tx K mg) : FunD K "standing" "Ledger.standing" (defArgs s_Ledger_standing) (defBody s_Ledger_standing) (defScope s_Ledger_standing) (dd_Ledger_standing.dvs K) [] (He.ma K (He.ga K "Ledger") "standing") (fdOf K dd_Ledger_standing) := T.fn 43 (d := dd_Ledger_standing) (by rfl)
theorem Tx.b_Ledger_standing (T : Tx K mg) : L2.Binds K (fdOf K dd_Ledger_standing) ["self"] [] := T.d_Ledger_standing.bindsN fun _ _ _ _ _ _ us hl => match us, hl with | [_], _ => rfl
abbrev N_Ledger_standing : List Str := ["self", "found", "line"]
theorem sc_Ledger_standing : FnScope N_Ledger_standing ["self"] (defScope s_Ledger_standing) := ⟨rfl, rfl, rfl, by decide +kernel, rfl, by decide +kernel, by decide +kernel⟩
theorem Tx.d_Ledger_voids (T : Tx K mg) : FunD K "voids" "Ledger.voids" (defArgs s_Ledger_voids) (defBody s_Ledger_voids) (defScope s_Ledger_voids) (dd_Ledger_voids.dvs K) [] (He.ma K (He.ga K "Ledger") "voids") (fdOf K dd_Ledger_voids) := T.fn 44 (d := dd_Ledger_voids) (by rfl)
theorem Tx.b_Ledger_voids (T : Tx K mg) : L2.Binds K (fdOf K dd_Ledger_voids) ["self"] [] := T.d_Ledger_voids.bindsN fun _ _ _ _ _ _ us hl => match us, hl with | [_], _ => rfl
abbrev N_Ledger_voids : List Str := ["self"]
theorem sc_Ledger_voids : FnScope N_Ledger_voids ["self"] (defScope s_Ledger_voids) := ⟨rfl, rfl, rfl, by decide +kernel, rfl, by decide +kernel, by decide +kernel⟩
theorem Tx.d_Ledger_undone (T : Tx K mg) : FunD K "undone" "Ledger.undone" (defArgs s_Ledger_undone) (defBody s_Ledger_undone) (defScope s_Ledger_undone) (dd_Ledger_undone.dvs K) [] (He.ma K (He.ga K "Ledger") "undone") (fdOf K dd_Ledger_undone) := T.fn 45 (d := dd_Ledger_undone) (by rfl)
theorem Tx.b_Ledger_undone (T : Tx K mg) : L2.Binds K (fdOf K dd_Ledger_undone) ["self"] [] := T.d_Ledger_undone.bindsN fun _ _ _ _ _ _ us hl => match us, hl with | [_], _ => rfl
abbrev N_Ledger_undone : List Str := ["self"]
theorem sc_Ledger_undone : FnScope N_Ledger_undone ["self"] (defScope s_Ledger_undone) := ⟨rfl, rfl, rfl, by decide +kernel, rfl, by decide +kernel, by decide +kernel⟩
theorem Tx.d_Ledger_hold (T : Tx K mg) : FunD K "hold" "Ledger.hold" (defArgs s_Ledger_hold) (defBody s_Ledger_hold) (defScope s_Ledger_hold) (dd_Ledger_hold.dvs K) [] (He.ma K (He.ga K "Ledger") "hold") (fdOf K dd_Ledger_hold) := T.fn 46 (d := dd_Ledger_hold) (by rfl)
theorem Tx.b_Ledger_hold (T : Tx K mg) : L2.Binds K (fdOf K dd_Ledger_hold) ["self"] [] := T.d_Ledger_hold.bindsN fun _ _ _ _ _ _ us hl => match us, hl with | [_], _ => rfl
abbrev N_Ledger_hold : List Str := ["self", "promise", "things"]
theorem sc_Ledger_hold : FnScope N_Ledger_hold ["self"] (defScope s_Ledger_hold) := ⟨rfl, rfl, rfl, by decide +kernel, rfl, by decide +kernel, by decide +kernel⟩
theorem Tx.d_Ledger_spoiled (T : Tx K mg) : FunD K "spoiled" "Ledger.spoiled" (defArgs s_Ledger_spoiled) (defBody s_Ledger_spoiled) (defScope s_Ledger_spoiled) (dd_Ledger_spoiled.dvs K) [] (He.ma K (He.ga K "Ledger") "spoiled") (fdOf K dd_Ledger_spoiled) := T.fn 47 (d := dd_Ledger_spoiled) (by rfl)
theorem Tx.b_Ledger_spoiled (T : Tx K mg) : L2.Binds K (fdOf K dd_Ledger_spoiled) ["self"] [] := T.d_Ledger_spoiled.bindsN fun _ _ _ _ _ _ us hl => match us, hl with | [_], _ => rfl
abbrev N_Ledger_spoiled : List Str := ["self"]
theorem sc_Ledger_spoiled : FnScope N_Ledger_spoiled ["self"] (defScope s_Ledger_spoiled) := ⟨rfl, rfl, rfl, by decide +kernel, rfl, by decide +kernel, by decide +kernel⟩
theorem Tx.d_Ledger_check_thing (T : Tx K mg) : FunD K "check_thing" "Ledger.check_thing" (defArgs s_Ledger_check_thing) (defBody s_Ledger_check_thing) (defScope s_Ledger_check_thing) (dd_Ledger_check_thing.dvs K) [] (He.ma K (He.ga K "Ledger") "check_thing") (fdOf K dd_Ledger_check_thing) := T.fn 48 (d := dd_Ledger_check_thing) (by rfl)
theorem Tx.b_Ledger_check_thing (T : Tx K mg) : L2.Binds K (fdOf K dd_Ledger_check_thing) ["self", "thing"] [] := T.d_Ledger_check_thing.bindsN fun _ _ _ _ _ _ us hl => match us, hl with | [_, _], _ => rfl
abbrev N_Ledger_check_thing : List Str := ["self", "thing"]
theorem sc_Ledger_check_thing : FnScope N_Ledger_check_thing ["self", "thing"] (defScope s_Ledger_check_thing) := ⟨rfl, rfl, rfl, by decide +kernel, rfl, by decide +kernel, by decide +kernel⟩
theorem Tx.d_Ledger_holder (T : Tx K mg) : FunD K "holder" "Ledger.holder" (defArgs s_Ledger_holder) (defBody s_Ledger_holder) (defScope s_Ledger_holder) (dd_Ledger_holder.dvs K) [] (He.ma K (He.ga K "Ledger") "holder") (fdOf K dd_Ledger_holder) := T.fn 49 (d := dd_Ledger_holder) (by rfl)
theorem Tx.b_Ledger_holder (T : Tx K mg) : L2.Binds K (fdOf K dd_Ledger_holder) ["self", "thing"] [] := T.d_Ledger_holder.bindsN fun _ _ _ _ _ _ us hl => match us, hl with | [_, _], _ => rfl
abbrev N_Ledger_holder : List Str := ["self", "thing"]
theorem sc_Ledger_holder : FnScope N_Ledger_holder ["self", "thing"] (defScope s_Ledger_holder) := ⟨rfl, rfl, rfl, by decide +kernel, rfl, by decide +kernel, by decide +kernel⟩
theorem Tx.d_Ledger_row (T : Tx K mg) : FunD K "row" "Ledger.row" (defArgs s_Ledger_row) (defBody s_Ledger_row) (defScope s_Ledger_row) (dd_Ledger_row.dvs K) [] (He.ma K (He.ga K "Ledger") "row") (fdOf K dd_Ledger_row) := T.fn 50 (d := dd_Ledger_row) (by rfl)
theorem Tx.b_Ledger_row (T : Tx K mg) : L2.Binds K (fdOf K dd_Ledger_row) ["self", "thing"] [] := T.d_Ledger_row.bindsN fun _ _ _ _ _ _ us hl => match us, hl with | [_, _], _ => rfl
abbrev N_Ledger_row : List Str := ["self", "thing", "promise", "things"]
theorem sc_Ledger_row : FnScope N_Ledger_row ["self", "thing"] (defScope s_Ledger_row) := ⟨rfl, rfl, rfl, by decide +kernel, rfl, by decide +kernel, by decide +kernel⟩
theorem Tx.d_Ledger_holders (T : Tx K mg) : FunD K "holders" "Ledger.holders" (defArgs s_Ledger_holders) (defBody s_Ledger_holders) (defScope s_Ledger_holders) (dd_Ledger_holders.dvs K) [] (He.ma K (He.ga K "Ledger") "holders") (fdOf K dd_Ledger_holders) := T.fn 51 (d := dd_Ledger_holders) (by rfl)
theorem Tx.b_Ledger_holders (T : Tx K mg) : L2.Binds K (fdOf K dd_Ledger_holders) ["self", "bed"] [] := T.d_Ledger_holders.bindsN fun _ _ _ _ _ _ us hl => match us, hl with | [_, _], _ => rfl
abbrev N_Ledger_holders : List Str := ["self", "bed", "shares", "name"]
theorem sc_Ledger_holders : FnScope N_Ledger_holders ["self", "bed"] (defScope s_Ledger_holders) := ⟨rfl, rfl, rfl, by decide +kernel, rfl, by decide +kernel, by decide +kernel⟩
theorem Tx.d_l_cell_at (T : Tx K mg) : FunD K "_law_cell_at" "_law_cell_at" (defArgs s_l_cell_at) (defBody s_l_cell_at) (defScope s_l_cell_at) (dd_l_cell_at.dvs K) [] (He.ga K "_law_cell_at") (fdOf K dd_l_cell_at) := T.fn 52 (d := dd_l_cell_at) (by rfl)
theorem Tx.b_l_cell_at (T : Tx K mg) : L2.Binds K (fdOf K dd_l_cell_at) ["_law_script", "_law_k"] [] := T.d_l_cell_at.bindsN fun _ _ _ _ _ _ us hl => match us, hl with | [_, _], _ => rfl
abbrev N_l_cell_at : List Str := ["_law_script", "_law_k"]
theorem sc_l_cell_at : FnScope N_l_cell_at ["_law_script", "_law_k"] (defScope s_l_cell_at) := ⟨rfl, rfl, rfl, by decide +kernel, rfl, by decide +kernel, by decide +kernel⟩
theorem Tx.d_l_source (T : Tx K mg) : FunD K "_law_source" "_law_source" (defArgs s_l_source) (defBody s_l_source) (defScope s_l_source) (dd_l_source.dvs K) [] (He.ga K "_law_source") (fdOf K dd_l_source) := T.fn 53 (d := dd_l_source) (by rfl)
theorem Tx.b_l_source (T : Tx K mg) : L2.Binds K (fdOf K dd_l_source) ["_law_cell"] [] := T.d_l_source.bindsN fun _ _ _ _ _ _ us hl => match us, hl with | [_], _ => rfl
abbrev N_l_source : List Str := ["_law_cell"]
theorem sc_l_source : FnScope N_l_source ["_law_cell"] (defScope s_l_source) := ⟨rfl, rfl, rfl, by decide +kernel, rfl, by decide +kernel, by decide +kernel⟩
theorem Tx.d_l_next (T : Tx K mg) : FunD K "_law_next" "_law_next" (defArgs s_l_next) (defBody s_l_next) (defScope s_l_next) (dd_l_next.dvs K) [] (He.ga K "_law_next") (fdOf K dd_l_next) := T.fn 54 (d := dd_l_next) (by rfl)
theorem Tx.b_l_next (T : Tx K mg) : L2.Binds K (fdOf K dd_l_next) ["_law_source_here", "_law_many"] [] := T.d_l_next.bindsN fun _ _ _ _ _ _ us hl => match us, hl with | [_, _], _ => rfl
abbrev N_l_next : List Str := ["_law_source_here", "_law_many", "_law_found", "_law_prime", "_law_figure"]
theorem sc_l_next : FnScope N_l_next ["_law_source_here", "_law_many"] (defScope s_l_next) := ⟨rfl, rfl, rfl, by decide +kernel, rfl, by decide +kernel, by decide +kernel⟩
theorem Tx.d_l_names (T : Tx K mg) : FunD K "_law_names" "_law_names" (defArgs s_l_names) (defBody s_l_names) (defScope s_l_names) (dd_l_names.dvs K) [] (He.ga K "_law_names") (fdOf K dd_l_names) := T.fn 55 (d := dd_l_names) (by rfl)
theorem Tx.b_l_names (T : Tx K mg) : L2.Binds K (fdOf K dd_l_names) ["_law_source_here", "_law_many"] [] := T.d_l_names.bindsN fun _ _ _ _ _ _ us hl => match us, hl with | [_, _], _ => rfl
abbrev N_l_names : List Str := ["_law_source_here", "_law_many", "_law_some", "_law_at", "_law_found", "_law_last", "_law_word", "_law_k"]
theorem sc_l_names : FnScope N_l_names ["_law_source_here", "_law_many"] (defScope s_l_names) := ⟨rfl, rfl, rfl, by decide +kernel, rfl, by decide +kernel, by decide +kernel⟩
theorem Tx.d_l_breed_rows (T : Tx K mg) : FunD K "_law_breed_rows" "_law_breed_rows" (defArgs s_l_breed_rows) (defBody s_l_breed_rows) (defScope s_l_breed_rows) (dd_l_breed_rows.dvs K) [] (He.ga K "_law_breed_rows") (fdOf K dd_l_breed_rows) := T.fn 56 (d := dd_l_breed_rows) (by rfl)
theorem Tx.b_l_breed_rows (T : Tx K mg) : L2.Binds K (fdOf K dd_l_breed_rows) ["_law_source_here", "_law_names_here"] [] := T.d_l_breed_rows.bindsN fun _ _ _ _ _ _ us hl => match us, hl with | [_, _], _ => rfl
abbrev N_l_breed_rows : List Str := ["_law_source_here", "_law_names_here", "_law_found", "_law_k", "_law_least", "_law_grades", "_law_j"]
theorem sc_l_breed_rows : FnScope N_l_breed_rows ["_law_source_here", "_law_names_here"] (defScope s_l_breed_rows) := ⟨rfl, rfl, rfl, by decide +kernel, rfl, by decide +kernel, by decide +kernel⟩
theorem Tx.d_l_bed_rows (T : Tx K mg) : FunD K "_law_bed_rows" "_law_bed_rows" (defArgs s_l_bed_rows) (defBody s_l_bed_rows) (defScope s_l_bed_rows) (dd_l_bed_rows.dvs K) [] (He.ga K "_law_bed_rows") (fdOf K dd_l_bed_rows) := T.fn 57 (d := dd_l_bed_rows) (by rfl)
theorem Tx.b_l_bed_rows (T : Tx K mg) : L2.Binds K (fdOf K dd_l_bed_rows) ["_law_source_here", "_law_names_here", "_law_breeds", "_law_owners", "_law_most"] [] := T.d_l_bed_rows.bindsN fun _ _ _ _ _ _ us hl => match us, hl with | [_, _, _, _, _], _ => rfl
abbrev N_l_bed_rows : List Str := ["_law_source_here", "_law_names_here", "_law_breeds", "_law_owners", "_law_most", "_law_found", "_law_k", "_law_breed", "_law_owner", "_law_kind", "_law_roots", "_law_row"]
theorem sc_l_bed_rows : FnScope N_l_bed_rows ["_law_source_here", "_law_names_here", "_law_breeds", "_law_owners", "_law_most"] (defScope s_l_bed_rows) := ⟨rfl, rfl, rfl, by decide +kernel, rfl, by decide +kernel, by decide +kernel⟩
theorem Tx.d_l_field (T : Tx K mg) : FunD K "_law_field" "_law_field" (defArgs s_l_field) (defBody s_l_field) (defScope s_l_field) (dd_l_field.dvs K) [] (He.ga K "_law_field") (fdOf K dd_l_field) := T.fn 58 (d := dd_l_field) (by rfl)
theorem Tx.b_l_field (T : Tx K mg) : L2.Binds K (fdOf K dd_l_field) ["_law_breeds", "_law_beds"] [] := T.d_l_field.bindsN fun _ _ _ _ _ _ us hl => match us, hl with | [_, _], _ => rfl
abbrev N_l_field : List Str := ["_law_breeds", "_law_beds", "_law_built", "_law_name", "_law_grades", "_law_dug", "_law_row"]
theorem sc_l_field : FnScope N_l_field ["_law_breeds", "_law_beds"] (defScope s_l_field) := ⟨rfl, rfl, rfl, by decide +kernel, rfl, by decide +kernel, by decide +kernel⟩
theorem Tx.d_l_made (T : Tx K mg) : FunD K "_law_made" "_law_made" (defArgs s_l_made) (defBody s_l_made) (defScope s_l_made) (dd_l_made.dvs K) [] (He.ga K "_law_made") (fdOf K dd_l_made) := T.fn 59 (d := dd_l_made) (by rfl)
theorem Tx.b_l_made (T : Tx K mg) : L2.Binds K (fdOf K dd_l_made) ["_law_row"] [] := T.d_l_made.bindsN fun _ _ _ _ _ _ us hl => match us, hl with | [_], _ => rfl
abbrev N_l_made : List Str := ["_law_row"]
theorem sc_l_made : FnScope N_l_made ["_law_row"] (defScope s_l_made) := ⟨rfl, rfl, rfl, by decide +kernel, rfl, by decide +kernel, by decide +kernel⟩
theorem Tx.d_l_things (T : Tx K mg) : FunD K "_law_things" "_law_things" (defArgs s_l_things) (defBody s_l_things) (defScope s_l_things) (dd_l_things.dvs K) [] (He.ga K "_law_things") (fdOf K dd_l_things) := T.fn 60 (d := dd_l_things) (by rfl)
theorem Tx.b_l_things (T : Tx K mg) : L2.Binds K (fdOf K dd_l_things) ["_law_beds"] [] := T.d_l_things.bindsN fun _ _ _ _ _ _ us hl => match us, hl with | [_], _ => rfl
abbrev N_l_things : List Str := ["_law_beds", "_law_found", "_law_row", "_law_k"]
theorem sc_l_things : FnScope N_l_things ["_law_beds"] (defScope s_l_things) := ⟨rfl, rfl, rfl, by decide +kernel, rfl, by decide +kernel, by decide +kernel⟩
theorem Tx.d_l_in_time (T : Tx K mg) : FunD K "_law_in_time" "_law_in_time" (defArgs s_l_in_time) (defBody s_l_in_time) (defScope s_l_in_time) (dd_l_in_time.dvs K) [] (He.ga K "_law_in_time") (fdOf K dd_l_in_time) := T.fn 61 (d := dd_l_in_time) (by rfl)
theorem Tx.b_l_in_time (T : Tx K mg) : L2.Binds K (fdOf K dd_l_in_time) ["_law_rows_here"] [] := T.d_l_in_time.bindsN fun _ _ _ _ _ _ us hl => match us, hl with | [_], _ => rfl
abbrev N_l_in_time : List Str := ["_law_rows_here", "_law_moment", "_law_number", "_law_k", "_law_row"]
theorem sc_l_in_time : FnScope N_l_in_time ["_law_rows_here"] (defScope s_l_in_time) := ⟨rfl, rfl, rfl, by decide +kernel, rfl, by decide +kernel, by decide +kernel⟩
theorem Tx.d_l_back (T : Tx K mg) : FunD K "_law_back" "_law_back" (defArgs s_l_back) (defBody s_l_back) (defScope s_l_back) (dd_l_back.dvs K) [] (He.ga K "_law_back") (fdOf K dd_l_back) := T.fn 62 (d := dd_l_back) (by rfl)
theorem Tx.b_l_back (T : Tx K mg) : L2.Binds K (fdOf K dd_l_back) ["_law_state", "_law_row"] [] := T.d_l_back.bindsN fun _ _ _ _ _ _ us hl => match us, hl with | [_, _], _ => rfl
abbrev N_l_back : List Str := ["_law_state", "_law_row", "_law_name", "_law_breed", "_law_owner", "_law_roots", "_law_guess", "_law_offsets", "_law_kind", "_law_k"]
theorem sc_l_back : FnScope N_l_back ["_law_state", "_law_row"] (defScope s_l_back) := ⟨rfl, rfl, rfl, by decide +kernel, rfl, by decide +kernel, by decide +kernel⟩
theorem Tx.d_l_begin (T : Tx K mg) : FunD K "_law_begin" "_law_begin" (defArgs s_l_begin) (defBody s_l_begin) (defScope s_l_begin) (dd_l_begin.dvs K) [] (He.ga K "_law_begin") (fdOf K dd_l_begin) := T.fn 63 (d := dd_l_begin) (by rfl)
theorem Tx.b_l_begin (T : Tx K mg) : L2.Binds K (fdOf K dd_l_begin) ["_law_beds"] [] := T.d_l_begin.bindsN fun _ _ _ _ _ _ us hl => match us, hl with | [_], _ => rfl
abbrev N_l_begin : List Str := ["_law_beds", "_law_state", "_law_row"]
theorem sc_l_begin : FnScope N_l_begin ["_law_beds"] (defScope s_l_begin) := ⟨rfl, rfl, rfl, by decide +kernel, rfl, by decide +kernel, by decide +kernel⟩
theorem Tx.d_l_keys (T : Tx K mg) : FunD K "_law_keys" "_law_keys" (defArgs s_l_keys) (defBody s_l_keys) (defScope s_l_keys) (dd_l_keys.dvs K) [] (He.ga K "_law_keys") (fdOf K dd_l_keys) := T.fn 64 (d := dd_l_keys) (by rfl)
theorem Tx.b_l_keys (T : Tx K mg) : L2.Binds K (fdOf K dd_l_keys) ["_law_state", "_law_row"] [] := T.d_l_keys.bindsN fun _ _ _ _ _ _ us hl => match us, hl with | [_, _], _ => rfl
abbrev N_l_keys : List Str := ["_law_state", "_law_row", "_law_kind", "_law_bed_here", "_law_which", "_law_offsets"]
theorem sc_l_keys : FnScope N_l_keys ["_law_state", "_law_row"] (defScope s_l_keys) := ⟨rfl, rfl, rfl, by decide +kernel, rfl, by decide +kernel, by decide +kernel⟩
theorem Tx.d_l_promised (T : Tx K mg) : FunD K "_law_promised" "_law_promised" (defArgs s_l_promised) (defBody s_l_promised) (defScope s_l_promised) (dd_l_promised.dvs K) [] (He.ga K "_law_promised") (fdOf K dd_l_promised) := T.fn 65 (d := dd_l_promised) (by rfl)
theorem Tx.b_l_promised (T : Tx K mg) : L2.Binds K (fdOf K dd_l_promised) ["_law_state", "_law_row"] [] := T.d_l_promised.bindsN fun _ _ _ _ _ _ us hl => match us, hl with | [_, _], _ => rfl
abbrev N_l_promised : List Str := ["_law_state", "_law_row", "_law_kind", "_law_bed_here", "_law_which", "_law_number", "_law_moment", "_law_seller", "_law_buyer", "_law_keys_here", "_law_shares", "_law_units", "_law_short", "_law_ahead", "_law_entry", "_law_key"]
theorem sc_l_promised : FnScope N_l_promised ["_law_state", "_law_row"] (defScope s_l_promised) := ⟨rfl, rfl, rfl, by decide +kernel, rfl, by decide +kernel, by decide +kernel⟩
theorem Tx.d_l_spoiled (T : Tx K mg) : FunD K "_law_spoiled" "_law_spoiled" (defArgs s_l_spoiled) (defBody s_l_spoiled) (defScope s_l_spoiled) (dd_l_spoiled.dvs K) [] (He.ga K "_law_spoiled") (fdOf K dd_l_spoiled) := T.fn 66 (d := dd_l_spoiled) (by rfl)
theorem Tx.b_l_spoiled (T : Tx K mg) : L2.Binds K (fdOf K dd_l_spoiled) ["_law_state", "_law_beds", "_law_row"] [] := T.d_l_spoiled.bindsN fun _ _ _ _ _ _ us hl => match us, hl with | [_, _, _], _ => rfl
abbrev N_l_spoiled : List Str := ["_law_state", "_law_beds", "_law_row", "_law_bed_here", "_law_entry", "_law_one"]
theorem sc_l_spoiled : FnScope N_l_spoiled ["_law_state", "_law_beds", "_law_row"] (defScope s_l_spoiled) := ⟨rfl, rfl, rfl, by decide +kernel, rfl, by decide +kernel, by decide +kernel⟩
theorem Tx.d_l_led (T : Tx K mg) : FunD K "_law_led" "_law_led" (defArgs s_l_led) (defBody s_l_led) (defScope s_l_led) (dd_l_led.dvs K) [] (He.ga K "_law_led") (fdOf K dd_l_led) := T.fn 67 (d := dd_l_led) (by rfl)
theorem Tx.b_l_led (T : Tx K mg) : L2.Binds K (fdOf K dd_l_led) ["_law_beds", "_law_rows_here"] [] := T.d_l_led.bindsN fun _ _ _ _ _ _ us hl => match us, hl with | [_, _], _ => rfl
abbrev N_l_led : List Str := ["_law_beds", "_law_rows_here", "_law_state", "_law_row"]
theorem sc_l_led : FnScope N_l_led ["_law_beds", "_law_rows_here"] (defScope s_l_led) := ⟨rfl, rfl, rfl, by decide +kernel, rfl, by decide +kernel, by decide +kernel⟩
theorem Tx.d_l_likely (T : Tx K mg) : FunD K "_law_likely" "_law_likely" (defArgs s_l_likely) (defBody s_l_likely) (defScope s_l_likely) (dd_l_likely.dvs K) [] (He.ga K "_law_likely") (fdOf K dd_l_likely) := T.fn 68 (d := dd_l_likely) (by rfl)
theorem Tx.b_l_likely (T : Tx K mg) : L2.Binds K (fdOf K dd_l_likely) ["_law_source_here", "_law_number", "_law_moment", "_law_names_here", "_law_things_here", "_law_state"] [] := T.d_l_likely.bindsN fun _ _ _ _ _ _ us hl => match us, hl with | [_, _, _, _, _, _], _ => rfl
abbrev N_l_likely : List Str := ["_law_source_here", "_law_number", "_law_moment", "_law_names_here", "_law_things_here", "_law_state", "_law_thing", "_law_some", "_law_name", "_law_bottom", "_law_far", "_law_seller", "_law_others", "_law_buyer", "_law_going", "_law_found"]
theorem sc_l_likely : FnScope N_l_likely ["_law_source_here", "_law_number", "_law_moment", "_law_names_here", "_law_things_here", "_law_state"] (defScope s_l_likely) := ⟨rfl, rfl, rfl, by decide +kernel, rfl, by decide +kernel, by decide +kernel⟩
theorem Tx.d_l_row_of (T : Tx K mg) : FunD K "_law_row_of" "_law_row_of" (defArgs s_l_row_of) (defBody s_l_row_of) (defScope s_l_row_of) (dd_l_row_of.dvs K) [] (He.ga K "_law_row_of") (fdOf K dd_l_row_of) := T.fn 69 (d := dd_l_row_of) (by rfl)
theorem Tx.b_l_row_of (T : Tx K mg) : L2.Binds K (fdOf K dd_l_row_of) ["_law_source_here", "_law_k", "_law_names_here", "_law_things_here", "_law_state", "_law_spoils"] [] := T.d_l_row_of.bindsN fun _ _ _ _ _ _ us hl => match us, hl with | [_, _, _, _, _, _], _ => rfl
abbrev N_l_row_of : List Str := ["_law_source_here", "_law_k", "_law_names_here", "_law_things_here", "_law_state", "_law_spoils", "_law_number", "_law_moment"]
theorem sc_l_row_of : FnScope N_l_row_of ["_law_source_here", "_law_k", "_law_names_here", "_law_things_here", "_law_state", "_law_spoils"] (defScope s_l_row_of) := ⟨rfl, rfl, rfl, by decide +kernel, rfl, by decide +kernel, by decide +kernel⟩
theorem Tx.d_l_scene (T : Tx K mg) : FunD K "_law_scene" "_law_scene" (defArgs s_l_scene) (defBody s_l_scene) (defScope s_l_scene) (dd_l_scene.dvs K) [] (He.ga K "_law_scene") (fdOf K dd_l_scene) := T.fn 70 (d := dd_l_scene) (by rfl)
theorem Tx.b_l_scene (T : Tx K mg) : L2.Binds K (fdOf K dd_l_scene) ["_law_source_here", "_law_most"] [] := T.d_l_scene.bindsN fun _ _ _ _ _ _ us hl => match us, hl with | [_, _], _ => rfl
abbrev N_l_scene : List Str := ["_law_source_here", "_law_most", "_law_names_here", "_law_breeds", "_law_beds"]
theorem sc_l_scene : FnScope N_l_scene ["_law_source_here", "_law_most"] (defScope s_l_scene) := ⟨rfl, rfl, rfl, by decide +kernel, rfl, by decide +kernel, by decide +kernel⟩
theorem Tx.d_l_rows (T : Tx K mg) : FunD K "_law_rows" "_law_rows" (defArgs s_l_rows) (defBody s_l_rows) (defScope s_l_rows) (dd_l_rows.dvs K) [] (He.ga K "_law_rows") (fdOf K dd_l_rows) := T.fn 71 (d := dd_l_rows) (by rfl)
theorem Tx.b_l_rows (T : Tx K mg) : L2.Binds K (fdOf K dd_l_rows) ["_law_source_here", "_law_cells", "_law_names_here", "_law_beds", "_law_things_here"] [] := T.d_l_rows.bindsN fun _ _ _ _ _ _ us hl => match us, hl with | [_, _, _, _, _], _ => rfl
abbrev N_l_rows : List Str := ["_law_source_here", "_law_cells", "_law_names_here", "_law_beds", "_law_things_here", "_law_state", "_law_rows_here", "_law_k", "_law_cell", "_law_teller", "_law_row"]
theorem sc_l_rows : FnScope N_l_rows ["_law_source_here", "_law_cells", "_law_names_here", "_law_beds", "_law_things_here"] (defScope s_l_rows) := ⟨rfl, rfl, rfl, by decide +kernel, rfl, by decide +kernel, by decide +kernel⟩
theorem Tx.d_l_told (T : Tx K mg) : FunD K "_law_told" "_law_told" (defArgs s_l_told) (defBody s_l_told) (defScope s_l_told) (dd_l_told.dvs K) [] (He.ga K "_law_told") (fdOf K dd_l_told) := T.fn 72 (d := dd_l_told) (by rfl)
theorem Tx.b_l_told (T : Tx K mg) : L2.Binds K (fdOf K dd_l_told) ["_law_field_here", "_law_rows_here"] [] := T.d_l_told.bindsN fun _ _ _ _ _ _ us hl => match us, hl with | [_, _], _ => rfl
abbrev N_l_told : List Str := ["_law_field_here", "_law_rows_here", "_law_ledger", "_law_row"]
theorem sc_l_told : FnScope N_l_told ["_law_field_here", "_law_rows_here"] (defScope s_l_told) := ⟨rfl, rfl, rfl, by decide +kernel, rfl, by decide +kernel, by decide +kernel⟩
theorem Tx.d_l_bed (T : Tx K mg) : FunD K "_law_bed" "_law_bed" (defArgs s_l_bed) (defBody s_l_bed) (defScope s_l_bed) (dd_l_bed.dvs K) [] (He.ga K "_law_bed") (fdOf K dd_l_bed) := T.fn 73 (d := dd_l_bed) (by rfl)
theorem Tx.b_l_bed (T : Tx K mg) : L2.Binds K (fdOf K dd_l_bed) ["_law_row"] [] := T.d_l_bed.bindsN fun _ _ _ _ _ _ us hl => match us, hl with | [_], _ => rfl
abbrev N_l_bed : List Str := ["_law_row"]
theorem sc_l_bed : FnScope N_l_bed ["_law_row"] (defScope s_l_bed) := ⟨rfl, rfl, rfl, by decide +kernel, rfl, by decide +kernel, by decide +kernel⟩
theorem Tx.d_l_of (T : Tx K mg) : FunD K "_law_of" "_law_of" (defArgs s_l_of) (defBody s_l_of) (defScope s_l_of) (dd_l_of.dvs K) [] (He.ga K "_law_of") (fdOf K dd_l_of) := T.fn 74 (d := dd_l_of) (by rfl)
theorem Tx.b_l_of (T : Tx K mg) : L2.Binds K (fdOf K dd_l_of) ["_law_ledger", "_law_beds", "_law_numbers"] [] := T.d_l_of.bindsN fun _ _ _ _ _ _ us hl => match us, hl with | [_, _, _], _ => rfl
abbrev N_l_of : List Str := ["_law_ledger", "_law_beds", "_law_numbers", "_law_found", "_law_row", "_law_number", "_law_places", "_law_k", "_law_thing"]
theorem sc_l_of : FnScope N_l_of ["_law_ledger", "_law_beds", "_law_numbers"] (defScope s_l_of) := ⟨rfl, rfl, rfl, by decide +kernel, rfl, by decide +kernel, by decide +kernel⟩
theorem Tx.d_l_undone (T : Tx K mg) : FunD K "_law_undone" "_law_undone" (defArgs s_l_undone) (defBody s_l_undone) (defScope s_l_undone) (dd_l_undone.dvs K) [] (He.ga K "_law_undone") (fdOf K dd_l_undone) := T.fn 75 (d := dd_l_undone) (by rfl)
theorem Tx.b_l_undone (T : Tx K mg) : L2.Binds K (fdOf K dd_l_undone) ["_law_beds", "_law_rows_here", "_law_spoiling", "_law_bed_here"] [] := T.d_l_undone.bindsN fun _ _ _ _ _ _ us hl => match us, hl with | [_, _, _, _], _ => rfl
abbrev N_l_undone : List Str := ["_law_beds", "_law_rows_here", "_law_spoiling", "_law_bed_here", "_law_some", "_law_row", "_law_first", "_law_mark", "_law_state", "_law_entry"]
theorem sc_l_undone : FnScope N_l_undone ["_law_beds", "_law_rows_here", "_law_spoiling", "_law_bed_here"] (defScope s_l_undone) := ⟨rfl, rfl, rfl, by decide +kernel, rfl, by decide +kernel, by decide +kernel⟩
theorem Tx.d_law (T : Tx K mg) : FunD K "law" "law" (defArgs s_law) (defBody s_law) (defScope s_law) (dd_law.dvs K) [] (He.ga K "law") (fdOf K dd_law) := T.fn 76 (d := dd_law) (by rfl)
theorem Tx.b_law (T : Tx K mg) : L2.Binds K (fdOf K dd_law) ["_law_script"] [] := T.d_law.bindsN fun _ _ _ _ _ _ us hl => match us, hl with | [_], _ => rfl
abbrev N_law : List Str := ["_law_script", "_law_source_here", "_law_names_here", "_law_beds", "_law_field_here", "_law_rows_here", "_law_bed_here", "_law_spoiling", "_law_others", "_law_row", "_law_numbers", "_law_ledgers", "_law_ledger", "_law_due", "_law_undone_here", "_law_number"]
theorem sc_law : FnScope N_law ["_law_script"] (defScope s_law) := ⟨rfl, rfl, rfl, by decide +kernel, rfl, by decide +kernel, by decide +kernel⟩
end
end Rp

set_option maxRecDepth 100000
set_option maxHeartbeats 4000000
/-! the rules with the written part told by its letter, and short words for readings -/
namespace Rp
open PySem PySem.Spec PyProof.Rows L2
section
variable {X : Cx} (K : PySem.W.Frag) (hK : X.K = K)
include hK
theorem pe_fldK {e : Expr} {f : Str} {pos : Pos} {ta : TE} (he : PE X e ta) (hb : attributeBase e f X.env (eval e X.env) = eval e X.env) : PE X (.Attribute e f pos) (tFld K ta f) := by
  subst hK; exact pe_fld he hb
theorem ix_listK : IxR X (rIxL K) := by subst hK; exact ix_list
theorem ix_tupK : IxR X (rIxT K) := by subst hK; exact ix_tup
theorem isiK : CallR X (.builtin "isinstance") (rIsi K) := by subst hK; exact call_isi
theorem op_inK : OpR X (compareOp .In) (rIn K false) := by subst hK; exact op_in_seq
theorem op_notInK : OpR X (compareOp .NotIn) (rIn K true) := by subst hK; exact op_notIn_seq
theorem op_inDK (hu : X.A.units + 65 < cLine) : OpR X (compareOp .In) (rInD K) := by subst hK; exact op_inD hu
theorem op_ltTK (hu : X.A.units < cLine) : OpR X (compareOp .Lt) (rLtT K) := by subst hK; exact op_ltT hu
theorem op_eqDK (hu : X.A.units + 64 < cLine) : OpR X (compareOp .Eq) (rEqD K) := by subst hK; exact op_eqD hu
theorem op_neDK (hu : X.A.units + 64 < cLine) : OpR X (compareOp .NotEq) (rNeD K) := by subst hK; exact op_neD hu
end
end Rp

set_option maxRecDepth 100000
set_option maxHeartbeats 4000000
namespace Rp
open PySem PySem.Spec PyProof.Rows L2
/-! ### the fields of the classes -/
section
variable {K : PySem.W.Frag} {mg : Str → Option Value} {H : Hp} {Q : VK} {p dx : Addr}
def fs_Part (v_top v_bottom : V) : List (Str × V) := [("top", v_top), ("bottom", v_bottom)]
abbrev A_Part (K : PySem.W.Frag) : Addr := He.ga K "Part"
theorem put_Part (v_top v_bottom : V) : (putF "bottom" v_bottom (putF "top" v_top [])) = fs_Part v_top v_bottom := by kernel_rfl
theorem l_Part_top {v_top v_bottom : V} : (fs_Part v_top v_bottom).lookup ("top" : Str) = some v_top := by kernel_rfl
theorem l_Part_bottom {v_top v_bottom : V} : (fs_Part v_top v_bottom).lookup ("bottom" : Str) = some v_bottom := by kernel_rfl
theorem u_Part_top (v_top v_bottom y : V) : putF "top" y (fs_Part v_top v_bottom) = fs_Part y v_bottom := by kernel_rfl
theorem u_Part_bottom (v_top v_bottom y : V) : putF "bottom" y (fs_Part v_top v_bottom) = fs_Part v_top y := by kernel_rfl
theorem lm_Part_eq {v_top v_bottom : V} : (fs_Part v_top v_bottom).lookup ("__eq__" : Str) = none := by kernel_rfl
def fs_Breed (v_name v_grades : V) : List (Str × V) := [("name", v_name), ("grades", v_grades)]
abbrev A_Breed (K : PySem.W.Frag) : Addr := He.ga K "Breed"
theorem put_Breed (v_name v_grades : V) : (putF "grades" v_grades (putF "name" v_name [])) = fs_Breed v_name v_grades := by kernel_rfl
theorem l_Breed_name {v_name v_grades : V} : (fs_Breed v_name v_grades).lookup ("name" : Str) = some v_name := by kernel_rfl
theorem l_Breed_grades {v_name v_grades : V} : (fs_Breed v_name v_grades).lookup ("grades" : Str) = some v_grades := by kernel_rfl
theorem u_Breed_name (v_name v_grades y : V) : putF "name" y (fs_Breed v_name v_grades) = fs_Breed y v_grades := by kernel_rfl
theorem u_Breed_grades (v_name v_grades y : V) : putF "grades" y (fs_Breed v_name v_grades) = fs_Breed v_name y := by kernel_rfl
def fs_Bed (v_name v_breed v_owner v_roots v_guess v_offsets v_kind : V) : List (Str × V) := [("name", v_name), ("breed", v_breed), ("owner", v_owner), ("roots", v_roots), ("guess", v_guess), ("offsets", v_offsets), ("kind", v_kind)]
abbrev A_Bed (K : PySem.W.Frag) : Addr := He.ga K "Bed"
theorem put_Bed (v_name v_breed v_owner v_roots v_guess v_offsets v_kind : V) : (putF "kind" v_kind (putF "offsets" v_offsets (putF "guess" v_guess (putF "roots" v_roots (putF "owner" v_owner (putF "breed" v_breed (putF "name" v_name []))))))) = fs_Bed v_name v_breed v_owner v_roots v_guess v_offsets v_kind := by kernel_rfl
theorem l_Bed_name {v_name v_breed v_owner v_roots v_guess v_offsets v_kind : V} : (fs_Bed v_name v_breed v_owner v_roots v_guess v_offsets v_kind).lookup ("name" : Str) = some v_name := by kernel_rfl
theorem l_Bed_breed {v_name v_breed v_owner v_roots v_guess v_offsets v_kind : V} : (fs_Bed v_name v_breed v_owner v_roots v_guess v_offsets v_kind).lookup ("breed" : Str) = some v_breed := by kernel_rfl
theorem l_Bed_owner {v_name v_breed v_owner v_roots v_guess v_offsets v_kind : V} : (fs_Bed v_name v_breed v_owner v_roots v_guess v_offsets v_kind).lookup ("owner" : Str) = some v_owner := by kernel_rfl
theorem l_Bed_roots {v_name v_breed v_owner v_roots v_guess v_offsets v_kind : V} : (fs_Bed v_name v_breed v_owner v_roots v_guess v_offsets v_kind).lookup ("roots" : Str) = some v_roots := by kernel_rfl
theorem l_Bed_guess {v_name v_breed v_owner v_roots v_guess v_offsets v_kind : V} : (fs_Bed v_name v_breed v_owner v_roots v_guess v_offsets v_kind).lookup ("guess" : Str) = some v_guess := by kernel_rfl
theorem l_Bed_offsets {v_name v_breed v_owner v_roots v_guess v_offsets v_kind : V} : (fs_Bed v_name v_breed v_owner v_roots v_guess v_offsets v_kind).lookup ("offsets" : Str) = some v_offsets := by kernel_rfl
theorem l_Bed_kind {v_name v_breed v_owner v_roots v_guess v_offsets v_kind : V} : (fs_Bed v_name v_breed v_owner v_roots v_guess v_offsets v_kind).lookup ("kind" : Str) = some v_kind := by kernel_rfl
theorem u_Bed_name (v_name v_breed v_owner v_roots v_guess v_offsets v_kind y : V) : putF "name" y (fs_Bed v_name v_breed v_owner v_roots v_guess v_offsets v_kind) = fs_Bed y v_breed v_owner v_roots v_guess v_offsets v_kind := by kernel_rfl
theorem u_Bed_breed (v_name v_breed v_owner v_roots v_guess v_offsets v_kind y : V) : putF "breed" y (fs_Bed v_name v_breed v_owner v_roots v_guess v_offsets v_kind) = fs_Bed v_name y v_owner v_roots v_guess v_offsets v_kind := by kernel_rfl
theorem u_Bed_owner (v_name v_breed v_owner v_roots v_guess v_offsets v_kind y : V) : putF "owner" y (fs_Bed v_name v_breed v_owner v_roots v_guess v_offsets v_kind) = fs_Bed v_name v_breed y v_roots v_guess v_offsets v_kind := by kernel_rfl
theorem u_Bed_roots (v_name v_breed v_owner v_roots v_guess v_offsets v_kind y : V) : putF "roots" y (fs_Bed v_name v_breed v_owner v_roots v_guess v_offsets v_kind) = fs_Bed v_name v_breed v_owner y v_guess v_offsets v_kind := by kernel_rfl
theorem u_Bed_guess (v_name v_breed v_owner v_roots v_guess v_offsets v_kind y : V) : putF "guess" y (fs_Bed v_name v_breed v_owner v_roots v_guess v_offsets v_kind) = fs_Bed v_name v_breed v_owner v_roots y v_offsets v_kind := by kernel_rfl
theorem u_Bed_offsets (v_name v_breed v_owner v_roots v_guess v_offsets v_kind y : V) : putF "offsets" y (fs_Bed v_name v_breed v_owner v_roots v_guess v_offsets v_kind) = fs_Bed v_name v_breed v_owner v_roots v_guess y v_kind := by kernel_rfl
theorem u_Bed_kind (v_name v_breed v_owner v_roots v_guess v_offsets v_kind y : V) : putF "kind" y (fs_Bed v_name v_breed v_owner v_roots v_guess v_offsets v_kind) = fs_Bed v_name v_breed v_owner v_roots v_guess v_offsets y := by kernel_rfl
def fs_Field (v_grown v_dug : V) : List (Str × V) := [("grown", v_grown), ("dug", v_dug)]
abbrev A_Field (K : PySem.W.Frag) : Addr := He.ga K "Field"
theorem put_Field (v_grown v_dug : V) : (putF "dug" v_dug (putF "grown" v_grown [])) = fs_Field v_grown v_dug := by kernel_rfl
theorem l_Field_grown {v_grown v_dug : V} : (fs_Field v_grown v_dug).lookup ("grown" : Str) = some v_grown := by kernel_rfl
theorem l_Field_dug {v_grown v_dug : V} : (fs_Field v_grown v_dug).lookup ("dug" : Str) = some v_dug := by kernel_rfl
theorem u_Field_grown (v_grown v_dug y : V) : putF "grown" y (fs_Field v_grown v_dug) = fs_Field y v_dug := by kernel_rfl
theorem u_Field_dug (v_grown v_dug y : V) : putF "dug" y (fs_Field v_grown v_dug) = fs_Field v_grown y := by kernel_rfl
theorem lm_Field_bed_of {v_grown v_dug : V} : (fs_Field v_grown v_dug).lookup ("bed_of" : Str) = none := by kernel_rfl
theorem lm_Field_bed_names {v_grown v_dug : V} : (fs_Field v_grown v_dug).lookup ("bed_names" : Str) = none := by kernel_rfl
def fs_Promise (v_number v_moment v_seller v_buyer v_thing v_price v_rule v_offsets v_earnest : V) : List (Str × V) := [("number", v_number), ("moment", v_moment), ("seller", v_seller), ("buyer", v_buyer), ("thing", v_thing), ("price", v_price), ("rule", v_rule), ("offsets", v_offsets), ("earnest", v_earnest)]
abbrev A_Promise (K : PySem.W.Frag) : Addr := He.ga K "Promise"
theorem put_Promise (v_number v_moment v_seller v_buyer v_thing v_price v_rule v_offsets v_earnest : V) : (putF "earnest" v_earnest (putF "offsets" v_offsets (putF "rule" v_rule (putF "price" v_price (putF "thing" v_thing (putF "buyer" v_buyer (putF "seller" v_seller (putF "moment" v_moment (putF "number" v_number []))))))))) = fs_Promise v_number v_moment v_seller v_buyer v_thing v_price v_rule v_offsets v_earnest := by kernel_rfl
theorem l_Promise_number {v_number v_moment v_seller v_buyer v_thing v_price v_rule v_offsets v_earnest : V} : (fs_Promise v_number v_moment v_seller v_buyer v_thing v_price v_rule v_offsets v_earnest).lookup ("number" : Str) = some v_number := by kernel_rfl
theorem l_Promise_moment {v_number v_moment v_seller v_buyer v_thing v_price v_rule v_offsets v_earnest : V} : (fs_Promise v_number v_moment v_seller v_buyer v_thing v_price v_rule v_offsets v_earnest).lookup ("moment" : Str) = some v_moment := by kernel_rfl
theorem l_Promise_seller {v_number v_moment v_seller v_buyer v_thing v_price v_rule v_offsets v_earnest : V} : (fs_Promise v_number v_moment v_seller v_buyer v_thing v_price v_rule v_offsets v_earnest).lookup ("seller" : Str) = some v_seller := by kernel_rfl
theorem l_Promise_buyer {v_number v_moment v_seller v_buyer v_thing v_price v_rule v_offsets v_earnest : V} : (fs_Promise v_number v_moment v_seller v_buyer v_thing v_price v_rule v_offsets v_earnest).lookup ("buyer" : Str) = some v_buyer := by kernel_rfl
theorem l_Promise_thing {v_number v_moment v_seller v_buyer v_thing v_price v_rule v_offsets v_earnest : V} : (fs_Promise v_number v_moment v_seller v_buyer v_thing v_price v_rule v_offsets v_earnest).lookup ("thing" : Str) = some v_thing := by kernel_rfl
theorem l_Promise_price {v_number v_moment v_seller v_buyer v_thing v_price v_rule v_offsets v_earnest : V} : (fs_Promise v_number v_moment v_seller v_buyer v_thing v_price v_rule v_offsets v_earnest).lookup ("price" : Str) = some v_price := by kernel_rfl
theorem l_Promise_rule {v_number v_moment v_seller v_buyer v_thing v_price v_rule v_offsets v_earnest : V} : (fs_Promise v_number v_moment v_seller v_buyer v_thing v_price v_rule v_offsets v_earnest).lookup ("rule" : Str) = some v_rule := by kernel_rfl
theorem l_Promise_offsets {v_number v_moment v_seller v_buyer v_thing v_price v_rule v_offsets v_earnest : V} : (fs_Promise v_number v_moment v_seller v_buyer v_thing v_price v_rule v_offsets v_earnest).lookup ("offsets" : Str) = some v_offsets := by kernel_rfl
theorem l_Promise_earnest {v_number v_moment v_seller v_buyer v_thing v_price v_rule v_offsets v_earnest : V} : (fs_Promise v_number v_moment v_seller v_buyer v_thing v_price v_rule v_offsets v_earnest).lookup ("earnest" : Str) = some v_earnest := by kernel_rfl
theorem u_Promise_number (v_number v_moment v_seller v_buyer v_thing v_price v_rule v_offsets v_earnest y : V) : putF "number" y (fs_Promise v_number v_moment v_seller v_buyer v_thing v_price v_rule v_offsets v_earnest) = fs_Promise y v_moment v_seller v_buyer v_thing v_price v_rule v_offsets v_earnest := by kernel_rfl
theorem u_Promise_moment (v_number v_moment v_seller v_buyer v_thing v_price v_rule v_offsets v_earnest y : V) : putF "moment" y (fs_Promise v_number v_moment v_seller v_buyer v_thing v_price v_rule v_offsets v_earnest) = fs_Promise v_number y v_seller v_buyer v_thing v_price v_rule v_offsets v_earnest := by kernel_rfl
theorem u_Promise_seller (v_number v_moment v_seller v_buyer v_thing v_price v_rule v_offsets v_earnest y : V) : putF "seller" y (fs_Promise v_number v_moment v_seller v_buyer v_thing v_price v_rule v_offsets v_earnest) = fs_Promise v_number v_moment y v_buyer v_thing v_price v_rule v_offsets v_earnest := by kernel_rfl
theorem u_Promise_buyer (v_number v_moment v_seller v_buyer v_thing v_price v_rule v_offsets v_earnest y : V) : putF "buyer" y (fs_Promise v_number v_moment v_seller v_buyer v_thing v_price v_rule v_offsets v_earnest) = fs_Promise v_number v_moment v_seller y v_thing v_price v_rule v_offsets v_earnest := by kernel_rfl
theorem u_Promise_thing (v_number v_moment v_seller v_buyer v_thing v_price v_rule v_offsets v_earnest y : V) : putF "thing" y (fs_Promise v_number v_moment v_seller v_buyer v_thing v_price v_rule v_offsets v_earnest) = fs_Promise v_number v_moment v_seller v_buyer y v_price v_rule v_offsets v_earnest := by kernel_rfl
theorem u_Promise_price (v_number v_moment v_seller v_buyer v_thing v_price v_rule v_offsets v_earnest y : V) : putF "price" y (fs_Promise v_number v_moment v_seller v_buyer v_thing v_price v_rule v_offsets v_earnest) = fs_Promise v_number v_moment v_seller v_buyer v_thing y v_rule v_offsets v_earnest := by kernel_rfl
theorem u_Promise_rule (v_number v_moment v_seller v_buyer v_thing v_price v_rule v_offsets v_earnest y : V) : putF "rule" y (fs_Promise v_number v_moment v_seller v_buyer v_thing v_price v_rule v_offsets v_earnest) = fs_Promise v_number v_moment v_seller v_buyer v_thing v_price y v_offsets v_earnest := by kernel_rfl
theorem u_Promise_offsets (v_number v_moment v_seller v_buyer v_thing v_price v_rule v_offsets v_earnest y : V) : putF "offsets" y (fs_Promise v_number v_moment v_seller v_buyer v_thing v_price v_rule v_offsets v_earnest) = fs_Promise v_number v_moment v_seller v_buyer v_thing v_price v_rule y v_earnest := by kernel_rfl
theorem u_Promise_earnest (v_number v_moment v_seller v_buyer v_thing v_price v_rule v_offsets v_earnest y : V) : putF "earnest" y (fs_Promise v_number v_moment v_seller v_buyer v_thing v_price v_rule v_offsets v_earnest) = fs_Promise v_number v_moment v_seller v_buyer v_thing v_price v_rule v_offsets y := by kernel_rfl
def fs_Spoiling (v_number v_moment v_bed : V) : List (Str × V) := [("number", v_number), ("moment", v_moment), ("bed", v_bed)]
abbrev A_Spoiling (K : PySem.W.Frag) : Addr := He.ga K "Spoiling"
theorem put_Spoiling (v_number v_moment v_bed : V) : (putF "bed" v_bed (putF "moment" v_moment (putF "number" v_number []))) = fs_Spoiling v_number v_moment v_bed := by kernel_rfl
theorem l_Spoiling_number {v_number v_moment v_bed : V} : (fs_Spoiling v_number v_moment v_bed).lookup ("number" : Str) = some v_number := by kernel_rfl
theorem l_Spoiling_moment {v_number v_moment v_bed : V} : (fs_Spoiling v_number v_moment v_bed).lookup ("moment" : Str) = some v_moment := by kernel_rfl
theorem l_Spoiling_bed {v_number v_moment v_bed : V} : (fs_Spoiling v_number v_moment v_bed).lookup ("bed" : Str) = some v_bed := by kernel_rfl
theorem u_Spoiling_number (v_number v_moment v_bed y : V) : putF "number" y (fs_Spoiling v_number v_moment v_bed) = fs_Spoiling y v_moment v_bed := by kernel_rfl
theorem u_Spoiling_moment (v_number v_moment v_bed y : V) : putF "moment" y (fs_Spoiling v_number v_moment v_bed) = fs_Spoiling v_number y v_bed := by kernel_rfl
theorem u_Spoiling_bed (v_number v_moment v_bed y : V) : putF "bed" y (fs_Spoiling v_number v_moment v_bed) = fs_Spoiling v_number v_moment y := by kernel_rfl
def fs_Standing (v_field v_held v_parts v_spoilt v_good v_void_rows v_gone : V) : List (Str × V) := [("field", v_field), ("held", v_held), ("parts", v_parts), ("spoilt", v_spoilt), ("good", v_good), ("void_rows", v_void_rows), ("gone", v_gone)]
abbrev A_Standing (K : PySem.W.Frag) : Addr := He.ga K "Standing"
theorem put_Standing (v_field v_held v_parts v_spoilt v_good v_void_rows v_gone : V) : (putF "gone" v_gone (putF "void_rows" v_void_rows (putF "good" v_good (putF "spoilt" v_spoilt (putF "parts" v_parts (putF "held" v_held (putF "field" v_field []))))))) = fs_Standing v_field v_held v_parts v_spoilt v_good v_void_rows v_gone := by kernel_rfl
theorem l_Standing_field {v_field v_held v_parts v_spoilt v_good v_void_rows v_gone : V} : (fs_Standing v_field v_held v_parts v_spoilt v_good v_void_rows v_gone).lookup ("field" : Str) = some v_field := by kernel_rfl
theorem l_Standing_held {v_field v_held v_parts v_spoilt v_good v_void_rows v_gone : V} : (fs_Standing v_field v_held v_parts v_spoilt v_good v_void_rows v_gone).lookup ("held" : Str) = some v_held := by kernel_rfl
theorem l_Standing_parts {v_field v_held v_parts v_spoilt v_good v_void_rows v_gone : V} : (fs_Standing v_field v_held v_parts v_spoilt v_good v_void_rows v_gone).lookup ("parts" : Str) = some v_parts := by kernel_rfl
theorem l_Standing_spoilt {v_field v_held v_parts v_spoilt v_good v_void_rows v_gone : V} : (fs_Standing v_field v_held v_parts v_spoilt v_good v_void_rows v_gone).lookup ("spoilt" : Str) = some v_spoilt := by kernel_rfl
theorem l_Standing_good {v_field v_held v_parts v_spoilt v_good v_void_rows v_gone : V} : (fs_Standing v_field v_held v_parts v_spoilt v_good v_void_rows v_gone).lookup ("good" : Str) = some v_good := by kernel_rfl
theorem l_Standing_void_rows {v_field v_held v_parts v_spoilt v_good v_void_rows v_gone : V} : (fs_Standing v_field v_held v_parts v_spoilt v_good v_void_rows v_gone).lookup ("void_rows" : Str) = some v_void_rows := by kernel_rfl
theorem l_Standing_gone {v_field v_held v_parts v_spoilt v_good v_void_rows v_gone : V} : (fs_Standing v_field v_held v_parts v_spoilt v_good v_void_rows v_gone).lookup ("gone" : Str) = some v_gone := by kernel_rfl
theorem u_Standing_field (v_field v_held v_parts v_spoilt v_good v_void_rows v_gone y : V) : putF "field" y (fs_Standing v_field v_held v_parts v_spoilt v_good v_void_rows v_gone) = fs_Standing y v_held v_parts v_spoilt v_good v_void_rows v_gone := by kernel_rfl
theorem u_Standing_held (v_field v_held v_parts v_spoilt v_good v_void_rows v_gone y : V) : putF "held" y (fs_Standing v_field v_held v_parts v_spoilt v_good v_void_rows v_gone) = fs_Standing v_field y v_parts v_spoilt v_good v_void_rows v_gone := by kernel_rfl
theorem u_Standing_parts (v_field v_held v_parts v_spoilt v_good v_void_rows v_gone y : V) : putF "parts" y (fs_Standing v_field v_held v_parts v_spoilt v_good v_void_rows v_gone) = fs_Standing v_field v_held y v_spoilt v_good v_void_rows v_gone := by kernel_rfl
theorem u_Standing_spoilt (v_field v_held v_parts v_spoilt v_good v_void_rows v_gone y : V) : putF "spoilt" y (fs_Standing v_field v_held v_parts v_spoilt v_good v_void_rows v_gone) = fs_Standing v_field v_held v_parts y v_good v_void_rows v_gone := by kernel_rfl
theorem u_Standing_good (v_field v_held v_parts v_spoilt v_good v_void_rows v_gone y : V) : putF "good" y (fs_Standing v_field v_held v_parts v_spoilt v_good v_void_rows v_gone) = fs_Standing v_field v_held v_parts v_spoilt y v_void_rows v_gone := by kernel_rfl
theorem u_Standing_void_rows (v_field v_held v_parts v_spoilt v_good v_void_rows v_gone y : V) : putF "void_rows" y (fs_Standing v_field v_held v_parts v_spoilt v_good v_void_rows v_gone) = fs_Standing v_field v_held v_parts v_spoilt v_good y v_gone := by kernel_rfl
theorem u_Standing_gone (v_field v_held v_parts v_spoilt v_good v_void_rows v_gone y : V) : putF "gone" y (fs_Standing v_field v_held v_parts v_spoilt v_good v_void_rows v_gone) = fs_Standing v_field v_held v_parts v_spoilt v_good v_void_rows y := by kernel_rfl
theorem lm_Standing_back {v_field v_held v_parts v_spoilt v_good v_void_rows v_gone : V} : (fs_Standing v_field v_held v_parts v_spoilt v_good v_void_rows v_gone).lookup ("back" : Str) = none := by kernel_rfl
theorem lm_Standing_holds {v_field v_held v_parts v_spoilt v_good v_void_rows v_gone : V} : (fs_Standing v_field v_held v_parts v_spoilt v_good v_void_rows v_gone).lookup ("holds" : Str) = none := by kernel_rfl
theorem lm_Standing_moves {v_field v_held v_parts v_spoilt v_good v_void_rows v_gone : V} : (fs_Standing v_field v_held v_parts v_spoilt v_good v_void_rows v_gone).lookup ("moves" : Str) = none := by kernel_rfl
theorem lm_Standing_go {v_field v_held v_parts v_spoilt v_good v_void_rows v_gone : V} : (fs_Standing v_field v_held v_parts v_spoilt v_good v_void_rows v_gone).lookup ("go" : Str) = none := by kernel_rfl
theorem lm_Standing_void {v_field v_held v_parts v_spoilt v_good v_void_rows v_gone : V} : (fs_Standing v_field v_held v_parts v_spoilt v_good v_void_rows v_gone).lookup ("void" : Str) = none := by kernel_rfl
theorem lm_Standing_spoil {v_field v_held v_parts v_spoilt v_good v_void_rows v_gone : V} : (fs_Standing v_field v_held v_parts v_spoilt v_good v_void_rows v_gone).lookup ("spoil" : Str) = none := by kernel_rfl
theorem lm_Standing_take {v_field v_held v_parts v_spoilt v_good v_void_rows v_gone : V} : (fs_Standing v_field v_held v_parts v_spoilt v_good v_void_rows v_gone).lookup ("take" : Str) = none := by kernel_rfl
def fs_Ledger (v_field v_known_lines v_come : V) : List (Str × V) := [("field", v_field), ("known_lines", v_known_lines), ("come", v_come)]
abbrev A_Ledger (K : PySem.W.Frag) : Addr := He.ga K "Ledger"
theorem put_Ledger (v_field v_known_lines v_come : V) : (putF "come" v_come (putF "known_lines" v_known_lines (putF "field" v_field []))) = fs_Ledger v_field v_known_lines v_come := by kernel_rfl
theorem l_Ledger_field {v_field v_known_lines v_come : V} : (fs_Ledger v_field v_known_lines v_come).lookup ("field" : Str) = some v_field := by kernel_rfl
theorem l_Ledger_known_lines {v_field v_known_lines v_come : V} : (fs_Ledger v_field v_known_lines v_come).lookup ("known_lines" : Str) = some v_known_lines := by kernel_rfl
theorem l_Ledger_come {v_field v_known_lines v_come : V} : (fs_Ledger v_field v_known_lines v_come).lookup ("come" : Str) = some v_come := by kernel_rfl
theorem u_Ledger_field (v_field v_known_lines v_come y : V) : putF "field" y (fs_Ledger v_field v_known_lines v_come) = fs_Ledger y v_known_lines v_come := by kernel_rfl
theorem u_Ledger_known_lines (v_field v_known_lines v_come y : V) : putF "known_lines" y (fs_Ledger v_field v_known_lines v_come) = fs_Ledger v_field y v_come := by kernel_rfl
theorem u_Ledger_come (v_field v_known_lines v_come y : V) : putF "come" y (fs_Ledger v_field v_known_lines v_come) = fs_Ledger v_field v_known_lines y := by kernel_rfl
theorem lm_Ledger_check {v_field v_known_lines v_come : V} : (fs_Ledger v_field v_known_lines v_come).lookup ("check" : Str) = none := by kernel_rfl
theorem lm_Ledger_tell {v_field v_known_lines v_come : V} : (fs_Ledger v_field v_known_lines v_come).lookup ("tell" : Str) = none := by kernel_rfl
theorem lm_Ledger_lines {v_field v_known_lines v_come : V} : (fs_Ledger v_field v_known_lines v_come).lookup ("lines" : Str) = none := by kernel_rfl
theorem lm_Ledger_standing {v_field v_known_lines v_come : V} : (fs_Ledger v_field v_known_lines v_come).lookup ("standing" : Str) = none := by kernel_rfl
theorem lm_Ledger_voids {v_field v_known_lines v_come : V} : (fs_Ledger v_field v_known_lines v_come).lookup ("voids" : Str) = none := by kernel_rfl
theorem lm_Ledger_undone {v_field v_known_lines v_come : V} : (fs_Ledger v_field v_known_lines v_come).lookup ("undone" : Str) = none := by kernel_rfl
theorem lm_Ledger_hold {v_field v_known_lines v_come : V} : (fs_Ledger v_field v_known_lines v_come).lookup ("hold" : Str) = none := by kernel_rfl
theorem lm_Ledger_spoiled {v_field v_known_lines v_come : V} : (fs_Ledger v_field v_known_lines v_come).lookup ("spoiled" : Str) = none := by kernel_rfl
theorem lm_Ledger_check_thing {v_field v_known_lines v_come : V} : (fs_Ledger v_field v_known_lines v_come).lookup ("check_thing" : Str) = none := by kernel_rfl
theorem lm_Ledger_holder {v_field v_known_lines v_come : V} : (fs_Ledger v_field v_known_lines v_come).lookup ("holder" : Str) = none := by kernel_rfl
theorem lm_Ledger_row {v_field v_known_lines v_come : V} : (fs_Ledger v_field v_known_lines v_come).lookup ("row" : Str) = none := by kernel_rfl
theorem lm_Ledger_holders {v_field v_known_lines v_come : V} : (fs_Ledger v_field v_known_lines v_come).lookup ("holders" : Str) = none := by kernel_rfl
end
end Rp

set_option maxRecDepth 100000
set_option maxHeartbeats 4000000
namespace Rp
open PySem PySem.Spec PyProof.Rows L2
/-! ### short words -/
theorem same_new {H : Hp} {p : Addr} {o : HO} (h : H p = none) : Same H (upd H p o) := fun b u e => by rw [upd_ne (ne_of_none e h)]; exact e
theorem same_mut {H H1 : Hp} {p : Addr} {o : HO} (s : Same H H1) (h : H p = none) : Same H (upd H1 p o) := fun b u e => by rw [upd_ne (ne_of_none e h)]; exact s b u e
theorem same_tup {K : PySem.W.Frag} {H H' : Hp} {a : Addr} {xs : List V} (e : Same H H') (h : SqT K H a xs) : SqT K H' a xs := h.ext e
/-- a new object: its heap by a letter -/
theorem gen_new {H H1 : Hp} {p : Addr} {o : HO} (e : upd H p o = H1) (np : H p = none) : Same H H1 ∧ H1 p = some o := by
  subst e
  exact ⟨same_new np, upd_same⟩
theorem mono_gname {i : Nat} : ∀ x σ H (P P' : L2.St → Hp → Prop), (∀ s h, P s h → P' s h) → gName i x σ H P → gName i x σ H P' := fun x σ H P P' k h => k _ _ h
theorem yes {σ : L2.St} {H : Hp} {Q : Bool → Hp → Prop} (q : Q true H) : tYes σ H Q := q
theorem mono_yes : ∀ σ H (P P' : Bool → Hp → Prop), (∀ b h, P b h → P' b h) → tYes σ H P → tYes σ H P' := fun σ H P P' k h => k _ _ h

section
variable {P : Program} {w : World} {K : PySem.W.Frag} {mg : Str → Option Value} {base : Heap}
/-- a def of the text keeps its promise: its body's term, the term's reading -/
theorem okF {x qual : Str} {params : Arguments} {body : List Stmt} {scope : Scope} {dvs : List V} {kws : List (Str × V)} {f : Addr} {fd : FuncData} {N ps : List Str} {k : Nat} {sp : Sp} (F : FunD K x qual params body scope dvs kws f fd) (S : FnScope N ps scope)
    (len : ∀ vs H Q E, sp vs H Q E → vs.length = ps.length)
    (hb : ∀ (cdv : Value) (A : Around) (outer : List Env) (s : Shared) (H : Hp) (vs : List V) (Q : VK) (E : XK), Room k (A.deeper (envOfC qual scope s.heap.objs.size f cdv)) → sp vs H Q E →
      ∃ t, PSs (cxOf CX0 P w K mg base N qual scope f cdv A outer s H E).nox body t ∧ t { nx := fun _ H' => Q .non H', rt := Q } (start N vs) H) : FnOk P w K mg base CX0 (k + 1) f fd ps sp :=
  F.ok S len fun cdv A outer s H vs Q E hr h => let ⟨t, d, r⟩ := hb cdv A outer s H vs Q E hr h; ⟨t, d.nox, r⟩

theorem hu65_of {A : Around} {k : Nat} (hr : Room k A) : A.units + 65 < cLine := by have := hr.un; omega
theorem iteD {c A B : Prop} [Decidable c] (h : c) (q : A) : if decide c = true then A else B := by rw [if_pos (decide_eq_true h)]; exact q
theorem iteDn {c A B : Prop} [Decidable c] (h : ¬ c) (q : B) : if decide c = true then A else B := by rw [decide_eq_false h]; exact iteF q
theorem iteN {c A B : Prop} [Decidable c] (h : ¬ c) (q : A) : if (!decide c) = true then A else B := by rw [decide_eq_false h]; exact iteT q
theorem bl_t {Q : VK} {H : Hp} {c : Prop} [Decidable c] (h : c) (q : Q (.bl true) H) : Q (.bl (decide c)) H := by rw [decide_eq_true h]; exact q
theorem bl_f {Q : VK} {H : Hp} {c : Prop} [Decidable c] (h : ¬ c) (q : Q (.bl false) H) : Q (.bl (decide c)) H := by rw [decide_eq_false h]; exact q
theorem bl_iff {Q : VK} {H : Hp} {a b : Prop} [Decidable a] [Decidable b] (h : a ↔ b) (q : Q (.bl (decide b)) H) : Q (.bl (decide a)) H := by rw [decide_eq_decide.mpr h]; exact q
theorem q_isi {K : PySem.W.Frag} {x : V} {t n : String} {b : Bool} {H : Hp} {Q : VK} (ty : TyX K H x (.type t)) (e : kitB t n = some b) (q : Q (.bl b) H) : rIsi K [x, .ty n] H Q := ⟨_, _, _, _, b, rfl, .ty _, ty, kit_ty e, q⟩

/-! ### isinstance of own classes -/
theorem Tx.ex1 (T : Tx K mg) : PySem.W.specialIn K (.builtin "object.__class__") "__get__" = some (some (.builtin "getset_descriptor.__get__")) ∧ PySem.W.takesIn K (.builtin "object.__class__") = some true ∧ (insB K "Breed" = true ∧ insB K "Bed" = true ∧ insB K "Part" = true ∧ insB K "Promise" = true ∧ insB K "Spoiling" = true) ∧
    PySem.W.kitOne K (.ref (He.ga K "Spoiling")) (.ref (He.ga K "Promise")) = some false ∧ He.tupB K "KINDS" [.str "roots", .str "shares"] = true ∧ He.tupB K "RULES" [.str "flat", .str "weighed", .str "graded", .str "gram"] = true := by
  have e := T.e
  unfold ex at e
  simp only [Bool.and_eq_true, decide_eq_true_eq] at e
  obtain ⟨⟨⟨⟨⟨⟨⟨⟨⟨e1, e2⟩, e3⟩, e4⟩, e5⟩, e6⟩, e7⟩, e8⟩, e9⟩, e10⟩ := e
  exact ⟨He.eqO_ok e1, e2, ⟨e3, e4, e5, e6, e7⟩, e8, e9, e10⟩
theorem ins_ty {K : PySem.W.Frag} {mg : Str → Option Value} {c : Str} (T : Tx K mg) (cl : Cls K (He.ga K c)) (e : insB K c = true) {H : Hp} {p dx : Addr} {fs : List (Str × V)} (h : H p = some (.ins (He.ga K c) dx fs)) : TyOf K H (.ref p) (.ref (He.ga K c)) := by
  obtain ⟨e1, e2⟩ := He.ba e
  exact .ins h cl (He.eqO_ok e1) T.ex1.1 T.ex1.2.1 (of_decide_eq_true e2)
theorem kit_same {K : PySem.W.Frag} {a : Addr} : PySem.W.kitOne K (.ref a) (.ref a) = some true := if_pos (beq_self_eq_true _)
theorem Tx.ty_Breed (T : Tx K mg) {H : Hp} {p dx : Addr} {fs : List (Str × V)} (h : H p = some (.ins (A_Breed K) dx fs)) : TyOf K H (.ref p) (.ref (A_Breed K)) := ins_ty T T.c_Breed T.ex1.2.2.1.1 h
theorem Tx.kit_Breed (T : Tx K mg) : PySem.W.kitOne K (.ref (A_Breed K)) (.ref (A_Breed K)) = some true := kit_same
theorem Tx.ty_Bed (T : Tx K mg) {H : Hp} {p dx : Addr} {fs : List (Str × V)} (h : H p = some (.ins (A_Bed K) dx fs)) : TyOf K H (.ref p) (.ref (A_Bed K)) := ins_ty T T.c_Bed T.ex1.2.2.1.2.1 h
theorem Tx.kit_Bed (T : Tx K mg) : PySem.W.kitOne K (.ref (A_Bed K)) (.ref (A_Bed K)) = some true := kit_same
theorem Tx.ty_Part (T : Tx K mg) {H : Hp} {p dx : Addr} {fs : List (Str × V)} (h : H p = some (.ins (A_Part K) dx fs)) : TyOf K H (.ref p) (.ref (A_Part K)) := ins_ty T T.c_Part T.ex1.2.2.1.2.2.1 h
theorem Tx.kit_Part (T : Tx K mg) : PySem.W.kitOne K (.ref (A_Part K)) (.ref (A_Part K)) = some true := kit_same
theorem Tx.ty_Promise (T : Tx K mg) {H : Hp} {p dx : Addr} {fs : List (Str × V)} (h : H p = some (.ins (A_Promise K) dx fs)) : TyOf K H (.ref p) (.ref (A_Promise K)) := ins_ty T T.c_Promise T.ex1.2.2.1.2.2.2.1 h
theorem Tx.kit_Promise (T : Tx K mg) : PySem.W.kitOne K (.ref (A_Promise K)) (.ref (A_Promise K)) = some true := kit_same
theorem Tx.ty_Spoiling (T : Tx K mg) {H : Hp} {p dx : Addr} {fs : List (Str × V)} (h : H p = some (.ins (A_Spoiling K) dx fs)) : TyOf K H (.ref p) (.ref (A_Spoiling K)) := ins_ty T T.c_Spoiling T.ex1.2.2.1.2.2.2.2 h
theorem Tx.kit_Spoiling (T : Tx K mg) : PySem.W.kitOne K (.ref (A_Spoiling K)) (.ref (A_Spoiling K)) = some true := kit_same
/-! ### parts -/
def sp_is_whole : Sp := fun vs H Q _ => ∃ n : Int, vs = [.int n] ∧ Q (.bl true) H
theorem ok_is_whole (T : Tx K mg) : FnOk P w K mg base CX0 1 (He.ga K "is_whole") (fdOf K dd_is_whole) ["thing"] sp_is_whole := by
  refine okF T.d_is_whole sc_is_whole (fun vs H Q E h => ?_) (fun cdv A outer s H vs Q E hr h => ?_)
  · obtain ⟨n, rfl, _⟩ := h; rfl
  · obtain ⟨n, rfl, k⟩ := h
    refine ⟨_, (pss_one (ps_ret (pe_and (pe_callB (id := "isinstance") (isiK K rfl) (by rfl) T.f_isinstance (by decide +kernel) (pa_cons (pv 0) (pa_cons (pe_bltn (v := .ty "int") rfl T.f_int (by decide +kernel) rfl) pa_nil))) (pe_one (pe_not (pe_callB (id := "isinstance") (isiK K rfl) (by rfl) T.f_isinstance (by decide +kernel) (pa_cons (pv 0) (pa_cons (pe_bltn (v := .ty "bool") rfl T.f_bool (by decide +kernel) rfl) pa_nil)))))))), ?_⟩
    refine ⟨_, rfl, _, _, _, _, true, rfl, .ty _, .base (.int n), kit_ty (by decide +kernel), true, rfl, iteT ⟨_, rfl, _, _, _, _, false, rfl, .ty _, .base (.int n), kit_ty (by decide +kernel), false, rfl, k⟩⟩
def sp_is_between : Sp := fun vs H Q _ => ∃ n a b : Int, vs = [.int n, .int a, .int b] ∧ a ≤ n ∧ n ≤ b ∧ Q (.bl true) H
theorem ok_is_between (T : Tx K mg) : FnOk P w K mg base CX0 2 (He.ga K "is_between") (fdOf K dd_is_between) ["thing", "least", "most"] sp_is_between := by
  refine okF T.d_is_between sc_is_between (fun vs H Q E h => ?_) (fun cdv A outer s H vs Q E hr h => ?_)
  · obtain ⟨n, a, b, rfl, _⟩ := h; rfl
  · obtain ⟨n, a, b, rfl, h1, h2, k⟩ := h
    refine ⟨_, (pss_one (ps_ret (pe_and (pe_call (ok_is_whole T) (hr.mono (by decide)) rfl T.g_is_whole T.d_is_whole.kp T.b_is_whole .nil pass0 (pa_cons (pv 0) pa_nil)) (pe_one (pe_chain op_le op_le (pv 1) (pv 0) (pv 2)))))), ?_⟩
    refine ⟨_, rfl, n, rfl, true, rfl, iteT ⟨_, rfl, _, rfl, _, _, rfl, rfl, _, rfl, iteD h1 ⟨_, rfl, _, _, rfl, rfl, bl_t h2 k⟩⟩⟩
def sp_is_from : Sp := fun vs H Q _ => ∃ n a : Int, vs = [.int n, .int a] ∧ a ≤ n ∧ Q (.bl true) H
theorem ok_is_from (T : Tx K mg) : FnOk P w K mg base CX0 2 (He.ga K "is_from") (fdOf K dd_is_from) ["thing", "least"] sp_is_from := by
  refine okF T.d_is_from sc_is_from (fun vs H Q E h => ?_) (fun cdv A outer s H vs Q E hr h => ?_)
  · obtain ⟨n, a, rfl, _⟩ := h; rfl
  · obtain ⟨n, a, rfl, h1, k⟩ := h
    refine ⟨_, (pss_one (ps_ret (pe_and (pe_call (ok_is_whole T) (hr.mono (by decide)) rfl T.g_is_whole T.d_is_whole.kp T.b_is_whole .nil pass0 (pa_cons (pv 0) pa_nil)) (pe_one (pe_cmpR op_ge (pv 0) (pv 1) (nomark _)))))), ?_⟩
    refine ⟨_, rfl, n, rfl, true, rfl, iteT ⟨_, rfl, _, rfl, _, _, rfl, rfl, bl_t h1 k⟩⟩
/-- a name -/
def IsNm (x : Str) : Prop := 1 ≤ x.length ∧ x.length ≤ 8 ∧ ∀ c ∈ x.cps.toList, c ∈ ("abcdefghijklmnopqrstuvwxyz" : Str).cps.toList
def sp_is_name : Sp := fun vs H Q _ => ∃ x : Str, vs = [.str x] ∧ IsNm x ∧ ∀ H', Same H H' → Q (.bl true) H'
theorem all_true : ∀ n : Nat, (List.replicate n true).all id = true
  | 0 => rfl
  | n + 1 => by rw [List.replicate_succ, List.all_cons, all_true n]; rfl
theorem alls {H : Hp} {D : Addr} {i : Nat} {v : V} (e : v = .bl true) : upd H D (.lst ((List.replicate i true).map V.bl ++ [v])) D = some (.lst ((List.replicate (i + 1) true).map V.bl)) := by
  rw [upd_same, e, List.replicate_succ', List.map_append]
  rfl
theorem all_len {i n : Nat} (h : i < n) (hn : n ≤ 1000) : ((List.replicate i true).map V.bl).length < sizeLine := by
  rw [List.length_map, List.length_replicate]
  exact Nat.lt_of_lt_of_le h (Nat.le_trans hn (by decide))
theorem ok_is_name (T : Tx K mg) : FnOk P w K mg base CX0 1 (He.ga K "is_name") (fdOf K dd_is_name) ["thing"] sp_is_name := by
  refine okF T.d_is_name sc_is_name (fun vs H Q E h => ?_) (fun cdv A outer s H vs Q E hr h => ?_)
  · obtain ⟨x, rfl, _⟩ := h; rfl
  · obtain ⟨x, rfl, ⟨h1, h2, h3⟩, k⟩ := h
    refine ⟨_, (pss_cons (ps_if (PW.pt (pw_or (pt_not (pt_val (pe_callB (id := "isinstance") (isiK K rfl) (by rfl) T.f_isinstance (by decide +kernel) (pa_cons (pv 0) (pa_cons (pe_bltn (v := .ty "str") rfl T.f_str (by decide +kernel) rfl) pa_nil))))) (pw_or1 (pt_not (pt_chain op_le op_le pe_int (pe_callB call_len (by rfl) T.f_len PySem.boot_len (pa_cons (pv 0) pa_nil)) (C8.pe_gc rfl T.i_MOST_LETTERS)))))) (pss_one (ps_ret pe_bl)) pss_nil)
      (pss_one (ps_ret (pe_callB (cr_all rfl) (by rfl) T.f_all (by decide +kernel) (pa_cons (pe_lc (own := [("sign", 1)]) (g := gName 1) (tt := tYes) rfl sc_is_name.nd (pi_str (pv 0)) (blkOk_by (own := [("sign", 1)]) (N := N_is_name) (sc := defScope s_is_name) (by decide +kernel)) (fun _ _ _ _ _ => (pg_name (i := 1) sc_is_name.nd rfl (Or.inl rfl))) (fun _ _ _ _ _ => pts_nil) (fun _ _ _ _ _ => (pe_cmpR op_in_sign (pv 1) (C8.pe_gc rfl T.i_LETTERS) (by rfl)))) pa_nil))))), ?_⟩
    have hl : x.length ≤ sizeLine := Nat.le_trans h2 (by decide)
    refine ⟨_, rfl, _, _, _, _, true, rfl, .ty _, .base (.str x), kit_ty (by decide +kernel), true, rfl, iteF ?_⟩
    refine ⟨_, rfl, .str x, x.length, rfl, ⟨hl, rfl⟩, _, _, rfl, rfl, _, rfl, iteD (by omega) ⟨_, _, rfl, rfl, _, rfl, ?_⟩⟩
    refine iteNS (by omega) ?_
    refine ⟨_, rfl, x, rfl, fun D nD => ?_⟩
    refine lc_it walk_str (fun i H' => Same H H' ∧ H' D = some (.lst ((List.replicate i true).map V.bl))) ⟨same_new nD, upd_same⟩ (fun _ _ _ _ => trivial) ?_ ?_
    · rintro i y H1 H2 hi ⟨s1, hD⟩ ⟨rfl, c, hc, rfl⟩
      refine ⟨rfl, yes (iteT ⟨_, rfl, _, _, rfl, rfl, ?_⟩)⟩
      have hm : c ∈ x.cps.toList := List.mem_of_getElem? (by rw [Array.getElem?_toList]; exact hc)
      have hsz : x.cps.size = x.length := rfl
      refine ⟨_, hD, ?_, same_mut s1 nD, ?_⟩
      · rw [List.length_map, List.length_replicate]
        exact Nat.lt_of_lt_of_le hi (by rw [hsz]; exact hl)
      · rw [upd_same, decide_eq_true (h3 c hm), List.replicate_succ', List.map_append]
        rfl
    · rintro H1 ⟨s1, hD⟩
      refine ⟨_, _, rfl, .of hD, ?_⟩
      rw [all_true]
      exact k H1 s1
end
end Rp


set_option maxRecDepth 100000
set_option maxHeartbeats 4000000
namespace Rp
open PySem PySem.Spec PyProof.Rows L2
/-! ### parts by units: u of 27720 -/
def num (u : Nat) : Nat := u / Nat.gcd u 27720
def den (u : Nat) : Nat := 27720 / Nat.gcd u 27720
theorem gpos (u : Nat) : 0 < Nat.gcd u 27720 := Nat.gcd_pos_of_pos_right _ (by decide)
theorem num_mul (u : Nat) : num u * Nat.gcd u 27720 = u := Nat.div_mul_cancel (Nat.gcd_dvd_left _ _)
theorem den_mul (u : Nat) : den u * Nat.gcd u 27720 = 27720 := Nat.div_mul_cancel (Nat.gcd_dvd_right _ _)
theorem den_pos (u : Nat) : 0 < den u := Nat.div_pos (Nat.le_of_dvd (by decide) (Nat.gcd_dvd_right _ _)) (gpos u)
theorem den_le (u : Nat) : den u ≤ 27720 := Nat.div_le_self _ _
theorem num_le (u : Nat) : num u ≤ u := Nat.div_le_self _ _
/-- the same fraction in lowest terms -/
theorem lowest {a b c d : Nat} (hb : 0 < b) (hd : 0 < d) (h : a * d = c * b) : a / Nat.gcd a b = c / Nat.gcd c d ∧ b / Nat.gcd a b = d / Nat.gcd c d := by
  have g1 : 0 < Nat.gcd a b := Nat.gcd_pos_of_pos_right _ hb
  have g2 : 0 < Nat.gcd c d := Nat.gcd_pos_of_pos_right _ hd
  have c1 : Nat.Coprime (a / Nat.gcd a b) (b / Nat.gcd a b) := Nat.coprime_div_gcd_div_gcd g1
  have c2 : Nat.Coprime (c / Nat.gcd c d) (d / Nat.gcd c d) := Nat.coprime_div_gcd_div_gcd g2
  have ea := Nat.div_mul_cancel (Nat.gcd_dvd_left a b)
  have eb := Nat.div_mul_cancel (Nat.gcd_dvd_right a b)
  have ec := Nat.div_mul_cancel (Nat.gcd_dvd_left c d)
  have ed := Nat.div_mul_cancel (Nat.gcd_dvd_right c d)
  generalize a / Nat.gcd a b = A at *
  generalize b / Nat.gcd a b = B at *
  generalize c / Nat.gcd c d = C at *
  generalize d / Nat.gcd c d = D at *
  have h2 : A * D = C * B := by
    have h3 : (A * D) * (Nat.gcd a b * Nat.gcd c d) = (C * B) * (Nat.gcd a b * Nat.gcd c d) := by
      have h4 : (A * Nat.gcd a b) * (D * Nat.gcd c d) = (C * Nat.gcd c d) * (B * Nat.gcd a b) := by rw [ea, ed, ec, eb]; exact h
      calc (A * D) * (Nat.gcd a b * Nat.gcd c d) = (A * Nat.gcd a b) * (D * Nat.gcd c d) := by ac_rfl
        _ = (C * Nat.gcd c d) * (B * Nat.gcd a b) := h4
        _ = (C * B) * (Nat.gcd a b * Nat.gcd c d) := by ac_rfl
    exact Nat.eq_of_mul_eq_mul_right (Nat.mul_pos g1 g2) h3
  have d1 : A ∣ C := c1.dvd_of_dvd_mul_right ⟨D, h2.symm⟩
  have d2 : C ∣ A := c2.dvd_of_dvd_mul_right ⟨B, h2⟩
  have d3 : B ∣ D := c1.symm.dvd_of_dvd_mul_left ⟨C, by rw [h2, Nat.mul_comm]⟩
  have d4 : D ∣ B := c2.symm.dvd_of_dvd_mul_left ⟨A, by rw [← h2, Nat.mul_comm]⟩
  exact ⟨Nat.dvd_antisymm d1 d2, Nat.dvd_antisymm d3 d4⟩
theorem cross (u : Nat) : num u * 27720 = u * den u := by
  have h : (num u * 27720) * Nat.gcd u 27720 = (u * den u) * Nat.gcd u 27720 := by
    rw [Nat.mul_right_comm, num_mul, Nat.mul_assoc, den_mul]
  exact Nat.eq_of_mul_eq_mul_right (gpos u) h
theorem lt_iff (u v : Nat) : num u * den v < num v * den u ↔ u < v := by
  have e1 := cross u
  have e2 := cross v
  have k1 : (num u * den v) * 27720 = u * (den u * den v) := by rw [Nat.mul_right_comm, e1]; ac_rfl
  have k2 : (num v * den u) * 27720 = v * (den u * den v) := by rw [Nat.mul_right_comm, e2]; ac_rfl
  have p : 0 < den u * den v := Nat.mul_pos (den_pos u) (den_pos v)
  constructor
  · intro h
    have h1 : (num u * den v) * 27720 < (num v * den u) * 27720 := Nat.mul_lt_mul_of_pos_right h (by decide)
    rw [k1, k2] at h1
    exact Nat.lt_of_mul_lt_mul_right h1
  · intro h
    have h1 : u * (den u * den v) < v * (den u * den v) := Nat.mul_lt_mul_of_pos_right h p
    rw [← k1, ← k2] at h1
    exact Nat.lt_of_mul_lt_mul_right h1
theorem add_cross (u v : Nat) : (num u * den v + num v * den u) * 27720 = (u + v) * (den u * den v) := by
  have e1 := cross u
  have e2 := cross v
  have k1 : (num u * den v) * 27720 = u * (den u * den v) := by rw [Nat.mul_right_comm, e1]; ac_rfl
  have k2 : (num v * den u) * 27720 = v * (den u * den v) := by rw [Nat.mul_right_comm, e2]; ac_rfl
  rw [Nat.add_mul, k1, k2, Nat.add_mul]
theorem sub_cross (u v : Nat) : (num u * den v - num v * den u) * 27720 = (u - v) * (den u * den v) := by
  have e1 := cross u
  have e2 := cross v
  have k1 : (num u * den v) * 27720 = u * (den u * den v) := by rw [Nat.mul_right_comm, e1]; ac_rfl
  have k2 : (num v * den u) * 27720 = v * (den u * den v) := by rw [Nat.mul_right_comm, e2]; ac_rfl
  rw [Nat.sub_mul, k1, k2, Nat.sub_mul]
theorem num_den_of {a b u : Nat} (hb : 0 < b) (h : a * 27720 = u * b) : a / Nat.gcd a b = num u ∧ b / Nat.gcd a b = den u := lowest hb (by decide) h
/-- a part of u units stands at p -/
def PtAt (K : PySem.W.Frag) (H : Hp) (p : Addr) (u : Nat) : Prop := ∃ dx, H p = some (.ins (A_Part K) dx (fs_Part (.int (num u)) (.int (den u))))
theorem PtAt.same {K : PySem.W.Frag} {H H' : Hp} {p : Addr} {u : Nat} (h : PtAt K H p u) (s : Same H H') : PtAt K H' p u := let ⟨dx, e⟩ := h; ⟨dx, s _ _ e⟩

section
variable {P : Program} {w : World} {K : PySem.W.Frag} {mg : Str → Option Value} {base : Heap}
def sp_common : Sp := fun vs H Q _ => ∃ a b : Nat, vs = [.int a, .int b] ∧ Q (.int (Nat.gcd a b)) H
theorem ok_common (T : Tx K mg) : FnOk P w K mg base CX0 1 (He.ga K "common") (fdOf K dd_common) ["one", "other"] sp_common := by
  refine okF T.d_common sc_common (fun vs H Q E h => ?_) (fun cdv A outer s H vs Q E hr h => ?_)
  · obtain ⟨n, a, rfl, _⟩ := h; rfl
  · obtain ⟨a, b, rfl, k⟩ := h
    refine ⟨_, (pss_cons (ps_set (i := 0) sc_common.nd rfl (by first | exact Or.inl rfl | exact Or.inr rfl) (pe_callB call_abs (by rfl) T.f_abs (by decide +kernel) (pa_cons (pv 0) pa_nil)))
      (pss_cons (ps_set (i := 1) sc_common.nd rfl (by first | exact Or.inl rfl | exact Or.inr rfl) (pe_callB call_abs (by rfl) T.f_abs (by decide +kernel) (pa_cons (pv 1) pa_nil)))
      (pss_cons (ps_while PassesOwn.never (pt_cmpR op_gt (pv 1) pe_int (nomark _)) (pss_one (ps_par (i := 0) (j := 1) rfl sc_common.nd rfl rfl (by decide) rfl rfl (pa_cons (pv 1) (pa_cons (pe_op op_mod (pv 0) (pv 1)) pa_nil)) (by rfl))))
      (pss_one (ps_ret (pv 0)))))), ?_⟩
    refine ⟨_, rfl, _, rfl, _, rfl, _, rfl, ?_⟩
    rw [if_neg (by omega : ¬ (a : Int) < 0), if_neg (by omega : ¬ (b : Int) < 0)]
    refine while_by (fun σ H' => ∃ x y : Nat, σ = [some (.int x), some (.int y)] ∧ H' = H ∧ Nat.gcd x y = Nat.gcd a b) (fun σ _ => match σ with | [_, some (.int y)] => y.toNat | _ => 0) ⟨a, b, rfl, rfl, rfl⟩ ?_ ?_
    · rintro σ H' ⟨x, y, rfl, rfl, e⟩
      refine ⟨_, rfl, _, _, rfl, rfl, _, rfl, ?_⟩
      by_cases hy : 0 < y
      · refine iteD (by omega) ?_
        refine ⟨_, rfl, _, rfl, _, rfl, _, _, rfl, rfl, (by omega), _, _, rfl, ⟨y, x % y, rfl, rfl, ?_⟩, ?_⟩
        · rw [← e, Nat.gcd_comm x y, Nat.gcd_rec y x, Nat.gcd_comm]
        · show (((x : Int) % (y : Int)).toNat) < (y : Int).toNat
          have := Nat.mod_lt x hy
          omega
      · refine iteDn (by omega) ?_
        have y0 : y = 0 := by omega
        subst y0
        rw [Nat.gcd_zero_right] at e
        refine ⟨_, rfl, ?_⟩
        rw [e]
        exact k
    · rintro σ H Q Q' hq ⟨v, e, h⟩
      obtain ⟨i, j, e1, e2, k, e3, h⟩ := h
      exact ⟨v, e, i, j, e1, e2, k, e3, hq _ _ h⟩
/-- Part(top, bottom): both not below nought -/
def sp_Part_init (K : PySem.W.Frag) : Sp := fun vs H Q _ => ∃ (p dx : Addr) (t b : Nat), vs = [.ref p, .int t, .int b] ∧ H p = some (.ins (A_Part K) dx []) ∧ 0 < b ∧ b < 1073741824 ∧
  ∀ H', H' p = some (.ins (A_Part K) dx (fs_Part (.int ((t / Nat.gcd t b : Nat) : Int)) (.int ((b / Nat.gcd t b : Nat) : Int)))) → (∀ c, c ≠ p → H' c = H c) → Q .non H'
theorem ok_Part_init (T : Tx K mg) : FnOk P w K mg base CX0 2 (He.ma K (He.ga K "Part") "__init__") (fdOf K dd_Part_init) ["self", "top", "bottom"] (sp_Part_init K) := by
  refine okF T.d_Part_init sc_Part_init (fun vs H Q E h => ?_) (fun cdv A outer s H vs Q E hr h => ?_)
  · obtain ⟨n, a, _, _, rfl, _⟩ := h; rfl
  · obtain ⟨p, dx, t, b, rfl, hp, b0, b1, k⟩ := h
    refine ⟨_, (pss_cons (ps_if (PW.pt (pw_or (pt_not (pt_val (pe_call (ok_is_whole T) (hr.mono (by decide)) rfl T.g_is_whole T.d_is_whole.kp T.b_is_whole .nil pass0 (pa_cons (pv 1) pa_nil)))) (pw_or (pt_not (pt_val (pe_call (ok_is_whole T) (hr.mono (by decide)) rfl T.g_is_whole T.d_is_whole.kp T.b_is_whole .nil pass0 (pa_cons (pv 2) pa_nil)))) (pw_or1 (pt_cmpR op_eq (pv 2) pe_int (nomark _)))))) (pss_one ps_never) pss_nil)
      (pss_cons (ps_set (i := 3) sc_Part_init.nd rfl (by first | exact Or.inl rfl | exact Or.inr rfl) (pe_call (ok_common T) (hr.mono (by decide)) rfl T.g_common T.d_common.kp T.b_common .nil pass0 (pa_cons (pv 1) (pa_cons (pv 2) pa_nil))))
      (pss_cons (ps_if (pt_cmpR op_lt (pv 2) pe_int (nomark _)) (pss_one (ps_set (i := 3) sc_Part_init.nd rfl (by first | exact Or.inl rfl | exact Or.inr rfl) (pe_un un_neg (pv 3)))) pss_nil)
      (pss_cons (ps_fld (pv 0) (pe_op op_fdiv (pv 1) (pv 3)) rfl)
      (pss_one (ps_fld (pv 0) (pe_op op_fdiv (pv 2) (pv 3)) rfl)))))), ?_⟩
    refine ⟨_, rfl, _, rfl, true, rfl, iteF ⟨_, rfl, _, rfl, true, rfl, iteF ⟨_, rfl, rfl, _, rfl, iteDn (fun z => by injection z; omega) ?_⟩⟩⟩
    have g0 : 0 < Nat.gcd t b := Nat.gcd_pos_of_pos_right _ b0
    have g1 : Nat.gcd t b ≤ b := Nat.le_of_dvd b0 (Nat.gcd_dvd_right _ _)
    refine ⟨_, rfl, _, rfl, t, b, rfl, ?_⟩
    refine ⟨_, rfl, _, _, rfl, rfl, _, rfl, iteDn (by omega) ?_⟩
    refine ⟨_, rfl, _, rfl, _, _, rfl, rfl, ⟨by omega, by omega⟩, _, rfl, _, _, _, _, rfl, hp, T.c_Part, T.n_Part_top, (by show 0 < 1000; decide), ?_⟩
    refine ⟨_, rfl, _, rfl, _, _, rfl, rfl, ⟨by omega, by omega⟩, _, rfl, _, _, _, _, rfl, upd_same, T.c_Part, T.n_Part_bottom, (by show 1 < 1000; decide), ?_⟩
    refine k _ ?_ (fun c hc => by rw [upd_ne hc, upd_ne hc])
    rw [upd_same, ← put_Part]
    norm_cast
/-- the default -/
theorem bP1' (T : Tx K mg) : ∃ ds, Vals [V.int 1] ds ∧ L2.Binds K (fdOf K dd_Part_init) ["self", "top", "bottom"] ds :=
  T.d_Part_init.binds1 (ps := ["self", "top", "bottom"]) 2 0 (List.cons_ne_nil _ _) rfl fun T kV doc pm an cdv ct us its h1 h2 => match us, its, h1, h2 with
    | [u, v], [d], _, _ => ⟨_, rfl, rfl⟩
theorem nil_vals {ds : List Value} (h : Vals [] ds) : ds = [] := by cases h; rfl
theorem Tx.b_Part_init (T : Tx K mg) : L2.Binds K (fdOf K dd_Part_init) ["self", "top", "bottom"] [] := by
  obtain ⟨ds, h1, h2⟩ := T.d_Part_init.binds1 (ps := ["self", "top", "bottom"]) 3 1 (List.cons_ne_nil _ _) rfl fun T kV doc pm an cdv ct us its h1 h2 => match us, its, h1, h2 with
    | [u, v, x], [d], _, _ => ⟨_, rfl, rfl⟩
  cases nil_vals h1
  exact h2
theorem Tx.b_Bed_init (T : Tx K mg) : L2.Binds K (fdOf K dd_Bed_init) ["self", "name", "breed", "owner", "roots", "guess", "offsets", "kind"] [] := by
  obtain ⟨ds, h1, h2⟩ := T.d_Bed_init.binds1 (ps := ["self", "name", "breed", "owner", "roots", "guess", "offsets", "kind"]) 8 2 (List.cons_ne_nil _ _) rfl fun T kV doc pm an cdv ct us its h1 h2 => match us, its, h1, h2 with
    | [_, _, _, _, _, _, _, _], [_, _], _, _ => ⟨_, rfl, rfl⟩
  cases nil_vals h1
  exact h2
theorem Tx.b_Promise_init (T : Tx K mg) : L2.Binds K (fdOf K dd_Promise_init) ["self", "number", "moment", "seller", "buyer", "thing", "price", "rule", "offsets", "earnest"] [] := by
  obtain ⟨ds, h1, h2⟩ := T.d_Promise_init.binds1 (ps := ["self", "number", "moment", "seller", "buyer", "thing", "price", "rule", "offsets", "earnest"]) 10 3 (List.cons_ne_nil _ _) rfl fun T kV doc pm an cdv ct us its h1 h2 => match us, its, h1, h2 with
    | [_, _, _, _, _, _, _, _, _, _], [_, _, _], _, _ => ⟨_, rfl, rfl⟩
  cases nil_vals h1
  exact h2
/-- Part(n, m), Part(n): a part of u units -/
theorem mk_part {t b u : Nat} {H H' : Hp} {x dx : Addr} (nx : H x = none) (nd : H dx = none) (h1 : H' x = some (.ins (A_Part K) dx (fs_Part (.int ((t / Nat.gcd t b : Nat) : Int)) (.int ((b / Nat.gcd t b : Nat) : Int)))))
    (h2 : ∀ c, c ≠ x → H' c = upd (upd H dx (.own x)) x (.ins (A_Part K) dx []) c) (b0 : 0 < b) (e : t * 27720 = u * b) : Same H H' ∧ PtAt K H' x u := by
  refine ⟨fun c o hc => ?_, dx, ?_⟩
  · rw [h2 c (ne_of_none hc nx), upd_ne (ne_of_none hc nx), upd_ne (ne_of_none hc nd)]
    exact hc
  · obtain ⟨e1, e2⟩ := num_den_of b0 e
    rw [h1, e1, e2]
def sp_Part_eq (K : PySem.W.Frag) : Sp := spEq fun a b H => ∃ u, PtAt K H a u ∧ PtAt K H b u
theorem ok_Part_eq (T : Tx K mg) : FnOk P w K mg base CX0 1 (He.ma K (He.ga K "Part") "__eq__") (fdOf K dd_Part_eq) ["self", "other"] (sp_Part_eq K) := by
  refine okF T.d_Part_eq sc_Part_eq (fun vs H Q E h => ?_) (fun cdv A outer s H vs Q E hr h => ?_)
  · obtain ⟨n, a, rfl, _⟩ := h; rfl
  · obtain ⟨p, q, rfl, ⟨u, ⟨d1, h1⟩, d2, h2⟩, k⟩ := h
    refine ⟨_, (pss_cons (ps_if (pt_not (pt_val (pe_callB (id := "isinstance") (isiK K rfl) (by rfl) T.f_isinstance (by decide +kernel) (pa_cons (pv 1) (pa_cons (pe_glob (v := .ref (He.ga K "Part")) rfl T.g_Part rfl) pa_nil))))) (pss_one (ps_ret pe_bl)) pss_nil)
      (pss_one (ps_ret (pe_and (pe_cmpR op_eq (pe_fldK K rfl (pv 0) rfl) (pe_fldK K rfl (pv 1) rfl) (nomark _)) (pe_one (pe_cmpR op_eq (pe_fldK K rfl (pv 0) rfl) (pe_fldK K rfl (pv 1) rfl) (nomark _))))))), ?_⟩
    refine ⟨_, rfl, _, _, _, _, true, rfl, .own _, .base (T.ty_Part h2), T.kit_Part, true, rfl, iteF ?_⟩
    refine ⟨_, rfl, _, _, _, _, _, rfl, h1, T.c_Part, T.n_Part_top, l_Part_top, ?_⟩
    refine ⟨_, rfl, _, _, _, _, _, rfl, h2, T.c_Part, T.n_Part_top, l_Part_top, ?_⟩
    refine ⟨rfl, _, rfl, iteD rfl ⟨_, rfl, _, _, _, _, _, rfl, h1, T.c_Part, T.n_Part_bottom, l_Part_bottom, ?_⟩⟩
    refine ⟨_, rfl, _, _, _, _, _, rfl, h2, T.c_Part, T.n_Part_bottom, l_Part_bottom, ?_⟩
    exact ⟨rfl, bl_t rfl (k H (Ext.rfl'))⟩
def sp_plus (K : PySem.W.Frag) : Sp := fun vs H Q _ => ∃ (p q : Addr) (u v : Nat), vs = [.ref p, .ref q] ∧ PtAt K H p u ∧ PtAt K H q v ∧ u ≤ 2 ^ 40 ∧ v ≤ 2 ^ 40 ∧ ∀ r H', H r = none → Same H H' → PtAt K H' r (u + v) → Q (.ref r) H'
theorem ok_plus (T : Tx K mg) : FnOk P w K mg base CX0 4 (He.ga K "plus") (fdOf K dd_plus) ["one", "other"] (sp_plus K) := by
  refine okF T.d_plus sc_plus (fun vs H Q E h => ?_) (fun cdv A outer s H vs Q E hr h => ?_)
  · obtain ⟨n, a, _, _, rfl, _⟩ := h; rfl
  · obtain ⟨p, q, u, v, rfl, ⟨d1, h1⟩, ⟨d2, h2⟩, hu, hv, k⟩ := h
    refine ⟨_, (pss_one (ps_ret (pe_make T.mk_Part (ok_Part_init T) (hr.mono (by decide)) rfl T.g_Part T.b_Part_init .nil pass0 (pa_cons (pe_op op_add (pe_op op_mul (pe_fldK K rfl (pv 0) rfl) (pe_fldK K rfl (pv 1) rfl)) (pe_op op_mul (pe_fldK K rfl (pv 1) rfl) (pe_fldK K rfl (pv 0) rfl))) (pa_cons (pe_op op_mul (pe_fldK K rfl (pv 0) rfl) (pe_fldK K rfl (pv 1) rfl)) pa_nil))))), ?_⟩
    have n1 := num_le u; have n2 := num_le v; have e1 := den_le u; have e2 := den_le v; have z1 := den_pos u; have z2 := den_pos v
    refine ⟨_, rfl, _, _, _, _, _, rfl, h1, T.c_Part, T.n_Part_top, l_Part_top, ?_⟩
    refine ⟨_, rfl, _, _, _, _, _, rfl, h2, T.c_Part, T.n_Part_bottom, l_Part_bottom, ?_⟩
    refine ⟨_, _, rfl, rfl, .inl ⟨by omega, by omega⟩, _, rfl, _, _, _, _, _, rfl, h2, T.c_Part, T.n_Part_top, l_Part_top, ?_⟩
    refine ⟨_, rfl, _, _, _, _, _, rfl, h1, T.c_Part, T.n_Part_bottom, l_Part_bottom, ?_⟩
    refine ⟨_, _, rfl, rfl, .inl ⟨by omega, by omega⟩, _, _, rfl, rfl, ?_⟩
    refine ⟨_, rfl, _, _, _, _, _, rfl, h1, T.c_Part, T.n_Part_bottom, l_Part_bottom, ?_⟩
    refine ⟨_, rfl, _, _, _, _, _, rfl, h2, T.c_Part, T.n_Part_bottom, l_Part_bottom, ?_⟩
    refine ⟨_, _, rfl, rfl, .inl ⟨by omega, by omega⟩, ?_⟩
    have hm : den u * den v ≤ 27720 * 27720 := Nat.mul_le_mul e1 e2
    have z3 : 0 < den u * den v := Nat.mul_pos z1 z2
    intro q dq nq nd ne
    refine ⟨q, dq, num u * den v + num v * den u, den u * den v, ?_, upd_same, z3, by omega, fun H2 e1 e2 => ⟨rfl, ?_⟩⟩
    · show [V.ref q, V.int (((num u : Nat) : Int) * ((den v : Nat) : Int) + ((num v : Nat) : Int) * ((den u : Nat) : Int)), V.int (((den u : Nat) : Int) * ((den v : Nat) : Int))] = _
      norm_cast
    obtain ⟨s2, hq⟩ := mk_part nq nd e1 e2 z3 (add_cross u v)
    exact k q H2 nq s2 hq
def sp_minus (K : PySem.W.Frag) : Sp := fun vs H Q _ => ∃ (p q : Addr) (u v : Nat), vs = [.ref p, .ref q] ∧ PtAt K H p u ∧ PtAt K H q v ∧ v ≤ u ∧ u ≤ 2 ^ 40 ∧ v ≤ 2 ^ 40 ∧ ∀ r H', H r = none → Same H H' → PtAt K H' r (u - v) → Q (.ref r) H'
theorem ok_minus (T : Tx K mg) : FnOk P w K mg base CX0 4 (He.ga K "minus") (fdOf K dd_minus) ["one", "other"] (sp_minus K) := by
  refine okF T.d_minus sc_minus (fun vs H Q E h => ?_) (fun cdv A outer s H vs Q E hr h => ?_)
  · obtain ⟨n, a, _, _, rfl, _⟩ := h; rfl
  · obtain ⟨p, q, u, v, rfl, ⟨d1, h1⟩, ⟨d2, h2⟩, hle, hu, hv, k⟩ := h
    refine ⟨_, (pss_one (ps_ret (pe_make T.mk_Part (ok_Part_init T) (hr.mono (by decide)) rfl T.g_Part T.b_Part_init .nil pass0 (pa_cons (pe_op op_sub (pe_op op_mul (pe_fldK K rfl (pv 0) rfl) (pe_fldK K rfl (pv 1) rfl)) (pe_op op_mul (pe_fldK K rfl (pv 1) rfl) (pe_fldK K rfl (pv 0) rfl))) (pa_cons (pe_op op_mul (pe_fldK K rfl (pv 0) rfl) (pe_fldK K rfl (pv 1) rfl)) pa_nil))))), ?_⟩
    have n1 := num_le u; have n2 := num_le v; have e1 := den_le u; have e2 := den_le v; have z1 := den_pos u; have z2 := den_pos v
    refine ⟨_, rfl, _, _, _, _, _, rfl, h1, T.c_Part, T.n_Part_top, l_Part_top, ?_⟩
    refine ⟨_, rfl, _, _, _, _, _, rfl, h2, T.c_Part, T.n_Part_bottom, l_Part_bottom, ?_⟩
    refine ⟨_, _, rfl, rfl, .inl ⟨by omega, by omega⟩, _, rfl, _, _, _, _, _, rfl, h2, T.c_Part, T.n_Part_top, l_Part_top, ?_⟩
    refine ⟨_, rfl, _, _, _, _, _, rfl, h1, T.c_Part, T.n_Part_bottom, l_Part_bottom, ?_⟩
    refine ⟨_, _, rfl, rfl, .inl ⟨by omega, by omega⟩, _, _, rfl, rfl, ?_⟩
    refine ⟨_, rfl, _, _, _, _, _, rfl, h1, T.c_Part, T.n_Part_bottom, l_Part_bottom, ?_⟩
    refine ⟨_, rfl, _, _, _, _, _, rfl, h2, T.c_Part, T.n_Part_bottom, l_Part_bottom, ?_⟩
    refine ⟨_, _, rfl, rfl, .inl ⟨by omega, by omega⟩, ?_⟩
    have hm : den u * den v ≤ 27720 * 27720 := Nat.mul_le_mul e1 e2
    have hs : num v * den u ≤ num u * den v := Nat.not_lt.mp fun z => absurd ((lt_iff u v).mp z) (Nat.not_lt.mpr hle)
    have z3 : 0 < den u * den v := Nat.mul_pos z1 z2
    intro q dq nq nd ne
    refine ⟨q, dq, num u * den v - num v * den u, den u * den v, ?_, upd_same, z3, by omega, fun H2 e1 e2 => ⟨rfl, ?_⟩⟩
    · show [V.ref q, V.int (((num u : Nat) : Int) * ((den v : Nat) : Int) - ((num v : Nat) : Int) * ((den u : Nat) : Int)), V.int (((den u : Nat) : Int) * ((den v : Nat) : Int))] = _
      rw [Int.ofNat_sub hs]
      norm_cast
    obtain ⟨s2, hq⟩ := mk_part nq nd e1 e2 z3 (sub_cross u v)
    exact k q H2 nq s2 hq
def sp_less (K : PySem.W.Frag) : Sp := fun vs H Q _ => ∃ (p q : Addr) (u v : Nat), vs = [.ref p, .ref q] ∧ PtAt K H p u ∧ PtAt K H q v ∧ u ≤ 2 ^ 40 ∧ v ≤ 2 ^ 40 ∧ Q (.bl (decide (u < v))) H
theorem ok_less (T : Tx K mg) : FnOk P w K mg base CX0 1 (He.ga K "less") (fdOf K dd_less) ["one", "other"] (sp_less K) := by
  refine okF T.d_less sc_less (fun vs H Q E h => ?_) (fun cdv A outer s H vs Q E hr h => ?_)
  · obtain ⟨n, a, _, _, rfl, _⟩ := h; rfl
  · obtain ⟨p, q, u, v, rfl, ⟨d1, h1⟩, ⟨d2, h2⟩, hu, hv, k⟩ := h
    refine ⟨_, (pss_one (ps_ret (pe_cmpR op_lt (pe_op op_mul (pe_fldK K rfl (pv 0) rfl) (pe_fldK K rfl (pv 1) rfl)) (pe_op op_mul (pe_fldK K rfl (pv 1) rfl) (pe_fldK K rfl (pv 0) rfl)) (nomark _)))), ?_⟩
    have n1 := num_le u; have n2 := num_le v
    refine ⟨_, rfl, _, _, _, _, _, rfl, h1, T.c_Part, T.n_Part_top, l_Part_top, ?_⟩
    refine ⟨_, rfl, _, _, _, _, _, rfl, h2, T.c_Part, T.n_Part_bottom, l_Part_bottom, ?_⟩
    refine ⟨_, _, rfl, rfl, .inl ⟨by omega, by omega⟩, _, rfl, _, _, _, _, _, rfl, h2, T.c_Part, T.n_Part_top, l_Part_top, ?_⟩
    refine ⟨_, rfl, _, _, _, _, _, rfl, h1, T.c_Part, T.n_Part_bottom, l_Part_bottom, ?_⟩
    refine ⟨_, _, rfl, rfl, .inl ⟨by omega, by omega⟩, _, _, rfl, rfl, ?_⟩
    refine bl_iff ?_ k
    rw [← lt_iff u v]
    norm_cast
end
end Rp


set_option maxRecDepth 100000
set_option maxHeartbeats 4000000
/-! ### set(xs) of a list, by what is known of it after each item -/
namespace Rp
open PySem PySem.Spec PyProof.Rows L2
/-- a set that has just been made -/
abbrev newSet (w : World) : Obj := { cls := .type "set", dict := none, data := .set #[] 0 (.fresh 0 0 (!w.params.followText "set-order")) }
section
variable {P : Program} {w : World} {A : Around} {E : Value → Shared → Prop} {s : Shared}
theorem set_loopG {I S : Addr} {fp wr : List Addr} {G : Array GenState → Array GenState → Prop} {n : Nat} {Pv : Nat → Value → Prop} {St : Nat → Shared → Prop} {R : Result → Shared → Prop} {J : Nat → Heap → Prop}
    (W : WalksS P w A.in1 I fp wr G n Pv St) (hSf : S ∉ fp) (hat : ∀ i h h', J i h → (∀ o, h.get? S = some o → h'.get? S = some o) → J i h')
    (hadd : ∀ (B : Around) (T : Bool → Shared → Prop) (F : Value → Shared → Prop) i v (s1 : Shared), Pv i v → J i s1.heap → (∀ b h' tk, Heap.SameBut S s1.heap h' → s1.toks ≤ tk → J (i + 1) h' → T b { s1 with heap := h', toks := tk }) → wpAny (model P w) B (setAdd S v) T F s1) :
    ∀ (k i : Nat) (s : Shared), n - i = k → i ≤ n → St i s → J i s.heap → (∀ s', Moved (S :: wr) G s s' → J n s'.heap → R (.ok (.ret .none)) s') → codeAny (model P w) A (.builtin "set.update.loop" ⟨[.ref S, .ref I], []⟩) R s := by
  have nw : S ∉ wr := fun h => hSf (W.sub _ h)
  have more : ∀ b ∈ wr, b ∈ S :: wr := fun b hb => List.mem_cons_of_mem _ hb
  intro k
  induction k with
  | zero =>
    intro i s hk hi st j fin
    have ein : i = n := by omega
    subst ein
    refine codeAny_builtin F.entry_set_update_loop ?_
    rw [Around.under_plainId F.plain_set_update_loop _]
    show wpAny _ A.in1 (pyNext (.ref I) >>= _) _ _ s
    refine wpAny_bind (W.done s _ _ st fun s' mv => ?_)
    show wpAny _ A.in1 (ret Value.none) _ _ s'
    exact wpAny_pure (fin s' (mv.mono more) (hat _ _ _ j fun o e => mv.heap S o nw e))
  | succ k ih =>
    intro i s hk hi st j fin
    have lt : i < n := by omega
    refine codeAny_builtin F.entry_set_update_loop ?_
    rw [Around.under_plainId F.plain_set_update_loop _]
    show wpAny _ A.in1 (pyNext (.ref I) >>= _) _ _ s
    refine wpAny_bind (W.item i s _ _ lt st fun v s' pv st' mv => ?_)
    show wpAny _ A.in1 (holding [v] (setAdd S v) >>= _) _ _ s'
    refine wpAny_bind (wpAny_holding ?_)
    refine hadd _ _ _ i v s' pv (hat _ _ _ j fun o e => mv.heap S o nw e) fun b h' tk sb le j' => ?_
    have other : ∀ b, b ≠ S → ∀ o, s'.heap.get? b = some o → h'.get? b = some o := fun b nb o e => by rw [sb.2 b nb]; exact e
    refine wpAny_pure ⟨plainId_quiet F.plain_set_update_loop _, ih (i + 1) _ (by omega) lt (W.frame _ s' _ _ st' le fun b hb o e => other b (fun z => hSf (z ▸ hb)) o e) j' fun s'' mv' j'' => ?_⟩
    exact fin s'' (Moved.trans W.gtrans ((mv.mono more).then_heap le fun b o hb e => other b (fun z => hb (by rw [z]; exact List.mem_cons_self)) o e) mv') j''
theorem set_ledG (a : Value) {T : Value → Shared → Prop} (h : T (.ref s.heap.objs.size) { s with heap := s.heap.push (newSet w) }) :
    codeAny (model P w) A (.call (.builtin "set.__new__") ⟨[.type "set", a], []⟩) (wants T E) s := code_set_led1 a h
set_option maxHeartbeats 8000000 in
theorem set_listG {l : Addr} {items : Array Value} {Q : Value → Shared → Prop} (J : Nat → Heap → Prop) (hh : A.handled = none) (hl : s.heap.IsList l items)
    (hat : ∀ i h h', J i h → (∀ o, h.get? s.heap.objs.size = some o → h'.get? s.heap.objs.size = some o) → J i h') (h0 : ∀ h : Heap, h.get? s.heap.objs.size = some (newSet w) → J 0 h)
    (hadd : ∀ (B : Around) (T : Bool → Shared → Prop) (F : Value → Shared → Prop) i v (s1 : Shared), items[i]? = some v → J i s1.heap → (∀ b h' tk, Heap.SameBut s.heap.objs.size s1.heap h' → s1.toks ≤ tk → J (i + 1) h' → T b { s1 with heap := h', toks := tk }) → wpAny (model P w) B (setAdd s.heap.objs.size v) T F s1)
    (h : ∀ (h' : Heap) (tk : Nat), J items.size h' → (∀ b o, s.heap.get? b = some o → h'.get? b = some o) → Q (.ref s.heap.objs.size) { s with heap := h', toks := tk }) :
    wpAny (model P w) A (call (.type "set") [.ref l]) Q E s := by
  obtain ⟨c, tl, hmro⟩ := F.called_set.mro
  have hmade := F.called_set.made
  have hsub := F.called_set.sub
  refine wpAny_call (codeAny_of_tree ?_)
  show wpAny _ _ (callAny (.type "set") _) _ _ _
  refine wpAny_pure ⟨Code.quiet_builtin _ (by decide +kernel), codeAny_builtin F.entry_type_call ?_⟩
  rw [Around.under_plain (weight_type_call_type "set" [.ref l] []) rfl]
  have h1 := F.called_set.notType
  have h2 := F.called_set.canCreate
  have hct := F.typeCall_set_1 (.ref l)
  repeat (any_goals (first | assumption | wp_step))
  refine codeAny_mono (set_ledG (.ref l) (E := E) (T := fun obj s₁ => obj = .ref s.heap.objs.size ∧ s₁ = { s with heap := s.heap.push (newSet w) }) ⟨rfl, rfl⟩) fun r s₁ hr => ?_
  cases r with
  | error e => exact hr
  | ok fl =>
    cases fl with
    | ret obj =>
      obtain ⟨rfl, rfl⟩ := hr
      have hS : (s.heap.push (newSet w)).get? s.heap.objs.size = some (newSet w) := Heap.get?_push_size _ rfl
      have hT : Shared.TypeIs { s with heap := s.heap.push (newSet w) } (.ref s.heap.objs.size) "set" := ⟨_, hS, rfl⟩
      have hli := F.called_set.init.lookup
      have hbi := F.called_set.init.bind (.ref s.heap.objs.size)
      repeat (any_goals (first | assumption | wp_step))
      refine codeAny_mono (codeAny_call_builtin (R := wants (fun r s₂ => r = .none ∧ ∃ h' tk, s₂ = { s with heap := h', toks := tk } ∧ J items.size h' ∧ (∀ b o, s.heap.get? b = some o → h'.get? b = some o)) E) F.called_set.init.plain F.entry_set_init (check_set_init_1 hT ?_)) fun r₂ s₂ hr₂ => ?_
      · obtain ⟨ol, hol, hcl, nl, hdl⟩ := hl
        obtain ⟨ocls, odict, odata, oslots⟩ := ol
        simp only at hcl hdl
        subst hcl; subst hdl
        have hol' : (s.heap.push (newSet w)).get? l = some { cls := .type "list", dict := odict, data := .seq items nl, slots := oslots } := Heap.get?_push_of_some _ hol
        have hsls := F.sub_list_set
        have hslf := F.sub_list_frozenset
        have hne : (Value.type "list" == Value.type "dict") = false := by decide
        have hl1 : (s.heap.push (newSet w)).IsList l items := ⟨_, hol', rfl, nl, rfl⟩
        unfold Builtin.«set.__init__» noKeywords Builtin.Frozenset.updateFrom
        generalize hPI : pyIter = PI
        wp_walk
        subst hPI
        refine wpAny_pyIter_list hl1 ?_
        refine wpAny_bind (wpAny_runValue ?_)
        have hlS : l < s.heap.objs.size := Heap.lt_size hol
        have hh3 : A.in1.in1.in1.handled = none := by simp [hh]
        have hz1 : (s.heap.push (newSet w)).objs.size = s.heap.objs.size + 1 := Heap.size_push ..
        have hneI : l ≠ (s.heap.push (newSet w)).objs.size := by rw [hz1]; exact Nat.ne_of_lt (Nat.lt_succ_of_lt hlS)
        have hSf : s.heap.objs.size ∉ [(s.heap.push (newSet w)).objs.size, l] := by
          rw [hz1]
          simp only [List.mem_cons, List.not_mem_nil, or_false, not_or]
          exact ⟨Nat.ne_of_lt (Nat.lt_succ_self _), Nat.ne_of_gt hlS⟩
        refine set_loopG ((Walks.list hh3 _ l hneI items).toS) hSf hat hadd (items.size - 0) 0 _ (by omega) (Nat.zero_le _) ⟨⟨_, Heap.get?_push_size _ rfl, rfl, rfl⟩, (hl1.push _)⟩ ?hS0 ?hR
        case hS0 => exact h0 _ (Heap.get?_push_of_some _ hS)
        case hR =>
          intro s' hm hJ
          obtain ⟨h', g2, d', tk', os'⟩ := s'
          have eg : g2 = s.gens := hm.gens
          have ed : d' = s.drawn := hm.drawn
          have eo : os' = s.os := hm.os
          subst eg; subst ed; subst eo
          show wpAny _ _ _ _ _ _
          refine wpAny_pure ?_
          show wpAny _ _ (ret Value.none) _ _ _
          refine wpAny_pure ⟨rfl, h', tk', rfl, hJ, fun b o e => ?_⟩
          have hb0 : b < s.heap.objs.size := Heap.lt_size e
          refine hm.heap b o ?_ (Heap.get?_push_of_some _ (Heap.get?_push_of_some _ e))
          rw [hz1]
          simp only [List.mem_cons, List.not_mem_nil, or_false, not_or]
          exact ⟨Nat.ne_of_lt hb0, Nat.ne_of_lt (Nat.lt_succ_of_lt hb0)⟩
      · cases r₂ with
        | error e => exact hr₂
        | ok fl₂ =>
          cases fl₂ with
          | ret r =>
            obtain ⟨rfl, h', tk, rfl, hJ, hk'⟩ := hr₂
            repeat (any_goals (first | assumption | wp_step))
            exact h _ _ hJ hk'
          | _ => exact hr₂.elim
    | _ => exact hr.elim
end
/-! ### set of ints, sorted -/
section
variable {X : Cx}
def rSetI (w : World) (K : PySem.W.Frag) : List V → Hp → VK → Prop := fun xs H Q => ∃ (a : Addr) (ns : List Int), xs = [.ref a] ∧ SqL K H a (ns.map V.int) ∧ ns.length ≤ 60 ∧ ∀ p c, c ≤ ns.length → H p = none → Q (.ref p) (upd H p (SetO w p (fun j => decide (j ∈ ns)) c))
theorem cr_setI (hc : X.calm = true) : CallR X (.type "set") (rSetI X.w X.K) := by
  intro pins s σ H xs us Q I r h
  obtain ⟨a, ns, rfl, hs, hn, q⟩ := h
  rw [Vals.ref1 r]
  obtain ⟨its, rv, pl, hz⟩ := I.list hs
  have hi := ints_of_vals rv
  have hsz : its.length = ns.length := by have := rv.length; rw [List.length_map] at this; exact this.symm
  have sb : (60 : Nat) + 2 < scanBound := by unfold scanBound; decide
  refine set_listG (fun i h => ∃ c, c ≤ i ∧ SetR X.w h s.heap.objs.size (fun j => decide (j ∈ ns.take i)) c) (I.ok.hd hc) pl.isList (fun i h h' ⟨c, hc, R⟩ e => ⟨c, hc, R.at e⟩) (fun h e => ⟨0, Nat.le_refl 0, setR_new_at e⟩) ?_ ?_
  · intro B T F i v s1 hv ⟨c, hc, R⟩ fin
    have hil : i < ns.length := by
      have := (Array.getElem?_eq_some_iff.mp hv).1
      rw [List.size_toArray, hsz] at this
      exact this
    obtain ⟨t, ht⟩ := hi.get i _ (List.getElem?_eq_getElem hil)
    have hv2 : its[i]? = some v := by simpa using hv
    rw [hv2] at ht
    have ht := Option.some.inj ht
    subst ht
    unfold setAdd
    refine wpAny_holding ?_
    refine wpAny_bind ((intKind X.prog X.w).pyHash (k := ns[i]) (intKind_is _ _ _ _) ?_)
    refine setR_add_hashed (s := { s1 with toks := s1.toks + 1 }) R (by omega) fun h' sm R2 => ?_
    have tk : ns.take (i + 1) = ns.take i ++ [ns[i]] := by rw [List.take_add_one, List.getElem?_eq_getElem hil]; rfl
    have R3 : SetR X.w h' s.heap.objs.size (fun j => decide (j ∈ ns.take (i + 1))) (if decide (ns[i] ∈ ns.take i) = true then c else c + 1) := R2.congr fun j => by
      rw [tk]
      simp only [List.mem_append, List.mem_singleton, Bool.decide_or]
    exact fin _ h' _ sm (Nat.le_succ _) ⟨_, by split <;> omega, R3⟩
  · intro h' tk ⟨c, hc, R⟩ hk
    have e1 : its.toArray.size = ns.length := by rw [List.size_toArray]; exact hsz
    rw [e1, List.take_length] at R
    rw [e1] at hc
    exact ⟨.ref _, upd H s.heap.objs.size (SetO X.w s.heap.objs.size (fun j => decide (j ∈ ns)) c), I.laid (t' := tk) hk (Nat.le_refl _) (setO_new R), rfl, q _ c hc (I.hok.fresh (Nat.le_refl _))⟩
/-! ### set of unlike texts, its length -/
def SetS (P : Program) (w : World) (a : Addr) (n : Nat) : HO := .ext fun h => ∃ S : Str → Bool, h.SetOf (PySem.strKind P w) a S n
theorem setS_new {w : World} {P : Program} {H : Hp} {h : Heap} {a : Addr} {S : Str → Bool} {n : Nat} (R : h.SetOf (PySem.strKind P w) a S n) : ObjOk P w H h a (SetS P w a n) := by
  have ⟨o, es, ep, t, ho, rest⟩ := R
  exact ⟨⟨S, R⟩, ⟨o, ho⟩, fun h1 h2 ⟨S', o', es', ep', t', ho', rest'⟩ k => ⟨S', o', es', ep', t', k _ ho', rest'⟩⟩
def rSetS (P : Program) (w : World) (K : PySem.W.Frag) : List V → Hp → VK → Prop := fun xs H Q => ∃ (a : Addr) (ns : List Str), xs = [.ref a] ∧ SqL K H a (ns.map V.str) ∧ ns.length ≤ 60 ∧ ns.Nodup ∧ ∀ p, H p = none → Q (.ref p) (upd H p (SetS P w p ns.length))
theorem cr_setS (hc : X.calm = true) : CallR X (.type "set") (rSetS X.prog X.w X.K) := by
  intro pins s σ H xs us Q I r h
  obtain ⟨a, ns, rfl, hs, hn, nd, q⟩ := h
  rw [Vals.ref1 r]
  obtain ⟨its, rv, pl, hz⟩ := I.list hs
  have hi := strsAre_of rv
  have hsz : its.length = ns.length := by have := rv.length; rw [List.length_map] at this; exact this.symm
  have sb : (60 : Nat) + 2 < scanBound := by unfold scanBound; decide
  refine set_listG (fun i h => h.SetOf (PySem.strKind X.prog X.w) s.heap.objs.size (fun k => decide (k ∈ ns.take i)) (ns.take i).length) (I.ok.hd hc) pl.isList (fun i h h' R e => ?_) (fun h e => ?_) ?_ ?_
  · have ⟨o, es, ep, t, ho, rest⟩ := R
    exact ⟨o, es, ep, t, e _ ho, rest⟩
  · exact PyProof.Rows.SetOf_congr ((PyProof.Rows.setObjOf_fresh (knd := PySem.strKind X.prog X.w) _).setOf e (by omega)) (fun _ => rfl) rfl
  · intro B T F i v s1 hv R fin
    have hil : i < ns.length := by
      have := (Array.getElem?_eq_some_iff.mp hv).1
      rw [List.size_toArray, hsz] at this
      exact this
    obtain ⟨t, ht⟩ := SS.strs_at hi i v (by simpa using hv)
    have eg : ns.getD i Str.empty = ns[i] := by rw [List.getD_eq_getElem?_getD, List.getElem?_eq_getElem hil]; rfl
    rw [eg] at ht
    subst ht
    have nin : ns[i] ∉ ns.take i := fun m => by
      obtain ⟨j, hj, e⟩ := List.getElem_of_mem m
      rw [List.length_take] at hj
      rw [List.getElem_take] at e
      have := (List.getElem_inj nd).mp e
      omega
    have len : (ns.take i).length = i := by rw [List.length_take]; omega
    have tk : ns.take (i + 1) = ns.take i ++ [ns[i]] := by rw [List.take_add_one, List.getElem?_eq_getElem hil]; rfl
    unfold setAdd
    refine wpAny_holding ?_
    refine wpAny_bind ((PySem.strKind X.prog X.w).pyHash (k := ns[i]) (strKind_is _ _ _ _) ?_)
    refine wpAny_setAddHashed_of (knd := PySem.strKind X.prog X.w) (s := { s1 with toks := s1.toks + 1 }) (strKind_is _ _ _ _) rfl R (by omega) fun h' sm R2 => ?_
    refine fin _ h' _ sm (Nat.le_succ _) (PyProof.Rows.SetOf_congr R2 (fun k => ?_) ?_)
    · rw [tk]
      simp only [List.mem_append, List.mem_singleton, Bool.decide_or]
    · rw [decide_eq_false nin, tk, List.length_append]
      rfl
  · intro h' tk R hk
    have e1 : its.toArray.size = ns.length := by rw [List.size_toArray]; exact hsz
    rw [e1, List.take_length] at R
    exact ⟨.ref _, upd H s.heap.objs.size (SetS X.prog X.w s.heap.objs.size ns.length), I.laid (t' := tk) hk (Nat.le_refl _) (setS_new R), rfl, q _ (I.hok.fresh (Nat.le_refl _))⟩
def rLenS (P : Program) (w : World) : List V → Hp → VK → Prop := fun xs H Q => ∃ (a : Addr) (n : Nat), xs = [.ref a] ∧ H a = some (SetS P w a n) ∧ n ≤ 60 ∧ Q (.int (n : Int)) H
theorem cr_lenS : CallR X (.builtin "len") (rLenS X.prog X.w) := by
  intro pins s σ H xs us Q I r h
  obtain ⟨a, n, rfl, ha, hn, q⟩ := h
  rw [Vals.ref1 r]
  have ⟨S, o, es, ep, t, ho, hex, hd, _, _, _, hf, hz⟩ := (I.hok a _ ha).1
  refine call_len_set ho hex hd hf (by rw [hz]; omega) ⟨.int (n : Int), H, I.tok _, ⟨_, by rw [hz]⟩, q⟩
end
end Rp

/-! the mathematics: what lines come to -/
namespace Rp
open PySem
/-- a thing: a root, its offsets, so many units (of 27720) of a bed -/
inductive Th where
  | root (b : Str) (k : Nat) | offs (b : Str) (k : Nat) | share (b : Str) (u : Nat)
/-- what a promise gives away -/
inductive Ky where
  | root (b : Str) (k : Nat) | offs (b : Str) (k : Nat) | share (b : Str)
  deriving DecidableEq
def Th.bed : Th → Str
  | .root b _ => b
  | .offs b _ => b
  | .share b _ => b
def Th.key : Th → Ky
  | .root b k => .root b k
  | .offs b k => .offs b k
  | .share b _ => .share b
def Ky.bed : Ky → Str
  | .root b _ => b
  | .offs b _ => b
  | .share b => b
theorem Th.key_bed (t : Th) : t.key.bed = t.bed := by cases t <;> rfl
structure Pr where
  num : Int
  mom : Int
  seller : Str
  buyer : Str
  th : Th
  price : Int
  stay : Bool
  earnest : Int
inductive Ln where
  | pr (p : Pr) | sp (num mom : Int) (bed : Str)
def Ln.num : Ln → Int
  | .pr p => p.num
  | .sp n _ _ => n
def Ln.mom : Ln → Int
  | .pr p => p.mom
  | .sp _ m _ => m
def Ln.bed : Ln → Str
  | .pr p => p.th.bed
  | .sp _ _ b => b
structure Bd where
  name : Str
  breed : Str
  owner : Str
  roots : Nat
  guess : Int
  offs : Int
  shares : Bool
/-- who holds what, what is spoilt, what holds, is void, is undone -/
structure SM where
  held : Ky → Str
  units : Str → List (Str × Nat)
  spoilt : Str → Option Int
  good : List (Pr × List Ky)
  voids : List (Int × Str × Option Int)
  gone : List Int
def getU (us : List (Str × Nat)) (n : Str) : Nat := ((us.find? fun x => decide (x.1 = n)).map (·.2)).getD 0
def putU (us : List (Str × Nat)) (n : Str) (u : Nat) : List (Str × Nat) := if (us.any fun x => decide (x.1 = n)) = true then us.map fun x => if x.1 = n then (n, u) else x else us ++ [(n, u)]
/-- within a bed's roots -/
def inBed (b : Bd) : Ky → Bool
  | .root n k => decide (n = b.name) && decide (1 ≤ k) && decide (k ≤ b.roots)
  | .offs n k => decide (n = b.name) && decide (1 ≤ k) && decide (k ≤ b.roots)
  | .share _ => false
def SM.back (s : SM) (b : Bd) : SM := { s with held := fun y => if inBed b y = true then b.owner else s.held y, units := fun n => if n = b.name then [(b.owner, 27720)] else s.units n }
def SM.none : SM := ⟨fun _ => Str.empty, fun _ => [], fun _ => Option.none, [], [], []⟩
def SM.begin (bs : List Bd) : SM := bs.foldl SM.back SM.none
def SM.holds (s : SM) (p : Pr) : Bool := match p.th with
  | .share b u => decide (u ≤ getU (s.units b) p.seller)
  | t => decide (s.held t.key = p.seller)
def SM.moves (s : SM) (p : Pr) : List Ky := match p.th with
  | .root b k => if (!p.stay && decide (s.held (.offs b k) = p.seller)) = true then [.root b k, .offs b k] else [.root b k]
  | t => [t.key]
def moved (us : List (Str × Nat)) (p : Pr) (u : Nat) : List (Str × Nat) :=
  let a := putU us p.seller (getU us p.seller - u)
  putU a p.buyer (getU a p.buyer + u)
def SM.go (s : SM) (p : Pr) : SM := match p.th with
  | .share b u => { s with units := fun n => if n = b then moved (s.units b) p u else s.units n, good := s.good ++ [(p, [Ky.share b])] }
  | _ => { s with held := fun y => if y ∈ s.moves p then p.buyer else s.held y, good := s.good ++ [(p, s.moves p)] }
/-- the last promise ahead by which the seller gave it away -/
def lastOf (good : List (Pr × List Ky)) (seller : Str) (y : Ky) (r : Str × Option Int) : Str × Option Int := good.foldl (fun r e => if (decide (e.1.seller = seller) && decide (y ∈ e.2)) = true then (("clash" : Str), some e.1.num) else r) r
def SM.void (s : SM) (p : Pr) : SM := match s.spoilt p.th.bed with
  | some n => { s with voids := s.voids ++ [(p.num, ("spoiled" : Str), some n)] }
  | Option.none => { s with voids := s.voids ++ [(p.num, lastOf s.good p.seller p.th.key (("never" : Str), Option.none))] }
def bedOf (bs : List Bd) (n : Str) : Bd := (bs.find? fun b => decide (b.name = n)).getD ⟨n, n, n, 0, 0, 0, false⟩
def SM.spoil (bs : List Bd) (s : SM) (num : Int) (b : Str) : SM := match s.spoilt b with
  | some _ => s
  | Option.none => { s with spoilt := fun n => if n = b then some num else s.spoilt n, gone := s.gone ++ ((s.good.filter fun e : Pr × List Ky => decide (e.1.th.bed = b)).map fun e => e.1.num).reverse, good := s.good.filter fun e : Pr × List Ky => !decide (e.1.th.bed = b) : SM }.back (bedOf bs b)
def SM.take (bs : List Bd) (s : SM) : Ln → SM
  | .sp n _ b => s.spoil bs n b
  | .pr p => if ((s.spoilt p.th.bed).isNone && s.holds p) = true then s.go p else s.void p
def SM.run (bs : List Bd) (ls : List Ln) : SM := ls.foldl (SM.take bs) (SM.begin bs)
/-- when a line stands in time -/
def Ln.lt (a b : Ln) : Prop := a.mom < b.mom ∨ (a.mom = b.mom ∧ a.num < b.num)
end Rp

set_option maxRecDepth 100000
set_option maxHeartbeats 4000000
namespace Rp
open PySem PySem.Spec PyProof.Rows L2
/-! ### two lists place by place -/
def L2R {α β : Type} (R : α → β → Prop) (xs : List α) (ys : List β) : Prop := xs.length = ys.length ∧ ∀ (i : Nat) x y, xs[i]? = some x → ys[i]? = some y → R x y
section
variable {α β : Type} {R R' : α → β → Prop} {xs : List α} {ys : List β}
theorem L2R.nil : L2R R ([] : List α) ([] : List β) := ⟨rfl, fun i x y h _ => by simp at h⟩
theorem L2R.snoc {x : α} {y : β} (h : L2R R xs ys) (r : R x y) : L2R R (xs ++ [x]) (ys ++ [y]) := by
  refine ⟨by rw [List.length_append, List.length_append, h.1]; rfl, fun i a b h1 h2 => ?_⟩
  by_cases hi : i < xs.length
  · rw [List.getElem?_append_left hi] at h1
    rw [List.getElem?_append_left (h.1 ▸ hi)] at h2
    exact h.2 i a b h1 h2
  · rw [List.getElem?_append_right (Nat.le_of_not_lt hi)] at h1
    rw [List.getElem?_append_right (h.1 ▸ Nat.le_of_not_lt hi)] at h2
    have e : i - xs.length = 0 := by
      have := (List.getElem?_eq_some_iff.mp h1).1
      simp at this
      omega
    rw [e] at h1
    rw [← h.1, e] at h2
    cases h1; cases h2
    exact r
theorem L2R.cons {x : α} {y : β} (r : R x y) (h : L2R R xs ys) : L2R R (x :: xs) (y :: ys) := by
  refine ⟨by rw [List.length_cons, List.length_cons, h.1], fun i a b h1 h2 => ?_⟩
  cases i with
  | zero => cases h1; cases h2; exact r
  | succ i => exact h.2 i a b (by simpa using h1) (by simpa using h2)
theorem L2R.mono (h : L2R R xs ys) (m : ∀ x y, R x y → R' x y) : L2R R' xs ys := ⟨h.1, fun i x y h1 h2 => m _ _ (h.2 i x y h1 h2)⟩
theorem L2R.left (h : L2R R xs ys) {i : Nat} {x : α} (hx : xs[i]? = some x) : ∃ y, ys[i]? = some y ∧ R x y := by
  have hi := (List.getElem?_eq_some_iff.mp hx).1
  have hy : ys[i]? = some (ys[i]'(h.1 ▸ hi)) := List.getElem?_eq_getElem _
  exact ⟨_, hy, h.2 i _ _ hx hy⟩
theorem L2R.right (h : L2R R xs ys) {i : Nat} {y : β} (hy : ys[i]? = some y) : ∃ x, xs[i]? = some x ∧ R x y := by
  have hi := (List.getElem?_eq_some_iff.mp hy).1
  have hx : xs[i]? = some (xs[i]'(h.1.symm ▸ hi)) := List.getElem?_eq_getElem _
  exact ⟨_, hx, h.2 i _ _ hx hy⟩
theorem L2R.take (h : L2R R xs ys) (n : Nat) : L2R R (xs.take n) (ys.take n) := by
  refine ⟨by rw [List.length_take, List.length_take, h.1], fun i x y h1 h2 => ?_⟩
  rw [List.getElem?_take] at h1 h2
  by_cases hi : i < n
  · rw [if_pos hi] at h1 h2
    exact h.2 i x y h1 h2
  · rw [if_neg hi] at h1; cases h1
end
/-- a ref of a list of refs -/
theorem ref_at {as : List Addr} {i : Nat} {x : V} (h : (as.map V.ref)[i]? = some x) : ∃ a, as[i]? = some a ∧ x = .ref a := by
  rw [List.getElem?_map] at h
  cases e : as[i]? with
  | none => rw [e] at h; cases h
  | some a => rw [e] at h; exact ⟨a, rfl, (Option.some.inj h).symm⟩
theorem atI_of {α : Type} {xs : List α} {j : Nat} {v : α} {i : Int} (h : xs[j]? = some v) (e : i = (j : Int)) : atI xs i = some v := by rw [e]; exact atI_nat h
/-! ### the ground's data -/
def Bd.kind (b : Bd) : Str := if b.shares then "shares" else "roots"
structure Bd.Ok (b : Bd) : Prop where
  nm : IsNm b.name
  br : IsNm b.breed
  ow : IsNm b.owner
  r1 : 1 ≤ b.roots
  r2 : b.roots ≤ 12
  g1 : 1 ≤ b.guess
  g2 : b.guess ≤ 60
  o1 : 0 ≤ b.offs
  o2 : b.offs ≤ 60
def GrAt (H : Hp) (t : Addr) (r : Int × Str × Int) : Prop := H t = some (.tup [.int r.1, .str r.2.1, .int r.2.2])
structure GrOk (r : Int × Str × Int) : Prop where
  l1 : 0 ≤ r.1
  l2 : r.1 ≤ 1000000
  nm : IsNm r.2.1
  h1 : 0 ≤ r.2.2
  h2 : r.2.2 ≤ 1000
/-- grades rising from 0 on -/
structure GrsOk (rs : List (Int × Str × Int)) : Prop where
  n1 : 1 ≤ rs.length
  n2 : rs.length ≤ 6
  ok : ∀ r ∈ rs, GrOk r
  z : ∀ r, rs[0]? = some r → r.1 = 0
  up : ∀ k r r', rs[k]? = some r → rs[k + 1]? = some r' → r.1 < r'.1
def BreedAt (K : PySem.W.Frag) (H : Hp) (p : Addr) (nm : Str) : Prop := ∃ dx g, H p = some (.ins (A_Breed K) dx (fs_Breed (.str nm) (.ref g)))
def BedAt (K : PySem.W.Frag) (H : Hp) (p : Addr) (b : Bd) : Prop := ∃ dx, H p = some (.ins (A_Bed K) dx (fs_Bed (.str b.name) (.str b.breed) (.str b.owner) (.int b.roots) (.int b.guess) (.int b.offs) (.str b.kind)))
theorem BreedAt.same {K : PySem.W.Frag} {H H' : Hp} {p : Addr} {u : Str} (h : BreedAt K H p u) (s : Same H H') : BreedAt K H' p u := let ⟨dx, g, e⟩ := h; ⟨dx, g, s _ _ e⟩
theorem BedAt.same {K : PySem.W.Frag} {H H' : Hp} {p : Addr} {u : Bd} (h : BedAt K H p u) (s : Same H H') : BedAt K H' p u := let ⟨dx, e⟩ := h; ⟨dx, s _ _ e⟩
structure FieldAt (K : PySem.W.Frag) (H : Hp) (f : Addr) (fb : List (Bd × Addr)) : Prop where
  ob : ∃ dx g d, H f = some (.ins (A_Field K) dx (fs_Field (.ref g) (.ref d))) ∧ H d = some (.dK (fb.map fun x => (Sum.inr x.1.name, V.ref x.2)))
  at_ : ∀ x ∈ fb, BedAt K H x.2 x.1
  ok : ∀ x ∈ fb, x.1.Ok
  nd : (fb.map fun x => x.1.name).Nodup
  n2 : fb.length ≤ 6
theorem FieldAt.same {K : PySem.W.Frag} {H H' : Hp} {f : Addr} {fb : List (Bd × Addr)} (h : FieldAt K H f fb) (s : Same H H') : FieldAt K H' f fb :=
  ⟨let ⟨dx, g, d, e1, e2⟩ := h.ob; ⟨dx, g, d, s _ _ e1, s _ _ e2⟩, fun x hx => (h.at_ x hx).same s, h.ok, h.nd, h.n2⟩
theorem valV_fb {β : Type} [DecidableEq β] {α : Type} {k : α → β} {v : α → V} : ∀ {l : List α} {x : α}, (l.map k).Nodup → x ∈ l → valV (l.map fun y => (k y, v y)) (k x) = some (v x)
  | [], x, _, h => by cases h
  | y :: r, x, nd, h => by
    rw [List.map_cons] at nd ⊢
    obtain ⟨n1, n2⟩ := List.nodup_cons.mp nd
    rcases List.mem_cons.mp h with rfl | h
    · exact valV_pos rfl
    · have ne : ¬ k y = k x := fun e => n1 (e ▸ List.mem_map.mpr ⟨x, h, rfl⟩)
      rw [valV_neg ne]
      exact valV_fb n2 h
section
variable {P : Program} {w : World} {K : PySem.W.Frag} {mg : Str → Option Value} {base : Heap}
def sp_is_grade : Sp := fun vs H Q _ => ∃ (t : Addr) (r : Int × Str × Int), vs = [.ref t] ∧ GrAt H t r ∧ GrOk r ∧ ∀ H', Same H H' → Q (.bl true) H'
theorem ok_is_grade (T : Tx K mg) : FnOk P w K mg base CX0 3 (He.ga K "is_grade") (fdOf K dd_is_grade) ["thing"] sp_is_grade := by
  refine okF T.d_is_grade sc_is_grade (fun vs H Q E h => ?_) (fun cdv A outer s H vs Q E hr h => ?_)
  · obtain ⟨t, r, rfl, _⟩ := h; rfl
  · obtain ⟨t, r, rfl, ht, ok, k⟩ := h
    refine ⟨_, (pss_cons (ps_if (PW.pt (pw_or (pt_not (pt_val (pe_callB (id := "isinstance") (isiK K rfl) (by rfl) T.f_isinstance (by decide +kernel) (pa_cons (pv 0) (pa_cons (pe_bltn (v := .ty "tuple") rfl T.f_tuple (by decide +kernel) rfl) pa_nil))))) (pw_or (pt_cmpR op_ne (pe_callB call_len (by rfl) T.f_len PySem.boot_len (pa_cons (pv 0) pa_nil)) pe_int (nomark _)) (pw_or1 (pt_not (pt_val (pe_call (ok_is_between T) (hr.mono (by decide)) rfl T.g_is_between T.d_is_between.kp T.b_is_between .nil pass0 (pa_cons (pe_ix (ix_tupK K rfl) (pv 0) pe_int (fun _ _ => rfl)) (pa_cons pe_int (pa_cons (C8.pe_gc rfl T.i_MOST_LEAST) pa_nil)))))))))) (pss_one (ps_ret pe_bl)) pss_nil)
      (pss_one (ps_ret (pe_and (pe_call (ok_is_name T) (hr.mono (by decide)) rfl T.g_is_name T.d_is_name.kp T.b_is_name .nil pass0 (pa_cons (pe_ix (ix_tupK K rfl) (pv 0) pe_int (fun _ _ => rfl)) pa_nil)) (pe_one (pe_call (ok_is_between T) (hr.mono (by decide)) rfl T.g_is_between T.d_is_between.kp T.b_is_between .nil pass0 (pa_cons (pe_ix (ix_tupK K rfl) (pv 0) pe_int (fun _ _ => rfl)) (pa_cons pe_int (pa_cons (C8.pe_gc rfl T.i_MOST_HUNDREDTHS) pa_nil))))))))), ?_⟩
    refine ⟨_, rfl, _, _, _, _, true, rfl, .ty _, .base (.tup ht), kit_ty (by decide +kernel), true, rfl, iteF ⟨_, rfl, _, 3, rfl, .inr ⟨_, .of ht, rfl⟩, rfl, _, rfl, iteF ⟨_, rfl, _, _, _, _, rfl, rfl, .of ht, atI_nat (j := 0) rfl, ?_⟩⟩⟩
    refine ⟨_, _, _, rfl, ok.l1, ok.l2, true, rfl, iteF ?_⟩
    refine ⟨_, rfl, _, _, _, _, rfl, rfl, .of ht, atI_nat (j := 1) rfl, _, rfl, ok.nm, fun H1 s1 => ⟨true, rfl, iteT ?_⟩⟩
    refine ⟨_, rfl, _, _, _, _, rfl, rfl, .of (s1 _ _ ht), atI_nat (j := 2) rfl, _, _, _, rfl, ok.h1, ok.h2, k H1 s1⟩
def sp_are_grades (K : PySem.W.Frag) : Sp := fun vs H Q _ => ∃ (l : Addr) (ts : List Addr) (rs : List (Int × Str × Int)), vs = [.ref l] ∧ H l = some (.lst (ts.map V.ref)) ∧ L2R (GrAt H) ts rs ∧ GrsOk rs ∧ ∀ H', Same H H' → Q (.bl true) H'
theorem ok_are_grades (T : Tx K mg) : FnOk P w K mg base CX0 4 (He.ga K "are_grades") (fdOf K dd_are_grades) ["thing"] (sp_are_grades K) := by
  refine okF T.d_are_grades sc_are_grades (fun vs H Q E h => ?_) (fun cdv A outer s H vs Q E hr h => ?_)
  · obtain ⟨t, r, _, rfl, _⟩ := h; rfl
  · obtain ⟨l, ts, rs, rfl, hl, hr2, ok, k⟩ := h
    refine ⟨_, (pss_cons (ps_if (PW.pt (pw_or (pt_not (pt_val (pe_callB (id := "isinstance") (isiK K rfl) (by rfl) T.f_isinstance (by decide +kernel) (pa_cons (pv 0) (pa_cons (pe_bltn (v := .ty "list") rfl T.f_list (by decide +kernel) rfl) pa_nil))))) (pw_or (pt_not (pt_chain op_le op_le pe_int (pe_callB call_len (by rfl) T.f_len PySem.boot_len (pa_cons (pv 0) pa_nil)) (C8.pe_gc rfl T.i_MOST_GRADES))) (pw_or1 (pt_not (pt_val (pe_callB (cr_all rfl) (by rfl) T.f_all (by decide +kernel) (pa_cons (pe_lc (own := [("one", 1)]) (g := gName 1) (tt := tYes) rfl sc_are_grades.nd (pi_list (pv 0)) (blkOk_by (own := [("one", 1)]) (N := N_are_grades) (sc := defScope s_are_grades) (by decide +kernel)) (fun _ _ _ _ _ => (pg_name (i := 1) sc_are_grades.nd rfl (Or.inl rfl))) (fun _ _ _ _ _ => pts_nil) (fun _ _ _ _ _ => (pe_call (ok_is_grade T) (hr.mono (by decide)) rfl T.g_is_grade T.d_is_grade.kp T.b_is_grade .nil pass0 (pa_cons (pv 1) pa_nil)))) pa_nil)))))))) (pss_one (ps_ret pe_bl)) pss_nil)
      (pss_cons (ps_if (pt_cmpR op_ne (pe_ix (ix_tupK K rfl) (pe_ix (ix_listK K rfl) (pv 0) pe_int (fun _ _ => rfl)) pe_int (fun _ _ => rfl)) pe_int (nomark _)) (pss_one (ps_ret pe_bl)) pss_nil)
      (pss_one (ps_ret (pe_callB (cr_all rfl) (by rfl) T.f_all (by decide +kernel) (pa_cons (pe_lc (own := [("k", 2)]) (g := gName 2) (tt := tYes) rfl sc_are_grades.nd (pi_range2 (by rfl) T.f_range (pa_cons pe_int (pa_cons (pe_callB call_len (by rfl) T.f_len PySem.boot_len (pa_cons (pv 0) pa_nil)) pa_nil))) (blkOk_by (own := [("k", 2)]) (N := N_are_grades) (sc := defScope s_are_grades) (by decide +kernel)) (fun _ _ _ _ _ => (pg_name (i := 2) sc_are_grades.nd rfl (Or.inl rfl))) (fun _ _ _ _ _ => pts_nil) (fun _ _ _ _ _ => (pe_cmpR op_lt (pe_ix (ix_tupK K rfl) (pe_ix (ix_listK K rfl) (pv 0) (pe_op op_sub (pv 2) pe_int) (fun _ _ => rfl)) pe_int (fun _ _ => rfl)) (pe_ix (ix_tupK K rfl) (pe_ix (ix_listK K rfl) (pv 0) (pv 2) (fun _ _ => rfl)) pe_int (fun _ _ => rfl)) (nomark _)))) pa_nil)))))), ?_⟩
    have n1 := ok.n1; have n2 := ok.n2
    have hn : (ts.map V.ref).length = rs.length := by rw [List.length_map, hr2.1]
    refine ⟨_, rfl, _, _, _, _, true, rfl, .ty _, .base (.lst hl), kit_ty (by decide +kernel), true, rfl, iteF ?_⟩
    refine ⟨_, rfl, .ref l, rs.length, rfl, .inl ⟨_, .of hl, hn.symm⟩, _, _, rfl, rfl, _, rfl, iteD (by omega) ⟨_, _, rfl, rfl, _, rfl, iteNS (by omega) ?_⟩⟩
    refine ⟨_, rfl, l, rfl, ⟨_, .of hl⟩, fun D nD => ?_⟩
    refine lc_it walk_list (fun i H' => Same H H' ∧ H' D = some (.lst ((List.replicate i true).map V.bl))) ⟨same_new nD, upd_same⟩ (fun i H' _ z => z.1.seq (.of hl)) ?_ ?_
    · rintro i y H1 H2 hi ⟨s1, hD⟩ ⟨rfl, hy⟩
      obtain ⟨t, ht, rfl⟩ := ref_at hy
      obtain ⟨r, hr3, hrt⟩ := hr2.left ht
      refine ⟨rfl, yes (iteT ⟨_, rfl, _, r, rfl, s1 _ _ hrt, ok.ok r (List.mem_of_getElem? hr3), fun H3 s3 => ?_⟩)⟩
      exact ⟨_, s3 _ _ hD, all_len (show i < 7 by omega) (by decide), same_mut (s1.trans s3) nD, alls rfl⟩
    · rintro H1 ⟨s1, hD⟩
      refine ⟨_, _, rfl, .of hD, ?_⟩
      rw [all_true]
      refine ⟨true, rfl, iteF ?_⟩
      have hl1 := s1 _ _ hl
      obtain ⟨t0, ht0⟩ : ∃ t0, ts[0]? = some t0 := ⟨ts[0]'(by rw [hr2.1]; omega), List.getElem?_eq_getElem _⟩
      obtain ⟨r0, hr0, hrt0⟩ := hr2.left ht0
      have z0 := ok.z r0 hr0
      refine ⟨_, rfl, _, _, _, _, rfl, rfl, .of hl1, atI_nat (j := 0) (by rw [List.getElem?_map, ht0]; rfl), _, _, _, _, rfl, rfl, .of (s1 _ _ hrt0), atI_nat (j := 0) rfl, rfl, _, rfl, iteNS (by rw [z0]) ?_⟩
      refine ⟨_, rfl, .ref l, rs.length, rfl, .inl ⟨_, .of hl1, hn.symm⟩, 1, _, rfl, ⟨by decide, by decide, by omega, by omega⟩, fun D2 nD2 => ?_⟩
      refine lc_it walk_range (fun i H' => Same H1 H' ∧ H' D2 = some (.lst ((List.replicate i true).map V.bl))) ⟨same_new nD2, upd_same⟩ (fun _ _ _ _ => trivial) ?_ ?_
      · rintro i y H2 H3 hi ⟨s2, hD2⟩ ⟨rfl, rfl⟩
        have hi2 : i + 1 < rs.length := by omega
        obtain ⟨r, hr⟩ : ∃ r, rs[i]? = some r := ⟨_, List.getElem?_eq_getElem (by omega)⟩
        obtain ⟨r', hr'⟩ : ∃ r, rs[i + 1]? = some r := ⟨_, List.getElem?_eq_getElem hi2⟩
        obtain ⟨t, ht, htr⟩ := hr2.right hr
        obtain ⟨t', ht', htr'⟩ := hr2.right hr'
        have s12 := s1.trans s2
        refine ⟨rfl, yes (iteT ⟨_, rfl, _, rfl, _, _, rfl, rfl, _, _, _, _, rfl, rfl, .of (s12 _ _ hl), atI_of (j := i) (by rw [List.getElem?_map, ht]; rfl) (by omega), _, _, _, _, rfl, rfl, .of (s12 _ _ htr), atI_nat (j := 0) rfl, ?_⟩)⟩
        refine ⟨_, rfl, _, rfl, _, _, _, _, rfl, rfl, .of (s12 _ _ hl), atI_of (j := i + 1) (by rw [List.getElem?_map, ht']; rfl) (by omega), _, _, _, _, rfl, rfl, .of (s12 _ _ htr'), atI_nat (j := 0) rfl, ?_⟩
        exact ⟨_, _, rfl, rfl, _, hD2, all_len (show i < 7 by omega) (by decide), same_mut s2 nD2, alls (congrArg V.bl (decide_eq_true (ok.up i r r' hr hr')))⟩
      · rintro H2 ⟨s2, hD2⟩
        refine ⟨_, _, rfl, .of hD2, ?_⟩
        rw [all_true]
        exact k H2 (s1.trans s2)
def sp_Breed_init (K : PySem.W.Frag) : Sp := fun vs H Q _ => ∃ (p dx : Addr) (nm : Str) (l : Addr) (ts : List Addr) (rs : List (Int × Str × Int)), vs = [.ref p, .str nm, .ref l] ∧ H p = some (.ins (A_Breed K) dx []) ∧ IsNm nm ∧ H l = some (.lst (ts.map V.ref)) ∧ L2R (GrAt H) ts rs ∧ GrsOk rs ∧
  ∀ H', BreedAt K H' p nm → (∀ c o, c ≠ p → H c = some o → H' c = some o) → Q .non H'
theorem ok_Breed_init (T : Tx K mg) : FnOk P w K mg base CX0 5 (He.ma K (He.ga K "Breed") "__init__") (fdOf K dd_Breed_init) ["self", "name", "grades"] (sp_Breed_init K) := by
  refine okF T.d_Breed_init sc_Breed_init (fun vs H Q E h => ?_) (fun cdv A outer s H vs Q E hr h => ?_)
  · obtain ⟨_, _, _, _, _, _, rfl, _⟩ := h; rfl
  · obtain ⟨p, dx, nm, l, ts, rs, rfl, hp, hnm, hl, hg, ok, k⟩ := h
    refine ⟨_, (pss_cons (ps_if (PW.pt (pw_or (pt_not (pt_val (pe_call (ok_is_name T) (hr.mono (by decide)) rfl T.g_is_name T.d_is_name.kp T.b_is_name .nil pass0 (pa_cons (pv 1) pa_nil)))) (pw_or1 (pt_not (pt_val (pe_call (ok_are_grades T) (hr.mono (by decide)) rfl T.g_are_grades T.d_are_grades.kp T.b_are_grades .nil pass0 (pa_cons (pv 2) pa_nil))))))) (pss_one ps_never) pss_nil)
      (pss_cons (ps_fld (pv 0) (pv 1) rfl)
      (pss_one (ps_fld (pv 0) (pe_callTy call_list_of (by rfl) T.f_list (by decide +kernel) (pa_cons (pv 2) pa_nil)) rfl)))), ?_⟩
    refine ⟨_, rfl, _, rfl, hnm, fun H1 s1 => ⟨true, rfl, iteF ⟨_, rfl, l, ts, rs, rfl, s1 _ _ hl, hg.mono fun x y z => s1 _ _ z, ok, fun H2 s2 => ⟨true, rfl, iteF ?_⟩⟩⟩⟩
    have s12 := s1.trans s2
    refine ⟨_, rfl, _, rfl, _, _, _, _, rfl, s12 _ _ hp, T.c_Breed, T.n_Breed_name, (by show 0 < 1000; decide), ?_⟩
    refine ⟨_, rfl, l, _, rfl, .inl (.of (by rw [upd_ne (ne_of hl hp (by intro z; cases z))]; exact s12 _ _ hl)), fun g ng => ?_⟩
    have h2 : upd H2 p (.ins (A_Breed K) dx (putF "name" (.str nm) [])) p = some _ := upd_same
    have s2' : ∀ c o, c ≠ p → H c = some o → upd H2 p (.ins (A_Breed K) dx (putF "name" (.str nm) [])) c = some o := fun c o hc e => by rw [upd_ne hc]; exact s12 _ _ e
    generalize upd H2 p _ = H2' at *
    generalize hh : upd H2' g _ = H3; obtain ⟨s3, hg3⟩ := gen_new hh ng; clear hh
    refine ⟨_, rfl, _, _, _, _, rfl, s3 _ _ h2, T.c_Breed, T.n_Breed_grades, (by show 1 < 1000; decide), ?_⟩
    refine k _ ⟨dx, g, ?_⟩ fun c o hc e => ?_
    · rw [upd_same, ← put_Breed]
    · rw [upd_ne hc]
      exact s3 _ _ (s2' _ _ hc e)
/-- rows (word, True) -/
def sp_first_wrong (K : PySem.W.Frag) : Sp := fun vs H Q _ => ∃ (l : Addr) (ts : List Addr), vs = [.ref l] ∧ H l = some (.lst (ts.map V.ref)) ∧ (∀ t ∈ ts, ∃ z, H t = some (.tup [.str z, .bl true])) ∧ Q .non H
theorem ok_first_wrong (T : Tx K mg) : FnOk P w K mg base CX0 1 (He.ga K "first_wrong") (fdOf K dd_first_wrong) ["rows"] (sp_first_wrong K) := by
  refine okF T.d_first_wrong sc_first_wrong (fun vs H Q E h => ?_) (fun cdv A outer s H vs Q E hr h => ?_)
  · obtain ⟨_, _, rfl, _⟩ := h; rfl
  · obtain ⟨l, ts, rfl, hl, ht, k⟩ := h
    refine ⟨_, (pss_cons (ps_for PassesOwn.never rfl (pi_list (pv 0)) (pg_tup rfl (pgs_cons (pg_name (i := 1) sc_first_wrong.nd rfl (by first | exact Or.inl rfl | exact Or.inr rfl)) (pgs_cons (pg_name (i := 2) sc_first_wrong.nd rfl (by first | exact Or.inl rfl | exact Or.inr rfl)) pgs_nil))) (pss_one (ps_if (pt_not (pt_val (pv 2))) (pss_one (ps_ret (pv 1))) pss_nil)))
      (pss_one (ps_ret pe_non))), ?_⟩
    refine ⟨_, rfl, l, rfl, ⟨_, .of hl⟩, for_it walk_list (fun i σ H' => H' = H ∧ ∃ a b, σ = [some (.ref l), a, b]) ⟨rfl, _, _, rfl⟩ (fun i σ H' _ z => by rw [z.1]; exact .of hl) ?_ ?_⟩
    · rintro i x σ H1 H2 hi ⟨rfl, a, b, rfl⟩ ⟨rfl, hx⟩
      obtain ⟨t, e, rfl⟩ := ref_at hx
      obtain ⟨z, hz⟩ := ht t (List.mem_of_getElem? e)
      exact ⟨t, _, rfl, .of hz, rfl, _, _, rfl, _, _, rfl, rfl, _, rfl, true, rfl, iteF ⟨rfl, _, _, rfl⟩⟩
    · rintro σ H1 ⟨rfl, a, b, rfl⟩
      exact k
/-- KINDS, RULES -/
theorem kinds_at (T : Tx K mg) (H : Hp) : SqT K H (He.ga K "KINDS") [.str "roots", .str "shares"] := He.tupB_ok T.ex1.2.2.2.2.1 H
theorem rules_at (T : Tx K mg) (H : Hp) : SqT K H (He.ga K "RULES") [.str "flat", .str "weighed", .str "graded", .str "gram"] := He.tupB_ok T.ex1.2.2.2.2.2 H
theorem kind_in (b : Bd) : inV (.str b.kind) [.str "roots", .str "shares"] = true := by
  unfold Bd.kind
  cases b.shares <;> decide +kernel
def sp_Bed_init (K : PySem.W.Frag) : Sp := fun vs H Q _ => ∃ (p dx : Addr) (b : Bd), vs = [.ref p, .str b.name, .str b.breed, .str b.owner, .int b.roots, .int b.guess, .int b.offs, .str b.kind] ∧ H p = some (.ins (A_Bed K) dx []) ∧ b.Ok ∧
  ∀ H', BedAt K H' p b → (∀ c o, c ≠ p → H c = some o → H' c = some o) → Q .non H'
theorem ok_Bed_init (T : Tx K mg) : FnOk P w K mg base CX0 3 (He.ma K (He.ga K "Bed") "__init__") (fdOf K dd_Bed_init) ["self", "name", "breed", "owner", "roots", "guess", "offsets", "kind"] (sp_Bed_init K) := by
  refine okF T.d_Bed_init sc_Bed_init (fun vs H Q E h => ?_) (fun cdv A outer s H vs Q E hr h => ?_)
  · obtain ⟨_, _, _, rfl, _⟩ := h; rfl
  · obtain ⟨p, dx, b, rfl, hp, ok, k⟩ := h
    refine ⟨_, (pss_cons (ps_set (i := 8) sc_Bed_init.nd rfl (by first | exact Or.inl rfl | exact Or.inr rfl) (pe_lst (pa_cons (pe_tup (pa_cons pe_str (pa_cons (pe_call (ok_is_name T) (hr.mono (by decide)) rfl T.g_is_name T.d_is_name.kp T.b_is_name .nil pass0 (pa_cons (pv 1) pa_nil)) pa_nil))) (pa_cons (pe_tup (pa_cons pe_str (pa_cons (pe_call (ok_is_name T) (hr.mono (by decide)) rfl T.g_is_name T.d_is_name.kp T.b_is_name .nil pass0 (pa_cons (pv 2) pa_nil)) pa_nil))) (pa_cons (pe_tup (pa_cons pe_str (pa_cons (pe_call (ok_is_name T) (hr.mono (by decide)) rfl T.g_is_name T.d_is_name.kp T.b_is_name .nil pass0 (pa_cons (pv 3) pa_nil)) pa_nil))) pa_nil)))))
      (pss_cons (ps_set (i := 8) sc_Bed_init.nd rfl (by first | exact Or.inl rfl | exact Or.inr rfl) (pe_op op_cat (pv 8) (pe_lst (pa_cons (pe_tup (pa_cons pe_str (pa_cons (pe_call (ok_is_between T) (hr.mono (by decide)) rfl T.g_is_between T.d_is_between.kp T.b_is_between .nil pass0 (pa_cons (pv 4) (pa_cons pe_int (pa_cons (C8.pe_gc rfl T.i_MOST_ROOTS) pa_nil)))) pa_nil))) (pa_cons (pe_tup (pa_cons pe_str (pa_cons (pe_call (ok_is_between T) (hr.mono (by decide)) rfl T.g_is_between T.d_is_between.kp T.b_is_between .nil pass0 (pa_cons (pv 5) (pa_cons pe_int (pa_cons (C8.pe_gc rfl T.i_MOST_GUESS) pa_nil)))) pa_nil))) pa_nil)))))
      (pss_cons (ps_expr (pe_bm PySem.F.plainAttrs_list PySem.F.slot_list_append PySem.F.type_list_append mt_append (pv 8) (pa_cons (pe_tup (pa_cons pe_str (pa_cons (pe_call (ok_is_between T) (hr.mono (by decide)) rfl T.g_is_between T.d_is_between.kp T.b_is_between .nil pass0 (pa_cons (pv 6) (pa_cons pe_int (pa_cons (C8.pe_gc rfl T.i_MOST_OFFSETS) pa_nil)))) pa_nil))) pa_nil)))
      (pss_cons (ps_expr (pe_bm PySem.F.plainAttrs_list PySem.F.slot_list_append PySem.F.type_list_append mt_append (pv 8) (pa_cons (pe_tup (pa_cons pe_str (pa_cons (pe_and (pe_callB (id := "isinstance") (isiK K rfl) (by rfl) T.f_isinstance (by decide +kernel) (pa_cons (pv 7) (pa_cons (pe_bltn (v := .ty "str") rfl T.f_str (by decide +kernel) rfl) pa_nil))) (pe_one (pe_cmpR (op_inK K rfl) (pv 7) (pe_glob (v := .ref (He.ga K "KINDS")) rfl T.g_KINDS rfl) (by rfl)))) pa_nil))) pa_nil)))
      (pss_cons (ps_set (i := 9) sc_Bed_init.nd rfl (by first | exact Or.inl rfl | exact Or.inr rfl) (pe_call (ok_first_wrong T) (hr.mono (by decide)) rfl T.g_first_wrong T.d_first_wrong.kp T.b_first_wrong .nil pass0 (pa_cons (pv 8) pa_nil)))
      (pss_cons (ps_if (pt_cmpR op_notN (pv 9) pe_non (nomark _)) (pss_one ps_never) pss_nil)
      (pss_cons (ps_fld (pv 0) (pv 1) rfl)
      (pss_cons (ps_fld (pv 0) (pv 2) rfl)
      (pss_cons (ps_fld (pv 0) (pv 3) rfl)
      (pss_cons (ps_fld (pv 0) (pv 4) rfl)
      (pss_cons (ps_fld (pv 0) (pv 5) rfl)
      (pss_cons (ps_fld (pv 0) (pv 6) rfl)
      (pss_one (ps_fld (pv 0) (pv 7) rfl)))))))))))))), ?_⟩
    have r1 := ok.r1; have r2 := ok.r2
    refine ⟨_, rfl, _, rfl, ok.nm, fun H1 s1 => ⟨by show 2 ≤ sizeLine; decide, fun t1 n1 => ?_⟩⟩
    generalize hh : upd H1 t1 _ = H2; obtain ⟨s2, h1⟩ := gen_new hh n1; clear hh
    refine ⟨_, rfl, _, rfl, ok.br, fun H3 s3 => ⟨by show 2 ≤ sizeLine; decide, fun t2 n2 => ?_⟩⟩
    generalize hh : upd H3 t2 _ = H4; obtain ⟨s4, h2⟩ := gen_new hh n2; clear hh
    refine ⟨_, rfl, _, rfl, ok.ow, fun H5 s5 => ⟨by show 2 ≤ sizeLine; decide, fun t3 n3 => ?_⟩⟩
    generalize hh : upd H5 t3 _ = H6; obtain ⟨s6, h3⟩ := gen_new hh n3; clear hh
    refine ⟨by show 3 ≤ sizeLine; decide, fun l1 nl => ?_⟩
    generalize hh : upd H6 l1 _ = H7; obtain ⟨s7, hl1⟩ := gen_new hh nl; clear hh
    have h1 := s7 _ _ (s6 _ _ (s5 _ _ (s4 _ _ (s3 _ _ h1))))
    have h2 := s7 _ _ (s6 _ _ (s5 _ _ h2))
    have h3 := s7 _ _ h3
    have s07 : Same H H7 := s1.trans (s2.trans (s3.trans (s4.trans (s5.trans (s6.trans s7)))))
    clear s1 s2 s3 s4 s5 s6 s7
    refine ⟨_, rfl, _, rfl, _, _, _, rfl, by omega, by omega, ⟨by show 2 ≤ sizeLine; decide, fun t4 n4 => ?_⟩⟩
    generalize hh : upd H7 t4 _ = H8; obtain ⟨s8, h4⟩ := gen_new hh n4; clear hh
    refine ⟨_, rfl, _, _, _, rfl, ok.g1, ok.g2, ⟨by show 2 ≤ sizeLine; decide, fun t5 n5 => ?_⟩⟩
    generalize hh : upd H8 t5 _ = H9; obtain ⟨s9, h5⟩ := gen_new hh n5; clear hh
    refine ⟨by show 2 ≤ sizeLine; decide, fun l2 nl2 => ?_⟩
    generalize hh : upd H9 l2 _ = H10; obtain ⟨s10, hl2⟩ := gen_new hh nl2; clear hh
    have h4 := s10 _ _ (s9 _ _ h4)
    have h5 := s10 _ _ h5
    have s810 := s8.trans (s9.trans s10)
    refine ⟨_, _, _, _, rfl, rfl, s810 _ _ hl1, hl2, by show 5 ≤ sizeLine; decide, fun l3 nl3 => ?_⟩
    generalize hh : upd H10 l3 _ = H11; obtain ⟨s11, hl3⟩ := gen_new hh nl3; clear hh
    have h1 := s11 _ _ (s810 _ _ h1)
    have h2 := s11 _ _ (s810 _ _ h2)
    have h3 := s11 _ _ (s810 _ _ h3)
    have h4 := s11 _ _ h4
    have h5 := s11 _ _ h5
    have s011 := s07.trans (s810.trans s11)
    have nl : H l3 = none := (s07.trans s810).free nl3
    clear s07 s810 s11 s8 s9 s10
    refine ⟨_, rfl, .inl ⟨rfl, _, .of hl3⟩, _, rfl, _, _, _, rfl, ok.o1, ok.o2, ⟨by show 2 ≤ sizeLine; decide, fun t6 n6 => ?_⟩⟩
    generalize hh : upd H11 t6 _ = H12; obtain ⟨s12, h6⟩ := gen_new hh n6; clear hh
    refine ⟨_, _, _, rfl, rfl, s12 _ _ hl3, by show 5 < sizeLine; decide, ?_⟩
    refine ⟨_, rfl, .inl ⟨rfl, _, .of upd_same⟩, _, rfl, _, _, _, _, true, rfl, .ty _, .base (.str _), kit_ty (by decide +kernel), true, rfl, iteT ⟨_, rfl, _, _, rfl, .inr (kinds_at T _), rfl, rfl, ?_⟩⟩
    refine ⟨by show 2 ≤ sizeLine; decide, fun t7 n7 => ?_⟩
    have hl4 : upd H12 l3 (.lst ([.ref t1, .ref t2, .ref t3] ++ [.ref t4, .ref t5] ++ [.ref t6])) l3 = some _ := upd_same
    have s12' : ∀ c o, c ≠ l3 → H12 c = some o → upd H12 l3 (.lst ([.ref t1, .ref t2, .ref t3] ++ [.ref t4, .ref t5] ++ [.ref t6])) c = some o := fun c o hc e => by rw [upd_ne hc]; exact e
    generalize upd H12 l3 _ = H13 at *
    generalize hh : upd H13 t7 _ = H14; obtain ⟨s14, h7⟩ := gen_new hh n7; clear hh
    refine ⟨_, _, _, rfl, rfl, s14 _ _ hl4, by show 6 < sizeLine; decide, ?_⟩
    have h7 : H14 t7 = some (HO.tup [.str "kind", .bl true]) := h7.trans (congrArg (fun z => some (HO.tup [V.str "kind", V.bl z])) (show (if false = true then !inV (V.str b.kind) [V.str "roots", V.str "shares"] else inV (V.str b.kind) [V.str "roots", V.str "shares"]) = true from kind_in b))
    have tt : ∀ t z, H12 t = some (.tup z) → t ≠ l3 := fun t z e => ne_of e (s12 _ _ hl3) (by intro q; cases q)
    have g : ∀ t z, H12 t = some (.tup z) → upd H14 l3 (.lst ([.ref t1, .ref t2, .ref t3] ++ [.ref t4, .ref t5] ++ [.ref t6] ++ [.ref t7])) t = some (.tup z) := fun t z e => by rw [upd_ne (tt t z e)]; exact s14 _ _ (s12' _ _ (tt t z e) e)
    have g7 : upd H14 l3 (.lst ([.ref t1, .ref t2, .ref t3] ++ [.ref t4, .ref t5] ++ [.ref t6] ++ [.ref t7])) t7 = some (HO.tup [.str "kind", .bl true]) := by rw [upd_ne (ne_of h7 (s14 _ _ hl4) (by intro q; cases q))]; exact h7
    refine ⟨_, rfl, l3, [t1, t2, t3, t4, t5, t6, t7], rfl, upd_same, fun t ht => ?_, ?_⟩
    · simp only [List.mem_cons, List.not_mem_nil, or_false] at ht
      rcases ht with rfl | rfl | rfl | rfl | rfl | rfl | rfl
      · exact ⟨_, g _ _ (s12 _ _ h1)⟩
      · exact ⟨_, g _ _ (s12 _ _ h2)⟩
      · exact ⟨_, g _ _ (s12 _ _ h3)⟩
      · exact ⟨_, g _ _ (s12 _ _ h4)⟩
      · exact ⟨_, g _ _ (s12 _ _ h5)⟩
      · exact ⟨_, g _ _ h6⟩
      · exact ⟨_, g7⟩
    · refine ⟨_, rfl, rfl, _, rfl, iteF ?_⟩
      have sF : ∀ c o, H c = some o → upd H14 l3 (.lst ([.ref t1, .ref t2, .ref t3] ++ [.ref t4, .ref t5] ++ [.ref t6] ++ [.ref t7])) c = some o := fun c o e => by
        have n := ne_of_none e nl
        rw [upd_ne n]
        exact s14 _ _ (s12' _ _ n (s12 _ _ (s011 _ _ e)))
      generalize upd H14 l3 _ = G at *
      refine ⟨_, rfl, _, rfl, _, _, _, _, rfl, sF _ _ hp, T.c_Bed, T.n_Bed_name, (by show 0 < 1000; decide), _, rfl, _, rfl, _, _, _, _, rfl, upd_same, T.c_Bed, T.n_Bed_breed, (by show 1 < 1000; decide), _, rfl, _, rfl, _, _, _, _, rfl, upd_same, T.c_Bed, T.n_Bed_owner, (by show 2 < 1000; decide), _, rfl, _, rfl, _, _, _, _, rfl, upd_same, T.c_Bed, T.n_Bed_roots, (by show 3 < 1000; decide), _, rfl, _, rfl, _, _, _, _, rfl, upd_same, T.c_Bed, T.n_Bed_guess, (by show 4 < 1000; decide), _, rfl, _, rfl, _, _, _, _, rfl, upd_same, T.c_Bed, T.n_Bed_offsets, (by show 5 < 1000; decide), _, rfl, _, rfl, _, _, _, _, rfl, upd_same, T.c_Bed, T.n_Bed_kind, (by show 6 < 1000; decide), ?_⟩
      refine k _ ⟨dx, ?_⟩ fun c o hc e => ?_
      · rw [upd_same, ← put_Bed]
      · rw [upd_ne hc, upd_ne hc, upd_ne hc, upd_ne hc, upd_ne hc, upd_ne hc, upd_ne hc]
        exact sF _ _ e
def sp_are_unlike (K : PySem.W.Frag) : Sp := fun vs H Q _ => ∃ (l : Addr) (xs : List Str), vs = [.ref l] ∧ H l = some (.lst (xs.map V.str)) ∧ xs.Nodup ∧ xs.length ≤ 60 ∧ ∀ H', Same H H' → Q (.bl true) H'
theorem ok_are_unlike (T : Tx K mg) : FnOk P w K mg base CX0 1 (He.ga K "are_unlike") (fdOf K dd_are_unlike) ["names"] (sp_are_unlike K) := by
  refine okF T.d_are_unlike sc_are_unlike (fun vs H Q E h => ?_) (fun cdv A outer s H vs Q E hr h => ?_)
  · obtain ⟨_, _, rfl, _⟩ := h; rfl
  · obtain ⟨l, xs, rfl, hl, nd, hn, k⟩ := h
    refine ⟨_, (pss_one (ps_ret (pe_cmpR op_eq (pe_callB cr_lenS (by rfl) T.f_len PySem.boot_len (pa_cons (pe_callTy (cr_setS rfl) (by rfl) T.f_set (by decide +kernel) (pa_cons (pv 0) pa_nil)) pa_nil)) (pe_callB call_len (by rfl) T.f_len PySem.boot_len (pa_cons (pv 0) pa_nil)) (nomark _)))), ?_⟩
    refine ⟨_, rfl, l, xs, rfl, .of hl, hn, nd, fun p np => ?_⟩
    generalize hh : upd H p _ = H1; obtain ⟨s1, hp⟩ := gen_new hh np; clear hh
    exact ⟨p, xs.length, rfl, hp, hn, _, rfl, .ref l, xs.length, rfl, .inl ⟨_, .of (s1 _ _ hl), (List.length_map ..).symm⟩, rfl, bl_t rfl (k H1 s1)⟩
/-- a list of objects of a class with unlike names -/
def sp_are_breeds (K : PySem.W.Frag) : Sp := fun vs H Q _ => ∃ (l : Addr) (as : List Addr) (xs : List Str), vs = [.ref l] ∧ H l = some (.lst (as.map V.ref)) ∧ L2R (BreedAt K H) as xs ∧ xs.Nodup ∧ 1 ≤ xs.length ∧ xs.length ≤ 6 ∧ ∀ H', Same H H' → Q (.bl true) H'
theorem ok_are_breeds (T : Tx K mg) : FnOk P w K mg base CX0 2 (He.ga K "are_breeds") (fdOf K dd_are_breeds) ["thing"] (sp_are_breeds K) := by
  refine okF T.d_are_breeds sc_are_breeds (fun vs H Q E h => ?_) (fun cdv A outer s H vs Q E hr h => ?_)
  · obtain ⟨_, _, _, rfl, _⟩ := h; rfl
  · obtain ⟨l, as, xs, rfl, hl, ha, nd, h1, h6, k⟩ := h
    refine ⟨_, (pss_cons (ps_if (PW.pt (pw_or (pt_not (pt_val (pe_callB (id := "isinstance") (isiK K rfl) (by rfl) T.f_isinstance (by decide +kernel) (pa_cons (pv 0) (pa_cons (pe_bltn (v := .ty "list") rfl T.f_list (by decide +kernel) rfl) pa_nil))))) (pw_or1 (pt_not (pt_chain op_le op_le pe_int (pe_callB call_len (by rfl) T.f_len PySem.boot_len (pa_cons (pv 0) pa_nil)) (C8.pe_gc rfl T.i_MOST_BEDS)))))) (pss_one (ps_ret pe_bl)) pss_nil)
      (pss_one (ps_ret (pe_and (pe_callB (cr_all rfl) (by rfl) T.f_all (by decide +kernel) (pa_cons (pe_lc (own := [("one", 1)]) (g := gName 1) (tt := tYes) rfl sc_are_breeds.nd (pi_list (pv 0)) (blkOk_by (own := [("one", 1)]) (N := N_are_breeds) (sc := defScope s_are_breeds) (by decide +kernel)) (fun _ _ _ _ _ => (pg_name (i := 1) sc_are_breeds.nd rfl (Or.inl rfl))) (fun _ _ _ _ _ => pts_nil) (fun _ _ _ _ _ => (pe_callB (id := "isinstance") (isiK K rfl) (by rfl) T.f_isinstance (by decide +kernel) (pa_cons (pv 1) (pa_cons (pe_glob (v := .ref (He.ga K "Breed")) rfl T.g_Breed rfl) pa_nil))))) pa_nil)) (pe_one (pe_call (ok_are_unlike T) (hr.mono (by decide)) rfl T.g_are_unlike T.d_are_unlike.kp T.b_are_unlike .nil pass0 (pa_cons (pe_lc (own := [("one", 1)]) (g := gName 1) (tt := tYes) rfl sc_are_breeds.nd (pi_list (pv 0)) (blkOk_by (own := [("one", 1)]) (N := N_are_breeds) (sc := defScope s_are_breeds) (by decide +kernel)) (fun _ _ _ _ _ => (pg_name (i := 1) sc_are_breeds.nd rfl (Or.inl rfl))) (fun _ _ _ _ _ => pts_nil) (fun _ _ _ _ _ => (pe_fldK K rfl (pv 1) rfl))) pa_nil))))))), ?_⟩
    have hn : (as.map V.ref).length = xs.length := by rw [List.length_map, ha.1]
    refine ⟨_, rfl, _, _, _, _, true, rfl, .ty _, .base (.lst hl), kit_ty (by decide +kernel), true, rfl, iteF ?_⟩
    refine ⟨_, rfl, .ref l, xs.length, rfl, .inl ⟨_, .of hl, hn.symm⟩, _, _, rfl, rfl, _, rfl, iteD (by omega) ⟨_, _, rfl, rfl, _, rfl, iteNS (by omega) ?_⟩⟩
    refine ⟨_, rfl, l, rfl, ⟨_, .of hl⟩, fun D nD => ?_⟩
    refine lc_it walk_list (fun i H' => Same H H' ∧ H' D = some (.lst ((List.replicate i true).map V.bl))) ⟨same_new nD, upd_same⟩ (fun i H' _ z => z.1.seq (.of hl)) ?_ ?_
    · rintro i y H1 H2 hi ⟨s1, hD⟩ ⟨rfl, hy⟩
      obtain ⟨t, ht, rfl⟩ := ref_at hy
      obtain ⟨x, hx, dx, g, hb⟩ := ha.left ht
      exact ⟨rfl, yes (iteT ⟨_, rfl, _, _, _, _, true, rfl, .own _, .base (T.ty_Breed (s1 _ _ hb)), T.kit_Breed, _, hD, all_len (show i < 7 by omega) (by decide), same_mut s1 nD, alls rfl⟩)⟩
    · rintro H1 ⟨s1, hD⟩
      refine ⟨_, _, rfl, .of hD, ?_⟩
      rw [all_true]
      refine ⟨true, rfl, iteT ⟨_, rfl, l, rfl, ⟨_, s1.seq (.of hl)⟩, fun D2 nD2 => ?_⟩⟩
      refine lc_it walk_list (fun i H' => Same H1 H' ∧ H' D2 = some (.lst ((xs.take i).map V.str))) ⟨same_new nD2, upd_same⟩ (fun i H' _ z => z.1.seq (s1.seq (.of hl))) ?_ ?_
      · rintro i y H2 H3 hi ⟨s2, hD2⟩ ⟨rfl, hy⟩
        obtain ⟨t, ht, rfl⟩ := ref_at hy
        obtain ⟨x, hx, dx, g, hb⟩ := ha.left ht
        refine ⟨rfl, yes (iteT ⟨_, rfl, _, _, _, _, _, rfl, (s2 _ _ (s1 _ _ hb)), T.c_Breed, T.n_Breed_name, l_Breed_name, _, hD2, ?_, same_mut s2 nD2, ?_⟩)⟩
        · rw [List.length_map, List.length_take]
          exact Nat.lt_of_le_of_lt (Nat.min_le_right _ _) (Nat.lt_of_le_of_lt h6 (by decide))
        · rw [upd_same, List.take_add_one, hx, List.map_append]
          rfl
      · rintro H2 ⟨s2, hD2⟩
        rw [hn, List.take_length] at hD2
        exact ⟨_, xs, rfl, hD2, nd, by omega, fun H3 s3 => k H3 (s1.trans (s2.trans s3))⟩
def sp_are_beds (K : PySem.W.Frag) : Sp := fun vs H Q _ => ∃ (l : Addr) (fb : List (Bd × Addr)), vs = [.ref l] ∧ H l = some (.lst (fb.map fun x => V.ref x.2)) ∧ (∀ x ∈ fb, BedAt K H x.2 x.1) ∧ (fb.map fun x => x.1.name).Nodup ∧ 1 ≤ fb.length ∧ fb.length ≤ 6 ∧ ∀ H', Same H H' → Q (.bl true) H'
theorem fb_at {α : Type} {fb : List α} {f : α → V} {i : Nat} {y : V} (h : (fb.map f)[i]? = some y) : ∃ x, fb[i]? = some x ∧ x ∈ fb ∧ y = f x := by
  rw [List.getElem?_map] at h
  cases e : fb[i]? with
  | none => rw [e] at h; cases h
  | some a => rw [e] at h; exact ⟨a, rfl, List.mem_of_getElem? e, (Option.some.inj h).symm⟩
theorem take_snoc {α β : Type} {xs : List α} {f : α → β} {i : Nat} {x : α} (h : xs[i]? = some x) : (xs.take i).map f ++ [f x] = (xs.take (i + 1)).map f := by
  rw [List.take_add_one, h, List.map_append]
  rfl
theorem take_lt {α β : Type} {xs : List α} {f : α → β} {i n : Nat} (h : xs.length ≤ n) (hn : n ≤ 1000) : ((xs.take i).map f).length < sizeLine := by
  rw [List.length_map, List.length_take]
  exact Nat.lt_of_le_of_lt (Nat.min_le_right _ _) (Nat.lt_of_le_of_lt h (Nat.lt_of_le_of_lt hn (by decide)))
theorem ok_are_beds (T : Tx K mg) : FnOk P w K mg base CX0 2 (He.ga K "are_beds") (fdOf K dd_are_beds) ["thing"] (sp_are_beds K) := by
  refine okF T.d_are_beds sc_are_beds (fun vs H Q E h => ?_) (fun cdv A outer s H vs Q E hr h => ?_)
  · obtain ⟨_, _, rfl, _⟩ := h; rfl
  · obtain ⟨l, fb, rfl, hl, ha, nd, h1, h6, k⟩ := h
    refine ⟨_, (pss_cons (ps_if (PW.pt (pw_or (pt_not (pt_val (pe_callB (id := "isinstance") (isiK K rfl) (by rfl) T.f_isinstance (by decide +kernel) (pa_cons (pv 0) (pa_cons (pe_bltn (v := .ty "list") rfl T.f_list (by decide +kernel) rfl) pa_nil))))) (pw_or1 (pt_not (pt_chain op_le op_le pe_int (pe_callB call_len (by rfl) T.f_len PySem.boot_len (pa_cons (pv 0) pa_nil)) (C8.pe_gc rfl T.i_MOST_BEDS)))))) (pss_one (ps_ret pe_bl)) pss_nil)
      (pss_one (ps_ret (pe_and (pe_callB (cr_all rfl) (by rfl) T.f_all (by decide +kernel) (pa_cons (pe_lc (own := [("one", 1)]) (g := gName 1) (tt := tYes) rfl sc_are_beds.nd (pi_list (pv 0)) (blkOk_by (own := [("one", 1)]) (N := N_are_beds) (sc := defScope s_are_beds) (by decide +kernel)) (fun _ _ _ _ _ => (pg_name (i := 1) sc_are_beds.nd rfl (Or.inl rfl))) (fun _ _ _ _ _ => pts_nil) (fun _ _ _ _ _ => (pe_callB (id := "isinstance") (isiK K rfl) (by rfl) T.f_isinstance (by decide +kernel) (pa_cons (pv 1) (pa_cons (pe_glob (v := .ref (He.ga K "Bed")) rfl T.g_Bed rfl) pa_nil))))) pa_nil)) (pe_one (pe_call (ok_are_unlike T) (hr.mono (by decide)) rfl T.g_are_unlike T.d_are_unlike.kp T.b_are_unlike .nil pass0 (pa_cons (pe_lc (own := [("one", 1)]) (g := gName 1) (tt := tYes) rfl sc_are_beds.nd (pi_list (pv 0)) (blkOk_by (own := [("one", 1)]) (N := N_are_beds) (sc := defScope s_are_beds) (by decide +kernel)) (fun _ _ _ _ _ => (pg_name (i := 1) sc_are_beds.nd rfl (Or.inl rfl))) (fun _ _ _ _ _ => pts_nil) (fun _ _ _ _ _ => (pe_fldK K rfl (pv 1) rfl))) pa_nil))))))), ?_⟩
    have hn : (fb.map fun x => V.ref x.2).length = fb.length := List.length_map ..
    refine ⟨_, rfl, _, _, _, _, true, rfl, .ty _, .base (.lst hl), kit_ty (by decide +kernel), true, rfl, iteF ?_⟩
    refine ⟨_, rfl, .ref l, fb.length, rfl, .inl ⟨_, .of hl, hn.symm⟩, _, _, rfl, rfl, _, rfl, iteD (by omega) ⟨_, _, rfl, rfl, _, rfl, iteNS (by omega) ?_⟩⟩
    refine ⟨_, rfl, l, rfl, ⟨_, .of hl⟩, fun D nD => ?_⟩
    refine lc_it walk_list (fun i H' => Same H H' ∧ H' D = some (.lst ((List.replicate i true).map V.bl))) ⟨same_new nD, upd_same⟩ (fun i H' _ z => z.1.seq (.of hl)) ?_ ?_
    · rintro i y H1 H2 hi ⟨s1, hD⟩ ⟨rfl, hy⟩
      obtain ⟨x, hx, hm, rfl⟩ := fb_at hy
      obtain ⟨dx, hb⟩ := ha x hm
      exact ⟨rfl, yes (iteT ⟨_, rfl, _, _, _, _, true, rfl, .own _, .base (T.ty_Bed (s1 _ _ hb)), T.kit_Bed, _, hD, all_len (show i < 7 by omega) (by decide), same_mut s1 nD, alls rfl⟩)⟩
    · rintro H1 ⟨s1, hD⟩
      refine ⟨_, _, rfl, .of hD, ?_⟩
      rw [all_true]
      refine ⟨true, rfl, iteT ⟨_, rfl, l, rfl, ⟨_, s1.seq (.of hl)⟩, fun D2 nD2 => ?_⟩⟩
      refine lc_it walk_list (fun i H' => Same H1 H' ∧ H' D2 = some (.lst ((fb.take i).map fun x => V.str x.1.name))) ⟨same_new nD2, upd_same⟩ (fun i H' _ z => z.1.seq (s1.seq (.of hl))) ?_ ?_
      · rintro i y H2 H3 hi ⟨s2, hD2⟩ ⟨rfl, hy⟩
        obtain ⟨x, hx, hm, rfl⟩ := fb_at hy
        obtain ⟨dx, hb⟩ := ha x hm
        refine ⟨rfl, yes (iteT ⟨_, rfl, _, _, _, _, _, rfl, (s2 _ _ (s1 _ _ hb)), T.c_Bed, T.n_Bed_name, l_Bed_name, _, hD2, take_lt h6 (by decide), same_mut s2 nD2, ?_⟩)⟩
        rw [upd_same, take_snoc (f := fun x : Bd × Addr => V.str x.1.name) hx]
      · rintro H2 ⟨s2, hD2⟩
        rw [hn, List.take_length] at hD2
        refine ⟨_, fb.map fun x => x.1.name, rfl, ?_, nd, by rw [List.length_map]; omega, fun H3 s3 => k H3 (s1.trans (s2.trans s3))⟩
        rw [List.map_map]
        exact hD2
end
end Rp


set_option maxRecDepth 100000
set_option maxHeartbeats 4000000
namespace Rp
open PySem PySem.Spec PyProof.Rows L2
theorem L2R.paired {α β : Type} {R : α → β → Prop} : ∀ {xs : List α} {ys : List β}, L2R R xs ys → Paired R xs ys
  | [], [], _ => .nil
  | [], _ :: _, h => by cases h.1
  | _ :: _, [], h => by cases h.1
  | x :: xs, y :: ys, h => .cons (h.2 0 x y rfl rfl) (L2R.paired ⟨Nat.succ.inj h.1, fun i a b h1 h2 => h.2 (i + 1) a b (by simpa using h1) (by simpa using h2)⟩)
theorem L2R.mapR {α β γ : Type} {R : α → γ → Prop} {xs : List α} {ys : List β} {f : β → γ} (h : L2R (fun x y => R x (f y)) xs ys) : L2R R xs (ys.map f) := by
  refine ⟨by rw [List.length_map]; exact h.1, fun i x z h1 h2 => ?_⟩
  rw [List.getElem?_map] at h2
  cases e : ys[i]? with
  | none => rw [e] at h2; cases h2
  | some y => rw [e] at h2; cases h2; exact h.2 i x y h1 e
theorem valV_none {κ : Type} [DecidableEq κ] {k : κ} : ∀ {kvs : List (κ × V)}, k ∉ kvs.map (·.1) → valV kvs k = none
  | [], _ => rfl
  | p :: r, h => by
    rw [List.map_cons, List.mem_cons, not_or] at h
    rw [valV_neg (fun e => h.1 e.symm)]
    exact valV_none h.2
theorem valV_mem {κ : Type} [DecidableEq κ] {k : κ} {kvs : List (κ × V)} (h : k ∈ kvs.map (·.1)) : (valV kvs k).isSome = true := by
  rw [← valV_any]
  obtain ⟨kv, h3, h4⟩ := List.mem_map.mp h
  exact List.any_eq_true.mpr ⟨kv, h3, by simp [h4]⟩
theorem merge_app : ∀ {more acc : List (Key × V)}, ((acc ++ more).map (·.1)).Nodup → mergeK acc more = acc ++ more
  | [], acc, _ => by rw [List.append_nil]; rfl
  | kv :: r, acc, h => by
    have e : mergeK acc (kv :: r) = mergeK (putK acc kv.1 kv.2) r := rfl
    have n : kv.1 ∉ acc.map (·.1) := by
      rw [List.map_append, List.map_cons] at h
      intro z
      exact (List.nodup_append.mp h).2.2 _ z _ (List.mem_cons_self) rfl
    rw [e, putK_new _ (valV_none n), merge_app (by rw [List.append_assoc]; exact h), List.append_assoc]
    rfl
theorem merge_nd {kvs : List (Key × V)} (h : (kvs.map (·.1)).Nodup) : mergeK [] kvs = kvs := merge_app (acc := []) h
theorem inr_nodup {α : Type} {xs : List α} {f : α → Str} (h : (xs.map f).Nodup) : (xs.map fun x => (Sum.inr (f x) : Key)).Nodup := by
  have e : (xs.map fun x => (Sum.inr (f x) : Key)) = (xs.map f).map Sum.inr := by rw [List.map_map]; rfl
  rw [e]
  exact List.Pairwise.map _ (fun a b ne e => ne (Sum.inr.inj e)) h
section
variable {P : Program} {w : World} {K : PySem.W.Frag} {mg : Str → Option Value} {base : Heap}
def sp_Field_init (K : PySem.W.Frag) : Sp := fun vs H Q _ => ∃ (p dx lb ld : Addr) (as : List Addr) (xs : List Str) (fb : List (Bd × Addr)), vs = [.ref p, .ref lb, .ref ld] ∧ H p = some (.ins (A_Field K) dx []) ∧
  H lb = some (.lst (as.map V.ref)) ∧ L2R (BreedAt K H) as xs ∧ xs.Nodup ∧ 1 ≤ xs.length ∧ xs.length ≤ 6 ∧
  H ld = some (.lst (fb.map fun x => V.ref x.2)) ∧ (∀ x ∈ fb, BedAt K H x.2 x.1) ∧ (∀ x ∈ fb, x.1.Ok) ∧ (fb.map fun x => x.1.name).Nodup ∧ 1 ≤ fb.length ∧ fb.length ≤ 6 ∧ (∀ x ∈ fb, x.1.breed ∈ xs) ∧
  ∀ H', FieldAt K H' p fb → (∀ c o, c ≠ p → H c = some o → H' c = some o) → Q .non H'
theorem ok_Field_init (T : Tx K mg) : FnOk P w K mg base CX0 3 (He.ma K (He.ga K "Field") "__init__") (fdOf K dd_Field_init) ["self", "breeds", "beds"] (sp_Field_init K) := by
  refine okF T.d_Field_init sc_Field_init (fun vs H Q E h => ?_) (fun cdv A outer s H vs Q E hr h => ?_)
  · obtain ⟨_, _, _, _, _, _, _, rfl, _⟩ := h; rfl
  · obtain ⟨p, dx, lb, ld, as, xs, fb, rfl, hp, hlb, ha, nd, x1, x6, hld, hfb, hok, fnd, f1, f6, hbr, k⟩ := h
    have hu := hu_of hr
    refine ⟨_, (pss_cons (ps_if (PW.pt (pw_or (pt_not (pt_val (pe_call (ok_are_breeds T) (hr.mono (by decide)) rfl T.g_are_breeds T.d_are_breeds.kp T.b_are_breeds .nil pass0 (pa_cons (pv 1) pa_nil)))) (pw_or1 (pt_not (pt_val (pe_call (ok_are_beds T) (hr.mono (by decide)) rfl T.g_are_beds T.d_are_beds.kp T.b_are_beds .nil pass0 (pa_cons (pv 2) pa_nil))))))) (pss_one ps_never) pss_nil)
      (pss_cons (ps_fld (pv 0) (pe_callTy (call_dictP rfl) (by rfl) T.f_dict (by decide +kernel) (pa_cons (pe_lc (own := [("one", 3)]) (g := gName 3) (tt := tYes) rfl sc_Field_init.nd (pi_list (pv 1)) (blkOk_by (own := [("one", 3)]) (N := N_Field_init) (sc := defScope s_Field_init) (by decide +kernel)) (fun _ _ _ _ _ => (pg_name (i := 3) sc_Field_init.nd rfl (Or.inl rfl))) (fun _ _ _ _ _ => pts_nil) (fun _ _ _ _ _ => (pe_tup (pa_cons (pe_fldK K rfl (pv 3) rfl) (pa_cons (pv 3) pa_nil))))) pa_nil)) rfl)
      (pss_cons (ps_if (pt_not (pt_val (pe_callB (cr_all rfl) (by rfl) T.f_all (by decide +kernel) (pa_cons (pe_lc (own := [("one", 3)]) (g := gName 3) (tt := tYes) rfl sc_Field_init.nd (pi_list (pv 2)) (blkOk_by (own := [("one", 3)]) (N := N_Field_init) (sc := defScope s_Field_init) (by decide +kernel)) (fun _ _ _ _ _ => (pg_name (i := 3) sc_Field_init.nd rfl (Or.inl rfl))) (fun _ _ _ _ _ => pts_nil) (fun _ _ _ _ _ => (pe_cmp (pc_din hu (pe_fldK K rfl (pv 3) rfl) (pe_fldK K rfl (pv 0) rfl))))) pa_nil)))) (pss_one ps_never) pss_nil)
      (pss_one (ps_fld (pv 0) (pe_callTy (call_dictP rfl) (by rfl) T.f_dict (by decide +kernel) (pa_cons (pe_lc (own := [("one", 3)]) (g := gName 3) (tt := tYes) rfl sc_Field_init.nd (pi_list (pv 2)) (blkOk_by (own := [("one", 3)]) (N := N_Field_init) (sc := defScope s_Field_init) (by decide +kernel)) (fun _ _ _ _ _ => (pg_name (i := 3) sc_Field_init.nd rfl (Or.inl rfl))) (fun _ _ _ _ _ => pts_nil) (fun _ _ _ _ _ => (pe_tup (pa_cons (pe_fldK K rfl (pv 3) rfl) (pa_cons (pv 3) pa_nil))))) pa_nil)) rfl))))), ?_⟩
    refine ⟨_, rfl, lb, as, xs, rfl, hlb, ha, nd, x1, x6, fun H1 s1 => ⟨true, rfl, iteF ⟨_, rfl, ld, fb, rfl, s1 _ _ hld, fun x hx => (hfb x hx).same s1, fnd, f1, f6, fun H2 s2 => ⟨true, rfl, iteF ?_⟩⟩⟩⟩
    have s12 := s1.trans s2
    have hn : (as.map V.ref).length = xs.length := by rw [List.length_map, ha.1]
    refine ⟨_, rfl, lb, rfl, ⟨_, s12.seq (.of hlb)⟩, fun D nD => ?_⟩
    refine lc_it walk_list (fun i H' => ∃ ps, Same H2 H' ∧ H' D = some (.lst (ps.map V.ref)) ∧ ps.length = i ∧ ∀ (j : Nat) (q : Addr) (x : Str), ps[j]? = some q → xs[j]? = some x → ∃ a, as[j]? = some a ∧ H' q = some (.tup [.str x, .ref a]))
      ⟨[], same_new nD, upd_same, rfl, fun j q x e => by simp at e⟩ (fun i H' _ ⟨_, z, _⟩ => (s12.trans z).seq (.of hlb)) ?_ ?_
    · rintro i y H3 H4 hi ⟨ps, s3, hD, hps, hq⟩ ⟨rfl, hy⟩
      obtain ⟨a, hai, rfl⟩ := ref_at hy
      obtain ⟨x, hx, dxa, g, hb⟩ := ha.left hai
      have hb' := s3 _ _ (s12 _ _ hb)
      refine ⟨rfl, yes (iteT ⟨_, rfl, _, _, _, _, _, rfl, hb', T.c_Breed, T.n_Breed_name, l_Breed_name, _, rfl, by show 2 ≤ sizeLine; decide, fun t nt => ?_⟩)⟩
      generalize hh : upd H4 t _ = H5; obtain ⟨s5, ht⟩ := gen_new hh nt; clear hh
      refine ⟨_, s5 _ _ hD, ?_, ps ++ [t], same_mut (s3.trans s5) nD, ?_, by rw [List.length_append, hps]; rfl, fun j q z e1 e2 => ?_⟩
      · rw [List.length_map, hps]
        exact Nat.lt_of_lt_of_le (show i < 7 by omega) (by decide)
      · rw [upd_same, List.map_append]; rfl
      · by_cases hj : j < ps.length
        · rw [List.getElem?_append_left hj] at e1
          obtain ⟨a', h1, h2⟩ := hq j q z e1 e2
          refine ⟨a', h1, ?_⟩
          rw [upd_ne (ne_of h2 hD (by intro q; cases q))]
          exact s5 _ _ h2
        · have ej : j = i := by
            have := (List.getElem?_eq_some_iff.mp e1).1
            rw [List.length_append, hps] at this
            simp at this
            omega
          subst ej
          rw [List.getElem?_append_right (by omega), hps] at e1
          simp at e1
          subst e1
          rw [hx] at e2
          cases e2
          refine ⟨a, hai, ?_⟩
          rw [upd_ne (ne_of ht (s5 _ _ hD) (by intro q; cases q))]
          exact ht
    · rintro H3 ⟨ps, s3, hD, hps, hq⟩
      rw [hn] at hps
      have hkv : L2R (fun q (kv : Key × V) => SqT K H3 q [kV kv.1, kv.2]) ps ((xs.zip as).map fun z => (Sum.inr z.1, V.ref z.2)) := by
        refine ⟨?_, fun j q kv e1 e2 => ?_⟩
        · rw [List.length_map, List.length_zip, ha.1, hps]; omega
        · rw [List.getElem?_map] at e2
          cases e3 : (xs.zip as)[j]? with
          | none => rw [e3] at e2; cases e2
          | some z =>
            rw [e3] at e2
            cases e2
            obtain ⟨z1, z2⟩ := List.getElem?_zip_eq_some.mp e3
            obtain ⟨a, h1, h2⟩ := hq j q z.1 e1 z1
            rw [z2] at h1
            cases h1
            exact .of h2
      refine ⟨D, ps, _, rfl, .of hD, hkv.paired, fun g ng => ?_⟩
      have hk : (((xs.zip as).map fun z => ((Sum.inr z.1 : Key), V.ref z.2)).map (·.1)) = xs.map Sum.inr := by
        rw [List.map_map]
        have e : (xs.zip as).map Prod.fst = xs := List.map_fst_zip (by rw [ha.1]; exact Nat.le_refl _)
        conv => rhs; rw [← e, List.map_map]
        rfl
      rw [merge_nd (by rw [hk]; exact inr_nodup (f := id) (by rw [List.map_id]; exact nd))]
      generalize hh : upd H3 g _ = H4; obtain ⟨s4, hg⟩ := gen_new hh ng; clear hh
      have s14 := s12.trans (s3.trans s4)
      refine ⟨_, rfl, _, _, _, _, rfl, s14 _ _ hp, T.c_Field, T.n_Field_grown, (by show 0 < 1000; decide), ?_⟩
      have h5 : upd H4 p (.ins (A_Field K) dx (putF "grown" (.ref g) [])) p = some _ := upd_same
      have s5 : ∀ c o, c ≠ p → H4 c = some o → upd H4 p (.ins (A_Field K) dx (putF "grown" (.ref g) [])) c = some o := fun c o hc e => by rw [upd_ne hc]; exact e
      generalize upd H4 p _ = H5 at *
      have nlp : ∀ c xs, H c = some (.lst xs) → c ≠ p := fun c xs e => ne_of e hp (by intro q; cases q)
      have hld5 := s5 _ _ (nlp _ _ hld) (s14 _ _ hld)
      have hfb5 : ∀ x ∈ fb, BedAt K H5 x.2 x.1 := fun x hx => by
        obtain ⟨dxb, e⟩ := hfb x hx
        exact ⟨dxb, s5 _ _ (ne_of e hp (by intro q; injection q with q1 q2 q3; cases q3)) (s14 _ _ e)⟩
      have gp : g ≠ p := (ne_of_none (s12.trans s3 _ _ hp) ng).symm
      have hg5 := s5 _ _ gp hg
      refine ⟨_, rfl, ld, rfl, ⟨_, .of hld5⟩, fun D2 nD2 => ?_⟩
      have hn2 : (fb.map fun x => V.ref x.2).length = fb.length := List.length_map ..
      refine lc_it walk_list (fun i H' => Same H5 H' ∧ H' D2 = some (.lst ((List.replicate i true).map V.bl))) ⟨same_new nD2, upd_same⟩ (fun i H' _ z => z.1.seq (.of hld5)) ?_ ?_
      · rintro i y H6 H7 hi ⟨s6, hD2⟩ ⟨rfl, hy⟩
        obtain ⟨x, hx, hm, rfl⟩ := fb_at hy
        obtain ⟨dxb, hb⟩ := hfb5 x hm
        have gg : DGet H7 g (.str x.1.breed) (valV _ (Sum.inr x.1.breed : Key)) := DGet.k (k := Sum.inr x.1.breed) (s6 _ _ hg5)
        have mem : (valV ((xs.zip as).map fun z => ((Sum.inr z.1 : Key), V.ref z.2)) (Sum.inr x.1.breed : Key)).isSome = true := by
          refine valV_mem ?_
          rw [hk]
          exact List.mem_map.mpr ⟨_, hbr x hm, rfl⟩
        refine ⟨rfl, yes (iteT ⟨_, rfl, _, _, _, _, _, rfl, (s6 _ _ hb), T.c_Bed, T.n_Bed_breed, l_Bed_breed, _, rfl, _, _, _, _, _, rfl, s6 _ _ h5, T.c_Field, T.n_Field_grown, (show (putF "grown" (V.ref g) []).lookup ("grown" : Str) = some (.ref g) by kernel_rfl), _, _, rfl, gg, _, hD2, all_len (show i < 7 by omega) (by decide), same_mut s6 nD2, alls (congrArg V.bl mem)⟩)⟩
      · rintro H6 ⟨s6, hD2⟩
        refine ⟨_, _, rfl, .of hD2, ?_⟩
        rw [all_true]
        refine ⟨true, rfl, iteF ?_⟩
        refine ⟨_, rfl, ld, rfl, ⟨_, s6.seq (.of hld5)⟩, fun D3 nD3 => ?_⟩
        refine lc_it walk_list (fun i H' => ∃ ps, Same H6 H' ∧ H' D3 = some (.lst (ps.map V.ref)) ∧ L2R (fun q (x : Bd × Addr) => H' q = some (.tup [.str x.1.name, .ref x.2])) ps (fb.take i))
          ⟨[], same_new nD3, upd_same, .nil⟩ (fun i H' _ ⟨_, z, _⟩ => (s6.trans z).seq (.of hld5)) ?_ ?_
        · rintro i y H7 H8 hi ⟨ps, s7, hD3, hq⟩ ⟨rfl, hy⟩
          obtain ⟨x, hx, hm, rfl⟩ := fb_at hy
          obtain ⟨dxb, hb⟩ := hfb5 x hm
          have hb' := s7 _ _ (s6 _ _ hb)
          refine ⟨rfl, yes (iteT ⟨_, rfl, _, _, _, _, _, rfl, hb', T.c_Bed, T.n_Bed_name, l_Bed_name, _, rfl, by show 2 ≤ sizeLine; decide, fun t nt => ?_⟩)⟩
          generalize hh : upd H8 t _ = H9; obtain ⟨s9, ht⟩ := gen_new hh nt; clear hh
          have hD9 := s9 _ _ hD3
          refine ⟨_, hD9, ?_, ps ++ [t], same_mut (s7.trans s9) nD3, by rw [upd_same, List.map_append]; rfl, ?_⟩
          · rw [List.length_map, hq.1, List.length_take]
            exact Nat.lt_of_le_of_lt (Nat.min_le_right _ _) (Nat.lt_of_le_of_lt f6 (by decide))
          · rw [List.take_add_one, hx]
            refine L2R.snoc (hq.mono fun q z e => ?_) ?_
            · rw [upd_ne (ne_of e hD3 (by intro q; cases q))]
              exact s9 _ _ e
            · rw [upd_ne (ne_of ht hD9 (by intro q; cases q))]
              exact ht
        · rintro H7 ⟨ps, s7, hD3, hq⟩
          rw [hn2, List.take_length] at hq
          have hkv : L2R (fun q (kv : Key × V) => SqT K H7 q [kV kv.1, kv.2]) ps (fb.map fun x => ((Sum.inr x.1.name : Key), V.ref x.2)) := L2R.mapR (hq.mono fun q x e => .of e)
          refine ⟨D3, ps, _, rfl, .of hD3, hkv.paired, fun d nd3 => ?_⟩
          have hk2 : ((fb.map fun x => ((Sum.inr x.1.name : Key), V.ref x.2)).map (·.1)) = fb.map fun x => (Sum.inr x.1.name : Key) := by rw [List.map_map]; rfl
          rw [merge_nd (by rw [hk2]; exact inr_nodup fnd)]
          generalize hh : upd H7 d _ = H8; obtain ⟨s8, hd⟩ := gen_new hh nd3; clear hh
          have s58 := s6.trans (s7.trans s8)
          have dp : d ≠ p := (ne_of_none (s6.trans s7 _ _ h5) nd3).symm
          refine ⟨_, rfl, _, _, _, _, rfl, s58 _ _ h5, T.c_Field, T.n_Field_dug, (by show 1 < 1000; decide), ?_⟩
          refine k _ ⟨⟨dx, g, d, ?_, by rw [upd_ne dp]; exact hd⟩, fun x hx => ?_, hok, fnd, f6⟩ fun c o hc e => ?_
          · rw [upd_same, ← put_Field]
          · obtain ⟨dxb, e⟩ := hfb5 x hx
            refine ⟨dxb, ?_⟩
            rw [upd_ne (ne_of e h5 (by intro q; injection q with q1 q2 q3; cases q3))]
            exact s58 _ _ e
          · rw [upd_ne hc]
            exact s58 _ _ (s5 _ _ hc (s14 _ _ e))
def sp_Field_bed_of (K : PySem.W.Frag) : Sp := fun vs H Q _ => ∃ (f : Addr) (fb : List (Bd × Addr)) (x : Bd × Addr), vs = [.ref f, .str x.1.name] ∧ FieldAt K H f fb ∧ x ∈ fb ∧ ∀ H', Same H H' → Q (.ref x.2) H'
theorem ok_Field_bed_of (T : Tx K mg) : FnOk P w K mg base CX0 2 (He.ma K (He.ga K "Field") "bed_of") (fdOf K dd_Field_bed_of) ["self", "name"] (sp_Field_bed_of K) := by
  refine okF T.d_Field_bed_of sc_Field_bed_of (fun vs H Q E h => ?_) (fun cdv A outer s H vs Q E hr h => ?_)
  · obtain ⟨_, _, _, rfl, _⟩ := h; rfl
  · obtain ⟨f, fb, x, rfl, F, hx, k⟩ := h
    have hu := hu_of hr
    refine ⟨_, (pss_cons (ps_if (PW.pt (pw_or (pt_not (pt_val (pe_call (ok_is_name T) (hr.mono (by decide)) rfl T.g_is_name T.d_is_name.kp T.b_is_name .nil pass0 (pa_cons (pv 1) pa_nil)))) (pw_or1 (pt_cmp (pc_dnotin hu (pv 1) (pe_fldK K rfl (pv 0) rfl)))))) (pss_one ps_never) pss_nil)
      (pss_one (ps_ret (pe_dget hu (pe_fldK K rfl (pv 0) rfl) (pv 1) (fun _ _ => rfl))))), ?_⟩
    obtain ⟨dx, g, d, hf, hd⟩ := F.ob
    have e : valV (fb.map fun y => ((Sum.inr y.1.name : Key), V.ref y.2)) (Sum.inr x.1.name : Key) = some (.ref x.2) := valV_fb (k := fun y : Bd × Addr => (Sum.inr y.1.name : Key)) (v := fun y => V.ref y.2) (inr_nodup F.nd) hx
    refine ⟨_, rfl, x.1.name, rfl, (F.ok x hx).nm, fun H1 s1 => ⟨true, rfl, iteF ⟨_, rfl, _, rfl, _, _, _, _, _, rfl, (s1 _ _ hf), T.c_Field, T.n_Field_dug, l_Field_dug, d, some (.ref x.2), rfl, ?_, false, rfl, iteF ⟨_, rfl, _, _, _, _, _, rfl, (s1 _ _ hf), T.c_Field, T.n_Field_dug, l_Field_dug, _, rfl, d, .ref x.2, rfl, ?_, k H1 s1⟩⟩⟩⟩
    all_goals
      have := DGet.k (k := Sum.inr x.1.name) (s1 _ _ hd)
      rw [e] at this
      exact this
def sp_Field_bed_names (K : PySem.W.Frag) : Sp := fun vs H Q _ => ∃ (f : Addr) (fb : List (Bd × Addr)), vs = [.ref f] ∧ FieldAt K H f fb ∧ ∀ (ys : List Str) (p : Addr) H', ys.Perm (fb.map fun x => x.1.name) → Same H H' → H p = none → H' p = some (.lst (ys.map V.str)) → Q (.ref p) H'
theorem ok_Field_bed_names (T : Tx K mg) : FnOk P w K mg base CX0 1 (He.ma K (He.ga K "Field") "bed_names") (fdOf K dd_Field_bed_names) ["self"] (sp_Field_bed_names K) := by
  refine okF T.d_Field_bed_names sc_Field_bed_names (fun vs H Q E h => ?_) (fun cdv A outer s H vs Q E hr h => ?_)
  · obtain ⟨_, _, rfl, _⟩ := h; rfl
  · obtain ⟨f, fb, rfl, F, k⟩ := h
    refine ⟨_, (pss_one (ps_ret (pe_callB (call_sortedD rfl) (by rfl) T.f_sorted (by decide +kernel) (pa_cons (pe_fldK K rfl (pv 0) rfl) pa_nil)))), ?_⟩
    obtain ⟨dx, g, d, hf, hd⟩ := F.ob
    refine ⟨_, rfl, _, _, _, _, _, rfl, hf, T.c_Field, T.n_Field_dug, l_Field_dug, d, _, fb.map fun x => x.1.name, rfl, .of hd, ?_, ?_, fun ys p hp _ np => k ys p _ hp (same_new np) np upd_same⟩
    · rw [List.map_map, List.map_map]; rfl
    · rw [List.length_map]
      have := F.n2
      omega
end
end Rp


set_option maxRecDepth 100000
set_option maxHeartbeats 4000000
namespace Rp
open PySem PySem.Spec PyProof.Rows L2
/-! ### things, promises, spoilings as they stand -/
def ThAt (K : PySem.W.Frag) (H : Hp) (t : Addr) : Th → Prop
  | .root b k => H t = some (.tup [.str "root", .str b, .int k])
  | .offs b k => H t = some (.tup [.str "offsets", .str b, .int k])
  | .share b u => ∃ p, H t = some (.tup [.str "share", .str b, .ref p]) ∧ PtAt K H p u
theorem ThAt.same {K : PySem.W.Frag} {H H' : Hp} {t : Addr} {th : Th} (h : ThAt K H t th) (s : Same H H') : ThAt K H' t th := by
  cases th with
  | root b k => exact s _ _ h
  | offs b k => exact s _ _ h
  | share b u => obtain ⟨p, h1, h2⟩ := h; exact ⟨p, s _ _ h1, h2.same s⟩
def Th.Ok : Th → Prop
  | .root b k => IsNm b ∧ 1 ≤ k
  | .offs b k => IsNm b ∧ 1 ≤ k
  | .share b u => IsNm b ∧ 0 < u ∧ u ≤ 27720 ∧ den u ≤ 12
theorem Th.Ok.nm {th : Th} (h : th.Ok) : IsNm th.bed := by cases th <;> exact h.1
/-- a thing of a field -/
def Th.InB (b : Bd) : Th → Prop
  | .root n k => n = b.name ∧ b.shares = false ∧ k ≤ b.roots
  | .offs n k => n = b.name ∧ b.shares = false ∧ k ≤ b.roots
  | .share n _ => n = b.name ∧ b.shares = true
theorem Th.InB.bed {b : Bd} {th : Th} (h : th.InB b) : th.bed = b.name := by cases th <;> exact h.1
def goW (stay : Bool) : Str := if stay then "stay" else "go"
structure Pr.Ok (p : Pr) : Prop where
  n : 1 ≤ p.num
  m : 0 ≤ p.mom
  s : IsNm p.seller
  b : IsNm p.buyer
  ne : p.buyer ≠ p.seller
  th : p.th.Ok
  p1 : 0 ≤ p.price
  p2 : p.price ≤ 1000000
  st : p.stay = true → ∃ b k, p.th = .root b k
  e1 : 0 ≤ p.earnest
  e2 : p.earnest ≤ 1000000
abbrev fsPr (p : Pr) (t : Addr) : List (Str × V) := fs_Promise (.int p.num) (.int p.mom) (.str p.seller) (.str p.buyer) (.ref t) (.int p.price) (.str "flat") (.str (goW p.stay)) (.int p.earnest)
def PrAt (K : PySem.W.Frag) (H : Hp) (a : Addr) (p : Pr) : Prop := ∃ dx t, H a = some (.ins (A_Promise K) dx (fsPr p t)) ∧ ThAt K H t p.th
theorem PrAt.same {K : PySem.W.Frag} {H H' : Hp} {a : Addr} {p : Pr} (h : PrAt K H a p) (s : Same H H') : PrAt K H' a p := let ⟨dx, t, e, h2⟩ := h; ⟨dx, t, s _ _ e, h2.same s⟩
def SpAt (K : PySem.W.Frag) (H : Hp) (a : Addr) (n m : Int) (b : Str) : Prop := ∃ dx, H a = some (.ins (A_Spoiling K) dx (fs_Spoiling (.int n) (.int m) (.str b)))
def LnAt (K : PySem.W.Frag) (H : Hp) (a : Addr) : Ln → Prop
  | .pr p => PrAt K H a p
  | .sp n m b => SpAt K H a n m b
theorem LnAt.same {K : PySem.W.Frag} {H H' : Hp} {a : Addr} {l : Ln} (h : LnAt K H a l) (s : Same H H') : LnAt K H' a l := by
  cases l with
  | pr p => exact PrAt.same h s
  | sp n m b => obtain ⟨dx, e⟩ := h; exact ⟨dx, s _ _ e⟩
/-- what any thing's tuple is -/
theorem ThAt.tup {K : PySem.W.Frag} {H : Hp} {t : Addr} {th : Th} (h : ThAt K H t th) : ∃ (z : Str) (v : V), H t = some (.tup [.str z, .str th.bed, v]) := by
  cases th with
  | root b k => exact ⟨_, _, h⟩
  | offs b k => exact ⟨_, _, h⟩
  | share b u => obtain ⟨p, h1, h2⟩ := h; exact ⟨_, _, h1⟩
theorem part0 : (0 : Nat) * 27720 = 0 * 1 := rfl
theorem part1 : (1 : Nat) * 27720 = 27720 * 1 := rfl
theorem kne1 : ¬ (("root" : Str) = "offsets") := by decide +kernel
theorem kne2 : ¬ (("root" : Str) = "share") := by decide +kernel
theorem kne3 : ¬ (("offsets" : Str) = "root") := by decide +kernel
theorem kne4 : ¬ (("offsets" : Str) = "share") := by decide +kernel
theorem kne5 : ¬ (("share" : Str) = "root") := by decide +kernel
theorem kne6 : ¬ (("share" : Str) = "offsets") := by decide +kernel
theorem vne {a b : Str} (h : ¬ a = b) : ¬ V.str a = V.str b := fun e => h (V.str.inj e)
section
variable {P : Program} {w : World} {K : PySem.W.Frag} {mg : Str → Option Value} {base : Heap}
/-- the default's value -/
theorem rP1x (T : Tx K mg) : ∃ d : Value, Vals [V.int 1] [d] ∧ L2.Binds K (fdOf K dd_Part_init) ["self", "top", "bottom"] [d] := by
  obtain ⟨ds, h1, h2⟩ := bP1' T
  cases h1 with
  | cons r t => cases t; exact ⟨_, .cons r .nil, h2⟩
noncomputable def dP1 (T : Tx K mg) : Value := Classical.choose (rP1x T)
theorem rP1 (T : Tx K mg) : Vals [V.int 1] [dP1 T] := (Classical.choose_spec (rP1x T)).1
theorem bP1 (T : Tx K mg) : L2.Binds K (fdOf K dd_Part_init) ["self", "top", "bottom"] [dP1 T] := (Classical.choose_spec (rP1x T)).2
def sp_is_thing (K : PySem.W.Frag) : Sp := fun vs H Q _ => ∃ (t : Addr) (th : Th), vs = [.ref t] ∧ ThAt K H t th ∧ th.Ok ∧ ∀ H', Same H H' → Q (.bl true) H'
theorem ok_is_thing (T : Tx K mg) : FnOk P w K mg base CX0 4 (He.ga K "is_thing") (fdOf K dd_is_thing) ["thing"] (sp_is_thing K) := by
  refine okF T.d_is_thing sc_is_thing (fun vs H Q E h => ?_) (fun cdv A outer s H vs Q E hr h => ?_)
  · obtain ⟨_, _, rfl, _⟩ := h; rfl
  · obtain ⟨t, th, rfl, ht, ok, k⟩ := h
    refine ⟨_, (pss_cons (ps_if (PW.pt (pw_or (pt_not (pt_val (pe_callB (id := "isinstance") (isiK K rfl) (by rfl) T.f_isinstance (by decide +kernel) (pa_cons (pv 0) (pa_cons (pe_bltn (v := .ty "tuple") rfl T.f_tuple (by decide +kernel) rfl) pa_nil))))) (pw_or (pt_cmpR op_ne (pe_callB call_len (by rfl) T.f_len PySem.boot_len (pa_cons (pv 0) pa_nil)) pe_int (nomark _)) (pw_or (pt_not (pt_val (pe_callB (id := "isinstance") (isiK K rfl) (by rfl) T.f_isinstance (by decide +kernel) (pa_cons (pe_ix (ix_tupK K rfl) (pv 0) pe_int (fun _ _ => rfl)) (pa_cons (pe_bltn (v := .ty "str") rfl T.f_str (by decide +kernel) rfl) pa_nil))))) (pw_or1 (pt_not (pt_val (pe_call (ok_is_name T) (hr.mono (by decide)) rfl T.g_is_name T.d_is_name.kp T.b_is_name .nil pass0 (pa_cons (pe_ix (ix_tupK K rfl) (pv 0) pe_int (fun _ _ => rfl)) pa_nil))))))))) (pss_one (ps_ret pe_bl)) pss_nil)
      (pss_cons (ps_if (PW.pt (pw_or (pt_cmpR op_eq (pe_ix (ix_tupK K rfl) (pv 0) pe_int (fun _ _ => rfl)) pe_str (nomark _)) (pw_or1 (pt_cmpR op_eq (pe_ix (ix_tupK K rfl) (pv 0) pe_int (fun _ _ => rfl)) pe_str (nomark _))))) (pss_one (ps_ret (pe_call (ok_is_from T) (hr.mono (by decide)) rfl T.g_is_from T.d_is_from.kp T.b_is_from .nil pass0 (pa_cons (pe_ix (ix_tupK K rfl) (pv 0) pe_int (fun _ _ => rfl)) (pa_cons pe_int pa_nil))))) pss_nil)
      (pss_cons (ps_if (PW.pt (pw_or (pt_cmpR op_ne (pe_ix (ix_tupK K rfl) (pv 0) pe_int (fun _ _ => rfl)) pe_str (nomark _)) (pw_or (pt_not (pt_val (pe_callB (id := "isinstance") (isiK K rfl) (by rfl) T.f_isinstance (by decide +kernel) (pa_cons (pe_ix (ix_tupK K rfl) (pv 0) pe_int (fun _ _ => rfl)) (pa_cons (pe_glob (v := .ref (He.ga K "Part")) rfl T.g_Part rfl) pa_nil))))) (pw_or1 (pt_cmpR op_gt (pe_fldK K rfl (pe_ix (ix_tupK K rfl) (pv 0) pe_int (fun _ _ => rfl)) rfl) (C8.pe_gc rfl T.i_MOST_BOTTOM) (nomark _)))))) (pss_one (ps_ret pe_bl)) pss_nil)
      (pss_one (ps_ret (pe_and (pe_call (ok_less T) (hr.mono (by decide)) rfl T.g_less T.d_less.kp T.b_less .nil pass0 (pa_cons (pe_make T.mk_Part (ok_Part_init T) (hr.mono (by decide)) rfl T.g_Part (bP1 T) (rP1 T) pass0 (pa_cons pe_int pa_nil)) (pa_cons (pe_ix (ix_tupK K rfl) (pv 0) pe_int (fun _ _ => rfl)) pa_nil))) (pe_one (pe_not (pe_call (ok_less T) (hr.mono (by decide)) rfl T.g_less T.d_less.kp T.b_less .nil pass0 (pa_cons (pe_make T.mk_Part (ok_Part_init T) (hr.mono (by decide)) rfl T.g_Part (bP1 T) (rP1 T) pass0 (pa_cons pe_int pa_nil)) (pa_cons (pe_ix (ix_tupK K rfl) (pv 0) pe_int (fun _ _ => rfl)) pa_nil))))))))))), ?_⟩
    obtain ⟨z, v, hz⟩ := ht.tup
    refine ⟨_, rfl, _, _, _, _, true, rfl, .ty _, .base (.tup hz), kit_ty (by decide +kernel), true, rfl, iteF ⟨_, rfl, .ref t, 3, rfl, .inr ⟨_, .of hz, rfl⟩, rfl, _, rfl, iteF ⟨_, rfl, _, _, _, _, rfl, rfl, .of hz, atI_nat (j := 0) rfl, _, _, _, _, true, rfl, .ty _, .base (.str _), kit_ty (by decide +kernel), true, rfl, iteF ⟨_, rfl, _, _, _, _, rfl, rfl, .of hz, atI_nat (j := 1) rfl, _, rfl, ok.nm, fun H1 s1 => ⟨true, rfl, iteF ?_⟩⟩⟩⟩⟩
    have ht := ht.same s1
    cases th with
    | root b j =>
      have h1 : H1 t = some (.tup [.str "root", .str b, .int j]) := ht
      refine ⟨_, rfl, _, _, _, _, rfl, rfl, .of h1, atI_nat (j := 0) rfl, rfl, _, rfl, iteD rfl (iteT ?_)⟩
      exact ⟨_, rfl, _, _, _, _, rfl, rfl, .of h1, atI_nat (j := 2) rfl, _, _, rfl, by have := ok.2; omega, k H1 s1⟩
    | offs b j =>
      have h1 : H1 t = some (.tup [.str "offsets", .str b, .int j]) := ht
      refine ⟨_, rfl, _, _, _, _, rfl, rfl, .of h1, atI_nat (j := 0) rfl, rfl, _, rfl, iteDn (vne kne3) ⟨_, rfl, _, _, _, _, rfl, rfl, .of h1, atI_nat (j := 0) rfl, rfl, _, rfl, iteD rfl ?_⟩⟩
      exact ⟨_, rfl, _, _, _, _, rfl, rfl, .of h1, atI_nat (j := 2) rfl, _, _, rfl, by have := ok.2; omega, k H1 s1⟩
    | share b u =>
      obtain ⟨p, h1, dx, h2⟩ := ht
      have h3 : PtAt K H1 p u := ⟨dx, h2⟩
      obtain ⟨_, u0, u1, u2⟩ := ok
      refine ⟨_, rfl, _, _, _, _, rfl, rfl, .of h1, atI_nat (j := 0) rfl, rfl, _, rfl, iteDn (vne kne5) ⟨_, rfl, _, _, _, _, rfl, rfl, .of h1, atI_nat (j := 0) rfl, rfl, _, rfl, iteDn (vne kne6) ?_⟩⟩
      refine ⟨_, rfl, _, _, _, _, rfl, rfl, .of h1, atI_nat (j := 0) rfl, rfl, _, rfl, iteNS rfl ⟨_, rfl, _, _, _, _, rfl, rfl, .of h1, atI_nat (j := 2) rfl, _, _, _, _, true, rfl, .own _, .base (T.ty_Part h2), T.kit_Part, true, rfl, iteF ⟨_, rfl, _, _, _, _, rfl, rfl, .of h1, atI_nat (j := 2) rfl, _, _, _, _, _, rfl, h2, T.c_Part, T.n_Part_bottom, l_Part_bottom, _, _, rfl, rfl, _, rfl, iteDn (by omega) ?_⟩⟩⟩
      intro q dq nq nd ne
      refine ⟨q, dq, 0, 1, rfl, upd_same, ?_, ?_, fun H2 e1 e2 => ⟨rfl, ?_⟩⟩
      · omega
      · omega
      obtain ⟨s2, hq⟩ := mk_part (t := 0) (b := 1) nq nd e1 e2 (by omega) part0
      clear e1 e2 ne nd
      refine ⟨_, rfl, _, _, _, _, rfl, rfl, .of (s2 _ _ h1), atI_nat (j := 2) rfl, q, p, 0, u, rfl, hq, h3.same s2, by decide, by omega, true, congrArg V.bl (decide_eq_true u0), iteT ?_⟩
      intro q2 dq nq nd ne
      refine ⟨q2, dq, 1, 1, rfl, upd_same, ?_, ?_, fun H3 e1 e2 => ⟨rfl, ?_⟩⟩
      · omega
      · omega
      obtain ⟨s3, hq2⟩ := mk_part (t := 1) (b := 1) nq nd e1 e2 (by omega) part1
      clear e1 e2 ne nd
      refine ⟨_, rfl, _, _, _, _, rfl, rfl, .of (s3 _ _ (s2 _ _ h1)), atI_nat (j := 2) rfl, q2, p, 27720, u, rfl, hq2, h3.same (s2.trans s3), by decide, by omega, false, congrArg V.bl (decide_eq_false (by omega)), ?_⟩
      exact k H3 (s1.trans (s2.trans s3))
theorem kind_sh {b : Bd} (h : b.shares = true) : b.kind = "shares" := by unfold Bd.kind; rw [h]; rfl
theorem kind_ro {b : Bd} (h : b.shares = false) : b.kind = "roots" := by unfold Bd.kind; rw [h]; rfl
def sp_has (K : PySem.W.Frag) : Sp := fun vs H Q _ => ∃ (f t : Addr) (fb : List (Bd × Addr)) (x : Bd × Addr) (th : Th), vs = [.ref f, .ref t] ∧ FieldAt K H f fb ∧ x ∈ fb ∧ ThAt K H t th ∧ th.Ok ∧ th.InB x.1 ∧ ∀ H', Same H H' → Q (.bl true) H'
theorem inV_str {x : Str} {ys : List Str} (h : x ∈ ys) : inV (.str x) (ys.map V.str) = true := List.any_eq_true.mpr ⟨.str x, List.mem_map.mpr ⟨x, h, rfl⟩, by show eqV (.str x) (.str x) = true; simp [eqV]⟩
theorem ok_has (T : Tx K mg) : FnOk P w K mg base CX0 5 (He.ga K "has") (fdOf K dd_has) ["field", "thing"] (sp_has K) := by
  refine okF T.d_has sc_has (fun vs H Q E h => ?_) (fun cdv A outer s H vs Q E hr h => ?_)
  · obtain ⟨_, _, _, _, _, rfl, _⟩ := h; rfl
  · obtain ⟨f, t, fb, x, th, rfl, F, hx, ht, ok, inb, k⟩ := h
    have hu := hu_of hr
    refine ⟨_, (pss_cons (ps_if (PW.pt (pw_or (pt_not (pt_val (pe_call (ok_is_thing T) (hr.mono (by decide)) rfl T.g_is_thing T.d_is_thing.kp T.b_is_thing .nil pass0 (pa_cons (pv 1) pa_nil)))) (pw_or1 (pt_cmpR (op_notInK K rfl) (pe_ix (ix_tupK K rfl) (pv 1) pe_int (fun _ _ => rfl)) (pe_meth0 (pv 0) T.c_Field T.m_Field_bed_names (ok_Field_bed_names T) (hr.mono (by decide)) T.b_Field_bed_names .nil pass0) (by rfl))))) (pss_one (ps_ret pe_bl)) pss_nil)
      (pss_cons (ps_set (i := 2) sc_has.nd rfl (by first | exact Or.inl rfl | exact Or.inr rfl) (pe_meth (pv 0) T.c_Field T.m_Field_bed_of (ok_Field_bed_of T) (hr.mono (by decide)) T.b_Field_bed_of .nil pass0 (pa_cons (pe_ix (ix_tupK K rfl) (pv 1) pe_int (fun _ _ => rfl)) pa_nil)))
      (pss_cons (ps_if (pt_cmpR op_eq (pe_ix (ix_tupK K rfl) (pv 1) pe_int (fun _ _ => rfl)) pe_str (nomark _)) (pss_one (ps_ret (pe_cmpR op_eq (pe_fldK K rfl (pv 2) rfl) pe_str (nomark _)))) pss_nil)
      (pss_one (ps_ret (pe_and (pe_cmpR op_eq (pe_fldK K rfl (pv 2) rfl) pe_str (nomark _)) (pe_one (pe_cmpR op_le (pe_ix (ix_tupK K rfl) (pv 1) pe_int (fun _ _ => rfl)) (pe_fldK K rfl (pv 2) rfl) (nomark _))))))))), ?_⟩
    refine ⟨_, rfl, t, th, rfl, ht, ok, fun H1 s1 => ⟨true, rfl, iteF ?_⟩⟩
    have F1 := F.same s1
    have ht1 := ht.same s1
    obtain ⟨z, v, hz⟩ := ht1.tup
    rw [inb.bed] at hz
    obtain ⟨dx, g, d, hf, hd⟩ := F1.ob
    refine ⟨_, rfl, _, _, _, _, rfl, rfl, .of hz, atI_nat (j := 1) rfl, _, rfl, _, _, _, rfl, hf, lm_Field_bed_names, f, fb, rfl, F1, fun ys q H2 hp s2 nq hq => ?_⟩
    have mem : x.1.name ∈ ys := hp.mem_iff.mpr (List.mem_map.mpr ⟨x, hx, rfl⟩)
    refine ⟨_, _, rfl, .inl (.of hq), rfl, flat_strs ys, false, congrArg V.bl (congrArg not (inV_str mem)), iteF ?_⟩
    have F2 := F1.same s2
    refine ⟨_, rfl, _, _, _, rfl, (s2 _ _ hf), lm_Field_bed_of, _, rfl, _, _, _, _, rfl, rfl, .of (s2 _ _ hz), atI_nat (j := 1) rfl, f, fb, x, rfl, F2, hx, fun H3 s3 => ?_⟩
    have s23 := s2.trans s3
    obtain ⟨dxb, hb⟩ := (F2.at_ x hx).same s3
    have ht3 := ht1.same s23
    cases th with
    | root b j =>
      have h1 : H3 t = some (.tup [.str "root", .str b, .int j]) := ht3
      obtain ⟨_, i1, i2⟩ := inb
      refine ⟨_, rfl, _, _, _, _, rfl, rfl, .of h1, atI_nat (j := 0) rfl, rfl, _, rfl, iteDn (vne kne2) ⟨_, rfl, _, _, _, _, _, rfl, hb, T.c_Bed, T.n_Bed_kind, l_Bed_kind, rfl, _, rfl, iteD (congrArg V.str (kind_ro i1)) ⟨_, rfl, _, _, _, _, rfl, rfl, .of h1, atI_nat (j := 2) rfl, _, rfl, _, _, _, _, _, rfl, hb, T.c_Bed, T.n_Bed_roots, l_Bed_roots, _, _, rfl, rfl, bl_t (by omega) (k H3 (s1.trans s23))⟩⟩⟩
    | offs b j =>
      have h1 : H3 t = some (.tup [.str "offsets", .str b, .int j]) := ht3
      obtain ⟨_, i1, i2⟩ := inb
      refine ⟨_, rfl, _, _, _, _, rfl, rfl, .of h1, atI_nat (j := 0) rfl, rfl, _, rfl, iteDn (vne kne4) ⟨_, rfl, _, _, _, _, _, rfl, hb, T.c_Bed, T.n_Bed_kind, l_Bed_kind, rfl, _, rfl, iteD (congrArg V.str (kind_ro i1)) ⟨_, rfl, _, _, _, _, rfl, rfl, .of h1, atI_nat (j := 2) rfl, _, rfl, _, _, _, _, _, rfl, hb, T.c_Bed, T.n_Bed_roots, l_Bed_roots, _, _, rfl, rfl, bl_t (by omega) (k H3 (s1.trans s23))⟩⟩⟩
    | share b u =>
      obtain ⟨p, h1, _⟩ := ht3
      obtain ⟨_, i1⟩ := inb
      refine ⟨_, rfl, _, _, _, _, rfl, rfl, .of h1, atI_nat (j := 0) rfl, rfl, _, rfl, iteD rfl ⟨_, rfl, _, _, _, _, _, rfl, hb, T.c_Bed, T.n_Bed_kind, l_Bed_kind, rfl, bl_t (congrArg V.str (kind_sh i1)) (k H3 (s1.trans s23))⟩⟩
def sp_is_rule : Sp := fun vs H Q _ => vs = [.str "flat"] ∧ Q (.bl true) H
theorem ok_is_rule (T : Tx K mg) : FnOk P w K mg base CX0 3 (He.ga K "is_rule") (fdOf K dd_is_rule) ["rule"] sp_is_rule := by
  refine okF T.d_is_rule sc_is_rule (fun vs H Q E h => ?_) (fun cdv A outer s H vs Q E hr h => ?_)
  · obtain ⟨rfl, _⟩ := h; rfl
  · obtain ⟨rfl, k⟩ := h
    refine ⟨_, (pss_cons (ps_if (pt_val (pe_callB (id := "isinstance") (isiK K rfl) (by rfl) T.f_isinstance (by decide +kernel) (pa_cons (pv 0) (pa_cons (pe_bltn (v := .ty "str") rfl T.f_str (by decide +kernel) rfl) pa_nil)))) (pss_one (ps_ret (pe_cmpR (op_inK K rfl) (pv 0) (pe_glob (v := .ref (He.ga K "RULES")) rfl T.g_RULES rfl) (by rfl)))) pss_nil)
      (pss_cons (ps_if (PW.pt (pw_or (pt_not (pt_val (pe_callB (id := "isinstance") (isiK K rfl) (by rfl) T.f_isinstance (by decide +kernel) (pa_cons (pv 0) (pa_cons (pe_bltn (v := .ty "tuple") rfl T.f_tuple (by decide +kernel) rfl) pa_nil))))) (pw_or (pt_cmpR op_ne (pe_callB call_len (by rfl) T.f_len PySem.boot_len (pa_cons (pv 0) pa_nil)) pe_int (nomark _)) (pw_or (pt_not (pt_val (pe_callB (id := "isinstance") (isiK K rfl) (by rfl) T.f_isinstance (by decide +kernel) (pa_cons (pe_ix (ix_tupK K rfl) (pv 0) pe_int (fun _ _ => rfl)) (pa_cons (pe_bltn (v := .ty "str") rfl T.f_str (by decide +kernel) rfl) pa_nil))))) (pw_or1 (pt_cmpR op_ne (pe_ix (ix_tupK K rfl) (pv 0) pe_int (fun _ _ => rfl)) pe_str (nomark _))))))) (pss_one (ps_ret pe_bl)) pss_nil)
      (pss_one (ps_ret (pe_and (pe_call (ok_is_from T) (hr.mono (by decide)) rfl T.g_is_from T.d_is_from.kp T.b_is_from .nil pass0 (pa_cons (pe_ix (ix_tupK K rfl) (pv 0) pe_int (fun _ _ => rfl)) (pa_cons pe_int pa_nil))) (pe_one (pe_call (ok_is_from T) (hr.mono (by decide)) rfl T.g_is_from T.d_is_from.kp T.b_is_from .nil pass0 (pa_cons (pe_ix (ix_tupK K rfl) (pv 0) pe_int (fun _ _ => rfl)) (pa_cons (pe_ix (ix_tupK K rfl) (pv 0) pe_int (fun _ _ => rfl)) pa_nil))))))))), ?_⟩
    refine ⟨_, rfl, _, _, _, _, true, rfl, .ty _, .base (.str _), kit_ty (by decide +kernel), true, rfl, iteT ⟨_, rfl, _, _, rfl, .inr (rules_at T _), rfl, rfl, ?_⟩⟩
    rw [show (if false = true then !inV (V.str "flat") [V.str "flat", V.str "weighed", V.str "graded", V.str "gram"] else inV (V.str "flat") [V.str "flat", V.str "weighed", V.str "graded", V.str "gram"]) = true by decide +kernel]
    exact k
def sp_goes_with (K : PySem.W.Frag) : Sp := fun vs H Q _ => ∃ (t : Addr) (th : Th), vs = [.str "flat", .ref t] ∧ ThAt K H t th ∧ Q (.bl true) H
theorem ok_goes_with (T : Tx K mg) : FnOk P w K mg base CX0 4 (He.ga K "goes_with") (fdOf K dd_goes_with) ["rule", "thing"] (sp_goes_with K) := by
  refine okF T.d_goes_with sc_goes_with (fun vs H Q E h => ?_) (fun cdv A outer s H vs Q E hr h => ?_)
  · obtain ⟨_, _, rfl, _⟩ := h; rfl
  · obtain ⟨t, th, rfl, ht, k⟩ := h
    refine ⟨_, (pss_cons (ps_if (pt_not (pt_val (pe_call (ok_is_rule T) (hr.mono (by decide)) rfl T.g_is_rule T.d_is_rule.kp T.b_is_rule .nil pass0 (pa_cons (pv 0) pa_nil)))) (pss_one (ps_ret pe_bl)) pss_nil)
      (pss_one (ps_ret (pe_or (pe_cmpR op_ne (pe_ix (ix_tupK K rfl) (pv 1) pe_int (fun _ _ => rfl)) pe_str (nomark _)) (pe_or (pe_cmpR op_eq (pv 0) pe_str (nomark _)) (pe_one (pe_cmpR op_eq (pv 0) pe_str (nomark _)))))))), ?_⟩
    obtain ⟨z, v, hz⟩ := ht.tup
    refine ⟨_, rfl, rfl, true, rfl, iteF ⟨_, rfl, _, _, _, _, rfl, rfl, .of hz, atI_nat (j := 0) rfl, rfl, _, rfl, ite2 (fun e => ?_) (fun e => ⟨_, rfl, rfl, true, rfl, iteT k⟩)⟩⟩
    exact k
def sp_is_going (K : PySem.W.Frag) : Sp := fun vs H Q _ => ∃ (t : Addr) (th : Th) (s : Bool), vs = [.str (goW s), .ref t] ∧ ThAt K H t th ∧ (s = true → ∃ b k, th = .root b k) ∧ Q (.bl true) H
theorem ok_is_going (T : Tx K mg) : FnOk P w K mg base CX0 1 (He.ga K "is_going") (fdOf K dd_is_going) ["offsets", "thing"] (sp_is_going K) := by
  refine okF T.d_is_going sc_is_going (fun vs H Q E h => ?_) (fun cdv A outer s H vs Q E hr h => ?_)
  · obtain ⟨_, _, _, rfl, _⟩ := h; rfl
  · obtain ⟨t, th, s, rfl, ht, hs, k⟩ := h
    refine ⟨_, (pss_cons (ps_if (pt_not (pt_val (pe_callB (id := "isinstance") (isiK K rfl) (by rfl) T.f_isinstance (by decide +kernel) (pa_cons (pv 0) (pa_cons (pe_bltn (v := .ty "str") rfl T.f_str (by decide +kernel) rfl) pa_nil))))) (pss_one (ps_ret pe_bl)) pss_nil)
      (pss_one (ps_ret (pe_or (pe_cmpR op_eq (pv 0) pe_str (nomark _)) (pe_one (pe_and (pe_cmpR op_eq (pv 0) pe_str (nomark _)) (pe_one (pe_cmpR op_eq (pe_ix (ix_tupK K rfl) (pv 1) pe_int (fun _ _ => rfl)) pe_str (nomark _))))))))), ?_⟩
    cases s with
    | false => exact ⟨_, rfl, _, _, _, _, true, rfl, .ty _, .base (.str _), kit_ty (by decide +kernel), true, rfl, iteF ⟨_, rfl, rfl, _, rfl, iteD rfl k⟩⟩
    | true =>
      obtain ⟨b, j, rfl⟩ := hs rfl
      have h1 : H t = some (.tup [.str "root", .str b, .int j]) := ht
      exact ⟨_, rfl, _, _, _, _, true, rfl, .ty _, .base (.str _), kit_ty (by decide +kernel), true, rfl, iteF ⟨_, rfl, rfl, _, rfl, iteDn (vne (by decide +kernel)) ⟨_, rfl, rfl, _, rfl, iteD rfl ⟨_, rfl, _, _, _, _, rfl, rfl, .of h1, atI_nat (j := 0) rfl, rfl, bl_t rfl k⟩⟩⟩⟩
end
end Rp


set_option maxRecDepth 100000
set_option maxHeartbeats 4000000
namespace Rp
open PySem PySem.Spec PyProof.Rows L2
/-- a list grows by an item: what else there is stays -/
theorem gen_upd {H H1 : Hp} {l : Addr} {o : HO} (e : upd H l o = H1) : H1 l = some o ∧ ∀ c u, c ≠ l → H c = some u → H1 c = some u := by
  subst e
  exact ⟨upd_same, fun c u hc e => by rw [upd_ne hc]; exact e⟩
section
variable {P : Program} {w : World} {K : PySem.W.Frag} {mg : Str → Option Value} {base : Heap}
def sp_Promise_init (K : PySem.W.Frag) : Sp := fun vs H Q _ => ∃ (p dx t : Addr) (r : Pr), vs = [.ref p, .int r.num, .int r.mom, .str r.seller, .str r.buyer, .ref t, .int r.price, .str "flat", .str (goW r.stay), .int r.earnest] ∧
  H p = some (.ins (A_Promise K) dx []) ∧ ThAt K H t r.th ∧ r.Ok ∧ ∀ H', PrAt K H' p r → (∀ c o, c ≠ p → H c = some o → H' c = some o) → Q .non H'
theorem ThAt.mut {H H' : Hp} {t l : Addr} {th : Th} {xs : List V} (h : ThAt K H t th) (hl : H l = some (.lst xs)) (s : ∀ c u, c ≠ l → H c = some u → H' c = some u) : ThAt K H' t th := by
  cases th with
  | root b k => exact s _ _ (ne_of h hl (by intro q; cases q)) h
  | offs b k => exact s _ _ (ne_of h hl (by intro q; cases q)) h
  | share b u => obtain ⟨p, h1, dx, h2⟩ := h; exact ⟨p, s _ _ (ne_of h1 hl (by intro q; cases q)) h1, dx, s _ _ (ne_of h2 hl (by intro q; cases q)) h2⟩
theorem ThAt.frame {H H' : Hp} {t p C dx : Addr} {th : Th} (h : ThAt K H t th) (hp : H p = some (.ins C dx [])) (s : ∀ c u, c ≠ p → H c = some u → H' c = some u) : ThAt K H' t th := by
  cases th with
  | root b k => exact s _ _ (ne_of h hp (by intro q; cases q)) h
  | offs b k => exact s _ _ (ne_of h hp (by intro q; cases q)) h
  | share b u => obtain ⟨q, h1, dq, h2⟩ := h; exact ⟨q, s _ _ (ne_of h1 hp (by intro q; cases q)) h1, dq, s _ _ (ne_of h2 hp (by intro q; injection q with q1 q2 q3; cases q3)) h2⟩
set_option maxHeartbeats 16000000 in
theorem ok_Promise_init (T : Tx K mg) : FnOk P w K mg base CX0 5 (He.ma K (He.ga K "Promise") "__init__") (fdOf K dd_Promise_init) ["self", "number", "moment", "seller", "buyer", "thing", "price", "rule", "offsets", "earnest"] (sp_Promise_init K) := by
  refine okF T.d_Promise_init sc_Promise_init (fun vs H Q E h => ?_) (fun cdv A outer s H vs Q E hr h => ?_)
  · obtain ⟨_, _, _, _, rfl, _⟩ := h; rfl
  · obtain ⟨p, dx, t, r, rfl, hp, ht, ok, k⟩ := h
    refine ⟨_, (pss_cons (ps_set (i := 10) sc_Promise_init.nd rfl (by first | exact Or.inl rfl | exact Or.inr rfl) (pe_lst (pa_cons (pe_tup (pa_cons pe_str (pa_cons (pe_call (ok_is_from T) (hr.mono (by decide)) rfl T.g_is_from T.d_is_from.kp T.b_is_from .nil pass0 (pa_cons (pv 1) (pa_cons pe_int pa_nil))) pa_nil))) (pa_cons (pe_tup (pa_cons pe_str (pa_cons (pe_call (ok_is_from T) (hr.mono (by decide)) rfl T.g_is_from T.d_is_from.kp T.b_is_from .nil pass0 (pa_cons (pv 2) (pa_cons pe_int pa_nil))) pa_nil))) (pa_cons (pe_tup (pa_cons pe_str (pa_cons (pe_call (ok_is_name T) (hr.mono (by decide)) rfl T.g_is_name T.d_is_name.kp T.b_is_name .nil pass0 (pa_cons (pv 3) pa_nil)) pa_nil))) pa_nil)))))
      (pss_cons (ps_expr (pe_bm PySem.F.plainAttrs_list PySem.F.slot_list_append PySem.F.type_list_append mt_append (pv 10) (pa_cons (pe_tup (pa_cons pe_str (pa_cons (pe_and (pe_call (ok_is_name T) (hr.mono (by decide)) rfl T.g_is_name T.d_is_name.kp T.b_is_name .nil pass0 (pa_cons (pv 4) pa_nil)) (pe_one (pe_cmpR op_ne (pv 4) (pv 3) (nomark _)))) pa_nil))) pa_nil)))
      (pss_cons (ps_expr (pe_bm PySem.F.plainAttrs_list PySem.F.slot_list_append PySem.F.type_list_append mt_append (pv 10) (pa_cons (pe_tup (pa_cons pe_str (pa_cons (pe_call (ok_is_thing T) (hr.mono (by decide)) rfl T.g_is_thing T.d_is_thing.kp T.b_is_thing .nil pass0 (pa_cons (pv 5) pa_nil)) pa_nil))) pa_nil)))
      (pss_cons (ps_expr (pe_bm PySem.F.plainAttrs_list PySem.F.slot_list_append PySem.F.type_list_append mt_append (pv 10) (pa_cons (pe_tup (pa_cons pe_str (pa_cons (pe_call (ok_is_between T) (hr.mono (by decide)) rfl T.g_is_between T.d_is_between.kp T.b_is_between .nil pass0 (pa_cons (pv 6) (pa_cons pe_int (pa_cons (C8.pe_gc rfl T.i_MOST_SUM) pa_nil)))) pa_nil))) pa_nil)))
      (pss_cons (ps_set (i := 11) sc_Promise_init.nd rfl (by first | exact Or.inl rfl | exact Or.inr rfl) (pe_call (ok_first_wrong T) (hr.mono (by decide)) rfl T.g_first_wrong T.d_first_wrong.kp T.b_first_wrong .nil pass0 (pa_cons (pv 10) pa_nil)))
      (pss_cons (ps_if (pt_cmpR op_isN (pv 11) pe_non (nomark _)) (pss_cons (ps_set (i := 10) sc_Promise_init.nd rfl (by first | exact Or.inl rfl | exact Or.inr rfl) (pe_lst (pa_cons (pe_tup (pa_cons pe_str (pa_cons (pe_call (ok_goes_with T) (hr.mono (by decide)) rfl T.g_goes_with T.d_goes_with.kp T.b_goes_with .nil pass0 (pa_cons (pv 7) (pa_cons (pv 5) pa_nil))) pa_nil))) (pa_cons (pe_tup (pa_cons pe_str (pa_cons (pe_call (ok_is_going T) (hr.mono (by decide)) rfl T.g_is_going T.d_is_going.kp T.b_is_going .nil pass0 (pa_cons (pv 8) (pa_cons (pv 5) pa_nil))) pa_nil))) pa_nil))))
      (pss_cons (ps_expr (pe_bm PySem.F.plainAttrs_list PySem.F.slot_list_append PySem.F.type_list_append mt_append (pv 10) (pa_cons (pe_tup (pa_cons pe_str (pa_cons (pe_call (ok_is_between T) (hr.mono (by decide)) rfl T.g_is_between T.d_is_between.kp T.b_is_between .nil pass0 (pa_cons (pv 9) (pa_cons pe_int (pa_cons (C8.pe_gc rfl T.i_MOST_SUM) pa_nil)))) pa_nil))) pa_nil)))
      (pss_one (ps_set (i := 11) sc_Promise_init.nd rfl (by first | exact Or.inl rfl | exact Or.inr rfl) (pe_call (ok_first_wrong T) (hr.mono (by decide)) rfl T.g_first_wrong T.d_first_wrong.kp T.b_first_wrong .nil pass0 (pa_cons (pv 10) pa_nil)))))) pss_nil)
      (pss_cons (ps_if (pt_cmpR op_notN (pv 11) pe_non (nomark _)) (pss_one ps_never) pss_nil)
      (pss_cons (ps_fld (pv 0) (pv 1) rfl)
      (pss_cons (ps_fld (pv 0) (pv 2) rfl)
      (pss_cons (ps_fld (pv 0) (pv 3) rfl)
      (pss_cons (ps_fld (pv 0) (pv 4) rfl)
      (pss_cons (ps_fld (pv 0) (pv 5) rfl)
      (pss_cons (ps_fld (pv 0) (pv 6) rfl)
      (pss_cons (ps_fld (pv 0) (pv 7) rfl)
      (pss_cons (ps_fld (pv 0) (pv 8) rfl)
      (pss_one (ps_fld (pv 0) (pv 9) rfl))))))))))))))))), ?_⟩
    refine ⟨_, rfl, _, _, rfl, ok.n, ⟨by show 2 ≤ sizeLine; decide, fun t1 n1 => ?_⟩⟩
    generalize hh : upd H t1 _ = H1; obtain ⟨s1, h1⟩ := gen_new hh n1; clear hh
    refine ⟨_, rfl, _, _, rfl, ok.m, ⟨by show 2 ≤ sizeLine; decide, fun t2 n2 => ?_⟩⟩
    generalize hh : upd H1 t2 _ = H2; obtain ⟨s2, h2⟩ := gen_new hh n2; clear hh
    refine ⟨_, rfl, _, rfl, ok.s, fun H3 s3 => ⟨by show 2 ≤ sizeLine; decide, fun t3 n3 => ?_⟩⟩
    generalize hh : upd H3 t3 _ = H4; obtain ⟨s4, h3⟩ := gen_new hh n3; clear hh
    refine ⟨by show 3 ≤ sizeLine; decide, fun l nl => ?_⟩
    generalize hh : upd H4 l _ = H5; obtain ⟨s5, hl⟩ := gen_new hh nl; clear hh
    have h1 := s5 _ _ (s4 _ _ (s3 _ _ (s2 _ _ h1)))
    have h2 := s5 _ _ (s4 _ _ (s3 _ _ h2))
    have h3 := s5 _ _ h3
    have s05 : Same H H5 := s1.trans (s2.trans (s3.trans (s4.trans s5)))
    have nl0 : H l = none := (s1.trans (s2.trans (s3.trans s4))).free nl
    clear s1 s2 s3 s4 s5 nl
    -- rows.append(("buyer", ..))
    refine ⟨_, rfl, .inl ⟨rfl, _, .of hl⟩, _, rfl, _, rfl, ok.b, fun H6 s6 => ⟨true, rfl, iteT ⟨_, rfl, _, rfl, rfl, ?_⟩⟩⟩
    refine ⟨by show 2 ≤ sizeLine; decide, fun t4 n4 => ?_⟩
    generalize hh : upd H6 t4 _ = H7; obtain ⟨s7, h4⟩ := gen_new hh n4; clear hh
    have s67 := s6.trans s7
    refine ⟨_, _, _, rfl, rfl, s67 _ _ hl, by show 3 < sizeLine; decide, ?_⟩
    have hl7 := s67 _ _ hl
    have h1 := s67 _ _ h1
    have h2 := s67 _ _ h2
    have h3 := s67 _ _ h3
    have h4 : H7 t4 = some (HO.tup [.str "buyer", .bl true]) := h4.trans (congrArg (fun z => some (HO.tup [V.str "buyer", V.bl z])) (show (!decide (V.str r.buyer = V.str r.seller)) = true by rw [decide_eq_false (vne ok.ne)]; rfl))
    have s07 := s05.trans s67
    clear s05 s6 s7 s67 hl
    generalize e8 : upd H7 l _ = H8
    obtain ⟨hl8, s8⟩ := gen_upd e8
    clear e8
    have tt : ∀ {x z}, H7 x = some (.tup z) → H8 x = some (.tup z) := fun e => s8 _ _ (ne_of e hl7 (by intro q; cases q)) e
    have h1 := tt h1
    have h2 := tt h2
    have h3 := tt h3
    have h4 := tt h4
    have s08 : Same H H8 := fun c o e => s8 _ _ (ne_of_none e nl0) (s07 _ _ e)
    clear tt s07 s8 hl7
    -- rows.append(("thing", ..))
    refine ⟨_, rfl, .inl ⟨rfl, _, .of hl8⟩, _, rfl, t, r.th, rfl, ht.same s08, ok.th, fun H9 s9 => ⟨by show 2 ≤ sizeLine; decide, fun t5 n5 => ?_⟩⟩
    generalize hh : upd H9 t5 _ = H10; obtain ⟨s10, h5⟩ := gen_new hh n5; clear hh
    have s910 := s9.trans s10
    refine ⟨_, _, _, rfl, rfl, s910 _ _ hl8, by show 4 < sizeLine; decide, ?_⟩
    have hl10 := s910 _ _ hl8
    have h1 := s910 _ _ h1
    have h2 := s910 _ _ h2
    have h3 := s910 _ _ h3
    have h4 := s910 _ _ h4
    have s010 := s08.trans s910
    clear s08 s9 s10 s910 hl8
    generalize e8 : upd H10 l _ = H11
    obtain ⟨hl11, s11⟩ := gen_upd e8
    clear e8
    have tt : ∀ {x z}, H10 x = some (.tup z) → H11 x = some (.tup z) := fun e => s11 _ _ (ne_of e hl10 (by intro q; cases q)) e
    have h1 := tt h1
    have h2 := tt h2
    have h3 := tt h3
    have h4 := tt h4
    have h5 := tt h5
    have s011 : Same H H11 := fun c o e => s11 _ _ (ne_of_none e nl0) (s010 _ _ e)
    clear tt s010 s11 hl10
    -- rows.append(("price", ..))
    refine ⟨_, rfl, .inl ⟨rfl, _, .of hl11⟩, _, rfl, _, _, _, rfl, ok.p1, ok.p2, ⟨by show 2 ≤ sizeLine; decide, fun t6 n6 => ?_⟩⟩
    generalize hh : upd H11 t6 _ = H12; obtain ⟨s12, h6⟩ := gen_new hh n6; clear hh
    refine ⟨_, _, _, rfl, rfl, s12 _ _ hl11, by show 5 < sizeLine; decide, ?_⟩
    have hl12 := s12 _ _ hl11
    have h1 := s12 _ _ h1
    have h2 := s12 _ _ h2
    have h3 := s12 _ _ h3
    have h4 := s12 _ _ h4
    have h5 := s12 _ _ h5
    have s012 := s011.trans s12
    clear s011 s12 hl11
    generalize e8 : upd H12 l _ = H13
    obtain ⟨hl13, s13⟩ := gen_upd e8
    clear e8
    have tt : ∀ {x z}, H12 x = some (.tup z) → H13 x = some (.tup z) := fun e => s13 _ _ (ne_of e hl12 (by intro q; cases q)) e
    have h1 := tt h1
    have h2 := tt h2
    have h3 := tt h3
    have h4 := tt h4
    have h5 := tt h5
    have h6 := tt h6
    have s013 : Same H H13 := fun c o e => s13 _ _ (ne_of_none e nl0) (s012 _ _ e)
    clear tt s012 s13 hl12
    refine ⟨_, rfl, l, [t1, t2, t3, t4, t5, t6], rfl, hl13, fun x hx => ?_, ?_⟩
    · simp only [List.mem_cons, List.not_mem_nil, or_false] at hx
      rcases hx with rfl | rfl | rfl | rfl | rfl | rfl
      · exact ⟨_, h1⟩
      · exact ⟨_, h2⟩
      · exact ⟨_, h3⟩
      · exact ⟨_, h4⟩
      · exact ⟨_, h5⟩
      · exact ⟨_, h6⟩
    clear h1 h2 h3 h4 h5 h6 hl13
    refine ⟨_, rfl, rfl, _, rfl, iteT ?_⟩
    have ht13 := ht.same s013
    refine ⟨_, rfl, _, rfl, t, r.th, rfl, ht13, ⟨by show 2 ≤ sizeLine; decide, fun t1 n1 => ?_⟩⟩
    generalize hh : upd H13 t1 _ = H14; obtain ⟨s14, h1⟩ := gen_new hh n1; clear hh
    refine ⟨_, rfl, _, rfl, t, r.th, r.stay, rfl, ht13.same s14, ok.st, ⟨by show 2 ≤ sizeLine; decide, fun t2 n2 => ?_⟩⟩
    generalize hh : upd H14 t2 _ = H15; obtain ⟨s15, h2⟩ := gen_new hh n2; clear hh
    refine ⟨by show 2 ≤ sizeLine; decide, fun l2 nl => ?_⟩
    generalize hh : upd H15 l2 _ = H16; obtain ⟨s16, hl⟩ := gen_new hh nl; clear hh
    have h1 := s16 _ _ (s15 _ _ h1)
    have h2 := s16 _ _ h2
    have s016 := s013.trans (s14.trans (s15.trans s16))
    have nl2 : H l2 = none := (s013.trans (s14.trans s15)).free nl
    clear s013 s14 s15 s16 nl
    refine ⟨_, rfl, .inl ⟨rfl, _, .of hl⟩, _, rfl, _, _, _, rfl, ok.e1, ok.e2, ⟨by show 2 ≤ sizeLine; decide, fun t3 n3 => ?_⟩⟩
    generalize hh : upd H16 t3 _ = H17; obtain ⟨s17, h3⟩ := gen_new hh n3; clear hh
    refine ⟨_, _, _, rfl, rfl, s17 _ _ hl, by show 2 < sizeLine; decide, ?_⟩
    have hl17 := s17 _ _ hl
    have h1 := s17 _ _ h1
    have h2 := s17 _ _ h2
    have s017 := s016.trans s17
    clear s016 s17 hl
    generalize e8 : upd H17 l2 _ = H18
    obtain ⟨hl18, s18⟩ := gen_upd e8
    clear e8
    have tt : ∀ {x z}, H17 x = some (.tup z) → H18 x = some (.tup z) := fun e => s18 _ _ (ne_of e hl17 (by intro q; cases q)) e
    have h1 := tt h1
    have h2 := tt h2
    have h3 := tt h3
    have s018 : Same H H18 := fun c o e => s18 _ _ (ne_of_none e nl2) (s017 _ _ e)
    clear tt s017 s18 hl17
    refine ⟨_, rfl, l2, [t1, t2, t3], rfl, hl18, fun x hx => ?_, ?_⟩
    · simp only [List.mem_cons, List.not_mem_nil, or_false] at hx
      rcases hx with rfl | rfl | rfl
      · exact ⟨_, h1⟩
      · exact ⟨_, h2⟩
      · exact ⟨_, h3⟩
    refine ⟨_, rfl, rfl, _, rfl, iteF ?_⟩
    refine ⟨_, rfl, _, rfl, _, _, _, _, rfl, s018 _ _ hp, T.c_Promise, T.n_Promise_number, (by show 0 < 1000; decide), _, rfl, _, rfl, _, _, _, _, rfl, upd_same, T.c_Promise, T.n_Promise_moment, (by show 1 < 1000; decide), _, rfl, _, rfl, _, _, _, _, rfl, upd_same, T.c_Promise, T.n_Promise_seller, (by show 2 < 1000; decide), _, rfl, _, rfl, _, _, _, _, rfl, upd_same, T.c_Promise, T.n_Promise_buyer, (by show 3 < 1000; decide), _, rfl, _, rfl, _, _, _, _, rfl, upd_same, T.c_Promise, T.n_Promise_thing, (by show 4 < 1000; decide), _, rfl, _, rfl, _, _, _, _, rfl, upd_same, T.c_Promise, T.n_Promise_price, (by show 5 < 1000; decide), _, rfl, _, rfl, _, _, _, _, rfl, upd_same, T.c_Promise, T.n_Promise_rule, (by show 6 < 1000; decide), _, rfl, _, rfl, _, _, _, _, rfl, upd_same, T.c_Promise, T.n_Promise_offsets, (by show 7 < 1000; decide), _, rfl, _, rfl, _, _, _, _, rfl, upd_same, T.c_Promise, T.n_Promise_earnest, (by show 8 < 1000; decide), ?_⟩
    have fr : ∀ (G : Hp) (o1 o2 o3 o4 o5 o6 o7 o8 o9 : HO), Same H G → ∀ c o, c ≠ p → H c = some o → upd (upd (upd (upd (upd (upd (upd (upd (upd G p o1) p o2) p o3) p o4) p o5) p o6) p o7) p o8) p o9 c = some o := fun G o1 o2 o3 o4 o5 o6 o7 o8 o9 z c o hc e => by
      rw [upd_ne hc, upd_ne hc, upd_ne hc, upd_ne hc, upd_ne hc, upd_ne hc, upd_ne hc, upd_ne hc, upd_ne hc]
      exact z _ _ e
    refine k _ ⟨dx, t, ?_, ht.frame hp (fr _ _ _ _ _ _ _ _ _ _ s018)⟩ (fr _ _ _ _ _ _ _ _ _ _ s018)
    rw [upd_same, put_Promise]
def sp_Spoiling_init (K : PySem.W.Frag) : Sp := fun vs H Q _ => ∃ (p dx : Addr) (n m : Int) (b : Str), vs = [.ref p, .int n, .int m, .str b] ∧ H p = some (.ins (A_Spoiling K) dx []) ∧ 1 ≤ n ∧ 0 ≤ m ∧ IsNm b ∧
  ∀ H', SpAt K H' p n m b → (∀ c o, c ≠ p → H c = some o → H' c = some o) → Q .non H'
theorem ok_Spoiling_init (T : Tx K mg) : FnOk P w K mg base CX0 3 (He.ma K (He.ga K "Spoiling") "__init__") (fdOf K dd_Spoiling_init) ["self", "number", "moment", "bed"] (sp_Spoiling_init K) := by
  refine okF T.d_Spoiling_init sc_Spoiling_init (fun vs H Q E h => ?_) (fun cdv A outer s H vs Q E hr h => ?_)
  · obtain ⟨_, _, _, _, _, rfl, _⟩ := h; rfl
  · obtain ⟨p, dx, n, m, b, rfl, hp, hn, hm, hb, k⟩ := h
    refine ⟨_, (pss_cons (ps_set (i := 4) sc_Spoiling_init.nd rfl (by first | exact Or.inl rfl | exact Or.inr rfl) (pe_call (ok_first_wrong T) (hr.mono (by decide)) rfl T.g_first_wrong T.d_first_wrong.kp T.b_first_wrong .nil pass0 (pa_cons (pe_lst (pa_cons (pe_tup (pa_cons pe_str (pa_cons (pe_call (ok_is_from T) (hr.mono (by decide)) rfl T.g_is_from T.d_is_from.kp T.b_is_from .nil pass0 (pa_cons (pv 1) (pa_cons pe_int pa_nil))) pa_nil))) (pa_cons (pe_tup (pa_cons pe_str (pa_cons (pe_call (ok_is_from T) (hr.mono (by decide)) rfl T.g_is_from T.d_is_from.kp T.b_is_from .nil pass0 (pa_cons (pv 2) (pa_cons pe_int pa_nil))) pa_nil))) (pa_cons (pe_tup (pa_cons pe_str (pa_cons (pe_call (ok_is_name T) (hr.mono (by decide)) rfl T.g_is_name T.d_is_name.kp T.b_is_name .nil pass0 (pa_cons (pv 3) pa_nil)) pa_nil))) pa_nil)))) pa_nil)))
      (pss_cons (ps_if (pt_cmpR op_notN (pv 4) pe_non (nomark _)) (pss_one ps_never) pss_nil)
      (pss_cons (ps_fld (pv 0) (pv 1) rfl)
      (pss_cons (ps_fld (pv 0) (pv 2) rfl)
      (pss_one (ps_fld (pv 0) (pv 3) rfl)))))), ?_⟩
    refine ⟨_, rfl, _, _, rfl, hn, ⟨by show 2 ≤ sizeLine; decide, fun t1 n1 => ?_⟩⟩
    generalize hh : upd H t1 _ = H1; obtain ⟨s1, h1⟩ := gen_new hh n1; clear hh
    refine ⟨_, rfl, _, _, rfl, hm, ⟨by show 2 ≤ sizeLine; decide, fun t2 n2 => ?_⟩⟩
    generalize hh : upd H1 t2 _ = H2; obtain ⟨s2, h2⟩ := gen_new hh n2; clear hh
    refine ⟨_, rfl, _, rfl, hb, fun H3 s3 => ⟨by show 2 ≤ sizeLine; decide, fun t3 n3 => ?_⟩⟩
    generalize hh : upd H3 t3 _ = H4; obtain ⟨s4, h3⟩ := gen_new hh n3; clear hh
    refine ⟨by show 3 ≤ sizeLine; decide, fun l nl => ?_⟩
    generalize hh : upd H4 l _ = H5; obtain ⟨s5, hl⟩ := gen_new hh nl; clear hh
    have h1 := s5 _ _ (s4 _ _ (s3 _ _ (s2 _ _ h1)))
    have h2 := s5 _ _ (s4 _ _ (s3 _ _ h2))
    have h3 := s5 _ _ h3
    have s05 : Same H H5 := s1.trans (s2.trans (s3.trans (s4.trans s5)))
    refine ⟨l, [t1, t2, t3], rfl, hl, fun x hx => ?_, ?_⟩
    · simp only [List.mem_cons, List.not_mem_nil, or_false] at hx
      rcases hx with rfl | rfl | rfl
      · exact ⟨_, h1⟩
      · exact ⟨_, h2⟩
      · exact ⟨_, h3⟩
    refine ⟨_, rfl, rfl, _, rfl, iteF ?_⟩
    refine ⟨_, rfl, _, rfl, _, _, _, _, rfl, s05 _ _ hp, T.c_Spoiling, T.n_Spoiling_number, (by show 0 < 1000; decide), _, rfl, _, rfl, _, _, _, _, rfl, upd_same, T.c_Spoiling, T.n_Spoiling_moment, (by show 1 < 1000; decide), _, rfl, _, rfl, _, _, _, _, rfl, upd_same, T.c_Spoiling, T.n_Spoiling_bed, (by show 2 < 1000; decide), ?_⟩
    refine k _ ⟨dx, ?_⟩ fun c o hc e => ?_
    · rw [upd_same, ← put_Spoiling]
    · rw [upd_ne hc, upd_ne hc, upd_ne hc]
      exact s05 _ _ e
def sp_is_line (K : PySem.W.Frag) : Sp := fun vs H Q _ => ∃ (p : Addr) (l : Ln), vs = [.ref p] ∧ LnAt K H p l ∧ Q (.bl true) H
theorem ok_is_line (T : Tx K mg) : FnOk P w K mg base CX0 1 (He.ga K "is_line") (fdOf K dd_is_line) ["thing"] (sp_is_line K) := by
  refine okF T.d_is_line sc_is_line (fun vs H Q E h => ?_) (fun cdv A outer s H vs Q E hr h => ?_)
  · obtain ⟨_, _, rfl, _⟩ := h; rfl
  · obtain ⟨p, l, rfl, hl, k⟩ := h
    refine ⟨_, (pss_one (ps_ret (pe_or (pe_callB (id := "isinstance") (isiK K rfl) (by rfl) T.f_isinstance (by decide +kernel) (pa_cons (pv 0) (pa_cons (pe_glob (v := .ref (He.ga K "Promise")) rfl T.g_Promise rfl) pa_nil))) (pe_one (pe_callB (id := "isinstance") (isiK K rfl) (by rfl) T.f_isinstance (by decide +kernel) (pa_cons (pv 0) (pa_cons (pe_glob (v := .ref (He.ga K "Spoiling")) rfl T.g_Spoiling rfl) pa_nil))))))), ?_⟩
    cases l with
    | pr r =>
      obtain ⟨dx, t, h1, _⟩ := hl
      exact ⟨_, rfl, _, _, _, _, true, rfl, .own _, .base (T.ty_Promise h1), T.kit_Promise, true, rfl, iteT k⟩
    | sp n m b =>
      obtain ⟨dx, h1⟩ := hl
      exact ⟨_, rfl, _, _, _, _, false, rfl, .own _, .base (T.ty_Spoiling h1), T.ex1.2.2.2.1, false, rfl, iteF ⟨_, rfl, _, _, _, _, true, rfl, .own _, .base (T.ty_Spoiling h1), T.kit_Spoiling, k⟩⟩
def sp_when (K : PySem.W.Frag) : Sp := fun vs H Q _ => ∃ (p : Addr) (l : Ln), vs = [.ref p] ∧ LnAt K H p l ∧ ∀ t, H t = none → Q (.ref t) (upd H t (.tup [.int l.mom, .int l.num]))
theorem ok_when (T : Tx K mg) : FnOk P w K mg base CX0 1 (He.ga K "when") (fdOf K dd_when) ["line"] (sp_when K) := by
  refine okF T.d_when sc_when (fun vs H Q E h => ?_) (fun cdv A outer s H vs Q E hr h => ?_)
  · obtain ⟨_, _, rfl, _⟩ := h; rfl
  · obtain ⟨p, l, rfl, hl, k⟩ := h
    refine ⟨_, (pss_one (ps_ret (pe_tup (pa_cons (pe_fldK K rfl (pv 0) rfl) (pa_cons (pe_fldK K rfl (pv 0) rfl) pa_nil))))), ?_⟩
    cases l with
    | pr r =>
      obtain ⟨dx, t, h1, _⟩ := hl
      exact ⟨_, rfl, _, _, _, _, _, rfl, h1, T.c_Promise, T.n_Promise_moment, l_Promise_moment, _, rfl, _, _, _, _, _, rfl, h1, T.c_Promise, T.n_Promise_number, l_Promise_number, by show 2 ≤ sizeLine; decide, k⟩
    | sp n m b =>
      obtain ⟨dx, h1⟩ := hl
      exact ⟨_, rfl, _, _, _, _, _, rfl, h1, T.c_Spoiling, T.n_Spoiling_moment, l_Spoiling_moment, _, rfl, _, _, _, _, _, rfl, h1, T.c_Spoiling, T.n_Spoiling_number, l_Spoiling_number, by show 2 ≤ sizeLine; decide, k⟩
end
end Rp


set_option maxRecDepth 100000
set_option maxHeartbeats 4000000
namespace Rp
open PySem PySem.Spec PyProof.Rows L2
/-! ### what may change is told by its addresses; all else stays -/
def hid (M : List Addr) (H : Hp) : Hp := fun a => if a ∈ M then none else H a
theorem hid_of {M : List Addr} {H : Hp} {a : Addr} {o : HO} (h : H a = some o) (n : a ∉ M) : hid M H a = some o := by unfold hid; rw [if_neg n]; exact h
theorem of_hid {M : List Addr} {H : Hp} {a : Addr} {o : HO} (h : hid M H a = some o) : a ∉ M ∧ H a = some o := by
  unfold hid at h
  split at h
  · cases h
  · exact ⟨by assumption, h⟩
theorem hid_same {M : List Addr} {H : Hp} : Same (hid M H) H := fun a o h => (of_hid h).2
theorem hid_none {M : List Addr} {H : Hp} {a : Addr} (h : H a = none) : hid M H a = none := by
  unfold hid
  split
  · rfl
  · exact h
/-- a step: what isn't told by M stays; what is told behind it was told ahead, or is new -/
structure Stp (M : List Addr) (H : Hp) (M' : List Addr) (H' : Hp) : Prop where
  same : Same (hid M H) H'
  new : ∀ m ∈ M', m ∈ M ∨ H m = none
theorem Stp.sub {M M' : List Addr} {H H' : Hp} (s : Stp M H M' H') : Same (hid M H) (hid M' H') := fun a o h => by
  obtain ⟨n, e⟩ := of_hid h
  refine hid_of (s.same _ _ h) fun m => ?_
  rcases s.new a m with z | z
  · exact n z
  · rw [e] at z; cases z
theorem Stp.refl {M : List Addr} {H : Hp} : Stp M H M H := ⟨hid_same, fun m h => .inl h⟩
theorem Stp.trans {M M1 M2 : List Addr} {H H1 H2 : Hp} (a : Stp M H M1 H1) (b : Stp M1 H1 M2 H2) : Stp M H M2 H2 := ⟨fun c o h => b.same _ _ (a.sub _ _ h), fun m hm => by
  rcases b.new m hm with z | z
  · exact a.new m z
  · by_cases hM : m ∈ M
    · exact .inl hM
    · cases e : H m with
      | none => exact .inr rfl
      | some o =>
        have := a.same m o (hid_of e hM)
        rw [z] at this; cases this⟩
/-- new objects alone -/
theorem Stp.grow {M : List Addr} {H H' : Hp} (s : Same H H') : Stp M H M H' := ⟨fun c o h => s _ _ (hid_same _ _ h), fun m h => .inl h⟩
theorem Stp.mut {M : List Addr} {H : Hp} {m : Addr} {o : HO} (h : m ∈ M) : Stp M H M (upd H m o) := ⟨fun c u e => by
  obtain ⟨n, e⟩ := of_hid e
  rw [upd_ne (fun z : c = m => n (by rw [z]; exact h))]
  exact e, fun m h => .inl h⟩
theorem Stp.of_same {B H : Hp} {M M' : List Addr} {H' : Hp} (s : Stp M H M' H') (b : Same B H) (n : ∀ m ∈ M, B m = none) : Same B H' ∧ ∀ m ∈ M', B m = none := by
  refine ⟨fun c o e => s.same _ _ (hid_of (b _ _ e) fun m => by rw [n c m] at e; cases e), fun m hm => ?_⟩
  rcases s.new m hm with z | z
  · exact n m z
  · exact b.free z
theorem same_hid {B H : Hp} {M : List Addr} (b : Same B H) (n : ∀ m ∈ M, B m = none) : Same B (hid M H) := fun c o e => hid_of (b _ _ e) fun m => by rw [n c m] at e; cases e
/-! ### the keys of what is held -/
def keyOf : Ky → List Key
  | .root b k => [.inr "root", .inr b, .inl (k : Int)]
  | .offs b k => [.inr "offsets", .inr b, .inl (k : Int)]
  | .share b => [.inr "share", .inr b]
theorem keyOf_inj {a b : Ky} (h : keyOf a = keyOf b) : a = b := by
  cases a <;> cases b <;> simp only [keyOf, List.cons.injEq, Sum.inr.injEq, Sum.inl.injEq, and_true, reduceCtorEq, and_false, false_and] at h
  · obtain ⟨_, rfl, h⟩ := h
    rw [Int.ofNat.inj h]
  · exact absurd h.1 kne1
  · exact absurd h.1 kne3
  · obtain ⟨_, rfl, h⟩ := h
    rw [Int.ofNat.inj h]
  · rw [h.2]
def KyAt (H : Hp) (t : Addr) (y : Ky) : Prop := H t = some (.tup ((keyOf y).map kV))
theorem KyAt.same {H H' : Hp} {t : Addr} {y : Ky} (h : KyAt H t y) (s : Same H H') : KyAt H' t y := s _ _ h
abbrev fsSt (f h pp sp g v gn : Addr) : List (Str × V) := fs_Standing (.ref f) (.ref h) (.ref pp) (.ref sp) (.ref g) (.ref v) (.ref gn)
section
variable {P : Program} {w : World} {K : PySem.W.Frag} {mg : Str → Option Value} {base : Heap}
/-- a bed is its owner's again: the dict at h, and the one at pp, where the bed is sold by shares -/
def sp_Standing_back (K : PySem.W.Frag) : Sp := fun vs H Q _ => ∃ (p dx f h pp sp g v gn b : Addr) (bd : Bd) (kvs : List (List Key × V)) (pvs : List (Key × V)), vs = [.ref p, .ref b] ∧ H p = some (.ins (A_Standing K) dx (fsSt f h pp sp g v gn)) ∧
  H h = some (.dT kvs) ∧ H pp = some (.dK pvs) ∧ kvs.length ≤ 1000000 ∧ pvs.length ≤ 1000000 ∧ BedAt K H b bd ∧ bd.roots ≤ 12 ∧
  ∀ H' kvs', H' h = some (.dT kvs') → kvs'.length ≤ kvs.length + 24 → (∀ y, valV kvs' (keyOf y) = if inBed bd y = true then some (.str bd.owner) else valV kvs (keyOf y)) →
    (bd.shares = true → ∃ a q, H a = none ∧ H' pp = some (.dK (putK pvs (.inr bd.name) (.ref a))) ∧ H' a = some (.dK [(.inr bd.owner, .ref q)]) ∧ H q = none ∧ PtAt K H' q 27720) → (bd.shares = false → H' pp = some (.dK pvs)) →
    (∀ c o, c ≠ h → c ≠ pp → H c = some o → H' c = some o) → Q .non H'
/-- the part of a bed's roots up to the i-th -/
def upTo (bd : Bd) (i : Nat) : Ky → Bool
  | .root n k => decide (n = bd.name) && decide (1 ≤ k) && decide (k ≤ i)
  | .offs n k => decide (n = bd.name) && decide (1 ≤ k) && decide (k ≤ i)
  | .share _ => false
theorem upTo_all (bd : Bd) (y : Ky) : upTo bd bd.roots y = inBed bd y := by cases y <;> rfl
theorem upTo_zero (bd : Bd) (y : Ky) : upTo bd 0 y = false := by cases y <;> simp [upTo] <;> omega
theorem upTo_succ (bd : Bd) (i : Nat) (y : Ky) : upTo bd (i + 1) y = (decide (y = .root bd.name (i + 1)) || decide (y = .offs bd.name (i + 1)) || upTo bd i y) := by
  cases y with
  | root n k =>
    rw [Bool.eq_iff_iff]
    simp only [upTo, Bool.and_eq_true, Bool.or_eq_true, decide_eq_true_eq, Ky.root.injEq, reduceCtorEq, false_or, or_false]
    constructor
    · rintro ⟨⟨h1, h2⟩, h3⟩
      by_cases e : k = i + 1
      · exact .inl ⟨h1, e⟩
      · exact .inr ⟨⟨h1, h2⟩, by omega⟩
    · rintro (⟨h1, h2⟩ | ⟨⟨h1, h2⟩, h3⟩)
      · exact ⟨⟨h1, by omega⟩, by omega⟩
      · exact ⟨⟨h1, h2⟩, by omega⟩
  | offs n k =>
    rw [Bool.eq_iff_iff]
    simp only [upTo, Bool.and_eq_true, Bool.or_eq_true, decide_eq_true_eq, Ky.offs.injEq, reduceCtorEq, false_or, or_false]
    constructor
    · rintro ⟨⟨h1, h2⟩, h3⟩
      by_cases e : k = i + 1
      · exact .inl ⟨h1, e⟩
      · exact .inr ⟨⟨h1, h2⟩, by omega⟩
    · rintro (⟨h1, h2⟩ | ⟨⟨h1, h2⟩, h3⟩)
      · exact ⟨⟨h1, by omega⟩, by omega⟩
      · exact ⟨⟨h1, h2⟩, by omega⟩
  | share n => simp [upTo]
theorem ok_Standing_back (T : Tx K mg) : FnOk P w K mg base CX0 4 (He.ma K (He.ga K "Standing") "back") (fdOf K dd_Standing_back) ["self", "bed"] (sp_Standing_back K) := by
  refine okF T.d_Standing_back sc_Standing_back (fun vs H Q E h => ?_) (fun cdv A outer s H vs Q E hr h => ?_)
  · obtain ⟨_, _, _, _, _, _, _, _, _, _, _, _, _, rfl, _⟩ := h; rfl
  · obtain ⟨p, dx, f, hh, pp, sp, g, v, gn, b, bd, kvs, pvs, rfl, hp, hhh, hpp, l1, l2, hb, r12, k⟩ := h
    have hu := hu_of hr
    refine ⟨_, (pss_cons (ps_if (pt_cmpR op_eq (pe_fldK K rfl (pv 1) rfl) pe_str (nomark _)) (pss_one (ps_dput hu (pe_fldK K rfl (pv 0) rfl) (pe_fldK K rfl (pv 1) rfl) (pe_disp (pps_cons (pe_fldK K rfl (pv 1) rfl) (pe_make T.mk_Part (ok_Part_init T) (hr.mono (by decide)) rfl T.g_Part (bP1 T) (rP1 T) pass0 (pa_cons pe_int pa_nil)) pps_nil) (by rfl) (by rfl) (fun z => by cases z) (by decide)) rfl)) pss_nil)
      (pss_one (ps_for PassesOwn.never rfl (pi_range2 (by rfl) T.f_range (pa_cons pe_int (pa_cons (pe_op op_add (pe_fldK K rfl (pv 1) rfl) pe_int) pa_nil))) (pg_name (i := 2) sc_Standing_back.nd rfl (by first | exact Or.inl rfl | exact Or.inr rfl)) (pss_cons (ps_dput hu (pe_fldK K rfl (pv 0) rfl) (pe_tup (pa_cons pe_str (pa_cons (pe_fldK K rfl (pv 1) rfl) (pa_cons (pv 2) pa_nil)))) (pe_fldK K rfl (pv 1) rfl) rfl)
      (pss_one (ps_dput hu (pe_fldK K rfl (pv 0) rfl) (pe_tup (pa_cons pe_str (pa_cons (pe_fldK K rfl (pv 1) rfl) (pa_cons (pv 2) pa_nil)))) (pe_fldK K rfl (pv 1) rfl) rfl)))))), ?_⟩
    obtain ⟨dxb, hb⟩ := hb
    have sl : (1000000 : Nat) + 24 < sizeLine := by rw [sizeLine_eq]; decide
    -- the loop, from any heap that is as wanted
    have loop : ∀ H1, (∀ c o, c ≠ pp → H c = some o → H1 c = some o) → (bd.shares = true → ∃ a q, H a = none ∧ H1 pp = some (.dK (putK pvs (.inr bd.name) (.ref a))) ∧ H1 a = some (.dK [(.inr bd.owner, .ref q)]) ∧ H q = none ∧ PtAt K H1 q 27720) → (bd.shares = false → H1 pp = some (.dK pvs)) →
        tFor (iRng2 (tCons (tC (.int 1)) (tCons (tOp (rI0 fun i j => .int (i + j)) (tFld K (tVar 1) "roots") (tC (.int 1))) tNil))) (gName 2)
          (tSeq (sDPut (tFld K (tVar 0) "held") (tTup (tCons (tC (.str "root")) (tCons (tFld K (tVar 1) "name") (tCons (tVar 2) tNil)))) (tFld K (tVar 1) "owner"))
            (sDPut (tFld K (tVar 0) "held") (tTup (tCons (tC (.str "offsets")) (tCons (tFld K (tVar 1) "name") (tCons (tVar 2) tNil)))) (tFld K (tVar 1) "owner")))
          { nx := fun x H' => Q V.non H', rt := Q } [some (.ref p), some (.ref b), none] H1 := by
      intro H1 s1 w1 w2
      have npp : ∀ {c o}, H c = some o → (∀ z, o ≠ .dK z) → H1 c = some o := fun {c o} e n => s1 _ _ (ne_of e hpp (n _)) e
      have hb1 := npp hb (by intro z q; cases q)
      have hp1 := npp hp (by intro z q; cases q)
      have hh1 := npp hhh (by intro z q; cases q)
      refine ⟨_, rfl, _, _, _, _, _, rfl, hb1, T.c_Bed, T.n_Bed_roots, l_Bed_roots, _, _, rfl, rfl, 1, _, rfl, ⟨by decide, by decide, by omega, by omega⟩, ?_⟩
      refine for_it walk_range (fun i σ H' => ∃ kvs' x, σ = [some (.ref p), some (.ref b), x] ∧ H' hh = some (.dT kvs') ∧ kvs'.length ≤ kvs.length + 2 * i ∧ (∀ y, valV kvs' (keyOf y) = if upTo bd i y = true then some (.str bd.owner) else valV kvs (keyOf y)) ∧ (∀ c o, c ≠ hh → H1 c = some o → H' c = some o))
        ⟨kvs, none, rfl, hh1, by omega, fun y => by rw [upTo_zero]; rfl, fun c o _ e => e⟩ (fun _ _ _ _ _ => trivial) ?_ ?_
      · rintro i z σ H2 H3 hi ⟨kvs', x, rfl, h2, len, val, fr⟩ ⟨rfl, rfl⟩
        have hi2 : i < 12 := by omega
        have nh : ∀ {c o}, H1 c = some o → (∀ z, o ≠ .dT z) → H3 c = some o := fun {c o} e n => fr _ _ (ne_of e hh1 (n _)) e
        have hb2 := nh hb1 (by intro z q; cases q)
        have hp2 := nh hp1 (by intro z q; cases q)
        refine ⟨_, rfl, _, _, _, _, _, rfl, hb2, T.c_Bed, T.n_Bed_owner, l_Bed_owner, _, rfl, _, _, _, _, _, rfl, hp2, T.c_Standing, T.n_Standing_held, l_Standing_held, _, rfl, _, _, _, _, _, rfl, hb2, T.c_Bed, T.n_Bed_name, l_Bed_name, _, rfl, by show 3 ≤ sizeLine; decide, fun t nt => ?_⟩
        generalize hh : upd H3 t _ = H4; obtain ⟨s4, ht⟩ := gen_new hh nt; clear hh
        have ki : kV (.inl (((i + 1 : Nat) : Int))) = V.int (1 + (i : Int)) := by show V.int _ = _; congr 1; omega
        have ht1 : H4 t = some (.tup ((keyOf (.root bd.name (i + 1))).map kV)) := ht.trans (by show _ = some (HO.tup [.str "root", .str bd.name, kV (.inl (((i + 1 : Nat) : Int)))]); rw [ki])
        refine ⟨_, _, rfl, DPut.t (s4 _ _ h2) ht1 (by omega), ?_⟩
        generalize e5 : upd H4 hh _ = H5
        obtain ⟨h5, s5⟩ := gen_upd e5
        clear e5
        have hb5 := s5 _ _ (ne_of hb2 h2 (by intro q; cases q)) (s4 _ _ hb2)
        have hp5 := s5 _ _ (ne_of hp2 h2 (by intro q; cases q)) (s4 _ _ hp2)
        refine ⟨_, rfl, _, _, _, _, _, rfl, hb5, T.c_Bed, T.n_Bed_owner, l_Bed_owner, _, rfl, _, _, _, _, _, rfl, hp5, T.c_Standing, T.n_Standing_held, l_Standing_held, _, rfl, _, _, _, _, _, rfl, hb5, T.c_Bed, T.n_Bed_name, l_Bed_name, _, rfl, by show 3 ≤ sizeLine; decide, fun t' nt' => ?_⟩
        generalize hh : upd H5 t' _ = H6; obtain ⟨s6, ht'⟩ := gen_new hh nt'; clear hh
        have ht2 : H6 t' = some (.tup ((keyOf (.offs bd.name (i + 1))).map kV)) := ht'.trans (by show _ = some (HO.tup [.str "offsets", .str bd.name, kV (.inl (((i + 1 : Nat) : Int)))]); rw [ki])
        have ll := length_putK kvs' (keyOf (.root bd.name (i + 1))) (.str bd.owner)
        have ll2 := length_putK (putK kvs' (keyOf (.root bd.name (i + 1))) (.str bd.owner)) (keyOf (.offs bd.name (i + 1))) (.str bd.owner)
        refine ⟨_, _, rfl, DPut.t (s6 _ _ h5) ht2 (by omega), ?_⟩
        refine ⟨_, _, rfl, upd_same, by omega, fun y => ?_, fun c o hc e => ?_⟩
        · rw [valV_put, valV_put, val y, upTo_succ]
          by_cases y2 : y = .offs bd.name (i + 1)
          · simp [y2]
          · by_cases y1 : y = .root bd.name (i + 1)
            · simp [y1]
            · have n1 : ¬ keyOf y = keyOf (.root bd.name (i + 1)) := fun e => y1 (keyOf_inj e)
              have n2 : ¬ keyOf y = keyOf (.offs bd.name (i + 1)) := fun e => y2 (keyOf_inj e)
              simp [y1, y2, n1, n2]
        · rw [upd_ne hc]
          exact s6 _ _ (s5 _ _ hc (s4 _ _ (fr _ _ hc e)))
      · rintro σ H2 ⟨kvs', x, rfl, h2, len, val, fr⟩
        have en : (((bd.roots : Int) + 1) - 1).toNat = bd.roots := by omega
        rw [en] at len val
        have nhk : ∀ {c z}, H1 c = some (.dK z) → H2 c = some (.dK z) := fun {c z} e => fr _ _ (ne_of e hh1 (by intro q; cases q)) e
        refine k H2 kvs' h2 (by omega) (fun y => by rw [val y, upTo_all]) (fun e => ?_) (fun e => nhk (w2 e)) fun c o h1 h3 e => fr _ _ h1 (s1 _ _ h3 e)
        obtain ⟨a, q, z1, z2, z3, z4, dq, z5⟩ := w1 e
        exact ⟨a, q, z1, nhk z2, nhk z3, z4, dq, fr _ _ (ne_of z5 hh1 (by intro q; cases q)) z5⟩
    cases es : bd.shares with
    | false =>
      refine ⟨_, rfl, _, _, _, _, _, rfl, hb, T.c_Bed, T.n_Bed_kind, l_Bed_kind, rfl, _, rfl, iteDn (by rw [kind_ro es]; exact vne (by decide +kernel)) ?_⟩
      exact loop H (fun c o _ e => e) (fun e => by rw [es] at e; cases e) fun _ => hpp
    | true =>
      refine ⟨_, rfl, _, _, _, _, _, rfl, hb, T.c_Bed, T.n_Bed_kind, l_Bed_kind, rfl, _, rfl, iteD (congrArg V.str (kind_sh es)) ?_⟩
      intro a na
      generalize hh : upd H a _ = H1; obtain ⟨s1, ha⟩ := gen_new hh na; clear hh
      refine ⟨_, rfl, _, _, _, _, _, rfl, (s1 _ _ hb), T.c_Bed, T.n_Bed_owner, l_Bed_owner, ?_⟩
      intro q dq nq nd ne
      refine ⟨q, dq, 1, 1, rfl, upd_same, ?_, ?_, fun H2 e1 e2 => ⟨rfl, ?_⟩⟩
      · omega
      · omega
      obtain ⟨s2, hq⟩ := mk_part (t := 1) (b := 1) nq nd e1 e2 (by omega) part1
      clear e1 e2 ne nd
      refine ⟨s2 _ _ ha, [(.inr bd.owner, .ref q)], rfl, (by show 1 ≤ 15; decide), ?_⟩
      have ha2 := s2 _ _ ha
      have s02 := s1.trans s2
      generalize e3 : upd H2 a _ = H3
      obtain ⟨ha3, s3⟩ := gen_upd e3
      clear e3
      have t3 : ∀ {c o}, H c = some o → H3 c = some o := fun e => s3 _ _ (ne_of_none e na) (s02 _ _ e)
      refine ⟨_, rfl, _, _, _, _, _, rfl, (t3 hp), T.c_Standing, T.n_Standing_parts, l_Standing_parts, _, rfl, _, _, _, _, _, rfl, (t3 hb), T.c_Bed, T.n_Bed_name, l_Bed_name, _, _, rfl, DPut.k (k := .inr bd.name) (t3 hpp) (by omega), ?_⟩
      have nq0 : H q = none := s1.free nq
      obtain ⟨dq, hq2⟩ := hq
      have hq3 := s3 _ _ (ne_of hq2 ha2 (by intro z; cases z)) hq2
      have npa : a ≠ pp := (ne_of_none hpp na).symm
      refine loop _ (fun c o hc e => by rw [upd_ne hc]; exact t3 e) (fun _ => ⟨a, q, na, upd_same, by rw [upd_ne npa]; exact ha3, nq0, dq, ?_⟩) fun e => by rw [es] at e; cases e
      rw [upd_ne (ne_of hq3 (t3 hpp) (by intro z; cases z))]
      exact hq3
end
end Rp


set_option maxRecDepth 100000
set_option maxHeartbeats 4000000
namespace Rp
open PySem PySem.Spec PyProof.Rows L2
theorem hid_upd {M : List Addr} {H : Hp} {m : Addr} {o : HO} (h : m ∈ M) : hid M (upd H m o) = hid M H := by
  funext a
  unfold hid
  split
  · rfl
  · rename_i n
    exact upd_ne (fun z : a = m => n (by rw [z]; exact h))
/-! ### units by names -/
def URel (K : PySem.W.Frag) (I : Hp) : List (Str × Nat) → List (Key × V) → Prop := Paired fun x kv => kv.1 = (Sum.inr x.1 : Key) ∧ ∃ q, kv.2 = V.ref q ∧ PtAt K I q x.2
theorem URel.same {K : PySem.W.Frag} {I I' : Hp} {us : List (Str × Nat)} {kvs : List (Key × V)} (h : URel K I us kvs) (s : Same I I') : URel K I' us kvs :=
  Paired.mapP h fun x kv ⟨e, q, e2, p⟩ => ⟨e, q, e2, p.same s⟩
theorem URel.any {K : PySem.W.Frag} {I : Hp} {us : List (Str × Nat)} {kvs : List (Key × V)} (h : URel K I us kvs) (n : Str) : (us.any fun x => decide (x.1 = n)) = kvs.any fun kv => decide (kv.1 = (Sum.inr n : Key)) := by
  unfold URel at h
  induction h with
  | nil => rfl
  | @cons x kv us kvs r t ih =>
    rw [List.any_cons, List.any_cons, ih, r.1]
    congr 1
    by_cases e : x.1 = n
    · simp [e]
    · have e2 : ¬ (Sum.inr x.1 : Key) = Sum.inr n := fun z => e (Sum.inr.inj z)
      rw [decide_eq_false e, decide_eq_false e2]
theorem URel.get {K : PySem.W.Frag} {I : Hp} {us : List (Str × Nat)} {kvs : List (Key × V)} (h : URel K I us kvs) (n : Str) : (valV kvs (Sum.inr n : Key) = none ∧ getU us n = 0) ∨ ∃ q, valV kvs (Sum.inr n : Key) = some (.ref q) ∧ PtAt K I q (getU us n) := by
  unfold URel at h
  induction h with
  | nil => exact .inl ⟨rfl, rfl⟩
  | @cons x kv us kvs r t ih =>
    obtain ⟨r1, q, r2, r3⟩ := r
    by_cases e : x.1 = n
    · refine .inr ⟨q, ?_, ?_⟩
      · rw [valV_pos (by rw [r1, e]), r2]
      · have : getU (x :: us) n = x.2 := by simp [getU, List.find?_cons, e]
        rw [this]
        exact r3
    · have e2 : ¬ kv.1 = (Sum.inr n : Key) := fun z => e (Sum.inr.inj (r1.symm.trans z))
      have : getU (x :: us) n = getU us n := by simp [getU, List.find?_cons, e]
      rw [valV_neg e2, this]
      exact ih
theorem paired_map {α β : Type} {R : α → β → Prop} {f : α → α} {g : β → β} (k : ∀ a b, R a b → R (f a) (g b)) : ∀ {xs : List α} {ys : List β}, Paired R xs ys → Paired R (xs.map f) (ys.map g)
  | _, _, .nil => .nil
  | _, _, .cons r t => .cons (k _ _ r) (paired_map k t)
theorem paired_snoc {α β : Type} {R : α → β → Prop} {x : α} {y : β} (r : R x y) : ∀ {xs : List α} {ys : List β}, Paired R xs ys → Paired R (xs ++ [x]) (ys ++ [y])
  | _, _, .nil => .cons r .nil
  | _, _, .cons q t => .cons q (paired_snoc r t)
theorem URel.put {K : PySem.W.Frag} {I : Hp} {us : List (Str × Nat)} {kvs : List (Key × V)} (h : URel K I us kvs) {n : Str} {u : Nat} {q : Addr} (hq : PtAt K I q u) : URel K I (putU us n u) (putK kvs (Sum.inr n : Key) (.ref q)) := by
  unfold putU putK
  rw [h.any n]
  by_cases c : (kvs.any fun kv => decide (kv.1 = (Sum.inr n : Key))) = true
  · rw [if_pos c, if_pos c]
    refine paired_map (f := fun x : Str × Nat => if x.1 = n then (n, u) else x) (g := fun kv : Key × V => if kv.1 = (Sum.inr n : Key) then (kv.1, V.ref q) else kv) (fun x kv r => ?_) h
    show (if kv.1 = (Sum.inr n : Key) then (kv.1, V.ref q) else kv).1 = _ ∧ _
    by_cases e : x.1 = n
    · have e2 : kv.1 = (Sum.inr n : Key) := by rw [r.1, e]
      rw [if_pos e, if_pos e2]
      exact ⟨e2, q, rfl, hq⟩
    · have e2 : ¬ kv.1 = (Sum.inr n : Key) := fun z => e (Sum.inr.inj (r.1.symm.trans z))
      rw [if_neg e, if_neg e2]
      exact r
  · rw [if_neg c, if_neg c]
    exact paired_snoc ⟨rfl, q, rfl, hq⟩ h
theorem putU_len (us : List (Str × Nat)) (n : Str) (u : Nat) : (putU us n u).length ≤ us.length + 1 := by
  unfold putU
  split
  · rw [List.length_map]; omega
  · rw [List.length_append]; exact Nat.le_refl _
theorem putU_mem {us : List (Str × Nat)} {n : Str} {u : Nat} {x : Str × Nat} (h : x ∈ putU us n u) : x = (n, u) ∨ x ∈ us := by
  unfold putU at h
  split at h
  · obtain ⟨y, hy, e⟩ := List.mem_map.mp h
    split at e
    · exact .inl e.symm
    · exact .inr (e ▸ hy)
  · rcases List.mem_append.mp h with h | h
    · exact .inr h
    · exact .inl (List.mem_singleton.mp h)
theorem getU_mem {us : List (Str × Nat)} {n : Str} (h : 0 < getU us n) : (n, getU us n) ∈ us := by
  unfold getU at h ⊢
  cases e : us.find? fun x => decide (x.1 = n) with
  | none => rw [e] at h; exact absurd h (Nat.lt_irrefl _)
  | some x =>
    have h1 := List.mem_of_find?_eq_some e
    have h2 : x.1 = n := by simpa using List.find?_some e
    show (n, x.2) ∈ us
    rw [← h2]
    exact h1
theorem getU_le {us : List (Str × Nat)} {n : Str} {B : Nat} (h : ∀ x ∈ us, x.2 ≤ B) : getU us n ≤ B := by
  by_cases z : 0 < getU us n
  · exact h _ (getU_mem z)
  · omega
/-! ### what lines come to, as it stands -/
def optV : Option Int → V
  | none => .non
  | some m => .int m
def VdAt (I : Hp) (t : Addr) (x : Int × Str × Option Int) : Prop := I t = some (.tup [.int x.1, .str x.2.1, optV x.2.2])
def EntAt (K : PySem.W.Frag) (I : Hp) (e : Addr) (x : Pr × List Ky) : Prop := ∃ a la ks, I e = some (.tup [.ref a, .ref la]) ∧ PrAt K I a x.1 ∧ I la = some (.lst (ks.map V.ref)) ∧ L2R (KyAt I) ks x.2 ∧ ∀ y ∈ x.2, IsNm y.bed
theorem EntAt.same {K : PySem.W.Frag} {I I' : Hp} {e : Addr} {x : Pr × List Ky} (h : EntAt K I e x) (s : Same I I') : EntAt K I' e x := by
  obtain ⟨a, la, ks, h1, h2, h3, h4, h5⟩ := h
  exact ⟨a, la, ks, s _ _ h1, h2.same s, s _ _ h3, h4.mono fun _ _ z => s _ _ z, h5⟩
def KyIn (fb : List (Bd × Addr)) (y : Ky) : Prop := ∃ x ∈ fb, inBed x.1 y = true
structure StW where
  fa : List (Bd × Addr)
  dx : Addr
  h : Addr
  pp : Addr
  sp : Addr
  g : Addr
  v : Addr
  gn : Addr
  pl : List (Str × Addr)
  kvs : List (List Key × V)
  pvs : List (Key × V)
  svs : List (Key × V)
  es : List Addr
  vs : List Addr
def UAt (K : PySem.W.Frag) (I H : Hp) (a : Addr) (us : List (Str × Nat)) (n : Nat) : Prop := ∃ kvs, H a = some (.dK kvs) ∧ URel K I us kvs ∧ us.length ≤ 2 * n ∧ ∀ x ∈ us, x.2 ≤ 27720 * n
structure StX (K : PySem.W.Frag) (M : List Addr) (H : Hp) (p f : Addr) (fb : List (Bd × Addr)) (s : SM) (n : Nat) (W : StW) : Prop where
  m : M = [p, W.h, W.pp, W.sp, W.g, W.v, W.gn] ++ W.pl.map (·.2)
  nd : M.Nodup
  ob : H p = some (.ins (A_Standing K) W.dx (fsSt f W.h W.pp W.sp W.g W.v W.gn))
  fld : FieldAt K (hid M H) f W.fa ∧ ∀ z ∈ fb, z ∈ W.fa
  hh : H W.h = some (.dT W.kvs)
  hl : W.kvs.length ≤ 100 * n
  hv : ∀ y, KyIn fb y → valV W.kvs (keyOf y) = some (.str (s.held y))
  hp : H W.pp = some (.dK W.pvs)
  hpl : W.pvs.length ≤ n
  pv : ∀ x ∈ fb, x.1.shares = true → ∃ a, (x.1.name, a) ∈ W.pl ∧ valV W.pvs (Sum.inr x.1.name : Key) = some (.ref a) ∧ UAt K (hid M H) H a (s.units x.1.name) n
  pn : (W.pl.map (·.1)).Nodup
  pd : ∀ x ∈ W.pl, ∃ z, H x.2 = some (.dK z)
  sp : H W.sp = some (.dK W.svs)
  sl : W.svs.length ≤ n
  sv : ∀ b, valV W.svs (Sum.inr b : Key) = (s.spoilt b).map V.int
  sk : ∃ ks : List Str, W.svs.map (·.1) = ks.map Sum.inr
  g : H W.g = some (.lst (W.es.map V.ref))
  gl : W.es.length + s.gone.length ≤ n
  ge : L2R (EntAt K (hid M H)) W.es s.good
  v : H W.v = some (.lst (W.vs.map V.ref))
  vl : W.vs.length ≤ n
  ve : L2R (VdAt (hid M H)) W.vs s.voids
  gn : H W.gn = some (.lst (s.gone.map V.int))
  n1 : 1 ≤ n
def StAt (K : PySem.W.Frag) (M : List Addr) (H : Hp) (p f : Addr) (fb : List (Bd × Addr)) (s : SM) (n : Nat) : Prop := ∃ W, StX K M H p f fb s n W
section
variable {K : PySem.W.Frag} {M : List Addr} {H H' : Hp} {p f : Addr} {fb : List (Bd × Addr)} {s : SM} {n : Nat} {W : StW}
theorem StX.grow (X : StX K M H p f fb s n W) (e : Same H H') : StX K M H' p f fb s n W := by
  have e2 : Same (hid M H) (hid M H') := (Stp.grow e).sub
  exact ⟨X.m, X.nd, e _ _ X.ob, ⟨X.fld.1.same e2, X.fld.2⟩, e _ _ X.hh, X.hl, X.hv, e _ _ X.hp, X.hpl, fun x hx hs => let ⟨a, h1, h2, kvs, h3, h4, h5⟩ := X.pv x hx hs; ⟨a, h1, h2, kvs, e _ _ h3, h4.same e2, h5⟩, X.pn, fun x hx => let ⟨z, q⟩ := X.pd x hx; ⟨z, e _ _ q⟩, e _ _ X.sp, X.sl, X.sv, X.sk, e _ _ X.g, X.gl, X.ge.mono fun _ _ z => z.same e2, e _ _ X.v, X.vl, X.ve.mono fun _ _ z => e2 _ _ z, e _ _ X.gn, X.n1⟩
theorem StX.mp (X : StX K M H p f fb s n W) : p ∈ M ∧ W.h ∈ M ∧ W.pp ∈ M ∧ W.sp ∈ M ∧ W.g ∈ M ∧ W.v ∈ M ∧ W.gn ∈ M ∧ ∀ x ∈ W.pl, x.2 ∈ M := by
  have e := X.m
  refine ⟨by rw [e]; simp, by rw [e]; simp, by rw [e]; simp, by rw [e]; simp, by rw [e]; simp, by rw [e]; simp, by rw [e]; simp, fun x hx => ?_⟩
  rw [e]
  exact List.mem_append_right _ (List.mem_map.mpr ⟨x, hx, rfl⟩)
/-- the addresses of one kind are unlike -/
theorem StX.ne (X : StX K M H p f fb s n W) : W.pp ≠ W.sp ∧ W.g ≠ W.v ∧ W.g ≠ W.gn ∧ W.v ≠ W.gn ∧ (∀ x ∈ W.pl, x.2 ≠ W.pp ∧ x.2 ≠ W.sp) ∧ (W.pl.map (·.2)).Nodup := by
  have nd := X.nd
  rw [X.m, List.nodup_append] at nd
  obtain ⟨h1, h2, h3⟩ := nd
  simp only [List.nodup_cons, List.mem_cons, List.not_mem_nil, not_or, or_false] at h1
  refine ⟨h1.2.2.1.1, h1.2.2.2.2.1.1, h1.2.2.2.2.1.2, h1.2.2.2.2.2.1, fun x hx => ?_, h2⟩
  have m : x.2 ∈ W.pl.map (·.2) := List.mem_map.mpr ⟨x, hx, rfl⟩
  exact ⟨fun e => h3 W.pp (by simp) _ m e.symm, fun e => h3 W.sp (by simp) _ m e.symm⟩
/-- what stands at the addresses that may change -/
theorem StX.at_ (X : StX K M H p f fb s n W) {m : Addr} (h : m ∈ M) : (∃ dx fs, H m = some (.ins (A_Standing K) dx fs)) ∨ (∃ z, H m = some (.dT z)) ∨ (∃ z, H m = some (.dK z)) ∨ ∃ z, H m = some (.lst z) := by
  rw [X.m, List.mem_append] at h
  rcases h with h | h
  · simp only [List.mem_cons, List.not_mem_nil, or_false] at h
    rcases h with rfl | rfl | rfl | rfl | rfl | rfl | rfl
    · exact .inl ⟨_, _, X.ob⟩
    · exact .inr (.inl ⟨_, X.hh⟩)
    · exact .inr (.inr (.inl ⟨_, X.hp⟩))
    · exact .inr (.inr (.inl ⟨_, X.sp⟩))
    · exact .inr (.inr (.inr ⟨_, X.g⟩))
    · exact .inr (.inr (.inr ⟨_, X.v⟩))
    · exact .inr (.inr (.inr ⟨_, X.gn⟩))
  · obtain ⟨x, hx, rfl⟩ := List.mem_map.mp h
    exact .inr (.inr (.inl (X.pd x hx)))
theorem StX.notM (X : StX K M H p f fb s n W) {t : Addr} (h : H t = none) : t ∉ M := fun m => by
  rcases X.at_ m with ⟨_, _, e⟩ | ⟨_, e⟩ | ⟨_, e⟩ | ⟨_, e⟩ <;> rw [h] at e <;> cases e
theorem StX.tupM (X : StX K M H p f fb s n W) {t : Addr} {xs : List V} (h : H t = some (.tup xs)) : hid M H t = some (.tup xs) := hid_of h fun m => by
  rcases X.at_ m with ⟨_, _, e⟩ | ⟨_, e⟩ | ⟨_, e⟩ | ⟨_, e⟩ <;> rw [h] at e <;> cases e
theorem StX.hidS (X : StX K M H p f fb s n W) : Same (hid M H) H := hid_same
end
section
variable {P : Program} {w : World} {K : PySem.W.Frag} {mg : Str → Option Value} {base : Heap}
theorem ThAt.ky {I : Hp} {t : Addr} {th : Th} (h : ThAt K I t th) (n : ∀ b u, th ≠ .share b u) : KyAt I t th.key := by
  cases th with
  | root b k => exact h
  | offs b k => exact h
  | share b u => exact absurd rfl (n b u)
/-- a promise that can be looked at -/
structure PrIn (fb : List (Bd × Addr)) (r : Pr) (x : Bd × Addr) : Prop where
  ok : r.Ok
  m : x ∈ fb
  inb : r.th.InB x.1
theorem PrIn.ky {fb : List (Bd × Addr)} {r : Pr} {x : Bd × Addr} (h : PrIn fb r x) (n : ∀ b u, r.th ≠ .share b u) : KyIn fb r.th.key := by
  refine ⟨x, h.m, ?_⟩
  have ok := h.ok.th
  have i := h.inb
  cases e : r.th with
  | root b k => rw [e] at ok i; simp [Th.key, inBed, i.1, ok.2, i.2.2]
  | offs b k => rw [e] at ok i; simp [Th.key, inBed, i.1, ok.2, i.2.2]
  | share b u => exact absurd e (n b u)
def sp_Standing_holds (K : PySem.W.Frag) : Sp := fun vs H Q _ => ∃ (p a f : Addr) (M : List Addr) (fb : List (Bd × Addr)) (s : SM) (n : Nat) (W : StW) (r : Pr) (x : Bd × Addr), vs = [.ref p, .ref a] ∧ StX K M H p f fb s n W ∧ n ≤ 1000 ∧ PrAt K (hid M H) a r ∧ PrIn fb r x ∧
  ∀ H', Same H H' → Q (.bl (s.holds r)) H'
theorem ok_Standing_holds (T : Tx K mg) : FnOk P w K mg base CX0 4 (He.ma K (He.ga K "Standing") "holds") (fdOf K dd_Standing_holds) ["self", "promise"] (sp_Standing_holds K) := by
  refine okF T.d_Standing_holds sc_Standing_holds (fun vs H Q E h => ?_) (fun cdv A outer s H vs Q E hr h => ?_)
  · obtain ⟨_, _, _, _, _, _, _, _, _, _, rfl, _⟩ := h; rfl
  · obtain ⟨p, a, f, M, fb, s, n, W, r, x, rfl, X, hn, hr0, hin, k⟩ := h
    have hu := hu_of hr
    refine ⟨_, (pss_cons (ps_asg (pe_fldK K rfl (pv 1) rfl) (pg_tup rfl (pgs_cons (pg_name (i := 2) sc_Standing_holds.nd rfl (by first | exact Or.inl rfl | exact Or.inr rfl)) (pgs_cons (pg_name (i := 3) sc_Standing_holds.nd rfl (by first | exact Or.inl rfl | exact Or.inr rfl)) (pgs_cons (pg_name (i := 4) sc_Standing_holds.nd rfl (by first | exact Or.inl rfl | exact Or.inr rfl)) pgs_nil)))))
      (pss_cons (ps_if (pt_cmpR op_ne (pv 2) pe_str (nomark _)) (pss_one (ps_ret (pe_cmpR op_eq (pe_dget hu (pe_fldK K rfl (pv 0) rfl) (pe_fldK K rfl (pv 1) rfl) (fun _ _ => rfl)) (pe_fldK K rfl (pv 1) rfl) (nomark _)))) pss_nil)
      (pss_one (ps_ret (pe_not (pe_call (ok_less T) (hr.mono (by decide)) rfl T.g_less T.d_less.kp T.b_less .nil pass0 (pa_cons (pe_dget2 hu (pe_dget hu (pe_fldK K rfl (pv 0) rfl) (pv 3) (fun _ _ => rfl)) (pe_fldK K rfl (pv 1) rfl) (pe_make T.mk_Part (ok_Part_init T) (hr.mono (by decide)) rfl T.g_Part (bP1 T) (rP1 T) pass0 (pa_cons pe_int pa_nil)) ⟨rfl, rfl, rfl, rfl⟩) (pa_cons (pv 4) pa_nil)))))))), ?_⟩
    obtain ⟨dx, t, h1, ht⟩ := hr0
    have g1 := hid_same _ _ h1
    cases eth : r.th with
    | root b j =>
      rw [eth] at ht
      have ht2 : H t = some (.tup [.str "root", .str b, .int j]) := hid_same _ _ ht
      have ky : valV W.kvs (keyOf (.root b j)) = some (.str (s.held (.root b j))) := X.hv _ (by have := hin.ky (fun _ _ e => by rw [eth] at e; cases e); rw [eth] at this; exact this)
      have g : DGet H W.h (.ref t) (some (.str (s.held (.root b j)))) := by
        have := DGet.t (k := keyOf (.root b j)) X.hh ht2
        rw [ky] at this
        exact this
      refine ⟨_, rfl, _, _, _, _, _, rfl, g1, T.c_Promise, T.n_Promise_thing, l_Promise_thing, t, _, rfl, .of ht2, rfl, _, _, rfl, _, _, rfl, _, _, rfl, rfl, ?_⟩
      refine ⟨_, rfl, rfl, _, rfl, iteN (vne kne2) ⟨_, rfl, _, _, _, _, _, rfl, X.ob, T.c_Standing, T.n_Standing_held, l_Standing_held, _, rfl, _, _, _, _, _, rfl, g1, T.c_Promise, T.n_Promise_thing, l_Promise_thing, _, _, rfl, g, _, rfl, _, _, _, _, _, rfl, g1, T.c_Promise, T.n_Promise_seller, l_Promise_seller, rfl, ?_⟩⟩
      have e : s.holds r = decide (V.str (s.held (.root b j)) = V.str r.seller) := by
        unfold SM.holds
        rw [eth]
        show decide (s.held (.root b j) = r.seller) = _
        rw [decide_eq_decide]
        exact ⟨congrArg V.str, V.str.inj⟩
      rw [e] at k
      exact k H (Same.refl H)
    | offs b j =>
      rw [eth] at ht
      have ht2 : H t = some (.tup [.str "offsets", .str b, .int j]) := hid_same _ _ ht
      have ky : valV W.kvs (keyOf (.offs b j)) = some (.str (s.held (.offs b j))) := X.hv _ (by have := hin.ky (fun _ _ e => by rw [eth] at e; cases e); rw [eth] at this; exact this)
      have g : DGet H W.h (.ref t) (some (.str (s.held (.offs b j)))) := by
        have := DGet.t (k := keyOf (.offs b j)) X.hh ht2
        rw [ky] at this
        exact this
      refine ⟨_, rfl, _, _, _, _, _, rfl, g1, T.c_Promise, T.n_Promise_thing, l_Promise_thing, t, _, rfl, .of ht2, rfl, _, _, rfl, _, _, rfl, _, _, rfl, rfl, ?_⟩
      refine ⟨_, rfl, rfl, _, rfl, iteN (vne kne4) ⟨_, rfl, _, _, _, _, _, rfl, X.ob, T.c_Standing, T.n_Standing_held, l_Standing_held, _, rfl, _, _, _, _, _, rfl, g1, T.c_Promise, T.n_Promise_thing, l_Promise_thing, _, _, rfl, g, _, rfl, _, _, _, _, _, rfl, g1, T.c_Promise, T.n_Promise_seller, l_Promise_seller, rfl, ?_⟩⟩
      have e : s.holds r = decide (V.str (s.held (.offs b j)) = V.str r.seller) := by
        unfold SM.holds
        rw [eth]
        show decide (s.held (.offs b j) = r.seller) = _
        rw [decide_eq_decide]
        exact ⟨congrArg V.str, V.str.inj⟩
      rw [e] at k
      exact k H (Same.refl H)
    | share b u =>
      rw [eth] at ht
      obtain ⟨q, ht1, hq⟩ := ht
      have ht2 := hid_same _ _ ht1
      have inb := hin.inb
      rw [eth] at inb
      obtain ⟨rfl, sh⟩ := inb
      have ok := hin.ok.th
      rw [eth] at ok
      obtain ⟨da, h2, h3, kvs, h4, h5, h6, h7⟩ := X.pv x hin.m sh
      have g : DGet H W.pp (.str x.1.name) (some (.ref da)) := by
        have := DGet.k (k := Sum.inr x.1.name) X.hp
        rw [h3] at this
        exact this
      refine ⟨_, rfl, _, _, _, _, _, rfl, g1, T.c_Promise, T.n_Promise_thing, l_Promise_thing, t, _, rfl, .of ht2, rfl, _, _, rfl, _, _, rfl, _, _, rfl, rfl, ?_⟩
      refine ⟨_, rfl, rfl, _, rfl, iteNS rfl ⟨_, rfl, _, _, _, _, _, rfl, X.ob, T.c_Standing, T.n_Standing_parts, l_Standing_parts, _, rfl, _, _, rfl, g, da, rfl, .inl ⟨_, .of h4⟩, _, rfl, _, _, _, _, _, rfl, g1, T.c_Promise, T.n_Promise_seller, l_Promise_seller, ?_⟩⟩
      intro z dq nq nd ne
      refine ⟨z, dq, 0, 1, rfl, upd_same, ?_, ?_, fun H1 e1 e2 => ⟨rfl, ?_⟩⟩
      · omega
      · omega
      obtain ⟨s1, hz⟩ := mk_part (t := 0) (b := 1) nq nd e1 e2 (by omega) part0
      clear e1 e2 ne nd
      have e : s.holds r = decide (u ≤ getU (s.units x.1.name) r.seller) := by
        unfold SM.holds
        rw [eth]
      have bound := getU_le (n := r.seller) h7
      rcases h5.get r.seller with ⟨e1, e2⟩ | ⟨q2, e1, e2⟩
      · have g2 : DGet H1 da (.str r.seller) none := by
          have := DGet.k (k := Sum.inr r.seller) (s1 _ _ h4)
          rw [e1] at this
          exact this
        refine ⟨none, g2, _, rfl, z, q, 0, u, rfl, hz, (hq.same hid_same).same s1, by decide, by have := ok.2.2.1; omega, _, rfl, ?_⟩
        have e3 : s.holds r = (!decide (0 < u)) := by
          rw [e, e2]
          by_cases hu0 : 0 < u
          · rw [decide_eq_true hu0, decide_eq_false (by omega)]; rfl
          · rw [decide_eq_false hu0, decide_eq_true (by omega)]; rfl
        rw [e3] at k
        exact k H1 s1
      · have g2 : DGet H1 da (.str r.seller) (some (.ref q2)) := by
          have := DGet.k (k := Sum.inr r.seller) (s1 _ _ h4)
          rw [e1] at this
          exact this
        refine ⟨_, g2, _, rfl, q2, q, getU (s.units x.1.name) r.seller, u, rfl, (e2.same hid_same).same s1, (hq.same hid_same).same s1, by omega, by have := ok.2.2.1; omega, _, rfl, ?_⟩
        have e3 : s.holds r = (!decide (getU (s.units x.1.name) r.seller < u)) := by
          rw [e]
          by_cases hu0 : getU (s.units x.1.name) r.seller < u
          · rw [decide_eq_true hu0, decide_eq_false (by omega)]; rfl
          · rw [decide_eq_false hu0, decide_eq_true (by omega)]; rfl
        rw [e3] at k
        exact k H1 s1
end
end Rp


set_option maxRecDepth 100000
set_option maxHeartbeats 4000000
namespace Rp
open PySem PySem.Spec PyProof.Rows L2
theorem strd {a b : Str} : decide (V.str a = V.str b) = decide (a = b) := by
  rw [decide_eq_decide]
  exact ⟨V.str.inj, congrArg V.str⟩
/-- key tuples as data -/
def kyD : Ky → PyData
  | .root b k => .tuple [.str "root", .str b, .int (k : Int)]
  | .offs b k => .tuple [.str "offsets", .str b, .int (k : Int)]
  | .share b => .tuple [.str "share", .str b]
theorem kyD_at {K : PySem.W.Frag} {H : Hp} {t : Addr} {y : Ky} (h : KyAt H t y) : Dp K H (.ref t) (kyD y) := by
  cases y with
  | root b k => exact .tup (.of h) (.cons (.str _) (.cons (.str _) (.cons (.int _) .nil)))
  | offs b k => exact .tup (.of h) (.cons (.str _) (.cons (.str _) (.cons (.int _) .nil)))
  | share b => exact .tup (.of h) (.cons (.str _) (.cons (.str _) .nil))
theorem letters_ok : ∀ c ∈ ("abcdefghijklmnopqrstuvwxyz" : Str).cps.toList, c < 0x110000 := by decide +kernel
theorem nm_ok {x : Str} (h : IsNm x) : PyData.canLay0 (.str x) = true := by
  simp only [PyData.canLay0]
  show x.cps.all (· < 0x110000) = true
  rw [Array.all_eq_true_iff_forall_mem]
  intro c hc
  exact decide_eq_true (letters_ok c (h.2.2 c (Array.mem_toList_iff.mpr hc)))
theorem w_ok1 : PyData.canLay0 (.str "root") = true := by decide +kernel
theorem w_ok2 : PyData.canLay0 (.str "offsets") = true := by decide +kernel
theorem w_ok3 : PyData.canLay0 (.str "share") = true := by decide +kernel
theorem kyD_lay {y : Ky} (h : IsNm y.bed) : (kyD y).canLay0 = true := by
  have e := nm_ok h
  have e1 := w_ok1; have e2 := w_ok2; have e3 := w_ok3
  cases y with
  | root b k => simp only [kyD, PyData.canLay0, PyData.canLayAll0, Ky.bed] at e e1 ⊢; rw [e, e1]; rfl
  | offs b k => simp only [kyD, PyData.canLay0, PyData.canLayAll0, Ky.bed] at e e2 ⊢; rw [e, e2]; rfl
  | share b => simp only [kyD, PyData.canLay0, PyData.canLayAll0, Ky.bed] at e e3 ⊢; rw [e, e3]; rfl
theorem kyD_depth (y : Ky) : (kyD y).depth = 1 := by cases y <;> simp [kyD, PyData.depth, PyData.depthAll]
theorem kyDs_lay : ∀ {ys : List Ky}, (∀ y ∈ ys, IsNm y.bed) → PyData.canLayAll0 (ys.map kyD) = true
  | [], _ => by simp [PyData.canLayAll0]
  | y :: ys, h => by
    simp only [List.map_cons, PyData.canLayAll0]
    rw [kyD_lay (h y List.mem_cons_self), kyDs_lay fun z hz => h z (List.mem_cons_of_mem _ hz)]
    rfl
theorem kyDs_depth : ∀ ys : List Ky, PyData.depthAll (ys.map kyD) ≤ 1
  | [] => by simp [PyData.depthAll]
  | y :: ys => by
    have h1 := kyDs_depth ys
    have h2 := kyD_depth y
    simp only [List.map_cons, PyData.depthAll]
    omega
theorem kyD_shaped {y : Ky} (h : IsNm y.bed) : SeqAt.shaped (kyD y) = true := by
  have e := kyD_depth y
  show ((kyD y).canLay0 && decide ((kyD y).depth ≤ 64)) = true
  rw [kyD_lay h, decide_eq_true (by omega)]
  rfl
theorem kyDs_shaped {ys : List Ky} (h : ∀ y ∈ ys, IsNm y.bed) : SeqAt.shaped (.list (ys.map kyD)) = true := by
  have h1 := kyDs_depth ys
  have h2 : PyData.depth (.list (ys.map kyD)) ≤ 64 := by
    simp only [PyData.depth]
    omega
  show (PyData.canLay0 (.list (ys.map kyD)) && decide (PyData.depth (.list (ys.map kyD)) ≤ 64)) = true
  rw [Bool.and_eq_true]
  exact ⟨by simp only [PyData.canLay0]; exact kyDs_lay h, decide_eq_true h2⟩
theorem strb {a b : Str} : (a == b) = decide (a = b) := by
  by_cases e : a = b
  · subst e; simp
  · rw [decide_eq_false e]; exact beq_eq_false_iff_ne.mpr e
theorem natb {a b : Nat} : ((a : Int) == (b : Int)) = decide (a = b) := by
  by_cases e : a = b
  · subst e; simp
  · rw [decide_eq_false e]; exact beq_eq_false_iff_ne.mpr (by omega)
theorem kyD_eqv (y z : Ky) : PyData.eqv (kyD y) (kyD z) = decide (y = z) := by
  have k1 := kne1; have k2 := kne2; have k3 := kne3; have k4 := kne4; have k5 := kne5; have k6 := kne6
  cases y <;> cases z <;> simp only [kyD, PyData.eqv, PyData.eqvAll, strb, natb, Bool.and_true, Ky.root.injEq, Ky.offs.injEq, Ky.share.injEq, reduceCtorEq, k1, k2, k3, k4, k5, k6, decide_false, Bool.false_and, decide_true, Bool.true_and, Bool.decide_and, Bool.and_false]
theorem any_ky (ys : List Ky) (y : Ky) : ((ys.map kyD).any fun z => PyData.eqv z (kyD y)) = decide (y ∈ ys) := by
  induction ys with
  | nil => simp
  | cons z zs ih =>
    rw [List.map_cons, List.any_cons, ih, kyD_eqv]
    by_cases e : z = y
    · subst e; simp
    · have e2 : ¬ y = z := fun q => e q.symm
      rw [decide_eq_false e, Bool.false_or, decide_eq_decide]
      simp [e2]
theorem dp_kys {K : PySem.W.Frag} {H : Hp} : ∀ {ks : List Addr} {ys : List Ky}, L2R (KyAt H) ks ys → DpAll K H (ks.map V.ref) (ys.map kyD)
  | [], [], _ => .nil
  | [], _ :: _, h => by cases h.1
  | _ :: _, [], h => by cases h.1
  | k :: ks, y :: ys, h => .cons (kyD_at (h.2 0 k y rfl rfl)) (dp_kys ⟨Nat.succ.inj h.1, fun i a b h1 h2 => h.2 (i + 1) a b (by simpa using h1) (by simpa using h2)⟩)
theorem Ky.key_nm {th : Th} (h : th.Ok) : IsNm th.key.bed := by rw [Th.key_bed]; exact h.nm
section
variable {P : Program} {w : World} {K : PySem.W.Frag} {mg : Str → Option Value} {base : Heap}
def sp_Standing_moves (K : PySem.W.Frag) : Sp := fun vs H Q _ => ∃ (p a f : Addr) (M : List Addr) (fb : List (Bd × Addr)) (s : SM) (n : Nat) (W : StW) (r : Pr) (x : Bd × Addr), vs = [.ref p, .ref a] ∧ StX K M H p f fb s n W ∧ PrAt K (hid M H) a r ∧ PrIn fb r x ∧ (∀ b u, r.th ≠ .share b u) ∧
  ∀ l ks H', Same H H' → H l = none → H' l = some (.lst (ks.map V.ref)) → L2R (KyAt H') ks (s.moves r) → Q (.ref l) H'
theorem ok_Standing_moves (T : Tx K mg) : FnOk P w K mg base CX0 1 (He.ma K (He.ga K "Standing") "moves") (fdOf K dd_Standing_moves) ["self", "promise"] (sp_Standing_moves K) := by
  refine okF T.d_Standing_moves sc_Standing_moves (fun vs H Q E h => ?_) (fun cdv A outer s H vs Q E hr h => ?_)
  · obtain ⟨_, _, _, _, _, _, _, _, _, _, rfl, _⟩ := h; rfl
  · obtain ⟨p, a, f, M, fb, s, n, W, r, x, rfl, X, hr0, hin, hns, k⟩ := h
    have hu := hu_of hr
    refine ⟨_, (pss_cons (ps_asg (pe_fldK K rfl (pv 1) rfl) (pg_tup rfl (pgs_cons (pg_name (i := 2) sc_Standing_moves.nd rfl (by first | exact Or.inl rfl | exact Or.inr rfl)) (pgs_cons (pg_name (i := 3) sc_Standing_moves.nd rfl (by first | exact Or.inl rfl | exact Or.inr rfl)) (pgs_cons (pg_name (i := 4) sc_Standing_moves.nd rfl (by first | exact Or.inl rfl | exact Or.inr rfl)) pgs_nil)))))
      (pss_cons (ps_set (i := 5) sc_Standing_moves.nd rfl (by first | exact Or.inl rfl | exact Or.inr rfl) (pe_tup (pa_cons pe_str (pa_cons (pv 3) (pa_cons (pv 4) pa_nil)))))
      (pss_cons (ps_if (PW.pt (pw_and (pt_cmpR op_eq (pv 2) pe_str (nomark _)) (pw_and (pt_cmpR op_eq (pe_fldK K rfl (pv 1) rfl) pe_str (nomark _)) (pw_and1 (pt_cmpR op_eq (pe_dget hu (pe_fldK K rfl (pv 0) rfl) (pv 5) (fun _ _ => rfl)) (pe_fldK K rfl (pv 1) rfl) (nomark _)))))) (pss_one (ps_ret (pe_lst (pa_cons (pe_fldK K rfl (pv 1) rfl) (pa_cons (pv 5) pa_nil))))) pss_nil)
      (pss_one (ps_ret (pe_lst (pa_cons (pe_fldK K rfl (pv 1) rfl) pa_nil))))))), ?_⟩
    obtain ⟨dx, t, h1, ht⟩ := hr0
    have g1 := hid_same _ _ h1
    cases eth : r.th with
    | share b u => exact absurd eth (hns b u)
    | offs b j =>
      rw [eth] at ht
      have ht2 : H t = some (.tup [.str "offsets", .str b, .int j]) := hid_same _ _ ht
      refine ⟨_, rfl, _, _, _, _, _, rfl, g1, T.c_Promise, T.n_Promise_thing, l_Promise_thing, t, _, rfl, .of ht2, rfl, _, _, rfl, _, _, rfl, _, _, rfl, rfl, ?_⟩
      refine ⟨_, rfl, _, rfl, by show 3 ≤ sizeLine; decide, fun t2 n2 => ?_⟩
      generalize hh : upd H t2 _ = H1; obtain ⟨s1, h2⟩ := gen_new hh n2; clear hh
      refine ⟨_, rfl, rfl, _, rfl, iteDn (vne kne3) (iteF ⟨_, rfl, _, _, _, _, _, rfl, (s1 _ _ g1), T.c_Promise, T.n_Promise_thing, l_Promise_thing, by show 1 ≤ sizeLine; decide, fun l nl => ?_⟩)⟩
      generalize hh : upd H1 l _ = H2; obtain ⟨s2, hl⟩ := gen_new hh nl; clear hh
      have em : s.moves r = [.offs b j] := by unfold SM.moves; rw [eth]; rfl
      refine k l [t] H2 (s1.trans s2) (s1.free nl) hl ?_
      rw [em]
      exact L2R.cons (s2 _ _ (s1 _ _ ht2)) .nil
    | root b j =>
      rw [eth] at ht
      have ht2 : H t = some (.tup [.str "root", .str b, .int j]) := hid_same _ _ ht
      refine ⟨_, rfl, _, _, _, _, _, rfl, g1, T.c_Promise, T.n_Promise_thing, l_Promise_thing, t, _, rfl, .of ht2, rfl, _, _, rfl, _, _, rfl, _, _, rfl, rfl, ?_⟩
      refine ⟨_, rfl, _, rfl, by show 3 ≤ sizeLine; decide, fun t2 n2 => ?_⟩
      generalize hh : upd H t2 _ = H1; obtain ⟨s1, h2⟩ := gen_new hh n2; clear hh
      have h2k : KyAt H1 t2 (.offs b j) := h2
      have fin1 : (!r.stay && decide (s.held (.offs b j) = r.seller)) = false → tRet (tLst (tCons (tFld K (tVar 1) "thing") tNil)) { nx := fun x H' => Q V.non H', rt := Q } (((((L2.start N_Standing_moves [.ref p, .ref a]).set 2 (some (.str "root"))).set 3 (some (.str b))).set 4 (some (.int j))).set 5 (some (.ref t2))) H1 := by
        intro e
        refine ⟨_, rfl, _, _, _, _, _, rfl, (s1 _ _ g1), T.c_Promise, T.n_Promise_thing, l_Promise_thing, by show 1 ≤ sizeLine; decide, fun l nl => ?_⟩
        generalize hh : upd H1 l _ = H2; obtain ⟨s2, hl⟩ := gen_new hh nl; clear hh
        have em : s.moves r = [.root b j] := by
          unfold SM.moves
          rw [eth]
          show (if (!r.stay && decide (s.held (.offs b j) = r.seller)) = true then _ else _) = _
          rw [e]
          rfl
        refine k l [t] H2 (s1.trans s2) (s1.free nl) hl ?_
        rw [em]
        exact L2R.cons (s2 _ _ (s1 _ _ ht2)) .nil
      refine ⟨_, rfl, rfl, _, rfl, iteD rfl ⟨_, rfl, _, _, _, _, _, rfl, (s1 _ _ g1), T.c_Promise, T.n_Promise_offsets, l_Promise_offsets, rfl, _, rfl, ?_⟩⟩
      cases es : r.stay with
      | true => exact iteDn (vne (by decide +kernel)) (iteF (fin1 (by rw [es]; rfl)))
      | false =>
        refine iteD rfl ?_
        have ky : valV W.kvs (keyOf (.offs b j)) = some (.str (s.held (.offs b j))) := X.hv _ ⟨x, hin.m, by
          have ok := hin.ok.th
          have i := hin.inb
          rw [eth] at ok i
          simp [inBed, i.1, ok.2, i.2.2]⟩
        have g : DGet H1 W.h (.ref t2) (some (.str (s.held (.offs b j)))) := by
          have := DGet.t (k := keyOf (.offs b j)) (s1 _ _ X.hh) h2k
          rw [ky] at this
          exact this
        refine ⟨_, rfl, _, _, _, _, _, rfl, (s1 _ _ X.ob), T.c_Standing, T.n_Standing_held, l_Standing_held, _, rfl, _, _, rfl, g, _, rfl, _, _, _, _, _, rfl, (s1 _ _ g1), T.c_Promise, T.n_Promise_seller, l_Promise_seller, rfl, _, rfl, ?_⟩
        rw [strd]
        by_cases e : s.held (.offs b j) = r.seller
        · refine iteD e ⟨_, rfl, _, _, _, _, _, rfl, (s1 _ _ g1), T.c_Promise, T.n_Promise_thing, l_Promise_thing, _, rfl, by show 2 ≤ sizeLine; decide, fun l nl => ?_⟩
          generalize hh : upd H1 l _ = H2; obtain ⟨s2, hl⟩ := gen_new hh nl; clear hh
          have em : s.moves r = [.root b j, .offs b j] := by
            unfold SM.moves
            rw [eth]
            show (if (!r.stay && decide (s.held (.offs b j) = r.seller)) = true then _ else _) = _
            rw [es, decide_eq_true e]
            rfl
          refine k l [t, t2] H2 (s1.trans s2) (s1.free nl) hl ?_
          rw [em]
          exact L2R.cons (s2 _ _ (s1 _ _ ht2)) (L2R.cons (s2 _ _ h2k) .nil)
        · exact iteDn e (fin1 (by rw [es, decide_eq_false e]; rfl))
end
end Rp


set_option maxRecDepth 100000
set_option maxHeartbeats 4000000
namespace Rp
open PySem PySem.Spec PyProof.Rows L2
section
variable {K : PySem.W.Frag} {M : List Addr} {H H' : Hp} {p f : Addr} {fb : List (Bd × Addr)} {s : SM} {n : Nat} {W : StW}
theorem UAt.mono {I : Hp} {a : Addr} {us : List (Str × Nat)} {n' : Nat} (h : UAt K I H a us n) (e : n ≤ n') : UAt K I H a us n' := by
  obtain ⟨kvs, h1, h2, h3, h4⟩ := h
  refine ⟨kvs, h1, h2, by omega, fun x hx => ?_⟩
  have := h4 x hx
  omega
theorem StX.mono {n' : Nat} (X : StX K M H p f fb s n W) (e : n ≤ n') : StX K M H p f fb s n' W :=
  ⟨X.m, X.nd, X.ob, X.fld, X.hh, by have := X.hl; omega, X.hv, X.hp, by have := X.hpl; omega, fun x hx hs => let ⟨a, h1, h2, h3⟩ := X.pv x hx hs; ⟨a, h1, h2, h3.mono e⟩, X.pn, X.pd, X.sp, by have := X.sl; omega, X.sv, X.sk, X.g, by have := X.gl; omega, X.ge, X.v, by have := X.vl; omega, X.ve, X.gn, by have := X.n1; omega⟩
/-- the list of void promises grows -/
theorem StX.addVoid (X : StX K M H p f fb s n W) {t : Addr} {row : Int × Str × Option Int} (ht : VdAt (hid M H) t row) :
    StX K M (upd H W.v (.lst ((W.vs ++ [t]).map V.ref))) p f fb { s with voids := s.voids ++ [row] } (n + 1) { W with vs := W.vs ++ [t] } := by
  obtain ⟨n1, n2, n3, n4, n5, n6⟩ := X.ne
  have hm := X.mp.2.2.2.2.2.1
  have hv := X.v
  have lK : ∀ {c z}, H c = some (.dK z) → upd H W.v (.lst ((W.vs ++ [t]).map V.ref)) c = some (.dK z) := fun {c z} e => by rw [upd_ne (ne_of e hv (by intro q; cases q))]; exact e
  refine ⟨X.m, X.nd, ?_, by rw [hid_upd hm]; exact X.fld, ?_, by have := X.hl; show W.kvs.length ≤ _; omega, X.hv, lK X.hp, by have := X.hpl; show W.pvs.length ≤ _; omega, fun x hx hs => ?_, X.pn, fun x hx => let ⟨z, q⟩ := X.pd x hx; ⟨z, lK q⟩, lK X.sp, by have := X.sl; show W.svs.length ≤ _; omega, X.sv, X.sk, ?_, by have := X.gl; show W.es.length + s.gone.length ≤ _; omega, by rw [hid_upd hm]; exact X.ge, upd_same, ?_, ?_, ?_, by omega⟩
  · rw [upd_ne (ne_of X.ob hv (by intro q; cases q))]; exact X.ob
  · show upd H W.v _ W.h = _
    rw [upd_ne (ne_of X.hh hv (by intro q; cases q))]; exact X.hh
  · obtain ⟨a, h1, h2, kvs, h3, h4, h5, h6⟩ := X.pv x hx hs
    refine ⟨a, h1, h2, ?_⟩
    rw [hid_upd hm]
    exact UAt.mono ⟨kvs, lK h3, h4, h5, h6⟩ (Nat.le_succ n)
  · show upd H W.v _ W.g = _
    rw [upd_ne n2]; exact X.g
  · show (W.vs ++ [t]).length ≤ _
    rw [List.length_append]
    have := X.vl
    simp
    omega
  · rw [hid_upd hm]
    exact X.ve.snoc ht
  · show upd H W.v _ W.gn = _
    rw [upd_ne n4.symm]; exact X.gn
end
section
variable {P : Program} {w : World} {K : PySem.W.Frag} {mg : Str → Option Value} {base : Heap}
/-- the word of 4.4, row by row -/
theorem lastOf_snoc (good : List (Pr × List Ky)) (e : Pr × List Ky) (seller : Str) (y : Ky) (r : Str × Option Int) : lastOf (good ++ [e]) seller y r = if (decide (e.1.seller = seller) && decide (y ∈ e.2)) = true then (("clash" : Str), some e.1.num) else lastOf good seller y r := by
  unfold lastOf
  rw [List.foldl_append]
  rfl
def sp_Standing_void (K : PySem.W.Frag) : Sp := fun vs H Q _ => ∃ (p a f : Addr) (M : List Addr) (fb : List (Bd × Addr)) (s : SM) (n : Nat) (W : StW) (r : Pr) (x : Bd × Addr), vs = [.ref p, .ref a] ∧ StX K M H p f fb s n W ∧ n ≤ 1000 ∧ PrAt K (hid M H) a r ∧ PrIn fb r x ∧
  ∀ H' W', StX K M H' p f fb (s.void r) (n + 1) W' → Stp M H M H' → Q .non H'
theorem ok_Standing_void (T : Tx K mg) : FnOk P w K mg base CX0 1 (He.ma K (He.ga K "Standing") "void") (fdOf K dd_Standing_void) ["self", "promise"] (sp_Standing_void K) := by
  refine okF T.d_Standing_void sc_Standing_void (fun vs H Q E h => ?_) (fun cdv A outer s H vs Q E hr h => ?_)
  · obtain ⟨_, _, _, _, _, _, _, _, _, _, rfl, _⟩ := h; rfl
  · obtain ⟨p, a, f, M, fb, s, n, W, r, x, rfl, X, hn, hr0, hin, k⟩ := h
    have hu := hu_of hr
    have hu65 := hu65_of hr
    refine ⟨_, (pss_cons (ps_asg (pe_fldK K rfl (pv 1) rfl) (pg_tup rfl (pgs_cons (pg_name (i := 2) sc_Standing_void.nd rfl (by first | exact Or.inl rfl | exact Or.inr rfl)) (pgs_cons (pg_name (i := 3) sc_Standing_void.nd rfl (by first | exact Or.inl rfl | exact Or.inr rfl)) (pgs_cons (pg_name (i := 4) sc_Standing_void.nd rfl (by first | exact Or.inl rfl | exact Or.inr rfl)) pgs_nil)))))
      (pss_cons (ps_if (pt_cmp (pc_din hu (pv 3) (pe_fldK K rfl (pv 0) rfl))) (pss_cons (ps_expr (pe_bm PySem.F.plainAttrs_list PySem.F.slot_list_append PySem.F.type_list_append mt_append (pe_fldK K rfl (pv 0) rfl) (pa_cons (pe_tup (pa_cons (pe_fldK K rfl (pv 1) rfl) (pa_cons pe_str (pa_cons (pe_dget hu (pe_fldK K rfl (pv 0) rfl) (pv 3) (fun _ _ => rfl)) pa_nil)))) pa_nil)))
      (pss_one ps_retN)) pss_nil)
      (pss_cons (ps_set (i := 5) sc_Standing_void.nd rfl (by first | exact Or.inl rfl | exact Or.inr rfl) (pe_fldK K rfl (pv 1) rfl))
      (pss_cons (ps_if (pt_cmpR op_eq (pv 2) pe_str (nomark _)) (pss_one (ps_set (i := 5) sc_Standing_void.nd rfl (by first | exact Or.inl rfl | exact Or.inr rfl) (pe_tup (pa_cons pe_str (pa_cons (pv 3) pa_nil))))) pss_nil)
      (pss_cons (ps_set (i := 6) sc_Standing_void.nd rfl (by first | exact Or.inl rfl | exact Or.inr rfl) (pe_tup (pa_cons (pe_fldK K rfl (pv 1) rfl) (pa_cons pe_str (pa_cons pe_non pa_nil)))))
      (pss_cons (ps_for PassesOwn.never rfl (pi_list (pe_fldK K rfl (pv 0) rfl)) (pg_tup rfl (pgs_cons (pg_name (i := 7) sc_Standing_void.nd rfl (by first | exact Or.inl rfl | exact Or.inr rfl)) (pgs_cons (pg_name (i := 8) sc_Standing_void.nd rfl (by first | exact Or.inl rfl | exact Or.inr rfl)) pgs_nil))) (pss_one (ps_if (PW.pt (pw_and (pt_cmpR op_eq (pe_fldK K rfl (pv 7) rfl) (pe_fldK K rfl (pv 1) rfl) (nomark _)) (pw_and1 (pt_cmpR (op_inDK K rfl hu65) (pv 5) (pv 8) (by rfl))))) (pss_one (ps_set (i := 6) sc_Standing_void.nd rfl (by first | exact Or.inl rfl | exact Or.inr rfl) (pe_tup (pa_cons (pe_fldK K rfl (pv 1) rfl) (pa_cons pe_str (pa_cons (pe_fldK K rfl (pv 7) rfl) pa_nil)))))) pss_nil)))
      (pss_one (ps_expr (pe_bm PySem.F.plainAttrs_list PySem.F.slot_list_append PySem.F.type_list_append mt_append (pe_fldK K rfl (pv 0) rfl) (pa_cons (pv 6) pa_nil)))))))))), ?_⟩
    have hr1 := hr0
    obtain ⟨dx, t, h1, ht⟩ := hr0
    have g1 := hid_same _ _ h1
    obtain ⟨z, v, hz⟩ := ht.tup
    have hz1 := hid_same _ _ hz
    have vlen := X.vl
    refine ⟨_, rfl, _, _, _, _, _, rfl, g1, T.c_Promise, T.n_Promise_thing, l_Promise_thing, t, _, rfl, .of hz1, rfl, _, _, rfl, _, _, rfl, _, _, rfl, rfl, ?_⟩
    have svb := X.sv r.th.bed
    have gS : DGet H W.sp (.str r.th.bed) ((s.spoilt r.th.bed).map V.int) := by
      have := DGet.k (k := Sum.inr r.th.bed) X.sp
      rw [svb] at this
      exact this
    cases es : s.spoilt r.th.bed with
    | some m =>
      rw [es] at gS
      refine ⟨_, rfl, _, rfl, _, _, _, _, _, rfl, X.ob, T.c_Standing, T.n_Standing_spoilt, l_Standing_spoilt, _, _, rfl, gS, true, rfl, iteT ?_⟩
      refine ⟨_, rfl, _, _, _, _, _, rfl, X.ob, T.c_Standing, T.n_Standing_void_rows, l_Standing_void_rows, .inl ⟨rfl, _, .of X.v⟩, ?_⟩
      refine ⟨_, rfl, _, _, _, _, _, rfl, g1, T.c_Promise, T.n_Promise_number, l_Promise_number, _, rfl, _, _, _, _, _, rfl, X.ob, T.c_Standing, T.n_Standing_spoilt, l_Standing_spoilt, _, rfl, _, _, rfl, gS, by show 3 ≤ sizeLine; decide, fun tt nt => ?_⟩
      generalize hh : upd H tt _ = H1; obtain ⟨s1, h2⟩ := gen_new hh nt; clear hh
      have X1 := X.grow s1
      refine ⟨_, _, _, rfl, rfl, X1.v, by rw [List.length_map]; exact Nat.lt_of_le_of_lt (Nat.le_trans vlen hn) (by decide), ?_⟩
      have vd : VdAt (hid M H1) tt (r.num, "spoiled", some m) := X1.tupM h2
      have X2 := X1.addVoid vd
      have em : s.void r = { s with voids := s.voids ++ [(r.num, ("spoiled" : Str), some m)] } := by unfold SM.void; rw [es]
      rw [← em] at X2
      rw [List.map_append] at X2
      exact k _ _ X2 ((Stp.grow s1).trans (Stp.mut X1.mp.2.2.2.2.2.1))
    | none =>
      rw [es] at gS
      refine ⟨_, rfl, _, rfl, _, _, _, _, _, rfl, X.ob, T.c_Standing, T.n_Standing_spoilt, l_Standing_spoilt, _, _, rfl, gS, false, rfl, iteF ?_⟩
      -- what is looked for, in either kind
      have em : s.void r = { s with voids := s.voids ++ [(r.num, lastOf s.good r.seller r.th.key (("never" : Str), none))] } := by unfold SM.void; rw [es]
      have rest : ∀ (H1 : Hp) (th : Addr) (o4 : V), Same H H1 → KyAt H1 th r.th.key →
          tSeq (tAsg (tTup (tCons (tFld K (tVar 1) "number") (tCons (tC (.str "never")) (tCons (tC .non) tNil)))) (gName 6))
            (tSeq (tFor (iList K (tFld K (tVar 0) "good")) (gTup K 2 (gCons (gName 7) (gCons (gName 8) gNil)))
              (tIfS (tAnd (tTest (tOp rEq (tFld K (tVar 7) "seller") (tFld K (tVar 1) "seller"))) (tTest (tOp (rInD K) (tVar 5) (tVar 8)))) (tAsg (tTup (tCons (tFld K (tVar 1) "number") (tCons (tC (.str "clash")) (tCons (tFld K (tVar 7) "number") tNil)))) (gName 6)) tNext))
              (tDrop (tBM K "list" rAppend (tFld K (tVar 0) "void_rows") (tCons (tVar 6) tNil))))
            { nx := fun x H' => Q V.non H', rt := Q } [some (.ref p), some (.ref a), some (.str z), some (.str r.th.bed), some o4, some (.ref th), none, none, none] H1 := by
        intro H1 th o4 s1 hk
        have X1 := X.grow s1
        have g2 := s1 _ _ g1
        refine ⟨_, rfl, _, _, _, _, _, rfl, g2, T.c_Promise, T.n_Promise_number, l_Promise_number, by show 3 ≤ sizeLine; decide, fun t0 n0 => ?_⟩
        generalize hh : upd H1 t0 _ = H2; obtain ⟨s2, h0⟩ := gen_new hh n0; clear hh
        have X2 := X1.grow s2
        refine ⟨_, rfl, _, _, _, _, _, rfl, X2.ob, T.c_Standing, T.n_Standing_good, l_Standing_good, _, rfl, ⟨_, .of X2.g⟩, ?_⟩
        refine for_it walk_list (fun i σ H' => ∃ tr o7 o8, σ = [some (.ref p), some (.ref a), some (.str z), some (.str r.th.bed), some o4, some (.ref th), some (.ref tr), o7, o8] ∧ Same H2 H' ∧ H' tr = some (.tup [.int r.num, .str (lastOf (s.good.take i) r.seller r.th.key (("never" : Str), none)).1, optV (lastOf (s.good.take i) r.seller r.th.key (("never" : Str), none)).2]))
          ⟨t0, none, none, rfl, Same.refl _, h0⟩ (fun i σ H' _ ⟨_, _, _, _, e, _⟩ => e.seq (.of X2.g)) ?_ ?_
        · rintro i y σ H3 H4 hi ⟨tr, o7, o8, rfl, s3, htr⟩ ⟨rfl, hy⟩
          obtain ⟨e, he, rfl⟩ := ref_at hy
          obtain ⟨en, hen, pa, la, ks, e1, ⟨dx2, t2, e2, _⟩, e3, e4, e5⟩ := X2.ge.left he
          have q1 := s3 _ _ (hid_same _ _ e1)
          have q2 := s3 _ _ (hid_same _ _ e2)
          have q3 := s3 _ _ (hid_same _ _ e3)
          have q4 : L2R (KyAt H4) ks en.2 := e4.mono fun _ _ z => s3 _ _ (hid_same _ _ z)
          have hk4 : KyAt H4 th r.th.key := s3 _ _ (s2 _ _ hk)
          have g4 := s3 _ _ (s2 _ _ g2)
          have tk : s.good.take (i + 1) = s.good.take i ++ [en] := by rw [List.take_add_one, hen]; rfl
          refine ⟨e, _, rfl, .of q1, rfl, _, _, rfl, _, _, rfl, rfl, ?_⟩
          refine ⟨_, rfl, _, _, _, _, _, rfl, q2, T.c_Promise, T.n_Promise_seller, l_Promise_seller, _, rfl, _, _, _, _, _, rfl, g4, T.c_Promise, T.n_Promise_seller, l_Promise_seller, rfl, _, rfl, ?_⟩
          rw [strd]
          by_cases es : en.1.seller = r.seller
          · refine iteD es ⟨_, rfl, _, rfl, kyD r.th.key, en.2.map kyD, kyD_at hk4, .lst (.of q3) (dp_kys q4), kyD_shaped (Ky.key_nm hin.ok.th), kyDs_shaped e5, _, congrArg V.bl (any_ky _ _), ?_⟩
            by_cases ek : r.th.key ∈ en.2
            · refine iteD ek ⟨_, rfl, _, _, _, _, _, rfl, g4, T.c_Promise, T.n_Promise_number, l_Promise_number, _, rfl, _, _, _, _, _, rfl, q2, T.c_Promise, T.n_Promise_number, l_Promise_number, by show 3 ≤ sizeLine; decide, fun t5 n5 => ?_⟩
              generalize hh : upd H4 t5 _ = H5; obtain ⟨s5, h5⟩ := gen_new hh n5; clear hh
              refine ⟨t5, _, _, rfl, s3.trans s5, ?_⟩
              rw [tk, lastOf_snoc, decide_eq_true es, decide_eq_true ek]
              exact h5
            · refine iteDn ek ⟨tr, _, _, rfl, s3, ?_⟩
              rw [tk, lastOf_snoc, decide_eq_true es, decide_eq_false ek]
              exact htr
          · refine iteDn es (iteF ⟨tr, _, _, rfl, s3, ?_⟩)
            rw [tk, lastOf_snoc, decide_eq_false es]
            exact htr
        · rintro σ H3 ⟨tr, o7, o8, rfl, s3, htr⟩
          have X3 := X2.grow s3
          have el : (W.es.map V.ref).length = s.good.length := by rw [List.length_map, X2.ge.1]
          rw [el, List.take_length] at htr
          refine ⟨_, rfl, _, _, _, _, _, rfl, X3.ob, T.c_Standing, T.n_Standing_void_rows, l_Standing_void_rows, .inl ⟨rfl, _, .of X3.v⟩, _, rfl, _, _, _, rfl, rfl, X3.v, by rw [List.length_map]; exact Nat.lt_of_le_of_lt (Nat.le_trans vlen hn) (by decide), ?_⟩
          have vd : VdAt (hid M H3) tr (r.num, lastOf s.good r.seller r.th.key (("never" : Str), none)) := X3.tupM htr
          have X4 := X3.addVoid vd
          rw [← em] at X4
          rw [List.map_append] at X4
          exact k _ _ X4 ((Stp.grow (s1.trans (s2.trans s3))).trans (Stp.mut X3.mp.2.2.2.2.2.1))
      refine ⟨_, rfl, _, _, _, _, _, rfl, g1, T.c_Promise, T.n_Promise_thing, l_Promise_thing, ?_⟩
      cases eth : r.th with
      | root b j =>
        rw [eth] at ht rest
        have hz2 : H t = some (.tup [.str "root", .str b, .int j]) := hid_same _ _ ht
        rw [hz1] at hz2
        injection hz2 with e1; injection e1 with e1; injection e1 with e1 e2; injection e1 with e1; subst e1
        exact ⟨_, rfl, rfl, _, rfl, iteDn (vne kne2) (rest H t v (Same.refl H) (hid_same _ _ ht))⟩
      | offs b j =>
        rw [eth] at ht rest
        have hz2 : H t = some (.tup [.str "offsets", .str b, .int j]) := hid_same _ _ ht
        rw [hz1] at hz2
        injection hz2 with e1; injection e1 with e1; injection e1 with e1 e2; injection e1 with e1; subst e1
        exact ⟨_, rfl, rfl, _, rfl, iteDn (vne kne4) (rest H t v (Same.refl H) (hid_same _ _ ht))⟩
      | share b u =>
        rw [eth] at ht rest
        obtain ⟨q, ht1, _⟩ := ht
        have hz2 := hid_same _ _ ht1
        rw [hz1] at hz2
        injection hz2 with e1; injection e1 with e1; injection e1 with e1 e2; injection e1 with e1; subst e1
        refine ⟨_, rfl, rfl, _, rfl, iteD rfl ⟨_, rfl, by show 2 ≤ sizeLine; decide, fun t2 n2 => ?_⟩⟩
        generalize hh : upd H t2 _ = H1; obtain ⟨s1, h2⟩ := gen_new hh n2; clear hh
        exact rest H1 t2 v s1 h2
end
end Rp


set_option maxRecDepth 100000
set_option maxHeartbeats 4000000
namespace Rp
open PySem PySem.Spec PyProof.Rows L2
section
variable {K : PySem.W.Frag} {M : List Addr} {H H' : Hp} {p f : Addr} {fb : List (Bd × Addr)} {s : SM} {n : Nat} {W : StW}
theorem nodup_snd {α β : Type} : ∀ {l : List (α × β)} {x y : α × β}, (l.map (·.2)).Nodup → x ∈ l → y ∈ l → x.2 = y.2 → x = y
  | [], _, _, _, h, _, _ => by cases h
  | z :: r, x, y, nd, hx, hy, e => by
    rw [List.map_cons] at nd
    obtain ⟨n1, n2⟩ := List.nodup_cons.mp nd
    rcases List.mem_cons.mp hx with e1 | hx'
    · rcases List.mem_cons.mp hy with e2 | hy'
      · rw [e1, e2]
      · exact absurd (List.mem_map.mpr ⟨y, hy', by rw [← e, e1]⟩) n1
    · rcases List.mem_cons.mp hy with e2 | hy'
      · exact absurd (List.mem_map.mpr ⟨x, hx', by rw [e, e2]⟩) n1
      · exact nodup_snd n2 hx' hy' e
/-- the dict of a bed's shares changes -/
theorem StX.setUnits (X : StX K M H p f fb s n W) {b : Str} {da : Addr} {us' : List (Str × Nat)} {kvs' : List (Key × V)} (hb : (b, da) ∈ W.pl) (hu : URel K (hid M H) us' kvs') (l1 : us'.length ≤ 2 * n) (l2 : ∀ x ∈ us', x.2 ≤ 27720 * n) :
    StX K M (upd H da (.dK kvs')) p f fb { s with units := fun m => if m = b then us' else s.units m } n W := by
  obtain ⟨n1, n2, n3, n4, n5, n6⟩ := X.ne
  have hm := X.mp.2.2.2.2.2.2.2 _ hb
  obtain ⟨z, hz⟩ := X.pd _ hb
  have hz : H da = some (.dK z) := hz
  have oth : ∀ {c o}, H c = some o → (∀ z, o ≠ .dK z) → upd H da (.dK kvs') c = some o := fun {c o} e q => by rw [upd_ne (ne_of e hz (q _))]; exact e
  refine ⟨X.m, X.nd, oth X.ob (by intro z q; cases q), by rw [hid_upd hm]; exact X.fld, oth X.hh (by intro z q; cases q), X.hl, X.hv, ?_, X.hpl, fun x hx hs => ?_, X.pn, fun x hx => ?_, ?_, X.sl, X.sv, X.sk, oth X.g (by intro z q; cases q), X.gl, by rw [hid_upd hm]; exact X.ge, oth X.v (by intro z q; cases q), X.vl, by rw [hid_upd hm]; exact X.ve, oth X.gn (by intro z q; cases q), X.n1⟩
  · rw [upd_ne (n5 _ hb).1.symm]; exact X.hp
  · obtain ⟨a, h1, h2, kvs, h3, h4, h5, h6⟩ := X.pv x hx hs
    refine ⟨a, h1, h2, ?_⟩
    rw [hid_upd hm]
    by_cases e : x.1.name = b
    · have ea : a = da := by
        have := X.pn
        -- one entry a name
        have key : ∀ {l : List (Str × Addr)} {c : Str} {u v : Addr}, (l.map (·.1)).Nodup → (c, u) ∈ l → (c, v) ∈ l → u = v := by
          intro l
          induction l with
          | nil => intro c u v _ h; cases h
          | cons y r ih =>
            intro c u v nd hu hv
            rw [List.map_cons] at nd
            obtain ⟨m1, m2⟩ := List.nodup_cons.mp nd
            rcases List.mem_cons.mp hu with e1 | hu
            · rcases List.mem_cons.mp hv with e2 | hv
              · rw [← e1] at e2; exact (Prod.mk.inj e2).2.symm
              · exact absurd (by rw [← e1]; exact List.mem_map.mpr ⟨(c, v), hv, rfl⟩) m1
            · rcases List.mem_cons.mp hv with e2 | hv
              · exact absurd (by rw [← e2]; exact List.mem_map.mpr ⟨(c, u), hu, rfl⟩) m1
              · exact ih m2 hu hv
        exact key X.pn (e ▸ h1) hb
      subst ea
      refine ⟨kvs', upd_same, ?_⟩
      show URel K (hid M H) (if x.1.name = b then us' else s.units x.1.name) kvs' ∧ (if x.1.name = b then us' else s.units x.1.name).length ≤ 2 * n ∧ ∀ y ∈ (if x.1.name = b then us' else s.units x.1.name), y.2 ≤ 27720 * n
      rw [if_pos e]
      exact ⟨hu, l1, l2⟩
    · have ea : a ≠ da := fun q => e (congrArg Prod.fst (nodup_snd n6 h1 hb q))
      refine ⟨kvs, by rw [upd_ne ea]; exact h3, ?_⟩
      show URel K (hid M H) (if x.1.name = b then us' else s.units x.1.name) kvs ∧ (if x.1.name = b then us' else s.units x.1.name).length ≤ 2 * n ∧ ∀ y ∈ (if x.1.name = b then us' else s.units x.1.name), y.2 ≤ 27720 * n
      rw [if_neg e]
      exact ⟨h4, h5, h6⟩
  · by_cases e : x.2 = da
    · exact ⟨kvs', by rw [e]; exact upd_same⟩
    · obtain ⟨z, q⟩ := X.pd x hx
      exact ⟨z, by rw [upd_ne e]; exact q⟩
  · rw [upd_ne (n5 _ hb).2.symm]; exact X.sp
/-- the dict of who holds what changes -/
theorem StX.setHeld (X : StX K M H p f fb s n W) {kvs' : List (List Key × V)} {held' : Ky → Str} (l1 : kvs'.length ≤ 100 * n) (hv : ∀ y, KyIn fb y → valV kvs' (keyOf y) = some (.str (held' y))) :
    StX K M (upd H W.h (.dT kvs')) p f fb { s with held := held' } n { W with kvs := kvs' } := by
  have hm := X.mp.2.1
  have hz := X.hh
  have oth : ∀ {c o}, H c = some o → (∀ z, o ≠ .dT z) → upd H W.h (.dT kvs') c = some o := fun {c o} e q => by rw [upd_ne (ne_of e hz (q _))]; exact e
  refine ⟨X.m, X.nd, oth X.ob (by intro z q; cases q), by rw [hid_upd hm]; exact X.fld, upd_same, l1, hv, oth X.hp (by intro z q; cases q), X.hpl, fun x hx hs => ?_, X.pn, fun x hx => ?_, oth X.sp (by intro z q; cases q), X.sl, X.sv, X.sk, oth X.g (by intro z q; cases q), X.gl, by rw [hid_upd hm]; exact X.ge, oth X.v (by intro z q; cases q), X.vl, by rw [hid_upd hm]; exact X.ve, oth X.gn (by intro z q; cases q), X.n1⟩
  · obtain ⟨a, h1, h2, kvs, h3, h4, h5, h6⟩ := X.pv x hx hs
    refine ⟨a, h1, h2, kvs, oth h3 (by intro z q; cases q), ?_, h5, h6⟩
    rw [hid_upd hm]
    exact h4
  · obtain ⟨z, q⟩ := X.pd x hx
    exact ⟨z, oth q (by intro z q; cases q)⟩
/-- the list of promises that hold grows -/
theorem StX.addGood (X : StX K M H p f fb s n W) {e : Addr} {en : Pr × List Ky} (he : EntAt K (hid M H) e en) :
    StX K M (upd H W.g (.lst ((W.es ++ [e]).map V.ref))) p f fb { s with good := s.good ++ [en] } (n + 1) { W with es := W.es ++ [e] } := by
  obtain ⟨n1, n2, n3, n4, n5, n6⟩ := X.ne
  have hm := X.mp.2.2.2.2.1
  have hz := X.g
  have oth : ∀ {c o}, H c = some o → (∀ z, o ≠ .lst z) → upd H W.g (.lst ((W.es ++ [e]).map V.ref)) c = some o := fun {c o} e q => by rw [upd_ne (ne_of e hz (q _))]; exact e
  refine ⟨X.m, X.nd, oth X.ob (by intro z q; cases q), by rw [hid_upd hm]; exact X.fld, oth X.hh (by intro z q; cases q), by have := X.hl; show W.kvs.length ≤ _; omega, X.hv, oth X.hp (by intro z q; cases q), by have := X.hpl; show W.pvs.length ≤ _; omega, fun x hx hs => ?_, X.pn, fun x hx => ?_, oth X.sp (by intro z q; cases q), by have := X.sl; show W.svs.length ≤ _; omega, X.sv, X.sk, upd_same, ?_, by rw [hid_upd hm]; exact X.ge.snoc he, ?_, by have := X.vl; show W.vs.length ≤ _; omega, by rw [hid_upd hm]; exact X.ve, ?_, by omega⟩
  · obtain ⟨a, h1, h2, kvs, h3, h4, h5, h6⟩ := X.pv x hx hs
    refine ⟨a, h1, h2, ?_⟩
    rw [hid_upd hm]
    exact UAt.mono ⟨kvs, oth h3 (by intro z q; cases q), h4, h5, h6⟩ (Nat.le_succ n)
  · obtain ⟨z, q⟩ := X.pd x hx
    exact ⟨z, oth q (by intro z q; cases q)⟩
  · show (W.es ++ [e]).length + s.gone.length ≤ _
    rw [List.length_append]
    have := X.gl
    simp
    omega
  · show upd H W.g _ W.v = _
    rw [upd_ne n2.symm]; exact X.v
  · show upd H W.g _ W.gn = _
    rw [upd_ne n3.symm]; exact X.gn
end
section
variable {P : Program} {w : World} {K : PySem.W.Frag} {mg : Str → Option Value} {base : Heap}
def sp_Standing_go (K : PySem.W.Frag) : Sp := fun vs H Q _ => ∃ (p a f : Addr) (M : List Addr) (fb : List (Bd × Addr)) (s : SM) (n : Nat) (W : StW) (r : Pr) (x : Bd × Addr), vs = [.ref p, .ref a] ∧ StX K M H p f fb s n W ∧ n ≤ 1000 ∧ PrAt K (hid M H) a r ∧ PrIn fb r x ∧ s.holds r = true ∧
  ∀ H' W', StX K M H' p f fb (s.go r) (n + 2) W' → Stp M H M H' → Q .non H'
theorem StX.insM {M : List Addr} {H : Hp} {p f : Addr} {fb : List (Bd × Addr)} {s : SM} {n : Nat} {W : StW} (X : StX K M H p f fb s n W) {q C dx : Addr} {fs : List (Str × V)} (h : H q = some (.ins C dx fs)) (hn : q ≠ p) : hid M H q = some (.ins C dx fs) := hid_of h fun m => by
  rw [X.m, List.mem_append] at m
  rcases m with m | m
  · simp only [List.mem_cons, List.not_mem_nil, or_false] at m
    rcases m with rfl | rfl | rfl | rfl | rfl | rfl | rfl
    · exact hn rfl
    · rw [X.hh] at h; cases h
    · rw [X.hp] at h; cases h
    · rw [X.sp] at h; cases h
    · rw [X.g] at h; cases h
    · rw [X.v] at h; cases h
    · rw [X.gn] at h; cases h
  · obtain ⟨y, hy, rfl⟩ := List.mem_map.mp m
    obtain ⟨z, q⟩ := X.pd y hy
    rw [q] at h; cases h
theorem pt_ne_st {H : Hp} {q p dx : Addr} {u : Nat} {f h pp sp g v gn : Addr} (hq : PtAt K H q u) (hp : H p = some (.ins (A_Standing K) dx (fsSt f h pp sp g v gn))) : q ≠ p := by
  obtain ⟨dq, hq⟩ := hq
  exact ne_of hq hp (by intro z; injection z with z1 z2 z3; exact absurd (congrArg List.length z3) (by show ¬ 2 = 7; decide))
/-- a new part is none of what may change -/
theorem StX.ptM {M : List Addr} {H : Hp} {p f : Addr} {fb : List (Bd × Addr)} {s : SM} {n : Nat} {W : StW} (X : StX K M H p f fb s n W) {q : Addr} {u : Nat} (h : PtAt K H q u) : PtAt K (hid M H) q u := by
  have hn := pt_ne_st h X.ob
  obtain ⟨dq, h⟩ := h
  exact ⟨dq, X.insM h hn⟩
theorem ok_Standing_go (T : Tx K mg) : FnOk P w K mg base CX0 5 (He.ma K (He.ga K "Standing") "go") (fdOf K dd_Standing_go) ["self", "promise"] (sp_Standing_go K) := by
  refine okF T.d_Standing_go sc_Standing_go (fun vs H Q E h => ?_) (fun cdv A outer s H vs Q E hr h => ?_)
  · obtain ⟨_, _, _, _, _, _, _, _, _, _, rfl, _⟩ := h; rfl
  · obtain ⟨p, a, f, M, fb, s, n, W, r, x, rfl, X, hn, hr0, hin, hh, k⟩ := h
    have hu := hu_of hr
    refine ⟨_, (pss_cons (ps_asg (pe_fldK K rfl (pv 1) rfl) (pg_tup rfl (pgs_cons (pg_name (i := 2) sc_Standing_go.nd rfl (by first | exact Or.inl rfl | exact Or.inr rfl)) (pgs_cons (pg_name (i := 3) sc_Standing_go.nd rfl (by first | exact Or.inl rfl | exact Or.inr rfl)) (pgs_cons (pg_name (i := 4) sc_Standing_go.nd rfl (by first | exact Or.inl rfl | exact Or.inr rfl)) pgs_nil)))))
      (pss_cons (ps_if (pt_cmpR op_eq (pv 2) pe_str (nomark _)) (pss_cons (ps_set (i := 5) sc_Standing_go.nd rfl (by first | exact Or.inl rfl | exact Or.inr rfl) (pe_dget hu (pe_fldK K rfl (pv 0) rfl) (pv 3) (fun _ _ => rfl)))
      (pss_cons (ps_dput hu (pv 5) (pe_fldK K rfl (pv 1) rfl) (pe_call (ok_minus T) (hr.mono (by decide)) rfl T.g_minus T.d_minus.kp T.b_minus .nil pass0 (pa_cons (pe_dget hu (pv 5) (pe_fldK K rfl (pv 1) rfl) (fun _ _ => rfl)) (pa_cons (pv 4) pa_nil))) rfl)
      (pss_cons (ps_dput hu (pv 5) (pe_fldK K rfl (pv 1) rfl) (pe_call (ok_plus T) (hr.mono (by decide)) rfl T.g_plus T.d_plus.kp T.b_plus .nil pass0 (pa_cons (pe_dget2 hu (pv 5) (pe_fldK K rfl (pv 1) rfl) (pe_make T.mk_Part (ok_Part_init T) (hr.mono (by decide)) rfl T.g_Part (bP1 T) (rP1 T) pass0 (pa_cons pe_int pa_nil)) ⟨rfl, rfl, rfl, rfl⟩) (pa_cons (pv 4) pa_nil))) rfl)
      (pss_cons (ps_expr (pe_bm PySem.F.plainAttrs_list PySem.F.slot_list_append PySem.F.type_list_append mt_append (pe_fldK K rfl (pv 0) rfl) (pa_cons (pe_tup (pa_cons (pv 1) (pa_cons (pe_lst (pa_cons (pe_tup (pa_cons pe_str (pa_cons (pv 3) pa_nil))) pa_nil)) pa_nil))) pa_nil)))
      (pss_one ps_retN))))) pss_nil)
      (pss_cons (ps_set (i := 6) sc_Standing_go.nd rfl (by first | exact Or.inl rfl | exact Or.inr rfl) (pe_meth (pv 0) T.c_Standing T.m_Standing_moves (ok_Standing_moves T) (hr.mono (by decide)) T.b_Standing_moves .nil pass0 (pa_cons (pv 1) pa_nil)))
      (pss_cons (ps_for PassesOwn.never rfl (pi_list (pv 6)) (pg_name (i := 7) sc_Standing_go.nd rfl (by first | exact Or.inl rfl | exact Or.inr rfl)) (pss_one (ps_dput hu (pe_fldK K rfl (pv 0) rfl) (pv 7) (pe_fldK K rfl (pv 1) rfl) rfl)))
      (pss_one (ps_expr (pe_bm PySem.F.plainAttrs_list PySem.F.slot_list_append PySem.F.type_list_append mt_append (pe_fldK K rfl (pv 0) rfl) (pa_cons (pe_tup (pa_cons (pv 1) (pa_cons (pv 6) pa_nil))) pa_nil)))))))), ?_⟩
    have hr1 := hr0
    obtain ⟨dx, t, h1, ht⟩ := hr0
    have g1 := hid_same _ _ h1
    have glen : W.es.length < sizeLine := Nat.lt_of_le_of_lt (Nat.le_trans (Nat.le_trans (Nat.le_add_right _ _) X.gl) hn) (by decide)
    by_cases hsh : ∃ b u, r.th = .share b u
    · obtain ⟨b, u, eth⟩ := hsh
      rw [eth] at ht
      obtain ⟨q, ht1, hq⟩ := ht
      have ht2 := hid_same _ _ ht1
      have inb := hin.inb
      rw [eth] at inb
      obtain ⟨rfl, sh⟩ := inb
      have ok := hin.ok.th
      rw [eth] at ok
      obtain ⟨okn, u0, u1, _⟩ := ok
      have X1 := X.mono (Nat.le_succ n)
      obtain ⟨da, h2, h3, kvs, h4, h5, h6, h7⟩ := X.pv x hin.m sh
      have hle : u ≤ getU (s.units x.1.name) r.seller := by
        unfold SM.holds at hh
        rw [eth] at hh
        exact of_decide_eq_true hh
      have bnd := getU_le (n := r.seller) h7
      have klen : kvs.length < sizeLine - 10 := by
        have e1 := Paired.length h5
        rw [← e1, sizeLine_eq]
        omega
      have g : DGet H W.pp (.str x.1.name) (some (.ref da)) := by
        have := DGet.k (k := Sum.inr x.1.name) X.hp
        rw [h3] at this
        exact this
      obtain ⟨q2, e1, e2⟩ : ∃ q2, valV kvs (Sum.inr r.seller : Key) = some (.ref q2) ∧ PtAt K (hid M H) q2 (getU (s.units x.1.name) r.seller) := by
        rcases h5.get r.seller with ⟨_, e2⟩ | z
        · omega
        · exact z
      have g2 : DGet H da (.str r.seller) (some (.ref q2)) := by
        have := DGet.k (k := Sum.inr r.seller) h4
        rw [e1] at this
        exact this
      refine ⟨_, rfl, _, _, _, _, _, rfl, g1, T.c_Promise, T.n_Promise_thing, l_Promise_thing, t, _, rfl, .of ht2, rfl, _, _, rfl, _, _, rfl, _, _, rfl, rfl, ?_⟩
      refine ⟨_, rfl, rfl, _, rfl, iteD rfl ⟨_, rfl, _, _, _, _, _, rfl, X.ob, T.c_Standing, T.n_Standing_parts, l_Standing_parts, _, rfl, _, _, rfl, g, ?_⟩⟩
      -- shares[seller] = minus(..)
      refine ⟨_, rfl, _, rfl, _, _, _, _, _, rfl, g1, T.c_Promise, T.n_Promise_seller, l_Promise_seller, _, _, rfl, g2, _, rfl, q2, q, _, u, rfl, e2.same hid_same, hq.same hid_same, hle, by omega, by omega, fun r1 H1 nr1 s1 hr1' => ?_⟩
      have X1 := X1.grow s1
      have pr1 := X1.ptM hr1'
      have h41 := s1 _ _ h4
      refine ⟨_, rfl, _, rfl, _, _, _, _, _, rfl, (s1 _ _ g1), T.c_Promise, T.n_Promise_seller, l_Promise_seller, _, _, rfl, DPut.k (k := .inr r.seller) h41 (by omega), ?_⟩
      have e12 : Same (hid M H) (hid M H1) := (Stp.grow s1).sub
      have u1r := (h5.same e12).put (n := r.seller) pr1
      have hmD := X1.mp.2.2.2.2.2.2.2 _ h2
      have l1 := putU_len (s.units x.1.name) r.seller (getU (s.units x.1.name) r.seller - u)
      have b1 : ∀ y ∈ putU (s.units x.1.name) r.seller (getU (s.units x.1.name) r.seller - u), y.2 ≤ 27720 * n := fun y hy => by
        rcases putU_mem hy with rfl | hy
        · show _ - u ≤ _; omega
        · exact h7 y hy
      have X2 := X1.setUnits h2 u1r (by omega) (fun y hy => by have := b1 y hy; omega)
      have s12 : Stp M H M _ := (Stp.grow s1).trans (Stp.mut (o := .dK (putK kvs (Sum.inr r.seller : Key) (.ref r1))) hmD)
      have hda2 : upd H1 da (.dK (putK kvs (Sum.inr r.seller : Key) (.ref r1))) da = some _ := upd_same
      generalize upd H1 da (.dK (putK kvs (Sum.inr r.seller : Key) (.ref r1))) = H2 at X2 s12 hda2 ⊢
      have g12 := s12.same _ _ h1
      have hq2 : PtAt K H2 q u := hq.same s12.same
      have u2r : URel K (hid M H2) (putU (s.units x.1.name) r.seller (getU (s.units x.1.name) r.seller - u)) (putK kvs (Sum.inr r.seller : Key) (.ref r1)) := by
        obtain ⟨a', m1, m2, kvs2, m3, m4, _⟩ := X2.pv x hin.m sh
        have ea : a' = da := by
          rw [h3] at m2; cases m2; rfl
        rw [ea, hda2] at m3
        cases m3
        have m5 : URel K (hid M H2) (if x.1.name = x.1.name then _ else _) _ := m4
        rw [if_pos rfl] at m5
        exact m5
      -- shares[buyer] = plus(..)
      refine ⟨_, rfl, da, rfl, .inl ⟨_, .of hda2⟩, _, rfl, _, _, _, _, _, rfl, g12, T.c_Promise, T.n_Promise_buyer, l_Promise_buyer, ?_⟩
      intro z dq nq nd ne
      refine ⟨z, dq, 0, 1, rfl, upd_same, ?_, ?_, fun H3 e1 e2 => ⟨rfl, ?_⟩⟩
      · omega
      · omega
      obtain ⟨s3, hz⟩ := mk_part (t := 0) (b := 1) nq nd e1 e2 (by omega) part0
      clear e1 e2 ne nd
      have X3 := X2.grow s3
      have hda3 := s3 _ _ hda2
      have g13 := s3 _ _ g12
      have e23 : Same (hid M H2) (hid M H3) := (Stp.grow s3).sub
      have bnd2 := getU_le (n := r.buyer) b1
      have dg := DGet.k (k := Sum.inr r.buyer) hda3
      obtain ⟨o, qo, e3, e4, e5⟩ : ∃ (o : Option V) (qo : Addr), valV (putK kvs (Sum.inr r.seller : Key) (.ref r1)) (Sum.inr r.buyer : Key) = o ∧ o.getD (.ref z) = .ref qo ∧ PtAt K H3 qo (getU (putU (s.units x.1.name) r.seller (getU (s.units x.1.name) r.seller - u)) r.buyer) := by
        rcases u2r.get r.buyer with ⟨m1, m2⟩ | ⟨qo, m1, m2⟩
        · exact ⟨none, z, m1, rfl, by rw [m2]; exact hz⟩
        · exact ⟨some (.ref qo), qo, m1, rfl, (m2.same hid_same).same s3⟩
      rw [e3] at dg
      refine ⟨o, dg, _, rfl, qo, q, _, u, congrArg (fun v => [v, V.ref q]) e4, e5, hq2.same s3, by omega, by omega, fun r2 H4 nr2 s4 hr2' => ?_⟩
      have X4 := X3.grow s4
      have pr2 := X4.ptM hr2'
      have hda4 := s4 _ _ hda3
      have ll := length_putK kvs (Sum.inr r.seller : Key) (.ref r1)
      refine ⟨_, rfl, _, rfl, _, _, _, _, _, rfl, (s4 _ _ g13), T.c_Promise, T.n_Promise_buyer, l_Promise_buyer, _, _, rfl, DPut.k (k := .inr r.buyer) hda4 (by omega), ?_⟩
      have e34 : Same (hid M H2) (hid M H4) := e23.trans (Stp.grow s4).sub
      have u4r := (u2r.same e34).put (n := r.buyer) pr2
      have l2 := putU_len (putU (s.units x.1.name) r.seller (getU (s.units x.1.name) r.seller - u)) r.buyer (getU (putU (s.units x.1.name) r.seller (getU (s.units x.1.name) r.seller - u)) r.buyer + u)
      have X5 := X4.setUnits h2 u4r (by omega) (fun y hy => by
        rcases putU_mem hy with rfl | hy
        · show _ + u ≤ _; omega
        · have := b1 y hy; omega)
      have s15 := s12.trans ((Stp.grow (s3.trans s4)).trans (Stp.mut (o := .dK (putK (putK kvs (Sum.inr r.seller : Key) (.ref r1)) (Sum.inr r.buyer : Key) (.ref r2))) hmD))
      generalize upd H4 da (.dK (putK (putK kvs (Sum.inr r.seller : Key) (.ref r1)) (Sum.inr r.buyer : Key) (.ref r2))) = H5 at X5 s15 ⊢
      have g15 := s15.same _ _ h1
      -- self.good.append(..)
      refine ⟨_, rfl, _, _, _, _, _, rfl, X5.ob, T.c_Standing, T.n_Standing_good, l_Standing_good, .inl ⟨rfl, _, .of X5.g⟩, _, rfl, _, rfl, by show 2 ≤ sizeLine; decide, fun t1 nt1 => ?_⟩
      generalize hh : upd H5 t1 _ = H6; obtain ⟨s6, ht1'⟩ := gen_new hh nt1; clear hh
      refine ⟨by show 1 ≤ sizeLine; decide, fun l1 nl1 => ?_⟩
      generalize hh : upd H6 l1 _ = H7; obtain ⟨s7, hl1⟩ := gen_new hh nl1; clear hh
      refine ⟨by show 2 ≤ sizeLine; decide, fun t2 nt2 => ?_⟩
      generalize hh : upd H7 t2 _ = H8; obtain ⟨s8, ht2'⟩ := gen_new hh nt2; clear hh
      have X8 := X5.grow (s6.trans (s7.trans s8))
      refine ⟨_, _, _, rfl, rfl, X8.g, by rw [List.length_map]; exact glen, ?_⟩
      have s18 := s15.trans (Stp.grow (s6.trans (s7.trans s8)))
      have nl1M : l1 ∉ M := X5.notM (s6.free nl1)
      have en : EntAt K (hid M H8) t2 (r, [Ky.share x.1.name]) := ⟨a, l1, [t1], X8.tupM ht2', hr1.same s18.sub, hid_of (s8 _ _ hl1) nl1M, L2R.cons (X8.tupM (s8 _ _ (s7 _ _ ht1'))) .nil, fun y hy => by
        rw [List.mem_singleton] at hy
        rw [hy]
        exact okn⟩
      have X9 := X8.addGood en
      rw [List.map_append] at X9
      have em : s.go r = { s with units := fun m => if m = x.1.name then moved (s.units x.1.name) r u else s.units m, good := s.good ++ [(r, [Ky.share x.1.name])] } := by unfold SM.go; rw [eth]
      have eu : (fun m => if m = x.1.name then putU (putU (s.units x.1.name) r.seller (getU (s.units x.1.name) r.seller - u)) r.buyer (getU (putU (s.units x.1.name) r.seller (getU (s.units x.1.name) r.seller - u)) r.buyer + u) else if m = x.1.name then putU (s.units x.1.name) r.seller (getU (s.units x.1.name) r.seller - u) else s.units m) = fun m => if m = x.1.name then moved (s.units x.1.name) r u else s.units m := by
        funext m
        by_cases e : m = x.1.name
        · rw [if_pos e, if_pos e]; rfl
        · rw [if_neg e, if_neg e, if_neg e]
      rw [em, ← eu] at k
      exact k _ _ X9 (s18.trans (Stp.mut X8.mp.2.2.2.2.1))
    · have hns : ∀ b u, r.th ≠ .share b u := fun b u e => hsh ⟨b, u, e⟩
      obtain ⟨z, v, hz⟩ := ht.tup
      have hz1 := hid_same _ _ hz
      have zne : V.str z ≠ V.str "share" := by
        cases eth : r.th with
        | root b j =>
          rw [eth] at ht
          have hz2 : hid M H t = some (.tup [.str "root", .str b, .int j]) := ht
          rw [hz] at hz2
          injection hz2 with e1; injection e1 with e1; injection e1 with e1 e2; injection e1 with e1; subst e1
          exact vne kne2
        | offs b j =>
          rw [eth] at ht
          have hz2 : hid M H t = some (.tup [.str "offsets", .str b, .int j]) := ht
          rw [hz] at hz2
          injection hz2 with e1; injection e1 with e1; injection e1 with e1 e2; injection e1 with e1; subst e1
          exact vne kne4
        | share b u => exact absurd eth (hns b u)
      refine ⟨_, rfl, _, _, _, _, _, rfl, g1, T.c_Promise, T.n_Promise_thing, l_Promise_thing, t, _, rfl, .of hz1, rfl, _, _, rfl, _, _, rfl, _, _, rfl, rfl, ?_⟩
      refine ⟨_, rfl, rfl, _, rfl, iteDn zne ?_⟩
      refine ⟨_, rfl, _, _, _, rfl, X.ob, lm_Standing_moves, _, rfl, p, a, f, M, fb, s, n, W, r, x, rfl, X, hr1, hin, hns, fun l ks H1 s1 nl hl hks => ?_⟩
      have X1 := (X.grow s1).mono (Nat.le_succ n)
      have nlM : l ∉ M := X.notM nl
      have hl1 : hid M H1 l = some (.lst (ks.map V.ref)) := hid_of hl nlM
      have hks1 : L2R (KyAt (hid M H1)) ks (s.moves r) := hks.mono fun _ _ z => X1.tupM z
      have g11 : hid M H1 a = some (.ins (A_Promise K) dx (fsPr r t)) := (Stp.grow s1).sub _ _ h1
      have ml : (s.moves r).length ≤ 2 := by
        unfold SM.moves
        split
        · split <;> simp
        · simp
      refine ⟨_, rfl, l, rfl, ⟨_, .of hl⟩, ?_⟩
      refine for_it walk_list (fun i σ H' => ∃ kvs' x7, σ = [some (.ref p), some (.ref a), some (.str z), some (.str r.th.bed), some v, none, some (.ref l), x7] ∧ StX K M H' p f fb { s with held := fun y => if y ∈ (s.moves r).take i then r.buyer else s.held y } (n + 1) { W with kvs := kvs' } ∧ kvs'.length ≤ W.kvs.length + i ∧ Stp M H1 M H')
        ⟨W.kvs, none, rfl, X1, Nat.le_refl _, Stp.refl⟩ (fun i σ H' _ ⟨_, _, _, _, _, e⟩ => e.same.seq (.of hl1)) ?_ ?_
      · rintro i y σ H3 H4 hi ⟨kvs', x7, rfl, X3, le3, s3⟩ ⟨rfl, hy⟩
        obtain ⟨e, he, rfl⟩ := ref_at hy
        obtain ⟨ky, hky, hk⟩ := hks1.left he
        have il : i < (s.moves r).length := (List.getElem?_eq_some_iff.mp hky).1
        have bl := X.hl
        have blk : kvs'.length < sizeLine := by
          have : kvs'.length ≤ 100002 := by omega
          exact Nat.lt_of_le_of_lt this (by decide)
        refine ⟨_, rfl, _, _, _, _, _, rfl, (s3.same _ _ g11), T.c_Promise, T.n_Promise_buyer, l_Promise_buyer, _, rfl, _, _, _, _, _, rfl, X3.ob, T.c_Standing, T.n_Standing_held, l_Standing_held, _, rfl, _, _, rfl, DPut.t X3.hh (s3.same _ _ hk) blk, ?_⟩
        have ll := length_putK kvs' (keyOf ky) (.str r.buyer)
        have tk : (s.moves r).take (i + 1) = (s.moves r).take i ++ [ky] := by rw [List.take_add_one, hky]; rfl
        refine ⟨_, _, rfl, X3.setHeld (kvs' := putK kvs' (keyOf ky) (.str r.buyer)) (held' := fun y => if y ∈ (s.moves r).take (i + 1) then r.buyer else s.held y) (by omega) (fun y hy => ?_), by omega, s3.trans (Stp.mut X.mp.2.1)⟩
        rw [valV_put]
        by_cases e1 : keyOf y = keyOf ky
        · rw [if_pos e1, tk, if_pos (by rw [keyOf_inj e1]; simp)]
        · rw [if_neg e1]
          have := X3.hv y hy
          rw [this, tk]
          have e2 : y ≠ ky := fun q => e1 (by rw [q])
          simp [e2]
      · rintro σ H3 ⟨kvs', x7, rfl, X3, le3, s3⟩
        have el : (ks.map V.ref).length = (s.moves r).length := by rw [List.length_map, hks1.1]
        rw [el, List.take_length] at X3
        have g13 := s3.same _ _ g11
        refine ⟨_, rfl, _, _, _, _, _, rfl, X3.ob, T.c_Standing, T.n_Standing_good, l_Standing_good, .inl ⟨rfl, _, .of X3.g⟩, _, rfl, _, rfl, by show 2 ≤ sizeLine; decide, fun t2 nt2 => ?_⟩
        generalize hh : upd H3 t2 _ = H4; obtain ⟨s4, ht2⟩ := gen_new hh nt2; clear hh
        have X4 := X3.grow s4
        refine ⟨_, _, _, rfl, rfl, X4.g, by rw [List.length_map]; exact glen, ?_⟩
        have s14 := (Stp.grow s1).trans (s3.trans (Stp.grow s4))
        have en : EntAt K (hid M H4) t2 (r, s.moves r) := ⟨a, l, ks, X4.tupM ht2, hr1.same s14.sub, (s3.trans (Stp.grow s4)).sub _ _ hl1, hks1.mono fun _ _ z => (s3.trans (Stp.grow s4)).sub _ _ z, fun y hy => by
          have ok := hin.ok.th
          have ym : y.bed = r.th.bed := by
            unfold SM.moves at hy
            split at hy
            · rename_i e
              rw [e]
              split at hy <;> simp at hy
              · rcases hy with rfl | rfl <;> rfl
              · rw [hy]; rfl
            · simp at hy
              rw [hy, Th.key_bed]
          rw [ym, ← Th.key_bed]
          exact Ky.key_nm ok⟩
        have X9 := X4.addGood en
        rw [List.map_append] at X9
        have em : s.go r = { s with held := fun y => if y ∈ s.moves r then r.buyer else s.held y, good := s.good ++ [(r, s.moves r)] } := by
          unfold SM.go
          split
          · rename_i b u e; exact absurd e (hns b u)
          · rfl
        rw [em] at k
        exact k _ _ X9 (s14.trans (Stp.mut X4.mp.2.2.2.2.1))
end
end Rp


set_option maxRecDepth 100000
set_option maxHeartbeats 4000000
namespace Rp
open PySem PySem.Spec PyProof.Rows L2
theorem nodup_swap {α : Type} {l1 l2 : List α} {g g' : α} (h : (l1 ++ g :: l2).Nodup) (n : g' ∉ l1 ++ g :: l2) : (l1 ++ g' :: l2).Nodup := by
  rw [List.perm_middle.nodup_iff] at h ⊢
  obtain ⟨_, h⟩ := List.nodup_cons.mp h
  refine List.nodup_cons.mpr ⟨fun m => n ?_, h⟩
  rcases List.mem_append.mp m with m | m
  · exact List.mem_append_left _ m
  · exact List.mem_append_right _ (List.mem_cons_of_mem _ m)
theorem name_inj {fa : List (Bd × Addr)} {x y : Bd × Addr} (nd : (fa.map fun x => x.1.name).Nodup) (hx : x ∈ fa) (hy : y ∈ fa) (e : x.1.name = y.1.name) : x = y := by
  induction fa with
  | nil => cases hx
  | cons z r ih =>
    rw [List.map_cons] at nd
    obtain ⟨n1, n2⟩ := List.nodup_cons.mp nd
    rcases List.mem_cons.mp hx with e1 | hx'
    · rcases List.mem_cons.mp hy with e2 | hy'
      · rw [e1, e2]
      · exact absurd (List.mem_map.mpr ⟨y, hy', by rw [← e, e1]⟩) n1
    · rcases List.mem_cons.mp hy with e2 | hy'
      · exact absurd (List.mem_map.mpr ⟨x, hx', by rw [e, e2]⟩) n1
      · exact ih n2 hx' hy'
theorem bedOf_eq {fa : List (Bd × Addr)} {fb : List (Bd × Addr)} {x : Bd × Addr} (nd : (fa.map fun x => x.1.name).Nodup) (sub : ∀ y ∈ fb, y ∈ fa) (hx : x ∈ fb) : bedOf (fb.map (·.1)) x.1.name = x.1 := by
  unfold bedOf
  cases e : (fb.map (·.1)).find? fun b => decide (b.name = x.1.name) with
  | none =>
    have := List.find?_eq_none.mp e x.1 (List.mem_map.mpr ⟨x, hx, rfl⟩)
    simp at this
  | some b =>
    obtain ⟨y, hy, rfl⟩ := List.mem_map.mp (List.mem_of_find?_eq_some e)
    have e2 : y.1.name = x.1.name := by simpa using List.find?_some e
    show y.1 = x.1
    rw [name_inj nd (sub y hy) (sub x hx) e2]
section
variable {K : PySem.W.Frag} {M : List Addr} {H H' : Hp} {p f : Addr} {fb : List (Bd × Addr)} {s : SM} {n : Nat} {W : StW}
/-- the dict of the spoilt beds grows -/
theorem StX.setSpoilt (X : StX K M H p f fb s n W) (b : Str) (num : Int) :
    StX K M (upd H W.sp (.dK (putK W.svs (.inr b) (.int num)))) p f fb { s with spoilt := fun m => if m = b then some num else s.spoilt m } (n + 1) { W with svs := putK W.svs (.inr b) (.int num) } := by
  obtain ⟨n1, n2, n3, n4, n5, n6⟩ := X.ne
  have hm := X.mp.2.2.2.1
  have hz := X.sp
  have oth : ∀ {c o}, H c = some o → (∀ z, o ≠ .dK z) → upd H W.sp (.dK (putK W.svs (.inr b) (.int num))) c = some o := fun {c o} e q => by rw [upd_ne (ne_of e hz (q _))]; exact e
  have ll := length_putK W.svs (Sum.inr b : Key) (.int num)
  refine ⟨X.m, X.nd, oth X.ob (by intro z q; cases q), by rw [hid_upd hm]; exact X.fld, oth X.hh (by intro z q; cases q), by have := X.hl; show W.kvs.length ≤ _; omega, X.hv, ?_, by have := X.hpl; show W.pvs.length ≤ _; omega, fun x hx hs => ?_, X.pn, fun x hx => ?_, upd_same, ?_, fun c => ?_, ?_, oth X.g (by intro z q; cases q), ?_, by rw [hid_upd hm]; exact X.ge, oth X.v (by intro z q; cases q), by have := X.vl; show W.vs.length ≤ _; omega, by rw [hid_upd hm]; exact X.ve, oth X.gn (by intro z q; cases q), by omega⟩
  · show upd H W.sp _ W.pp = _
    rw [upd_ne n1]; exact X.hp
  · obtain ⟨a, h1, h2, kvs, h3, h4, h5, h6⟩ := X.pv x hx hs
    refine ⟨a, h1, h2, ?_⟩
    rw [hid_upd hm]
    exact UAt.mono ⟨kvs, by rw [upd_ne (n5 _ h1).2]; exact h3, h4, h5, h6⟩ (Nat.le_succ n)
  · obtain ⟨z, q⟩ := X.pd x hx
    exact ⟨z, by rw [upd_ne (n5 _ hx).2]; exact q⟩
  · show (putK W.svs (.inr b) (.int num)).length ≤ n + 1
    have := X.sl
    omega
  · show valV (putK W.svs (.inr b) (.int num)) (Sum.inr c : Key) = (if c = b then some num else s.spoilt c).map V.int
    rw [valV_put]
    by_cases e : c = b
    · rw [if_pos (by rw [e]), if_pos e]; rfl
    · rw [if_neg (fun z => e (Sum.inr.inj z)), if_neg e]; exact X.sv c
  · obtain ⟨ks, e⟩ := X.sk
    show ∃ ks : List Str, (putK W.svs (.inr b) (.int num)).map (·.1) = ks.map Sum.inr
    unfold putK
    split
    · refine ⟨ks, ?_⟩
      rw [List.map_map, ← e]
      refine List.map_congr_left fun x _ => ?_
      show (if x.1 = Sum.inr b then (x.1, V.int num) else x).1 = x.1
      split <;> rfl
    · exact ⟨ks ++ [b], by rw [List.map_append, e, List.map_append]; rfl⟩
  · show W.es.length + s.gone.length ≤ _
    have := X.gl
    omega
def EntP (K : PySem.W.Frag) (I H : Hp) (e : Addr) (x : Pr × List Ky) : Prop := ∃ a la ks, H e = some (.tup [.ref a, .ref la]) ∧ PrAt K I a x.1 ∧ I la = some (.lst (ks.map V.ref)) ∧ L2R (KyAt I) ks x.2 ∧ ∀ y ∈ x.2, IsNm y.bed
/-- promises are undone: the list of them grows, and those that hold are told anew -/
theorem StX.cut (X : StX K M H p f fb s n W) {g' : Addr} {es' : List Addr} {good' : List (Pr × List Ky)} {add : List Int} (hg : H g' = none) (fr : ∀ c o, c ≠ W.gn → c ≠ p → H c = some o → H' c = some o)
    (ob : H' p = some (.ins (A_Standing K) W.dx (fsSt f W.h W.pp W.sp g' W.v W.gn))) (gn : H' W.gn = some (.lst ((s.gone ++ add).map V.int))) (g : H' g' = some (.lst (es'.map V.ref)))
    (gl : es'.length + add.length ≤ W.es.length) (ge : L2R (EntP K (hid M H) H') es' good') :
    ∃ M' W', StX K M' H' p f fb { s with gone := s.gone ++ add, good := good' } n W' ∧ Stp M H M' H' ∧ W'.fa = W.fa ∧ W'.h = W.h ∧ W'.pp = W.pp ∧ W'.kvs = W.kvs ∧ W'.pvs = W.pvs ∧ W'.dx = W.dx ∧ W'.sp = W.sp ∧ W'.g = g' ∧ W'.v = W.v ∧ W'.gn = W.gn := by
  obtain ⟨n1, n2, n3, n4, n5, n6⟩ := X.ne
  have gM := X.notM hg
  have mp := X.mp
  have nd' : ([p, W.h, W.pp, W.sp, g', W.v, W.gn] ++ W.pl.map (·.2)).Nodup := by
    have h1 := X.nd
    have h2 := gM
    rw [X.m] at h1 h2
    exact nodup_swap (l1 := [p, W.h, W.pp, W.sp]) (l2 := [W.v, W.gn] ++ W.pl.map (·.2)) (g := W.g) h1 h2
  have st : Stp M H ([p, W.h, W.pp, W.sp, g', W.v, W.gn] ++ W.pl.map (·.2)) H' := ⟨fun c o e => by
    obtain ⟨m, e⟩ := of_hid e
    exact fr _ _ (fun z => m (by rw [z]; exact mp.2.2.2.2.2.2.1)) (fun z => m (by rw [z]; exact mp.1)) e, fun m hm => by
    by_cases e : m = g'
    · exact .inr (by rw [e]; exact hg)
    · refine .inl ?_
      rw [X.m]
      simp only [List.cons_append, List.nil_append, List.mem_cons] at hm ⊢
      rcases hm with h | h | h | h | h | h
      · exact .inl h
      · exact .inr (.inl h)
      · exact .inr (.inr (.inl h))
      · exact .inr (.inr (.inr (.inl h)))
      · exact absurd h e
      · exact .inr (.inr (.inr (.inr (.inr h))))⟩
  have np : ∀ {c o}, H c = some o → (∀ C dx fs, o ≠ .ins C dx fs) → (∀ z, o ≠ .lst z) → H' c = some o := fun {c o} e q1 q2 => fr _ _ (ne_of e X.gn (q2 _)) (ne_of e X.ob (q1 _ _ _)) e
  have v' : H' W.v = some (.lst (W.vs.map V.ref)) := fr _ _ n4 (ne_of X.v X.ob (by intro q; cases q)) X.v
  refine ⟨_, { W with g := g', es := es' }, ⟨rfl, nd', ob, ⟨X.fld.1.same st.sub, X.fld.2⟩, np X.hh (by intros; nofun) (by intros; nofun), X.hl, X.hv, np X.hp (by intros; nofun) (by intros; nofun), X.hpl, fun x hx hs => ?_, X.pn, fun x hx => let ⟨z, q⟩ := X.pd x hx; ⟨z, np q (by intros; nofun) (by intros; nofun)⟩, np X.sp (by intros; nofun) (by intros; nofun), X.sl, X.sv, X.sk, g, ?_, ?_, v', X.vl, X.ve.mono fun _ _ z => st.sub _ _ z, gn, X.n1⟩, st, rfl, rfl, rfl, rfl, rfl, rfl, rfl, rfl, rfl, rfl⟩
  · obtain ⟨a, h1, h2, kvs, h3, h4, h5⟩ := X.pv x hx hs
    exact ⟨a, h1, h2, kvs, np h3 (by intros; nofun) (by intros; nofun), h4.same st.sub, h5⟩
  · show es'.length + (s.gone ++ add).length ≤ n
    rw [List.length_append]
    have := X.gl
    omega
  · refine ge.mono fun e x ⟨a, la, ks, h1, h2, h3, h4, h5⟩ => ⟨a, la, ks, hid_of h1 fun m => ?_, h2.same st.sub, st.sub _ _ h3, h4.mono fun _ _ z => st.sub _ _ z, h5⟩
    rcases List.mem_append.mp m with m | m
    · simp only [List.mem_cons, List.not_mem_nil, or_false] at m
      rcases m with rfl | rfl | rfl | rfl | rfl | rfl | rfl
      · rw [ob] at h1; cases h1
      · rw [np X.hh (by intros; nofun) (by intros; nofun)] at h1; cases h1
      · rw [np X.hp (by intros; nofun) (by intros; nofun)] at h1; cases h1
      · rw [np X.sp (by intros; nofun) (by intros; nofun)] at h1; cases h1
      · rw [g] at h1; cases h1
      · rw [v'] at h1; cases h1
      · rw [gn] at h1; cases h1
    · obtain ⟨y, hy, rfl⟩ := List.mem_map.mp m
      obtain ⟨z, q⟩ := X.pd y hy
      rw [np q (by intros; nofun) (by intros; nofun)] at h1; cases h1
/-- a bed is its owner's again -/
theorem StX.backed (X : StX K M H p f fb s n W) {x : Bd × Addr} (hx : x ∈ W.fa) {fb' : List (Bd × Addr)} (sub : ∀ y ∈ fb', y ∈ fb ∨ y = x) {kvs' : List (List Key × V)} (hh : H' W.h = some (.dT kvs')) (hl : kvs'.length ≤ W.kvs.length + 24)
    (val : ∀ y, valV kvs' (keyOf y) = if inBed x.1 y = true then some (.str x.1.owner) else valV W.kvs (keyOf y))
    (w1 : x.1.shares = true → ∃ a q, H a = none ∧ H' W.pp = some (.dK (putK W.pvs (.inr x.1.name) (.ref a))) ∧ H' a = some (.dK [(.inr x.1.owner, .ref q)]) ∧ H q = none ∧ PtAt K H' q 27720) (w2 : x.1.shares = false → H' W.pp = some (.dK W.pvs))
    (fr : ∀ c o, c ≠ W.h → c ≠ W.pp → H c = some o → H' c = some o) :
    ∃ M' W', StX K M' H' p f fb' (s.back x.1) (n + 1) W' ∧ Stp M H M' H' ∧ W'.fa = W.fa := by
  obtain ⟨n1, n2, n3, n4, n5, n6⟩ := X.ne
  have mp := X.mp
  have np : ∀ {c o}, H c = some o → (∀ z, o ≠ .dT z) → (∀ z, o ≠ .dK z) → H' c = some o := fun {c o} e q1 q2 => fr _ _ (ne_of e X.hh (q1 _)) (ne_of e X.hp (q2 _)) e
  have sp' : H' W.sp = some (.dK W.svs) := fr _ _ (ne_of X.sp X.hh (by intro q; cases q)) n1.symm X.sp
  have pd' : ∀ y ∈ W.pl, ∀ z, H y.2 = some (.dK z) → H' y.2 = some (.dK z) := fun y hy z q => fr _ _ (ne_of q X.hh (by intro q; cases q)) (n5 _ hy).1 q
  have same : Same (hid M H) H' := fun c o e => by
    obtain ⟨m, e⟩ := of_hid e
    exact fr _ _ (fun z => m (by rw [z]; exact mp.2.1)) (fun z => m (by rw [z]; exact mp.2.2.1)) e
  have held : ∀ y, KyIn fb' y → valV kvs' (keyOf y) = some (.str ((s.back x.1).held y)) := fun y ⟨z, hz, iz⟩ => by
    rw [val y]
    show _ = some (V.str (if inBed x.1 y = true then x.1.owner else s.held y))
    by_cases e : inBed x.1 y = true
    · rw [if_pos e, if_pos e]
    · rw [if_neg e, if_neg e]
      rcases sub z hz with h | h
      · exact X.hv y ⟨z, h, iz⟩
      · rw [h] at iz; exact absurd iz e
  have sub2 : ∀ y ∈ fb', y ∈ W.fa := fun y hy => by
    rcases sub y hy with h | h
    · exact X.fld.2 y h
    · rw [h]; exact hx
  have nd := X.fld.1.nd
  have old : ∀ y ∈ fb', y.1.name ≠ x.1.name → y ∈ fb := fun y hy e => by
    rcases sub y hy with h | h
    · exact h
    · exact absurd (by rw [h]) e
  cases es : x.1.shares with
  | false =>
    have st : Stp M H M H' := ⟨same, fun m h => .inl h⟩
    refine ⟨M, { W with kvs := kvs' }, ⟨X.m, X.nd, np X.ob (by intros; nofun) (by intros; nofun), ⟨X.fld.1.same st.sub, sub2⟩, hh, by have := X.hl; show kvs'.length ≤ _; omega, held, w2 es, by have := X.hpl; show W.pvs.length ≤ _; omega, fun y hy hs => ?_, X.pn, fun y hy => let ⟨z, q⟩ := X.pd y hy; ⟨z, pd' y hy z q⟩, sp', by have := X.sl; show W.svs.length ≤ _; omega, X.sv, X.sk, np X.g (by intros; nofun) (by intros; nofun), by have := X.gl; show W.es.length + s.gone.length ≤ _; omega, X.ge.mono fun _ _ z => z.same st.sub, np X.v (by intros; nofun) (by intros; nofun), by have := X.vl; show W.vs.length ≤ _; omega, X.ve.mono fun _ _ z => st.sub _ _ z, np X.gn (by intros; nofun) (by intros; nofun), by omega⟩, st, rfl⟩
    have ne : y.1.name ≠ x.1.name := fun e => by
      rw [name_inj nd (sub2 y hy) hx e, es] at hs; cases hs
    obtain ⟨a, h1, h2, kvs, h3, h4, h5, h6⟩ := X.pv y (old y hy ne) hs
    refine ⟨a, h1, h2, ?_⟩
    show UAt K (hid M H') H' a (if y.1.name = x.1.name then _ else s.units y.1.name) (n + 1)
    rw [if_neg ne]
    exact UAt.mono ⟨kvs, pd' _ h1 _ h3, h4.same st.sub, h5, h6⟩ (Nat.le_succ n)
  | true =>
    obtain ⟨a, q, ha0, hpp, ha, hq0, hq⟩ := w1 es
    have aM := X.notM ha0
    have qM := X.notM hq0
    have qa : q ≠ a := by
      obtain ⟨dq, hq⟩ := hq
      exact ne_of hq ha (by intro q; cases q)
    let pl' := (x.1.name, a) :: W.pl.filter fun y => !decide (y.1 = x.1.name)
    have fm : ∀ y ∈ W.pl.filter (fun y => !decide (y.1 = x.1.name)), y ∈ W.pl := fun y h => (List.mem_filter.mp h).1
    have st : Stp M H ([p, W.h, W.pp, W.sp, W.g, W.v, W.gn] ++ pl'.map (·.2)) H' := ⟨same, fun m hm => by
      rcases List.mem_append.mp hm with h | h
      · exact .inl (by rw [X.m]; exact List.mem_append_left _ h)
      · rcases List.mem_cons.mp h with h | h
        · exact .inr (by rw [h]; exact ha0)
        · obtain ⟨y, hy, e⟩ := List.mem_map.mp h
          exact .inl (by rw [← e]; exact mp.2.2.2.2.2.2.2 y (fm y hy))⟩
    have q' : PtAt K (hid ([p, W.h, W.pp, W.sp, W.g, W.v, W.gn] ++ pl'.map (·.2)) H') q 27720 := by
      obtain ⟨dq, hq⟩ := hq
      refine ⟨dq, hid_of hq fun m => ?_⟩
      rcases st.new q m with z | z
      · exact qM z
      · rcases List.mem_append.mp m with h | h
        · exact qM (by rw [X.m]; exact List.mem_append_left _ h)
        · rcases List.mem_cons.mp h with h | h
          · exact qa h
          · obtain ⟨y, hy, e⟩ := List.mem_map.mp h
            exact qM (by rw [← e]; exact mp.2.2.2.2.2.2.2 y (fm y hy))
    refine ⟨_, { W with kvs := kvs', pvs := putK W.pvs (.inr x.1.name) (.ref a), pl := pl' }, ⟨rfl, ?_, np X.ob (by intros; nofun) (by intros; nofun), ⟨X.fld.1.same st.sub, sub2⟩, hh, by have := X.hl; show kvs'.length ≤ _; omega, held, hpp, ?_, fun y hy hs => ?_, ?_, fun y hy => ?_, sp', by have := X.sl; show W.svs.length ≤ _; omega, X.sv, X.sk, np X.g (by intros; nofun) (by intros; nofun), by have := X.gl; show W.es.length + s.gone.length ≤ _; omega, X.ge.mono fun _ _ z => z.same st.sub, np X.v (by intros; nofun) (by intros; nofun), by have := X.vl; show W.vs.length ≤ _; omega, X.ve.mono fun _ _ z => st.sub _ _ z, np X.gn (by intros; nofun) (by intros; nofun), by omega⟩, st, rfl⟩
    · show ([p, W.h, W.pp, W.sp, W.g, W.v, W.gn] ++ a :: (W.pl.filter fun y => !decide (y.1 = x.1.name)).map (·.2)).Nodup
      rw [List.perm_middle.nodup_iff]
      have sl : ([p, W.h, W.pp, W.sp, W.g, W.v, W.gn] ++ (W.pl.filter fun y => !decide (y.1 = x.1.name)).map (·.2)).Sublist M := by
        rw [X.m]
        exact List.Sublist.append (List.Sublist.refl _) (List.Sublist.map _ List.filter_sublist)
      exact List.nodup_cons.mpr ⟨fun m => aM (sl.subset m), sl.nodup X.nd⟩
    · show (putK W.pvs (.inr x.1.name) (.ref a)).length ≤ n + 1
      have := length_putK W.pvs (Sum.inr x.1.name : Key) (.ref a)
      have := X.hpl
      omega
    · by_cases e : y.1.name = x.1.name
      · have : y = x := name_inj nd (sub2 y hy) hx e
        subst this
        refine ⟨a, List.mem_cons_self, ?_, [(.inr y.1.owner, .ref q)], ha, ?_, ?_, ?_⟩
        · show valV (putK W.pvs (.inr y.1.name) (.ref a)) _ = _
          rw [valV_put, if_pos rfl]
        · show URel K _ (if y.1.name = y.1.name then [(y.1.owner, 27720)] else s.units y.1.name) _
          rw [if_pos rfl]
          exact .cons ⟨rfl, q, rfl, q'⟩ .nil
        · show (if y.1.name = y.1.name then [(y.1.owner, 27720)] else s.units y.1.name).length ≤ _
          rw [if_pos rfl]
          show 1 ≤ _
          omega
        · show ∀ z ∈ (if y.1.name = y.1.name then [(y.1.owner, 27720)] else s.units y.1.name), _
          rw [if_pos rfl]
          intro z hz
          rw [List.mem_singleton] at hz
          rw [hz]
          show 27720 ≤ _
          omega
      · obtain ⟨a', h1, h2, kvs, h3, h4, h5, h6⟩ := X.pv y (old y hy e) hs
        refine ⟨a', List.mem_cons_of_mem _ (List.mem_filter.mpr ⟨h1, by simp [e]⟩), ?_, ?_⟩
        · show valV (putK W.pvs (.inr x.1.name) (.ref a)) _ = _
          rw [valV_put, if_neg (fun z => e (Sum.inr.inj z))]
          exact h2
        · show UAt K _ H' a' (if y.1.name = x.1.name then _ else s.units y.1.name) (n + 1)
          rw [if_neg e]
          exact UAt.mono ⟨kvs, pd' _ h1 _ h3, h4.same st.sub, h5, h6⟩ (Nat.le_succ n)
    · show (x.1.name :: (W.pl.filter fun y => !decide (y.1 = x.1.name)).map (·.1)).Nodup
      refine List.nodup_cons.mpr ⟨fun m => ?_, (List.Sublist.map _ List.filter_sublist).nodup X.pn⟩
      obtain ⟨y, hy, e⟩ := List.mem_map.mp m
      have := (List.mem_filter.mp hy).2
      rw [e] at this
      simp at this
    · rcases List.mem_cons.mp hy with h | h
      · exact ⟨_, by rw [h]; exact ha⟩
      · obtain ⟨z, q⟩ := X.pd y (fm y h)
        exact ⟨z, pd' _ (fm y h) z q⟩
end
end Rp


set_option maxRecDepth 100000
set_option maxHeartbeats 4000000
namespace Rp
open PySem PySem.Spec PyProof.Rows L2
theorem flen {α : Type} (p : α → Bool) : ∀ xs : List α, (xs.filter p).length + (xs.filter fun x => !p x).length = xs.length
  | [] => rfl
  | x :: r => by
    have := flen p r
    rw [List.filter_cons, List.filter_cons, List.length_cons]
    cases e : p x <;> simp <;> omega
section
variable {P : Program} {w : World} {K : PySem.W.Frag} {mg : Str → Option Value} {base : Heap}
def sp_Standing_spoil (K : PySem.W.Frag) : Sp := fun vs H Q _ => ∃ (p a f : Addr) (M : List Addr) (fb : List (Bd × Addr)) (s : SM) (n : Nat) (W : StW) (num mom : Int) (x : Bd × Addr), vs = [.ref p, .ref a] ∧ StX K M H p f fb s n W ∧ n ≤ 1000 ∧ SpAt K (hid M H) a num mom x.1.name ∧ x ∈ fb ∧
  ∀ H' M' W', StX K M' H' p f fb (s.spoil (fb.map (·.1)) num x.1.name) (n + 2) W' → Stp M H M' H' → Q .non H'
theorem ok_Standing_spoil (T : Tx K mg) : FnOk P w K mg base CX0 5 (He.ma K (He.ga K "Standing") "spoil") (fdOf K dd_Standing_spoil) ["self", "spoiling"] (sp_Standing_spoil K) := by
  refine okF T.d_Standing_spoil sc_Standing_spoil (fun vs H Q E h => ?_) (fun cdv A outer s H vs Q E hr h => ?_)
  · obtain ⟨_, _, _, _, _, _, _, _, _, _, _, rfl, _⟩ := h; rfl
  · obtain ⟨p, a, f, M, fb, s, n, W, num, mom, x, rfl, X, hn, hr0, hin, k⟩ := h
    have hu := hu_of hr
    refine ⟨_, (pss_cons (ps_set (i := 2) sc_Standing_spoil.nd rfl (by first | exact Or.inl rfl | exact Or.inr rfl) (pe_fldK K rfl (pv 1) rfl))
      (pss_cons (ps_if (pt_cmp (pc_din hu (pv 2) (pe_fldK K rfl (pv 0) rfl))) (pss_one ps_retN) pss_nil)
      (pss_cons (ps_dput hu (pe_fldK K rfl (pv 0) rfl) (pv 2) (pe_fldK K rfl (pv 1) rfl) rfl)
      (pss_cons (ps_setLc (i := 3) (own := [("promise", 4), ("things", 5)]) (g := gTup K 2 (gCons (gName 4) (gCons (gName 5) gNil))) rfl sc_Standing_spoil.nd rfl rfl (sw_true rfl rfl rfl (by decide +kernel)) (pi_list (pe_fldK K rfl (pv 0) rfl)) (blkOk_by (own := [("promise", 4), ("things", 5)]) (N := N_Standing_spoil) (sc := defScope s_Standing_spoil) (by decide +kernel)) (fun _ _ _ _ _ => (pg_tup rfl (pgs_cons (pg_name (i := 4) sc_Standing_spoil.nd rfl (Or.inl rfl)) (pgs_cons (pg_name (i := 5) sc_Standing_spoil.nd rfl (Or.inl rfl)) pgs_nil)))) (fun _ _ _ _ _ => (pts_one (pt_cmpR op_eq (pe_ix (ix_tupK K rfl) (pe_fldK K rfl (pv 4) rfl) pe_int (fun _ _ => rfl)) (pv 2) (nomark _)))) (fun _ _ _ _ _ => (pe_fldK K rfl (pv 4) rfl)))
      (pss_cons (ps_expr (pe_bm PySem.F.plainAttrs_list PySem.F.slot_list_extend PySem.F.type_list_extend mt_extend (pe_fldK K rfl (pv 0) rfl) (pa_cons (pe_revL (pv 3)) pa_nil)))
      (pss_cons (ps_fld (pv 0) (pe_lc (own := [("promise", 4), ("things", 5)]) (g := gTup K 2 (gCons (gName 4) (gCons (gName 5) gNil))) rfl sc_Standing_spoil.nd (pi_list (pe_fldK K rfl (pv 0) rfl)) (blkOk_by (own := [("promise", 4), ("things", 5)]) (N := N_Standing_spoil) (sc := defScope s_Standing_spoil) (by decide +kernel)) (fun _ _ _ _ _ => (pg_tup rfl (pgs_cons (pg_name (i := 4) sc_Standing_spoil.nd rfl (Or.inl rfl)) (pgs_cons (pg_name (i := 5) sc_Standing_spoil.nd rfl (Or.inl rfl)) pgs_nil)))) (fun _ _ _ _ _ => (pts_one (pt_cmpR op_ne (pe_ix (ix_tupK K rfl) (pe_fldK K rfl (pv 4) rfl) pe_int (fun _ _ => rfl)) (pv 2) (nomark _)))) (fun _ _ _ _ _ => (pe_tup (pa_cons (pv 4) (pa_cons (pv 5) pa_nil))))) rfl)
      (pss_one (ps_expr (pe_meth (pv 0) T.c_Standing T.m_Standing_back (ok_Standing_back T) (hr.mono (by decide)) T.b_Standing_back .nil pass0 (pa_cons (pe_meth (pe_fldK K rfl (pv 0) rfl) T.c_Field T.m_Field_bed_of (ok_Field_bed_of T) (hr.mono (by decide)) T.b_Field_bed_of .nil pass0 (pa_cons (pv 2) pa_nil)) pa_nil)))))))))), ?_⟩
    obtain ⟨dx, h1⟩ := hr0
    have g1 := hid_same _ _ h1
    have svb := X.sv x.1.name
    have gS : DGet H W.sp (.str x.1.name) ((s.spoilt x.1.name).map V.int) := by
      have := DGet.k (k := Sum.inr x.1.name) X.sp
      rw [svb] at this
      exact this
    refine ⟨_, rfl, _, _, _, _, _, rfl, g1, T.c_Spoiling, T.n_Spoiling_bed, l_Spoiling_bed, ?_⟩
    cases es : s.spoilt x.1.name with
    | some m =>
      rw [es] at gS
      refine ⟨_, rfl, _, rfl, _, _, _, _, _, rfl, X.ob, T.c_Standing, T.n_Standing_spoilt, l_Standing_spoilt, _, _, rfl, gS, true, rfl, iteT ?_⟩
      have em : s.spoil (fb.map (·.1)) num x.1.name = s := by unfold SM.spoil; rw [es]
      rw [em] at k
      exact k H M W (X.mono (by omega)) Stp.refl
    | none =>
      rw [es] at gS
      have slen := X.sl
      refine ⟨_, rfl, _, rfl, _, _, _, _, _, rfl, X.ob, T.c_Standing, T.n_Standing_spoilt, l_Standing_spoilt, _, _, rfl, gS, false, rfl, iteF ?_⟩
      refine ⟨_, rfl, _, _, _, _, _, rfl, g1, T.c_Spoiling, T.n_Spoiling_number, l_Spoiling_number, _, rfl, _, _, _, _, _, rfl, X.ob, T.c_Standing, T.n_Standing_spoilt, l_Standing_spoilt, _, rfl, _, _, rfl, DPut.k (k := .inr x.1.name) X.sp (Nat.lt_of_le_of_lt (Nat.le_trans slen hn) (by decide)), ?_⟩
      have X1 := X.setSpoilt x.1.name num
      have s1 : Stp M H M _ := Stp.mut (o := .dK (putK W.svs (.inr x.1.name) (.int num))) X.mp.2.2.2.1
      generalize upd H W.sp (.dK (putK W.svs (.inr x.1.name) (.int num))) = H1 at X1 s1 ⊢
      have em : s.spoil (fb.map (·.1)) num x.1.name = SM.back { s with spoilt := fun n => if n = x.1.name then some num else s.spoilt n, gone := s.gone ++ ((s.good.filter fun e : Pr × List Ky => decide (e.1.th.bed = x.1.name)).map fun e => e.1.num).reverse, good := s.good.filter fun e : Pr × List Ky => !decide (e.1.th.bed = x.1.name) : SM } x.1 := by
        unfold SM.spoil
        rw [es]
        show SM.back _ (bedOf (fb.map (·.1)) x.1.name) = _
        rw [bedOf_eq X.fld.1.nd X.fld.2 hin]
      rw [em] at k
      have glen : W.es.length + s.gone.length ≤ n := X.gl
      have eg : W.es.length = s.good.length := X.ge.1
      -- the numbers of what is undone
      refine ⟨_, rfl, _, _, _, _, _, rfl, X1.ob, T.c_Standing, T.n_Standing_good, l_Standing_good, _, rfl, ⟨_, .of X1.g⟩, fun D nD => ?_⟩
      refine lc_it walk_list (fun i H' => Same H1 H' ∧ H' D = some (.lst (((s.good.take i).filter fun e : Pr × List Ky => decide (e.1.th.bed = x.1.name)).map fun e => V.int e.1.num)))
        ⟨same_new nD, upd_same⟩ (fun i H' _ z => z.1.seq (.of X1.g)) ?_ ?_
      · rintro i y H2 H3 hi ⟨s2, hD⟩ ⟨rfl, hy⟩
        obtain ⟨e, he, rfl⟩ := ref_at hy
        obtain ⟨en, hen, pa, la, ks, e1, ⟨dx2, t2, e2, et⟩, e3, e4, e5⟩ := X1.ge.left he
        obtain ⟨z, v, hz⟩ := et.tup
        have q1 := s2 _ _ (hid_same _ _ e1)
        have q2 := s2 _ _ (hid_same _ _ e2)
        have qz := s2 _ _ (hid_same _ _ hz)
        have tk : s.good.take (i + 1) = s.good.take i ++ [en] := by rw [List.take_add_one, show s.good[i]? = some en from hen]; rfl
        have il : i < s.good.length := (List.getElem?_eq_some_iff.mp hen).1
        refine ⟨e, _, rfl, .of q1, rfl, _, _, rfl, _, _, rfl, rfl, rfl, _, rfl, _, _, _, _, _, rfl, q2, T.c_Promise, T.n_Promise_thing, l_Promise_thing, _, _, _, _, rfl, rfl, .of qz, atI_nat (j := 1) rfl, _, rfl, rfl, _, rfl, ?_⟩
        by_cases eb : en.1.th.bed = x.1.name
        · refine iteD (congrArg V.str eb) ⟨_, rfl, _, _, _, _, _, rfl, q2, T.c_Promise, T.n_Promise_number, l_Promise_number, _, hD, ?_, same_mut s2 nD, ?_⟩
          · rw [List.length_map]
            refine Nat.lt_of_le_of_lt (List.length_filter_le _ _) ?_
            rw [List.length_take]
            refine Nat.lt_of_le_of_lt (Nat.min_le_right _ _) (Nat.lt_of_le_of_lt (m := 1000) (by omega) (by decide))
          · rw [upd_same, tk, List.filter_append, List.map_append]
            simp [eb]
        · refine iteDn (vne eb) ⟨s2, ?_⟩
          rw [tk, List.filter_append, List.map_append]
          simp [eb, hD]
      · rintro H2 ⟨s2, hD⟩
        have el : (W.es.map V.ref).length = s.good.length := by rw [List.length_map, eg]
        have hD : H2 D = some (.lst (((s.good.take (W.es.map V.ref).length).filter fun e : Pr × List Ky => decide (e.1.th.bed = x.1.name)).map fun e => V.int e.1.num)) := hD
        rw [el, List.take_length] at hD
        have X2 := X1.grow s2
        refine ⟨_, rfl, _, _, _, _, _, rfl, X2.ob, T.c_Standing, T.n_Standing_gone, l_Standing_gone, .inl ⟨rfl, _, .of X2.gn⟩, _, rfl, D, _, rfl, .of hD, fun D2 nD2 => ?_⟩
        generalize hh : upd H2 D2 _ = H3; obtain ⟨s3, hD2⟩ := gen_new hh nD2; clear hh
        have X3 := X2.grow s3
        have fl : (s.good.filter fun e : Pr × List Ky => decide (e.1.th.bed = x.1.name)).length + (s.good.filter fun e : Pr × List Ky => !decide (e.1.th.bed = x.1.name)).length = s.good.length := by
          exact flen _ s.good
        refine ⟨_, _, _, _, rfl, rfl, X3.gn, hD2, ?_, ?_⟩
        · rw [List.length_map, List.length_reverse, List.length_map]
          refine Nat.le_of_lt (Nat.lt_of_le_of_lt (m := 2000) ?_ (by decide))
          show s.gone.length + _ ≤ 2000
          omega
        have eadd : (s.gone.map V.int ++ ((s.good.filter fun e : Pr × List Ky => decide (e.1.th.bed = x.1.name)).map fun e => V.int e.1.num).reverse) = (s.gone ++ ((s.good.filter fun e : Pr × List Ky => decide (e.1.th.bed = x.1.name)).map fun e => e.1.num).reverse).map V.int := by
          rw [List.map_append, List.map_reverse, List.map_map]; rfl
        generalize e4 : upd H3 W.gn _ = H4
        obtain ⟨gn4, s4⟩ := gen_upd e4
        clear e4
        have p4 := s4 _ _ (ne_of X3.ob X3.gn (by intro q; cases q)) X3.ob
        obtain ⟨n1, n2, n3, n4, n5, n6⟩ := X3.ne
        have g4 : H4 W.g = some (.lst (W.es.map V.ref)) := s4 _ _ n3 X3.g
        have st34 : Same (hid M H3) H4 := fun c o e => by
          obtain ⟨m, e⟩ := of_hid e
          exact s4 _ _ (fun z => m (by rw [z]; exact X3.mp.2.2.2.2.2.2.1)) e
        -- what holds still
        refine ⟨_, rfl, _, _, _, _, _, rfl, p4, T.c_Standing, T.n_Standing_good, l_Standing_good, _, rfl, ⟨_, .of g4⟩, fun D3 nD3 => ?_⟩
        refine lc_it walk_list (fun i H' => Same H4 H' ∧ ∃ es' : List Addr, H' D3 = some (.lst (es'.map V.ref)) ∧ L2R (EntP K (hid M H3) H') es' ((s.good.take i).filter fun e : Pr × List Ky => !decide (e.1.th.bed = x.1.name)))
          ⟨same_new nD3, [], upd_same, .nil⟩ (fun i H' _ z => z.1.seq (.of g4)) ?_ ?_
        · rintro i y H5 H6 hi ⟨s5, es', hD3, hes⟩ ⟨rfl, hy⟩
          obtain ⟨e, he, rfl⟩ := ref_at hy
          obtain ⟨en, hen, pa, la, ks, e1, pr, e3, e4, e5⟩ := X3.ge.left he
          obtain ⟨dx2, t2, e2, et⟩ := id pr
          obtain ⟨z, v, hz⟩ := et.tup
          have q1 := s5 _ _ (st34 _ _ e1)
          have q2 := s5 _ _ (st34 _ _ e2)
          have qz := s5 _ _ (st34 _ _ hz)
          have tk : s.good.take (i + 1) = s.good.take i ++ [en] := by rw [List.take_add_one, show s.good[i]? = some en from hen]; rfl
          refine ⟨e, _, rfl, .of q1, rfl, _, _, rfl, _, _, rfl, rfl, rfl, _, rfl, _, _, _, _, _, rfl, q2, T.c_Promise, T.n_Promise_thing, l_Promise_thing, _, _, _, _, rfl, rfl, .of qz, atI_nat (j := 1) rfl, _, rfl, rfl, _, rfl, ?_⟩
          by_cases eb : en.1.th.bed = x.1.name
          · refine iteNS (congrArg V.str eb) ⟨s5, es', hD3, ?_⟩
            rw [tk, List.filter_append]
            simp only [eb, decide_true, Bool.not_true, List.filter_cons, List.filter_nil, Bool.false_eq_true, if_false, List.append_nil]
            exact hes
          · refine iteN (vne eb) ⟨_, rfl, _, rfl, by show 2 ≤ sizeLine; decide, fun t nt => ?_⟩
            generalize hh : upd H6 t _ = H7; obtain ⟨s7, ht⟩ := gen_new hh nt; clear hh
            have hD7 := s7 _ _ hD3
            refine ⟨_, hD7, ?_, same_mut (s5.trans s7) nD3, es' ++ [t], by rw [upd_same, List.map_append]; rfl, ?_⟩
            · rw [List.length_map, hes.1]
              refine Nat.lt_of_le_of_lt (List.length_filter_le _ _) ?_
              rw [List.length_take]
              refine Nat.lt_of_le_of_lt (Nat.min_le_right _ _) (Nat.lt_of_le_of_lt (m := 1000) (by omega) (by decide))
            · rw [tk, List.filter_append]
              have fe : [en].filter (fun e : Pr × List Ky => !decide (e.1.th.bed = x.1.name)) = [en] := by simp [eb]
              rw [fe]
              refine L2R.snoc (hes.mono fun q z ⟨a, la, ks, m1, m2⟩ => ⟨a, la, ks, ?_, m2⟩) ⟨pa, la, ks, ?_, pr, e3, e4, e5⟩
              · rw [upd_ne (ne_of m1 hD3 (by intro q; cases q))]
                exact s7 _ _ m1
              · rw [upd_ne (ne_of ht hD7 (by intro q; cases q))]
                exact ht
        · rintro H5 ⟨s5, es', hD3, hes⟩
          have hes : L2R (EntP K (hid M H3) H5) es' ((s.good.take (W.es.map V.ref).length).filter fun e : Pr × List Ky => !decide (e.1.th.bed = x.1.name)) := hes
          rw [el, List.take_length] at hes
          have p5 := s5 _ _ p4
          have nD3' : H3 D3 = none := by
            cases e : H3 D3 with
            | none => rfl
            | some o =>
              by_cases q : D3 = W.gn
              · rw [q, gn4] at nD3; cases nD3
              · rw [s4 _ _ q e] at nD3; cases nD3
          refine ⟨_, rfl, _, _, _, _, rfl, p5, T.c_Standing, T.n_Standing_good, (by show 7 < 1000; decide), ?_⟩
          rw [u_Standing_good]
          have pD3 : D3 ≠ p := (ne_of_none p4 nD3).symm
          have pgn : W.gn ≠ p := ne_of X3.gn X3.ob (by intro q; cases q)
          obtain ⟨M', W', X6, st6, wfa, wh, wpp, wk, wpv, wdx, wsp, wg, wv, wgn⟩ := X3.cut (H' := upd H5 p (.ins (A_Standing K) W.dx (fsSt f W.h W.pp W.sp D3 W.v W.gn))) (g' := D3) (es' := es') (good' := s.good.filter fun e : Pr × List Ky => !decide (e.1.th.bed = x.1.name)) (add := ((s.good.filter fun e : Pr × List Ky => decide (e.1.th.bed = x.1.name)).map fun e => e.1.num).reverse) nD3'
            (fun c o c1 c2 e => by rw [upd_ne c2]; exact s5 _ _ (s4 _ _ c1 e)) upd_same (by rw [upd_ne pgn, ← eadd]; exact s5 _ _ gn4) (by rw [upd_ne pD3]; exact hD3)
            (by
              show es'.length + _ ≤ W.es.length
              rw [hes.1, List.length_reverse, List.length_map, eg]
              omega)
            (hes.mono fun q z ⟨a, la, ks, m1, m2⟩ => ⟨a, la, ks, by rw [upd_ne (ne_of m1 p5 (by intro q; cases q))]; exact m1, m2⟩)
          have s06 := s1.trans ((Stp.grow s2).trans ((Stp.grow s3).trans st6))
          generalize upd H5 p (.ins (A_Standing K) W.dx (fsSt f W.h W.pp W.sp D3 W.v W.gn)) = H6 at X6 s06 ⊢
          have hxa : x ∈ W'.fa := X6.fld.2 x hin
          have F6 := X6.fld.1.same hid_same
          obtain ⟨dxf, gf, df, hf, _⟩ := F6.ob
          refine ⟨_, rfl, _, _, _, rfl, X6.ob, lm_Standing_back, _, rfl, _, _, _, _, _, rfl, X6.ob, T.c_Standing, T.n_Standing_field, l_Standing_field, _, _, _, rfl, hf, lm_Field_bed_of, _, rfl, f, W'.fa, x, rfl, F6, hxa, fun H7 s7 => ?_⟩
          have X7 := X6.grow s7
          have F7 := F6.same s7
          have hl7 := X7.hl
          have hpl7 := X7.hpl
          refine ⟨p, W'.dx, f, W'.h, W'.pp, W'.sp, W'.g, W'.v, W'.gn, x.2, x.1, W'.kvs, W'.pvs, rfl, X7.ob, X7.hh, X7.hp, by omega, by omega, F7.at_ x hxa, (F7.ok x hxa).r2, fun H8 kvs' m1 m2 m3 m4 m5 m6 => ?_⟩
          obtain ⟨M8, W8, X8, st8, _⟩ := X7.backed hxa (fb' := fb) (fun y h => .inl h) m1 m2 m3 m4 m5 m6
          exact k H8 M8 W8 X8 (s06.trans ((Stp.grow s7).trans st8))
end
end Rp


set_option maxRecDepth 100000
set_option maxHeartbeats 4000000
namespace Rp
open PySem PySem.Spec PyProof.Rows L2
/-! ### what all begins as -/
theorem inBed_bed {b : Bd} {y : Ky} (h : inBed b y = true) : y.bed = b.name := by
  cases y <;> simp [inBed, Ky.bed] at h ⊢ <;> exact h.1.1
theorem back_other {y : Ky} : ∀ {bs : List Bd} {s : SM}, (∀ b ∈ bs, inBed b y = false) → (bs.foldl SM.back s).held y = s.held y
  | [], s, _ => rfl
  | b :: r, s, h => by
    show (r.foldl SM.back (s.back b)).held y = _
    rw [back_other fun c hc => h c (List.mem_cons_of_mem _ hc)]
    show (if inBed b y = true then b.owner else s.held y) = _
    rw [h b List.mem_cons_self]
    rfl
theorem back_held {y : Ky} {b : Bd} : ∀ {bs : List Bd} {s : SM}, (bs.map Bd.name).Nodup → b ∈ bs → inBed b y = true → (bs.foldl SM.back s).held y = b.owner
  | [], _, _, h, _ => by cases h
  | c :: r, s, nd, h, i => by
    rw [List.map_cons] at nd
    obtain ⟨n1, n2⟩ := List.nodup_cons.mp nd
    show (r.foldl SM.back (s.back c)).held y = _
    rcases List.mem_cons.mp h with e | h'
    · subst e
      rw [back_other]
      · show (if inBed b y = true then b.owner else s.held y) = _
        rw [if_pos i]
      · intro d hd
        cases e : inBed d y with
        | false => rfl
        | true => exact absurd (List.mem_map.mpr ⟨d, hd, by rw [← inBed_bed e, inBed_bed i]⟩) n1
    · exact back_held n2 h' i
theorem back_units0 {n : Str} : ∀ {bs : List Bd} {s : SM}, (∀ b ∈ bs, n ≠ b.name) → (bs.foldl SM.back s).units n = s.units n
  | [], s, _ => rfl
  | b :: r, s, h => by
    show (r.foldl SM.back (s.back b)).units n = _
    rw [back_units0 fun c hc => h c (List.mem_cons_of_mem _ hc)]
    show (if n = b.name then [(b.owner, 27720)] else s.units n) = _
    rw [if_neg (h b List.mem_cons_self)]
theorem back_units {b : Bd} : ∀ {bs : List Bd} {s : SM}, (bs.map Bd.name).Nodup → b ∈ bs → (bs.foldl SM.back s).units b.name = [(b.owner, 27720)]
  | [], _, _, h => by cases h
  | c :: r, s, nd, h => by
    rw [List.map_cons] at nd
    obtain ⟨n1, n2⟩ := List.nodup_cons.mp nd
    show (r.foldl SM.back (s.back c)).units _ = _
    rcases List.mem_cons.mp h with e | h'
    · subst e
      rw [back_units0]
      · show (if b.name = b.name then [(b.owner, 27720)] else s.units _) = _
        rw [if_pos rfl]
      · intro d hd e
        exact n1 (List.mem_map.mpr ⟨d, hd, e.symm⟩)
    · exact back_units n2 h'
theorem back_rest : ∀ {bs : List Bd} {s : SM}, (bs.foldl SM.back s).spoilt = s.spoilt ∧ (bs.foldl SM.back s).good = s.good ∧ (bs.foldl SM.back s).voids = s.voids ∧ (bs.foldl SM.back s).gone = s.gone
  | [], s => ⟨rfl, rfl, rfl, rfl⟩
  | b :: r, s => back_rest (bs := r) (s := s.back b)
section
variable {K : PySem.W.Frag} {M : List Addr} {H H' : Hp} {p f : Addr} {fb : List (Bd × Addr)} {s : SM} {n : Nat} {W : StW}
theorem StX.congr (X : StX K M H p f fb s n W) {fb' : List (Bd × Addr)} {s' : SM} (sub : ∀ z ∈ fb', z ∈ fb) (h1 : ∀ z ∈ fb', ∀ y, inBed z.1 y = true → s'.held y = s.held y) (h2 : ∀ z ∈ fb', s'.units z.1.name = s.units z.1.name)
    (h3 : s'.spoilt = s.spoilt) (h4 : s'.good = s.good) (h5 : s'.voids = s.voids) (h6 : s'.gone = s.gone) : StX K M H p f fb' s' n W :=
  ⟨X.m, X.nd, X.ob, ⟨X.fld.1, fun z hz => X.fld.2 z (sub z hz)⟩, X.hh, X.hl, fun y ⟨z, hz, i⟩ => by rw [h1 z hz y i]; exact X.hv y ⟨z, sub z hz, i⟩, X.hp, X.hpl, fun x hx hs => by rw [h2 x hx]; exact X.pv x (sub x hx) hs, X.pn, X.pd, X.sp, X.sl, fun b => by rw [h3]; exact X.sv b, X.sk, X.g, by rw [h6]; exact X.gl, by rw [h4]; exact X.ge, X.v, X.vl, by rw [h5]; exact X.ve, by rw [h6]; exact X.gn, X.n1⟩
theorem FieldAt.hidp {C dx : Addr} (F : FieldAt K H f fb) (hp : H p = some (.ins C dx [])) : FieldAt K (hid [p] H) f fb := by
  have ins : ∀ {c C2 d2 fs}, fs ≠ [] → H c = some (.ins C2 d2 fs) → hid [p] H c = some (.ins C2 d2 fs) := fun {c C2 d2 fs} n e => hid_of e fun m => by
    rw [List.mem_singleton] at m
    rw [m, hp] at e
    injection e with e; injection e with e1 e2 e3
    exact n e3.symm
  obtain ⟨dxf, g, d, h1, h2⟩ := F.ob
  refine ⟨⟨dxf, g, d, ins (by intro q; cases q) h1, hid_of h2 fun m => ?_⟩, fun x hx => ?_, F.ok, F.nd, F.n2⟩
  · rw [List.mem_singleton] at m
    rw [m, hp] at h2
    cases h2
  · obtain ⟨dxb, e⟩ := F.at_ x hx
    exact ⟨dxb, ins (by intro q; cases q) e⟩
end
section
variable {P : Program} {w : World} {K : PySem.W.Frag} {mg : Str → Option Value} {base : Heap}
def sp_Standing_init (K : PySem.W.Frag) : Sp := fun vs H Q _ => ∃ (p dx f : Addr) (fb : List (Bd × Addr)), vs = [.ref p, .ref f] ∧ H p = some (.ins (A_Standing K) dx []) ∧ FieldAt K H f fb ∧
  ∀ H' M W, StX K M H' p f fb (SM.begin (fb.map (·.1))) 7 W → (∀ c o, c ≠ p → H c = some o → H' c = some o) → (∀ m ∈ M, m = p ∨ H m = none) → Q .non H'
theorem ok_Standing_init (T : Tx K mg) : FnOk P w K mg base CX0 5 (He.ma K (He.ga K "Standing") "__init__") (fdOf K dd_Standing_init) ["self", "field"] (sp_Standing_init K) := by
  refine okF T.d_Standing_init sc_Standing_init (fun vs H Q E h => ?_) (fun cdv A outer s H vs Q E hr h => ?_)
  · obtain ⟨_, _, _, _, rfl, _⟩ := h; rfl
  · obtain ⟨p, dx, f, fb, rfl, hp, F, k⟩ := h
    have hu := hu_of hr
    refine ⟨_, (pss_cons (ps_fld (pv 0) (pv 1) rfl)
      (pss_cons (ps_fld (pv 0) pe_dnewT rfl)
      (pss_cons (ps_fld (pv 0) pe_dnewK rfl)
      (pss_cons (ps_fld (pv 0) pe_dnewK rfl)
      (pss_cons (ps_fld (pv 0) (pe_lst pa_nil) rfl)
      (pss_cons (ps_fld (pv 0) (pe_lst pa_nil) rfl)
      (pss_cons (ps_fld (pv 0) (pe_lst pa_nil) rfl)
      (pss_one (ps_for PassesOwn.never rfl (pi_list (pe_meth0 (pv 1) T.c_Field T.m_Field_bed_names (ok_Field_bed_names T) (hr.mono (by decide)) T.b_Field_bed_names .nil pass0)) (pg_name (i := 2) sc_Standing_init.nd rfl (by first | exact Or.inl rfl | exact Or.inr rfl)) (pss_one (ps_expr (pe_meth (pv 0) T.c_Standing T.m_Standing_back (ok_Standing_back T) (hr.mono (by decide)) T.b_Standing_back .nil pass0 (pa_cons (pe_meth (pv 1) T.c_Field T.m_Field_bed_of (ok_Field_bed_of T) (hr.mono (by decide)) T.b_Field_bed_of .nil pass0 (pa_cons (pv 2) pa_nil)) pa_nil))))))))))))), ?_⟩
    -- one field after another
    refine ⟨_, rfl, _, rfl, _, _, _, _, rfl, hp, T.c_Standing, T.n_Standing_field, (by show 0 < 1000; decide), ?_⟩
    generalize e1 : upd H p _ = H1
    obtain ⟨hp1, f1⟩ := gen_upd e1
    clear e1
    intro h nh
    generalize hh : upd H1 h _ = H2; obtain ⟨s2, hh0⟩ := gen_new hh nh; clear hh
    refine ⟨_, rfl, _, _, _, _, rfl, (s2 _ _ hp1), T.c_Standing, T.n_Standing_held, (by show 1 < 1000; decide), ?_⟩
    generalize e3 : upd H2 p _ = H3
    obtain ⟨hp3, f3⟩ := gen_upd e3
    clear e3
    have hh0 := f3 _ _ (ne_of_none hp1 nh).symm hh0
    have f03 : ∀ c o, c ≠ p → H c = some o → H3 c = some o := fun c o q e => f3 _ _ q (s2 _ _ (f1 _ _ q e))
    have zh : h = p ∨ H h = none := by
      cases e : H h with
      | none => exact .inr rfl
      | some o => exact .inl (Classical.byContradiction fun q => by rw [f1 _ _ q e] at nh; cases nh)
    intro pp npp
    have ne1 : pp ≠ p ∧ pp ≠ h := ⟨(ne_of_none hp3 npp).symm, (ne_of_none hh0 npp).symm⟩
    generalize hh : upd H3 pp _ = H4; obtain ⟨s4, hpp⟩ := gen_new hh npp; clear hh
    refine ⟨_, rfl, _, _, _, _, rfl, (s4 _ _ hp3), T.c_Standing, T.n_Standing_parts, (by show 2 < 1000; decide), ?_⟩
    generalize e5 : upd H4 p _ = H5
    obtain ⟨hp5, f5⟩ := gen_upd e5
    clear e5
    have hpp := f5 _ _ ne1.1 hpp
    have hh0 := f5 _ _ (ne_of_none hp1 nh).symm (s4 _ _ hh0)
    have f05 : ∀ c o, c ≠ p → H c = some o → H5 c = some o := fun c o q e => f5 _ _ q (s4 _ _ (f03 _ _ q e))
    have zpp : pp = p ∨ H pp = none := by
      cases e : H pp with
      | none => exact .inr rfl
      | some o => exact .inl (Classical.byContradiction fun q => by rw [f03 _ _ q e] at npp; cases npp)
    intro sp nsp
    have ne2 : sp ≠ p ∧ sp ≠ h ∧ sp ≠ pp := ⟨(ne_of_none hp5 nsp).symm, (ne_of_none hh0 nsp).symm, (ne_of_none hpp nsp).symm⟩
    generalize hh : upd H5 sp _ = H6; obtain ⟨s6, hsp⟩ := gen_new hh nsp; clear hh
    refine ⟨_, rfl, _, _, _, _, rfl, (s6 _ _ hp5), T.c_Standing, T.n_Standing_spoilt, (by show 3 < 1000; decide), ?_⟩
    generalize e7 : upd H6 p _ = H7
    obtain ⟨hp7, f7⟩ := gen_upd e7
    clear e7
    have hsp := f7 _ _ ne2.1 hsp
    have hh0 := f7 _ _ (ne_of_none hp1 nh).symm (s6 _ _ hh0)
    have hpp := f7 _ _ ne1.1 (s6 _ _ hpp)
    have f07 : ∀ c o, c ≠ p → H c = some o → H7 c = some o := fun c o q e => f7 _ _ q (s6 _ _ (f05 _ _ q e))
    have zsp : sp = p ∨ H sp = none := by
      cases e : H sp with
      | none => exact .inr rfl
      | some o => exact .inl (Classical.byContradiction fun q => by rw [f05 _ _ q e] at nsp; cases nsp)
    refine ⟨by show 0 ≤ sizeLine; decide, fun g ng => ?_⟩
    have ne3 : g ≠ p ∧ g ≠ h ∧ g ≠ pp ∧ g ≠ sp := ⟨(ne_of_none hp7 ng).symm, (ne_of_none hh0 ng).symm, (ne_of_none hpp ng).symm, (ne_of_none hsp ng).symm⟩
    generalize hh : upd H7 g _ = H8; obtain ⟨s8, hg⟩ := gen_new hh ng; clear hh
    refine ⟨_, rfl, _, _, _, _, rfl, (s8 _ _ hp7), T.c_Standing, T.n_Standing_good, (by show 4 < 1000; decide), ?_⟩
    generalize e9 : upd H8 p _ = H9
    obtain ⟨hp9, f9⟩ := gen_upd e9
    clear e9
    have hg := f9 _ _ ne3.1 hg
    have hsp := f9 _ _ ne2.1 (s8 _ _ hsp)
    have hh0 := f9 _ _ (ne_of_none hp1 nh).symm (s8 _ _ hh0)
    have hpp := f9 _ _ ne1.1 (s8 _ _ hpp)
    have f09 : ∀ c o, c ≠ p → H c = some o → H9 c = some o := fun c o q e => f9 _ _ q (s8 _ _ (f07 _ _ q e))
    have zg : g = p ∨ H g = none := by
      cases e : H g with
      | none => exact .inr rfl
      | some o => exact .inl (Classical.byContradiction fun q => by rw [f07 _ _ q e] at ng; cases ng)
    refine ⟨by show 0 ≤ sizeLine; decide, fun v nv => ?_⟩
    have ne4 : v ≠ p ∧ v ≠ h ∧ v ≠ pp ∧ v ≠ sp ∧ v ≠ g := ⟨(ne_of_none hp9 nv).symm, (ne_of_none hh0 nv).symm, (ne_of_none hpp nv).symm, (ne_of_none hsp nv).symm, (ne_of_none hg nv).symm⟩
    generalize hh : upd H9 v _ = H10; obtain ⟨s10, hv⟩ := gen_new hh nv; clear hh
    refine ⟨_, rfl, _, _, _, _, rfl, (s10 _ _ hp9), T.c_Standing, T.n_Standing_void_rows, (by show 5 < 1000; decide), ?_⟩
    generalize e11 : upd H10 p _ = H11
    obtain ⟨hp11, f11⟩ := gen_upd e11
    clear e11
    have hv := f11 _ _ ne4.1 hv
    have hg := f11 _ _ ne3.1 (s10 _ _ hg)
    have hsp := f11 _ _ ne2.1 (s10 _ _ hsp)
    have hh0 := f11 _ _ (ne_of_none hp1 nh).symm (s10 _ _ hh0)
    have hpp := f11 _ _ ne1.1 (s10 _ _ hpp)
    have f011 : ∀ c o, c ≠ p → H c = some o → H11 c = some o := fun c o q e => f11 _ _ q (s10 _ _ (f09 _ _ q e))
    have zv : v = p ∨ H v = none := by
      cases e : H v with
      | none => exact .inr rfl
      | some o => exact .inl (Classical.byContradiction fun q => by rw [f09 _ _ q e] at nv; cases nv)
    refine ⟨by show 0 ≤ sizeLine; decide, fun gn ngn => ?_⟩
    have ne5 : gn ≠ p ∧ gn ≠ h ∧ gn ≠ pp ∧ gn ≠ sp ∧ gn ≠ g ∧ gn ≠ v := ⟨(ne_of_none hp11 ngn).symm, (ne_of_none hh0 ngn).symm, (ne_of_none hpp ngn).symm, (ne_of_none hsp ngn).symm, (ne_of_none hg ngn).symm, (ne_of_none hv ngn).symm⟩
    generalize hh : upd H11 gn _ = H12; obtain ⟨s12, hgn⟩ := gen_new hh ngn; clear hh
    refine ⟨_, rfl, _, _, _, _, rfl, (s12 _ _ hp11), T.c_Standing, T.n_Standing_gone, (by show 6 < 1000; decide), ?_⟩
    generalize e13 : upd H12 p _ = H13
    obtain ⟨hp13, f13⟩ := gen_upd e13
    clear e13
    have hgn := f13 _ _ ne5.1 hgn
    have hv := f13 _ _ ne4.1 (s12 _ _ hv)
    have hg := f13 _ _ ne3.1 (s12 _ _ hg)
    have hsp := f13 _ _ ne2.1 (s12 _ _ hsp)
    have hh0 := f13 _ _ (ne_of_none hp1 nh).symm (s12 _ _ hh0)
    have hpp := f13 _ _ ne1.1 (s12 _ _ hpp)
    have f013 : ∀ c o, c ≠ p → H c = some o → H13 c = some o := fun c o q e => f13 _ _ q (s12 _ _ (f011 _ _ q e))
    have zgn : gn = p ∨ H gn = none := by
      cases e : H gn with
      | none => exact .inr rfl
      | some o => exact .inl (Classical.byContradiction fun q => by rw [f011 _ _ q e] at ngn; cases ngn)
    rw [put_Standing] at hp13
    have zM : ∀ m ∈ [p, h, pp, sp, g, v, gn], m = p ∨ H m = none := fun m hm => by
      simp only [List.mem_cons, List.not_mem_nil, or_false] at hm
      rcases hm with rfl | rfl | rfl | rfl | rfl | rfl | rfl
      · exact .inl rfl
      · exact zh
      · exact zpp
      · exact zsp
      · exact zg
      · exact zv
      · exact zgn
    clear hp1 hp3 hp5 hp7 hp9 hp11 f1 f3 f5 f7 f9 f11 f13 s2 s4 s6 s8 s10 s12 zh zpp zsp zg zv zgn f03 f05 f07 f09 f011 npp nsp ng nv ngn
    have hne : h ≠ p := by
      intro q
      rw [q, hp13] at hh0
      cases hh0
    have Hs : Same (hid [p] H) (hid [p, h, pp, sp, g, v, gn] H13) := fun c o e => by
      obtain ⟨m, e⟩ := of_hid e
      rw [List.mem_singleton] at m
      refine hid_of (f013 _ _ m e) fun q => ?_
      rcases zM c q with z | z
      · exact m z
      · rw [e] at z; cases z
    have X0 : StX K [p, h, pp, sp, g, v, gn] H13 p f [] SM.none 1 ⟨fb, dx, h, pp, sp, g, v, gn, [], [], [], [], [], []⟩ :=
      ⟨rfl, by
        simp only [List.nodup_cons, List.mem_cons, List.not_mem_nil, not_or, or_false, not_false_eq_true, List.nodup_nil, and_true]
        exact ⟨⟨Ne.symm hne, Ne.symm ne1.1, Ne.symm ne2.1, Ne.symm ne3.1, Ne.symm ne4.1, Ne.symm ne5.1⟩, ⟨Ne.symm ne1.2, Ne.symm ne2.2.1, Ne.symm ne3.2.1, Ne.symm ne4.2.1, Ne.symm ne5.2.1⟩, ⟨Ne.symm ne2.2.2, Ne.symm ne3.2.2.1, Ne.symm ne4.2.2.1, Ne.symm ne5.2.2.1⟩, ⟨Ne.symm ne3.2.2.2, Ne.symm ne4.2.2.2.1, Ne.symm ne5.2.2.2.1⟩, ⟨Ne.symm ne4.2.2.2.2, Ne.symm ne5.2.2.2.2.1⟩, Ne.symm ne5.2.2.2.2.2⟩,
        hp13, ⟨(F.hidp hp).same Hs, nofun⟩, hh0, Nat.zero_le _, fun y ⟨z, hz, _⟩ => (by cases hz), hpp, Nat.zero_le _, nofun, .nil, nofun, hsp, Nat.zero_le _, fun _ => rfl, ⟨[], rfl⟩, hg, Nat.zero_le _, .nil, hv, Nat.zero_le _, .nil, hgn, Nat.le_refl _⟩
    have F13 := X0.fld.1.same hid_same
    obtain ⟨dxf, gf, df, hf, _⟩ := F13.ob
    refine ⟨_, rfl, _, _, _, rfl, hf, lm_Field_bed_names, f, fb, rfl, F13, fun ys q H14 hperm s14 nq hq => ?_⟩
    have X1 := X0.grow s14
    have qM := X0.notM nq
    have hq1 : hid [p, h, pp, sp, g, v, gn] H14 q = some (.lst (ys.map V.str)) := hid_of hq qM
    have ndy : ys.Nodup := hperm.nodup_iff.mpr F.nd
    refine ⟨q, rfl, ⟨_, .of hq⟩, ?_⟩
    refine for_it walk_list (fun i σ H' => ∃ M' W' s' x2, σ = [some (.ref p), some (.ref f), x2] ∧ StX K M' H' p f (fb.filter fun z => decide (z.1.name ∈ ys.take i)) s' (1 + i) W' ∧ W'.fa = fb ∧ Stp [p, h, pp, sp, g, v, gn] H14 M' H' ∧
        (∀ z ∈ fb, z.1.name ∈ ys.take i → (∀ y, inBed z.1 y = true → s'.held y = z.1.owner) ∧ s'.units z.1.name = [(z.1.owner, 27720)]) ∧ s'.spoilt = SM.none.spoilt ∧ s'.good = [] ∧ s'.voids = [] ∧ s'.gone = [])
      ⟨_, _, SM.none, none, rfl, by
        have : (fb.filter fun z => decide (z.1.name ∈ ys.take 0)) = [] := by simp
        rw [this]
        exact X1, rfl, Stp.refl, fun z _ m => by simp at m, rfl, rfl, rfl, rfl⟩ (fun i σ H' _ ⟨_, _, _, _, _, _, _, e, _⟩ => e.same.seq (.of hq1)) ?_ ?_
    · rintro i y σ H15 H16 hi ⟨M', W', s', x2, rfl, X2, wfa, st2, sv, e1, e2, e3, e4⟩ ⟨rfl, hy⟩
      obtain ⟨nm, hnm, _, rfl⟩ := fb_at hy
      have hmem : nm ∈ fb.map fun x => x.1.name := hperm.mem_iff.mp (List.mem_of_getElem? hnm)
      obtain ⟨x, hx, rfl⟩ := List.mem_map.mp hmem
      have F2 := X2.fld.1.same hid_same
      rw [wfa] at F2
      obtain ⟨dxf, gf, df, hf, _⟩ := F2.ob
      have ny : ys.length ≤ 6 := by rw [hperm.length_eq, List.length_map]; exact F.n2
      rw [List.length_map] at hi
      have tk : ys.take (i + 1) = ys.take i ++ [x.1.name] := by rw [List.take_add_one, hnm]; rfl
      refine ⟨_, rfl, _, _, _, rfl, X2.ob, lm_Standing_back, _, rfl, _, _, _, rfl, hf, lm_Field_bed_of, _, rfl, f, fb, x, rfl, F2, hx, fun H17 s17 => ?_⟩
      have X3 := X2.grow s17
      have F3 := F2.same s17
      have hl3 := X3.hl
      have hpl3 := X3.hpl
      refine ⟨p, W'.dx, f, W'.h, W'.pp, W'.sp, W'.g, W'.v, W'.gn, x.2, x.1, W'.kvs, W'.pvs, rfl, X3.ob, X3.hh, X3.hp, by omega, by omega, F3.at_ x hx, (F3.ok x hx).r2, fun H18 kvs' m1 m2 m3 m4 m5 m6 => ?_⟩
      have sub : ∀ z ∈ (fb.filter fun z => decide (z.1.name ∈ ys.take (i + 1))), z ∈ (fb.filter fun z => decide (z.1.name ∈ ys.take i)) ∨ z = x := fun z hz => by
        obtain ⟨z1, z2⟩ := List.mem_filter.mp hz
        have z2 := of_decide_eq_true z2
        rw [tk] at z2
        rcases List.mem_append.mp z2 with z2 | z2
        · exact .inl (List.mem_filter.mpr ⟨z1, decide_eq_true z2⟩)
        · exact .inr (name_inj F.nd z1 hx (List.mem_singleton.mp z2))
      obtain ⟨M8, W8, X8, st8, w8⟩ := X3.backed (by rw [wfa]; exact hx) sub m1 m2 m3 m4 m5 m6
      refine ⟨M8, W8, _, _, rfl, X8, by rw [w8, wfa], st2.trans ((Stp.grow s17).trans st8), fun z hz mz => ?_, e1, e2, e3, e4⟩
      rw [tk] at mz
      by_cases ez : z = x
      · subst ez
        refine ⟨fun y iy => ?_, ?_⟩
        · show (if inBed z.1 y = true then z.1.owner else s'.held y) = _
          rw [if_pos iy]
        · show (if z.1.name = z.1.name then _ else s'.units z.1.name) = _
          rw [if_pos rfl]
      · have nz : z.1.name ≠ x.1.name := fun e => ez (name_inj F.nd hz hx e)
        have mz : z.1.name ∈ ys.take i := by
          rcases List.mem_append.mp mz with h | h
          · exact h
          · exact absurd (List.mem_singleton.mp h) nz
        obtain ⟨h1, h2⟩ := sv z hz mz
        refine ⟨fun y iy => ?_, ?_⟩
        · show (if inBed x.1 y = true then x.1.owner else s'.held y) = _
          rw [if_neg (fun iy2 => nz (by rw [← inBed_bed iy, inBed_bed iy2]))]
          exact h1 y iy
        · show (if z.1.name = x.1.name then _ else s'.units z.1.name) = _
          rw [if_neg nz]
          exact h2
    · rintro σ H15 ⟨M', W', s', x2, rfl, X2, wfa, st2, sv, e1, e2, e3, e4⟩
      have el : ys.take (ys.map V.str).length = ys := by rw [List.length_map]; exact List.take_length
      rw [el] at X2 sv
      have ny : ys.length ≤ 6 := by rw [hperm.length_eq, List.length_map]; exact F.n2
      have ndb : ((fb.map (·.1)).map Bd.name).Nodup := by rw [List.map_map]; exact F.nd
      have all : ∀ z ∈ fb, z.1.name ∈ ys := fun z hz => hperm.mem_iff.mpr (List.mem_map.mpr ⟨z, hz, rfl⟩)
      obtain ⟨b1, b2, b3, b4⟩ := back_rest (bs := fb.map (·.1)) (s := SM.none)
      have X3 := X2.congr (fb' := fb) (s' := SM.begin (fb.map fun x : Bd × Addr => x.1)) (fun z hz => List.mem_filter.mpr ⟨hz, decide_eq_true (all z hz)⟩)
        (fun z hz y iy => by rw [(sv z hz (all z hz)).1 y iy]; exact back_held ndb (List.mem_map.mpr ⟨z, hz, rfl⟩) iy)
        (fun z hz => by rw [(sv z hz (all z hz)).2]; exact back_units ndb (List.mem_map.mpr ⟨z, hz, rfl⟩))
        (b1.trans e1.symm) (b2.trans e2.symm) (b3.trans e3.symm) (b4.trans e4.symm)
      have ly : (ys.map V.str).length = ys.length := List.length_map ..
      refine k H15 M' W' (X3.mono (by omega)) (fun c o hc e => ?_) fun m hm => ?_
      · exact st2.same _ _ (hid_of (s14 _ _ (f013 _ _ hc e)) fun m => by
          rcases zM c m with z | z
          · exact hc z
          · rw [e] at z; cases z)
      · rcases st2.new m hm with z | z
        · exact zM m z
        · cases e : H m with
          | none => exact .inr rfl
          | some o =>
            refine .inl (Classical.byContradiction fun q => ?_)
            rw [s14 _ _ (f013 _ _ q e)] at z
            cases z
end
end Rp


set_option maxRecDepth 100000
set_option maxHeartbeats 4000000
namespace Rp
open PySem PySem.Spec PyProof.Rows L2
section
variable {P : Program} {w : World} {K : PySem.W.Frag} {mg : Str → Option Value} {base : Heap}
/-- a line of this field -/
def LnIn (fb : List (Bd × Addr)) : Ln → Prop
  | .pr r => ∃ x, PrIn fb r x
  | .sp n m b => (1 ≤ n ∧ 0 ≤ m) ∧ ∃ x ∈ fb, b = x.1.name
def sp_Standing_take (K : PySem.W.Frag) : Sp := fun vs H Q _ => ∃ (p a f : Addr) (M : List Addr) (fb : List (Bd × Addr)) (s : SM) (n : Nat) (W : StW) (l : Ln), vs = [.ref p, .ref a] ∧ StX K M H p f fb s n W ∧ n ≤ 1000 ∧ LnAt K (hid M H) a l ∧ LnIn fb l ∧
  ∀ H' M' W', StX K M' H' p f fb (s.take (fb.map (·.1)) l) (n + 2) W' → Stp M H M' H' → Q .non H'
theorem ok_Standing_take (T : Tx K mg) : FnOk P w K mg base CX0 6 (He.ma K (He.ga K "Standing") "take") (fdOf K dd_Standing_take) ["self", "line"] (sp_Standing_take K) := by
  refine okF T.d_Standing_take sc_Standing_take (fun vs H Q E h => ?_) (fun cdv A outer s H vs Q E hr h => ?_)
  · obtain ⟨_, _, _, _, _, _, _, _, _, rfl, _⟩ := h; rfl
  · obtain ⟨p, a, f, M, fb, s, n, W, l, rfl, X, hn, hl, hin, k⟩ := h
    have hu := hu_of hr
    refine ⟨_, (pss_one (ps_if (pt_not (pt_val (pe_callB (id := "isinstance") (isiK K rfl) (by rfl) T.f_isinstance (by decide +kernel) (pa_cons (pv 1) (pa_cons (pe_glob (v := .ref (He.ga K "Promise")) rfl T.g_Promise rfl) pa_nil))))) (pss_one (ps_expr (pe_meth (pv 0) T.c_Standing T.m_Standing_spoil (ok_Standing_spoil T) (hr.mono (by decide)) T.b_Standing_spoil .nil pass0 (pa_cons (pv 1) pa_nil)))) (pss_one (ps_if (PW.pt (pw_and (pt_cmp (pc_dnotin hu (pe_ix (ix_tupK K rfl) (pe_fldK K rfl (pv 1) rfl) pe_int (fun _ _ => rfl)) (pe_fldK K rfl (pv 0) rfl))) (pw_and1 (pt_val (pe_meth (pv 0) T.c_Standing T.m_Standing_holds (ok_Standing_holds T) (hr.mono (by decide)) T.b_Standing_holds .nil pass0 (pa_cons (pv 1) pa_nil)))))) (pss_one (ps_expr (pe_meth (pv 0) T.c_Standing T.m_Standing_go (ok_Standing_go T) (hr.mono (by decide)) T.b_Standing_go .nil pass0 (pa_cons (pv 1) pa_nil)))) (pss_one (ps_expr (pe_meth (pv 0) T.c_Standing T.m_Standing_void (ok_Standing_void T) (hr.mono (by decide)) T.b_Standing_void .nil pass0 (pa_cons (pv 1) pa_nil)))))))), ?_⟩
    cases l with
    | sp nu mo b =>
      obtain ⟨_, x, hx, rfl⟩ := hin
      have hl2 : SpAt K (hid M H) a nu mo x.1.name := hl
      obtain ⟨dx, h1⟩ := id hl2
      have g1 := hid_same _ _ h1
      refine ⟨_, rfl, _, _, _, _, false, rfl, .own _, .base (T.ty_Spoiling g1), T.ex1.2.2.2.1, false, rfl, iteT ?_⟩
      refine ⟨_, rfl, _, _, _, rfl, X.ob, lm_Standing_spoil, _, rfl, p, a, f, M, fb, s, n, W, nu, mo, x, rfl, X, hn, hl2, hx, fun H' M' W' X' st => ?_⟩
      exact k H' M' W' X' st
    | pr r =>
      obtain ⟨x, hin⟩ := hin
      have hl2 : PrAt K (hid M H) a r := hl
      obtain ⟨dx, t, h1, ht⟩ := id hl2
      have g1 := hid_same _ _ h1
      obtain ⟨z, v, hz⟩ := ht.tup
      have hz1 := hid_same _ _ hz
      have svb := X.sv r.th.bed
      have gS : DGet H W.sp (.str r.th.bed) ((s.spoilt r.th.bed).map V.int) := by
        have := DGet.k (k := Sum.inr r.th.bed) X.sp
        rw [svb] at this
        exact this
      refine ⟨_, rfl, _, _, _, _, true, rfl, .own _, .base (T.ty_Promise g1), T.kit_Promise, true, rfl, iteF ?_⟩
      refine ⟨_, rfl, _, _, _, _, _, rfl, g1, T.c_Promise, T.n_Promise_thing, l_Promise_thing, _, _, _, _, rfl, rfl, .of hz1, atI_nat (j := 1) rfl, _, rfl, _, _, _, _, _, rfl, X.ob, T.c_Standing, T.n_Standing_spoilt, l_Standing_spoilt, _, _, rfl, gS, ?_⟩
      cases es : s.spoilt r.th.bed with
      | some m =>
        have em : s.take (fb.map (·.1)) (.pr r) = s.void r := by
          show (if ((s.spoilt r.th.bed).isNone && s.holds r) = true then s.go r else s.void r) = _
          rw [es]
          rfl
        rw [em] at k
        exact ⟨false, rfl, iteF ⟨_, rfl, _, _, _, rfl, X.ob, lm_Standing_void, _, rfl, p, a, f, M, fb, s, n, W, r, x, rfl, X, hn, hl2, hin, fun H' W' X' st => k H' M W' (X'.mono (by omega)) st⟩⟩
      | none =>
        refine ⟨true, rfl, iteT ⟨_, rfl, _, _, _, rfl, X.ob, lm_Standing_holds, _, rfl, p, a, f, M, fb, s, n, W, r, x, rfl, X, hn, hl2, hin, fun H1 s1 => ⟨_, rfl, ?_⟩⟩⟩
        have X1 := X.grow s1
        have hl3 : PrAt K (hid M H1) a r := hl2.same (Stp.grow s1).sub
        cases eh : s.holds r with
        | true =>
          have em : s.take (fb.map (·.1)) (.pr r) = s.go r := by
            show (if ((s.spoilt r.th.bed).isNone && s.holds r) = true then s.go r else s.void r) = _
            rw [es, eh]
            rfl
          rw [em] at k
          exact iteT ⟨_, rfl, _, _, _, rfl, X1.ob, lm_Standing_go, _, rfl, p, a, f, M, fb, s, n, W, r, x, rfl, X1, hn, hl3, hin, eh, fun H' W' X' st => k H' M W' X' ((Stp.grow s1).trans st)⟩
        | false =>
          have em : s.take (fb.map (·.1)) (.pr r) = s.void r := by
            show (if ((s.spoilt r.th.bed).isNone && s.holds r) = true then s.go r else s.void r) = _
            rw [es, eh]
            rfl
          rw [em] at k
          exact iteF ⟨_, rfl, _, _, _, rfl, X1.ob, lm_Standing_void, _, rfl, p, a, f, M, fb, s, n, W, r, x, rfl, X1, hn, hl3, hin, fun H' W' X' st => k H' M W' (X'.mono (by omega)) ((Stp.grow s1).trans st)⟩
end
end Rp


set_option maxRecDepth 100000
set_option maxHeartbeats 4000000
namespace Rp
open PySem PySem.Spec PyProof.Rows L2
/-! ### the lines in time -/
theorem name_exact {X : Cx} {pins : List (Addr × Obj)} {σ : L2.St} {H : Hp} {s : Shared} (I : Inv X pins σ H s) {i : Nat} {x : Str} {v : V} {pos : Pos} {Q : Value → Shared → Prop} {E : Value → Shared → Prop} (hN : X.N[i]? = some x) (e : σ[i]? = some (some v)) (hv : Vis X.env.scope x)
    (hd : (x == ("__debug__" : Str)) = false := by decide) (hcd : (x == ("__classdict__" : Str)) = false := by decide) (h : ∀ u, RelV v u → Q u s) : wpAny (model X.prog X.w) X.A (eval (.Name x pos) X.env) Q E s := by
  obtain ⟨m, hn, hl⟩ := I.loc
  obtain ⟨u, r, k⟩ := hl i x v hN e hv
  have q := h u r
  rcases k with ⟨k1, k2⟩ | ⟨k1, c, k2, k3⟩
  · exact wpAny_Name (wpAny_loadName_local I.ok.kind k1 hn k2 q) hd
  · rcases k1 with k1 | k1
    · exact wpAny_Name (wpAny_loadName_cell I.ok.kind k1 k2 k3 q) hd
    · exact wpAny_Name (wpAny_loadName_free I.ok.kind k1 k2 k3 q hcd) hd
theorem fld_exact {X : Cx} {pins : List (Addr × Obj)} {σ : L2.St} {H : Hp} {s : Shared} {A : Around} (I : Inv X pins σ H s) {a C dx : Addr} {fs : List (Str × V)} {f : Str} {v : V} {b : Bool} {Q : Value → Shared → Prop} {E : Value → Shared → Prop} (e : H a = some (.ins C dx fs)) (c : Cls X.K C) (n : NoAttr X.K C f) (l : fs.lookup f = some v)
    (h : ∀ u, RelV v u → Q u { s with toks := s.toks + 1 }) : wpAny (model X.prog X.w) A (getAttr (.ref a) f b) Q E s := by
  obtain ⟨mA, O, r, _, _, _⟩ := ins_get I.hok e
  have r1 := r f
  rw [l] at r1
  obtain ⟨u, hu, ru⟩ := RelO.some_of r1
  exact get_map I.kIn O (c.get f) c.hd n hu (handed_of ru) (h u ru)
section
variable {P : Program} {w : World} {K : PySem.W.Frag} {mg : Str → Option Value} {base : Heap}
/-- where a line's moment and number stand -/
theorem LnAt.flds (T : Tx K mg) {H : Hp} {p : Addr} {l : Ln} (h : LnAt K H p l) : ∃ C dx fs, H p = some (.ins C dx fs) ∧ Cls K C ∧ NoAttr K C "moment" ∧ NoAttr K C "number" ∧ fs.lookup ("moment" : Str) = some (.int l.mom) ∧ fs.lookup ("number" : Str) = some (.int l.num) := by
  cases l with
  | pr r =>
    obtain ⟨dx, t, h1, _⟩ := h
    exact ⟨_, _, _, h1, T.c_Promise, T.n_Promise_moment, T.n_Promise_number, l_Promise_moment, l_Promise_number⟩
  | sp n m b =>
    obtain ⟨dx, h1⟩ := h
    exact ⟨_, _, _, h1, T.c_Spoiling, T.n_Spoiling_moment, T.n_Spoiling_number, l_Spoiling_moment, l_Spoiling_number⟩
def lnD (l : Ln) : PyData := .tuple [.int l.mom, .int l.num]
theorem when_pure (T : Tx K mg) {A : Around} {outer : List Env} {s : Shared} {H : Hp} {p : Addr} {l : Ln} {E : Value → Shared → Prop} (hdp : A.depth < recursionLimit) (hhd : A.handled = none) (e0 : Env0 P w K mg base A outer s H) (hl : LnAt K H p l) :
    wpAny (model P w) A (call (.ref (He.ga K "when")) [.ref p]) (PySem.W.KeyPure (lnD l) s) E s := by
  obtain ⟨oc, od, dV, kV, doc, pm, an, cdv, ct, osl, hfd, lk, hcd, _, _⟩ := T.d_when.ex
  have hb := T.b_when
  rw [hfd] at lk hb
  have KX : K.In s.heap := e0.mod.kin.keeps fun b o e => (e0.bs b o e).1
  have lim : s.heap.NoLimit := e0.mod.nolimit.keeps fun b o e => (e0.bs b o e).1
  have r : Vals [V.ref p] [Value.ref p] := .cons rfl .nil
  have hkind : ∀ y ∈ (["line"] : List Str).zip [Value.ref p], (defScope s_when).names.lookup y.1 = some .local ∨ ((defScope s_when).names.lookup y.1 = some .cell ∧ ((cellsFrom (s.heap.objs.size + 1) (defScope s_when).names []).lookup y.1).isSome = true) := fun ⟨n, v⟩ hy => by
    rcases sc_when.par n (List.of_mem_zip hy).1 with q | q
    · exact .inl q
    · exact .inr ⟨q, PySem.W.cellsFrom_some _ _ _ (.inl q)⟩
  refine wpAny_call (codeAny_call_function hdp (KX _ _ lk) rfl sc_when.co sc_when.gen rfl (PySem.W.codeRec_of KX hcd) (hb s [Value.ref p] KX rfl _ _ _ _ ?_))
  refine wpAny_newFunctionEnv_cells sc_when.kind hkind fun env he s1 x => ?_
  subst he
  refine ⟨lim.keeps x.toInCall.keep, codeAny_func ?_⟩
  have I : Inv (cxOf CX0 P w K mg base N_when "when" (defScope s_when) (He.ga K "when") cdv A outer s H (fun _ _ _ => False)) [] (start N_when [V.ref p]) H s1 := inv_start sc_when hhd e0 rfl r x
  obtain ⟨h1, tk, rfl, hk⟩ := x.done
  obtain ⟨C, dx, fs, g1, g2, g3, g4, g5, g6⟩ := hl.flds T
  refine wpAny_execs_cons (wpAny_Return_some (wpAny_Tuple_spliced ?_))
  refine Calls.spliced_cons (attr_of rfl (name_exact (i := 0) (x := "line") I rfl rfl (Or.inl rfl) (h := fun u ru => ?_)))
  obtain rfl : u = Value.ref p := ru
  refine fld_exact I g1 g2 g3 g5 fun u ru => ?_
  obtain ⟨k1, rfl⟩ := ru
  have I2 := I.tok ((tk : Nat) + 1)
  refine Calls.spliced_cons (attr_of rfl (name_exact (i := 0) (x := "line") I2 rfl rfl (Or.inl rfl) (h := fun u ru => ?_)))
  obtain rfl : u = Value.ref p := ru
  refine fld_exact I2 g1 g2 g4 g6 fun u ru => ?_
  obtain ⟨k2, rfl⟩ := ru
  refine Calls.spliced_nil ⟨by show 2 ≤ sizeLine; decide, ?_⟩
  refine ⟨_, _, rfl, fun b o e => Heap.get?_push_of_some _ (hk b o e), ?_⟩
  exact .tuple (Heap.get?_push_size _ rfl) rfl rfl (.cons (.int _ _) (.cons (.int _ _) .nil))
end
/-! sorted(lines, key=when) -/
def lnLe (a b : Ln) : Prop := a.mom < b.mom ∨ (a.mom = b.mom ∧ a.num ≤ b.num)
def rWhen (K : PySem.W.Frag) : List V → List V → Hp → VK → Prop := fun vs zs H Q => ∃ (a : Addr) (bs : List (Addr × Ln)), vs = [.ref a] ∧ zs = [.ref (He.ga K "when")] ∧ SqL K H a (bs.map fun x => V.ref x.1) ∧ (∀ x ∈ bs, LnAt K H x.1 x.2) ∧
  ∀ (cs : List (Addr × Ln)) (p : Addr), cs.Perm bs → cs.Pairwise (fun x y => lnLe x.2 y.2) → H p = none → Q (.ref p) (upd H p (.lst (cs.map fun x => V.ref x.1)))
theorem each_of : ∀ {bs : List (Addr × Ln)} {its : List Value}, Vals (bs.map fun x => V.ref x.1) its → PySem.W.EachIs (fun (v : Value) (x : Addr × Ln) => v = .ref x.1) its bs
  | [], _, h => by cases h; exact .nil
  | b :: r, _, h => by
    cases h with
    | cons q t => exact .cons q (each_of t)
theorem of_each : ∀ {bs : List (Addr × Ln)} {its : List Value}, PySem.W.EachIs (fun (v : Value) (x : Addr × Ln) => v = .ref x.1) its bs → Vals (bs.map fun x => V.ref x.1) its
  | [], _, h => by cases h; exact .nil
  | b :: r, _, h => by
    cases h with
    | cons q t => exact .cons q (of_each t)
theorem cr_when {X : Cx} (T : Tx X.K X.mg) (hr : Room 0 X.A) : CallRK X (.builtin "sorted") [Str.ofString "key"] (rWhen X.K) := by
  intro pins s σ H vs zs us ws Q I r rz h
  obtain ⟨a, bs, rfl, rfl, hs, hl, q⟩ := h
  obtain rfl := Vals.ref1 r
  obtain rfl := Vals.ref1 rz
  obtain ⟨its, rv, pl, hz⟩ := I.list hs
  have un := hr.un
  rw [List.length_map] at hz
  refine PySem.W.sorted_key_data (b := false) (fun x : Addr × Ln => lnD x.2) pl.isList (each_of rv) (PySem.W.AllAlike.of fun _ _ => by simp [PySem.W.alike, PySem.W.alikeAll, lnD]) (PySem.W.Sortable.tuples fun _ => ⟨_, _, rfl⟩) hz (fun x _ => ?_) (ksk_s1 _ _) (fun _ => ksk_l1 _ _) (fun _ => ksk_t1 _ _)
    (fun v x hv hx h tk kp => ?_) fun out c h' tk kp nf hD lo eo => ?_
  · have hd : (lnD x.2).depth = 1 := by simp [lnD, PyData.depth, PyData.depthAll]
    omega
  · rw [hv]
    have I2 : Inv X pins σ H { s with heap := h, toks := tk } := I.kept kp
    exact when_pure T hr.depth hr.hd I2.env0.in1.in1 (hl x hx)
  · have em : (PySem.W.dataLe false fun x : Addr × Ln => lnD x.2) = fun x y : Addr × Ln => decide (x.2.mom < y.2.mom ∨ (x.2.mom = y.2.mom ∧ x.2.num ≤ y.2.num)) := PySem.W.dataLe_ii (fun x : Addr × Ln => x.2.mom) fun x => x.2.num
    rw [em] at eo
    have pm := List.mergeSort_perm bs fun x y : Addr × Ln => decide (x.2.mom < y.2.mom ∨ (x.2.mom = y.2.mom ∧ x.2.num ≤ y.2.num))
    have ps := List.pairwise_mergeSort (le := fun x y : Addr × Ln => decide (x.2.mom < y.2.mom ∨ (x.2.mom = y.2.mom ∧ x.2.num ≤ y.2.num))) (by
      intro x y z h1 h2
      have h1 := of_decide_eq_true h1
      have h2 := of_decide_eq_true h2
      refine decide_eq_true ?_
      omega) (by
      intro x y
      rw [Bool.or_eq_true, decide_eq_true_eq, decide_eq_true_eq]
      omega) bs
    refine ⟨.ref _, upd H (s.heap.objs.size + 1) (.lst _), I.laid kp (Nat.le_succ _) ⟨?_, _, c, of_each eo, hD⟩, rfl, q _ _ pm (ps.imp fun e => of_decide_eq_true e) (I.hok.fresh (Nat.le_succ _))⟩
    rw [List.length_map, pm.length_eq]
    exact hz
section
variable {P : Program} {w : World} {K : PySem.W.Frag} {mg : Str → Option Value} {base : Heap}
def sp_in_time (K : PySem.W.Frag) : Sp := fun vs H Q _ => ∃ (a : Addr) (bs : List (Addr × Ln)), vs = [.ref a] ∧ SqL K H a (bs.map fun x => V.ref x.1) ∧ (∀ x ∈ bs, LnAt K H x.1 x.2) ∧
  ∀ (cs : List (Addr × Ln)) (p : Addr) (H' : Hp), cs.Perm bs → cs.Pairwise (fun x y => lnLe x.2 y.2) → H p = none → Same H H' → H' p = some (.lst (cs.map fun x => V.ref x.1)) → Q (.ref p) H'
theorem ok_in_time (T : Tx K mg) : FnOk P w K mg base CX0 4 (He.ga K "in_time") (fdOf K dd_in_time) ["lines"] (sp_in_time K) := by
  refine okF T.d_in_time sc_in_time (fun vs H Q E h => ?_) (fun cdv A outer s H vs Q E hr h => ?_)
  · obtain ⟨_, _, rfl, _⟩ := h; rfl
  · obtain ⟨a, bs, rfl, hs, hl, k⟩ := h
    refine ⟨_, (pss_one (ps_ret (pe_callBK (cr_when T (hr.mono (by decide))) (by rfl) T.f_sorted (by decide +kernel) (pa_cons (pv 0) pa_nil) (pk_cons (pe_glob (v := .ref (He.ga K "when")) rfl T.g_when rfl) pk_nil)))), ?_⟩
    exact ⟨_, rfl, a, bs, rfl, rfl, hs, hl, fun cs p h1 h2 h3 => k cs p _ h1 h2 h3 (same_new h3) upd_same⟩
end
end Rp


set_option maxRecDepth 100000
set_option maxHeartbeats 4000000
namespace Rp
open PySem PySem.Spec PyProof.Rows L2
/-! ### list(d.values()) -/
def tListVals (te : TE) : TE := fun σ H Q => te σ H fun x H1 => ∃ (d : Addr) (kvs : List (Key × V)), x = .ref d ∧ H1 d = some (.dK kvs) ∧ ∀ p, H1 p = none → Q (.ref p) (upd H1 p (.lst (kvs.map (·.2))))
theorem kv_items : ∀ {kvs : List (Key × V)} {vs : List (Key × Value)} {acc : List Value}, KV kvs vs → acc.length = vs.length → (∀ (i : Nat) (v : Value), acc[i]? = some v → ∃ k, vs[i]? = some (k, v)) → Vals (kvs.map (·.2)) acc
  | _, _, [], .nil, _, _ => .nil
  | _, _, x :: r, .nil, h, _ => by cases h
  | _, _, [], .cons _ _, h, _ => by cases h
  | _, _, x :: r, .cons (b := b) q t, h, g => by
    obtain ⟨k, e⟩ := g 0 x rfl
    have e : b = (k, x) := Option.some.inj e
    refine .cons ?_ (kv_items t (Nat.succ.inj h) fun i v hv => g (i + 1) v hv)
    have := q.2
    rw [e] at this
    exact this
theorem pe_listVals {X : Cx} {e : Expr} {te : TE} {p apos cpos pos : Pos} (hc : X.calm = true) (he : PE X e te) (hg : Gl X "list") (hm : X.mg "list" = none) (hv : bootBuiltins "list" = some (.type "list"))
    (hbase : attributeBase e "values" X.env (eval e X.env) = eval e X.env := by rfl) (hline : (apos.endLine == cpos.line) = true := by rfl)
    (hs : starEach [.Call (.Attribute e "values" apos) [] [] cpos] X.env = (false, eval (.Call (.Attribute e "values" apos) [] [] cpos) X.env) :: starEach [] X.env := by rfl) :
    PE X (.Call (.Name "list" p) [.Call (.Attribute e "values" apos) [] [] cpos] [] pos) (tListVals te) := by
  refine ⟨fun pins s σ H Q I hq => wpAny_Call_Name_kw (ld_blt I hg hm hv ?_)⟩
  refine callWith_type1 ?_ hs rfl
  rw [hs]
  refine Calls.spliced_cons (wpAny_Call_method (T := "dict") (id := "dict.values") hbase rfl hline F.plainAttrs_dict F.slot_dict_values F.type_dict_values (thn (he.run pins s σ H _ I hq) fun u t ⟨x, G, J, rx, d, kvs, ex, hd, k⟩ => ?_))
  subst ex
  obtain rfl : u = Value.ref d := rx
  obtain ⟨hz, hsys, vs, kv, dof⟩ := J.hok d _ hd
  obtain ⟨ep, dat⟩ := dof.dictAt
  have lkv : kvs.length = vs.length := Paired.length kv
  have J2 : Inv X pins σ G { t with heap := t.heap.push { cls := .type "dict_values", data := .fields #[.ref d] } } := J.kept (t' := t.toks) fun b o z => Heap.get?_push_of_some _ z
  refine ⟨dof.typeIs, dof.mapOf.noDict, ?_⟩
  show wpAny _ _ (callWith cpos (.builtin "dict.values") [.ref d] [] []) _ X.xe t
  refine method_meetsIn F.slot_dict_values F.entry_dict_values rfl (PySem.evalArgs_none ⟨rfl, dof.typeIs, F.args_dict_values_1 _, _, meets_dict_values (mixKind X.prog X.w) d hsys, ⟨vs, dof⟩, Calls.spliced_nil ?_⟩)
  refine PySem.W.kdl_call (PySem.W.kdl_values (knd := mixKind X.prog X.w) (d := d) (kvs := vs) (ep := ep)) (J2.ok.hd hc) ⟨⟨_, Heap.get?_push_size _ rfl, rfl, rfl⟩, dat.push _⟩ (by omega) fun h' tk acc c hk hS it => ?_
  have nS : G (Heap.push t.heap { cls := .type "dict_values", data := .fields #[.ref d] }).objs.size = none := J2.hok.fresh (Nat.le_refl _)
  have al : acc.toList.length = vs.length := by rw [Array.length_toList]; exact it.1
  refine ⟨.ref _, upd G _ (.lst (kvs.map (·.2))), J2.laid hk (Nat.le_refl _) ⟨by rw [List.length_map]; exact hz, acc.toList, c, kv_items kv al fun i v hv => it.2 i v (by rw [← hv, Array.getElem?_toList]), ?_⟩, rfl, k _ nS⟩
  rw [Array.toArray_toList]
  exact hS
end Rp


set_option maxRecDepth 100000
set_option maxHeartbeats 4000000
namespace Rp
open PySem PySem.Spec PyProof.Rows L2
section
variable {P : Program} {w : World} {K : PySem.W.Frag} {mg : Str → Option Value} {base : Heap}
/-! ### the ledger, while lines are told -/
/-- the ledger at g: its field at f, its lines at the addresses of bs, in the order that they were told -/
structure LdAt (K : PySem.W.Frag) (H : Hp) (g kn f : Addr) (cv : V) (fb : List (Bd × Addr)) (bs : List (Addr × Ln)) : Prop where
  ob : ∃ dx, H g = some (.ins (A_Ledger K) dx (fs_Ledger (.ref f) (.ref kn) cv))
  kd : H kn = some (.dK (bs.map fun x => ((Sum.inl x.2.num : Key), V.ref x.1)))
  fld : FieldAt K (hid [g, kn] H) f fb
  ln : ∀ x ∈ bs, LnAt K (hid [g, kn] H) x.1 x.2 ∧ LnIn fb x.2
  nd : (bs.map fun x => x.2.num).Nodup
theorem LdAt.same {H H' : Hp} {g kn f : Addr} {cv : V} {fb : List (Bd × Addr)} {bs : List (Addr × Ln)} (L : LdAt K H g kn f cv fb bs) (s : Same H H') : LdAt K H' g kn f cv fb bs := by
  have e : Same (hid [g, kn] H) (hid [g, kn] H') := (Stp.grow s).sub
  exact ⟨let ⟨dx, q⟩ := L.ob; ⟨dx, s _ _ q⟩, s _ _ L.kd, L.fld.same e, fun x hx => ⟨(L.ln x hx).1.same e, (L.ln x hx).2⟩, L.nd⟩
/-- a line isn't the ledger's own -/
theorem LnAt.hidL {H : Hp} {a g kn : Addr} {l : Ln} {C dx : Addr} {x y z : V} {kvs : List (Key × V)} (h : LnAt K H a l) (hg : H g = some (.ins C dx (fs_Ledger x y z))) (hk : H kn = some (.dK kvs)) : LnAt K (hid [g, kn] H) a l := by
  have ins : ∀ {c C2 d2 fs}, fs.map (·.1) ≠ (["field", "known_lines", "come"] : List Str) → H c = some (.ins C2 d2 fs) → hid [g, kn] H c = some (.ins C2 d2 fs) := fun {c C2 d2 fs} n e => hid_of e fun m => by
    rcases List.mem_cons.mp m with m | m
    · rw [m, hg] at e
      injection e with e; injection e with e1 e2 e3
      exact n (by rw [← e3]; rfl)
    · rw [List.mem_singleton] at m
      rw [m, hk] at e; cases e
  have tup : ∀ {c xs}, H c = some (.tup xs) → hid [g, kn] H c = some (.tup xs) := fun {c xs} e => hid_of e fun m => by
    rcases List.mem_cons.mp m with m | m
    · rw [m, hg] at e; cases e
    · rw [List.mem_singleton] at m
      rw [m, hk] at e; cases e
  have nP : ∀ {q : Addr} {u : Nat}, PtAt K H q u → PtAt K (hid [g, kn] H) q u := fun ⟨d, e⟩ => ⟨d, ins (show ¬ (["top", "bottom"] : List Str) = (["field", "known_lines", "come"] : List Str) by decide +kernel) e⟩
  cases l with
  | pr r =>
    obtain ⟨d, t, e, ht⟩ := h
    refine ⟨d, t, ins (show ¬ (["number", "moment", "seller", "buyer", "thing", "price", "rule", "offsets", "earnest"] : List Str) = (["field", "known_lines", "come"] : List Str) by decide +kernel) e, ?_⟩
    cases eth : r.th with
    | root b k => rw [eth] at ht; exact tup ht
    | offs b k => rw [eth] at ht; exact tup ht
    | share b u =>
      rw [eth] at ht
      obtain ⟨q, e1, e2⟩ := ht
      exact ⟨q, tup e1, nP e2⟩
  | sp n m b =>
    obtain ⟨d, e⟩ := h
    exact ⟨d, ins (show ¬ (["number", "moment", "bed"] : List Str) = (["field", "known_lines", "come"] : List Str) by decide +kernel) e⟩
def sp_Ledger_init (K : PySem.W.Frag) : Sp := fun vs H Q _ => ∃ (g dx f : Addr) (fb : List (Bd × Addr)), vs = [.ref g, .ref f] ∧ H g = some (.ins (A_Ledger K) dx []) ∧ FieldAt K H f fb ∧
  ∀ H' kn, LdAt K H' g kn f .non fb [] → (∀ c o, c ≠ g → H c = some o → H' c = some o) → (kn ≠ g ∧ H kn = none) → Q .non H'
theorem ok_Ledger_init (T : Tx K mg) : FnOk P w K mg base CX0 1 (He.ma K (He.ga K "Ledger") "__init__") (fdOf K dd_Ledger_init) ["self", "field"] (sp_Ledger_init K) := by
  refine okF T.d_Ledger_init sc_Ledger_init (fun vs H Q E h => ?_) (fun cdv A outer s H vs Q E hr h => ?_)
  · obtain ⟨_, _, _, _, rfl, _⟩ := h; rfl
  · obtain ⟨g, dx, f, fb, rfl, hg, F, k⟩ := h
    have hu := hu_of hr
    refine ⟨_, (pss_cons (ps_fld (pv 0) (pv 1) rfl)
      (pss_cons (ps_fld (pv 0) pe_dnewK rfl)
      (pss_one (ps_fld (pv 0) pe_non rfl)))), ?_⟩
    refine ⟨_, rfl, _, rfl, _, _, _, _, rfl, hg, T.c_Ledger, T.n_Ledger_field, (by show 0 < 1000; decide), ?_⟩
    generalize e1 : upd H g _ = H1
    obtain ⟨hg1, f1⟩ := gen_upd e1
    clear e1
    intro kn nk
    generalize hh : upd H1 kn _ = H2; obtain ⟨s2, hkn⟩ := gen_new hh nk; clear hh
    refine ⟨_, rfl, _, _, _, _, rfl, (s2 _ _ hg1), T.c_Ledger, T.n_Ledger_known_lines, (by show 1 < 1000; decide), ?_⟩
    generalize e3 : upd H2 g _ = H3
    obtain ⟨hg3, f3⟩ := gen_upd e3
    clear e3
    have nkg : kn ≠ g := (ne_of_none hg1 nk).symm
    refine ⟨_, rfl, _, _, _, _, rfl, hg3, T.c_Ledger, T.n_Ledger_come, (by show 2 < 1000; decide), ?_⟩
    generalize e4 : upd H3 g _ = H4
    obtain ⟨hg4, f4⟩ := gen_upd e4
    clear e4
    rw [put_Ledger] at hg4
    have nk0 : H kn = none := by
      cases e : H kn with
      | none => rfl
      | some o => rw [f1 _ _ nkg e] at nk; cases nk
    have fr : ∀ c o, c ≠ g → H c = some o → H4 c = some o := fun c o n e => f4 _ _ n (f3 _ _ n (s2 _ _ (f1 _ _ n e)))
    refine k H4 kn ⟨⟨dx, hg4⟩, f4 _ _ nkg (f3 _ _ nkg hkn), (F.hidp hg).same fun c o e => ?_, nofun, .nil⟩ fr ⟨nkg, nk0⟩
    obtain ⟨m, e⟩ := of_hid e
    rw [List.mem_singleton] at m
    refine hid_of (fr _ _ m e) fun q => ?_
    rcases List.mem_cons.mp q with q | q
    · exact m q
    · rw [List.mem_singleton] at q
      rw [q, nk0] at e; cases e
def sp_Ledger_check (K : PySem.W.Frag) : Sp := fun vs H Q _ => ∃ (g kn f : Addr) (cv : V) (fb : List (Bd × Addr)) (bs : List (Addr × Ln)) (a : Addr) (l : Ln), vs = [.ref g, .ref a] ∧ LdAt K H g kn f cv fb bs ∧ LnAt K H a l ∧ LnIn fb l ∧
  ∀ H', Same H H' → Q .non H'
theorem ok_Ledger_check (T : Tx K mg) : FnOk P w K mg base CX0 6 (He.ma K (He.ga K "Ledger") "check") (fdOf K dd_Ledger_check) ["self", "line"] (sp_Ledger_check K) := by
  refine okF T.d_Ledger_check sc_Ledger_check (fun vs H Q E h => ?_) (fun cdv A outer s H vs Q E hr h => ?_)
  · obtain ⟨_, _, _, _, _, _, _, _, rfl, _⟩ := h; rfl
  · obtain ⟨g, kn, f, cv, fb, bs, a, l, rfl, L, hl, hin, k⟩ := h
    have hu := hu_of hr
    refine ⟨_, (pss_cons (ps_if (pt_not (pt_val (pe_call (ok_is_line T) (hr.mono (by decide)) rfl T.g_is_line T.d_is_line.kp T.b_is_line .nil pass0 (pa_cons (pv 1) pa_nil)))) (pss_one ps_never) pss_nil)
      (pss_one (ps_if (pt_val (pe_callB (id := "isinstance") (isiK K rfl) (by rfl) T.f_isinstance (by decide +kernel) (pa_cons (pv 1) (pa_cons (pe_glob (v := .ref (He.ga K "Promise")) rfl T.g_Promise rfl) pa_nil)))) (pss_one (ps_if (pt_not (pt_val (pe_call (ok_has T) (hr.mono (by decide)) rfl T.g_has T.d_has.kp T.b_has .nil pass0 (pa_cons (pe_fldK K rfl (pv 0) rfl) (pa_cons (pe_fldK K rfl (pv 1) rfl) pa_nil))))) (pss_one ps_never) pss_nil)) (pss_one (ps_if (pt_cmpR (op_notInK K rfl) (pe_fldK K rfl (pv 1) rfl) (pe_meth0 (pe_fldK K rfl (pv 0) rfl) T.c_Field T.m_Field_bed_names (ok_Field_bed_names T) (hr.mono (by decide)) T.b_Field_bed_names .nil pass0) (by rfl)) (pss_one ps_never) pss_nil))))), ?_⟩
    obtain ⟨dx, hg⟩ := L.ob
    have F := L.fld.same hid_same
    obtain ⟨dxf, gf, df, hf, _⟩ := F.ob
    refine ⟨_, rfl, a, l, rfl, hl, true, rfl, iteF ?_⟩
    cases l with
    | pr r =>
      obtain ⟨x, ok, hx, inb⟩ := hin
      obtain ⟨d, t, h1, ht⟩ := hl
      refine ⟨_, rfl, _, _, _, _, true, rfl, .own _, .base (T.ty_Promise h1), T.kit_Promise, true, rfl, iteT ?_⟩
      exact ⟨_, rfl, _, _, _, _, _, rfl, hg, T.c_Ledger, T.n_Ledger_field, l_Ledger_field, _, rfl, _, _, _, _, _, rfl, h1, T.c_Promise, T.n_Promise_thing, l_Promise_thing, f, t, fb, x, r.th, rfl, F, hx, ht, ok.th, inb, fun H' s => ⟨true, rfl, iteF (k H' s)⟩⟩
    | sp n m b =>
      obtain ⟨_, x, hx, rfl⟩ := hin
      obtain ⟨d, h1⟩ := hl
      refine ⟨_, rfl, _, _, _, _, false, rfl, .own _, .base (T.ty_Spoiling h1), T.ex1.2.2.2.1, false, rfl, iteF ?_⟩
      refine ⟨_, rfl, _, _, _, _, _, rfl, h1, T.c_Spoiling, T.n_Spoiling_bed, l_Spoiling_bed, _, rfl, _, _, _, _, _, rfl, hg, T.c_Ledger, T.n_Ledger_field, l_Ledger_field, _, _, _, rfl, hf, lm_Field_bed_names, f, fb, rfl, F, fun ys q H2 hp s2 nq hq => ?_⟩
      have mem : x.1.name ∈ ys := hp.mem_iff.mpr (List.mem_map.mpr ⟨x, hx, rfl⟩)
      exact ⟨_, _, rfl, .inl (.of hq), rfl, flat_strs ys, false, congrArg V.bl (congrArg not (inV_str mem)), iteF (k H2 s2)⟩
def sp_Ledger_tell (K : PySem.W.Frag) : Sp := fun vs H Q _ => ∃ (g kn f : Addr) (fb : List (Bd × Addr)) (bs : List (Addr × Ln)) (a : Addr) (l : Ln), vs = [.ref g, .ref a] ∧ LdAt K H g kn f .non fb bs ∧ LnAt K H a l ∧ LnIn fb l ∧ l.num ∉ (bs.map fun x => x.2.num) ∧ bs.length < 100 ∧
  ∀ H', LdAt K H' g kn f .non fb (bs ++ [(a, l)]) → (∀ c o, c ≠ g → c ≠ kn → H c = some o → H' c = some o) → Q (.str "kept") H'
theorem num_none {bs : List (Addr × Ln)} {n : Int} (h : n ∉ (bs.map fun x => x.2.num)) : valV (bs.map fun x => ((Sum.inl x.2.num : Key), V.ref x.1)) (Sum.inl n : Key) = none := by
  refine valV_none fun m => h ?_
  rw [List.map_map] at m
  obtain ⟨x, hx, e⟩ := List.mem_map.mp m
  exact List.mem_map.mpr ⟨x, hx, Sum.inl.inj e⟩
theorem num_put {bs : List (Addr × Ln)} {a : Addr} {l : Ln} (h : l.num ∉ (bs.map fun x => x.2.num)) : putK (bs.map fun x => ((Sum.inl x.2.num : Key), V.ref x.1)) (Sum.inl l.num : Key) (.ref a) = (bs ++ [(a, l)]).map fun x => ((Sum.inl x.2.num : Key), V.ref x.1) := by
  unfold putK
  rw [if_neg, List.map_append]
  · rfl
  · intro z
    obtain ⟨y, hy, e⟩ := List.any_eq_true.mp z
    obtain ⟨x, hx, rfl⟩ := List.mem_map.mp hy
    exact h (List.mem_map.mpr ⟨x, hx, Sum.inl.inj (of_decide_eq_true e)⟩)
theorem ok_Ledger_tell (T : Tx K mg) : FnOk P w K mg base CX0 7 (He.ma K (He.ga K "Ledger") "tell") (fdOf K dd_Ledger_tell) ["self", "line"] (sp_Ledger_tell K) := by
  refine okF T.d_Ledger_tell sc_Ledger_tell (fun vs H Q E h => ?_) (fun cdv A outer s H vs Q E hr h => ?_)
  · obtain ⟨_, _, _, _, _, _, _, rfl, _⟩ := h; rfl
  · obtain ⟨g, kn, f, fb, bs, a, l, rfl, L, hl, hin, hn, hlen, k⟩ := h
    have hu := hu_of hr
    refine ⟨_, (pss_cons (ps_expr (pe_meth (pv 0) T.c_Ledger T.m_Ledger_check (ok_Ledger_check T) (hr.mono (by decide)) T.b_Ledger_check .nil pass0 (pa_cons (pv 1) pa_nil)))
      (pss_cons (ps_if (pt_cmp (pc_din hu (pe_fldK K rfl (pv 1) rfl) (pe_fldK K rfl (pv 0) rfl))) pss_never pss_nil)
      (pss_cons (ps_if (pt_cmpR op_eq (pe_callB call_lenD (by rfl) T.f_len PySem.boot_len (pa_cons (pe_fldK K rfl (pv 0) rfl) pa_nil)) (C8.pe_gc rfl T.i_MOST_LINES) (nomark _)) (pss_one ps_never) pss_nil)
      (pss_cons (ps_dput hu (pe_fldK K rfl (pv 0) rfl) (pe_fldK K rfl (pv 1) rfl) (pv 1) rfl)
      (pss_cons (ps_fld (pv 0) pe_non rfl)
      (pss_one (ps_ret pe_str))))))), ?_⟩
    obtain ⟨dx, hg⟩ := L.ob
    refine ⟨_, rfl, _, _, _, rfl, hg, lm_Ledger_check, _, rfl, g, kn, f, .non, fb, bs, a, l, rfl, L, hl, hin, fun H1 s1 => ?_⟩
    have L1 := L.same s1
    have hg1 := s1 _ _ hg
    have hl1 := (hl.same s1).hidL hg1 L1.kd
    obtain ⟨C, dl, fs, e1, e2, e3, e4, e5, e6⟩ := (hl.same s1).flds T
    have gn : DGet H1 kn (.int l.num) none := by
      have := DGet.k (k := Sum.inl l.num) L1.kd
      rw [num_none hn] at this
      exact this
    have gp : DPut H1 kn (.int l.num) (.ref a) _ := DPut.k (k := .inl l.num) (v := .ref a) L1.kd (Nat.lt_trans (m := 100) (by rw [List.length_map]; exact hlen) (by decide))
    rw [num_put hn] at gp
    have nkg : kn ≠ g := ne_of L1.kd hg1 (by intro q; cases q)
    refine ⟨_, rfl, _, _, _, _, _, rfl, e1, e2, e4, e6, _, rfl, _, _, _, _, _, rfl, hg1, T.c_Ledger, T.n_Ledger_known_lines, l_Ledger_known_lines, _, _, rfl, gn, false, rfl, iteF ?_⟩
    refine ⟨_, rfl, _, _, _, _, _, rfl, hg1, T.c_Ledger, T.n_Ledger_known_lines, l_Ledger_known_lines, _, _, rfl, L1.kd, rfl, _, rfl, iteDn (fun e => ?_) ?_⟩
    · injection e with e
      rw [List.length_map] at e
      omega
    refine ⟨_, rfl, _, rfl, _, _, _, _, _, rfl, hg1, T.c_Ledger, T.n_Ledger_known_lines, l_Ledger_known_lines, _, rfl, _, _, _, _, _, rfl, e1, e2, e4, e6, _, _, rfl, gp, ?_⟩
    generalize q2 : upd H1 kn _ = H2
    obtain ⟨hk2, f2⟩ := gen_upd q2
    clear q2
    have hg2 := f2 _ _ nkg.symm hg1
    refine ⟨_, rfl, _, _, _, _, rfl, hg2, T.c_Ledger, T.n_Ledger_come, (by show 3 < 1000; decide), ?_⟩
    rw [u_Ledger_come]
    generalize q3 : upd H2 g _ = H3
    obtain ⟨hg3, f3⟩ := gen_upd q3
    clear q3
    have hs : Same (hid [g, kn] H1) (hid [g, kn] H3) := fun c o e => by
      obtain ⟨m, e⟩ := of_hid e
      simp only [List.mem_cons, List.not_mem_nil, or_false, not_or] at m
      exact hid_of (f3 _ _ m.1 (f2 _ _ m.2 e)) (by simp [m.1, m.2])
    refine k H3 ⟨⟨dx, hg3⟩, f3 _ _ nkg hk2, L1.fld.same hs, fun x hx => ?_, ?_⟩ fun c o n1 n2 e => f3 _ _ n1 (f2 _ _ n2 (s1 _ _ e))
    · rcases List.mem_append.mp hx with hx | hx
      · exact ⟨(L1.ln x hx).1.same hs, (L1.ln x hx).2⟩
      · rw [List.mem_singleton] at hx
        rw [hx]
        exact ⟨hl1.same hs, hin⟩
    · rw [List.map_append]
      refine List.nodup_append.mpr ⟨L1.nd, by simp, fun x hx y hy => ?_⟩
      rw [List.map_cons, List.map_nil, List.mem_singleton] at hy
      intro e
      exact hn (by rw [← hy, ← e]; exact hx)
end
end Rp


set_option maxRecDepth 100000
set_option maxHeartbeats 4000000
namespace Rp
open PySem PySem.Spec PyProof.Rows L2
/-! ### what is sorted is told by what is in it -/
theorem perm_sorted_eq {α : Type} {r : α → α → Prop} : ∀ {l l' : List α}, (∀ a ∈ l, ∀ b ∈ l, r a b → r b a → a = b) → l.Perm l' → l.Pairwise r → l'.Pairwise r → l = l'
  | [], l', _, p, _, _ => (p.symm.eq_nil).symm
  | a :: t, [], _, p, _, _ => by
    have := p.length_eq
    simp at this
  | a :: t, b :: t', anti, p, s, s' => by
    obtain ⟨s1, s2⟩ := List.pairwise_cons.mp s
    obtain ⟨s3, s4⟩ := List.pairwise_cons.mp s'
    have ab : a = b := by
      rcases List.mem_cons.mp (p.mem_iff.mp (List.mem_cons_self (a := a) (l := t))) with e | e
      · exact e
      · rcases List.mem_cons.mp (p.mem_iff.mpr (List.mem_cons_self (a := b) (l := t'))) with e2 | e2
        · exact e2.symm
        · exact anti a List.mem_cons_self b (List.mem_cons_of_mem _ e2) (s1 b e2) (s3 a e)
    subst ab
    rw [perm_sorted_eq (fun x hx y hy => anti x (List.mem_cons_of_mem _ hx) y (List.mem_cons_of_mem _ hy)) (List.Perm.cons_inv p) s2 s4]
/-- the lines in time -/
def inTime (ls : List Ln) : List Ln := ls.mergeSort fun a b => decide (a.mom < b.mom ∨ (a.mom = b.mom ∧ a.num ≤ b.num))
theorem inTime_perm (ls : List Ln) : (inTime ls).Perm ls := List.mergeSort_perm ..
theorem inTime_sorted (ls : List Ln) : (inTime ls).Pairwise lnLe := by
  have ps := List.pairwise_mergeSort (le := fun x y : Ln => decide (x.mom < y.mom ∨ (x.mom = y.mom ∧ x.num ≤ y.num))) (by
      intro x y z h1 h2
      have h1 := of_decide_eq_true h1
      have h2 := of_decide_eq_true h2
      refine decide_eq_true ?_
      omega) (by
      intro x y
      rw [Bool.or_eq_true, decide_eq_true_eq, decide_eq_true_eq]
      omega) ls
  exact ps.imp fun e => of_decide_eq_true e
theorem num_inj : ∀ {ls : List Ln} {a b : Ln}, (ls.map Ln.num).Nodup → a ∈ ls → b ∈ ls → a.num = b.num → a = b
  | [], _, _, _, h, _, _ => by cases h
  | z :: r, x, y, nd, hx, hy, e => by
    rw [List.map_cons] at nd
    obtain ⟨n1, n2⟩ := List.nodup_cons.mp nd
    rcases List.mem_cons.mp hx with e1 | hx'
    · rcases List.mem_cons.mp hy with e2 | hy'
      · rw [e1, e2]
      · exact absurd (List.mem_map.mpr ⟨y, hy', by rw [← e, e1]⟩) n1
    · rcases List.mem_cons.mp hy with e2 | hy'
      · exact absurd (List.mem_map.mpr ⟨x, hx', by rw [e, e2]⟩) n1
      · exact num_inj n2 hx' hy' e
theorem inTime_unique {ls cs : List Ln} (nd : (ls.map Ln.num).Nodup) (p : cs.Perm ls) (s : cs.Pairwise lnLe) : cs = inTime ls :=
  perm_sorted_eq (fun a ha b hb h1 h2 => num_inj nd (p.mem_iff.mp ha) (p.mem_iff.mp hb) (by unfold lnLe at h1 h2; omega)) (p.trans (inTime_perm ls).symm) s (inTime_sorted ls)
theorem inTime_congr {ls ls' : List Ln} (nd : (ls.map Ln.num).Nodup) (p : ls'.Perm ls) : inTime ls' = inTime ls :=
  inTime_unique nd ((inTime_perm ls').trans p) (inTime_sorted ls')
theorem inTime_filter {ls : List Ln} (nd : (ls.map Ln.num).Nodup) (q : Ln → Bool) : (inTime ls).filter q = inTime (ls.filter q) :=
  inTime_unique ((List.Sublist.map _ List.filter_sublist).nodup nd) ((inTime_perm ls).filter q) ((inTime_sorted ls).sublist List.filter_sublist)
/-! names -/
def leS (a b : Str) : Prop := ltCps b.cps.toList a.cps.toList = false
theorem lt_tr : ∀ {a b c : List Nat}, ltCps b a = false → ltCps c b = false → ltCps c a = false
  | [], b, [], _, _ => rfl
  | [], [], c :: t, _, h => by cases h; rfl
  | [], y :: b, c :: t, h, g => rfl
  | x :: a, [], c, h, g => by cases h
  | x :: a, y :: b, [], h, g => by cases g
  | x :: a, y :: b, z :: c, h, g => by
    simp only [ltCps, Bool.or_eq_false_iff, decide_eq_false_iff_not, Bool.and_eq_false_iff, beq_eq_false_iff_ne] at h g ⊢
    obtain ⟨h1, h2⟩ := h
    obtain ⟨g1, g2⟩ := g
    refine ⟨by omega, ?_⟩
    by_cases e : z = x
    · have e1 : y = x := by omega
      have e2 : z = y := by omega
      right
      exact lt_tr (h2.resolve_left (fun n => n e1)) (g2.resolve_left (fun n => n e2))
    · exact .inl e
theorem lt_anti : ∀ {a b : List Nat}, ltCps b a = false → ltCps a b = false → a = b
  | [], [], _, _ => rfl
  | [], y :: b, h, g => by cases g
  | x :: a, [], h, g => by cases h
  | x :: a, y :: b, h, g => by
    simp only [ltCps, Bool.or_eq_false_iff, decide_eq_false_iff_not, Bool.and_eq_false_iff, beq_eq_false_iff_ne] at h g
    obtain ⟨h1, h2⟩ := h
    obtain ⟨g1, g2⟩ := g
    have e : x = y := by omega
    subst e
    rw [lt_anti (h2.resolve_left (fun n => n rfl)) (g2.resolve_left (fun n => n rfl))]
theorem lt_total : ∀ a b : List Nat, ltCps b a = false ∨ ltCps a b = false
  | [], [] => .inl rfl
  | [], y :: b => .inl rfl
  | x :: a, [] => .inr rfl
  | x :: a, y :: b => by
    simp only [ltCps, Bool.or_eq_false_iff, decide_eq_false_iff_not, Bool.and_eq_false_iff, beq_eq_false_iff_ne]
    rcases Nat.lt_trichotomy x y with h | h | h
    · exact .inl ⟨by omega, .inl (by omega)⟩
    · rcases lt_total a b with g | g
      · exact .inl ⟨by omega, .inr g⟩
      · exact .inr ⟨by omega, .inr g⟩
    · exact .inr ⟨by omega, .inl (by omega)⟩
theorem leS_anti {a b : Str} (h : leS a b) (g : leS b a) : a = b := by
  have := lt_anti h g
  cases a; cases b
  exact congrArg Str.mk (by simpa using congrArg List.toArray this)
theorem rising_pw : ∀ {p : Str} {l : List Str}, risingS p l = true → (p :: l).Pairwise leS
  | p, [], _ => List.pairwise_singleton ..
  | p, x :: r, h => by
    have h : (!ltCps x.cps.toList p.cps.toList && risingS x r) = true := h
    rw [Bool.and_eq_true] at h
    have ih := rising_pw h.2
    have h1 : leS p x := by
      have := h.1
      unfold leS
      cases e : ltCps x.cps.toList p.cps.toList
      · rfl
      · rw [e] at this; cases this
    refine List.pairwise_cons.mpr ⟨fun y hy => ?_, ih⟩
    rcases List.mem_cons.mp hy with e | hy
    · rw [e]; exact h1
    · exact lt_tr h1 ((List.pairwise_cons.mp ih).1 y hy)
theorem sortedS_pw : ∀ {l : List Str}, sortedS l = true → l.Pairwise leS
  | [], _ => .nil
  | x :: r, h => rising_pw h
def srt (ks : List Str) : List Str := ks.mergeSort fun a b => !ltCps b.cps.toList a.cps.toList
theorem srt_perm (ks : List Str) : (srt ks).Perm ks := List.mergeSort_perm ..
theorem srt_unique {ks ys : List Str} (p : ys.Perm ks) (s : sortedS ys = true) : ys = srt ks := by
  have ps := List.pairwise_mergeSort (le := fun a b : Str => !ltCps b.cps.toList a.cps.toList) (by
      intro x y z h1 h2
      have h1 : ltCps y.cps.toList x.cps.toList = false := by simpa using h1
      have h2 : ltCps z.cps.toList y.cps.toList = false := by simpa using h2
      simpa using lt_tr h1 h2) (by
      intro x y
      rcases lt_total x.cps.toList y.cps.toList with h | h <;> simp [h]) ks
  exact perm_sorted_eq (fun a _ b _ h1 h2 => leS_anti h1 h2) (p.trans (srt_perm ks).symm) (sortedS_pw s) (ps.imp fun e => by unfold leS; simpa using e)
end Rp


set_option maxRecDepth 100000
set_option maxHeartbeats 4000000
namespace Rp
open PySem PySem.Spec PyProof.Rows L2
/-! ### the ledger's own object may change: all else stands -/
def ledN : List Str := ["field", "known_lines", "come"]
/-- all that isn't a ledger stays -/
def SameL (I I' : Hp) : Prop := ∀ c o, I c = some o → (∀ C d fs, o = .ins C d fs → fs.map (·.1) ≠ ledN) → I' c = some o
section
variable {K : PySem.W.Frag} {I I' : Hp}
theorem SameL.ins (s : SameL I I') {c C d : Addr} {fs : List (Str × V)} (h : I c = some (.ins C d fs)) (n : fs.map (·.1) ≠ ledN) : I' c = some (.ins C d fs) := s _ _ h fun _ _ _ e => by injection e with e1 e2 e3; rw [← e3]; exact n
theorem SameL.tup (s : SameL I I') {c : Addr} {xs : List V} (h : I c = some (.tup xs)) : I' c = some (.tup xs) := s _ _ h (by intro _ _ _ e; cases e)
theorem SameL.lst (s : SameL I I') {c : Addr} {xs : List V} (h : I c = some (.lst xs)) : I' c = some (.lst xs) := s _ _ h (by intro _ _ _ e; cases e)
theorem SameL.dK (s : SameL I I') {c : Addr} {xs : List (Key × V)} (h : I c = some (.dK xs)) : I' c = some (.dK xs) := s _ _ h (by intro _ _ _ e; cases e)
theorem PtAt.sameL {q : Addr} {u : Nat} (h : PtAt K I q u) (s : SameL I I') : PtAt K I' q u := let ⟨d, e⟩ := h; ⟨d, s.ins e (show ¬ (["top", "bottom"] : List Str) = ledN by decide +kernel)⟩
theorem ThAt.sameL {t : Addr} {th : Th} (h : ThAt K I t th) (s : SameL I I') : ThAt K I' t th := by
  cases th with
  | root b k => exact s.tup h
  | offs b k => exact s.tup h
  | share b u => obtain ⟨q, e1, e2⟩ := h; exact ⟨q, s.tup e1, e2.sameL s⟩
theorem PrAt.sameL {a : Addr} {p : Pr} (h : PrAt K I a p) (s : SameL I I') : PrAt K I' a p := let ⟨d, t, e, h2⟩ := h; ⟨d, t, s.ins e (show ¬ (["number", "moment", "seller", "buyer", "thing", "price", "rule", "offsets", "earnest"] : List Str) = ledN by decide +kernel), h2.sameL s⟩
theorem BedAt.sameL {p : Addr} {b : Bd} (h : BedAt K I p b) (s : SameL I I') : BedAt K I' p b := let ⟨d, e⟩ := h; ⟨d, s.ins e (show ¬ (["name", "breed", "owner", "roots", "guess", "offsets", "kind"] : List Str) = ledN by decide +kernel)⟩
theorem FieldAt.sameL {f : Addr} {fb : List (Bd × Addr)} (h : FieldAt K I f fb) (s : SameL I I') : FieldAt K I' f fb :=
  ⟨let ⟨d, g, dd, e1, e2⟩ := h.ob; ⟨d, g, dd, s.ins e1 (show ¬ (["grown", "dug"] : List Str) = ledN by decide +kernel), s.dK e2⟩, fun x hx => (h.at_ x hx).sameL s, h.ok, h.nd, h.n2⟩
theorem LnAt.sameL {a : Addr} {l : Ln} (h : LnAt K I a l) (s : SameL I I') : LnAt K I' a l := by
  cases l with
  | pr r => exact PrAt.sameL h s
  | sp n m b => obtain ⟨d, e⟩ := h; exact ⟨d, s.ins e (show ¬ (["number", "moment", "bed"] : List Str) = ledN by decide +kernel)⟩
theorem EntAt.sameL {e : Addr} {x : Pr × List Ky} (h : EntAt K I e x) (s : SameL I I') : EntAt K I' e x := let ⟨a, la, ks, h1, h2, h3, h4, h5⟩ := h; ⟨a, la, ks, s.tup h1, h2.sameL s, s.lst h3, h4.mono fun _ _ z => s.tup z, h5⟩
theorem URel.sameL {us : List (Str × Nat)} {kvs : List (Key × V)} (h : URel K I us kvs) (s : SameL I I') : URel K I' us kvs := Paired.mapP h fun x kv ⟨e, q, e2, p⟩ => ⟨e, q, e2, p.sameL s⟩
theorem StX.keepG {M : List Addr} {H H' : Hp} {p f : Addr} {fb : List (Bd × Addr)} {s : SM} {n : Nat} {W : StW} (X : StX K M H p f fb s n W) {g C d : Addr} {x y z : V} (hg : H g = some (.ins C d (fs_Ledger x y z))) (fr : ∀ c o, c ≠ g → H c = some o → H' c = some o) : StX K M H' p f fb s n W := by
  have st : ∀ {c o}, H c = some o → (∀ C d fs, o = .ins C d fs → fs.map (·.1) ≠ ledN) → H' c = some o := fun {c o} e n => fr _ _ (fun q => by
    rw [q, hg] at e
    exact n _ _ _ (Option.some.inj e).symm rfl) e
  have sl : SameL (hid M H) (hid M H') := fun c o e n => by
    obtain ⟨m, e⟩ := of_hid e
    exact hid_of (st e n) m
  have sd : ∀ {c zs}, H c = some (.dK zs) → H' c = some (.dK zs) := fun e => st e (by intro _ _ _ q; cases q)
  have sli : ∀ {c zs}, H c = some (.lst zs) → H' c = some (.lst zs) := fun e => st e (by intro _ _ _ q; cases q)
  exact ⟨X.m, X.nd, st X.ob (by intro _ _ _ q; injection q with q1 q2 q3; rw [← q3]; exact (show ¬ (["field", "held", "parts", "spoilt", "good", "void_rows", "gone"] : List Str) = ledN by decide +kernel)), ⟨X.fld.1.sameL sl, X.fld.2⟩, st X.hh (by intro _ _ _ q; cases q), X.hl, X.hv, sd X.hp, X.hpl,
    fun x hx hs => let ⟨a, h1, h2, kvs, h3, h4, h5⟩ := X.pv x hx hs; ⟨a, h1, h2, kvs, sd h3, h4.sameL sl, h5⟩, X.pn, fun x hx => let ⟨zz, q⟩ := X.pd x hx; ⟨zz, sd q⟩, sd X.sp, X.sl, X.sv, X.sk, sli X.g, X.gl, X.ge.mono fun _ _ q => q.sameL sl, sli X.v, X.vl, X.ve.mono fun _ _ q => sl.tup q, sli X.gn, X.n1⟩
end
section
variable {P : Program} {w : World} {K : PySem.W.Frag} {mg : Str → Option Value} {base : Heap}
/-- the ledger at g: its lines ls, as told -/
def LedAt (K : PySem.W.Frag) (H : Hp) (g f : Addr) (fb : List (Bd × Addr)) (ls : List Ln) : Prop := ∃ kn cv bs, LdAt K H g kn f cv fb bs ∧ bs.map (·.2) = ls ∧ ls.length ≤ 25 ∧
  (cv = .non ∨ ∃ p M n W, cv = .ref p ∧ n ≤ 60 ∧ StX K M H p f fb (SM.run (fb.map (·.1)) (inTime ls)) n W)
theorem LedAt.same {H H' : Hp} {g f : Addr} {fb : List (Bd × Addr)} {ls : List Ln} (L : LedAt K H g f fb ls) (s : Same H H') : LedAt K H' g f fb ls := by
  obtain ⟨kn, cv, bs, L, e, len, c⟩ := L
  refine ⟨kn, cv, bs, L.same s, e, len, ?_⟩
  rcases c with c | ⟨p, M, n, W, e, hn, X⟩
  · exact .inl c
  · exact .inr ⟨p, M, n, W, e, hn, X.grow s⟩
/-- another ledger changes -/
theorem LedAt.keepG {H H' : Hp} {g f g' C d : Addr} {fb : List (Bd × Addr)} {ls : List Ln} {x y z : V} (L : LedAt K H g f fb ls) (hg : H g' = some (.ins C d (fs_Ledger x y z))) (n : g ≠ g') (fr : ∀ c o, c ≠ g' → H c = some o → H' c = some o) : LedAt K H' g f fb ls := by
  obtain ⟨kn, cv, bs, L, e, len, c⟩ := L
  have nk : kn ≠ g' := ne_of L.kd hg (by intro q; cases q)
  have sl : SameL (hid [g, kn] H) (hid [g, kn] H') := fun c o e n => by
    obtain ⟨m, e⟩ := of_hid e
    exact hid_of (fr _ _ (fun q => by
      rw [q, hg] at e
      exact n _ _ _ (Option.some.inj e).symm rfl) e) m
  refine ⟨kn, cv, bs, ⟨let ⟨dx, q⟩ := L.ob; ⟨dx, fr _ _ n q⟩, fr _ _ nk L.kd, L.fld.sameL sl, fun x hx => ⟨(L.ln x hx).1.sameL sl, (L.ln x hx).2⟩, L.nd⟩, e, len, ?_⟩
  rcases c with c | ⟨p, M, n, W, e, hn, X⟩
  · exact .inl c
  · exact .inr ⟨p, M, n, W, e, hn, X.keepG hg fr⟩
def sp_Ledger_lines (K : PySem.W.Frag) : Sp := fun vs H Q _ => ∃ (g kn f : Addr) (cv : V) (fb : List (Bd × Addr)) (bs : List (Addr × Ln)), vs = [.ref g] ∧ LdAt K H g kn f cv fb bs ∧
  ∀ (cs : List (Addr × Ln)) (p : Addr) (H' : Hp), cs.Perm bs → cs.Pairwise (fun x y => lnLe x.2 y.2) → H p = none → Same H H' → H' p = some (.lst (cs.map fun x => V.ref x.1)) → Q (.ref p) H'
theorem ok_Ledger_lines (T : Tx K mg) : FnOk P w K mg base CX0 5 (He.ma K (He.ga K "Ledger") "lines") (fdOf K dd_Ledger_lines) ["self"] (sp_Ledger_lines K) := by
  refine okF T.d_Ledger_lines sc_Ledger_lines (fun vs H Q E h => ?_) (fun cdv A outer s H vs Q E hr h => ?_)
  · obtain ⟨_, _, _, _, _, _, rfl, _⟩ := h; rfl
  · obtain ⟨g, kn, f, cv, fb, bs, rfl, L, k⟩ := h
    have hu := hu_of hr
    refine ⟨_, (pss_one (ps_ret (pe_call (ok_in_time T) (hr.mono (by decide)) rfl T.g_in_time T.d_in_time.kp T.b_in_time .nil pass0 (pa_cons (pe_listVals rfl (pe_fldK K rfl (pv 0) rfl) (by rfl) T.f_list (by decide +kernel)) pa_nil)))), ?_⟩
    obtain ⟨dx, hg⟩ := L.ob
    refine ⟨_, rfl, _, _, _, _, _, rfl, hg, T.c_Ledger, T.n_Ledger_known_lines, l_Ledger_known_lines, kn, _, rfl, L.kd, fun p np => ?_⟩
    rw [List.map_map]
    generalize hh : upd H p _ = H1; obtain ⟨s1, hp⟩ := gen_new hh np; clear hh
    refine ⟨p, bs, rfl, .of hp, fun x hx => ((L.ln x hx).1.same hid_same).same s1, fun cs q H2 h1 h2 h3 h4 h5 => ?_⟩
    exact k cs q H2 h1 h2 (s1.free h3) (s1.trans h4) h5
def sp_Ledger_standing (K : PySem.W.Frag) : Sp := fun vs H Q _ => ∃ (g f : Addr) (fb : List (Bd × Addr)) (ls : List Ln), vs = [.ref g] ∧ LedAt K H g f fb ls ∧
  ∀ H' p M n W, LedAt K H' g f fb ls → n ≤ 60 → StX K M H' p f fb (SM.run (fb.map (·.1)) (inTime ls)) n W → (∀ c o, c ≠ g → H c = some o → H' c = some o) → Q (.ref p) H'
theorem ok_Ledger_standing (T : Tx K mg) : FnOk P w K mg base CX0 7 (He.ma K (He.ga K "Ledger") "standing") (fdOf K dd_Ledger_standing) ["self"] (sp_Ledger_standing K) := by
  refine okF T.d_Ledger_standing sc_Ledger_standing (fun vs H Q E h => ?_) (fun cdv A outer s H vs Q E hr h => ?_)
  · obtain ⟨_, _, _, _, rfl, _⟩ := h; rfl
  · obtain ⟨g, f, fb, ls, rfl, L, k⟩ := h
    have hu := hu_of hr
    refine ⟨_, (pss_cons (ps_if (pt_cmpR op_isN (pe_fldK K rfl (pv 0) rfl) pe_non (nomark _)) (pss_cons (ps_set (i := 1) sc_Ledger_standing.nd rfl (by first | exact Or.inl rfl | exact Or.inr rfl) (pe_make T.mk_Standing (ok_Standing_init T) (hr.mono (by decide)) rfl T.g_Standing T.b_Standing_init .nil pass0 (pa_cons (pe_fldK K rfl (pv 0) rfl) pa_nil)))
      (pss_cons (ps_for PassesOwn.never rfl (pi_list (pe_meth0 (pv 0) T.c_Ledger T.m_Ledger_lines (ok_Ledger_lines T) (hr.mono (by decide)) T.b_Ledger_lines .nil pass0)) (pg_name (i := 2) sc_Ledger_standing.nd rfl (by first | exact Or.inl rfl | exact Or.inr rfl)) (pss_one (ps_expr (pe_meth (pv 1) T.c_Standing T.m_Standing_take (ok_Standing_take T) (hr.mono (by decide)) T.b_Standing_take .nil pass0 (pa_cons (pv 2) pa_nil)))))
      (pss_one (ps_fld (pv 0) (pv 1) rfl)))) pss_nil)
      (pss_one (ps_ret (pe_fldK K rfl (pv 0) rfl)))), ?_⟩
    obtain ⟨kn, cv, bs, L, rfl, len, c⟩ := L
    obtain ⟨dx, hg⟩ := L.ob
    rcases c with rfl | ⟨p, M, n, W, rfl, hn, X⟩
    · refine ⟨_, rfl, _, _, _, _, _, rfl, hg, T.c_Ledger, T.n_Ledger_come, l_Ledger_come, rfl, _, rfl, iteD rfl ?_⟩
      refine ⟨_, rfl, _, _, _, _, _, rfl, hg, T.c_Ledger, T.n_Ledger_field, l_Ledger_field, fun x dxx nx nd ne => ?_⟩
      have s1 : Same H (upd (upd H dxx (.own x)) x (.ins (A_Standing K) dxx [])) := fun c o e => by rw [upd_ne (ne_of_none e nx), upd_ne (ne_of_none e nd)]; exact e
      have F0 := L.fld.same hid_same
      refine ⟨x, dxx, f, fb, rfl, upd_same, F0.same s1, fun H1 M1 W1 X1 f1 m1 => ⟨rfl, ?_⟩⟩
      have s01 : Same H H1 := fun c o e => f1 _ _ (ne_of_none e nx) (s1 _ _ e)
      have fr1 : ∀ m ∈ M1, H m = none := fun m hm => by
        rcases m1 m hm with z | z
        · rw [z]; exact nx
        · exact s1.free z
      clear f1 m1 s1
      have L1 := L.same s01
      refine ⟨_, rfl, _, _, _, rfl, (s01 _ _ hg), lm_Ledger_lines, g, kn, f, .non, fb, bs, rfl, L1, fun cs q H2 hperm hsort nq s2 hq => ?_⟩
      have X2 := X1.grow s2
      have qM := X1.notM nq
      have ecs : cs.map (·.2) = inTime (bs.map (·.2)) := inTime_unique (by rw [List.map_map]; exact L.nd) (hperm.map _) (List.pairwise_map.mpr hsort)
      have lcs : cs.length ≤ 25 := by rw [hperm.length_eq]; rw [List.length_map] at len; exact len
      have hq1 : hid M1 H2 q = some (.lst (cs.map fun x => V.ref x.1)) := hid_of hq qM
      refine ⟨q, rfl, ⟨_, .of hq⟩, ?_⟩
      refine for_it walk_list (fun i σ H' => ∃ M' W' x2, σ = [some (.ref g), some (.ref x), x2] ∧ StX K M' H' x f fb (((cs.take i).map (·.2)).foldl (SM.take (fb.map (·.1))) (SM.begin (fb.map (·.1)))) (7 + 2 * i) W' ∧ Stp M1 H2 M' H')
        ⟨M1, W1, none, rfl, X2, Stp.refl⟩ (fun i σ H' _ ⟨_, _, _, _, _, e⟩ => e.same.seq (.of hq1)) ?_ ?_
      · rintro i y σ H3 H4 hi ⟨M', W', x2, rfl, X3, s3⟩ ⟨rfl, hy⟩
        obtain ⟨e, he, hm, rfl⟩ := fb_at hy
        rw [List.length_map] at hi
        have hb : e ∈ bs := hperm.mem_iff.mp hm
        obtain ⟨s4, n4⟩ := s3.of_same (s01.trans s2) fr1
        have s5 : Same H (hid M' H4) := same_hid s4 n4
        have ln := ((L.ln e hb).1.same hid_same).same s5
        have tk : cs.take (i + 1) = cs.take i ++ [e] := by rw [List.take_add_one, he]; rfl
        refine ⟨_, rfl, _, _, _, rfl, X3.ob, lm_Standing_take, _, rfl, x, e.1, f, M', fb, _, _, W', e.2, rfl, X3, by omega, ln, (L.ln e hb).2, fun H5 M5 W5 X5 s6 => ?_⟩
        refine ⟨M5, W5, _, rfl, ?_, s3.trans s6⟩
        rw [tk, List.map_append, List.foldl_append]
        exact X5
      · rintro σ H3 ⟨M', W', x2, rfl, X3, s3⟩
        have el : cs.take (cs.map fun x => V.ref x.1).length = cs := by rw [List.length_map]; exact List.take_length
        rw [el, ecs, List.length_map] at X3
        obtain ⟨s4, n4⟩ := s3.of_same (s01.trans s2) fr1
        have hg3 := s4 _ _ hg
        refine ⟨_, rfl, _, rfl, _, _, _, _, rfl, hg3, T.c_Ledger, T.n_Ledger_come, (by show 3 < 1000; decide), ?_⟩
        rw [u_Ledger_come]
        have L3 := L.same s4
        have fr3 : ∀ c o, c ≠ g → H3 c = some o → upd H3 g (.ins (A_Ledger K) dx (fs_Ledger (.ref f) (.ref kn) (.ref x))) c = some o := fun c o n e => by rw [upd_ne n]; exact e
        have X4 := (X3.keepG hg3 fr3).mono (n' := 60) (by omega)
        have hg4 : upd H3 g (.ins (A_Ledger K) dx (fs_Ledger (.ref f) (.ref kn) (.ref x))) g = some _ := upd_same
        have nkg : kn ≠ g := ne_of L3.kd hg3 (by intro q; cases q)
        have L4 : LdAt K (upd H3 g (.ins (A_Ledger K) dx (fs_Ledger (.ref f) (.ref kn) (.ref x)))) g kn f (.ref x) fb bs :=
          ⟨⟨dx, upd_same⟩, fr3 _ _ nkg L3.kd, by rw [hid_upd (by simp)]; exact L3.fld, by rw [hid_upd (by simp)]; exact L3.ln, L3.nd⟩
        generalize upd H3 g (.ins (A_Ledger K) dx (fs_Ledger (.ref f) (.ref kn) (.ref x))) = H4 at fr3 X4 hg4 L4 ⊢
        refine ⟨_, rfl, _, _, _, _, _, rfl, hg4, T.c_Ledger, T.n_Ledger_come, l_Ledger_come, ?_⟩
        exact k H4 x M' 60 W' ⟨kn, .ref x, bs, L4, rfl, len, .inr ⟨x, M', 60, W', rfl, Nat.le_refl _, X4⟩⟩ (Nat.le_refl _) X4 fun c o n e => fr3 _ _ n (s4 _ _ e)
    · refine ⟨_, rfl, _, _, _, _, _, rfl, hg, T.c_Ledger, T.n_Ledger_come, l_Ledger_come, rfl, _, rfl, iteDn (by intro q; cases q) ?_⟩
      refine ⟨_, rfl, _, _, _, _, _, rfl, hg, T.c_Ledger, T.n_Ledger_come, l_Ledger_come, ?_⟩
      exact k H p M n W ⟨kn, .ref p, bs, L, rfl, len, .inr ⟨p, M, n, W, rfl, hn, X⟩⟩ hn X fun c o _ e => e
end
end Rp


set_option maxRecDepth 100000
set_option maxHeartbeats 4000000
namespace Rp
open PySem PySem.Spec PyProof.Rows L2
section
variable {P : Program} {w : World} {K : PySem.W.Frag} {mg : Str → Option Value} {base : Heap}
/-- what the ledger's lines come to -/
def endOf (fb : List (Bd × Addr)) (ls : List Ln) : SM := SM.run (fb.map (·.1)) (inTime ls)
theorem LedAt.ob {H : Hp} {g f : Addr} {fb : List (Bd × Addr)} {ls : List Ln} (L : LedAt K H g f fb ls) : ∃ dx kn cv, H g = some (.ins (A_Ledger K) dx (fs_Ledger (.ref f) (.ref kn) cv)) := let ⟨kn, cv, bs, L, _⟩ := L; let ⟨dx, q⟩ := L.ob; ⟨dx, kn, cv, q⟩
theorem LedAt.free {H H1 : Hp} {g f l : Addr} {fb : List (Bd × Addr)} {ls : List Ln} (L1 : LedAt K H1 g f fb ls) (f1 : ∀ c o, c ≠ g → H c = some o → H1 c = some o) (nl : H1 l = none) : H l = none := by
  cases e : H l with
  | none => rfl
  | some o =>
    by_cases q : l = g
    · obtain ⟨d1, k1, c1, hg1⟩ := L1.ob
      rw [q, hg1] at nl; cases nl
    · rw [f1 _ _ q e] at nl; cases nl
theorem URel.keys {I : Hp} {us : List (Str × Nat)} {kvs : List (Key × V)} (h : URel K I us kvs) : kvs.map (·.1) = us.map fun y => (Sum.inr y.1 : Key) := by
  unfold URel at h
  induction h with
  | nil => rfl
  | cons r t ih => rw [List.map_cons, List.map_cons, ih, r.1]
def Qg (K : PySem.W.Frag) (g f : Addr) (fb : List (Bd × Addr)) (ls : List Ln) (H H' : Hp) : Prop := LedAt K H' g f fb ls ∧ ∀ c o, c ≠ g → H c = some o → H' c = some o
def sp_Ledger_voids (K : PySem.W.Frag) : Sp := fun vs H Q _ => ∃ (g f : Addr) (fb : List (Bd × Addr)) (ls : List Ln), vs = [.ref g] ∧ LedAt K H g f fb ls ∧
  ∀ H' l ts, Qg K g f fb ls H H' → H l = none → H' l = some (.lst (ts.map V.ref)) → L2R (VdAt H') ts (endOf fb ls).voids → Q (.ref l) H'
theorem ok_Ledger_voids (T : Tx K mg) : FnOk P w K mg base CX0 8 (He.ma K (He.ga K "Ledger") "voids") (fdOf K dd_Ledger_voids) ["self"] (sp_Ledger_voids K) := by
  refine okF T.d_Ledger_voids sc_Ledger_voids (fun vs H Q E h => ?_) (fun cdv A outer s H vs Q E hr h => ?_)
  · obtain ⟨_, _, _, _, rfl, _⟩ := h; rfl
  · obtain ⟨g, f, fb, ls, rfl, L, k⟩ := h
    have hu := hu_of hr
    refine ⟨_, (pss_one (ps_ret (pe_callTy call_list_of (by rfl) T.f_list (by decide +kernel) (pa_cons (pe_fldK K rfl (pe_meth0 (pv 0) T.c_Ledger T.m_Ledger_standing (ok_Ledger_standing T) (hr.mono (by decide)) T.b_Ledger_standing .nil pass0) rfl) pa_nil)))), ?_⟩
    obtain ⟨dx, kn, cv, hg⟩ := L.ob
    refine ⟨_, rfl, _, _, _, rfl, hg, lm_Ledger_standing, g, f, fb, ls, rfl, L, fun H1 p M n W L1 hn X f1 => ?_⟩
    refine ⟨_, _, _, _, _, rfl, X.ob, T.c_Standing, T.n_Standing_void_rows, l_Standing_void_rows, W.v, _, rfl, .inl (.of X.v), fun l nl => ?_⟩
    generalize hh : upd H1 l _ = H2; obtain ⟨s2, hl⟩ := gen_new hh nl; clear hh
    have f2 : ∀ c o, c ≠ g → H c = some o → H2 c = some o := fun c o n e => s2 _ _ (f1 _ _ n e)
    refine k H2 l W.vs ⟨L1.same s2, f2⟩ (L1.free f1 nl) hl (X.ve.mono fun _ _ z => s2 _ _ (hid_same _ _ z))
def sp_Ledger_undone (K : PySem.W.Frag) : Sp := fun vs H Q _ => ∃ (g f : Addr) (fb : List (Bd × Addr)) (ls : List Ln), vs = [.ref g] ∧ LedAt K H g f fb ls ∧
  ∀ H' l, Qg K g f fb ls H H' → H l = none → H' l = some (.lst ((endOf fb ls).gone.map V.int)) → Q (.ref l) H'
theorem ok_Ledger_undone (T : Tx K mg) : FnOk P w K mg base CX0 8 (He.ma K (He.ga K "Ledger") "undone") (fdOf K dd_Ledger_undone) ["self"] (sp_Ledger_undone K) := by
  refine okF T.d_Ledger_undone sc_Ledger_undone (fun vs H Q E h => ?_) (fun cdv A outer s H vs Q E hr h => ?_)
  · obtain ⟨_, _, _, _, rfl, _⟩ := h; rfl
  · obtain ⟨g, f, fb, ls, rfl, L, k⟩ := h
    have hu := hu_of hr
    refine ⟨_, (pss_one (ps_ret (pe_callTy call_list_of (by rfl) T.f_list (by decide +kernel) (pa_cons (pe_fldK K rfl (pe_meth0 (pv 0) T.c_Ledger T.m_Ledger_standing (ok_Ledger_standing T) (hr.mono (by decide)) T.b_Ledger_standing .nil pass0) rfl) pa_nil)))), ?_⟩
    obtain ⟨dx, kn, cv, hg⟩ := L.ob
    refine ⟨_, rfl, _, _, _, rfl, hg, lm_Ledger_standing, g, f, fb, ls, rfl, L, fun H1 p M n W L1 hn X f1 => ?_⟩
    refine ⟨_, _, _, _, _, rfl, X.ob, T.c_Standing, T.n_Standing_gone, l_Standing_gone, W.gn, _, rfl, .inl (.of X.gn), fun l nl => ?_⟩
    generalize hh : upd H1 l _ = H2; obtain ⟨s2, hl⟩ := gen_new hh nl; clear hh
    exact k H2 l ⟨L1.same s2, fun c o n e => s2 _ _ (f1 _ _ n e)⟩ (L1.free f1 nl) hl
def sp_Ledger_hold (K : PySem.W.Frag) : Sp := fun vs H Q _ => ∃ (g f : Addr) (fb : List (Bd × Addr)) (ls : List Ln), vs = [.ref g] ∧ LedAt K H g f fb ls ∧
  ∀ H' l, Qg K g f fb ls H H' → H l = none → H' l = some (.lst ((endOf fb ls).good.map fun e => V.int e.1.num)) → Q (.ref l) H'
theorem ok_Ledger_hold (T : Tx K mg) : FnOk P w K mg base CX0 8 (He.ma K (He.ga K "Ledger") "hold") (fdOf K dd_Ledger_hold) ["self"] (sp_Ledger_hold K) := by
  refine okF T.d_Ledger_hold sc_Ledger_hold (fun vs H Q E h => ?_) (fun cdv A outer s H vs Q E hr h => ?_)
  · obtain ⟨_, _, _, _, rfl, _⟩ := h; rfl
  · obtain ⟨g, f, fb, ls, rfl, L, k⟩ := h
    have hu := hu_of hr
    refine ⟨_, (pss_one (ps_ret (pe_lc (own := [("promise", 1), ("things", 2)]) (g := gTup K 2 (gCons (gName 1) (gCons (gName 2) gNil))) (tt := tYes) rfl sc_Ledger_hold.nd (pi_list (pe_fldK K rfl (pe_meth0 (pv 0) T.c_Ledger T.m_Ledger_standing (ok_Ledger_standing T) (hr.mono (by decide)) T.b_Ledger_standing .nil pass0) rfl)) (blkOk_by (own := [("promise", 1), ("things", 2)]) (N := N_Ledger_hold) (sc := defScope s_Ledger_hold) (by decide +kernel)) (fun _ _ _ _ _ => (pg_tup rfl (pgs_cons (pg_name (i := 1) sc_Ledger_hold.nd rfl (Or.inl rfl)) (pgs_cons (pg_name (i := 2) sc_Ledger_hold.nd rfl (Or.inl rfl)) pgs_nil)))) (fun _ _ _ _ _ => pts_nil) (fun _ _ _ _ _ => (pe_fldK K rfl (pv 1) rfl))))), ?_⟩
    obtain ⟨dx, kn, cv, hg⟩ := L.ob
    refine ⟨_, rfl, _, _, _, rfl, hg, lm_Ledger_standing, g, f, fb, ls, rfl, L, fun H1 p M n W L1 hn X f1 => ?_⟩
    refine ⟨_, _, _, _, _, rfl, X.ob, T.c_Standing, T.n_Standing_good, l_Standing_good, W.g, rfl, ⟨_, .of X.g⟩, fun D nD => ?_⟩
    have gl := X.gl
    have eg : W.es.length = (endOf fb ls).good.length := X.ge.1
    refine lc_it walk_list (fun i H' => Same H1 H' ∧ H' D = some (.lst (((endOf fb ls).good.take i).map fun e => V.int e.1.num)))
      ⟨same_new nD, upd_same⟩ (fun i H' _ z => z.1.seq (.of X.g)) ?_ ?_
    · rintro i y H2 H3 hi ⟨s2, hD⟩ ⟨rfl, hy⟩
      obtain ⟨e, he, rfl⟩ := ref_at hy
      obtain ⟨en, hen, pa, la, ks, e1, ⟨dx2, t2, e2, et⟩, e3, e4, e5⟩ := X.ge.left he
      have q1 := s2 _ _ (hid_same _ _ e1)
      have q2 := s2 _ _ (hid_same _ _ e2)
      refine ⟨e, _, rfl, .of q1, rfl, _, _, rfl, _, _, rfl, rfl, rfl, yes (iteT ⟨_, rfl, _, _, _, _, _, rfl, q2, T.c_Promise, T.n_Promise_number, l_Promise_number, _, hD, ?_, same_mut s2 nD, ?_⟩)⟩
      · rw [List.length_map, List.length_take]
        refine Nat.lt_of_le_of_lt (Nat.min_le_right _ _) (Nat.lt_of_le_of_lt (m := 60) (by omega) (by decide))
      · rw [upd_same]
        exact congrArg (fun z => some (HO.lst z)) (take_snoc (f := fun e : Pr × List Ky => V.int e.1.num) hen)
    · rintro H2 ⟨s2, hD⟩
      have hD : H2 D = some (.lst (((endOf fb ls).good.take (W.es.map V.ref).length).map fun e => V.int e.1.num)) := hD
      rw [List.length_map, eg, List.take_length] at hD
      exact k H2 D ⟨L1.same s2, fun c o n e => s2 _ _ (f1 _ _ n e)⟩ (L1.free f1 nD) hD
def sp_Ledger_spoiled (K : PySem.W.Frag) : Sp := fun vs H Q _ => ∃ (g f : Addr) (fb : List (Bd × Addr)) (ls : List Ln), vs = [.ref g] ∧ LedAt K H g f fb ls ∧
  ∀ H' l (ys : List Str), Qg K g f fb ls H H' → H l = none → H' l = some (.lst (ys.map V.str)) → (∀ b, b ∈ ys ↔ (endOf fb ls).spoilt b ≠ none) → Q (.ref l) H'
theorem ok_Ledger_spoiled (T : Tx K mg) : FnOk P w K mg base CX0 8 (He.ma K (He.ga K "Ledger") "spoiled") (fdOf K dd_Ledger_spoiled) ["self"] (sp_Ledger_spoiled K) := by
  refine okF T.d_Ledger_spoiled sc_Ledger_spoiled (fun vs H Q E h => ?_) (fun cdv A outer s H vs Q E hr h => ?_)
  · obtain ⟨_, _, _, _, rfl, _⟩ := h; rfl
  · obtain ⟨g, f, fb, ls, rfl, L, k⟩ := h
    have hu := hu_of hr
    refine ⟨_, (pss_one (ps_ret (pe_callB (call_sortedD rfl) (by rfl) T.f_sorted (by decide +kernel) (pa_cons (pe_fldK K rfl (pe_meth0 (pv 0) T.c_Ledger T.m_Ledger_standing (ok_Ledger_standing T) (hr.mono (by decide)) T.b_Ledger_standing .nil pass0) rfl) pa_nil)))), ?_⟩
    obtain ⟨dx, kn, cv, hg⟩ := L.ob
    refine ⟨_, rfl, _, _, _, rfl, hg, lm_Ledger_standing, g, f, fb, ls, rfl, L, fun H1 p M n W L1 hn X f1 => ?_⟩
    obtain ⟨ks, hks⟩ := X.sk
    have sl := X.sl
    have kl : ks.length = W.svs.length := by
      have := congrArg List.length hks
      rw [List.length_map, List.length_map] at this
      exact this.symm
    refine ⟨_, _, _, _, _, rfl, X.ob, T.c_Standing, T.n_Standing_spoilt, l_Standing_spoilt, W.sp, _, ks, rfl, .of X.sp, hks, by omega, fun ys l pm _ nl => ?_⟩
    generalize hh : upd H1 l _ = H2; obtain ⟨s2, hl⟩ := gen_new hh nl; clear hh
    refine k H2 l ys ⟨L1.same s2, fun c o n e => s2 _ _ (f1 _ _ n e)⟩ (L1.free f1 nl) hl fun b => ?_
    have sv : valV W.svs (Sum.inr b : Key) = ((endOf fb ls).spoilt b).map V.int := X.sv b
    have me : (Sum.inr b : Key) ∈ W.svs.map (·.1) ↔ b ∈ ks := by
      rw [hks]
      constructor
      · intro h
        obtain ⟨c, hc, e⟩ := List.mem_map.mp h
        rw [← Sum.inr.inj e]; exact hc
      · intro h
        exact List.mem_map.mpr ⟨b, h, rfl⟩
    rw [pm.mem_iff, ← me]
    constructor
    · intro h e
      have := valV_mem h
      rw [sv, e] at this
      cases this
    · intro h
      refine Classical.byContradiction fun n => h ?_
      have := valV_none n
      rw [sv] at this
      cases e : (endOf fb ls).spoilt b with
      | none => rfl
      | some m => rw [e] at this; cases this
/-- a thing that the ledger can be asked for -/
def KyOk (fb : List (Bd × Addr)) (y : Ky) : Prop := ∃ x ∈ fb, x.1.shares = false ∧ inBed x.1 y = true
def sp_Ledger_check_thing (K : PySem.W.Frag) : Sp := fun vs H Q _ => ∃ (g f t : Addr) (fb : List (Bd × Addr)) (ls : List Ln) (y : Ky), vs = [.ref g, .ref t] ∧ LedAt K H g f fb ls ∧ KyAt H t y ∧ KyOk fb y ∧
  ∀ H', Same H H' → Q .non H'
theorem ok_Ledger_check_thing (T : Tx K mg) : FnOk P w K mg base CX0 6 (He.ma K (He.ga K "Ledger") "check_thing") (fdOf K dd_Ledger_check_thing) ["self", "thing"] (sp_Ledger_check_thing K) := by
  refine okF T.d_Ledger_check_thing sc_Ledger_check_thing (fun vs H Q E h => ?_) (fun cdv A outer s H vs Q E hr h => ?_)
  · obtain ⟨_, _, _, _, _, _, rfl, _⟩ := h; rfl
  · obtain ⟨g, f, t, fb, ls, y, rfl, L, ht, ok, k⟩ := h
    have hu := hu_of hr
    refine ⟨_, (pss_one (ps_if (PW.pt (pw_or (pt_not (pt_val (pe_call (ok_has T) (hr.mono (by decide)) rfl T.g_has T.d_has.kp T.b_has .nil pass0 (pa_cons (pe_fldK K rfl (pv 0) rfl) (pa_cons (pv 1) pa_nil))))) (pw_or1 (pt_cmpR op_eq (pe_ix (ix_tupK K rfl) (pv 1) pe_int (fun _ _ => rfl)) pe_str (nomark _))))) (pss_one ps_never) pss_nil)), ?_⟩
    obtain ⟨dx, kn, cv, hg⟩ := L.ob
    obtain ⟨x, hx, hsh, hin⟩ := ok
    obtain ⟨_, _, _, L0, _⟩ := L
    have F : FieldAt K H f fb := L0.fld.same hid_same
    have bok := F.ok x hx
    cases y with
    | share b => cases hin
    | root b j =>
      have ht2 : H t = some (.tup [.str "root", .str b, .int j]) := ht
      simp only [inBed, Bool.and_eq_true, decide_eq_true_eq] at hin
      obtain ⟨⟨rfl, h1⟩, h2⟩ := hin
      refine ⟨_, rfl, _, _, _, _, _, rfl, hg, T.c_Ledger, T.n_Ledger_field, l_Ledger_field, _, rfl, f, t, fb, x, .root x.1.name j, rfl, F, hx, ht, ⟨bok.nm, h1⟩, ⟨rfl, hsh, h2⟩, fun H' s => ⟨true, rfl, iteF ?_⟩⟩
      exact ⟨_, rfl, _, _, _, _, rfl, rfl, .of (s _ _ ht2), atI_nat (j := 0) rfl, rfl, _, rfl, iteDn (vne kne2) (k H' s)⟩
    | offs b j =>
      have ht2 : H t = some (.tup [.str "offsets", .str b, .int j]) := ht
      simp only [inBed, Bool.and_eq_true, decide_eq_true_eq] at hin
      obtain ⟨⟨rfl, h1⟩, h2⟩ := hin
      refine ⟨_, rfl, _, _, _, _, _, rfl, hg, T.c_Ledger, T.n_Ledger_field, l_Ledger_field, _, rfl, f, t, fb, x, .offs x.1.name j, rfl, F, hx, ht, ⟨bok.nm, h1⟩, ⟨rfl, hsh, h2⟩, fun H' s => ⟨true, rfl, iteF ?_⟩⟩
      exact ⟨_, rfl, _, _, _, _, rfl, rfl, .of (s _ _ ht2), atI_nat (j := 0) rfl, rfl, _, rfl, iteDn (vne kne4) (k H' s)⟩
def sp_Ledger_holder (K : PySem.W.Frag) : Sp := fun vs H Q _ => ∃ (g f t : Addr) (fb : List (Bd × Addr)) (ls : List Ln) (y : Ky), vs = [.ref g, .ref t] ∧ LedAt K H g f fb ls ∧ KyAt H t y ∧ KyOk fb y ∧
  ∀ H', Qg K g f fb ls H H' → Q (.str ((endOf fb ls).held y)) H'
theorem ok_Ledger_holder (T : Tx K mg) : FnOk P w K mg base CX0 8 (He.ma K (He.ga K "Ledger") "holder") (fdOf K dd_Ledger_holder) ["self", "thing"] (sp_Ledger_holder K) := by
  refine okF T.d_Ledger_holder sc_Ledger_holder (fun vs H Q E h => ?_) (fun cdv A outer s H vs Q E hr h => ?_)
  · obtain ⟨_, _, _, _, _, _, rfl, _⟩ := h; rfl
  · obtain ⟨g, f, t, fb, ls, y, rfl, L, ht, ok, k⟩ := h
    have hu := hu_of hr
    refine ⟨_, (pss_cons (ps_expr (pe_meth (pv 0) T.c_Ledger T.m_Ledger_check_thing (ok_Ledger_check_thing T) (hr.mono (by decide)) T.b_Ledger_check_thing .nil pass0 (pa_cons (pv 1) pa_nil)))
      (pss_one (ps_ret (pe_dget hu (pe_fldK K rfl (pe_meth0 (pv 0) T.c_Ledger T.m_Ledger_standing (ok_Ledger_standing T) (hr.mono (by decide)) T.b_Ledger_standing .nil pass0) rfl) (pv 1) (fun _ _ => rfl))))), ?_⟩
    obtain ⟨dx, kn, cv, hg⟩ := L.ob
    refine ⟨_, rfl, _, _, _, rfl, hg, lm_Ledger_check_thing, _, rfl, g, f, t, fb, ls, y, rfl, L, ht, ok, fun H0 s0 => ?_⟩
    have hg0 := s0 _ _ hg
    have ht0 := ht.same s0
    have L0 := L.same s0
    refine ⟨_, rfl, _, _, _, rfl, hg0, lm_Ledger_standing, g, f, fb, ls, rfl, L0, fun H1 p M n W L1 hn X f1 => ?_⟩
    have ht1 : KyAt H1 t y := f1 _ _ (ne_of ht0 hg0 (by intro q; cases q)) ht0
    obtain ⟨x, hx, _, hin⟩ := ok
    have gg : DGet H1 W.h (.ref t) (some (.str ((endOf fb ls).held y))) := by
      have := DGet.t (k := keyOf y) X.hh ht1
      rw [X.hv y ⟨x, hx, hin⟩] at this
      exact this
    refine ⟨_, _, _, _, _, rfl, X.ob, T.c_Standing, T.n_Standing_held, l_Standing_held, _, rfl, _, _, rfl, gg, ?_⟩
    exact k H1 ⟨L1, fun c o n e => f1 _ _ n (s0 _ _ e)⟩
def sp_Ledger_row (K : PySem.W.Frag) : Sp := fun vs H Q _ => ∃ (g f t : Addr) (fb : List (Bd × Addr)) (ls : List Ln) (y : Ky), vs = [.ref g, .ref t] ∧ LedAt K H g f fb ls ∧ KyAt H t y ∧ KyOk fb y ∧
  ∀ H' l, Qg K g f fb ls H H' → H l = none → H' l = some (.lst (((endOf fb ls).good.filter fun e => decide (y ∈ e.2)).map fun e => V.int e.1.num)) → Q (.ref l) H'
theorem ok_Ledger_row (T : Tx K mg) : FnOk P w K mg base CX0 8 (He.ma K (He.ga K "Ledger") "row") (fdOf K dd_Ledger_row) ["self", "thing"] (sp_Ledger_row K) := by
  refine okF T.d_Ledger_row sc_Ledger_row (fun vs H Q E h => ?_) (fun cdv A outer s H vs Q E hr h => ?_)
  · obtain ⟨_, _, _, _, _, _, rfl, _⟩ := h; rfl
  · obtain ⟨g, f, t, fb, ls, y, rfl, L, ht, ok, k⟩ := h
    have hu := hu_of hr
    have hu65 := hu65_of hr
    refine ⟨_, (pss_cons (ps_expr (pe_meth (pv 0) T.c_Ledger T.m_Ledger_check_thing (ok_Ledger_check_thing T) (hr.mono (by decide)) T.b_Ledger_check_thing .nil pass0 (pa_cons (pv 1) pa_nil)))
      (pss_one (ps_ret (pe_lc (own := [("promise", 2), ("things", 3)]) (g := gTup K 2 (gCons (gName 2) (gCons (gName 3) gNil))) rfl sc_Ledger_row.nd (pi_list (pe_fldK K rfl (pe_meth0 (pv 0) T.c_Ledger T.m_Ledger_standing (ok_Ledger_standing T) (hr.mono (by decide)) T.b_Ledger_standing .nil pass0) rfl)) (blkOk_by (own := [("promise", 2), ("things", 3)]) (N := N_Ledger_row) (sc := defScope s_Ledger_row) (by decide +kernel)) (fun _ _ _ _ _ => (pg_tup rfl (pgs_cons (pg_name (i := 2) sc_Ledger_row.nd rfl (Or.inl rfl)) (pgs_cons (pg_name (i := 3) sc_Ledger_row.nd rfl (Or.inl rfl)) pgs_nil)))) (fun _ _ _ _ _ => (pts_one (pt_cmpR (op_inDK K rfl hu65) (pv 1) (pv 3) (by rfl)))) (fun _ _ _ _ _ => (pe_fldK K rfl (pv 2) rfl)))))), ?_⟩
    obtain ⟨dx, kn, cv, hg⟩ := L.ob
    refine ⟨_, rfl, _, _, _, rfl, hg, lm_Ledger_check_thing, _, rfl, g, f, t, fb, ls, y, rfl, L, ht, ok, fun H0 s0 => ?_⟩
    have hg0 := s0 _ _ hg
    have ht0 := ht.same s0
    have L0 := L.same s0
    refine ⟨_, rfl, _, _, _, rfl, hg0, lm_Ledger_standing, g, f, fb, ls, rfl, L0, fun H1 p M n W L1 hn X f1 => ?_⟩
    have ht1 : KyAt H1 t y := f1 _ _ (ne_of ht0 hg0 (by intro q; cases q)) ht0
    obtain ⟨x, hx, _, hin⟩ := ok
    have ynm : IsNm y.bed := by
      rw [inBed_bed hin]
      exact (X.fld.1.ok x (X.fld.2 x hx)).nm
    refine ⟨_, _, _, _, _, rfl, X.ob, T.c_Standing, T.n_Standing_good, l_Standing_good, W.g, rfl, ⟨_, .of X.g⟩, fun D nD => ?_⟩
    have gl := X.gl
    have eg : W.es.length = (endOf fb ls).good.length := X.ge.1
    refine lc_it walk_list (fun i H' => Same H1 H' ∧ H' D = some (.lst ((((endOf fb ls).good.take i).filter fun e => decide (y ∈ e.2)).map fun e => V.int e.1.num)))
      ⟨same_new nD, upd_same⟩ (fun i H' _ z => z.1.seq (.of X.g)) ?_ ?_
    · rintro i v H2 H3 hi ⟨s2, hD⟩ ⟨rfl, hy⟩
      obtain ⟨e, he, rfl⟩ := ref_at hy
      obtain ⟨en, hen, pa, la, ks, e1, ⟨dx2, t2, e2, et⟩, e3, e4, e5⟩ := X.ge.left he
      have q1 := s2 _ _ (hid_same _ _ e1)
      have q2 := s2 _ _ (hid_same _ _ e2)
      have q3 := s2 _ _ (hid_same _ _ e3)
      have q4 : L2R (KyAt H3) ks en.2 := e4.mono fun _ _ z => s2 _ _ (hid_same _ _ z)
      have tk : (endOf fb ls).good.take (i + 1) = (endOf fb ls).good.take i ++ [en] := by rw [List.take_add_one, show (endOf fb ls).good[i]? = some en from hen]; rfl
      refine ⟨e, _, rfl, .of q1, rfl, _, _, rfl, _, _, rfl, rfl, rfl, _, rfl, _, rfl, kyD y, en.2.map kyD, kyD_at (s2 _ _ ht1), .lst (.of q3) (dp_kys q4), kyD_shaped ynm, kyDs_shaped e5, _, congrArg V.bl (any_ky _ _), ?_⟩
      by_cases ek : y ∈ en.2
      · refine iteD ek ⟨_, rfl, _, _, _, _, _, rfl, q2, T.c_Promise, T.n_Promise_number, l_Promise_number, _, hD, ?_, same_mut s2 nD, ?_⟩
        · rw [List.length_map]
          refine Nat.lt_of_le_of_lt (List.length_filter_le _ _) ?_
          rw [List.length_take]
          refine Nat.lt_of_le_of_lt (Nat.min_le_right _ _) (Nat.lt_of_le_of_lt (m := 60) (by omega) (by decide))
        · rw [upd_same, tk, List.filter_append, List.map_append]
          simp [ek]
      · refine iteDn ek ⟨s2, ?_⟩
        rw [tk, List.filter_append, List.map_append]
        simp [ek, hD]
    · rintro H2 ⟨s2, hD⟩
      have hD : H2 D = some (.lst ((((endOf fb ls).good.take (W.es.map V.ref).length).filter fun e => decide (y ∈ e.2)).map fun e => V.int e.1.num)) := hD
      rw [List.length_map, eg, List.take_length] at hD
      exact k H2 D ⟨L1.same s2, fun c o n e => s2 _ _ (f1 _ _ n (s0 _ _ e))⟩ (s0.free (L1.free f1 nD)) hD
def holdersM (us : List (Str × Nat)) : List (Str × Nat) := ((srt (us.map (·.1))).filter fun n => decide (0 < getU us n)).map fun n => (n, getU us n)
def HrAt (K : PySem.W.Frag) (H : Hp) (t : Addr) (x : Str × Nat) : Prop := ∃ q, H t = some (.tup [.str x.1, .ref q]) ∧ PtAt K H q x.2
def sp_Ledger_holders (K : PySem.W.Frag) : Sp := fun vs H Q _ => ∃ (g f : Addr) (fb : List (Bd × Addr)) (ls : List Ln) (x : Bd × Addr), vs = [.ref g, .str x.1.name] ∧ LedAt K H g f fb ls ∧ x ∈ fb ∧ x.1.shares = true ∧ ((endOf fb ls).units x.1.name).length < 64 ∧
  ∀ H' l ts, Qg K g f fb ls H H' → H l = none → H' l = some (.lst (ts.map V.ref)) → L2R (HrAt K H') ts (holdersM ((endOf fb ls).units x.1.name)) → Q (.ref l) H'
theorem ok_Ledger_holders (T : Tx K mg) : FnOk P w K mg base CX0 8 (He.ma K (He.ga K "Ledger") "holders") (fdOf K dd_Ledger_holders) ["self", "bed"] (sp_Ledger_holders K) := by
  refine okF T.d_Ledger_holders sc_Ledger_holders (fun vs H Q E h => ?_) (fun cdv A outer s H vs Q E hr h => ?_)
  · obtain ⟨_, _, _, _, _, rfl, _⟩ := h; rfl
  · obtain ⟨g, f, fb, ls, x, rfl, L, hx, hsh, hlen, k⟩ := h
    have hu := hu_of hr
    refine ⟨_, (pss_cons (ps_if (PW.pt (pw_or (pt_cmpR (op_notInK K rfl) (pv 1) (pe_meth0 (pe_fldK K rfl (pv 0) rfl) T.c_Field T.m_Field_bed_names (ok_Field_bed_names T) (hr.mono (by decide)) T.b_Field_bed_names .nil pass0) (by rfl)) (pw_or1 (pt_cmpR op_ne (pe_fldK K rfl (pe_meth (pe_fldK K rfl (pv 0) rfl) T.c_Field T.m_Field_bed_of (ok_Field_bed_of T) (hr.mono (by decide)) T.b_Field_bed_of .nil pass0 (pa_cons (pv 1) pa_nil)) rfl) pe_str (nomark _))))) (pss_one ps_never) pss_nil)
      (pss_cons (ps_set (i := 2) sc_Ledger_holders.nd rfl (by first | exact Or.inl rfl | exact Or.inr rfl) (pe_dget hu (pe_fldK K rfl (pe_meth0 (pv 0) T.c_Ledger T.m_Ledger_standing (ok_Ledger_standing T) (hr.mono (by decide)) T.b_Ledger_standing .nil pass0) rfl) (pv 1) (fun _ _ => rfl)))
      (pss_one (ps_ret (pe_lc (own := [("name", 3)]) (g := gName 3) rfl sc_Ledger_holders.nd (pi_list (pe_callB (call_sortedD rfl) (by rfl) T.f_sorted (by decide +kernel) (pa_cons (pv 2) pa_nil))) (blkOk_by (own := [("name", 3)]) (N := N_Ledger_holders) (sc := defScope s_Ledger_holders) (by decide +kernel)) (fun _ _ _ _ _ => (pg_name (i := 3) sc_Ledger_holders.nd rfl (Or.inl rfl))) (fun _ _ _ _ _ => (pts_one (pt_val (pe_call (ok_less T) (hr.mono (by decide)) rfl T.g_less T.d_less.kp T.b_less .nil pass0 (pa_cons (pe_make T.mk_Part (ok_Part_init T) (hr.mono (by decide)) rfl T.g_Part (bP1 T) (rP1 T) pass0 (pa_cons pe_int pa_nil)) (pa_cons (pe_dget hu (pv 2) (pv 3) (fun _ _ => rfl)) pa_nil)))))) (fun _ _ _ _ _ => (pe_tup (pa_cons (pv 3) (pa_cons (pe_dget hu (pv 2) (pv 3) (fun _ _ => rfl)) pa_nil))))))))), ?_⟩
    obtain ⟨dx, kn, cv, hg⟩ := L.ob
    obtain ⟨_, _, _, Ld, _⟩ := id L
    have F : FieldAt K H f fb := Ld.fld.same hid_same
    obtain ⟨dxf, gf, df, hf, _⟩ := F.ob
    refine ⟨_, rfl, _, rfl, _, _, _, _, _, rfl, hg, T.c_Ledger, T.n_Ledger_field, l_Ledger_field, _, _, _, rfl, hf, lm_Field_bed_names, f, fb, rfl, F, fun ys q H0 hp s0 nq hq => ?_⟩
    have mem : x.1.name ∈ ys := hp.mem_iff.mpr (List.mem_map.mpr ⟨x, hx, rfl⟩)
    refine ⟨_, _, rfl, .inl (.of hq), rfl, flat_strs ys, false, congrArg V.bl (congrArg not (inV_str mem)), iteF ?_⟩
    have F0 := F.same s0
    have hg0 := s0 _ _ hg
    refine ⟨_, rfl, _, _, _, _, _, rfl, hg0, T.c_Ledger, T.n_Ledger_field, l_Ledger_field, _, _, _, rfl, (s0 _ _ hf), lm_Field_bed_of, _, rfl, f, fb, x, rfl, F0, hx, fun H00 s00 => ?_⟩
    obtain ⟨dxb, hb⟩ := (F0.at_ x hx).same s00
    have s0 := s0.trans s00
    have hg0 := s0 _ _ hg
    have L0 := L.same s0
    refine ⟨_, _, _, _, _, rfl, hb, T.c_Bed, T.n_Bed_kind, l_Bed_kind, rfl, _, rfl, iteNS (congrArg V.str (kind_sh hsh)) ?_⟩
    refine ⟨_, rfl, _, _, _, rfl, hg0, lm_Ledger_standing, g, f, fb, ls, rfl, L0, fun H1 p M n W L1 hn X f1 => ?_⟩
    obtain ⟨da, h2, h3, kvs, h4, h5, h6, h7⟩ := X.pv x hx hsh
    have gg : DGet H1 W.pp (.str x.1.name) (some (.ref da)) := by
      have := DGet.k (k := Sum.inr x.1.name) X.hp
      rw [h3] at this
      exact this
    have h5 : URel K (hid M H1) ((endOf fb ls).units x.1.name) kvs := h5
    have ekeys : kvs.map (·.1) = ((endOf fb ls).units x.1.name).map (fun y => (Sum.inr y.1 : Key)) := h5.keys
    refine ⟨_, _, _, _, _, rfl, X.ob, T.c_Standing, T.n_Standing_parts, l_Standing_parts, _, rfl, _, _, rfl, gg, ?_⟩
    refine ⟨_, rfl, da, kvs, ((endOf fb ls).units x.1.name).map (·.1), rfl, .of h4, by rw [ekeys, List.map_map]; rfl, by rw [List.length_map]; exact hlen, fun zs l pm so nl => ?_⟩
    generalize hh : upd H1 l _ = H2; obtain ⟨s2, hl⟩ := gen_new hh nl; clear hh
    have ezs := srt_unique pm so
    have zl : zs.length < 64 := by rw [pm.length_eq, List.length_map]; exact hlen
    refine ⟨l, rfl, ⟨_, .of hl⟩, fun D nD => ?_⟩
    refine lc_it walk_list (fun i H' => Same H2 H' ∧ ∃ ts : List Addr, H' D = some (.lst (ts.map V.ref)) ∧ L2R (HrAt K H') ts (((zs.take i).filter fun n => decide (0 < getU ((endOf fb ls).units x.1.name) n)).map fun n => (n, getU ((endOf fb ls).units x.1.name) n)))
      ⟨same_new nD, [], upd_same, .nil⟩ (fun i H' _ z => z.1.seq (.of hl)) ?_ ?_
    · rintro i v H3 H4 hi ⟨s3, ts, hD, hts⟩ ⟨rfl, hy⟩
      obtain ⟨nm, hnm, hmem, rfl⟩ := fb_at hy
      have da3 := s3 _ _ (s2 _ _ h4)
      obtain ⟨q, e1, e2⟩ : ∃ q, valV kvs (Sum.inr nm : Key) = some (.ref q) ∧ PtAt K (hid M H1) q (getU ((endOf fb ls).units x.1.name) nm) := by
        rcases h5.get nm with ⟨e1, _⟩ | z
        · have := valV_mem (kvs := kvs) (k := (Sum.inr nm : Key)) (by
            rw [ekeys]
            obtain ⟨y, hy, e⟩ := List.mem_map.mp (pm.mem_iff.mp hmem)
            exact List.mem_map.mpr ⟨y, hy, by rw [e]⟩)
          rw [e1] at this; cases this
        · exact z
      have e2 : PtAt K H4 q (getU ((endOf fb ls).units x.1.name) nm) := ((e2.same hid_same).same s2).same s3
      have bound := getU_le (n := nm) h7
      have tk : zs.take (i + 1) = zs.take i ++ [nm] := by rw [List.take_add_one, hnm]; rfl
      have g3 : DGet H4 da (.str nm) (some (.ref q)) := by
        have := DGet.k (k := Sum.inr nm) da3
        rw [e1] at this
        exact this
      refine ⟨rfl, ?_⟩
      intro z dq nq nd ne
      refine ⟨z, dq, 0, 1, rfl, upd_same, ?_, ?_, fun H5 e1 e2 => ⟨rfl, ?_⟩⟩
      · omega
      · omega
      obtain ⟨s5, hz⟩ := mk_part (t := 0) (b := 1) nq nd e1 e2 (by omega) part0
      clear e1 e2 ne nd
      have g5 : DGet H5 da (.str nm) (some (.ref q)) := by
        have := DGet.k (k := Sum.inr nm) (s5 _ _ da3)
        rw [e1] at this
        exact this
      refine ⟨_, rfl, _, rfl, _, _, rfl, g5, z, q, 0, getU ((endOf fb ls).units x.1.name) nm, rfl, hz, e2.same s5, by decide, by have : getU ((endOf fb ls).units x.1.name) nm ≤ 27720 * n := bound; omega, _, rfl, ?_⟩
      have hD5 := s5 _ _ hD
      have hts5 : L2R (HrAt K H5) ts _ := hts.mono fun _ _ ⟨q, m1, m2⟩ => ⟨q, s5 _ _ m1, m2.same s5⟩
      by_cases eu : 0 < getU ((endOf fb ls).units x.1.name) nm
      · refine iteD eu ⟨_, rfl, _, rfl, _, rfl, _, _, rfl, g5, by show 2 ≤ sizeLine; decide, fun t nt => ?_⟩
        generalize hh : upd H5 t _ = H6; obtain ⟨s6, ht⟩ := gen_new hh nt; clear hh
        have hD6 := s6 _ _ hD5
        have upt : ∀ {c xs}, H6 c = some (.tup xs) → upd H6 D (.lst (ts.map V.ref ++ [V.ref t])) c = some (.tup xs) := fun e => by rw [upd_ne (ne_of e hD6 (by intro q; cases q))]; exact e
        have upp : ∀ {c u}, PtAt K H6 c u → PtAt K (upd H6 D (.lst (ts.map V.ref ++ [V.ref t]))) c u := fun ⟨d, e⟩ => ⟨d, by rw [upd_ne (ne_of e hD6 (by intro q; cases q))]; exact e⟩
        refine ⟨_, hD6, ?_, same_mut (s3.trans (s5.trans s6)) nD, ts ++ [t], by rw [upd_same, List.map_append]; rfl, ?_⟩
        · rw [List.length_map, hts.1, List.length_map]
          refine Nat.lt_of_le_of_lt (List.length_filter_le _ _) ?_
          rw [List.length_take]
          refine Nat.lt_of_le_of_lt (Nat.min_le_right _ _) (Nat.lt_of_le_of_lt (m := 64) (by omega) (by decide))
        · rw [tk, List.filter_append, List.map_append]
          have fe : ([nm].filter fun n => decide (0 < getU ((endOf fb ls).units x.1.name) n)) = [nm] := by simp [eu]
          rw [fe]
          exact L2R.snoc (hts5.mono fun _ _ ⟨q, m1, m2⟩ => ⟨q, upt (s6 _ _ m1), upp (m2.same s6)⟩) ⟨q, upt ht, upp ((e2.same s5).same s6)⟩
      · refine iteDn eu ⟨s3.trans s5, ts, hD5, ?_⟩
        rw [tk, List.filter_append]
        have fe : ([nm].filter fun n => decide (0 < getU ((endOf fb ls).units x.1.name) n)) = [] := by simp [eu]
        rw [fe, List.append_nil]
        exact hts5
    · rintro H3 ⟨s3, ts, hD, hts⟩
      have hts : L2R (HrAt K H3) ts (((zs.take (zs.map V.str).length).filter fun n => decide (0 < getU ((endOf fb ls).units x.1.name) n)).map fun n => (n, getU ((endOf fb ls).units x.1.name) n)) := hts
      rw [List.length_map, List.take_length, ezs] at hts
      refine k H3 D ts ⟨L1.same (s2.trans s3), fun c o n e => s3 _ _ (s2 _ _ (f1 _ _ n (s0 _ _ e)))⟩ (s0.free (L1.free f1 (s2.free nD))) hD hts
end
end Rp


set_option maxRecDepth 100000
set_option maxHeartbeats 4000000
namespace Rp
open PySem PySem.Spec PyProof.Rows L2
/-! ### the law's source of figures -/
def SrcAt (H : Hp) (c : Addr) (z : Nat) : Prop := ∃ x y k : Int, H c = some (.lst [.int x, .int y, .int k]) ∧ 0 ≤ x ∧ 0 ≤ y ∧ y < 2147483647 ∧ 0 ≤ k ∧ k ≤ z
theorem SrcAt.same {H H' : Hp} {c : Addr} {z : Nat} (h : SrcAt H c z) (s : Same H H') : SrcAt H' c z := let ⟨x, y, k, e, r⟩ := h; ⟨x, y, k, s _ _ e, r⟩
theorem SrcAt.mono {H : Hp} {c : Addr} {z z' : Nat} (h : SrcAt H c z) (e : z ≤ z') : SrcAt H c z' := let ⟨x, y, k, e1, e2, e3, e4, e5, e6⟩ := h; ⟨x, y, k, e1, e2, e3, e4, e5, by omega⟩
theorem prime_at (k : Int) (h : 0 ≤ k) : ∃ p : Int, atI [V.int 2147483647, .int 2147483629, .int 2147483587, .int 2147483579, .int 2147483563, .int 2147483549, .int 2147483543] (k % 7) = some (.int p) ∧ 2147483543 ≤ p ∧ p ≤ 2147483647 := by
  have h1 : 0 ≤ k % 7 := Int.emod_nonneg _ (by decide)
  have h2 : k % 7 < 7 := Int.emod_lt_of_pos _ (by decide)
  generalize k % 7 = m at h1 h2
  obtain ⟨j, rfl⟩ := Int.eq_ofNat_of_zero_le h1
  have hj : j < 7 := by omega
  match j, hj with
  | 0, _ => exact ⟨_, atI_nat (j := 0) rfl, by decide, by decide⟩
  | 1, _ => exact ⟨_, atI_nat (j := 1) rfl, by decide, by decide⟩
  | 2, _ => exact ⟨_, atI_nat (j := 2) rfl, by decide, by decide⟩
  | 3, _ => exact ⟨_, atI_nat (j := 3) rfl, by decide, by decide⟩
  | 4, _ => exact ⟨_, atI_nat (j := 4) rfl, by decide, by decide⟩
  | 5, _ => exact ⟨_, atI_nat (j := 5) rfl, by decide, by decide⟩
  | 6, _ => exact ⟨_, atI_nat (j := 6) rfl, by decide, by decide⟩
section
variable {P : Program} {w : World} {K : PySem.W.Frag} {mg : Str → Option Value} {base : Heap}
/-- a cell of the script, or 0 -/
def sp_l_cell_at (K : PySem.W.Frag) : Sp := fun vs H Q _ => ∃ (p : Addr) (ns : List Int) (k : Nat), vs = [.ref p, .int k] ∧ SqL K H p (ns.map V.int) ∧ ∀ i : Int, Q (.int i) H
theorem ok_l_cell_at (T : Tx K mg) : FnOk P w K mg base CX0 1 (He.ga K "_law_cell_at") (fdOf K dd_l_cell_at) ["_law_script", "_law_k"] (sp_l_cell_at K) := by
  refine okF T.d_l_cell_at sc_l_cell_at (fun vs H Q E h => ?_) (fun cdv A outer s H vs Q E hr h => ?_)
  · obtain ⟨_, _, _, rfl, _⟩ := h; rfl
  · obtain ⟨p, ns, j, rfl, hs, k⟩ := h
    refine ⟨_, (pss_cons (ps_if (pt_cmpR op_lt (pv 1) (pe_callB call_len (by rfl) T.f_len PySem.boot_len (pa_cons (pv 0) pa_nil)) (nomark _)) (pss_one (ps_ret (pe_ix (ix_listK K rfl) (pv 0) (pv 1) (fun _ _ => rfl)))) pss_nil)
      (pss_one (ps_ret pe_int))), ?_⟩
    refine ⟨_, rfl, _, rfl, .ref p, ns.length, rfl, .inl ⟨_, hs, by rw [List.length_map]⟩, _, _, rfl, rfl, _, rfl, ?_⟩
    by_cases h : (j : Int) < ns.length
    · obtain ⟨i, hi⟩ : ∃ i, ns[j]? = some i := ⟨_, List.getElem?_eq_getElem (by omega)⟩
      exact iteD h ⟨_, rfl, _, rfl, p, _, _, .int i, rfl, rfl, hs, atI_nat (by rw [List.getElem?_map, hi]; rfl), k i⟩
    · exact iteDn h (k 0)
def sp_l_source (K : PySem.W.Frag) : Sp := fun vs H Q _ => ∃ (i : Int), vs = [.int i] ∧ ∀ c H', H c = none → Same H H' → SrcAt H' c 0 → Q (.ref c) H'
theorem ok_l_source (T : Tx K mg) : FnOk P w K mg base CX0 1 (He.ga K "_law_source") (fdOf K dd_l_source) ["_law_cell"] (sp_l_source K) := by
  refine okF T.d_l_source sc_l_source (fun vs H Q E h => ?_) (fun cdv A outer s H vs Q E hr h => ?_)
  · obtain ⟨_, rfl, _⟩ := h; rfl
  · obtain ⟨i, rfl, k⟩ := h
    refine ⟨_, (pss_one (ps_ret (pe_lst (pa_cons (pe_op op_mul (pv 0) (pe_callTy call_int1 (by rfl) T.f_int (by decide +kernel) (pa_cons (pe_cmpR op_ge (pv 0) (pe_op op_pow pe_int pe_int) (nomark _)) pa_nil))) (pa_cons (pe_op op_mod (pv 0) pe_int) (pa_cons pe_int pa_nil)))))), ?_⟩
    have big : ((10 : Int) ^ ((18 : Int)).toNat) = 1000000000000000000 := by decide
    have p1 := Int.emod_nonneg i (b := 2147483647) (by decide)
    have p2 := Int.emod_lt_of_pos i (b := 2147483647) (by decide)
    refine ⟨_, rfl, _, rfl, _, _, rfl, rfl, ⟨by decide, by decide, by decide⟩, _, _, rfl, rfl, .inr ⟨_, rfl, _, _, rfl, rfl, .inr ⟨?_, ?_⟩, _, rfl, _, _, rfl, rfl, (by show (0 : Int) < 2147483647; decide), by show 3 ≤ sizeLine; decide, fun c nc => ?_⟩⟩
    · split <;> decide
    · split <;> decide
    generalize hh : upd H c _ = H1; obtain ⟨s1, hc⟩ := gen_new hh nc; clear hh
    refine k c H1 nc s1 ⟨_, _, _, hc, ?_, p1, p2, by decide, by decide⟩
    rw [big]
    by_cases h : (1000000000000000000 : Int) ≤ i
    · rw [decide_eq_true h, if_pos rfl]
      omega
    · rw [decide_eq_false h, if_neg (by decide)]
      omega
def sp_l_next (K : PySem.W.Frag) : Sp := fun vs H Q _ => ∃ (c : Addr) (z n : Nat), vs = [.ref c, .int n] ∧ SrcAt H c z ∧ z < 1000000 ∧ 0 < n ∧ n < 1000000 ∧
  ∀ (r : Nat) H', r < n → SrcAt H' c (z + 1) → Stp [c] H [c] H' → Q (.int r) H'
theorem ok_l_next (T : Tx K mg) : FnOk P w K mg base CX0 1 (He.ga K "_law_next") (fdOf K dd_l_next) ["_law_source_here", "_law_many"] (sp_l_next K) := by
  refine okF T.d_l_next sc_l_next (fun vs H Q E h => ?_) (fun cdv A outer s H vs Q E hr h => ?_)
  · obtain ⟨_, _, _, rfl, _⟩ := h; rfl
  · obtain ⟨c, z, n, rfl, ⟨x, y, m, hc, x0, y0, y1, m0, m1⟩, z1, n0, n1, k⟩ := h
    refine ⟨_, (pss_cons (ps_if (pt_cmpR op_gt (pe_ix (ix_listK K rfl) (pv 0) pe_int (fun _ _ => rfl)) pe_int (nomark _)) (pss_cons (ps_set (i := 2) sc_l_next.nd rfl (by first | exact Or.inl rfl | exact Or.inr rfl) (pe_op op_mod (pe_ix (ix_listK K rfl) (pv 0) pe_int (fun _ _ => rfl)) (pv 1)))
      (pss_cons (ps_asg (pe_op op_fdiv (pe_ix (ix_listK K rfl) (pv 0) pe_int (fun _ _ => rfl)) (pv 1)) (pg_sub (pv 0) pe_int set_list))
      (pss_one (ps_ret (pv 2))))) pss_nil)
      (pss_cons (ps_asg (pe_op op_add (pe_ix (ix_listK K rfl) (pv 0) pe_int (fun _ _ => rfl)) pe_int) (pg_sub (pv 0) pe_int set_list))
      (pss_cons (ps_set (i := 3) sc_l_next.nd rfl (by first | exact Or.inl rfl | exact Or.inr rfl) (pe_ix (ix_listK K rfl) (pe_lst (pa_cons pe_int (pa_cons pe_int (pa_cons pe_int (pa_cons pe_int (pa_cons pe_int (pa_cons pe_int (pa_cons pe_int pa_nil)))))))) (pe_op op_mod (pe_ix (ix_listK K rfl) (pv 0) pe_int (fun _ _ => rfl)) pe_int) (fun _ _ => rfl)))
      (pss_cons (ps_set (i := 4) sc_l_next.nd rfl (by first | exact Or.inl rfl | exact Or.inr rfl) (pe_op op_mod (pe_op op_pow (pe_op op_add (pe_op op_add (pe_ix (ix_listK K rfl) (pv 0) pe_int (fun _ _ => rfl)) (pe_op op_mul pe_int (pe_ix (ix_listK K rfl) (pv 0) pe_int (fun _ _ => rfl)))) pe_int) pe_int) (pv 3)))
      (pss_cons (ps_set (i := 4) sc_l_next.nd rfl (by first | exact Or.inl rfl | exact Or.inr rfl) (pe_op op_mod (pe_op op_mul (pe_op op_add (pv 4) (pe_ix (ix_listK K rfl) (pv 0) pe_int (fun _ _ => rfl))) (pe_op op_add (pe_op op_fdiv (pv 4) pe_int) pe_int)) (pv 3)))
      (pss_one (ps_ret (pe_op op_mod (pe_op op_fdiv (pv 4) pe_int) (pv 1))))))))), ?_⟩
    have cM : c ∈ [c] := List.mem_singleton.mpr rfl
    refine ⟨_, rfl, c, _, _, _, rfl, rfl, .of hc, atI_nat (j := 0) rfl, _, _, rfl, rfl, _, rfl, ?_⟩
    by_cases hx : 0 < x
    · have r0 := Int.emod_nonneg x (b := (n : Int)) (by omega)
      have r1 := Int.emod_lt_of_pos x (b := (n : Int)) (by omega)
      obtain ⟨r, hr2⟩ := Int.eq_ofNat_of_zero_le r0
      have q0 : 0 ≤ x / (n : Int) := Int.ediv_nonneg x0 (by omega)
      refine iteD hx ⟨_, rfl, c, _, _, _, rfl, rfl, .of hc, atI_nat (j := 0) rfl, _, rfl, _, _, rfl, rfl, (show (0 : Int) < n by omega), ?_⟩
      refine ⟨_, rfl, c, _, _, _, rfl, rfl, .of hc, atI_nat (j := 0) rfl, _, rfl, _, _, rfl, rfl, ⟨by omega, by omega⟩, ?_⟩
      refine ⟨_, rfl, c, _, _, 0, rfl, rfl, hc, rfl, ?_⟩
      have k2 := k r _ (by omega) ⟨_, _, _, upd_same, q0, y0, y1, m0, by omega⟩ (Stp.mut (o := .lst (List.set [V.int x, .int y, .int m] 0 (.int (x / (n : Int))))) cM)
      rw [← hr2] at k2
      exact ⟨_, rfl, k2⟩
    · refine iteDn hx ?_
      refine ⟨_, rfl, c, _, _, _, rfl, rfl, .of hc, atI_nat (j := 2) rfl, _, _, rfl, rfl, ?_⟩
      refine ⟨_, rfl, c, _, _, 2, rfl, rfl, hc, rfl, ?_⟩
      have s1 : Stp [c] H [c] _ := Stp.mut (o := .lst (List.set [V.int x, .int y, .int m] 2 (.int (m + 1)))) cM
      have hc1 : upd H c (.lst (List.set [V.int x, .int y, .int m] 2 (.int (m + 1)))) c = some (.lst [.int x, .int y, .int (m + 1)]) := upd_same
      generalize upd H c (.lst (List.set [V.int x, .int y, .int m] 2 (.int (m + 1)))) = H1 at s1 hc1 ⊢
      obtain ⟨p, hp, p0, p1⟩ := prime_at (m + 1) (by omega)
      refine ⟨by show 7 ≤ sizeLine; decide, fun t nt => ?_⟩
      generalize hh : upd H1 t _ = H2; obtain ⟨s2, ht⟩ := gen_new hh nt; clear hh
      have hc2 := s2 _ _ hc1
      refine ⟨_, rfl, c, _, _, _, rfl, rfl, .of hc2, atI_nat (j := 2) rfl, _, _, rfl, rfl, (by show (0 : Int) < 7; decide), t, _, _, _, rfl, rfl, .of ht, hp, ?_⟩
      have b0 : 0 ≤ y + 7919 * (m + 1) + 1 := by omega
      have b1 : (y + 7919 * (m + 1) + 1).natAbs < 2 ^ 64 := by omega
      have f0 := Int.emod_nonneg ((y + 7919 * (m + 1) + 1) ^ ((5 : Int)).toNat) (b := p) (by omega)
      have f1 := Int.emod_lt_of_pos ((y + 7919 * (m + 1) + 1) ^ ((5 : Int)).toNat) (b := p) (by omega)
      refine ⟨_, rfl, c, _, _, _, rfl, rfl, .of hc2, atI_nat (j := 1) rfl, _, rfl, c, _, _, _, rfl, rfl, .of hc2, atI_nat (j := 2) rfl, _, _, rfl, rfl, .inl ⟨by decide, by decide⟩, _, _, rfl, rfl, _, _, rfl, rfl, _, _, rfl, rfl, ⟨by decide, by decide, b1⟩, _, rfl, _, _, rfl, rfl, (show (0 : Int) < p by omega), ?_⟩
      have d0 : 0 ≤ ((y + 7919 * (m + 1) + 1) ^ ((5 : Int)).toNat % p) / 1009 := Int.ediv_nonneg f0 (by decide)
      have d1 : ((y + 7919 * (m + 1) + 1) ^ ((5 : Int)).toNat % p) / 1009 ≤ ((y + 7919 * (m + 1) + 1) ^ ((5 : Int)).toNat % p) := Int.ediv_le_self _ f0
      have g0 := Int.emod_nonneg ((((y + 7919 * (m + 1) + 1) ^ ((5 : Int)).toNat % p) + (m + 1)) * (((y + 7919 * (m + 1) + 1) ^ ((5 : Int)).toNat % p) / 1009 + 69621)) (b := p) (by omega)
      refine ⟨_, rfl, _, rfl, c, _, _, _, rfl, rfl, .of hc2, atI_nat (j := 2) rfl, _, _, rfl, rfl, _, rfl, _, _, rfl, rfl, ⟨by decide, by decide⟩, _, _, rfl, rfl, _, _, rfl, rfl, .inl ⟨by omega, by omega⟩, _, rfl, _, _, rfl, rfl, (show (0 : Int) < p by omega), ?_⟩
      have e0 : 0 ≤ (((((y + 7919 * (m + 1) + 1) ^ ((5 : Int)).toNat % p) + (m + 1)) * (((y + 7919 * (m + 1) + 1) ^ ((5 : Int)).toNat % p) / 1009 + 69621)) % p) / 7 := Int.ediv_nonneg g0 (by decide)
      have r0 := Int.emod_nonneg ((((((y + 7919 * (m + 1) + 1) ^ ((5 : Int)).toNat % p) + (m + 1)) * (((y + 7919 * (m + 1) + 1) ^ ((5 : Int)).toNat % p) / 1009 + 69621)) % p) / 7) (b := (n : Int)) (by omega)
      have r1 := Int.emod_lt_of_pos ((((((y + 7919 * (m + 1) + 1) ^ ((5 : Int)).toNat % p) + (m + 1)) * (((y + 7919 * (m + 1) + 1) ^ ((5 : Int)).toNat % p) / 1009 + 69621)) % p) / 7) (b := (n : Int)) (by omega)
      obtain ⟨r, hr2⟩ := Int.eq_ofNat_of_zero_le r0
      refine ⟨_, rfl, _, _, rfl, rfl, ⟨by decide, by decide⟩, _, rfl, _, _, rfl, rfl, (show (0 : Int) < n by omega), ?_⟩
      have k2 := k r H2 (by omega) ⟨_, _, _, hc2, x0, y0, y1, by omega, by omega⟩ (s1.trans (Stp.grow s2))
      rw [← hr2] at k2
      exact k2
end
end Rp


set_option maxRecDepth 100000
set_option maxHeartbeats 4000000
namespace Rp
open PySem PySem.Spec PyProof.Rows L2
theorem Stp.drop {M M1 M2 : List Addr} {H H' : Hp} (s : Stp M H M1 H') (h : ∀ m ∈ M2, m ∈ M1) : Stp M H M2 H' := ⟨s.same, fun m hm => s.new m (h m hm)⟩
theorem Stp.add {M : List Addr} {H H' : Hp} {l : Addr} (s : Stp M H M H') (nl : H l = none) : Stp M H (l :: M) H' := ⟨s.same, fun m hm => by
  rcases List.mem_cons.mp hm with e | e
  · exact .inr (by rw [e]; exact nl)
  · exact s.new m e⟩
theorem sIx_to {n d i : Nat} : HT.sIx n d (some (i : Int)) = min i n := by
  exact HT.sIx_nat n d i
theorem cut_from {xs : List V} {i : Nat} : cutV xs (some (i : Int)) none = xs.drop i := by
  unfold cutV
  rw [sIx_to]
  show (xs.drop (min i xs.length)).take (xs.length - min i xs.length) = _
  rw [List.take_of_length_le (by rw [List.length_drop]; exact Nat.le_refl _)]
  rcases Nat.le_total i xs.length with h | h
  · rw [Nat.min_eq_left h]
  · rw [Nat.min_eq_right h, List.drop_length, List.drop_of_length_le h]
theorem cut_to {xs : List V} {i : Nat} : cutV xs none (some (i : Int)) = xs.take i := by
  unfold cutV
  rw [sIx_to]
  show (xs.drop 0).take (min i xs.length - 0) = _
  rw [List.drop_zero, Nat.sub_zero]
  rcases Nat.le_total i xs.length with h | h
  · rw [Nat.min_eq_left h]
  · rw [Nat.min_eq_right h, List.take_length, List.take_of_length_le h]
def nm0 : List Str := ["a", "ab", "abc", "b", "ba", "price", "zzzzzzzz", "aa", "root", "abcdefgh"]
theorem nm0_nd : nm0.Nodup := by decide +kernel
theorem isNm_dec (x : Str) (h : (decide (1 ≤ x.length) && decide (x.length ≤ 8) && x.cps.toList.all fun c => decide (c ∈ ("abcdefghijklmnopqrstuvwxyz" : Str).cps.toList)) = true) : IsNm x := by
  rw [Bool.and_eq_true, Bool.and_eq_true, decide_eq_true_eq, decide_eq_true_eq, List.all_eq_true] at h
  exact ⟨h.1.1, h.1.2, fun c hc => of_decide_eq_true (h.2 c hc)⟩
theorem nm0_nm : ∀ x ∈ nm0, IsNm x := by
  intro x hx
  refine isNm_dec x ?_
  have : ∀ x ∈ nm0, (decide (1 ≤ x.length) && decide (x.length ≤ 8) && x.cps.toList.all fun c => decide (c ∈ ("abcdefghijklmnopqrstuvwxyz" : Str).cps.toList)) = true := by decide +kernel
  exact this x hx
theorem lastS : cutS ("kqxzjvwmbt" : Str) none (some ((10 : Nat) : Int)) = "kqxzjvwmbt" := by decide +kernel
theorem last_nd : ("kqxzjvwmbt" : Str).cps.toList.Nodup := by decide +kernel
theorem last_ok : ∀ c ∈ ("kqxzjvwmbt" : Str).cps.toList, c ∈ ("abcdefghijklmnopqrstuvwxyz" : Str).cps.toList := by decide +kernel
section
variable {P : Program} {w : World} {K : PySem.W.Frag} {mg : Str → Option Value} {base : Heap}
def sp_l_names (K : PySem.W.Frag) : Sp := fun vs H Q _ => ∃ (c : Addr) (z : Nat), vs = [.ref c, .int ((10 : Nat) : Int)] ∧ SrcAt H c z ∧ z < 1000 ∧
  ∀ (ns : List Str) l H', ns.length = 10 → ns.Nodup → (∀ x ∈ ns, IsNm x) → SrcAt H' c (z + 200) → Stp [c] H [c] H' → H l = none → H' l = some (.lst (ns.map V.str)) → Q (.ref l) H'
theorem ok_l_names (T : Tx K mg) : FnOk P w K mg base CX0 2 (He.ga K "_law_names") (fdOf K dd_l_names) ["_law_source_here", "_law_many"] (sp_l_names K) := by
  refine okF T.d_l_names sc_l_names (fun vs H Q E h => ?_) (fun cdv A outer s H vs Q E hr h => ?_)
  · obtain ⟨_, _, rfl, _⟩ := h; rfl
  · obtain ⟨c, z, rfl, hs, z1, k⟩ := h
    refine ⟨_, (pss_cons (ps_if (pt_cmpR op_eq (pe_call (ok_l_next T) (hr.mono (by decide)) rfl T.g_l_next T.d_l_next.kp T.b_l_next .nil pass0 (pa_cons (pv 0) (pa_cons pe_int pa_nil))) pe_int (nomark _)) (pss_cons (ps_set (i := 2) sc_l_names.nd rfl (by first | exact Or.inl rfl | exact Or.inr rfl) (pe_lst (pa_cons pe_str (pa_cons pe_str (pa_cons pe_str (pa_cons pe_str (pa_cons pe_str (pa_cons pe_str (pa_cons pe_str (pa_cons pe_str (pa_cons pe_str (pa_cons pe_str pa_nil))))))))))))
      (pss_cons (ps_set (i := 3) sc_l_names.nd rfl (by first | exact Or.inl rfl | exact Or.inr rfl) (pe_call (ok_l_next T) (hr.mono (by decide)) rfl T.g_l_next T.d_l_next.kp T.b_l_next .nil pass0 (pa_cons (pv 0) (pa_cons pe_int pa_nil))))
      (pss_one (ps_ret (pe_slice sl_list (pe_op op_cat (pe_slice sl_list (pv 2) (po_some (pv 3)) po_none) (pe_slice sl_list (pv 2) po_none (po_some (pv 3)))) po_none (po_some (pv 1))))))) pss_nil)
      (pss_cons (ps_set (i := 4) sc_l_names.nd rfl (by first | exact Or.inl rfl | exact Or.inr rfl) (pe_lst pa_nil))
      (pss_cons (ps_for PassesOwn.never rfl (pi_str (pe_slice sl_str pe_str po_none (po_some (pv 1)))) (pg_name (i := 5) sc_l_names.nd rfl (by first | exact Or.inl rfl | exact Or.inr rfl)) (pss_cons (ps_set (i := 6) sc_l_names.nd rfl (by first | exact Or.inl rfl | exact Or.inr rfl) pe_str)
      (pss_cons (ps_for PassesOwn.never rfl (pi_range1 (by rfl) T.f_range (pa_cons (pe_call (ok_l_next T) (hr.mono (by decide)) rfl T.g_l_next T.d_l_next.kp T.b_l_next .nil pass0 (pa_cons (pv 0) (pa_cons pe_int pa_nil))) pa_nil)) (pg_name (i := 7) sc_l_names.nd rfl (by first | exact Or.inl rfl | exact Or.inr rfl)) (pss_one (ps_set (i := 6) sc_l_names.nd rfl (by first | exact Or.inl rfl | exact Or.inr rfl) (pe_op op_add_str (pv 6) (pe_ix ix_str pe_str (pe_call (ok_l_next T) (hr.mono (by decide)) rfl T.g_l_next T.d_l_next.kp T.b_l_next .nil pass0 (pa_cons (pv 0) (pa_cons pe_int pa_nil))) (fun _ _ => rfl))))))
      (pss_one (ps_expr (pe_bm PySem.F.plainAttrs_list PySem.F.slot_list_append PySem.F.type_list_append mt_append (pv 4) (pa_cons (pe_op op_add_str (pv 6) (pv 5)) pa_nil)))))))
      (pss_one (ps_ret (pv 4)))))), ?_⟩
    refine ⟨_, rfl, c, z, 3, rfl, hs, by omega, by decide, by decide, fun r H1 hr hs1 t1 => ⟨rfl, _, rfl, ?_⟩⟩
    by_cases r0 : r = 0
    · refine iteD (by rw [r0]; rfl) ?_
      refine ⟨by show 10 ≤ sizeLine; decide, fun l0 nl0 => ?_⟩
      generalize hh : upd H1 l0 _ = H2; obtain ⟨s2, hl0⟩ := gen_new hh nl0; clear hh
      have hl0 : H2 l0 = some (.lst (nm0.map V.str)) := hl0
      refine ⟨_, rfl, c, z + 1, 10, rfl, hs1.same s2, by omega, by decide, by decide, fun a H3 ha hs3 t3 => ?_⟩
      have lc : l0 ≠ c := by
        obtain ⟨_, _, _, e, _⟩ := hs1
        exact (ne_of_none e nl0).symm
      have hl3 := t3.same _ _ (hid_of hl0 (by simpa using lc))
      refine ⟨_, rfl, _, rfl, _, rfl, l0, _, rfl, .of hl3, fun l1 nl1 => ?_⟩
      rw [cut_from]
      generalize hh : upd H3 l1 _ = H4; obtain ⟨s4, hl1⟩ := gen_new hh nl1; clear hh
      refine ⟨_, rfl, _, rfl, _, rfl, l0, _, rfl, .of (s4 _ _ hl3), fun l2 nl2 => ?_⟩
      rw [cut_to]
      generalize hh : upd H4 l2 _ = H5; obtain ⟨s5, hl2⟩ := gen_new hh nl2; clear hh
      refine ⟨l1, l2, _, _, rfl, rfl, s5 _ _ hl1, hl2, by rw [List.length_drop, List.length_take, List.length_map]; exact Nat.le_trans (m := 20) (by show (10 - a) + min a 10 ≤ 20; omega) (by decide), fun l3 nl3 => ?_⟩
      generalize hh : upd H5 l3 _ = H6; obtain ⟨s6, hl3'⟩ := gen_new hh nl3; clear hh
      refine ⟨_, rfl, _, rfl, l3, _, rfl, .of hl3', fun l4 nl4 => ?_⟩
      rw [cut_to]
      generalize hh : upd H6 l4 _ = H7; obtain ⟨s7, hl4⟩ := gen_new hh nl4; clear hh
      have en : (((nm0.map V.str).drop a ++ (nm0.map V.str).take a).take 10) = (nm0.drop a ++ nm0.take a).map V.str := by
        rw [List.take_of_length_le, List.map_append, List.map_drop, List.map_take]
        rw [List.length_append, List.length_drop, List.length_take, List.length_map]
        show (10 - a) + min a 10 ≤ 10
        omega
      rw [en] at hl4
      have pm : (nm0.drop a ++ nm0.take a).Perm nm0 := by
        have := (List.perm_append_comm (l₁ := nm0.drop a) (l₂ := nm0.take a))
        rw [List.take_append_drop] at this
        exact this
      have s37 := s4.trans (s5.trans (s6.trans s7))
      have st : Stp [c] H [c] H7 := t1.trans ((Stp.grow s2).trans (t3.trans (Stp.grow s37)))
      refine k _ l4 H7 (by rw [pm.length_eq]; rfl) (pm.nodup_iff.mpr nm0_nd) (fun x hx => nm0_nm x (pm.mem_iff.mp hx)) ((hs3.same s37).mono (by omega)) st ?_ hl4
      cases e : H l4 with
      | none => rfl
      | some o =>
        by_cases q : l4 = c
        · obtain ⟨_, _, _, e2, _⟩ := hs3.same (s4.trans (s5.trans s6))
          rw [q, e2] at nl4; cases nl4
        · have := (t1.trans ((Stp.grow s2).trans (t3.trans (Stp.grow (s4.trans (s5.trans s6)))))).same _ _ (hid_of e (by simpa using q))
          rw [nl4] at this; cases this
    · refine iteDn (by intro q; injection q with q; omega) ?_
      refine ⟨by show 0 ≤ sizeLine; decide, fun l nl => ?_⟩
      generalize hh : upd H1 l _ = H2; obtain ⟨s2, hl⟩ := gen_new hh nl; clear hh
      have lc : l ≠ c := by
        obtain ⟨_, _, _, e, _⟩ := hs1
        exact (ne_of_none e nl).symm
      have nl0 : H l = none := by
        cases e : H l with
        | none => rfl
        | some o =>
          have := t1.same _ _ (hid_of e (by simpa using lc))
          rw [nl] at this; cases this
      have t2 : Stp [c] H [c] H2 := t1.trans (Stp.grow s2)
      have hs2 := hs1.same s2
      refine ⟨_, rfl, _, rfl, _, rfl, by decide, _, rfl, ?_⟩
      rw [lastS]
      refine for_it walk_str (fun i σ H' => ∃ ns : List Str, ∃ x5 x6 x7, σ = [some (.ref c), some (.int ((10 : Nat) : Int)), none, none, some (.ref l), x5, x6, x7] ∧ SrcAt H' c (z + 1 + 10 * i) ∧ Stp [c] H [c] H' ∧ H' l = some (.lst (ns.map V.str)) ∧ ns.map (fun n => n.cps.toList.getLast?) = (("kqxzjvwmbt" : Str).cps.toList.take i).map some ∧ ∀ n ∈ ns, IsNm n)
        ⟨[], none, none, none, rfl, hs2, t2, hl, rfl, nofun⟩ (fun _ _ _ _ _ => trivial) ?_ ?_
      · rintro i v σ H3 H4 hi ⟨ns, x5, x6, x7, rfl, hs3, t3, hl3, hns, hnm⟩ ⟨rfl, ch, hch, rfl⟩
        have hi2 : i < 10 := hi
        have nsl : ns.length = i := by
          have := congrArg List.length hns
          rw [List.length_map, List.length_map, List.length_take] at this
          have e10 : ("kqxzjvwmbt" : Str).cps.toList.length = 10 := by decide +kernel
          omega
        refine ⟨_, rfl, c, z + 1 + 10 * i, 8, rfl, hs3, by omega, by decide, by decide, fun m H5 hm hs5 t5 => ⟨(m : Int), rfl, by omega, by omega, ?_⟩⟩
        have hl5 := t5.same _ _ (hid_of hl3 (by simpa using lc))
        have em : ((m : Int)).toNat = m := by omega
        refine for_it walk_range (fun j σ H' => ∃ wd : Str, ∃ y7, σ = [some (.ref c), some (.int ((10 : Nat) : Int)), none, none, some (.ref l), some (.str ⟨#[ch]⟩), some (.str wd), y7] ∧ SrcAt H' c (z + 2 + 10 * i + j) ∧ Stp [c] H5 [c] H' ∧ wd.length ≤ j ∧ ∀ x ∈ wd.cps.toList, x ∈ ("abcdefghijklmnopqrstuvwxyz" : Str).cps.toList)
          ⟨"", _, rfl, hs5.mono (by omega), Stp.refl, Nat.le_refl _, nofun⟩ (fun _ _ _ _ _ => trivial) ?_ ?_
        · rintro j v σ H6 H7 hj ⟨wd, y7, rfl, hs6, t6, wl, wok⟩ ⟨rfl, rfl⟩
          rw [em] at hj
          refine ⟨_, rfl, _, rfl, c, _, 26, rfl, hs6, by omega, by decide, by decide, fun b H8 hb hs8 t8 => ?_⟩
          have e26 : ("abcdefghijklmnopqrstuvwxyz" : Str).cps.toList.length = 26 := by decide +kernel
          obtain ⟨lt, hlt⟩ : ∃ lt, ("abcdefghijklmnopqrstuvwxyz" : Str).cps.toList[b]? = some lt := ⟨_, List.getElem?_eq_getElem (by omega)⟩
          refine ⟨_, _, lt, rfl, rfl, by decide, atI_nat hlt, wd, ⟨#[lt]⟩, rfl, rfl, Nat.le_trans (m := 20) (by show wd.length + 1 ≤ 20; omega) (by decide), ?_⟩
          have ecp : (wd ++ (⟨#[lt]⟩ : Str)).cps.toList = wd.cps.toList ++ [lt] := by
            show (wd.cps ++ #[lt]).toList = _
            simp
          refine ⟨wd ++ ⟨#[lt]⟩, _, rfl, hs8.mono (by omega), t6.trans t8, ?_, fun x hx => ?_⟩
          · show (wd.cps ++ #[lt]).size ≤ j + 1
            rw [Array.size_append]
            show wd.length + 1 ≤ j + 1
            omega
          · rw [ecp] at hx
            rcases List.mem_append.mp hx with hx | hx
            · exact wok x hx
            · rw [List.mem_singleton.mp hx]; exact List.mem_of_getElem? hlt
        · rintro σ H6 ⟨wd, y7, rfl, hs6, t6, wl, wok⟩
          rw [em] at hs6 wl
          have hl6 := t6.same _ _ (hid_of hl5 (by simpa using lc))
          refine ⟨_, rfl, .inl ⟨rfl, _, .of hl6⟩, _, rfl, _, rfl, wd, ⟨#[ch]⟩, rfl, rfl, Nat.le_trans (m := 20) (by show wd.length + 1 ≤ 20; omega) (by decide), ?_⟩
          refine ⟨l, _, _, rfl, rfl, hl6, by rw [List.length_map, nsl]; exact Nat.lt_trans hi2 (by decide), ?_⟩
          have ecp : (wd ++ (⟨#[ch]⟩ : Str)).cps.toList = wd.cps.toList ++ [ch] := by
            show (wd.cps ++ #[ch]).toList = _
            simp
          have hch2 : ("kqxzjvwmbt" : Str).cps.toList[i]? = some ch := by rw [Array.getElem?_toList]; exact hch
          have tl : Stp [c] H [c] (upd H6 l (.lst (ns.map V.str ++ [.str (wd ++ ⟨#[ch]⟩)]))) := ⟨fun d o e => by
            rw [upd_ne (ne_of_none (hid_same _ _ e) nl0)]
            exact (t3.trans (t5.trans t6)).same _ _ e, fun m hm => .inl hm⟩
          obtain ⟨sx, sy, sk, se, sr⟩ := hs6
          refine ⟨ns ++ [wd ++ ⟨#[ch]⟩], _, _, _, rfl, SrcAt.mono ⟨sx, sy, sk, by rw [upd_ne lc.symm]; exact se, sr⟩ (by omega), tl, by rw [upd_same, List.map_append]; rfl, ?_, fun n hn => ?_⟩
          · rw [List.map_append, hns, List.take_add_one, hch2, List.map_append]
            show _ ++ [(wd ++ (⟨#[ch]⟩ : Str)).cps.toList.getLast?] = _
            rw [ecp, List.getLast?_append]
            rfl
          · rcases List.mem_append.mp hn with hn | hn
            · exact hnm n hn
            · rw [List.mem_singleton.mp hn]
              refine ⟨?_, ?_, fun x hx => ?_⟩
              · show 1 ≤ (wd.cps ++ #[ch]).size
                rw [Array.size_append]
                show 1 ≤ wd.length + 1
                omega
              · show (wd.cps ++ #[ch]).size ≤ 8
                rw [Array.size_append]
                show wd.length + 1 ≤ 8
                omega
              · rw [ecp] at hx
                rcases List.mem_append.mp hx with hx | hx
                · exact wok x hx
                · rw [List.mem_singleton.mp hx]; exact last_ok ch (List.mem_of_getElem? hch2)
      · rintro σ H3 ⟨ns, x5, x6, x7, rfl, hs3, t3, hl3, hns, hnm⟩
        have e10 : ("kqxzjvwmbt" : Str).cps.size = 10 := by decide +kernel
        rw [e10] at hns hs3
        have e11 : ("kqxzjvwmbt" : Str).cps.toList.take 10 = ("kqxzjvwmbt" : Str).cps.toList := by decide +kernel
        rw [e11] at hns
        refine ⟨_, rfl, k ns l H3 ?_ ?_ hnm (hs3.mono (by omega)) t3 nl0 hl3⟩
        · have := congrArg List.length hns
          rw [List.length_map, List.length_map] at this
          exact this
        · have nd : (ns.map fun n => n.cps.toList.getLast?).Nodup := by
            rw [hns]
            exact List.pairwise_map.mpr (last_nd.imp fun ne e => ne (Option.some.inj e))
          exact (List.pairwise_map.mp nd).imp fun ne e => ne (by rw [e])
end
end Rp


set_option maxRecDepth 100000
set_option maxHeartbeats 4000000
namespace Rp
open PySem PySem.Spec PyProof.Rows L2
def BrwAt (I : Hp) (t : Addr) (b : Str × List (Int × Str × Int)) : Prop := ∃ gl gts, I t = some (.tup [.str b.1, .ref gl]) ∧ I gl = some (.lst (gts.map V.ref)) ∧ L2R (GrAt I) gts b.2
theorem BrwAt.same {I I' : Hp} {t : Addr} {b : Str × List (Int × Str × Int)} (h : BrwAt I t b) (s : Same I I') : BrwAt I' t b := let ⟨gl, gts, h1, h2, h3⟩ := h; ⟨gl, gts, s _ _ h1, s _ _ h2, h3.mono fun _ _ z => s _ _ z⟩
/-- lists may change, tuples don't -/
theorem Stp.tup {M M' : List Addr} {H H' : Hp} (s : Stp M H M' H') (hM : ∀ m ∈ M, ∃ xs, H m = some (.lst xs)) {t : Addr} {xs : List V} (h : H t = some (.tup xs)) : H' t = some (.tup xs) := s.same _ _ (hid_of h fun m => by
  obtain ⟨ys, e⟩ := hM t m
  rw [h] at e; cases e)
/-- what changes a list or two alike -/
theorem Stp.add2 {c : Addr} {H H' : Hp} (s : Stp [c] H [c] H') (l : Addr) : Stp [c, l] H [c, l] H' := ⟨fun a o e => by
  obtain ⟨m, e⟩ := of_hid e
  simp only [List.mem_cons, List.not_mem_nil, or_false, not_or] at m
  exact s.same _ _ (hid_of e (by simpa using m.1)), fun m hm => .inl hm⟩
theorem SrcAt.lst {H : Hp} {c : Addr} {z : Nat} (h : SrcAt H c z) : ∃ xs, H c = some (.lst xs) := let ⟨_, _, _, e, _⟩ := h; ⟨_, e⟩
theorem SrcAt.upd {H : Hp} {c l : Addr} {z : Nat} {o : HO} (h : SrcAt H c z) (n : l ≠ c) : SrcAt (upd H l o) c z := let ⟨x, y, k, e, r⟩ := h; ⟨x, y, k, by rw [upd_ne n.symm]; exact e, r⟩
section
variable {P : Program} {w : World} {K : PySem.W.Frag} {mg : Str → Option Value} {base : Heap}
def sp_l_breed_rows (K : PySem.W.Frag) : Sp := fun vs H Q _ => ∃ (c nl : Addr) (z : Nat) (ns : List Str), vs = [.ref c, .ref nl] ∧ SrcAt H c z ∧ z < 2000 ∧ nl ≠ c ∧ H nl = some (.lst (ns.map V.str)) ∧ ns.length = 3 ∧ (∀ x ∈ ns, IsNm x) ∧
  ∀ (brs : List (Str × List (Int × Str × Int))) ts l H', 1 ≤ brs.length → brs.length ≤ 3 → brs.map (·.1) = ns.take brs.length → (∀ b ∈ brs, GrsOk b.2) → SrcAt H' c (z + 100) → Stp [c] H [c] H' → H l = none → hid [c] H' l = some (.lst (ts.map V.ref)) → L2R (BrwAt (hid [c] H')) ts brs → Q (.ref l) H'
theorem ok_l_breed_rows (T : Tx K mg) : FnOk P w K mg base CX0 2 (He.ga K "_law_breed_rows") (fdOf K dd_l_breed_rows) ["_law_source_here", "_law_names_here"] (sp_l_breed_rows K) := by
  refine okF T.d_l_breed_rows sc_l_breed_rows (fun vs H Q E h => ?_) (fun cdv A outer s H vs Q E hr h => ?_)
  · obtain ⟨_, _, _, _, rfl, _⟩ := h; rfl
  · obtain ⟨c, nl, z, ns, rfl, hs, z1, nlc, hnl, nsl, hnm, k⟩ := h
    refine ⟨_, (pss_cons (ps_set (i := 2) sc_l_breed_rows.nd rfl (by first | exact Or.inl rfl | exact Or.inr rfl) (pe_lst pa_nil))
      (pss_cons (ps_for PassesOwn.never rfl (pi_range1 (by rfl) T.f_range (pa_cons (pe_op op_add pe_int (pe_call (ok_l_next T) (hr.mono (by decide)) rfl T.g_l_next T.d_l_next.kp T.b_l_next .nil pass0 (pa_cons (pv 0) (pa_cons pe_int pa_nil)))) pa_nil)) (pg_name (i := 3) sc_l_breed_rows.nd rfl (by first | exact Or.inl rfl | exact Or.inr rfl)) (pss_cons (ps_set (i := 4) sc_l_breed_rows.nd rfl (by first | exact Or.inl rfl | exact Or.inr rfl) pe_int)
      (pss_cons (ps_set (i := 5) sc_l_breed_rows.nd rfl (by first | exact Or.inl rfl | exact Or.inr rfl) (pe_lst pa_nil))
      (pss_cons (ps_for PassesOwn.never rfl (pi_range1 (by rfl) T.f_range (pa_cons (pe_op op_add pe_int (pe_call (ok_l_next T) (hr.mono (by decide)) rfl T.g_l_next T.d_l_next.kp T.b_l_next .nil pass0 (pa_cons (pv 0) (pa_cons pe_int pa_nil)))) pa_nil)) (pg_name (i := 6) sc_l_breed_rows.nd rfl (by first | exact Or.inl rfl | exact Or.inr rfl)) (pss_cons (ps_expr (pe_bm PySem.F.plainAttrs_list PySem.F.slot_list_append PySem.F.type_list_append mt_append (pv 5) (pa_cons (pe_tup (pa_cons (pv 4) (pa_cons (pe_ix (ix_listK K rfl) (pv 1) (pe_call (ok_l_next T) (hr.mono (by decide)) rfl T.g_l_next T.d_l_next.kp T.b_l_next .nil pass0 (pa_cons (pv 0) (pa_cons (pe_callB call_len (by rfl) T.f_len PySem.boot_len (pa_cons (pv 1) pa_nil)) pa_nil))) (fun _ _ => rfl)) (pa_cons (pe_call (ok_l_next T) (hr.mono (by decide)) rfl T.g_l_next T.d_l_next.kp T.b_l_next .nil pass0 (pa_cons (pv 0) (pa_cons pe_int pa_nil))) pa_nil)))) pa_nil)))
      (pss_one (ps_set (i := 4) sc_l_breed_rows.nd rfl (by first | exact Or.inl rfl | exact Or.inr rfl) (pe_op op_add (pe_op op_add (pv 4) pe_int) (pe_call (ok_l_next T) (hr.mono (by decide)) rfl T.g_l_next T.d_l_next.kp T.b_l_next .nil pass0 (pa_cons (pv 0) (pa_cons pe_int pa_nil))))))))
      (pss_one (ps_expr (pe_bm PySem.F.plainAttrs_list PySem.F.slot_list_append PySem.F.type_list_append mt_append (pv 2) (pa_cons (pe_tup (pa_cons (pe_ix (ix_listK K rfl) (pv 1) (pv 3) (fun _ _ => rfl)) (pa_cons (pv 5) pa_nil))) pa_nil))))))))
      (pss_one (ps_ret (pv 2))))), ?_⟩
    refine ⟨by show 0 ≤ sizeLine; decide, fun l nll => ?_⟩
    generalize hh : upd H l _ = H1; obtain ⟨s1, hl⟩ := gen_new hh nll; clear hh
    have lc : l ≠ c := by
      obtain ⟨_, e⟩ := hs.lst
      exact (ne_of_none e nll).symm
    have lnl : l ≠ nl := (ne_of_none hnl nll).symm
    refine ⟨_, rfl, c, z, 3, rfl, hs.same s1, by omega, by decide, by decide, fun m H2 hm hs2 t2 => ⟨_, _, rfl, rfl, 1 + (m : Int), rfl, by omega, by omega, ?_⟩⟩
    have t02 : Stp [c] H [c] H2 := (Stp.grow s1).trans t2
    have hl2 := t2.same _ _ (hid_of hl (by simpa using lc))
    have em : (1 + (m : Int)).toNat = 1 + m := by omega
    have hnl2 := t02.same _ _ (hid_of hnl (by simpa using nlc))
    refine for_it walk_range (fun i σ H' => ∃ (brs : List (Str × List (Int × Str × Int))), ∃ ts x3 x4 x5 x6, σ = [some (.ref c), some (.ref nl), some (.ref l), x3, x4, x5, x6] ∧ SrcAt H' c (z + 1 + 20 * i) ∧ Stp [c, l] H2 [c, l] H' ∧ H' l = some (.lst (ts.map V.ref)) ∧ L2R (BrwAt (hid [c, l] H')) ts brs ∧ brs.map (·.1) = ns.take i ∧ ∀ b ∈ brs, GrsOk b.2)
      ⟨[], [], none, none, none, none, rfl, hs2, Stp.refl, hl2, .nil, rfl, nofun⟩ (fun _ _ _ _ _ => trivial) ?_ ?_
    · rintro i v σ H3 H4 hi ⟨brs, ts, x3, x4, x5, x6, rfl, hs3, t3, hl3, hts, hbn, hbg⟩ ⟨rfl, rfl⟩
      rw [em] at hi
      have nlM : nl ∉ [c, l] := by simp [nlc, lnl.symm]
      refine ⟨by show 0 ≤ sizeLine; decide, fun gl ngl => ?_⟩
      generalize hh : upd H4 gl _ = H5; obtain ⟨s5, hgl⟩ := gen_new hh ngl; clear hh
      have glc : gl ≠ c := by
        obtain ⟨_, e⟩ := hs3.lst
        exact (ne_of_none e ngl).symm
      have gll : gl ≠ l := (ne_of_none hl3 ngl).symm
      have hnl4 := t3.same _ _ (hid_of hnl2 nlM)
      have glnl : gl ≠ nl := (ne_of_none hnl4 ngl).symm
      refine ⟨_, rfl, c, _, 3, rfl, hs3.same s5, by omega, by decide, by decide, fun q H6 hq hs6 t6 => ⟨_, _, rfl, rfl, 1 + (q : Int), rfl, by omega, by omega, ?_⟩⟩
      have eq' : (1 + (q : Int)).toNat = 1 + q := by omega
      have hgl6 := t6.same _ _ (hid_of hgl (by simpa using glc))
      have hl6 := t6.same _ _ (hid_of (s5 _ _ hl3) (by simpa using lc))
      have hnl6 := t6.same _ _ (hid_of (s5 _ _ hnl4) (by simpa using nlc))
      have t46 : Stp [c] H4 [c] H6 := (Stp.grow s5).trans t6
      refine for_it walk_range (fun j σ H' => ∃ (rs : List (Int × Str × Int)), ∃ gts, ∃ lv : Int, ∃ y6, σ = [some (.ref c), some (.ref nl), some (.ref l), some (.int (0 + (i : Int))), some (.int lv), some (.ref gl), y6] ∧ SrcAt H' c (z + 2 + 20 * i + 4 * j) ∧ Stp [c, gl] H6 [c, gl] H' ∧ H' gl = some (.lst (gts.map V.ref)) ∧ L2R (GrAt H') gts rs ∧ rs.length = j ∧ (∀ r ∈ rs, GrOk r ∧ r.1 < lv) ∧ (∀ r, rs[0]? = some r → r.1 = 0) ∧ (∀ k r r', rs[k]? = some r → rs[k + 1]? = some r' → r.1 < r'.1) ∧ (j = 0 → lv = 0) ∧ 0 ≤ lv ∧ lv ≤ 300 * j)
        ⟨[], [], 0, _, rfl, hs6.mono (by omega), Stp.refl, hgl6, .nil, rfl, nofun, nofun, nofun, fun _ => rfl, by decide, by decide⟩ (fun _ _ _ _ _ => trivial) ?_ ?_
      · rintro j v σ H7 H8 hj ⟨rs, gts, lv, y6, rfl, hs7, t7, hgl7, hgr, rsl, rok, r0, rup, lv0, lv1, lv2⟩ ⟨rfl, rfl⟩
        rw [eq'] at hj
        have nlG : nl ∉ [c, gl] := by simp [nlc, glnl.symm]
        have hnl7 := t7.same _ _ (hid_of hnl6 nlG)
        refine ⟨_, rfl, .inl ⟨rfl, _, .of hgl7⟩, _, rfl, _, rfl, _, rfl, _, rfl, .ref nl, 3, rfl, .inl ⟨_, .of hnl7, by rw [List.length_map, nsl]⟩, c, _, 3, rfl, hs7, by omega, by decide, by decide, fun a H9 ha hs9 t9 => ?_⟩
        have hnl9 := t9.same _ _ (hid_of hnl7 (by simpa using nlc))
        obtain ⟨nm, hnm2⟩ : ∃ nm, ns[a]? = some nm := ⟨_, List.getElem?_eq_getElem (by omega)⟩
        refine ⟨nl, _, _, .str nm, rfl, rfl, .of hnl9, atI_nat (by rw [List.getElem?_map, hnm2]; rfl), _, rfl, c, _, 1001, rfl, hs9, by omega, by decide, by decide, fun b H10 hb hs10 t10 => ⟨by show 3 ≤ sizeLine; decide, fun t nt => ?_⟩⟩
        generalize hh : upd H10 t _ = H11; obtain ⟨s11, ht⟩ := gen_new hh nt; clear hh
        have t711 : Stp [c] H8 [c] H11 := t9.trans (t10.trans (Stp.grow s11))
        have hgl11 := t711.same _ _ (hid_of hgl7 (by simpa using glc))
        refine ⟨gl, _, _, rfl, rfl, hgl11, by rw [List.length_map, hgr.1, rsl]; exact Nat.lt_trans (m := 10) (by omega) (by decide), ?_⟩
        have s12 : Stp [c, gl] H11 [c, gl] (upd H11 gl (.lst (gts.map V.ref ++ [.ref t]))) := Stp.mut (by simp)
        have hgl12 : upd H11 gl (.lst (gts.map V.ref ++ [.ref t])) gl = some (.lst ((gts ++ [t]).map V.ref)) := by rw [upd_same, List.map_append]; rfl
        have hs12 : SrcAt (upd H11 gl (.lst (gts.map V.ref ++ [.ref t]))) c _ := (hs10.same s11).upd glc
        have gt8 : ∀ {d xs}, H8 d = some (.tup xs) → upd H11 gl (.lst (gts.map V.ref ++ [.ref t])) d = some (.tup xs) := fun {d xs} e => by
          have e11 := t711.tup (fun m hm => by rw [List.mem_singleton.mp hm]; exact hs7.lst) e
          rw [upd_ne (ne_of e11 hgl11 (by intro q; cases q))]
          exact e11
        have gt11 : upd H11 gl (.lst (gts.map V.ref ++ [.ref t])) t = some (.tup [.int lv, .str nm, .int b]) := by
          rw [upd_ne (ne_of ht hgl11 (by intro q; cases q))]
          exact ht
        generalize upd H11 gl (.lst (gts.map V.ref ++ [.ref t])) = H12 at s12 hgl12 hs12 gt8 gt11 ⊢
        refine ⟨_, rfl, _, _, rfl, rfl, _, rfl, c, _, 200, rfl, hs12, by omega, by decide, by decide, fun d H13 hd hs13 t13 => ⟨_, _, rfl, rfl, ?_⟩⟩
        have t12 : Stp [c, gl] H8 [c, gl] H12 := (t711.add2 gl).trans s12
        refine ⟨rs ++ [(lv, nm, (b : Int))], gts ++ [t], lv + 1 + (d : Int), _, rfl, hs13.mono (by omega), t7.trans (t12.trans (t13.add2 gl)), t13.same _ _ (hid_of hgl12 (by simpa using glc)), ?_, by rw [List.length_append, rsl]; rfl, fun r hr => ?_, fun r hr => ?_, fun k r r' h1 h2 => ?_, by omega, by omega, by omega⟩
        · have tt : ∀ {d xs}, H12 d = some (.tup xs) → H13 d = some (.tup xs) := fun e => t13.tup (fun m hm => by rw [List.mem_singleton.mp hm]; exact hs12.lst) e
          exact L2R.snoc (hgr.mono fun _ _ e => tt (gt8 e)) (tt gt11)
        · rcases List.mem_append.mp hr with hr | hr
          · exact ⟨(rok r hr).1, by have := (rok r hr).2; omega⟩
          · rw [List.mem_singleton.mp hr]
            exact ⟨⟨lv1, by show lv ≤ _; omega, hnm nm (List.mem_of_getElem? hnm2), by show (0 : Int) ≤ b; omega, by show (b : Int) ≤ 1000; omega⟩, by show lv < _; omega⟩
        · by_cases j0 : j = 0
          · have : rs = [] := List.length_eq_zero_iff.mp (by omega)
            rw [this] at hr
            have := Option.some.inj hr
            rw [← this]
            exact lv0 j0
          · rw [List.getElem?_append_left (by omega)] at hr
            exact r0 r hr
        · by_cases hk : k + 1 < rs.length
          · rw [List.getElem?_append_left (by omega)] at h1
            rw [List.getElem?_append_left hk] at h2
            exact rup k r r' h1 h2
          · by_cases hk2 : k + 1 = rs.length
            · rw [List.getElem?_append_left (by omega)] at h1
              rw [List.getElem?_append_right (by omega), hk2, Nat.sub_self] at h2
              have := Option.some.inj h2
              rw [← this]
              exact (rok r (List.mem_of_getElem? h1)).2
            · rw [List.getElem?_eq_none (by rw [List.length_append]; show rs.length + 1 ≤ k + 1; omega)] at h2
              cases h2
      · rintro σ H7 ⟨rs, gts, lv, y6, rfl, hs7, t7, hgl7, hgr, rsl, rok, r0, rup, lv0, lv1, lv2⟩
        rw [eq'] at rsl hs7
        have nlG : nl ∉ [c, gl] := by simp [nlc, glnl.symm]
        have hnl7 := t7.same _ _ (hid_of hnl6 nlG)
        have hl7 := t7.same _ _ (hid_of hl6 (by simp [lc, gll.symm]))
        obtain ⟨nm, hnm2⟩ : ∃ nm, ns[i]? = some nm := ⟨_, List.getElem?_eq_getElem (by omega)⟩
        refine ⟨_, rfl, .inl ⟨rfl, _, .of hl7⟩, _, rfl, _, rfl, nl, _, _, .str nm, rfl, rfl, .of hnl7, atI_of (by rw [List.getElem?_map, hnm2]; rfl) (by omega), _, rfl, by show 2 ≤ sizeLine; decide, fun t nt => ?_⟩
        generalize hh : upd H7 t _ = H8; obtain ⟨s8, ht⟩ := gen_new hh nt; clear hh
        have hl8 := s8 _ _ hl7
        have tsl : ts.length = i := by
          have := congrArg List.length hbn
          rw [List.length_map, List.length_take] at this
          rw [hts.1]; omega
        refine ⟨l, _, _, rfl, rfl, hl8, by rw [List.length_map, tsl]; exact Nat.lt_trans (m := 10) (by omega) (by decide), ?_⟩
        have t48 : Stp [c, l] H4 [c, l] H8 := by
          have : Stp [c] H4 [c, gl] H7 := ⟨fun a o e => t7.same _ _ (hid_of (t46.same _ _ e) (by
            obtain ⟨m, e⟩ := of_hid e
            simp only [List.mem_singleton] at m
            simp only [List.mem_cons, List.not_mem_nil, or_false, not_or]
            exact ⟨m, (ne_of_none e ngl)⟩)), fun m hm => by
              simp only [List.mem_cons, List.not_mem_nil, or_false] at hm ⊢
              rcases hm with rfl | rfl
              · exact .inl rfl
              · exact .inr ngl⟩
          exact ((this.drop (M2 := [c]) (by simp)).trans (Stp.grow s8)).add2 l
        have tl := t48.trans (Stp.mut (m := l) (o := .lst (ts.map V.ref ++ [.ref t])) (M := [c, l]) (by simp))
        have lM : l ∈ [c, l] := by simp
        refine ⟨brs ++ [(nm, rs)], ts ++ [t], _, _, _, _, rfl, ((hs7.same s8).upd lc).mono (by omega), t3.trans tl, by rw [upd_same, List.map_append]; rfl, ?_, ?_, fun b hb => ?_⟩
        · rw [hid_upd lM]
          refine L2R.snoc (hts.mono fun _ _ e => e.same t48.sub) ⟨gl, gts, hid_of ht ?_, hid_of (s8 _ _ hgl7) (by simp [glc, gll]), hgr.mono fun _ _ e => hid_of (s8 _ _ e) ?_⟩
          · obtain ⟨_, e⟩ := (hs7.same s8).lst
            simp only [List.mem_cons, List.not_mem_nil, or_false, not_or]
            exact ⟨ne_of ht e (by intro q; cases q), ne_of ht hl8 (by intro q; cases q)⟩
          · obtain ⟨_, e2⟩ := (hs7.same s8).lst
            simp only [List.mem_cons, List.not_mem_nil, or_false, not_or]
            exact ⟨ne_of (s8 _ _ e) e2 (by intro q; cases q), ne_of (s8 _ _ e) hl8 (by intro q; cases q)⟩
        · rw [List.map_append, hbn, List.take_add_one, hnm2]; rfl
        · rcases List.mem_append.mp hb with hb | hb
          · exact hbg b hb
          · rw [List.mem_singleton.mp hb]
            exact ⟨by show 1 ≤ rs.length; omega, by show rs.length ≤ 6; omega, fun r hr => (rok r hr).1, r0, rup⟩
    · rintro σ H3 ⟨brs, ts, x3, x4, x5, x6, rfl, hs3, t3, hl3, hts, hbn, hbg⟩
      rw [em] at hbn hs3
      have bl : brs.length = 1 + m := by
        have := congrArg List.length hbn
        rw [List.length_map, List.length_take] at this
        omega
      have hh : Stp [c] H [c] H3 := ⟨fun a o e => t3.same _ _ (hid_of (t02.same _ _ e) (by
        obtain ⟨m, e⟩ := of_hid e
        simp only [List.mem_singleton] at m
        simp only [List.mem_cons, List.not_mem_nil, or_false, not_or]
        exact ⟨m, ne_of_none e nll⟩)), fun m hm => .inl hm⟩
      have sub : Same (hid [c, l] H3) (hid [c] H3) := fun a o e => by
        obtain ⟨m, e⟩ := of_hid e
        simp only [List.mem_cons, List.not_mem_nil, or_false, not_or] at m
        exact hid_of e (by simpa using m.1)
      exact ⟨_, rfl, k brs ts l H3 (by omega) (by omega) (by rw [hbn, bl]) hbg (hs3.mono (by omega)) hh nll (hid_of hl3 (by simpa using lc)) (hts.mono fun _ _ e => e.same sub)⟩
end
end Rp


set_option maxRecDepth 100000
set_option maxHeartbeats 4000000
namespace Rp
open PySem PySem.Spec PyProof.Rows L2
def bdV (b : Bd) : List V := [.str b.name, .str b.breed, .str b.owner, .int b.roots, .int b.guess, .int b.offs, .str b.kind]
def BdrAt (I : Hp) (t : Addr) (b : Bd) : Prop := I t = some (.tup (bdV b))
theorem kind3_at (r : Nat) (h : r < 3) : ∃ sh : Bool, atI [V.str "roots", .str "roots", .str "shares"] (r : Int) = some (.str (if sh then "shares" else "roots")) := by
  match r, h with
  | 0, _ => exact ⟨false, atI_nat (j := 0) rfl⟩
  | 1, _ => exact ⟨false, atI_nat (j := 1) rfl⟩
  | 2, _ => exact ⟨true, atI_nat (j := 2) rfl⟩
theorem far_at (r : Nat) (h : r < 2) : ∃ n : Nat, atI [V.int 3, .int 12] (r : Int) = some (.int (n : Int)) ∧ 0 < n ∧ n ≤ 12 := by
  match r, h with
  | 0, _ => exact ⟨3, atI_nat (j := 0) rfl, by decide, by decide⟩
  | 1, _ => exact ⟨12, atI_nat (j := 1) rfl, by decide, by decide⟩
section
variable {P : Program} {w : World} {K : PySem.W.Frag} {mg : Str → Option Value} {base : Heap}
def sp_l_bed_rows (K : PySem.W.Frag) : Sp := fun vs H Q _ => ∃ (c nl bl ol : Addr) (z : Nat) (ns os : List Str) (brs : List (Str × List (Int × Str × Int))) (bts : List Addr), vs = [.ref c, .ref nl, .ref bl, .ref ol, .int ((3 : Nat) : Int)] ∧ SrcAt H c z ∧ z < 2000 ∧
  hid [c] H nl = some (.lst (ns.map V.str)) ∧ 3 ≤ ns.length ∧ (∀ x ∈ ns, IsNm x) ∧ hid [c] H ol = some (.lst (os.map V.str)) ∧ os.length = 3 ∧ (∀ x ∈ os, IsNm x) ∧ hid [c] H bl = some (.lst (bts.map V.ref)) ∧ L2R (BrwAt (hid [c] H)) bts brs ∧ 1 ≤ brs.length ∧ brs.length ≤ 3 ∧ (∀ b ∈ brs, IsNm b.1) ∧
  ∀ (bs : List Bd) ts l H', 1 ≤ bs.length → bs.length ≤ 3 → bs.map Bd.name = ns.take bs.length → (∀ b ∈ bs, b.Ok ∧ b.breed ∈ brs.map (·.1) ∧ b.owner ∈ os) → SrcAt H' c (z + 100) → Stp [c] H [c] H' → H l = none → hid [c] H' l = some (.lst (ts.map V.ref)) → L2R (BdrAt (hid [c] H')) ts bs → Q (.ref l) H'
theorem ok_l_bed_rows (T : Tx K mg) : FnOk P w K mg base CX0 2 (He.ga K "_law_bed_rows") (fdOf K dd_l_bed_rows) ["_law_source_here", "_law_names_here", "_law_breeds", "_law_owners", "_law_most"] (sp_l_bed_rows K) := by
  refine okF T.d_l_bed_rows sc_l_bed_rows (fun vs H Q E h => ?_) (fun cdv A outer s H vs Q E hr h => ?_)
  · obtain ⟨_, _, _, _, _, _, _, _, _, rfl, _⟩ := h; rfl
  · obtain ⟨c, nl, bl, ol, z, ns, os, brs, bts, rfl, hs, z1, hnl, nsl, hnm, hol, osl, hom, hbl, hbt, b1, b3, hbn, k⟩ := h
    refine ⟨_, (pss_cons (ps_set (i := 5) sc_l_bed_rows.nd rfl (by first | exact Or.inl rfl | exact Or.inr rfl) (pe_lst pa_nil))
      (pss_cons (ps_for PassesOwn.never rfl (pi_range1 (by rfl) T.f_range (pa_cons (pe_op op_add pe_int (pe_call (ok_l_next T) (hr.mono (by decide)) rfl T.g_l_next T.d_l_next.kp T.b_l_next .nil pass0 (pa_cons (pv 0) (pa_cons (pv 4) pa_nil)))) pa_nil)) (pg_name (i := 6) sc_l_bed_rows.nd rfl (by first | exact Or.inl rfl | exact Or.inr rfl)) (pss_cons (ps_set (i := 7) sc_l_bed_rows.nd rfl (by first | exact Or.inl rfl | exact Or.inr rfl) (pe_ix (ix_tupK K rfl) (pe_ix (ix_listK K rfl) (pv 2) (pe_call (ok_l_next T) (hr.mono (by decide)) rfl T.g_l_next T.d_l_next.kp T.b_l_next .nil pass0 (pa_cons (pv 0) (pa_cons (pe_callB call_len (by rfl) T.f_len PySem.boot_len (pa_cons (pv 2) pa_nil)) pa_nil))) (fun _ _ => rfl)) pe_int (fun _ _ => rfl)))
      (pss_cons (ps_set (i := 8) sc_l_bed_rows.nd rfl (by first | exact Or.inl rfl | exact Or.inr rfl) (pe_ix (ix_listK K rfl) (pv 3) (pe_call (ok_l_next T) (hr.mono (by decide)) rfl T.g_l_next T.d_l_next.kp T.b_l_next .nil pass0 (pa_cons (pv 0) (pa_cons (pe_callB call_len (by rfl) T.f_len PySem.boot_len (pa_cons (pv 3) pa_nil)) pa_nil))) (fun _ _ => rfl)))
      (pss_cons (ps_set (i := 9) sc_l_bed_rows.nd rfl (by first | exact Or.inl rfl | exact Or.inr rfl) (pe_ix (ix_listK K rfl) (pe_lst (pa_cons pe_str (pa_cons pe_str (pa_cons pe_str pa_nil)))) (pe_call (ok_l_next T) (hr.mono (by decide)) rfl T.g_l_next T.d_l_next.kp T.b_l_next .nil pass0 (pa_cons (pv 0) (pa_cons pe_int pa_nil))) (fun _ _ => rfl)))
      (pss_cons (ps_set (i := 10) sc_l_bed_rows.nd rfl (by first | exact Or.inl rfl | exact Or.inr rfl) (pe_op op_add pe_int (pe_call (ok_l_next T) (hr.mono (by decide)) rfl T.g_l_next T.d_l_next.kp T.b_l_next .nil pass0 (pa_cons (pv 0) (pa_cons (pe_ix (ix_listK K rfl) (pe_lst (pa_cons pe_int (pa_cons pe_int pa_nil))) (pe_call (ok_l_next T) (hr.mono (by decide)) rfl T.g_l_next T.d_l_next.kp T.b_l_next .nil pass0 (pa_cons (pv 0) (pa_cons pe_int pa_nil))) (fun _ _ => rfl)) pa_nil)))))
      (pss_cons (ps_set (i := 11) sc_l_bed_rows.nd rfl (by first | exact Or.inl rfl | exact Or.inr rfl) (pe_tup (pa_cons (pe_ix (ix_listK K rfl) (pv 1) (pv 6) (fun _ _ => rfl)) (pa_cons (pv 7) (pa_cons (pv 8) (pa_cons (pv 10) (pa_cons (pe_op op_add pe_int (pe_call (ok_l_next T) (hr.mono (by decide)) rfl T.g_l_next T.d_l_next.kp T.b_l_next .nil pass0 (pa_cons (pv 0) (pa_cons pe_int pa_nil)))) pa_nil)))))))
      (pss_one (ps_expr (pe_bm PySem.F.plainAttrs_list PySem.F.slot_list_append PySem.F.type_list_append mt_append (pv 5) (pa_cons (pe_op op_catT (pv 11) (pe_tup (pa_cons (pe_call (ok_l_next T) (hr.mono (by decide)) rfl T.g_l_next T.d_l_next.kp T.b_l_next .nil pass0 (pa_cons (pv 0) (pa_cons pe_int pa_nil))) (pa_cons (pv 9) pa_nil)))) pa_nil))))))))))
      (pss_one (ps_ret (pv 5))))), ?_⟩
    refine ⟨by show 0 ≤ sizeLine; decide, fun l nll => ?_⟩
    generalize hh : upd H l _ = H1; obtain ⟨s1, hl⟩ := gen_new hh nll; clear hh
    have lc : l ≠ c := by
      obtain ⟨_, e⟩ := hs.lst
      exact (ne_of_none e nll).symm
    refine ⟨_, rfl, _, rfl, c, z, 3, rfl, hs.same s1, by omega, by decide, by decide, fun m H2 hm hs2 t2 => ⟨_, _, rfl, rfl, 1 + (m : Int), rfl, by omega, by omega, ?_⟩⟩
    have t02 : Stp [c] H [c] H2 := (Stp.grow s1).trans t2
    have hl2 := t2.same _ _ (hid_of hl (by simpa using lc))
    have em : (1 + (m : Int)).toNat = 1 + m := by omega
    -- what was there stays all along
    have keep : ∀ {H'}, Stp [c, l] H2 [c, l] H' → Same (hid [c] H) (hid [c] H') := fun {H'} t a o e => by
      have e2 := t02.same _ _ e
      obtain ⟨m, e⟩ := of_hid e
      simp only [List.mem_singleton] at m
      exact hid_of (t.same _ _ (hid_of e2 (by
        simp only [List.mem_cons, List.not_mem_nil, or_false, not_or]
        exact ⟨m, ne_of_none e nll⟩))) (by simpa using m)
    refine for_it walk_range (fun i σ H' => ∃ (bs : List Bd), ∃ ts x6 x7 x8 x9 x10 x11, σ = [some (.ref c), some (.ref nl), some (.ref bl), some (.ref ol), some (.int ((3 : Nat) : Int)), some (.ref l), x6, x7, x8, x9, x10, x11] ∧ SrcAt H' c (z + 1 + 10 * i) ∧ Stp [c, l] H2 [c, l] H' ∧ H' l = some (.lst (ts.map V.ref)) ∧ L2R (BdrAt (hid [c, l] H')) ts bs ∧ bs.map Bd.name = ns.take i ∧ ∀ b ∈ bs, b.Ok ∧ b.breed ∈ brs.map (·.1) ∧ b.owner ∈ os)
      ⟨[], [], none, none, none, none, none, none, rfl, hs2, Stp.refl, hl2, .nil, rfl, nofun⟩ (fun _ _ _ _ _ => trivial) ?_ ?_
    · rintro i v σ H3 H4 hi ⟨bs, ts, x6, x7, x8, x9, x10, x11, rfl, hs3, t3, hl3, hts, hbn', hbg⟩ ⟨rfl, rfl⟩
      rw [em] at hi
      have k3 := (keep t3).trans hid_same
      have hbl3 := k3 _ _ hbl
      refine ⟨_, rfl, _, rfl, _, rfl, .ref bl, brs.length, rfl, .inl ⟨_, .of hbl3, by rw [List.length_map, hbt.1]⟩, c, _, brs.length, rfl, hs3, by omega, by omega, by omega, fun a H5 ha hs5 t5 => ?_⟩
      have t25 := t3.trans (t5.add2 l)
      have k5 := (keep t25).trans hid_same
      obtain ⟨br, hbr⟩ : ∃ br, brs[a]? = some br := ⟨_, List.getElem?_eq_getElem (by omega)⟩
      obtain ⟨bt, hbt2, gl, gts, e1, _, _⟩ := hbt.right hbr
      refine ⟨bl, _, _, .ref bt, rfl, rfl, .of (k5 _ _ hbl), atI_nat (by rw [List.getElem?_map, hbt2]; rfl), bt, _, _, .str br.1, rfl, rfl, .of (k5 _ _ e1), atI_nat (j := 0) rfl, ?_⟩
      refine ⟨_, rfl, _, rfl, _, rfl, .ref ol, 3, rfl, .inl ⟨_, .of (k5 _ _ hol), by rw [List.length_map, osl]⟩, c, _, 3, rfl, hs5, by omega, by decide, by decide, fun b H6 hb hs6 t6 => ?_⟩
      have t26 := t25.trans (t6.add2 l)
      have k6 := (keep t26).trans hid_same
      obtain ⟨ow, how⟩ : ∃ ow, os[b]? = some ow := ⟨_, List.getElem?_eq_getElem (by omega)⟩
      refine ⟨ol, _, _, .str ow, rfl, rfl, .of (k6 _ _ hol), atI_nat (by rw [List.getElem?_map, how]; rfl), ?_⟩
      -- kind
      refine ⟨by show 3 ≤ sizeLine; decide, fun kl nkl => ?_⟩
      generalize hh : upd H6 kl _ = H7; obtain ⟨s7, hkl⟩ := gen_new hh nkl; clear hh
      refine ⟨_, rfl, c, _, 3, rfl, hs6.same s7, by omega, by decide, by decide, fun d H8 hd hs8 t8 => ?_⟩
      have klc : kl ≠ c := by
        obtain ⟨_, e⟩ := hs6.lst
        exact (ne_of_none e nkl).symm
      have hkl8 := t8.same _ _ (hid_of hkl (by simpa using klc))
      obtain ⟨sh, hsh⟩ := kind3_at d hd
      refine ⟨kl, _, _, _, rfl, rfl, .of hkl8, hsh, ?_⟩
      have t28 := t26.trans (((Stp.grow s7).trans t8).add2 l)
      -- roots
      refine ⟨_, rfl, by show 2 ≤ sizeLine; decide, fun fl nfl => ?_⟩
      generalize hh : upd H8 fl _ = H9; obtain ⟨s9, hfl⟩ := gen_new hh nfl; clear hh
      refine ⟨_, rfl, c, _, 2, rfl, hs8.same s9, by omega, by decide, by decide, fun e H10 he hs10 t10 => ?_⟩
      have flc : fl ≠ c := by
        obtain ⟨_, e⟩ := hs8.lst
        exact (ne_of_none e nfl).symm
      have hfl10 := t10.same _ _ (hid_of hfl (by simpa using flc))
      obtain ⟨n, hn, n0, n1⟩ := far_at e he
      refine ⟨fl, _, _, _, rfl, rfl, .of hfl10, hn, c, _, n, rfl, hs10, by omega, n0, by omega, fun r H11 hr hs11 t11 => ⟨_, _, rfl, rfl, ?_⟩⟩
      have t211 := t28.trans (((Stp.grow s9).trans (t10.trans t11)).add2 l)
      have k11 := (keep t211).trans hid_same
      -- the row
      obtain ⟨nm, hnm2⟩ : ∃ nm, ns[i]? = some nm := ⟨_, List.getElem?_eq_getElem (by omega)⟩
      refine ⟨_, rfl, _, rfl, nl, _, _, .str nm, rfl, rfl, .of (k11 _ _ hnl), atI_of (by rw [List.getElem?_map, hnm2]; rfl) (by omega), _, rfl, _, rfl, _, rfl, _, rfl, c, _, 60, rfl, hs11, by omega, by decide, by decide, fun g H12 hg hs12 t12 => ⟨_, _, rfl, rfl, by show 5 ≤ sizeLine; decide, fun t nt => ?_⟩⟩
      generalize hh : upd H12 t _ = H13; obtain ⟨s13, ht⟩ := gen_new hh nt; clear hh
      have t213 := t211.trans ((t12.trans (Stp.grow s13)).add2 l)
      have hl13 : H13 l = some (.lst (ts.map V.ref)) := (t5.trans (t6.trans ((Stp.grow s7).trans (t8.trans ((Stp.grow s9).trans (t10.trans (t11.trans (t12.trans (Stp.grow s13))))))))).same _ _ (hid_of hl3 (by simpa using lc))
      refine ⟨_, rfl, .inl ⟨rfl, _, .of hl13⟩, _, rfl, _, rfl, c, _, 61, rfl, hs12.same s13, by omega, by decide, by decide, fun o H14 ho hs14 t14 => ⟨_, rfl, by show 2 ≤ sizeLine; decide, fun u nu => ?_⟩⟩
      generalize hh : upd H14 u _ = H15; obtain ⟨s15, hu2⟩ := gen_new hh nu; clear hh
      have ht15 := s15 _ _ (t14.tup (fun m hm => by rw [List.mem_singleton.mp hm]; exact (hs12.same s13).lst) ht)
      refine ⟨t, u, _, _, rfl, rfl, .of ht15, .of hu2, by simp, by show 7 ≤ sizeLine; decide, nofun, fun _ x nx => ?_⟩
      generalize hh : upd H15 x _ = H16; obtain ⟨s16, hx⟩ := gen_new hh nx; clear hh
      have hl16 : H16 l = some (.lst (ts.map V.ref)) := s16 _ _ (s15 _ _ (t14.same _ _ (hid_of hl13 (by simpa using lc))))
      have tsl : ts.length = i := by
        have := congrArg List.length hbn'
        rw [List.length_map, List.length_take] at this
        rw [hts.1]; omega
      refine ⟨l, _, _, rfl, rfl, hl16, by rw [List.length_map, tsl]; exact Nat.lt_trans (m := 10) (by omega) (by decide), ?_⟩
      have t416 : Stp [c, l] H4 [c, l] H16 := (t5.trans (t6.trans ((Stp.grow s7).trans (t8.trans ((Stp.grow s9).trans (t10.trans (t11.trans (t12.trans ((Stp.grow s13).trans (t14.trans ((Stp.grow s15).trans (Stp.grow s16)))))))))))).add2 l
      have lM : l ∈ [c, l] := by simp
      have hs16 := (hs14.same s15).same s16
      refine ⟨bs ++ [⟨nm, br.1, ow, 1 + r, 1 + (g : Int), (o : Int), sh⟩], ts ++ [x], _, _, _, _, _, _, rfl, (hs16.upd lc).mono (by omega), t3.trans (t416.trans (Stp.mut lM)), by rw [upd_same, List.map_append]; rfl, ?_, ?_, fun b hb => ?_⟩
      · rw [hid_upd lM]
        refine L2R.snoc (hts.mono fun _ _ e => t416.sub _ _ e) (hid_of ?_ ?_)
        · refine hx.trans ?_
          show _ = some (HO.tup [V.str nm, .str br.1, .str ow, .int ((1 + r : Nat) : Int), .int (1 + (g : Int)), .int o, .str (if sh then "shares" else "roots")])
          have : ((1 + r : Nat) : Int) = 1 + (r : Int) := by omega
          rw [this]
          rfl
        · obtain ⟨_, e⟩ := hs16.lst
          simp only [List.mem_cons, List.not_mem_nil, or_false, not_or]
          exact ⟨ne_of hx e (by intro q; cases q), ne_of hx hl16 (by intro q; cases q)⟩
      · rw [List.map_append, hbn', List.take_add_one, hnm2]; rfl
      · rcases List.mem_append.mp hb with hb | hb
        · exact hbg b hb
        · rw [List.mem_singleton.mp hb]
          refine ⟨⟨hnm nm (List.mem_of_getElem? hnm2), hbn br (List.mem_of_getElem? hbr), hom ow (List.mem_of_getElem? how), by show 1 ≤ 1 + r; omega, by show 1 + r ≤ 12; omega, by show (1 : Int) ≤ 1 + g; omega, by show 1 + (g : Int) ≤ 60; omega, by show (0 : Int) ≤ o; omega, by show (o : Int) ≤ 60; omega⟩, List.mem_map.mpr ⟨br, List.mem_of_getElem? hbr, rfl⟩, List.mem_of_getElem? how⟩
    · rintro σ H3 ⟨bs, ts, x6, x7, x8, x9, x10, x11, rfl, hs3, t3, hl3, hts, hbn', hbg⟩
      rw [em] at hbn' hs3
      have bl' : bs.length = 1 + m := by
        have := congrArg List.length hbn'
        rw [List.length_map, List.length_take] at this
        omega
      have hh : Stp [c] H [c] H3 := ⟨(keep t3).trans hid_same, fun m hm => .inl hm⟩
      have sub : Same (hid [c, l] H3) (hid [c] H3) := fun a o e => by
        obtain ⟨m, e⟩ := of_hid e
        simp only [List.mem_cons, List.not_mem_nil, or_false, not_or] at m
        exact hid_of e (by simpa using m.1)
      exact ⟨_, rfl, k bs ts l H3 (by omega) (by omega) (by rw [hbn', bl']) hbg (hs3.mono (by omega)) hh nll (hid_of hl3 (by simpa using lc)) (hts.mono fun _ _ e => sub _ _ e)⟩
end
end Rp


set_option maxRecDepth 100000
set_option maxHeartbeats 4000000
namespace Rp
open PySem PySem.Spec PyProof.Rows L2
theorem make_same {H H' : Hp} {x dx : Addr} {o' : HO} (nx : H x = none) (nd : H dx = none) (fr : ∀ c o, c ≠ x → upd (upd H dx (.own x)) x o' c = some o → H' c = some o) : Same H H' := fun c o e =>
  fr _ _ (ne_of_none e nx) (by rw [upd_ne (ne_of_none e nx), upd_ne (ne_of_none e nd)]; exact e)
theorem made_same {H : Hp} {x dx : Addr} {o' : HO} (nx : H x = none) (nd : H dx = none) : Same H (upd (upd H dx (.own x)) x o') := fun c o e => by
  rw [upd_ne (ne_of_none e nx), upd_ne (ne_of_none e nd)]; exact e
section
variable {P : Program} {w : World} {K : PySem.W.Frag} {mg : Str → Option Value} {base : Heap}
def sp_l_field (K : PySem.W.Frag) : Sp := fun vs H Q _ => ∃ (bl dl : Addr) (brs : List (Str × List (Int × Str × Int))) (bts : List Addr) (bs : List Bd) (ts : List Addr), vs = [.ref bl, .ref dl] ∧ H bl = some (.lst (bts.map V.ref)) ∧ L2R (BrwAt H) bts brs ∧ 1 ≤ brs.length ∧ brs.length ≤ 3 ∧
  (brs.map (·.1)).Nodup ∧ (∀ b ∈ brs, IsNm b.1 ∧ GrsOk b.2) ∧ H dl = some (.lst (ts.map V.ref)) ∧ L2R (BdrAt H) ts bs ∧ 1 ≤ bs.length ∧ bs.length ≤ 3 ∧ (bs.map Bd.name).Nodup ∧ (∀ b ∈ bs, b.Ok ∧ b.breed ∈ brs.map (·.1)) ∧
  ∀ f (fb : List (Bd × Addr)) H', fb.map (·.1) = bs → Same H H' → FieldAt K H' f fb → Q (.ref f) H'
theorem ok_l_field (T : Tx K mg) : FnOk P w K mg base CX0 7 (He.ga K "_law_field") (fdOf K dd_l_field) ["_law_breeds", "_law_beds"] (sp_l_field K) := by
  refine okF T.d_l_field sc_l_field (fun vs H Q E h => ?_) (fun cdv A outer s H vs Q E hr h => ?_)
  · obtain ⟨_, _, _, _, _, _, rfl, _⟩ := h; rfl
  · obtain ⟨bl, dl, brs, bts, bs, ts, rfl, hbl, hbt, b1, b3, bnd, bok, hdl, hts, d1, d3, dnd, dok, k⟩ := h
    refine ⟨_, (pss_cons (ps_setLc (i := 2) (own := [("_law_name", 3), ("_law_grades", 4)]) (g := gTup K 2 (gCons (gName 3) (gCons (gName 4) gNil))) (tt := tYes) rfl sc_l_field.nd rfl rfl (sw_true rfl rfl rfl (by decide +kernel)) (pi_list (pv 0)) (blkOk_by (own := [("_law_name", 3), ("_law_grades", 4)]) (N := N_l_field) (sc := defScope s_l_field) (by decide +kernel)) (fun _ _ _ _ _ => (pg_tup rfl (pgs_cons (pg_name (i := 3) sc_l_field.nd rfl (Or.inl rfl)) (pgs_cons (pg_name (i := 4) sc_l_field.nd rfl (Or.inl rfl)) pgs_nil)))) (fun _ _ _ _ _ => pts_nil) (fun _ _ _ _ _ => (pe_make T.mk_Breed (ok_Breed_init T) (hr.mono (by decide)) rfl T.g_Breed T.b_Breed_init .nil pass0 (pa_cons (pv 3) (pa_cons (pv 4) pa_nil)))))
      (pss_cons (ps_setLc (i := 5) (own := [("_law_row", 6)]) (g := gName 6) (tt := tYes) rfl sc_l_field.nd rfl rfl (sw_true rfl rfl rfl (by decide +kernel)) (pi_list (pv 1)) (blkOk_by (own := [("_law_row", 6)]) (N := N_l_field) (sc := defScope s_l_field) (by decide +kernel)) (fun _ _ _ _ _ => (pg_name (i := 6) sc_l_field.nd rfl (Or.inl rfl))) (fun _ _ _ _ _ => pts_nil) (fun _ _ _ _ _ => (pe_make T.mk_Bed (ok_Bed_init T) (hr.mono (by decide)) rfl T.g_Bed T.b_Bed_init .nil pass0 (pa_cons (pe_ix (ix_tupK K rfl) (pv 6) pe_int (fun _ _ => rfl)) (pa_cons (pe_ix (ix_tupK K rfl) (pv 6) pe_int (fun _ _ => rfl)) (pa_cons (pe_ix (ix_tupK K rfl) (pv 6) pe_int (fun _ _ => rfl)) (pa_cons (pe_ix (ix_tupK K rfl) (pv 6) pe_int (fun _ _ => rfl)) (pa_cons (pe_ix (ix_tupK K rfl) (pv 6) pe_int (fun _ _ => rfl)) (pa_cons (pe_ix (ix_tupK K rfl) (pv 6) pe_int (fun _ _ => rfl)) (pa_cons (pe_ix (ix_tupK K rfl) (pv 6) pe_int (fun _ _ => rfl)) pa_nil))))))))))
      (pss_one (ps_ret (pe_make T.mk_Field (ok_Field_init T) (hr.mono (by decide)) rfl T.g_Field T.b_Field_init .nil pass0 (pa_cons (pv 2) (pa_cons (pv 5) pa_nil))))))), ?_⟩
    refine ⟨_, rfl, bl, rfl, ⟨_, .of hbl⟩, fun D nD => ?_⟩
    refine lc_it walk_list (fun i H' => Same H H' ∧ ∃ as : List Addr, H' D = some (.lst (as.map V.ref)) ∧ L2R (BreedAt K H') as ((brs.map (·.1)).take i))
      ⟨same_new nD, [], upd_same, .nil⟩ (fun i H' _ z => z.1.seq (.of hbl)) ?_ ?_
    · rintro i y H1 H2 hi ⟨s1, as, hD, has⟩ ⟨rfl, hy⟩
      obtain ⟨t, ht, rfl⟩ := ref_at hy
      obtain ⟨b, hb, gl, gts, e1, e2, e3⟩ := hbt.left ht
      have bm := List.mem_of_getElem? hb
      refine ⟨t, _, rfl, .of (s1 _ _ e1), rfl, _, _, rfl, _, _, rfl, rfl, rfl, yes (iteT ⟨_, rfl, _, rfl, fun x dx nx nd ne => ?_⟩)⟩
      have s2 : Same H2 (upd (upd H2 dx (.own x)) x (.ins (A_Breed K) dx [])) := made_same nx nd
      have s02 := s1.trans s2
      refine ⟨x, dx, b.1, gl, gts, b.2, rfl, upd_same, (bok b bm).1, s02 _ _ e2, e3.mono fun _ _ z => s02 _ _ z, (bok b bm).2, fun H3 hbr fr => ⟨rfl, ?_⟩⟩
      have s3 : Same H2 H3 := make_same nx nd fr
      have hD3 := s3 _ _ hD
      have al : as.length = i := by
        rw [has.1, List.length_take, List.length_map]
        have := (List.getElem?_eq_some_iff.mp hb).1
        omega
      refine ⟨_, hD3, by rw [List.length_map, al]; have := (List.getElem?_eq_some_iff.mp hb).1; exact Nat.lt_trans (m := 10) (by omega) (by decide), same_mut (s1.trans s3) nD, as ++ [x], by rw [upd_same, List.map_append]; rfl, ?_⟩
      have up : ∀ {q n}, BreedAt K H3 q n → BreedAt K (upd H3 D (.lst (as.map V.ref ++ [.ref x]))) q n := fun ⟨d, g, e⟩ => ⟨d, g, by rw [upd_ne (ne_of e hD3 (by intro q; cases q))]; exact e⟩
      rw [List.take_add_one, List.getElem?_map, hb]
      exact L2R.snoc (has.mono fun _ _ e => up (e.same s3)) (up hbr)
    · rintro H1 ⟨s1, as, hD, has⟩
      have el : (brs.map (·.1)).take (bts.map V.ref).length = brs.map (·.1) := by
        rw [List.length_map, hbt.1]
        exact List.take_of_length_le (by rw [List.length_map]; exact Nat.le_refl _)
      rw [el] at has
      refine ⟨_, rfl, dl, rfl, ⟨_, s1.seq (.of hdl)⟩, fun D2 nD2 => ?_⟩
      refine lc_it walk_list (fun i H' => Same H1 H' ∧ ∃ ds : List Addr, H' D2 = some (.lst (ds.map V.ref)) ∧ L2R (BedAt K H') ds (bs.take i))
        ⟨same_new nD2, [], upd_same, .nil⟩ (fun i H' _ z => (s1.trans z.1).seq (.of hdl)) ?_ ?_
      · rintro i y H2 H3 hi ⟨s2, ds, hD2, hds⟩ ⟨rfl, hy⟩
        obtain ⟨t, ht, rfl⟩ := ref_at hy
        obtain ⟨b, hb, e1⟩ := hts.left ht
        have bm := List.mem_of_getElem? hb
        have e1 : H3 t = some (.tup (bdV b)) := (s1.trans s2) _ _ e1
        refine ⟨rfl, yes (iteT ?_)⟩
        refine ⟨_, rfl, t, _, _, _, rfl, rfl, .of e1, atI_nat (j := 0) rfl, _, rfl, t, _, _, _, rfl, rfl, .of e1, atI_nat (j := 1) rfl, _, rfl, t, _, _, _, rfl, rfl, .of e1, atI_nat (j := 2) rfl, _, rfl, t, _, _, _, rfl, rfl, .of e1, atI_nat (j := 3) rfl, _, rfl, t, _, _, _, rfl, rfl, .of e1, atI_nat (j := 4) rfl, _, rfl, t, _, _, _, rfl, rfl, .of e1, atI_nat (j := 5) rfl, _, rfl, t, _, _, _, rfl, rfl, .of e1, atI_nat (j := 6) rfl, fun x dx nx nd ne => ?_⟩
        refine ⟨x, dx, b, rfl, upd_same, (dok b bm).1, fun H4 hbd fr => ⟨rfl, ?_⟩⟩
        have s4 : Same H3 H4 := make_same nx nd fr
        have hD4 := s4 _ _ hD2
        have al : ds.length = i := by
          rw [hds.1, List.length_take]
          have := (List.getElem?_eq_some_iff.mp hb).1
          omega
        refine ⟨_, hD4, by rw [List.length_map, al]; have := (List.getElem?_eq_some_iff.mp hb).1; exact Nat.lt_trans (m := 10) (by omega) (by decide), same_mut (s2.trans s4) nD2, ds ++ [x], by rw [upd_same, List.map_append]; rfl, ?_⟩
        have up : ∀ {q n}, BedAt K H4 q n → BedAt K (upd H4 D2 (.lst (ds.map V.ref ++ [.ref x]))) q n := fun ⟨d, e⟩ => ⟨d, by rw [upd_ne (ne_of e hD4 (by intro q; cases q))]; exact e⟩
        rw [List.take_add_one, hb]
        exact L2R.snoc (hds.mono fun _ _ e => up (e.same s4)) (up hbd)
      · rintro H2 ⟨s2, ds, hD2, hds⟩
        have el2 : bs.take (ts.map V.ref).length = bs := by
          rw [List.length_map, hts.1]
          exact List.take_length
        rw [el2] at hds
        have ez1 : (bs.zip ds).map (·.1) = bs := List.map_fst_zip (by rw [hds.1]; exact Nat.le_refl _)
        have ez2 : (bs.zip ds).map (·.2) = ds := List.map_snd_zip (by rw [hds.1]; exact Nat.le_refl _)
        have mz : ∀ x ∈ bs.zip ds, x.1 ∈ bs ∧ BedAt K H2 x.2 x.1 := fun x hx => by
          obtain ⟨i, hi⟩ := List.getElem?_of_mem hx
          obtain ⟨z1, z2⟩ := List.getElem?_zip_eq_some.mp hi
          exact ⟨List.mem_of_getElem? z1, hds.2 i _ _ z2 z1⟩
        refine ⟨_, rfl, _, rfl, fun x dx nx nd ne => ?_⟩
        have s3 : Same H2 (upd (upd H2 dx (.own x)) x (.ins (A_Field K) dx [])) := made_same nx nd
        have zl : (bs.zip ds).length = bs.length := by rw [← ez1, List.length_map, ez1]
        refine ⟨x, dx, D, D2, as, brs.map fun x : Str × List (Int × Str × Int) => x.1, bs.zip ds, rfl, upd_same, s3 _ _ (s2 _ _ hD), has.mono fun _ _ e => (e.same s2).same s3, bnd, by rw [List.length_map]; exact b1, by rw [List.length_map]; omega, ?_, fun x hx => (mz x hx).2.same s3, fun x hx => (dok _ (mz x hx).1).1, ?_, by omega, by omega, fun x hx => (dok _ (mz x hx).1).2, fun H3 F fr => ⟨rfl, ?_⟩⟩
        · have e := congrArg (List.map V.ref) ez2
          rw [List.map_map] at e
          exact (s3 _ _ hD2).trans (congrArg (fun z => some (HO.lst z)) e.symm)
        · have e := congrArg (List.map Bd.name) ez1
          rw [List.map_map] at e
          exact e ▸ dnd
        · exact k x _ H3 ez1 (s1.trans (s2.trans (make_same nx nd fr))) F
/-- a row: a line's data -/
def rwV (r : Pr) (t : Addr) : List V := [.str "promise", .int r.num, .int r.mom, .str r.seller, .str r.buyer, .ref t, .int r.price, .str "flat", .str (goW r.stay), .int r.earnest]
def RwAt (K : PySem.W.Frag) (I : Hp) (a : Addr) : Ln → Prop
  | .pr r => ∃ t, I a = some (.tup (rwV r t)) ∧ ThAt K I t r.th
  | .sp n m b => I a = some (.tup [.str "spoil", .int n, .int m, .str b])
theorem RwAt.same {I I' : Hp} {a : Addr} {l : Ln} (h : RwAt K I a l) (s : Same I I') : RwAt K I' a l := by
  cases l with
  | pr r => obtain ⟨t, e1, e2⟩ := h; exact ⟨t, s _ _ e1, e2.same s⟩
  | sp n m b => exact s _ _ h
/-- a line that can be made -/
def LnOk : Ln → Prop
  | .pr r => r.Ok
  | .sp n m b => 1 ≤ n ∧ 0 ≤ m ∧ IsNm b
theorem kne7 : ¬ (("promise" : Str) = "spoil") := by decide +kernel
def sp_l_made (K : PySem.W.Frag) : Sp := fun vs H Q _ => ∃ (a : Addr) (l : Ln), vs = [.ref a] ∧ RwAt K H a l ∧ LnOk l ∧ ∀ p H', Same H H' → LnAt K H' p l → Q (.ref p) H'
theorem ok_l_made (T : Tx K mg) : FnOk P w K mg base CX0 7 (He.ga K "_law_made") (fdOf K dd_l_made) ["_law_row"] (sp_l_made K) := by
  refine okF T.d_l_made sc_l_made (fun vs H Q E h => ?_) (fun cdv A outer s H vs Q E hr h => ?_)
  · obtain ⟨_, _, rfl, _⟩ := h; rfl
  · obtain ⟨a, l, rfl, ha, ok, k⟩ := h
    refine ⟨_, (pss_cons (ps_if (pt_cmpR op_eq (pe_ix (ix_tupK K rfl) (pv 0) pe_int (fun _ _ => rfl)) pe_str (nomark _)) (pss_one (ps_ret (pe_make T.mk_Spoiling (ok_Spoiling_init T) (hr.mono (by decide)) rfl T.g_Spoiling T.b_Spoiling_init .nil pass0 (pa_cons (pe_ix (ix_tupK K rfl) (pv 0) pe_int (fun _ _ => rfl)) (pa_cons (pe_ix (ix_tupK K rfl) (pv 0) pe_int (fun _ _ => rfl)) (pa_cons (pe_ix (ix_tupK K rfl) (pv 0) pe_int (fun _ _ => rfl)) pa_nil)))))) pss_nil)
      (pss_one (ps_ret (pe_make T.mk_Promise (ok_Promise_init T) (hr.mono (by decide)) rfl T.g_Promise T.b_Promise_init .nil pass0 (pa_cons (pe_ix (ix_tupK K rfl) (pv 0) pe_int (fun _ _ => rfl)) (pa_cons (pe_ix (ix_tupK K rfl) (pv 0) pe_int (fun _ _ => rfl)) (pa_cons (pe_ix (ix_tupK K rfl) (pv 0) pe_int (fun _ _ => rfl)) (pa_cons (pe_ix (ix_tupK K rfl) (pv 0) pe_int (fun _ _ => rfl)) (pa_cons (pe_ix (ix_tupK K rfl) (pv 0) pe_int (fun _ _ => rfl)) (pa_cons (pe_ix (ix_tupK K rfl) (pv 0) pe_int (fun _ _ => rfl)) (pa_cons (pe_ix (ix_tupK K rfl) (pv 0) pe_int (fun _ _ => rfl)) (pa_cons (pe_ix (ix_tupK K rfl) (pv 0) pe_int (fun _ _ => rfl)) (pa_cons (pe_ix (ix_tupK K rfl) (pv 0) pe_int (fun _ _ => rfl)) pa_nil))))))))))))), ?_⟩
    cases l with
    | pr r =>
      obtain ⟨t, h1, ht⟩ := ha
      refine ⟨_, rfl, a, _, _, _, rfl, rfl, .of h1, atI_nat (j := 0) rfl, rfl, _, rfl, iteDn (vne kne7) ?_⟩
      refine ⟨_, rfl, a, _, _, _, rfl, rfl, .of h1, atI_nat (j := 1) rfl, _, rfl, a, _, _, _, rfl, rfl, .of h1, atI_nat (j := 2) rfl, _, rfl, a, _, _, _, rfl, rfl, .of h1, atI_nat (j := 3) rfl, _, rfl, a, _, _, _, rfl, rfl, .of h1, atI_nat (j := 4) rfl, _, rfl, a, _, _, _, rfl, rfl, .of h1, atI_nat (j := 5) rfl, _, rfl, a, _, _, _, rfl, rfl, .of h1, atI_nat (j := 6) rfl, _, rfl, a, _, _, _, rfl, rfl, .of h1, atI_nat (j := 7) rfl, _, rfl, a, _, _, _, rfl, rfl, .of h1, atI_nat (j := 8) rfl, _, rfl, a, _, _, _, rfl, rfl, .of h1, atI_nat (j := 9) rfl, fun x dx nx nd ne => ?_⟩
      refine ⟨x, dx, t, r, rfl, upd_same, ht.same (made_same nx nd), ok, fun H2 hp fr => ⟨rfl, ?_⟩⟩
      exact k x H2 (make_same nx nd fr) hp
    | sp n m b =>
      have h1 : H a = some (.tup [.str "spoil", .int n, .int m, .str b]) := ha
      refine ⟨_, rfl, a, _, _, _, rfl, rfl, .of h1, atI_nat (j := 0) rfl, rfl, _, rfl, iteD rfl ?_⟩
      refine ⟨_, rfl, a, _, _, _, rfl, rfl, .of h1, atI_nat (j := 1) rfl, _, rfl, a, _, _, _, rfl, rfl, .of h1, atI_nat (j := 2) rfl, _, rfl, a, _, _, _, rfl, rfl, .of h1, atI_nat (j := 3) rfl, fun x dx nx nd ne => ?_⟩
      refine ⟨x, dx, n, m, b, rfl, upd_same, ok.1, ok.2.1, ok.2.2, fun H2 hp fr => ⟨rfl, ?_⟩⟩
      exact k x H2 (make_same nx nd fr) hp
end
end Rp


set_option maxRecDepth 100000
set_option maxHeartbeats 4000000
namespace Rp
open PySem PySem.Spec PyProof.Rows L2
def ThgAt (I : Hp) (t : Addr) : Ky → Prop
  | .root b k => I t = some (.tup [.str "root", .str b, .int (k : Int)])
  | .offs b k => I t = some (.tup [.str "offsets", .str b, .int (k : Int)])
  | .share b => I t = some (.tup [.str "share", .str b, .non])
theorem ThgAt.same {I I' : Hp} {t : Addr} {y : Ky} (h : ThgAt I t y) (s : Same I I') : ThgAt I' t y := by cases y <;> exact s _ _ h
/-- a thing of the beds bs -/
def KyB (bs : List Bd) (y : Ky) : Prop := ∃ b ∈ bs, y.bed = b.name ∧ ((b.shares = true ∧ y = .share b.name) ∨ (b.shares = false ∧ inBed b y = true))
theorem kne8 : ¬ (("roots" : Str) = "shares") := by decide +kernel
section
variable {P : Program} {w : World} {K : PySem.W.Frag} {mg : Str → Option Value} {base : Heap}
def sp_l_things (K : PySem.W.Frag) : Sp := fun vs H Q _ => ∃ (dl : Addr) (bs : List Bd) (ts : List Addr), vs = [.ref dl] ∧ H dl = some (.lst (ts.map V.ref)) ∧ L2R (BdrAt H) ts bs ∧ 1 ≤ bs.length ∧ bs.length ≤ 3 ∧ (∀ b ∈ bs, b.Ok) ∧
  ∀ l us (ys : List Ky) H', Same H H' → H' l = some (.lst (us.map V.ref)) → L2R (ThgAt H') us ys → 1 ≤ ys.length → ys.length ≤ 100 → (∀ y ∈ ys, KyB bs y) → Q (.ref l) H'
theorem ok_l_things (T : Tx K mg) : FnOk P w K mg base CX0 1 (He.ga K "_law_things") (fdOf K dd_l_things) ["_law_beds"] (sp_l_things K) := by
  refine okF T.d_l_things sc_l_things (fun vs H Q E h => ?_) (fun cdv A outer s H vs Q E hr h => ?_)
  · obtain ⟨_, _, _, rfl, _⟩ := h; rfl
  · obtain ⟨dl, bs, ts, rfl, hdl, hts, d1, d3, dok, k⟩ := h
    refine ⟨_, (pss_cons (ps_set (i := 1) sc_l_things.nd rfl (by first | exact Or.inl rfl | exact Or.inr rfl) (pe_lst pa_nil))
      (pss_cons (ps_for PassesOwn.never rfl (pi_list (pv 0)) (pg_name (i := 2) sc_l_things.nd rfl (by first | exact Or.inl rfl | exact Or.inr rfl)) (pss_one (ps_if (pt_cmpR op_eq (pe_ix (ix_tupK K rfl) (pv 2) pe_int (fun _ _ => rfl)) pe_str (nomark _)) (pss_one (ps_set (i := 1) sc_l_things.nd rfl (by first | exact Or.inl rfl | exact Or.inr rfl) (pe_op op_cat (pv 1) (pe_op op_rep (pe_lst (pa_cons (pe_tup (pa_cons pe_str (pa_cons (pe_ix (ix_tupK K rfl) (pv 2) pe_int (fun _ _ => rfl)) (pa_cons pe_non pa_nil)))) pa_nil)) pe_int)))) (pss_one (ps_for PassesOwn.never rfl (pi_range1 (by rfl) T.f_range (pa_cons (pe_callB (call_min2 rfl) (by rfl) T.f_min (by decide +kernel) (pa_cons pe_int (pa_cons (pe_ix (ix_tupK K rfl) (pv 2) pe_int (fun _ _ => rfl)) pa_nil))) pa_nil)) (pg_name (i := 3) sc_l_things.nd rfl (by first | exact Or.inl rfl | exact Or.inr rfl)) (pss_one (ps_set (i := 1) sc_l_things.nd rfl (by first | exact Or.inl rfl | exact Or.inr rfl) (pe_op op_cat (pv 1) (pe_lst (pa_cons (pe_tup (pa_cons pe_str (pa_cons (pe_ix (ix_tupK K rfl) (pv 2) pe_int (fun _ _ => rfl)) (pa_cons (pe_op op_sub (pe_ix (ix_tupK K rfl) (pv 2) pe_int (fun _ _ => rfl)) (pv 3)) pa_nil)))) (pa_cons (pe_tup (pa_cons pe_str (pa_cons (pe_ix (ix_tupK K rfl) (pv 2) pe_int (fun _ _ => rfl)) (pa_cons (pe_op op_sub (pe_ix (ix_tupK K rfl) (pv 2) pe_int (fun _ _ => rfl)) (pv 3)) pa_nil)))) pa_nil)))))))))))
      (pss_one (ps_ret (pv 1))))), ?_⟩
    refine ⟨by show 0 ≤ sizeLine; decide, fun l nl => ?_⟩
    generalize hh : upd H l _ = H1; obtain ⟨s1, hl⟩ := gen_new hh nl; clear hh
    refine ⟨_, rfl, dl, rfl, ⟨_, .of (s1 _ _ hdl)⟩, ?_⟩
    refine for_it walk_list (fun i σ H' => ∃ l us, ∃ ys : List Ky, ∃ x2 x3, σ = [some (.ref dl), some (.ref l), x2, x3] ∧ Same H H' ∧ H' l = some (.lst (us.map V.ref)) ∧ L2R (ThgAt H') us ys ∧ ys.length ≤ 4 * i ∧ (0 < i → 1 ≤ ys.length) ∧ ∀ y ∈ ys, KyB bs y)
      ⟨l, [], [], none, none, rfl, s1, hl, .nil, Nat.le_refl _, fun h => absurd h (Nat.lt_irrefl _), nofun⟩ (fun i σ H' _ ⟨_, _, _, _, _, _, z, _⟩ => z.seq (.of hdl)) ?_ ?_
    · rintro i v σ H2 H3 hi ⟨l, us, ys, x2, x3, rfl, s2, hl2, hus, yl, y1, yb⟩ ⟨rfl, hy⟩
      obtain ⟨t, ht, rfl⟩ := ref_at hy
      obtain ⟨b, hb, e1⟩ := hts.left ht
      have bm := List.mem_of_getElem? hb
      have i3 : i < 3 := by have := (List.getElem?_eq_some_iff.mp hb).1; omega
      have e1 : H3 t = some (.tup (bdV b)) := s2 _ _ e1
      refine ⟨_, rfl, t, _, _, _, rfl, rfl, .of e1, atI_nat (j := 6) rfl, rfl, _, rfl, ?_⟩
      cases es : b.shares with
      | true =>
        refine iteD (congrArg V.str (kind_sh es)) ?_
        refine ⟨_, rfl, _, rfl, t, _, _, _, rfl, rfl, .of e1, atI_nat (j := 0) rfl, by show 3 ≤ sizeLine; decide, fun u nu => ?_⟩
        generalize hh : upd H3 u _ = H4; obtain ⟨s4, hu2⟩ := gen_new hh nu; clear hh
        refine ⟨by show 1 ≤ sizeLine; decide, fun q nq => ?_⟩
        generalize hh : upd H4 q _ = H5; obtain ⟨s5, hq⟩ := gen_new hh nq; clear hh
        refine ⟨q, 3, _, rfl, rfl, hq, by decide, by decide, (by show 1 * 3 ≤ sizeLine; decide), fun r nr => ?_⟩
        generalize hh : upd H5 r _ = H6; obtain ⟨s6, hr2⟩ := gen_new hh nr; clear hh
        have hr2 : H6 r = some (.lst [.ref u, .ref u, .ref u]) := hr2
        have hl6 := s6 _ _ (s5 _ _ (s4 _ _ hl2))
        refine ⟨l, r, _, _, rfl, rfl, hl6, hr2, by rw [List.length_map, hus.1]; exact Nat.le_trans (m := 20) (by show ys.length + 3 ≤ 20; omega) (by decide), fun n nn => ?_⟩
        generalize hh : upd H6 n _ = H7; obtain ⟨s7, hn⟩ := gen_new hh nn; clear hh
        have s37 := s4.trans (s5.trans (s6.trans s7))
        have hu7 : ThgAt H7 u (.share b.name) := s7 _ _ (s6 _ _ (s5 _ _ hu2))
        refine ⟨n, us ++ [u, u, u], ys ++ [.share b.name, .share b.name, .share b.name], _, _, rfl, s2.trans s37, by rw [List.map_append]; exact hn, ?_, by rw [List.length_append]; show ys.length + 3 ≤ _; omega, fun _ => by rw [List.length_append]; show 1 ≤ ys.length + 3; omega, fun y hy => ?_⟩
        · have := (((hus.mono fun _ _ e => e.same s37).snoc hu7).snoc hu7).snoc hu7
          rw [List.append_assoc, List.append_assoc, List.append_assoc, List.append_assoc] at this
          exact this
        · rcases List.mem_append.mp hy with hy | hy
          · exact yb y hy
          · have : y = .share b.name := by
              simp only [List.mem_cons, List.not_mem_nil, or_false] at hy
              rcases hy with h | h | h <;> exact h
            rw [this]
            exact ⟨b, bm, rfl, .inl ⟨es, rfl⟩⟩
      | false =>
        refine iteDn (by rw [kind_ro es]; exact vne kne8) ?_
        have r1 := (dok b bm).r1
        have r2 := (dok b bm).r2
        refine ⟨_, rfl, t, _, _, _, rfl, rfl, .of e1, atI_nat (j := 3) rfl, 2, (b.roots : Int), rfl, (if (b.roots : Int) < 2 then (b.roots : Int) else 2), rfl, by split <;> omega, by split <;> omega, ?_⟩
        have em : (if (b.roots : Int) < 2 then (b.roots : Int) else 2).toNat = min 2 b.roots := by split <;> omega
        refine for_it walk_range (fun j σ H' => ∃ l us, ∃ zs : List Ky, ∃ x3, σ = [some (.ref dl), some (.ref l), some (.ref t), x3] ∧ Same H H' ∧ H' l = some (.lst (us.map V.ref)) ∧ L2R (ThgAt H') us zs ∧ zs.length = ys.length + 2 * j ∧ ∀ y ∈ zs, KyB bs y)
          ⟨l, us, ys, _, rfl, s2, hl2, hus, rfl, yb⟩ (fun _ _ _ _ _ => trivial) ?_ ?_
        · rintro j v σ H4 H5 hj ⟨l, us, zs, x3, rfl, s4, hl4, hzs, zl, zb⟩ ⟨rfl, rfl⟩
          rw [em] at hj
          have ej : ((b.roots - j : Nat) : Int) = (b.roots : Int) - (0 + (j : Int)) := by omega
          have e1 : H5 t = some (.tup (bdV b)) := s4 _ _ ((hts.2 i t b ht hb))
          refine ⟨_, rfl, _, rfl, t, _, _, _, rfl, rfl, .of e1, atI_nat (j := 0) rfl, _, rfl, t, _, _, _, rfl, rfl, .of e1, atI_nat (j := 3) rfl, _, rfl, _, _, rfl, rfl, by show 3 ≤ sizeLine; decide, fun u nu => ?_⟩
          generalize hh : upd H5 u _ = H6; obtain ⟨s6, hu2⟩ := gen_new hh nu; clear hh
          have e2 := s6 _ _ e1
          refine ⟨_, rfl, t, _, _, _, rfl, rfl, .of e2, atI_nat (j := 0) rfl, _, rfl, t, _, _, _, rfl, rfl, .of e2, atI_nat (j := 3) rfl, _, rfl, _, _, rfl, rfl, by show 3 ≤ sizeLine; decide, fun u' nu' => ?_⟩
          generalize hh : upd H6 u' _ = H7; obtain ⟨s7, hu3⟩ := gen_new hh nu'; clear hh
          refine ⟨by show 2 ≤ sizeLine; decide, fun q nq => ?_⟩
          generalize hh : upd H7 q _ = H8; obtain ⟨s8, hq⟩ := gen_new hh nq; clear hh
          have hl8 := s8 _ _ (s7 _ _ (s6 _ _ hl4))
          refine ⟨l, q, _, _, rfl, rfl, hl8, hq, by rw [List.length_map, hzs.1]; exact Nat.le_trans (m := 40) (by show zs.length + 2 ≤ 40; omega) (by decide), fun n nn => ?_⟩
          generalize hh : upd H8 n _ = H9; obtain ⟨s9, hn⟩ := gen_new hh nn; clear hh
          have s59 := s6.trans (s7.trans (s8.trans s9))
          have a1 : ThgAt H9 u (.root b.name (b.roots - j)) := by
            have := s9 _ _ (s8 _ _ (s7 _ _ hu2))
            show H9 u = some (.tup [.str "root", .str b.name, .int ((b.roots - j : Nat) : Int)])
            rw [ej]
            exact this
          have a2 : ThgAt H9 u' (.offs b.name (b.roots - j)) := by
            have := s9 _ _ (s8 _ _ hu3)
            show H9 u' = some (.tup [.str "offsets", .str b.name, .int ((b.roots - j : Nat) : Int)])
            rw [ej]
            exact this
          refine ⟨n, us ++ [u, u'], zs ++ [.root b.name (b.roots - j), .offs b.name (b.roots - j)], _, rfl, s4.trans s59, by rw [List.map_append]; exact hn, ?_, by rw [List.length_append, zl]; show _ + 2 = _; omega, fun y hy => ?_⟩
          · have := ((hzs.mono fun _ _ e => e.same s59).snoc a1).snoc a2
            rw [List.append_assoc, List.append_assoc] at this
            exact this
          · rcases List.mem_append.mp hy with hy | hy
            · exact zb y hy
            · have h1 : 1 ≤ b.roots - j := by omega
              have h2 : b.roots - j ≤ b.roots := by omega
              simp only [List.mem_cons, List.not_mem_nil, or_false] at hy
              rcases hy with h | h
              · rw [h]; exact ⟨b, bm, rfl, .inr ⟨es, by simp [inBed, h1]⟩⟩
              · rw [h]; exact ⟨b, bm, rfl, .inr ⟨es, by simp [inBed, h1]⟩⟩
        · rintro σ H4 ⟨l, us, zs, x3, rfl, s4, hl4, hzs, zl, zb⟩
          rw [em] at zl
          exact ⟨l, us, zs, _, _, rfl, s4, hl4, hzs, by omega, fun _ => by omega, zb⟩
    · rintro σ H2 ⟨l, us, ys, x2, x3, rfl, s2, hl2, hus, yl, y1, yb⟩
      rw [List.length_map, hts.1] at yl y1
      exact ⟨_, rfl, k l us ys H2 s2 hl2 hus (y1 (by omega)) (by omega) yb⟩
end
end Rp


set_option maxRecDepth 100000
set_option maxHeartbeats 4000000
namespace Rp
open PySem PySem.Spec PyProof.Rows L2
theorem dgs {H : Hp} {d : Addr} {st : List (Key × V)} {x : Str} {y : V} (hd : H d = some (.dK st)) (v : valV st (Sum.inr x : Key) = some y) : DGet H d (.str x) (some y) := by
  have := DGet.k (k := Sum.inr x) hd
  rw [v] at this
  exact this
section
variable {P : Program} {w : World} {K : PySem.W.Frag} {mg : Str → Option Value} {base : Heap}
/-! ### the law's own state -/
def sp_l_back (K : PySem.W.Frag) : Sp := fun vs H Q _ => ∃ (d h pp b : Addr) (st : List (Key × V)) (bd : Bd) (kvs : List (List Key × V)) (pvs : List (Key × V)), vs = [.ref d, .ref b] ∧ H d = some (.dK st) ∧ valV st (Sum.inr ("held" : Str) : Key) = some (.ref h) ∧ valV st (Sum.inr ("parts" : Str) : Key) = some (.ref pp) ∧ d ≠ pp ∧
  H h = some (.dT kvs) ∧ H pp = some (.dK pvs) ∧ kvs.length ≤ 1000000 ∧ pvs.length ≤ 1000000 ∧ BdrAt H b bd ∧ bd.roots ≤ 12 ∧
  ∀ H' kvs' a, H' h = some (.dT kvs') → kvs'.length ≤ kvs.length + 24 → (∀ y, valV kvs' (keyOf y) = if inBed bd y = true then some (.str bd.owner) else valV kvs (keyOf y)) →
    H a = none → H' pp = some (.dK (putK pvs (.inr bd.name) (.ref a))) → H' a = some (.dK [(.inr bd.owner, .int 27720)]) →
    (∀ c o, c ≠ h → c ≠ pp → H c = some o → H' c = some o) → Q .non H'
theorem ok_l_back (T : Tx K mg) : FnOk P w K mg base CX0 1 (He.ga K "_law_back") (fdOf K dd_l_back) ["_law_state", "_law_row"] (sp_l_back K) := by
  refine okF T.d_l_back sc_l_back (fun vs H Q E h => ?_) (fun cdv A outer s H vs Q E hr h => ?_)
  · obtain ⟨_, _, _, _, _, _, _, _, rfl, _⟩ := h; rfl
  · obtain ⟨d, hh, pp, b, st, bd, kvs, pvs, rfl, hd, v1, v2, dpp, hhh, hpp, l1, l2, hb, r12, k⟩ := h
    have hu := hu_of hr
    refine ⟨_, (pss_cons (ps_asg (pv 1) (pg_tup rfl (pgs_cons (pg_name (i := 2) sc_l_back.nd rfl (by first | exact Or.inl rfl | exact Or.inr rfl)) (pgs_cons (pg_name (i := 3) sc_l_back.nd rfl (by first | exact Or.inl rfl | exact Or.inr rfl)) (pgs_cons (pg_name (i := 4) sc_l_back.nd rfl (by first | exact Or.inl rfl | exact Or.inr rfl)) (pgs_cons (pg_name (i := 5) sc_l_back.nd rfl (by first | exact Or.inl rfl | exact Or.inr rfl)) (pgs_cons (pg_name (i := 6) sc_l_back.nd rfl (by first | exact Or.inl rfl | exact Or.inr rfl)) (pgs_cons (pg_name (i := 7) sc_l_back.nd rfl (by first | exact Or.inl rfl | exact Or.inr rfl)) (pgs_cons (pg_name (i := 8) sc_l_back.nd rfl (by first | exact Or.inl rfl | exact Or.inr rfl)) pgs_nil)))))))))
      (pss_cons (ps_dput hu (pe_dget hu (pv 0) pe_str (fun _ _ => rfl)) (pv 2) (pe_disp (pps_cons (pv 4) pe_int pps_nil) (by rfl) (by rfl) (fun z => by cases z) (by decide)) rfl)
      (pss_one (ps_for PassesOwn.never rfl (pi_range2 (by rfl) T.f_range (pa_cons pe_int (pa_cons (pe_op op_add (pv 5) pe_int) pa_nil))) (pg_name (i := 9) sc_l_back.nd rfl (by first | exact Or.inl rfl | exact Or.inr rfl)) (pss_cons (ps_dput hu (pe_dget hu (pv 0) pe_str (fun _ _ => rfl)) (pe_tup (pa_cons pe_str (pa_cons (pv 2) (pa_cons (pv 9) pa_nil)))) (pv 4) rfl)
      (pss_one (ps_dput hu (pe_dget hu (pv 0) pe_str (fun _ _ => rfl)) (pe_tup (pa_cons pe_str (pa_cons (pv 2) (pa_cons (pv 9) pa_nil)))) (pv 4) rfl))))))), ?_⟩
    have sl : (1000000 : Nat) + 24 < sizeLine := by rw [sizeLine_eq]; decide
    have hb0 : H b = some (.tup (bdV bd)) := hb
    refine ⟨_, rfl, b, _, rfl, .of hb0, rfl, _, _, rfl, _, _, rfl, _, _, rfl, _, _, rfl, _, _, rfl, _, _, rfl, _, _, rfl, rfl, ?_⟩
    intro a na
    generalize hh : upd H a _ = H1; obtain ⟨s1, ha⟩ := gen_new hh na; clear hh
    refine ⟨_, rfl, ha, [(.inr bd.owner, .int 27720)], rfl, (by show 1 ≤ 15; decide), ?_⟩
    generalize e2 : upd H1 a _ = H2
    obtain ⟨ha2, f2⟩ := gen_upd e2
    clear e2
    have s2 : Same H H2 := fun c o e => f2 _ _ (ne_of_none e na) (s1 _ _ e)
    have ha2 : H2 a = some (.dK [(.inr bd.owner, .int 27720)]) := ha2
    clear f2 s1 ha
    refine ⟨_, rfl, _, _, rfl, dgs (s2 _ _ hd) v2, _, rfl, _, _, rfl, DPut.k (k := .inr bd.name) (s2 _ _ hpp) (by omega), ?_⟩
    have npp : a ≠ pp := (ne_of_none hpp na).symm
    generalize e3 : upd H2 pp _ = H3
    obtain ⟨hpp3, f3⟩ := gen_upd e3
    clear e3
    have f03 : ∀ c o, c ≠ pp → H c = some o → H3 c = some o := fun c o n e => f3 _ _ n (s2 _ _ e)
    have ha3 := f3 _ _ npp ha2
    have hh3 := f03 _ _ (ne_of hhh hpp (by intro q; cases q)) hhh
    have hd3 := f03 _ _ dpp hd
    clear f3
    refine ⟨_, rfl, _, _, rfl, rfl, 1, _, rfl, ⟨by decide, by decide, by omega, by omega⟩, ?_⟩
    refine for_it walk_range (fun i σ H' => ∃ kvs' x, σ = [some (.ref d), some (.ref b), some (.str bd.name), some (.str bd.breed), some (.str bd.owner), some (.int bd.roots), some (.int bd.guess), some (.int bd.offs), some (.str bd.kind), x] ∧ H' hh = some (.dT kvs') ∧ kvs'.length ≤ kvs.length + 2 * i ∧ (∀ y, valV kvs' (keyOf y) = if upTo bd i y = true then some (.str bd.owner) else valV kvs (keyOf y)) ∧ (∀ c o, c ≠ hh → H3 c = some o → H' c = some o))
      ⟨kvs, none, rfl, hh3, by omega, fun y => by rw [upTo_zero]; rfl, fun c o _ e => e⟩ (fun _ _ _ _ _ => trivial) ?_ ?_
    · rintro i z σ H4 H5 hi ⟨kvs', x, rfl, h4, len, val, fr⟩ ⟨rfl, rfl⟩
      have hi2 : i < 12 := by omega
      have dh : d ≠ hh := ne_of hd hhh (by intro q; cases q)
      have hd5 := fr _ _ dh hd3
      refine ⟨_, rfl, _, rfl, _, _, rfl, dgs hd5 v1, _, rfl, _, rfl, by show 3 ≤ sizeLine; decide, fun t nt => ?_⟩
      generalize hh : upd H5 t _ = H6; obtain ⟨s6, ht⟩ := gen_new hh nt; clear hh
      have ki : kV (.inl (((i + 1 : Nat) : Int))) = V.int (1 + (i : Int)) := by show V.int _ = _; congr 1; omega
      have ht1 : H6 t = some (.tup ((keyOf (.root bd.name (i + 1))).map kV)) := ht.trans (by show _ = some (HO.tup [.str "root", .str bd.name, kV (.inl (((i + 1 : Nat) : Int)))]); rw [ki])
      refine ⟨_, _, rfl, DPut.t (s6 _ _ h4) ht1 (by omega), ?_⟩
      generalize e7 : upd H6 hh _ = H7
      obtain ⟨h7, s7⟩ := gen_upd e7
      clear e7
      have hd7 := s7 _ _ dh (s6 _ _ hd5)
      refine ⟨_, rfl, _, rfl, _, _, rfl, dgs hd7 v1, _, rfl, _, rfl, by show 3 ≤ sizeLine; decide, fun t' nt' => ?_⟩
      generalize hh : upd H7 t' _ = H8; obtain ⟨s8, ht'⟩ := gen_new hh nt'; clear hh
      have ht2 : H8 t' = some (.tup ((keyOf (.offs bd.name (i + 1))).map kV)) := ht'.trans (by show _ = some (HO.tup [.str "offsets", .str bd.name, kV (.inl (((i + 1 : Nat) : Int)))]); rw [ki])
      have ll := length_putK kvs' (keyOf (.root bd.name (i + 1))) (.str bd.owner)
      have ll2 := length_putK (putK kvs' (keyOf (.root bd.name (i + 1))) (.str bd.owner)) (keyOf (.offs bd.name (i + 1))) (.str bd.owner)
      refine ⟨_, _, rfl, DPut.t (s8 _ _ h7) ht2 (by omega), ?_⟩
      refine ⟨_, _, rfl, upd_same, by omega, fun y => ?_, fun c o hc e => ?_⟩
      · rw [valV_put, valV_put, val y, upTo_succ]
        by_cases y2 : y = .offs bd.name (i + 1)
        · simp [y2]
        · by_cases y1 : y = .root bd.name (i + 1)
          · simp [y1]
          · have n1 : ¬ keyOf y = keyOf (.root bd.name (i + 1)) := fun e => y1 (keyOf_inj e)
            have n2 : ¬ keyOf y = keyOf (.offs bd.name (i + 1)) := fun e => y2 (keyOf_inj e)
            simp [y1, y2, n1, n2]
      · rw [upd_ne hc]
        exact s8 _ _ (s7 _ _ hc (s6 _ _ (fr _ _ hc e)))
    · rintro σ H4 ⟨kvs', x, rfl, h4, len, val, fr⟩
      have en : (((bd.roots : Int) + 1) - 1).toNat = bd.roots := by omega
      rw [en] at len val
      have nhk : ∀ {c z}, H3 c = some (.dK z) → H4 c = some (.dK z) := fun {c z} e => fr _ _ (ne_of e hh3 (by intro q; cases q)) e
      exact k H4 kvs' a h4 (by omega) (fun y => by rw [val y, upTo_all]) na (nhk hpp3) (nhk ha3) fun c o h1 h2 e => fr _ _ h1 (f03 _ _ h2 e)
end
end Rp


set_option maxRecDepth 100000
set_option maxHeartbeats 4000000
namespace Rp
open PySem PySem.Spec PyProof.Rows L2
theorem nodup_fst {α β : Type} : ∀ {l : List (α × β)} {x y : α × β}, (l.map (·.1)).Nodup → x ∈ l → y ∈ l → x.1 = y.1 → x = y
  | [], _, _, _, h, _, _ => by cases h
  | z :: r, x, y, nd, hx, hy, e => by
    rw [List.map_cons] at nd
    obtain ⟨n1, n2⟩ := List.nodup_cons.mp nd
    rcases List.mem_cons.mp hx with e1 | hx'
    · rcases List.mem_cons.mp hy with e2 | hy'
      · rw [e1, e2]
      · exact absurd (List.mem_map.mpr ⟨y, hy', by rw [← e, e1]⟩) n1
    · rcases List.mem_cons.mp hy with e2 | hy'
      · exact absurd (List.mem_map.mpr ⟨x, hx', by rw [e, e2]⟩) n1
      · exact nodup_fst n2 hx' hy' e
def uK (x : Str × Nat) : Key × V := ((Sum.inr x.1 : Key), V.int (x.2 : Int))
theorem uK_get (us : List (Str × Nat)) (n : Str) : (valV (us.map uK) (Sum.inr n : Key) = none ∧ getU us n = 0) ∨ valV (us.map uK) (Sum.inr n : Key) = some (.int (getU us n : Int)) := by
  induction us with
  | nil => exact .inl ⟨rfl, rfl⟩
  | cons x r ih =>
    rw [List.map_cons]
    by_cases e : x.1 = n
    · refine .inr ?_
      have : getU (x :: r) n = x.2 := by simp [getU, List.find?_cons, e]
      rw [this]
      exact valV_pos (by show (Sum.inr x.1 : Key) = _; rw [e])
    · have e2 : ¬ (uK x).1 = (Sum.inr n : Key) := fun z => e (Sum.inr.inj z)
      have : getU (x :: r) n = getU r n := by simp [getU, List.find?_cons, e]
      rw [this, valV_neg e2]
      exact ih
theorem uK_put (us : List (Str × Nat)) (n : Str) (u : Nat) : putK (us.map uK) (Sum.inr n : Key) (.int (u : Int)) = (putU us n u).map uK := by
  have ea : ((us.map uK).any fun kv => decide (kv.1 = (Sum.inr n : Key))) = us.any fun x => decide (x.1 = n) := by
    rw [List.any_map]
    congr 1
    funext x
    show decide ((Sum.inr x.1 : Key) = Sum.inr n) = decide (x.1 = n)
    rw [decide_eq_decide]
    exact ⟨Sum.inr.inj, congrArg Sum.inr⟩
  unfold putK putU
  rw [ea]
  by_cases c : (us.any fun x => decide (x.1 = n)) = true
  · rw [if_pos c, if_pos c, List.map_map, List.map_map]
    refine List.map_congr_left fun x _ => ?_
    show (if (Sum.inr x.1 : Key) = Sum.inr n then ((Sum.inr x.1 : Key), V.int (u : Int)) else uK x) = uK (if x.1 = n then (n, u) else x)
    by_cases e : x.1 = n
    · rw [if_pos (by rw [e]), if_pos e, e]; rfl
    · rw [if_neg (fun z => e (Sum.inr.inj z)), if_neg e]
  · rw [if_neg c, if_neg c, List.map_append]; rfl
def stL (h pp sp g v gn : Addr) : List (Key × V) := [(.inr "held", .ref h), (.inr "parts", .ref pp), (.inr "spoilt", .ref sp), (.inr "good", .ref g), (.inr "voids", .ref v), (.inr "gone", .ref gn)]
section
variable {h pp sp g v gn x : Addr}
theorem st_held : valV (stL h pp sp g v gn) (Sum.inr ("held" : Str) : Key) = some (.ref h) := by kernel_rfl
theorem st_parts : valV (stL h pp sp g v gn) (Sum.inr ("parts" : Str) : Key) = some (.ref pp) := by kernel_rfl
theorem st_spoilt : valV (stL h pp sp g v gn) (Sum.inr ("spoilt" : Str) : Key) = some (.ref sp) := by kernel_rfl
theorem st_good : valV (stL h pp sp g v gn) (Sum.inr ("good" : Str) : Key) = some (.ref g) := by kernel_rfl
theorem st_voids : valV (stL h pp sp g v gn) (Sum.inr ("voids" : Str) : Key) = some (.ref v) := by kernel_rfl
theorem st_gone : valV (stL h pp sp g v gn) (Sum.inr ("gone" : Str) : Key) = some (.ref gn) := by kernel_rfl
theorem put_gone : putK (stL h pp sp g v gn) (Sum.inr ("gone" : Str) : Key) (.ref x) = stL h pp sp g v x := by kernel_rfl
theorem put_good : putK (stL h pp sp g v gn) (Sum.inr ("good" : Str) : Key) (.ref x) = stL h pp sp x v gn := by kernel_rfl
end
structure LsW where
  h : Addr
  pp : Addr
  sp : Addr
  g : Addr
  v : Addr
  gn : Addr
  pl : List (Str × Addr)
  kvs : List (List Key × V)
  pvs : List (Key × V)
  svs : List (Key × V)
  es : List Addr
  vs : List Addr
def LEnt (I : Hp) (e : Addr) (x : Pr × List Ky) : Prop := ∃ la ks, I e = some (.tup [.int x.1.num, .str x.1.seller, .ref la, .str x.1.th.bed]) ∧ I la = some (.lst (ks.map V.ref)) ∧ L2R (KyAt I) ks x.2 ∧ ∀ y ∈ x.2, IsNm y.bed
theorem LEnt.same {I I' : Hp} {e : Addr} {x : Pr × List Ky} (h : LEnt I e x) (s : Same I I') : LEnt I' e x := let ⟨la, ks, h1, h2, h3, h4⟩ := h; ⟨la, ks, s _ _ h1, s _ _ h2, h3.mono fun _ _ z => s _ _ z, h4⟩
structure LsX (M : List Addr) (H : Hp) (d : Addr) (bs : List Bd) (s : SM) (n : Nat) (W : LsW) : Prop where
  m : M = [d, W.h, W.pp, W.sp, W.g, W.v, W.gn] ++ W.pl.map (·.2)
  nd : M.Nodup
  ob : H d = some (.dK (stL W.h W.pp W.sp W.g W.v W.gn))
  hh : H W.h = some (.dT W.kvs)
  hl : W.kvs.length ≤ 100 * n
  hv : ∀ y, (∃ b ∈ bs, inBed b y = true) → valV W.kvs (keyOf y) = some (.str (s.held y))
  hp : H W.pp = some (.dK W.pvs)
  hpl : W.pvs.length ≤ n
  pv : ∀ b ∈ bs, ∃ a, (b.name, a) ∈ W.pl ∧ valV W.pvs (Sum.inr b.name : Key) = some (.ref a) ∧ H a = some (.dK ((s.units b.name).map uK)) ∧ (s.units b.name).length ≤ 2 * n
  pn : (W.pl.map (·.1)).Nodup
  pd : ∀ x ∈ W.pl, ∃ z, H x.2 = some (.dK z)
  sp : H W.sp = some (.dK W.svs)
  sl : W.svs.length ≤ n
  sv : ∀ b, valV W.svs (Sum.inr b : Key) = (s.spoilt b).map V.int
  g : H W.g = some (.lst (W.es.map V.ref))
  gl : W.es.length + s.gone.length ≤ n
  ge : L2R (LEnt (hid M H)) W.es s.good
  v : H W.v = some (.lst (W.vs.map V.ref))
  vl : W.vs.length ≤ n
  ve : L2R (VdAt (hid M H)) W.vs s.voids
  gn : H W.gn = some (.lst (s.gone.map V.int))
  n1 : 1 ≤ n
section
variable {M : List Addr} {H H' : Hp} {d : Addr} {bs : List Bd} {s : SM} {n : Nat} {W : LsW}
theorem LsX.grow (X : LsX M H d bs s n W) (e : Same H H') : LsX M H' d bs s n W := by
  have e2 : Same (hid M H) (hid M H') := (Stp.grow e).sub
  exact ⟨X.m, X.nd, e _ _ X.ob, e _ _ X.hh, X.hl, X.hv, e _ _ X.hp, X.hpl, fun b hb => let ⟨a, h1, h2, h3, h4⟩ := X.pv b hb; ⟨a, h1, h2, e _ _ h3, h4⟩, X.pn, fun x hx => let ⟨z, q⟩ := X.pd x hx; ⟨z, e _ _ q⟩, e _ _ X.sp, X.sl, X.sv, e _ _ X.g, X.gl, X.ge.mono fun _ _ z => z.same e2, e _ _ X.v, X.vl, X.ve.mono fun _ _ z => e2 _ _ z, e _ _ X.gn, X.n1⟩
theorem LsX.mono {n' : Nat} (X : LsX M H d bs s n W) (e : n ≤ n') : LsX M H d bs s n' W :=
  ⟨X.m, X.nd, X.ob, X.hh, by have := X.hl; omega, X.hv, X.hp, by have := X.hpl; omega, fun b hb => let ⟨a, h1, h2, h3, h4⟩ := X.pv b hb; ⟨a, h1, h2, h3, by omega⟩, X.pn, X.pd, X.sp, by have := X.sl; omega, X.sv, X.g, by have := X.gl; omega, X.ge, X.v, by have := X.vl; omega, X.ve, X.gn, by have := X.n1; omega⟩
theorem LsX.mp (X : LsX M H d bs s n W) : d ∈ M ∧ W.h ∈ M ∧ W.pp ∈ M ∧ W.sp ∈ M ∧ W.g ∈ M ∧ W.v ∈ M ∧ W.gn ∈ M ∧ ∀ x ∈ W.pl, x.2 ∈ M := by
  have e := X.m
  refine ⟨by rw [e]; simp, by rw [e]; simp, by rw [e]; simp, by rw [e]; simp, by rw [e]; simp, by rw [e]; simp, by rw [e]; simp, fun x hx => ?_⟩
  rw [e]
  exact List.mem_append_right _ (List.mem_map.mpr ⟨x, hx, rfl⟩)
theorem LsX.ne (X : LsX M H d bs s n W) : (d ≠ W.pp ∧ d ≠ W.sp) ∧ W.pp ≠ W.sp ∧ W.g ≠ W.v ∧ W.g ≠ W.gn ∧ W.v ≠ W.gn ∧ (∀ x ∈ W.pl, x.2 ≠ W.pp ∧ x.2 ≠ W.sp ∧ x.2 ≠ d) ∧ (W.pl.map (·.2)).Nodup := by
  have nd := X.nd
  rw [X.m, List.nodup_append] at nd
  obtain ⟨h1, h2, h3⟩ := nd
  simp only [List.nodup_cons, List.mem_cons, List.not_mem_nil, not_or, or_false] at h1
  refine ⟨⟨h1.1.2.1, h1.1.2.2.1⟩, h1.2.2.1.1, h1.2.2.2.2.1.1, h1.2.2.2.2.1.2, h1.2.2.2.2.2.1, fun x hx => ?_, h2⟩
  have m : x.2 ∈ W.pl.map (·.2) := List.mem_map.mpr ⟨x, hx, rfl⟩
  exact ⟨fun e => h3 W.pp (by simp) _ m e.symm, fun e => h3 W.sp (by simp) _ m e.symm, fun e => h3 d (by simp) _ m e.symm⟩
theorem LsX.at_ (X : LsX M H d bs s n W) {m : Addr} (h : m ∈ M) : (∃ z, H m = some (.dT z)) ∨ (∃ z, H m = some (.dK z)) ∨ ∃ z, H m = some (.lst z) := by
  rw [X.m, List.mem_append] at h
  rcases h with h | h
  · simp only [List.mem_cons, List.not_mem_nil, or_false] at h
    rcases h with rfl | rfl | rfl | rfl | rfl | rfl | rfl
    · exact .inr (.inl ⟨_, X.ob⟩)
    · exact .inl ⟨_, X.hh⟩
    · exact .inr (.inl ⟨_, X.hp⟩)
    · exact .inr (.inl ⟨_, X.sp⟩)
    · exact .inr (.inr ⟨_, X.g⟩)
    · exact .inr (.inr ⟨_, X.v⟩)
    · exact .inr (.inr ⟨_, X.gn⟩)
  · obtain ⟨x, hx, rfl⟩ := List.mem_map.mp h
    exact .inr (.inl (X.pd x hx))
theorem LsX.notM (X : LsX M H d bs s n W) {t : Addr} (h : H t = none) : t ∉ M := fun m => by
  rcases X.at_ m with ⟨_, e⟩ | ⟨_, e⟩ | ⟨_, e⟩ <;> rw [h] at e <;> cases e
theorem LsX.tupM (X : LsX M H d bs s n W) {t : Addr} {xs : List V} (h : H t = some (.tup xs)) : hid M H t = some (.tup xs) := hid_of h fun m => by
  rcases X.at_ m with ⟨_, e⟩ | ⟨_, e⟩ | ⟨_, e⟩ <;> rw [h] at e <;> cases e
theorem LsX.setUnits (X : LsX M H d bs s n W) {b : Str} {da : Addr} {us' : List (Str × Nat)} (hb : (b, da) ∈ W.pl) (l1 : us'.length ≤ 2 * n) :
    LsX M (upd H da (.dK (us'.map uK))) d bs { s with units := fun m => if m = b then us' else s.units m } n W := by
  obtain ⟨n0, n1, n2, n3, n4, n5, n6⟩ := X.ne
  have hm := X.mp.2.2.2.2.2.2.2 _ hb
  obtain ⟨z, hz⟩ := X.pd _ hb
  have hz : H da = some (.dK z) := hz
  have oth : ∀ {c o}, H c = some o → (∀ z, o ≠ .dK z) → upd H da (.dK (us'.map uK)) c = some o := fun {c o} e q => by rw [upd_ne (ne_of e hz (q _))]; exact e
  refine ⟨X.m, X.nd, ?_, oth X.hh (by intros; nofun), X.hl, X.hv, ?_, X.hpl, fun x hx => ?_, X.pn, fun x hx => ?_, ?_, X.sl, X.sv, oth X.g (by intros; nofun), X.gl, by rw [hid_upd hm]; exact X.ge, oth X.v (by intros; nofun), X.vl, by rw [hid_upd hm]; exact X.ve, oth X.gn (by intros; nofun), X.n1⟩
  · rw [upd_ne (n5 _ hb).2.2.symm]; exact X.ob
  · rw [upd_ne (n5 _ hb).1.symm]; exact X.hp
  · obtain ⟨a, h1, h2, h3, h4⟩ := X.pv x hx
    refine ⟨a, h1, h2, ?_⟩
    by_cases e : x.name = b
    · have ea : (b, da) = (x.name, a) := by
        have p1 := X.pn
        refine nodup_fst p1 hb h1 e.symm
      have ea := (Prod.mk.inj ea).2
      subst ea
      rw [upd_same]
      show some (HO.dK (us'.map uK)) = some (HO.dK ((if x.name = b then us' else s.units x.name).map uK)) ∧ (if x.name = b then us' else s.units x.name).length ≤ 2 * n
      rw [if_pos e]
      exact ⟨rfl, l1⟩
    · have ea : a ≠ da := fun q => e (congrArg Prod.fst (nodup_snd n6 h1 hb q))
      rw [upd_ne ea]
      show H a = some (HO.dK ((if x.name = b then us' else s.units x.name).map uK)) ∧ (if x.name = b then us' else s.units x.name).length ≤ 2 * n
      rw [if_neg e]
      exact ⟨h3, h4⟩
  · by_cases e : x.2 = da
    · exact ⟨us'.map uK, by rw [e]; exact upd_same⟩
    · obtain ⟨z, q⟩ := X.pd x hx
      exact ⟨z, by rw [upd_ne e]; exact q⟩
  · rw [upd_ne (n5 _ hb).2.1.symm]; exact X.sp
theorem LsX.setHeld (X : LsX M H d bs s n W) {kvs' : List (List Key × V)} {held' : Ky → Str} (l1 : kvs'.length ≤ 100 * n) (hv : ∀ y, (∃ b ∈ bs, inBed b y = true) → valV kvs' (keyOf y) = some (.str (held' y))) :
    LsX M (upd H W.h (.dT kvs')) d bs { s with held := held' } n { W with kvs := kvs' } := by
  have hm := X.mp.2.1
  have hz := X.hh
  have oth : ∀ {c o}, H c = some o → (∀ z, o ≠ .dT z) → upd H W.h (.dT kvs') c = some o := fun {c o} e q => by rw [upd_ne (ne_of e hz (q _))]; exact e
  exact ⟨X.m, X.nd, oth X.ob (by intros; nofun), upd_same, l1, hv, oth X.hp (by intros; nofun), X.hpl, fun x hx => let ⟨a, h1, h2, h3, h4⟩ := X.pv x hx; ⟨a, h1, h2, oth h3 (by intros; nofun), h4⟩, X.pn, fun x hx => let ⟨z, q⟩ := X.pd x hx; ⟨z, oth q (by intros; nofun)⟩, oth X.sp (by intros; nofun), X.sl, X.sv, oth X.g (by intros; nofun), X.gl, by rw [hid_upd hm]; exact X.ge, oth X.v (by intros; nofun), X.vl, by rw [hid_upd hm]; exact X.ve, oth X.gn (by intros; nofun), X.n1⟩
theorem LsX.addGood (X : LsX M H d bs s n W) {e : Addr} {en : Pr × List Ky} (he : LEnt (hid M H) e en) :
    LsX M (upd H W.g (.lst ((W.es ++ [e]).map V.ref))) d bs { s with good := s.good ++ [en] } (n + 1) { W with es := W.es ++ [e] } := by
  obtain ⟨n0, n1, n2, n3, n4, n5, n6⟩ := X.ne
  have hm := X.mp.2.2.2.2.1
  have hz := X.g
  have oth : ∀ {c o}, H c = some o → (∀ z, o ≠ .lst z) → upd H W.g (.lst ((W.es ++ [e]).map V.ref)) c = some o := fun {c o} e q => by rw [upd_ne (ne_of e hz (q _))]; exact e
  refine ⟨X.m, X.nd, oth X.ob (by intros; nofun), oth X.hh (by intros; nofun), by have := X.hl; show W.kvs.length ≤ _; omega, X.hv, oth X.hp (by intros; nofun), by have := X.hpl; show W.pvs.length ≤ _; omega, fun x hx => let ⟨a, h1, h2, h3, h4⟩ := X.pv x hx; ⟨a, h1, h2, oth h3 (by intros; nofun), by show (s.units x.name).length ≤ _; omega⟩, X.pn, fun x hx => let ⟨z, q⟩ := X.pd x hx; ⟨z, oth q (by intros; nofun)⟩, oth X.sp (by intros; nofun), by have := X.sl; show W.svs.length ≤ _; omega, X.sv, upd_same, ?_, by rw [hid_upd hm]; exact X.ge.snoc he, ?_, by have := X.vl; show W.vs.length ≤ _; omega, by rw [hid_upd hm]; exact X.ve, ?_, by omega⟩
  · show (W.es ++ [e]).length + s.gone.length ≤ _
    rw [List.length_append]
    have := X.gl
    simp
    omega
  · show upd H W.g _ W.v = _
    rw [upd_ne n2.symm]; exact X.v
  · show upd H W.g _ W.gn = _
    rw [upd_ne n3.symm]; exact X.gn
theorem LsX.addVoid (X : LsX M H d bs s n W) {t : Addr} {row : Int × Str × Option Int} (ht : VdAt (hid M H) t row) :
    LsX M (upd H W.v (.lst ((W.vs ++ [t]).map V.ref))) d bs { s with voids := s.voids ++ [row] } (n + 1) { W with vs := W.vs ++ [t] } := by
  obtain ⟨n0, n1, n2, n3, n4, n5, n6⟩ := X.ne
  have hm := X.mp.2.2.2.2.2.1
  have hz := X.v
  have oth : ∀ {c o}, H c = some o → (∀ z, o ≠ .lst z) → upd H W.v (.lst ((W.vs ++ [t]).map V.ref)) c = some o := fun {c o} e q => by rw [upd_ne (ne_of e hz (q _))]; exact e
  refine ⟨X.m, X.nd, oth X.ob (by intros; nofun), oth X.hh (by intros; nofun), by have := X.hl; show W.kvs.length ≤ _; omega, X.hv, oth X.hp (by intros; nofun), by have := X.hpl; show W.pvs.length ≤ _; omega, fun x hx => let ⟨a, h1, h2, h3, h4⟩ := X.pv x hx; ⟨a, h1, h2, oth h3 (by intros; nofun), by show (s.units x.name).length ≤ _; omega⟩, X.pn, fun x hx => let ⟨z, q⟩ := X.pd x hx; ⟨z, oth q (by intros; nofun)⟩, oth X.sp (by intros; nofun), by have := X.sl; show W.svs.length ≤ _; omega, X.sv, ?_, by have := X.gl; show W.es.length + s.gone.length ≤ _; omega, by rw [hid_upd hm]; exact X.ge, upd_same, ?_, by rw [hid_upd hm]; exact X.ve.snoc ht, ?_, by omega⟩
  · show upd H W.v _ W.g = _
    rw [upd_ne n2]; exact X.g
  · show (W.vs ++ [t]).length ≤ _
    rw [List.length_append]
    have := X.vl
    simp
    omega
  · show upd H W.v _ W.gn = _
    rw [upd_ne n4.symm]; exact X.gn
theorem LsX.setSpoilt (X : LsX M H d bs s n W) (b : Str) (num : Int) :
    LsX M (upd H W.sp (.dK (putK W.svs (.inr b) (.int num)))) d bs { s with spoilt := fun m => if m = b then some num else s.spoilt m } (n + 1) { W with svs := putK W.svs (.inr b) (.int num) } := by
  obtain ⟨n0, n1, n2, n3, n4, n5, n6⟩ := X.ne
  have hm := X.mp.2.2.2.1
  have hz := X.sp
  have oth : ∀ {c o}, H c = some o → (∀ z, o ≠ .dK z) → upd H W.sp (.dK (putK W.svs (.inr b) (.int num))) c = some o := fun {c o} e q => by rw [upd_ne (ne_of e hz (q _))]; exact e
  have ll := length_putK W.svs (Sum.inr b : Key) (.int num)
  refine ⟨X.m, X.nd, ?_, oth X.hh (by intros; nofun), by have := X.hl; show W.kvs.length ≤ _; omega, X.hv, ?_, by have := X.hpl; show W.pvs.length ≤ _; omega, fun x hx => ?_, X.pn, fun x hx => ?_, upd_same, ?_, fun c => ?_, oth X.g (by intros; nofun), by have := X.gl; show W.es.length + s.gone.length ≤ _; omega, by rw [hid_upd hm]; exact X.ge, oth X.v (by intros; nofun), by have := X.vl; show W.vs.length ≤ _; omega, by rw [hid_upd hm]; exact X.ve, oth X.gn (by intros; nofun), by omega⟩
  · rw [upd_ne n0.2]; exact X.ob
  · show upd H W.sp _ W.pp = _
    rw [upd_ne n1]; exact X.hp
  · obtain ⟨a, h1, h2, h3, h4⟩ := X.pv x hx
    refine ⟨a, h1, h2, by rw [upd_ne (n5 _ h1).2.1]; exact h3, ?_⟩
    show (s.units x.name).length ≤ _
    omega
  · obtain ⟨z, q⟩ := X.pd x hx
    exact ⟨z, by rw [upd_ne (n5 _ hx).2.1]; exact q⟩
  · show (putK W.svs (.inr b) (.int num)).length ≤ n + 1
    have := X.sl
    omega
  · show valV (putK W.svs (.inr b) (.int num)) (Sum.inr c : Key) = (if c = b then some num else s.spoilt c).map V.int
    rw [valV_put]
    by_cases e : c = b
    · rw [if_pos (by rw [e]), if_pos e]; rfl
    · rw [if_neg (fun z => e (Sum.inr.inj z)), if_neg e]; exact X.sv c
end
end Rp


set_option maxRecDepth 100000
set_option maxHeartbeats 4000000
namespace Rp
open PySem PySem.Spec PyProof.Rows L2
theorem bd_inj {bs : List Bd} {x y : Bd} (nd : (bs.map Bd.name).Nodup) (hx : x ∈ bs) (hy : y ∈ bs) (e : x.name = y.name) : x = y := by
  induction bs with
  | nil => cases hx
  | cons z r ih =>
    rw [List.map_cons] at nd
    obtain ⟨n1, n2⟩ := List.nodup_cons.mp nd
    rcases List.mem_cons.mp hx with e1 | hx'
    · rcases List.mem_cons.mp hy with e2 | hy'
      · rw [e1, e2]
      · exact absurd (List.mem_map.mpr ⟨y, hy', by rw [← e, e1]⟩) n1
    · rcases List.mem_cons.mp hy with e2 | hy'
      · exact absurd (List.mem_map.mpr ⟨x, hx', by rw [e, e2]⟩) n1
      · exact ih n2 hx' hy'
section
variable {M : List Addr} {H H' : Hp} {d : Addr} {bs : List Bd} {s : SM} {n : Nat} {W : LsW}
theorem LsX.cut (X : LsX M H d bs s n W) {g' gn' : Addr} {es' : List Addr} {good' : List (Pr × List Ky)} {add : List Int} (hg : H g' = none) (hgn : H gn' = none) (hne : g' ≠ gn') (fr : ∀ c o, c ≠ d → H c = some o → H' c = some o)
    (ob : H' d = some (.dK (stL W.h W.pp W.sp g' W.v gn'))) (gn : H' gn' = some (.lst ((s.gone ++ add).map V.int))) (g : H' g' = some (.lst (es'.map V.ref)))
    (gl : es'.length + add.length ≤ W.es.length) (ge : L2R (LEnt (hid M H)) es' good') :
    ∃ M' W', LsX M' H' d bs { s with gone := s.gone ++ add, good := good' } n W' ∧ Stp M H M' H' ∧ W' = { W with g := g', gn := gn', es := es' } := by
  obtain ⟨n0, n1, n2, n3, n4, n5, n6⟩ := X.ne
  have gM := X.notM hg
  have gnM := X.notM hgn
  have mp := X.mp
  have nd1 : ([d, W.h, W.pp, W.sp, g', W.v, W.gn] ++ W.pl.map (·.2)).Nodup := by
    have h1 := X.nd
    have h2 := gM
    rw [X.m] at h1 h2
    exact nodup_swap (l1 := [d, W.h, W.pp, W.sp]) (l2 := [W.v, W.gn] ++ W.pl.map (·.2)) (g := W.g) h1 h2
  have nd' : ([d, W.h, W.pp, W.sp, g', W.v, gn'] ++ W.pl.map (·.2)).Nodup := by
    refine nodup_swap (l1 := [d, W.h, W.pp, W.sp, g', W.v]) (l2 := W.pl.map fun x : Str × Addr => x.2) (g := W.gn) nd1 fun m => ?_
    have h2 := gnM
    rw [X.m] at h2
    rcases List.mem_append.mp m with m | m
    · simp only [List.mem_cons, List.not_mem_nil, or_false] at m
      rcases m with e | e | e | e | e | e
      · exact h2 (by rw [e]; simp)
      · exact h2 (by rw [e]; simp)
      · exact h2 (by rw [e]; simp)
      · exact h2 (by rw [e]; simp)
      · exact hne e.symm
      · exact h2 (by rw [e]; simp)
    · rcases List.mem_cons.mp m with e | m
      · exact h2 (by rw [e]; simp)
      · exact h2 (List.mem_append_right _ m)
  have new : ∀ m ∈ [d, W.h, W.pp, W.sp, g', W.v, gn'] ++ W.pl.map (·.2), m ∈ M ∨ H m = none := fun m hm => by
    rcases List.mem_append.mp hm with h | h
    · simp only [List.mem_cons, List.not_mem_nil, or_false] at h
      rcases h with rfl | rfl | rfl | rfl | rfl | rfl | rfl
      · exact .inl mp.1
      · exact .inl mp.2.1
      · exact .inl mp.2.2.1
      · exact .inl mp.2.2.2.1
      · exact .inr hg
      · exact .inl mp.2.2.2.2.2.1
      · exact .inr hgn
    · obtain ⟨x, hx, rfl⟩ := List.mem_map.mp h
      exact .inl (mp.2.2.2.2.2.2.2 x hx)
  have st : Stp M H ([d, W.h, W.pp, W.sp, g', W.v, gn'] ++ W.pl.map (·.2)) H' := ⟨fun c o e => by
    obtain ⟨m, e⟩ := of_hid e
    exact fr _ _ (fun z => m (by rw [z]; exact mp.1)) e, new⟩
  have np : ∀ {c o}, H c = some o → (∀ z, o ≠ .dK z) → H' c = some o := fun {c o} e q => fr _ _ (ne_of e X.ob (q _)) e
  refine ⟨_, { W with g := g', gn := gn', es := es' }, ⟨rfl, nd', ob, np X.hh (by intros; nofun), X.hl, X.hv, fr _ _ n0.1.symm X.hp, X.hpl, fun x hx => let ⟨a, h1, h2, h3, h4⟩ := X.pv x hx; ⟨a, h1, h2, fr _ _ (n5 _ h1).2.2 h3, h4⟩, X.pn, fun x hx => let ⟨z, q⟩ := X.pd x hx; ⟨z, fr _ _ (n5 _ hx).2.2 q⟩, fr _ _ n0.2.symm X.sp, X.sl, X.sv, g, ?_, ge.mono fun _ _ z => z.same st.sub, np X.v (by intros; nofun), X.vl, X.ve.mono fun _ _ z => st.sub _ _ z, gn, X.n1⟩, st, rfl⟩
  show es'.length + (s.gone ++ add).length ≤ n
  rw [List.length_append]
  have := X.gl
  omega
theorem LsX.backed (X : LsX M H d bs s n W) {x : Bd} (ndb : ∀ y ∈ bs, y.name = x.name → y = x) {bs' : List Bd} (ndb' : ∀ y ∈ bs', y.name = x.name → y = x) (sub : ∀ y ∈ bs', y ∈ bs ∨ y = x) {kvs' : List (List Key × V)} {a : Addr} (hh : H' W.h = some (.dT kvs')) (hl : kvs'.length ≤ W.kvs.length + 24)
    (val : ∀ y, valV kvs' (keyOf y) = if inBed x y = true then some (.str x.owner) else valV W.kvs (keyOf y))
    (ha0 : H a = none) (hpp : H' W.pp = some (.dK (putK W.pvs (.inr x.name) (.ref a)))) (ha : H' a = some (.dK [(.inr x.owner, .int 27720)]))
    (fr : ∀ c o, c ≠ W.h → c ≠ W.pp → H c = some o → H' c = some o) :
    ∃ M' W', LsX M' H' d bs' (s.back x) (n + 1) W' ∧ Stp M H M' H' := by
  obtain ⟨n0, n1, n2, n3, n4, n5, n6⟩ := X.ne
  have mp := X.mp
  have np : ∀ {c o}, H c = some o → (∀ z, o ≠ .dT z) → (∀ z, o ≠ .dK z) → H' c = some o := fun {c o} e q1 q2 => fr _ _ (ne_of e X.hh (q1 _)) (ne_of e X.hp (q2 _)) e
  have sp' : H' W.sp = some (.dK W.svs) := fr _ _ (ne_of X.sp X.hh (by intros; nofun)) n1.symm X.sp
  have ob' := fr _ _ (ne_of X.ob X.hh (by intros; nofun)) n0.1 X.ob
  have pd' : ∀ y ∈ W.pl, ∀ z, H y.2 = some (.dK z) → H' y.2 = some (.dK z) := fun y hy z q => fr _ _ (ne_of q X.hh (by intros; nofun)) (n5 _ hy).1 q
  have same : Same (hid M H) H' := fun c o e => by
    obtain ⟨m, e⟩ := of_hid e
    exact fr _ _ (fun z => m (by rw [z]; exact mp.2.1)) (fun z => m (by rw [z]; exact mp.2.2.1)) e
  have held : ∀ y, (∃ b ∈ bs', inBed b y = true) → valV kvs' (keyOf y) = some (.str ((s.back x).held y)) := fun y ⟨z, hz, iz⟩ => by
    rw [val y]
    show _ = some (V.str (if inBed x y = true then x.owner else s.held y))
    by_cases e : inBed x y = true
    · rw [if_pos e, if_pos e]
    · rw [if_neg e, if_neg e]
      rcases sub z hz with h | h
      · exact X.hv y ⟨z, h, iz⟩
      · rw [h] at iz; exact absurd iz e
  have aM := X.notM ha0
  let pl' := (x.name, a) :: W.pl.filter fun y => !decide (y.1 = x.name)
  have fm : ∀ y ∈ W.pl.filter (fun y => !decide (y.1 = x.name)), y ∈ W.pl := fun y h => (List.mem_filter.mp h).1
  have st : Stp M H ([d, W.h, W.pp, W.sp, W.g, W.v, W.gn] ++ pl'.map (·.2)) H' := ⟨same, fun m hm => by
    rcases List.mem_append.mp hm with h | h
    · exact .inl (by rw [X.m]; exact List.mem_append_left _ h)
    · rcases List.mem_cons.mp h with h | h
      · exact .inr (by rw [h]; exact ha0)
      · obtain ⟨y, hy, e⟩ := List.mem_map.mp h
        exact .inl (by rw [← e]; exact mp.2.2.2.2.2.2.2 y (fm y hy))⟩
  refine ⟨_, { W with kvs := kvs', pvs := putK W.pvs (.inr x.name) (.ref a), pl := pl' }, ⟨rfl, ?_, ob', hh, by have := X.hl; show kvs'.length ≤ _; omega, held, hpp, ?_, fun y hy => ?_, ?_, fun y hy => ?_, sp', by have := X.sl; show W.svs.length ≤ _; omega, X.sv, np X.g (by intros; nofun) (by intros; nofun), by have := X.gl; show W.es.length + s.gone.length ≤ _; omega, X.ge.mono fun _ _ z => z.same st.sub, np X.v (by intros; nofun) (by intros; nofun), by have := X.vl; show W.vs.length ≤ _; omega, X.ve.mono fun _ _ z => st.sub _ _ z, np X.gn (by intros; nofun) (by intros; nofun), by omega⟩, st⟩
  · show ([d, W.h, W.pp, W.sp, W.g, W.v, W.gn] ++ a :: (W.pl.filter fun y => !decide (y.1 = x.name)).map (·.2)).Nodup
    rw [List.perm_middle.nodup_iff]
    have sl : ([d, W.h, W.pp, W.sp, W.g, W.v, W.gn] ++ (W.pl.filter fun y => !decide (y.1 = x.name)).map (·.2)).Sublist M := by
      rw [X.m]
      exact List.Sublist.append (List.Sublist.refl _) (List.Sublist.map _ List.filter_sublist)
    exact List.nodup_cons.mpr ⟨fun m => aM (sl.subset m), sl.nodup X.nd⟩
  · show (putK W.pvs (.inr x.name) (.ref a)).length ≤ n + 1
    have := length_putK W.pvs (Sum.inr x.name : Key) (.ref a)
    have := X.hpl
    omega
  · by_cases e : y.name = x.name
    · have : y = x := ndb' y hy e
      subst this
      refine ⟨a, List.mem_cons_self, ?_, ?_, ?_⟩
      · show valV (putK W.pvs (.inr y.name) (.ref a)) _ = _
        rw [valV_put, if_pos rfl]
      · show H' a = some (HO.dK ((if y.name = y.name then [(y.owner, 27720)] else s.units y.name).map uK))
        rw [if_pos rfl]
        exact ha
      · show (if y.name = y.name then [(y.owner, 27720)] else s.units y.name).length ≤ _
        rw [if_pos rfl]
        show 1 ≤ _
        omega
    · have hb : y ∈ bs := by
        rcases sub y hy with h | h
        · exact h
        · exact absurd (by rw [h]) e
      obtain ⟨a', h1, h2, h3, h4⟩ := X.pv y hb
      refine ⟨a', List.mem_cons_of_mem _ (List.mem_filter.mpr ⟨h1, by simp [e]⟩), ?_, ?_, ?_⟩
      · show valV (putK W.pvs (.inr x.name) (.ref a)) _ = _
        rw [valV_put, if_neg (fun z => e (Sum.inr.inj z))]
        exact h2
      · show H' a' = some (HO.dK ((if y.name = x.name then _ else s.units y.name).map uK))
        rw [if_neg e]
        exact pd' _ h1 _ h3
      · show (if y.name = x.name then _ else s.units y.name).length ≤ _
        rw [if_neg e]
        omega
  · show (x.name :: (W.pl.filter fun y => !decide (y.1 = x.name)).map (·.1)).Nodup
    refine List.nodup_cons.mpr ⟨fun m => ?_, (List.Sublist.map _ List.filter_sublist).nodup X.pn⟩
    obtain ⟨y, hy, e⟩ := List.mem_map.mp m
    have := (List.mem_filter.mp hy).2
    rw [e] at this
    simp at this
  · rcases List.mem_cons.mp hy with h | h
    · exact ⟨_, by rw [h]; exact ha⟩
    · obtain ⟨z, q⟩ := X.pd y (fm y h)
      exact ⟨z, pd' _ (fm y h) z q⟩
theorem LsX.congr (X : LsX M H d bs s n W) {s' : SM} (h1 : s'.held = s.held) (h2 : s'.units = s.units) (h3 : s'.spoilt = s.spoilt) (h4 : s'.good = s.good) (h5 : s'.voids = s.voids) (h6 : s'.gone = s.gone) : LsX M H d bs s' n W := by
  have : s' = s := by
    cases s; cases s'
    simp only at h1 h2 h3 h4 h5 h6
    subst h1 h2 h3 h4 h5 h6
    rfl
  rw [this]; exact X
end
section
variable {P : Program} {w : World} {K : PySem.W.Frag} {mg : Str → Option Value} {base : Heap}
def sp_l_begin (K : PySem.W.Frag) : Sp := fun vs H Q _ => ∃ (dl : Addr) (bs : List Bd) (ts : List Addr), vs = [.ref dl] ∧ H dl = some (.lst (ts.map V.ref)) ∧ L2R (BdrAt H) ts bs ∧ bs.length ≤ 3 ∧ (∀ b ∈ bs, b.Ok) ∧ (bs.map Bd.name).Nodup ∧
  ∀ d M H' W, LsX M H' d bs (SM.begin bs) 7 W → Same H H' → (∀ m ∈ M, H m = none) → Q (.ref d) H'
theorem ok_l_begin (T : Tx K mg) : FnOk P w K mg base CX0 2 (He.ga K "_law_begin") (fdOf K dd_l_begin) ["_law_beds"] (sp_l_begin K) := by
  refine okF T.d_l_begin sc_l_begin (fun vs H Q E h => ?_) (fun cdv A outer s H vs Q E hr h => ?_)
  · obtain ⟨_, _, _, rfl, _⟩ := h; rfl
  · obtain ⟨dl, bs, ts, rfl, hdl, hts, d3, dok, dnd, k⟩ := h
    have hu := hu_of hr
    refine ⟨_, (pss_cons (ps_set (i := 1) sc_l_begin.nd rfl (by first | exact Or.inl rfl | exact Or.inr rfl) (pe_disp (pps_cons pe_str pe_dnewT (pps_cons pe_str pe_dnewK (pps_cons pe_str pe_dnewK (pps_cons pe_str (pe_lst pa_nil) (pps_cons pe_str (pe_lst pa_nil) (pps_cons pe_str (pe_lst pa_nil) pps_nil)))))) (by rfl) (by rfl) (fun z => by cases z) (by decide)))
      (pss_cons (ps_for PassesOwn.never rfl (pi_list (pv 0)) (pg_name (i := 2) sc_l_begin.nd rfl (by first | exact Or.inl rfl | exact Or.inr rfl)) (pss_one (ps_expr (pe_call (ok_l_back T) (hr.mono (by decide)) rfl T.g_l_back T.d_l_back.kp T.b_l_back .nil pass0 (pa_cons (pv 1) (pa_cons (pv 2) pa_nil))))))
      (pss_one (ps_ret (pv 1))))), ?_⟩
    intro d nd
    generalize hh : upd H d _ = H1; obtain ⟨s1, hd⟩ := gen_new hh nd; clear hh
    intro h nh
    have a1 : h ≠ d := (ne_of_none hd nh).symm
    generalize hh : upd H1 h _ = H2; obtain ⟨s2, hh2⟩ := gen_new hh nh; clear hh
    have hd := s2 _ _ hd
    intro pp npp
    have b1 : pp ≠ d := (ne_of_none hd npp).symm
    have b2 : pp ≠ h := (ne_of_none hh2 npp).symm
    generalize hh : upd H2 pp _ = H3; obtain ⟨s3, hpp⟩ := gen_new hh npp; clear hh
    have hd := s3 _ _ hd
    have hh2 := s3 _ _ hh2
    intro sp nsp
    have c1 : sp ≠ d := (ne_of_none hd nsp).symm
    have c2 : sp ≠ h := (ne_of_none hh2 nsp).symm
    have c3 : sp ≠ pp := (ne_of_none hpp nsp).symm
    generalize hh : upd H3 sp _ = H4; obtain ⟨s4, hsp⟩ := gen_new hh nsp; clear hh
    have hd := s4 _ _ hd
    have hh2 := s4 _ _ hh2
    have hpp := s4 _ _ hpp
    refine ⟨by show 0 ≤ sizeLine; decide, fun g ng => ?_⟩
    have d1 : g ≠ d := (ne_of_none hd ng).symm
    have d2 : g ≠ h := (ne_of_none hh2 ng).symm
    have d4 : g ≠ pp := (ne_of_none hpp ng).symm
    have d5 : g ≠ sp := (ne_of_none hsp ng).symm
    generalize hh : upd H4 g _ = H5; obtain ⟨s5, hg⟩ := gen_new hh ng; clear hh
    have hd := s5 _ _ hd
    have hh2 := s5 _ _ hh2
    have hpp := s5 _ _ hpp
    have hsp := s5 _ _ hsp
    refine ⟨by show 0 ≤ sizeLine; decide, fun v nv => ?_⟩
    have e1 : v ≠ d := (ne_of_none hd nv).symm
    have e2 : v ≠ h := (ne_of_none hh2 nv).symm
    have e3 : v ≠ pp := (ne_of_none hpp nv).symm
    have e4 : v ≠ sp := (ne_of_none hsp nv).symm
    have e5 : v ≠ g := (ne_of_none hg nv).symm
    generalize hh : upd H5 v _ = H6; obtain ⟨s6, hv⟩ := gen_new hh nv; clear hh
    have hd := s6 _ _ hd
    have hh2 := s6 _ _ hh2
    have hpp := s6 _ _ hpp
    have hsp := s6 _ _ hsp
    have hg := s6 _ _ hg
    refine ⟨by show 0 ≤ sizeLine; decide, fun gn ngn => ?_⟩
    have f1 : gn ≠ d := (ne_of_none hd ngn).symm
    have f2 : gn ≠ h := (ne_of_none hh2 ngn).symm
    have f3 : gn ≠ pp := (ne_of_none hpp ngn).symm
    have f4 : gn ≠ sp := (ne_of_none hsp ngn).symm
    have f5 : gn ≠ g := (ne_of_none hg ngn).symm
    have f6 : gn ≠ v := (ne_of_none hv ngn).symm
    generalize hh : upd H6 gn _ = H7; obtain ⟨s7, hgn⟩ := gen_new hh ngn; clear hh
    have hd := s7 _ _ hd
    have hh2 := s7 _ _ hh2
    have hpp := s7 _ _ hpp
    have hsp := s7 _ _ hsp
    have hg := s7 _ _ hg
    have hv := s7 _ _ hv
    refine ⟨hd, stL h pp sp g v gn, rfl, by show 6 ≤ 15; decide, ?_⟩
    have em : mergeK [] (stL h pp sp g v gn) = stL h pp sp g v gn := by kernel_rfl
    rw [em]
    have s07 : Same H H7 := s1.trans (s2.trans (s3.trans (s4.trans (s5.trans (s6.trans s7)))))
    have z1 := s1.free nh
    have z2 := (s1.trans s2).free npp
    have z3 := (s1.trans (s2.trans s3)).free nsp
    have z4 := (s1.trans (s2.trans (s3.trans s4))).free ng
    have z5 := (s1.trans (s2.trans (s3.trans (s4.trans s5)))).free nv
    have z6 := (s1.trans (s2.trans (s3.trans (s4.trans (s5.trans s6))))).free ngn
    generalize e8 : upd H7 d _ = H8
    obtain ⟨hd8, f8⟩ := gen_upd e8
    clear e8
    have s08 : Same H H8 := fun c o e => f8 _ _ (ne_of_none e nd) (s07 _ _ e)
    have zM : ∀ m ∈ [d, h, pp, sp, g, v, gn], H m = none := fun m hm => by
      simp only [List.mem_cons, List.not_mem_nil, or_false] at hm
      rcases hm with rfl | rfl | rfl | rfl | rfl | rfl | rfl <;> assumption
    have X0 : LsX [d, h, pp, sp, g, v, gn] H8 d [] SM.none 1 ⟨h, pp, sp, g, v, gn, [], [], [], [], [], []⟩ :=
      ⟨rfl, by
        simp only [List.nodup_cons, List.mem_cons, List.not_mem_nil, not_or, or_false, not_false_eq_true, List.nodup_nil, and_true]
        exact ⟨⟨a1.symm, b1.symm, c1.symm, d1.symm, e1.symm, f1.symm⟩, ⟨b2.symm, c2.symm, d2.symm, e2.symm, f2.symm⟩, ⟨c3.symm, d4.symm, e3.symm, f3.symm⟩, ⟨d5.symm, e4.symm, f4.symm⟩, ⟨e5.symm, f5.symm⟩, f6.symm⟩,
        hd8, f8 _ _ a1 hh2, Nat.zero_le _, fun y ⟨z, hz, _⟩ => (by cases hz), f8 _ _ b1 hpp, Nat.zero_le _, nofun, .nil, nofun, f8 _ _ c1 hsp, Nat.zero_le _, fun _ => rfl, f8 _ _ d1 hg, Nat.zero_le _, .nil, f8 _ _ e1 hv, Nat.zero_le _, .nil, f8 _ _ f1 hgn, Nat.le_refl _⟩
    refine ⟨_, rfl, dl, rfl, ⟨_, .of (s08 _ _ hdl)⟩, ?_⟩
    refine for_it walk_list (fun i σ H' => ∃ M' W' x2, σ = [some (.ref dl), some (.ref d), x2] ∧ LsX M' H' d (bs.take i) ((bs.take i).foldl SM.back SM.none) (1 + i) W' ∧ Stp [d, h, pp, sp, g, v, gn] H8 M' H')
      ⟨_, _, none, rfl, X0, Stp.refl⟩ (fun i σ H' _ ⟨_, _, _, _, _, e⟩ => (e.of_same s08 zM).1.seq (.of hdl)) ?_ ?_
    · rintro i y σ H9 H10 hi ⟨M', W', x2, rfl, X, st⟩ ⟨rfl, hy⟩
      obtain ⟨t, ht, rfl⟩ := ref_at hy
      obtain ⟨b, hb, e1⟩ := hts.left ht
      have bm := List.mem_of_getElem? hb
      have il : i < bs.length := (List.getElem?_eq_some_iff.mp hb).1
      have e1 : BdrAt H10 t b := (st.of_same s08 zM).1 _ _ e1
      have hl := X.hl
      have hpl := X.hpl
      have tk : bs.take (i + 1) = bs.take i ++ [b] := by rw [List.take_add_one, hb]; rfl
      have inj : ∀ y ∈ bs, y.name = b.name → y = b := fun y hy e => bd_inj dnd hy bm e
      refine ⟨_, rfl, _, rfl, d, W'.h, W'.pp, t, _, b, W'.kvs, W'.pvs, rfl, X.ob, st_held, st_parts, X.ne.1.1, X.hh, X.hp, by omega, by omega, e1, (dok b bm).r2, fun H11 kvs' a m1 m2 m3 m4 m5 m6 m7 => ?_⟩
      obtain ⟨M8, W8, X8, st8⟩ := X.backed (x := b) (bs' := bs.take (i + 1)) (fun y hy => inj y (List.mem_of_mem_take hy)) (fun y hy => inj y (List.mem_of_mem_take hy)) (fun y hy => by
        rw [tk] at hy
        rcases List.mem_append.mp hy with h | h
        · exact .inl h
        · exact .inr (List.mem_singleton.mp h)) m1 m2 m3 m4 m5 m6 m7
      refine ⟨M8, W8, _, rfl, ?_, st.trans st8⟩
      have : (bs.take (i + 1)).foldl SM.back SM.none = ((bs.take i).foldl SM.back SM.none).back b := by rw [tk, List.foldl_append]; rfl
      rw [this]
      exact X8
    · rintro σ H9 ⟨M', W', x2, rfl, X, st⟩
      have el : bs.take (ts.map V.ref).length = bs := by rw [List.length_map, hts.1]; exact List.take_length
      rw [el] at X
      have ll : (ts.map V.ref).length = bs.length := by rw [List.length_map, hts.1]
      obtain ⟨r1, r2⟩ := st.of_same s08 zM
      exact ⟨_, rfl, k d M' H9 W' (X.mono (by omega)) r1 r2⟩
end
end Rp


set_option maxRecDepth 100000
set_option maxHeartbeats 4000000
namespace Rp
open PySem PySem.Spec PyProof.Rows L2
section
variable {P : Program} {w : World} {K : PySem.W.Frag} {mg : Str → Option Value} {base : Heap}
/-- a promise that the law's state can take -/
structure PrL (bs : List Bd) (r : Pr) (b : Bd) : Prop where
  ok : r.Ok
  m : b ∈ bs
  inb : r.th.InB b
theorem PrL.ky {bs : List Bd} {r : Pr} {b : Bd} (h : PrL bs r b) (n : ∀ b u, r.th ≠ .share b u) : ∃ b ∈ bs, inBed b r.th.key = true := by
  refine ⟨b, h.m, ?_⟩
  have ok := h.ok.th
  have i := h.inb
  cases e : r.th with
  | root b k => rw [e] at ok i; simp [Th.key, inBed, i.1, ok.2, i.2.2]
  | offs b k => rw [e] at ok i; simp [Th.key, inBed, i.1, ok.2, i.2.2]
  | share b u => exact absurd e (n b u)
def sp_l_keys (K : PySem.W.Frag) : Sp := fun vs H Q _ => ∃ (d a : Addr) (M : List Addr) (bs : List Bd) (s : SM) (n : Nat) (W : LsW) (r : Pr) (b : Bd), vs = [.ref d, .ref a] ∧ LsX M H d bs s n W ∧ RwAt K (hid M H) a (.pr r) ∧ PrL bs r b ∧
  ∀ l ks H', Same H H' → H l = none → H' l = some (.lst (ks.map V.ref)) → L2R (KyAt H') ks (s.moves r) → Q (.ref l) H'
theorem ok_l_keys (T : Tx K mg) : FnOk P w K mg base CX0 1 (He.ga K "_law_keys") (fdOf K dd_l_keys) ["_law_state", "_law_row"] (sp_l_keys K) := by
  refine okF T.d_l_keys sc_l_keys (fun vs H Q E h => ?_) (fun cdv A outer s H vs Q E hr h => ?_)
  · obtain ⟨_, _, _, _, _, _, _, _, _, rfl, _⟩ := h; rfl
  · obtain ⟨d, a, M, bs, s, n, W, r, bd, rfl, X, hr0, hin, k⟩ := h
    have hu := hu_of hr
    refine ⟨_, (pss_cons (ps_asg (pe_ix (ix_tupK K rfl) (pv 1) pe_int (fun _ _ => rfl)) (pg_tup rfl (pgs_cons (pg_name (i := 2) sc_l_keys.nd rfl (by first | exact Or.inl rfl | exact Or.inr rfl)) (pgs_cons (pg_name (i := 3) sc_l_keys.nd rfl (by first | exact Or.inl rfl | exact Or.inr rfl)) (pgs_cons (pg_name (i := 4) sc_l_keys.nd rfl (by first | exact Or.inl rfl | exact Or.inr rfl)) pgs_nil)))))
      (pss_cons (ps_if (pt_cmpR op_eq (pv 2) pe_str (nomark _)) (pss_one (ps_ret (pe_lst (pa_cons (pe_tup (pa_cons pe_str (pa_cons (pv 3) pa_nil))) pa_nil)))) pss_nil)
      (pss_cons (ps_set (i := 5) sc_l_keys.nd rfl (by first | exact Or.inl rfl | exact Or.inr rfl) (pe_tup (pa_cons pe_str (pa_cons (pv 3) (pa_cons (pv 4) pa_nil)))))
      (pss_cons (ps_if (PW.pt (pw_and (pt_cmpR op_eq (pv 2) pe_str (nomark _)) (pw_and (pt_cmpR op_eq (pe_ix (ix_tupK K rfl) (pv 1) pe_int (fun _ _ => rfl)) pe_str (nomark _)) (pw_and1 (pt_cmpR op_eq (pe_dget hu (pe_dget hu (pv 0) pe_str (fun _ _ => rfl)) (pv 5) (fun _ _ => rfl)) (pe_ix (ix_tupK K rfl) (pv 1) pe_int (fun _ _ => rfl)) (nomark _)))))) (pss_one (ps_ret (pe_lst (pa_cons (pe_ix (ix_tupK K rfl) (pv 1) pe_int (fun _ _ => rfl)) (pa_cons (pv 5) pa_nil))))) pss_nil)
      (pss_one (ps_ret (pe_lst (pa_cons (pe_ix (ix_tupK K rfl) (pv 1) pe_int (fun _ _ => rfl)) pa_nil)))))))), ?_⟩
    obtain ⟨t, h1, ht⟩ := hr0
    have g1 : H a = some (.tup (rwV r t)) := hid_same _ _ h1
    cases eth : r.th with
    | share b u =>
      rw [eth] at ht
      obtain ⟨q, e1, _⟩ := ht
      have ht2 := hid_same _ _ e1
      refine ⟨_, rfl, a, _, _, _, rfl, rfl, .of g1, atI_nat (j := 5) rfl, t, _, rfl, .of ht2, rfl, _, _, rfl, _, _, rfl, _, _, rfl, rfl, ?_⟩
      refine ⟨_, rfl, rfl, _, rfl, iteD rfl ⟨_, rfl, by show 2 ≤ sizeLine; decide, fun t2 n2 => ?_⟩⟩
      generalize hh : upd H t2 _ = H1; obtain ⟨s1, h2⟩ := gen_new hh n2; clear hh
      refine ⟨by show 1 ≤ sizeLine; decide, fun l nl => ?_⟩
      generalize hh : upd H1 l _ = H2; obtain ⟨s2, hl⟩ := gen_new hh nl; clear hh
      have em : s.moves r = [.share b] := by unfold SM.moves; rw [eth]; rfl
      refine k l [t2] H2 (s1.trans s2) (s1.free nl) hl ?_
      rw [em]
      exact L2R.cons (s2 _ _ h2) .nil
    | offs b j =>
      rw [eth] at ht
      have ht2 : H t = some (.tup [.str "offsets", .str b, .int j]) := hid_same _ _ ht
      refine ⟨_, rfl, a, _, _, _, rfl, rfl, .of g1, atI_nat (j := 5) rfl, t, _, rfl, .of ht2, rfl, _, _, rfl, _, _, rfl, _, _, rfl, rfl, ?_⟩
      refine ⟨_, rfl, rfl, _, rfl, iteDn (vne kne4) ⟨_, rfl, _, rfl, by show 3 ≤ sizeLine; decide, fun t2 n2 => ?_⟩⟩
      generalize hh : upd H t2 _ = H1; obtain ⟨s1, h2⟩ := gen_new hh n2; clear hh
      refine ⟨_, rfl, rfl, _, rfl, iteDn (vne kne3) (iteF ⟨_, rfl, a, _, _, _, rfl, rfl, .of (s1 _ _ g1), atI_nat (j := 5) rfl, by show 1 ≤ sizeLine; decide, fun l nl => ?_⟩)⟩
      generalize hh : upd H1 l _ = H2; obtain ⟨s2, hl⟩ := gen_new hh nl; clear hh
      have em : s.moves r = [.offs b j] := by unfold SM.moves; rw [eth]; rfl
      refine k l [t] H2 (s1.trans s2) (s1.free nl) hl ?_
      rw [em]
      exact L2R.cons (s2 _ _ (s1 _ _ ht2)) .nil
    | root b j =>
      rw [eth] at ht
      have ht2 : H t = some (.tup [.str "root", .str b, .int j]) := hid_same _ _ ht
      refine ⟨_, rfl, a, _, _, _, rfl, rfl, .of g1, atI_nat (j := 5) rfl, t, _, rfl, .of ht2, rfl, _, _, rfl, _, _, rfl, _, _, rfl, rfl, ?_⟩
      refine ⟨_, rfl, rfl, _, rfl, iteDn (vne kne2) ⟨_, rfl, _, rfl, by show 3 ≤ sizeLine; decide, fun t2 n2 => ?_⟩⟩
      generalize hh : upd H t2 _ = H1; obtain ⟨s1, h2⟩ := gen_new hh n2; clear hh
      have h2k : KyAt H1 t2 (.offs b j) := h2
      have g2 := s1 _ _ g1
      have fin1 : (!r.stay && decide (s.held (.offs b j) = r.seller)) = false → tRet (tLst (tCons (tOp (rIxT K) (tVar 1) (tC (.int 5))) tNil)) { nx := fun x H' => Q V.non H', rt := Q } [some (.ref d), some (.ref a), some (.str "root"), some (.str b), some (.int j), some (.ref t2)] H1 := by
        intro e
        refine ⟨_, rfl, a, _, _, _, rfl, rfl, .of g2, atI_nat (j := 5) rfl, by show 1 ≤ sizeLine; decide, fun l nl => ?_⟩
        generalize hh : upd H1 l _ = H2; obtain ⟨s2, hl⟩ := gen_new hh nl; clear hh
        have em : s.moves r = [.root b j] := by
          unfold SM.moves
          rw [eth]
          show (if (!r.stay && decide (s.held (.offs b j) = r.seller)) = true then _ else _) = _
          rw [e]
          rfl
        refine k l [t] H2 (s1.trans s2) (s1.free nl) hl ?_
        rw [em]
        exact L2R.cons (s2 _ _ (s1 _ _ ht2)) .nil
      refine ⟨_, rfl, rfl, _, rfl, iteD rfl ⟨_, rfl, a, _, _, _, rfl, rfl, .of g2, atI_nat (j := 8) rfl, rfl, _, rfl, ?_⟩⟩
      cases es : r.stay with
      | true => exact iteDn (vne (by decide +kernel)) (iteF (fin1 (by rw [es]; rfl)))
      | false =>
        refine iteD rfl ?_
        have ky : valV W.kvs (keyOf (.offs b j)) = some (.str (s.held (.offs b j))) := X.hv _ ⟨bd, hin.m, by
          have ok := hin.ok.th
          have i := hin.inb
          rw [eth] at ok i
          simp [inBed, i.1, ok.2, i.2.2]⟩
        have g : DGet H1 W.h (.ref t2) (some (.str (s.held (.offs b j)))) := by
          have := DGet.t (k := keyOf (.offs b j)) (s1 _ _ X.hh) h2k
          rw [ky] at this
          exact this
        refine ⟨_, rfl, _, _, rfl, dgs (s1 _ _ X.ob) st_held, _, rfl, _, _, rfl, g, _, rfl, a, _, _, _, rfl, rfl, .of g2, atI_nat (j := 3) rfl, rfl, _, rfl, ?_⟩
        rw [strd]
        by_cases e : s.held (.offs b j) = r.seller
        · refine iteD e ⟨_, rfl, a, _, _, _, rfl, rfl, .of g2, atI_nat (j := 5) rfl, _, rfl, by show 2 ≤ sizeLine; decide, fun l nl => ?_⟩
          generalize hh : upd H1 l _ = H2; obtain ⟨s2, hl⟩ := gen_new hh nl; clear hh
          have em : s.moves r = [.root b j, .offs b j] := by
            unfold SM.moves
            rw [eth]
            show (if (!r.stay && decide (s.held (.offs b j) = r.seller)) = true then _ else _) = _
            rw [es, decide_eq_true e]
            rfl
          refine k l [t, t2] H2 (s1.trans s2) (s1.free nl) hl ?_
          rw [em]
          exact L2R.cons (s2 _ _ (s1 _ _ ht2)) (L2R.cons (s2 _ _ h2k) .nil)
        · exact iteDn e (fin1 (by rw [es, decide_eq_false e]; rfl))
end
end Rp


set_option maxRecDepth 100000
set_option maxHeartbeats 8000000
namespace Rp
open PySem PySem.Spec PyProof.Rows L2
def aheadOf (good : List (Pr × List Ky)) (seller : Str) (y : Ky) : List Int := (good.filter fun e => decide (e.1.seller = seller) && decide (y ∈ e.2)).map fun e => e.1.num
theorem lastOf_ahead (seller : Str) (y : Ky) : ∀ (good : List (Pr × List Ky)) (r : Str × Option Int), lastOf good seller y r = match (aheadOf good seller y).getLast? with | none => r | some m => (("clash" : Str), some m)
  | [], r => rfl
  | e :: t, r => by
    have ih := lastOf_ahead seller y t (if (decide (e.1.seller = seller) && decide (y ∈ e.2)) = true then (("clash" : Str), some e.1.num) else r)
    show lastOf t seller y _ = _
    rw [ih]
    unfold aheadOf
    rw [List.filter_cons]
    cases c : (decide (e.1.seller = seller) && decide (y ∈ e.2)) with
    | false => rfl
    | true =>
      rw [if_pos rfl, if_pos rfl, List.map_cons, List.getLast?_cons]
      cases ((t.filter fun e => decide (e.1.seller = seller) && decide (y ∈ e.2)).map fun e => e.1.num).getLast? <;> rfl
theorem at_last (zs : List Int) : atI (V.non :: zs.map V.int) (-(1 : Int)) = some (optV zs.getLast?) := by
  unfold atI
  have : ixN (V.non :: zs.map V.int).length (-(1 : Int)) = some zs.length := by
    unfold ixN
    rw [if_neg (by decide)]
    simp [List.length_cons, List.length_map]
    omega
  rw [this]
  show (V.non :: zs.map V.int)[zs.length]? = _
  cases zs with
  | nil => rfl
  | cons x r =>
    show ((x :: r).map V.int)[r.length]? = _
    rw [List.getElem?_map]
    have : (x :: r)[r.length]? = (x :: r).getLast? := by rw [List.getLast?_eq_getElem?]; rfl
    rw [this]
    cases e : (x :: r).getLast? with
    | none => simp at e
    | some m => rfl
end Rp


set_option maxRecDepth 100000
set_option maxHeartbeats 8000000
namespace Rp
open PySem PySem.Spec PyProof.Rows L2
theorem ints_lay : ∀ zs : List Int, PyData.canLayAll0 (zs.map PyData.int) = true
  | [] => rfl
  | x :: r => by simp only [List.map_cons, PyData.canLayAll0, PyData.canLay0, ints_lay r]; rfl
theorem ints_depth : ∀ zs : List Int, PyData.depthAll (zs.map PyData.int) = 0
  | [] => rfl
  | x :: r => by simp only [List.map_cons, PyData.depthAll, PyData.depth, ints_depth r]; rfl
theorem ints_shaped (zs : List Int) : SeqAt.shaped (.list (zs.map PyData.int)) = true := by
  show (PyData.canLay0 (.list (zs.map PyData.int)) && decide (PyData.depth (.list (zs.map PyData.int)) ≤ 64)) = true
  rw [Bool.and_eq_true]
  refine ⟨by simp only [PyData.canLay0]; exact ints_lay zs, decide_eq_true ?_⟩
  simp only [PyData.depth]
  rw [ints_depth]
  decide
theorem dp_ints {K : PySem.W.Frag} {H : Hp} : ∀ zs : List Int, DpAll K H (zs.map V.int) (zs.map PyData.int)
  | [] => .nil
  | x :: r => .cons (.int x) (dp_ints r)
theorem eqv_nil (zs : List Int) : PyData.eqv (.list (zs.map PyData.int)) (.list []) = zs.isEmpty := by
  cases zs <;> rfl
theorem units_exact (u : Nat) : ((num u : Int) * 27720) / (den u : Int) = u := by
  have e : num u * 27720 = u * den u := by
    have h1 := num_mul u
    have h2 := den_mul u
    calc num u * 27720 = num u * (den u * Nat.gcd u 27720) := by rw [h2]
      _ = (num u * Nat.gcd u 27720) * den u := by rw [Nat.mul_comm (den u), ← Nat.mul_assoc]
      _ = u * den u := by rw [h1]
  have e2 : ((num u : Int) * 27720) = (u : Int) * (den u : Int) := by exact_mod_cast e
  rw [e2]
  exact Int.mul_ediv_cancel _ (by have := den_pos u; omega)
end Rp


set_option maxRecDepth 100000
set_option maxHeartbeats 4000000
namespace Rp
open PySem PySem.Spec PyProof.Rows L2
section
variable {P : Program} {w : World} {K : PySem.W.Frag} {mg : Str → Option Value} {base : Heap}
/-- what the last part of the taking of a promise leans on -/
structure PmX (K : PySem.W.Frag) (d l : Addr) (ks M : List Addr) (H : Hp) (bs : List Bd) (s : SM) (n : Nat) (W : LsW) (r : Pr) (b : Bd) : Prop where
  X : LsX M H d bs s n W
  hn : n ≤ 1000
  hin : PrL bs r b
  hl : H l = some (.lst (ks.map V.ref))
  nlM : l ∉ M
  hks : L2R (KyAt H) ks (s.moves r)
  esp : s.spoilt r.th.bed = none
theorem moves_nm {s : SM} {r : Pr} (ok : r.th.Ok) {y : Ky} (hy : y ∈ s.moves r) : IsNm y.bed := by
  have ym : y.bed = r.th.bed := by
    unfold SM.moves at hy
    split at hy
    · rename_i e
      rw [e]
      split at hy <;> simp at hy
      · rcases hy with rfl | rfl <;> rfl
      · rw [hy]; rfl
    · simp at hy
      rw [hy, Th.key_bed]
  rw [ym, ← Th.key_bed]
  exact Ky.key_nm ok
theorem moves_head (s : SM) (r : Pr) : (s.moves r)[0]? = some r.th.key := by
  unfold SM.moves
  split
  · rename_i e
    rw [e]
    split <;> rfl
  · rfl
abbrev tVoidL (K : PySem.W.Frag) : TS := tSeq (tAsg (tLc (iList K (tDGet (tVar 0) (tC (.str "good")))) (gName 14)
      (tAnd (tTest (tOp rEq (tOp (rIxT K) (tVar 14) (tC (.int 1))) (tVar 7))) (tTest (tOp (rInD K) (tOp (rIxL K) (tVar 9) (tC (.int 0))) (tOp (rIxT K) (tVar 14) (tC (.int 2))))))
      (tOp (rIxT K) (tVar 14) (tC (.int 0))) [14]) (gName 13))
    (tSeq (tDrop (tBM K "list" rAppend (tDGet (tVar 0) (tC (.str "voids")))
      (tCons (tTup (tCons (tVar 5) (tCons (tOp (rIxL K) (tLst (tCons (tC (.str "never")) (tCons (tC (.str "clash")) tNil)))
        (tCB (fun xs H Q => (∃ i, xs = [V.int i] ∧ Q (V.int i) H) ∨ ∃ k, xs = [V.bl k] ∧ Q (V.int (if k = true then 1 else 0)) H) (tCons (tOp (rNeD K) (tVar 13) (tLst tNil)) tNil)))
        (tCons (tOp (rIxL K) (tOp rCat (tLst (tCons (tC .non) tNil)) (tVar 13)) (tUn (rU fun i => .int (-i)) (tC (.int 1)))) tNil)))) tNil))) tRetN)
/-- it is void -/
theorem void_l {d a l : Addr} {ks M : List Addr} {H : Hp} {bs : List Bd} {s : SM} {n : Nat} {W : LsW} {r : Pr} {b : Bd} (C0 : PmX K d l ks M H bs s n W r b) (hno : s.holds r = false) {D : Ends} {x2 x3 x4 x6 x8 o10 o11 o12 : Option V}
    (k : ∀ H' W', LsX M H' d bs (s.take bs (.pr r)) (n + 2) W' → Stp M H M H' → D.rt V.non H') :
    tVoidL K D [some (.ref d), some (.ref a), x2, x3, x4, some (.int r.num), x6, some (.str r.seller), x8, some (.ref l), o10, o11, o12, none, none, none] H := by
  obtain ⟨X3, hn, hin, hl3, nlM, hks3, esp⟩ := C0
  have glen : W.es.length + s.gone.length ≤ n := X3.gl
  have vlen := X3.vl
  obtain ⟨k0, hk0, hky⟩ := hks3.right (moves_head s r)
  have eg : W.es.length = s.good.length := X3.ge.1
  refine ⟨_, rfl, _, _, rfl, dgs X3.ob st_good, _, rfl, ⟨_, .of X3.g⟩, fun C nC => ?_⟩
  refine lc_it walk_list (fun i H' => Same H H' ∧ H' C = some (.lst ((aheadOf (s.good.take i) r.seller r.th.key).map V.int)))
    ⟨same_new nC, upd_same⟩ (fun i H' _ z => z.1.seq (.of X3.g)) ?_ ?_
  · rintro i y H4 H5 hi ⟨s4, hC⟩ ⟨rfl, hy⟩
    obtain ⟨e, he, rfl⟩ := ref_at hy
    obtain ⟨en, hen, la, ls, e1, e2, e3, e4⟩ := X3.ge.left he
    have q1 := s4 _ _ (hid_same _ _ e1)
    have q2 := s4 _ _ (hid_same _ _ e2)
    have q3 : L2R (KyAt H5) ls en.2 := e3.mono fun _ _ z => s4 _ _ (hid_same _ _ z)
    have hl5 := s4 _ _ hl3
    have tk : s.good.take (i + 1) = s.good.take i ++ [en] := by rw [List.take_add_one, show s.good[i]? = some en from hen]; rfl
    have tkA : aheadOf (s.good.take (i + 1)) r.seller r.th.key = aheadOf (s.good.take i) r.seller r.th.key ++ aheadOf [en] r.seller r.th.key := by
      unfold aheadOf
      rw [tk, List.filter_append, List.map_append]
    have il : i < s.good.length := (List.getElem?_eq_some_iff.mp hen).1
    refine ⟨rfl, _, rfl, e, _, _, _, rfl, rfl, .of q1, atI_nat (j := 1) rfl, _, rfl, rfl, _, rfl, ?_⟩
    rw [strd]
    by_cases es : en.1.seller = r.seller
    · refine iteD es ⟨_, rfl, l, _, _, _, rfl, rfl, .of hl5, atI_nat (j := 0) (by rw [List.getElem?_map, hk0]; rfl), _, rfl, e, _, _, _, rfl, rfl, .of q1, atI_nat (j := 2) rfl, kyD r.th.key, en.2.map kyD, kyD_at (s4 _ _ hky), .lst (.of q2) (dp_kys q3), kyD_shaped (Ky.key_nm hin.ok.th), kyDs_shaped e4, _, congrArg V.bl (any_ky _ _), ?_⟩
      by_cases ek : r.th.key ∈ en.2
      · refine iteD ek ⟨_, rfl, e, _, _, _, rfl, rfl, .of q1, atI_nat (j := 0) rfl, _, hC, ?_, same_mut s4 nC, ?_⟩
        · rw [List.length_map]
          unfold aheadOf
          rw [List.length_map]
          refine Nat.lt_of_le_of_lt (List.length_filter_le _ _) ?_
          rw [List.length_take]
          refine Nat.lt_of_le_of_lt (Nat.min_le_right _ _) (Nat.lt_of_le_of_lt (m := 1000) (by omega) (by decide))
        · have : aheadOf [en] r.seller r.th.key = [en.1.num] := by unfold aheadOf; simp [es, ek]
          rw [upd_same, tkA, this, List.map_append]
          rfl
      · refine iteDn ek ⟨s4, ?_⟩
        have : aheadOf [en] r.seller r.th.key = [] := by unfold aheadOf; simp [ek]
        rw [tkA, this, List.append_nil]
        exact hC
    · refine iteDn es (iteF ⟨s4, ?_⟩)
      have : aheadOf [en] r.seller r.th.key = [] := by unfold aheadOf; simp [es]
      rw [tkA, this, List.append_nil]
      exact hC
  · rintro H4 ⟨s4, hC⟩
    have hC : H4 C = some (.lst ((aheadOf (s.good.take (W.es.map V.ref).length) r.seller r.th.key).map V.int)) := hC
    rw [List.length_map, eg, List.take_length] at hC
    have X4 := X3.grow s4
    have alen : (aheadOf s.good r.seller r.th.key).length ≤ s.good.length := by
      unfold aheadOf
      rw [List.length_map]
      exact List.length_filter_le _ _
    generalize ez : aheadOf s.good r.seller r.th.key = zs at hC alen
    refine ⟨_, rfl, _, _, rfl, dgs X4.ob st_voids, .inl ⟨rfl, _, .of X4.v⟩, _, rfl, by show 2 ≤ sizeLine; decide, fun wl nw => ?_⟩
    generalize hh : upd H4 wl _ = H5; obtain ⟨s5, hwl⟩ := gen_new hh nw; clear hh
    refine ⟨_, rfl, by show 0 ≤ sizeLine; decide, fun el nel => ?_⟩
    generalize hh : upd H5 el _ = H6; obtain ⟨s6, hel⟩ := gen_new hh nel; clear hh
    have hC6 := s6 _ _ (s5 _ _ hC)
    refine ⟨.list (zs.map PyData.int), .list [], .lst (.of hC6) (dp_ints zs), .lst (.of hel) .nil, ints_shaped zs, by decide, ?_⟩
    rw [eqv_nil]
    refine .inr ⟨_, rfl, wl, _, _, .str (if zs.isEmpty then "never" else "clash"), rfl, rfl, .of (s6 _ _ hwl), ?_, ?_⟩
    · cases zs with
      | nil => exact atI_nat (j := 0) rfl
      | cons x r => exact atI_nat (j := 1) rfl
    refine ⟨by show 1 ≤ sizeLine; decide, fun n1 nn1 => ?_⟩
    generalize hh : upd H6 n1 _ = H7; obtain ⟨s7, hn1⟩ := gen_new hh nn1; clear hh
    refine ⟨_, rfl, n1, C, _, _, rfl, rfl, hn1, s7 _ _ hC6, by rw [List.length_map]; exact Nat.le_of_lt (Nat.lt_of_le_of_lt (m := 1001) (by show 1 + zs.length ≤ 1001; omega) (by decide)), fun n2 nn2 => ?_⟩
    generalize hh : upd H7 n2 _ = H8; obtain ⟨s8, hn2⟩ := gen_new hh nn2; clear hh
    refine ⟨_, rfl, n2, _, _, _, rfl, rfl, .of hn2, at_last zs, by show 3 ≤ sizeLine; decide, fun tt nt => ?_⟩
    generalize hh : upd H8 tt _ = H9; obtain ⟨s9, htt⟩ := gen_new hh nt; clear hh
    have s49 := s5.trans (s6.trans (s7.trans (s8.trans s9)))
    have X9 := X4.grow s49
    refine ⟨_, _, _, rfl, rfl, X9.v, by rw [List.length_map]; exact Nat.lt_of_le_of_lt (Nat.le_trans vlen hn) (by decide), ?_⟩
    have vd : VdAt (hid M H9) tt (r.num, lastOf s.good r.seller r.th.key (("never" : Str), none)) := by
      rw [lastOf_ahead, ez]
      have := X9.tupM htt
      cases zs with
      | nil => exact this
      | cons x r =>
        cases e : (x :: r).getLast? with
        | none => simp at e
        | some m =>
          rw [e] at this
          exact this
    have XA := X9.addVoid vd
    have em : s.take bs (.pr r) = { s with voids := s.voids ++ [(r.num, lastOf s.good r.seller r.th.key (("never" : Str), none))] } := by
      show (if ((s.spoilt r.th.bed).isNone && s.holds r) = true then s.go r else s.void r) = _
      rw [esp, hno]
      show s.void r = _
      unfold SM.void
      rw [esp]
    rw [← em] at XA
    rw [List.map_append] at XA
    exact k _ _ (XA.mono (by omega)) ((Stp.grow (s4.trans s49)).trans (Stp.mut X9.mp.2.2.2.2.2.1))
abbrev tGoodL (K : PySem.W.Frag) : TS := tDrop (tBM K "list" rAppend (tDGet (tVar 0) (tC (.str "good"))) (tCons (tTup (tCons (tVar 5) (tCons (tVar 7) (tCons (tVar 9) (tCons (tVar 3) tNil))))) tNil))
abbrev tPutsL : TS := tSeq (sDPut (tVar 10) (tVar 7) (tOp (rI0 fun i j => .int (i - j)) (tDGet (tVar 10) (tVar 7)) (tVar 11))) (sDPut (tVar 10) (tVar 8) (tOp (rI0 fun i j => .int (i + j)) (tDGet2 (tVar 10) (tVar 8) (tC (.int 0))) (tVar 11)))
/-- the good one is noted -/
theorem good_l {d l : Addr} {ks M : List Addr} {H : Hp} {bs : List Bd} {s s' : SM} {n : Nat} {W : LsW} {r : Pr} (X : LsX M H d bs s' n W) (hn : n ≤ 1001) (hl : hid M H l = some (.lst (ks.map V.ref))) (hks : L2R (KyAt (hid M H)) ks (s.moves r)) (ok : r.th.Ok)
    {D : Ends} {x1 x2 x4 x6 x8 x10 x11 x12 x13 x14 x15 : Option V}
    (k : ∀ H' W', LsX M H' d bs { s' with good := s'.good ++ [(r, s.moves r)] } (n + 1) W' → Stp M H M H' → D.nx [some (.ref d), x1, x2, some (.str r.th.bed), x4, some (.int r.num), x6, some (.str r.seller), x8, some (.ref l), x10, x11, x12, x13, x14, x15] H') :
    tGoodL K D [some (.ref d), x1, x2, some (.str r.th.bed), x4, some (.int r.num), x6, some (.str r.seller), x8, some (.ref l), x10, x11, x12, x13, x14, x15] H := by
  have glen : W.es.length + s'.gone.length ≤ n := X.gl
  refine ⟨_, rfl, _, _, rfl, dgs X.ob st_good, .inl ⟨rfl, _, .of X.g⟩, _, rfl, _, rfl, _, rfl, _, rfl, by show 4 ≤ sizeLine; decide, fun t2 nt2 => ?_⟩
  generalize hh : upd H t2 _ = H5; obtain ⟨s5, ht2⟩ := gen_new hh nt2; clear hh
  have X5 := X.grow s5
  refine ⟨_, _, _, rfl, rfl, X5.g, by rw [List.length_map]; exact Nat.lt_of_le_of_lt (Nat.le_trans (Nat.le_trans (Nat.le_add_right _ _) glen) hn) (by decide), ?_⟩
  have e5 : Same (hid M H) (hid M H5) := (Stp.grow s5).sub
  have en : LEnt (hid M H5) t2 (r, s.moves r) := ⟨l, ks, X5.tupM ht2, e5 _ _ hl, hks.mono fun _ _ z => e5 _ _ z, fun y hy => moves_nm ok hy⟩
  have X6 := X5.addGood en
  rw [List.map_append] at X6
  exact k _ _ X6 ((Stp.grow s5).trans (Stp.mut X5.mp.2.2.2.2.1))
/-- a share goes -/
theorem share_l {d a l da : Addr} {ks M : List Addr} {H : Hp} {bs : List Bd} {s : SM} {n : Nat} {W : LsW} {r : Pr} {bd : Bd} (C0 : PmX K d l ks M H bs s n W r bd) {u : Nat} (eth : r.th = .share bd.name u)
    (p1 : (bd.name, da) ∈ W.pl) (p3 : H da = some (.dK ((s.units bd.name).map uK))) (p4 : (s.units bd.name).length ≤ 2 * n) (uu : Int) (hU : uu = (u : Int)) {D : Ends} {x4 x6 : Option V}
    (kr : ∀ H' W', LsX M H' d bs (s.take bs (.pr r)) (n + 2) W' → Stp M H M H' → D.rt V.non H') (kn : ∀ σ H' W', LsX M H' d bs (s.take bs (.pr r)) (n + 2) W' → Stp M H M H' → D.nx σ H') :
    tSeq (tAsg (tAndV (tOp rEq (tVar 2) (tC (.str "share"))) (tOp (rI0 fun i j => .bl (decide (i < j))) (tDGet2 (tVar 10) (tVar 7) (tC (.int 0))) (tVar 11))) (gName 12))
      (tSeq (tIfS (tOr (tB (tVar 12)) (tAnd (tTest (tOp rNe (tVar 2) (tC (.str "share")))) (tTest (tOp rNe (tDGet (tDGet (tVar 0) (tC (.str "held"))) (tOp (rIxT K) (tVar 1) (tC (.int 5)))) (tVar 7))))) (tVoidL K) tNext)
        (tSeq (tIfS (tTest (tOp rEq (tVar 2) (tC (.str "share")))) tPutsL (tFor (iList K (tVar 9)) (gName 15) (sDPut (tDGet (tVar 0) (tC (.str "held"))) (tVar 15) (tVar 8)))) (tGoodL K)))
      D [some (.ref d), some (.ref a), some (.str "share"), some (.str r.th.bed), x4, some (.int r.num), x6, some (.str r.seller), some (.str r.buyer), some (.ref l), some (.ref da), some (.int uu), none, none, none, none] H := by
  subst hU
  obtain ⟨X2, hn, hin, hl, nlM, hks, esp⟩ := id C0
  have dm := X2.mp.2.2.2.2.2.2.2 _ p1
  have ok := hin.ok.th
  rw [eth] at ok
  obtain ⟨okn, u0, u1, u12⟩ := ok
  obtain ⟨o, g7, e7, e8⟩ : ∃ o, DGet H da (.str r.seller) o ∧ o.getD (.int 0) = .int ((getU (s.units bd.name) r.seller) : Int) ∧ (0 < (getU (s.units bd.name) r.seller) → o = some (.int ((getU (s.units bd.name) r.seller) : Int))) := by
    have dg := DGet.k (k := Sum.inr r.seller) p3
    rcases uK_get (s.units bd.name) r.seller with ⟨e1, e2⟩ | e1
    · rw [e1] at dg
      exact ⟨none, dg, by rw [e2]; rfl, fun h => by omega⟩
    · rw [e1] at dg
      exact ⟨_, dg, rfl, fun _ => rfl⟩
  refine ⟨_, rfl, rfl, _, rfl, iteD rfl ⟨_, rfl, da, rfl, .inl ⟨_, .of p3⟩, _, rfl, o, g7, _, rfl, _, _, e7, rfl, ?_⟩⟩
  have hh : s.holds r = decide (u ≤ getU (s.units bd.name) r.seller) := by
    unfold SM.holds
    rw [eth]
  by_cases sh : ((getU (s.units bd.name) r.seller) : Int) < (u : Int)
  · exact ⟨_, rfl, _, rfl, iteD sh (void_l C0 (by rw [hh]; exact decide_eq_false (by omega)) kr)⟩
  · have hyes : s.holds r = true := by rw [hh]; exact decide_eq_true (by omega)
    have gu : u ≤ (getU (s.units bd.name) r.seller) := by omega
    have g7 : DGet H da (.str r.seller) (some (.int ((getU (s.units bd.name) r.seller) : Int))) := by rw [← e8 (by omega)]; exact g7
    refine ⟨_, rfl, _, rfl, iteDn sh ⟨_, rfl, rfl, _, rfl, iteNS rfl (iteF ?_)⟩⟩
    refine ⟨_, rfl, rfl, _, rfl, iteD rfl ?_⟩
    clear e7 e8 hh
    have em : s.take bs (.pr r) = { s with units := fun m => if m = bd.name then putU (putU (s.units bd.name) r.seller (getU (s.units bd.name) r.seller - u)) r.buyer (getU (putU (s.units bd.name) r.seller (getU (s.units bd.name) r.seller - u)) r.buyer + u) else s.units m, good := s.good ++ [(r, s.moves r)] } := by
      show (if ((s.spoilt r.th.bed).isNone && s.holds r) = true then s.go r else s.void r) = _
      rw [esp, hyes]
      show s.go r = _
      have e1 : s.moves r = [Ky.share bd.name] := by unfold SM.moves; rw [eth]; rfl
      rw [e1]
      unfold SM.go
      rw [eth]
      rfl
    rw [em] at kn
    clear kr em
    generalize eg1 : getU (s.units bd.name) r.seller = g at *
    have kl : ((s.units bd.name).map uK).length < sizeLine - 10 := by
      rw [List.length_map, sizeLine_eq]
      omega
    have X2m := X2.mono (n' := n + 1) (by omega)
    have eput : putK ((s.units bd.name).map uK) (Sum.inr r.seller : Key) (.int ((g : Int) - (u : Int))) = (putU (s.units bd.name) r.seller (g - u)).map uK := by
      have e0 : ((g : Int) - (u : Int)) = ((g - u : Nat) : Int) := by omega
      rw [e0]
      exact uK_put _ _ _
    have l1 := putU_len (s.units bd.name) r.seller (g - u)
    refine ⟨_, rfl, _, rfl, _, _, rfl, g7, _, rfl, _, _, rfl, rfl, _, rfl, _, rfl, _, _, rfl, DPut.k (k := .inr r.seller) (v := .int ((g : Int) - (u : Int))) p3 (by omega), ?_⟩
    rw [eput]
    clear eput g7
    generalize eU : putU (s.units bd.name) r.seller (g - u) = us1 at *
    have X3 := X2m.setUnits (us' := us1) p1 (by omega)
    have s3 : Stp M H M _ := Stp.mut (o := .dK (us1.map uK)) dm
    have h3 : upd H da (.dK (us1.map uK)) da = some _ := upd_same
    generalize upd H da (.dK (us1.map uK)) = H3 at X3 s3 h3 ⊢
    obtain ⟨o2, g8, e9⟩ : ∃ o, DGet H3 da (.str r.buyer) o ∧ o.getD (.int 0) = .int ((getU us1 r.buyer) : Int) := by
      have dg := DGet.k (k := Sum.inr r.buyer) h3
      rcases uK_get us1 r.buyer with ⟨e1, e2⟩ | e1
      · rw [e1] at dg
        exact ⟨none, dg, by rw [e2]; rfl⟩
      · rw [e1] at dg
        exact ⟨_, dg, rfl⟩
    generalize getU us1 r.buyer = g2 at *
    have l2 := putU_len us1 r.buyer (g2 + u)
    have eput2 : putK (us1.map uK) (Sum.inr r.buyer : Key) (.int ((g2 : Int) + (u : Int))) = (putU us1 r.buyer (g2 + u)).map uK := by
      rw [← Int.natCast_add]
      exact uK_put _ _ _
    have kl2 : (us1.map uK).length < sizeLine - 5 := by
      rw [List.length_map]
      rw [List.length_map] at kl
      omega
    refine ⟨_, rfl, da, rfl, .inl ⟨_, .of h3⟩, _, rfl, o2, g8, _, rfl, _, _, e9, rfl, _, rfl, _, rfl, _, _, rfl, DPut.k (k := .inr r.buyer) (v := .int ((g2 : Int) + (u : Int))) h3 (by omega), ?_⟩
    rw [eput2]
    generalize putU us1 r.buyer (g2 + u) = us2 at *
    have X4 := X3.setUnits (us' := us2) p1 (by omega)
    have s4 : Stp M H M _ := s3.trans (Stp.mut (o := .dK (us2.map uK)) dm)
    generalize upd H3 da (.dK (us2.map uK)) = H4 at X4 s4 ⊢
    have hl4 : hid M H4 l = some (.lst (ks.map V.ref)) := s4.sub _ _ (hid_of hl nlM)
    have hks4 : L2R (KyAt (hid M H4)) ks (s.moves r) := hks.mono fun _ _ z => s4.sub _ _ (X2.tupM z)
    have eu : (fun m => if m = bd.name then us2 else if m = bd.name then us1 else s.units m) = fun m => if m = bd.name then us2 else s.units m := by
      funext m
      by_cases e : m = bd.name
      · rw [if_pos e, if_pos e]
      · rw [if_neg e, if_neg e, if_neg e]
    refine good_l (s' := _) X4 (by omega) hl4 hks4 hin.ok.th fun H' W' X' st' => ?_
    refine kn _ H' W' ?_ (s4.trans st')
    rw [← eu]
    exact X'
/-- a root, or offsets, goes -/
theorem held_l {d a l : Addr} {ks M : List Addr} {H : Hp} {bs : List Bd} {s : SM} {n : Nat} {W : LsW} {r : Pr} {bd : Bd} (C0 : PmX K d l ks M H bs s n W r bd) (hns : ∀ b u, r.th ≠ .share b u) (hyes : s.holds r = true) {z : Str} (zne : V.str z ≠ V.str "share")
    {D : Ends} {x4 x6 x10 x11 x12 : Option V} (kn : ∀ σ H' W', LsX M H' d bs (s.take bs (.pr r)) (n + 2) W' → Stp M H M H' → D.nx σ H') :
    tSeq (tIfS (tTest (tOp rEq (tVar 2) (tC (.str "share")))) tPutsL (tFor (iList K (tVar 9)) (gName 15) (sDPut (tDGet (tVar 0) (tC (.str "held"))) (tVar 15) (tVar 8)))) (tGoodL K)
      D [some (.ref d), some (.ref a), some (.str z), some (.str r.th.bed), x4, some (.int r.num), x6, some (.str r.seller), some (.str r.buyer), some (.ref l), x10, x11, x12, none, none, none] H := by
  obtain ⟨X2, hn, hin, hl, nlM, hks, esp⟩ := id C0
  refine ⟨_, rfl, rfl, _, rfl, iteDn zne ?_⟩
  have ml : (s.moves r).length ≤ 2 := by
    unfold SM.moves
    split
    · split <;> simp
    · simp
  have hl1 : hid M H l = some (.lst (ks.map V.ref)) := hid_of hl nlM
  have hks1 : L2R (KyAt (hid M H)) ks (s.moves r) := hks.mono fun _ _ z => X2.tupM z
  have X2m := X2.mono (n' := n + 1) (by omega)
  refine ⟨_, rfl, l, rfl, ⟨_, .of hl⟩, ?_⟩
  refine for_it walk_list (fun i σ H' => ∃ kvs' x15, σ = [some (.ref d), some (.ref a), some (.str z), some (.str r.th.bed), x4, some (.int r.num), x6, some (.str r.seller), some (.str r.buyer), some (.ref l), x10, x11, x12, none, none, x15] ∧ LsX M H' d bs { s with held := fun y => if y ∈ (s.moves r).take i then r.buyer else s.held y } (n + 1) { W with kvs := kvs' } ∧ kvs'.length ≤ W.kvs.length + i ∧ Stp M H M H')
    ⟨W.kvs, none, rfl, X2m, Nat.le_refl _, Stp.refl⟩ (fun i σ H' _ ⟨_, _, _, _, _, e⟩ => e.same.seq (.of hl1)) ?_ ?_
  · rintro i y σ H3 H4 hi ⟨kvs', x7, rfl, X3, le3, s3⟩ ⟨rfl, hy⟩
    obtain ⟨e, he, rfl⟩ := ref_at hy
    obtain ⟨ky, hky, hk⟩ := hks1.left he
    have il : i < (s.moves r).length := (List.getElem?_eq_some_iff.mp hky).1
    have bl := X2.hl
    have blk : kvs'.length < sizeLine := by
      have : kvs'.length ≤ 100002 := by omega
      exact Nat.lt_of_le_of_lt this (by decide)
    refine ⟨_, rfl, _, rfl, _, _, rfl, dgs X3.ob st_held, _, rfl, _, _, rfl, DPut.t X3.hh (s3.same _ _ hk) blk, ?_⟩
    have ll := length_putK kvs' (keyOf ky) (.str r.buyer)
    have tk : (s.moves r).take (i + 1) = (s.moves r).take i ++ [ky] := by rw [List.take_add_one, hky]; rfl
    refine ⟨_, _, rfl, X3.setHeld (kvs' := putK kvs' (keyOf ky) (.str r.buyer)) (held' := fun y => if y ∈ (s.moves r).take (i + 1) then r.buyer else s.held y) (by omega) (fun y hy => ?_), by omega, s3.trans (Stp.mut X2.mp.2.1)⟩
    rw [valV_put]
    by_cases e1 : keyOf y = keyOf ky
    · rw [if_pos e1, tk, if_pos (by rw [keyOf_inj e1]; simp)]
    · rw [if_neg e1]
      have := X3.hv y hy
      rw [this, tk]
      have e2 : y ≠ ky := fun q => e1 (by rw [q])
      simp [e2]
  · rintro σ H3 ⟨kvs', x7, rfl, X3, le3, s3⟩
    have el : (ks.map V.ref).length = (s.moves r).length := by rw [List.length_map, hks1.1]
    rw [el, List.take_length] at X3
    refine good_l X3 (by omega) (s3.sub _ _ hl1) (hks1.mono fun _ _ z => s3.sub _ _ z) hin.ok.th fun H' W' X' st' => ?_
    have em : s.take bs (.pr r) = { s with held := fun y => if y ∈ s.moves r then r.buyer else s.held y, good := s.good ++ [(r, s.moves r)] } := by
      show (if ((s.spoilt r.th.bed).isNone && s.holds r) = true then s.go r else s.void r) = _
      rw [esp, hyes]
      show s.go r = _
      unfold SM.go
      split
      · rename_i b u e; exact absurd e (hns b u)
      · rfl
    rw [em] at kn
    exact kn _ H' W' X' (s3.trans st')
def sp_l_promised (K : PySem.W.Frag) : Sp := fun vs H Q _ => ∃ (d a : Addr) (M : List Addr) (bs : List Bd) (s : SM) (n : Nat) (W : LsW) (r : Pr) (b : Bd), vs = [.ref d, .ref a] ∧ LsX M H d bs s n W ∧ n ≤ 1000 ∧ RwAt K (hid M H) a (.pr r) ∧ PrL bs r b ∧
  ∀ H' W', LsX M H' d bs (s.take bs (.pr r)) (n + 2) W' → Stp M H M H' → Q .non H'
theorem ok_l_promised (T : Tx K mg) : FnOk P w K mg base CX0 2 (He.ga K "_law_promised") (fdOf K dd_l_promised) ["_law_state", "_law_row"] (sp_l_promised K) := by
  refine okF T.d_l_promised sc_l_promised (fun vs H Q E h => ?_) (fun cdv A outer s H vs Q E hr h => ?_)
  · obtain ⟨_, _, _, _, _, _, _, _, _, rfl, _⟩ := h; rfl
  · obtain ⟨d, a, M, bs, s, n, W, r, bd, rfl, X, hn, hr0, hin, k⟩ := h
    have hu := hu_of hr
    have hu65 := hu65_of hr
    refine ⟨_, (pss_cons (ps_asg (pe_ix (ix_tupK K rfl) (pv 1) pe_int (fun _ _ => rfl)) (pg_tup rfl (pgs_cons (pg_name (i := 2) sc_l_promised.nd rfl (by first | exact Or.inl rfl | exact Or.inr rfl)) (pgs_cons (pg_name (i := 3) sc_l_promised.nd rfl (by first | exact Or.inl rfl | exact Or.inr rfl)) (pgs_cons (pg_name (i := 4) sc_l_promised.nd rfl (by first | exact Or.inl rfl | exact Or.inr rfl)) pgs_nil)))))
      (pss_cons (ps_asg (pe_slice sl_tup (pv 1) (po_some pe_int) (po_some pe_int)) (pg_tup rfl (pgs_cons (pg_name (i := 5) sc_l_promised.nd rfl (by first | exact Or.inl rfl | exact Or.inr rfl)) (pgs_cons (pg_name (i := 6) sc_l_promised.nd rfl (by first | exact Or.inl rfl | exact Or.inr rfl)) (pgs_cons (pg_name (i := 7) sc_l_promised.nd rfl (by first | exact Or.inl rfl | exact Or.inr rfl)) (pgs_cons (pg_name (i := 8) sc_l_promised.nd rfl (by first | exact Or.inl rfl | exact Or.inr rfl)) pgs_nil))))))
      (pss_cons (ps_set (i := 9) sc_l_promised.nd rfl (by first | exact Or.inl rfl | exact Or.inr rfl) (pe_call (ok_l_keys T) (hr.mono (by decide)) rfl T.g_l_keys T.d_l_keys.kp T.b_l_keys .nil pass0 (pa_cons (pv 0) (pa_cons (pv 1) pa_nil))))
      (pss_cons (ps_if (pt_cmp (pc_din hu (pv 3) (pe_dget hu (pv 0) pe_str (fun _ _ => rfl)))) (pss_cons (ps_expr (pe_bm PySem.F.plainAttrs_list PySem.F.slot_list_append PySem.F.type_list_append mt_append (pe_dget hu (pv 0) pe_str (fun _ _ => rfl)) (pa_cons (pe_tup (pa_cons (pv 5) (pa_cons pe_str (pa_cons (pe_dget hu (pe_dget hu (pv 0) pe_str (fun _ _ => rfl)) (pv 3) (fun _ _ => rfl)) pa_nil)))) pa_nil)))
      (pss_one ps_retN)) pss_nil)
      (pss_cons (ps_set (i := 10) sc_l_promised.nd rfl (by first | exact Or.inl rfl | exact Or.inr rfl) (pe_dget hu (pe_dget hu (pv 0) pe_str (fun _ _ => rfl)) (pv 3) (fun _ _ => rfl)))
      (pss_cons (ps_set (i := 11) sc_l_promised.nd rfl (by first | exact Or.inl rfl | exact Or.inr rfl) pe_int)
      (pss_cons (ps_if (pt_cmpR op_eq (pv 2) pe_str (nomark _)) (pss_one (ps_set (i := 11) sc_l_promised.nd rfl (by first | exact Or.inl rfl | exact Or.inr rfl) (pe_op op_fdiv (pe_op op_mul (pe_fldK K rfl (pv 4) rfl) pe_int) (pe_fldK K rfl (pv 4) rfl)))) pss_nil)
      (pss_cons (ps_set (i := 12) sc_l_promised.nd rfl (by first | exact Or.inl rfl | exact Or.inr rfl) (pe_and (pe_cmpR op_eq (pv 2) pe_str (nomark _)) (pe_one (pe_cmpR op_lt (pe_dget2 hu (pv 10) (pv 7) pe_int ⟨rfl, rfl, rfl, rfl⟩) (pv 11) (nomark _)))))
      (pss_cons (ps_if (PW.pt (pw_or (pt_val (pv 12)) (pw_or1 (PW.pt (pw_and (pt_cmpR op_ne (pv 2) pe_str (nomark _)) (pw_and1 (pt_cmpR op_ne (pe_dget hu (pe_dget hu (pv 0) pe_str (fun _ _ => rfl)) (pe_ix (ix_tupK K rfl) (pv 1) pe_int (fun _ _ => rfl)) (fun _ _ => rfl)) (pv 7) (nomark _)))))))) (pss_cons (ps_setLc (i := 13) (own := [("_law_entry", 14)]) (g := gName 14) rfl sc_l_promised.nd rfl rfl (sw_true rfl rfl rfl (by decide +kernel)) (pi_list (pe_dget hu (pv 0) pe_str (fun _ _ => rfl))) (blkOk_by (own := [("_law_entry", 14)]) (N := N_l_promised) (sc := defScope s_l_promised) (by decide +kernel)) (fun _ _ _ _ _ => (pg_name (i := 14) sc_l_promised.nd rfl (Or.inl rfl))) (fun _ _ _ _ _ => (pts_one (PW.pt (pw_and (pt_cmpR op_eq (pe_ix (ix_tupK K rfl) (pv 14) pe_int (fun _ _ => rfl)) (pv 7) (nomark _)) (pw_and1 (pt_cmpR (op_inDK K rfl hu65) (pe_ix (ix_listK K rfl) (pv 9) pe_int (fun _ _ => rfl)) (pe_ix (ix_tupK K rfl) (pv 14) pe_int (fun _ _ => rfl)) (by rfl))))))) (fun _ _ _ _ _ => (pe_ix (ix_tupK K rfl) (pv 14) pe_int (fun _ _ => rfl))))
      (pss_cons (ps_expr (pe_bm PySem.F.plainAttrs_list PySem.F.slot_list_append PySem.F.type_list_append mt_append (pe_dget hu (pv 0) pe_str (fun _ _ => rfl)) (pa_cons (pe_tup (pa_cons (pv 5) (pa_cons (pe_ix (ix_listK K rfl) (pe_lst (pa_cons pe_str (pa_cons pe_str pa_nil))) (pe_callTy call_int1 (by rfl) T.f_int (by decide +kernel) (pa_cons (pe_cmpR (op_neDK K rfl hr.units) (pv 13) (pe_lst pa_nil) (nomark _)) pa_nil)) (fun _ _ => rfl)) (pa_cons (pe_ix (ix_listK K rfl) (pe_op op_cat (pe_lst (pa_cons pe_non pa_nil)) (pv 13)) (pe_un un_neg pe_int) (fun _ _ => rfl)) pa_nil)))) pa_nil)))
      (pss_one ps_retN))) pss_nil)
      (pss_cons (ps_if (pt_cmpR op_eq (pv 2) pe_str (nomark _)) (pss_cons (ps_dput hu (pv 10) (pv 7) (pe_op op_sub (pe_dget hu (pv 10) (pv 7) (fun _ _ => rfl)) (pv 11)) rfl)
      (pss_one (ps_dput hu (pv 10) (pv 8) (pe_op op_add (pe_dget2 hu (pv 10) (pv 8) pe_int ⟨rfl, rfl, rfl, rfl⟩) (pv 11)) rfl))) (pss_one (ps_for PassesOwn.never rfl (pi_list (pv 9)) (pg_name (i := 15) sc_l_promised.nd rfl (by first | exact Or.inl rfl | exact Or.inr rfl)) (pss_one (ps_dput hu (pe_dget hu (pv 0) pe_str (fun _ _ => rfl)) (pv 15) (pv 8) rfl)))))
      (pss_one (ps_expr (pe_bm PySem.F.plainAttrs_list PySem.F.slot_list_append PySem.F.type_list_append mt_append (pe_dget hu (pv 0) pe_str (fun _ _ => rfl)) (pa_cons (pe_tup (pa_cons (pv 5) (pa_cons (pv 7) (pa_cons (pv 9) (pa_cons (pv 3) pa_nil))))) pa_nil)))))))))))))), ?_⟩
    obtain ⟨t, h1, ht⟩ := id hr0
    have g1 : H a = some (.tup (rwV r t)) := hid_same _ _ h1
    obtain ⟨z, v, hz⟩ := ht.tup
    have hz1 := hid_same _ _ hz
    refine ⟨_, rfl, a, _, _, _, rfl, rfl, .of g1, atI_nat (j := 5) rfl, t, _, rfl, .of hz1, rfl, _, _, rfl, _, _, rfl, _, _, rfl, rfl, ?_⟩
    refine ⟨_, rfl, _, rfl, _, rfl, a, _, rfl, .of g1, (by show ¬ (HT.sIx 10 0 (some 1) = 0 ∧ HT.sIx 10 10 (some 5) = 10); decide), fun p0 np0 => ?_⟩
    have ecut : cutV (rwV r t) (some 1) (some 5) = [.int r.num, .int r.mom, .str r.seller, .str r.buyer] := rfl
    rw [ecut]
    generalize hh : upd H p0 _ = H1; obtain ⟨s1, hp0⟩ := gen_new hh np0; clear hh
    refine ⟨p0, _, rfl, .of hp0, rfl, _, _, rfl, _, _, rfl, _, _, rfl, _, _, rfl, rfl, ?_⟩
    have X1 := X.grow s1
    have hr1 : RwAt K (hid M H1) a (.pr r) := hr0.same (Stp.grow s1).sub
    refine ⟨_, rfl, _, rfl, d, a, M, bs, s, n, W, r, bd, rfl, X1, hr1, hin, fun l ks H2 s2 nl hl hks => ?_⟩
    have X2 := X1.grow s2
    have nlM := X1.notM nl
    have s02 := s1.trans s2
    clear X1 hr1
    have g2 := s02 _ _ g1
    have vlen := X.vl
    have gS : DGet H2 W.sp (.str r.th.bed) ((s.spoilt r.th.bed).map V.int) := by
      have := DGet.k (k := Sum.inr r.th.bed) X2.sp
      rw [X2.sv r.th.bed] at this
      exact this
    cases esp : s.spoilt r.th.bed with
    | some m =>
      rw [esp] at gS
      refine ⟨_, rfl, _, rfl, _, _, rfl, dgs X2.ob st_spoilt, _, _, rfl, gS, true, rfl, iteT ?_⟩
      refine ⟨_, rfl, _, _, rfl, dgs X2.ob st_voids, .inl ⟨rfl, _, .of X2.v⟩, _, rfl, _, rfl, _, _, rfl, dgs X2.ob st_spoilt, _, rfl, _, _, rfl, gS, by show 3 ≤ sizeLine; decide, fun tt nt => ?_⟩
      generalize hh : upd H2 tt _ = H3; obtain ⟨s3, h3⟩ := gen_new hh nt; clear hh
      have X3 := X2.grow s3
      refine ⟨_, _, _, rfl, rfl, X3.v, by rw [List.length_map]; exact Nat.lt_of_le_of_lt (Nat.le_trans vlen hn) (by decide), ?_⟩
      have vd : VdAt (hid M H3) tt (r.num, "spoiled", some m) := X3.tupM h3
      have X4 := X3.addVoid vd
      have em : s.take bs (.pr r) = { s with voids := s.voids ++ [(r.num, ("spoiled" : Str), some m)] } := by
        show (if ((s.spoilt r.th.bed).isNone && s.holds r) = true then s.go r else s.void r) = _
        rw [esp]
        show s.void r = _
        unfold SM.void
        rw [esp]
      rw [← em] at X4
      rw [List.map_append] at X4
      exact k _ _ (X4.mono (by omega)) ((Stp.grow (s02.trans s3)).trans (Stp.mut X3.mp.2.2.2.2.2.1))
    | none =>
      rw [esp] at gS
      refine ⟨_, rfl, _, rfl, _, _, rfl, dgs X2.ob st_spoilt, _, _, rfl, gS, false, rfl, iteF ?_⟩
      have C0 : PmX K d l ks M H2 bs s n W r bd := ⟨X2, hn, hin, hl, nlM, hks, esp⟩
      have k2 : ∀ H' W', LsX M H' d bs (s.take bs (.pr r)) (n + 2) W' → Stp M H2 M H' → Q .non H' := fun H' W' X' st => k H' W' X' ((Stp.grow s02).trans st)
      have bnm : r.th.bed = bd.name := hin.inb.bed
      obtain ⟨da, p1, p2, p3, p4⟩ := X2.pv bd hin.m
      have gP : DGet H2 W.pp (.str r.th.bed) (some (.ref da)) := by
        have := DGet.k (k := Sum.inr bd.name) X2.hp
        rw [p2] at this
        rw [bnm]
        exact this
      refine ⟨_, rfl, _, _, rfl, dgs X2.ob st_parts, _, rfl, _, _, rfl, gP, ?_⟩
      by_cases hsh : ∃ b u, r.th = .share b u
      · obtain ⟨b, u, eth⟩ := hsh
        rw [eth] at ht
        obtain ⟨q, ht1, hq⟩ := ht
        have hz3 := hid_same _ _ ht1
        have hz4 := hid_same _ _ hz
        rw [hz4] at hz3
        injection hz3 with e1; injection e1 with e1; injection e1 with e1 e2; injection e2 with e2 e3; injection e3 with e3; injection e1 with e1
        subst e1 e3
        have ok := hin.ok.th
        rw [eth] at ok
        obtain ⟨okn, u0, u1, u12⟩ := ok
        obtain ⟨dq, hq1⟩ := (hq.same hid_same).same s02
        have nu : num u ≤ 27720 := Nat.le_trans (Nat.div_le_self _ _) u1
        have dp := den_pos u
        refine ⟨_, rfl, rfl, _, rfl, iteD rfl ⟨_, rfl, _, _, _, _, _, rfl, hq1, T.c_Part, T.n_Part_top, l_Part_top, _, _, rfl, rfl, .inl ⟨by omega, by omega⟩, _, rfl, _, _, _, _, _, rfl, hq1, T.c_Part, T.n_Part_bottom, l_Part_bottom, _, _, rfl, rfl, ⟨by omega, by omega⟩, ?_⟩⟩
        have bb : b = bd.name := by
          have := hin.inb
          rw [eth] at this
          exact this.1
        rw [bb] at eth
        exact share_l C0 eth p1 p3 p4 _ (units_exact u) k2 fun σ H' W' X' st => k2 H' W' X' st
      · have hns : ∀ b u, r.th ≠ .share b u := fun b u e => hsh ⟨b, u, e⟩
        have zne : V.str z ≠ V.str "share" := by
          cases eth : r.th with
          | root b j =>
            rw [eth] at ht
            have hz3 : hid M H t = some (.tup [.str "root", .str b, .int j]) := ht
            rw [hz] at hz3
            injection hz3 with e1; injection e1 with e1; injection e1 with e1 e2; injection e1 with e1; subst e1
            exact vne kne2
          | offs b j =>
            rw [eth] at ht
            have hz3 : hid M H t = some (.tup [.str "offsets", .str b, .int j]) := ht
            rw [hz] at hz3
            injection hz3 with e1; injection e1 with e1; injection e1 with e1 e2; injection e1 with e1; subst e1
            exact vne kne4
          | share b u => exact absurd eth (hns b u)
        have tky : KyAt H2 t r.th.key := s02 _ _ (hid_same _ _ (ht.ky hns))
        have gH : DGet H2 W.h (.ref t) (some (.str (s.held r.th.key))) := by
          have := DGet.t (k := keyOf r.th.key) X2.hh tky
          rw [X2.hv _ (hin.ky hns)] at this
          exact this
        have eh : s.holds r = decide (s.held r.th.key = r.seller) := by
          unfold SM.holds
          split
          · rename_i e; exact absurd e (hns _ _)
          · rfl
        refine ⟨_, rfl, rfl, _, rfl, iteDn zne ⟨_, rfl, rfl, _, rfl, iteDn zne ⟨_, rfl, _, rfl, iteF ⟨_, rfl, rfl, _, rfl, iteN zne ⟨_, rfl, _, _, rfl, dgs X2.ob st_held, _, rfl, a, _, _, _, rfl, rfl, .of g2, atI_nat (j := 5) rfl, _, _, rfl, gH, _, rfl, rfl, _, rfl, ?_⟩⟩⟩⟩⟩
        rw [strd]
        by_cases hy : s.held r.th.key = r.seller
        · refine iteNS hy ?_
          exact held_l C0 hns (by rw [eh]; exact decide_eq_true hy) zne fun σ H' W' X' st => k2 H' W' X' st
        · exact iteN hy (void_l C0 (by rw [eh]; exact decide_eq_false hy) k2)
end
end Rp


set_option maxRecDepth 100000
set_option maxHeartbeats 4000000
namespace Rp
open PySem PySem.Spec PyProof.Rows L2
section
variable {P : Program} {w : World} {K : PySem.W.Frag} {mg : Str → Option Value} {base : Heap}
def sp_l_spoiled (K : PySem.W.Frag) : Sp := fun vs H Q _ => ∃ (d dl a : Addr) (M : List Addr) (bs : List Bd) (ts : List Addr) (s : SM) (n : Nat) (W : LsW) (num mom : Int) (b : Bd), vs = [.ref d, .ref dl, .ref a] ∧ LsX M H d bs s n W ∧ n ≤ 1000 ∧ RwAt K (hid M H) a (.sp num mom b.name) ∧ b ∈ bs ∧ (bs.map Bd.name).Nodup ∧ (∀ b ∈ bs, b.Ok) ∧ bs.length ≤ 3 ∧
  hid M H dl = some (.lst (ts.map V.ref)) ∧ L2R (BdrAt (hid M H)) ts bs ∧
  ∀ H' M' W', LsX M' H' d bs (s.take bs (.sp num mom b.name)) (n + 2) W' → Stp M H M' H' → Q .non H'
theorem bedOf_bd {bs : List Bd} {b : Bd} (nd : (bs.map Bd.name).Nodup) (hb : b ∈ bs) : bedOf bs b.name = b := by
  unfold bedOf
  cases e : bs.find? fun c => decide (c.name = b.name) with
  | none =>
    have := List.find?_eq_none.mp e b hb
    simp at this
  | some c =>
    have e2 : c.name = b.name := by simpa using List.find?_some e
    show c = b
    exact bd_inj nd (List.mem_of_find?_eq_some e) hb e2
theorem ok_l_spoiled (T : Tx K mg) : FnOk P w K mg base CX0 2 (He.ga K "_law_spoiled") (fdOf K dd_l_spoiled) ["_law_state", "_law_beds", "_law_row"] (sp_l_spoiled K) := by
  refine okF T.d_l_spoiled sc_l_spoiled (fun vs H Q E h => ?_) (fun cdv A outer s H vs Q E hr h => ?_)
  · obtain ⟨_, _, _, _, _, _, _, _, _, _, _, _, rfl, _⟩ := h; rfl
  · obtain ⟨d, dl, a, M, bs, ts, s, n, W, num, mom, b, rfl, X, hn, hr0, hb, dnd, dok, d3, hdl, hts, k⟩ := h
    have hu := hu_of hr
    refine ⟨_, (pss_cons (ps_set (i := 3) sc_l_spoiled.nd rfl (by first | exact Or.inl rfl | exact Or.inr rfl) (pe_ix (ix_tupK K rfl) (pv 2) pe_int (fun _ _ => rfl)))
      (pss_cons (ps_if (pt_cmp (pc_din hu (pv 3) (pe_dget hu (pv 0) pe_str (fun _ _ => rfl)))) (pss_one ps_retN) pss_nil)
      (pss_cons (ps_dput hu (pe_dget hu (pv 0) pe_str (fun _ _ => rfl)) (pv 3) (pe_ix (ix_tupK K rfl) (pv 2) pe_int (fun _ _ => rfl)) rfl)
      (pss_cons (ps_dput hu (pv 0) pe_str (pe_op op_cat (pe_dget hu (pv 0) pe_str (fun _ _ => rfl)) (pe_revL (pe_lc (own := [("_law_entry", 4)]) (g := gName 4) rfl sc_l_spoiled.nd (pi_list (pe_dget hu (pv 0) pe_str (fun _ _ => rfl))) (blkOk_by (own := [("_law_entry", 4)]) (N := N_l_spoiled) (sc := defScope s_l_spoiled) (by decide +kernel)) (fun _ _ _ _ _ => (pg_name (i := 4) sc_l_spoiled.nd rfl (Or.inl rfl))) (fun _ _ _ _ _ => (pts_one (pt_cmpR op_eq (pe_ix (ix_tupK K rfl) (pv 4) pe_int (fun _ _ => rfl)) (pv 3) (nomark _)))) (fun _ _ _ _ _ => (pe_ix (ix_tupK K rfl) (pv 4) pe_int (fun _ _ => rfl)))))) rfl)
      (pss_cons (ps_dput hu (pv 0) pe_str (pe_lc (own := [("_law_entry", 4)]) (g := gName 4) rfl sc_l_spoiled.nd (pi_list (pe_dget hu (pv 0) pe_str (fun _ _ => rfl))) (blkOk_by (own := [("_law_entry", 4)]) (N := N_l_spoiled) (sc := defScope s_l_spoiled) (by decide +kernel)) (fun _ _ _ _ _ => (pg_name (i := 4) sc_l_spoiled.nd rfl (Or.inl rfl))) (fun _ _ _ _ _ => (pts_one (pt_cmpR op_ne (pe_ix (ix_tupK K rfl) (pv 4) pe_int (fun _ _ => rfl)) (pv 3) (nomark _)))) (fun _ _ _ _ _ => (pv 4))) rfl)
      (pss_one (ps_expr (pe_call (ok_l_back T) (hr.mono (by decide)) rfl T.g_l_back T.d_l_back.kp T.b_l_back .nil pass0 (pa_cons (pv 0) (pa_cons (pe_ix (ix_listK K rfl) (pe_lc (own := [("_law_one", 5)]) (g := gName 5) rfl sc_l_spoiled.nd (pi_list (pv 1)) (blkOk_by (own := [("_law_one", 5)]) (N := N_l_spoiled) (sc := defScope s_l_spoiled) (by decide +kernel)) (fun _ _ _ _ _ => (pg_name (i := 5) sc_l_spoiled.nd rfl (Or.inl rfl))) (fun _ _ _ _ _ => (pts_one (pt_cmpR op_eq (pe_ix (ix_tupK K rfl) (pv 5) pe_int (fun _ _ => rfl)) (pv 3) (nomark _)))) (fun _ _ _ _ _ => (pv 5))) pe_int (fun _ _ => rfl)) pa_nil)))))))))), ?_⟩
    have g1 : H a = some (.tup [.str "spoil", .int num, .int mom, .str b.name]) := hid_same _ _ hr0
    have gS : DGet H W.sp (.str b.name) ((s.spoilt b.name).map V.int) := by
      have := DGet.k (k := Sum.inr b.name) X.sp
      rw [X.sv b.name] at this
      exact this
    refine ⟨_, rfl, a, _, _, _, rfl, rfl, .of g1, atI_nat (j := 3) rfl, ?_⟩
    cases es : s.spoilt b.name with
    | some m =>
      rw [es] at gS
      refine ⟨_, rfl, _, rfl, _, _, rfl, dgs X.ob st_spoilt, _, _, rfl, gS, true, rfl, iteT ?_⟩
      have em : s.take bs (.sp num mom b.name) = s := by show s.spoil bs num b.name = s; unfold SM.spoil; rw [es]
      rw [em] at k
      exact k H M W (X.mono (by omega)) Stp.refl
    | none =>
      rw [es] at gS
      have slen := X.sl
      refine ⟨_, rfl, _, rfl, _, _, rfl, dgs X.ob st_spoilt, _, _, rfl, gS, false, rfl, iteF ?_⟩
      refine ⟨_, rfl, a, _, _, _, rfl, rfl, .of g1, atI_nat (j := 1) rfl, _, rfl, _, _, rfl, dgs X.ob st_spoilt, _, rfl, _, _, rfl, DPut.k (k := .inr b.name) X.sp (Nat.lt_of_le_of_lt (Nat.le_trans slen hn) (by decide)), ?_⟩
      have X1 := X.setSpoilt b.name num
      have s1 : Stp M H M _ := Stp.mut (o := .dK (putK W.svs (.inr b.name) (.int num))) X.mp.2.2.2.1
      generalize upd H W.sp (.dK (putK W.svs (.inr b.name) (.int num))) = H1 at X1 s1 ⊢
      have em : s.take bs (.sp num mom b.name) = SM.back { s with spoilt := fun n => if n = b.name then some num else s.spoilt n, gone := s.gone ++ ((s.good.filter fun e : Pr × List Ky => decide (e.1.th.bed = b.name)).map fun e => e.1.num).reverse, good := s.good.filter fun e : Pr × List Ky => !decide (e.1.th.bed = b.name) : SM } b := by
        show s.spoil bs num b.name = _
        unfold SM.spoil
        rw [es]
        show SM.back _ (bedOf bs b.name) = _
        rw [bedOf_bd dnd hb]
      rw [em] at k
      have glen : W.es.length + s.gone.length ≤ n := X.gl
      have eg : W.es.length = s.good.length := X.ge.1
      have hts1 : L2R (BdrAt (hid M H1)) ts bs := hts.mono fun _ _ e => s1.sub _ _ e
      have hdl1 := s1.sub _ _ hdl
      refine ⟨_, rfl, _, _, rfl, dgs X1.ob st_gone, _, rfl, _, _, rfl, dgs X1.ob st_good, _, rfl, ⟨_, .of X1.g⟩, fun C nC => ?_⟩
      refine lc_it walk_list (fun i H' => Same H1 H' ∧ H' C = some (.lst (((s.good.take i).filter (fun e : Pr × List Ky => decide (e.1.th.bed = b.name))).map fun e => V.int e.1.num)))
        ⟨same_new nC, upd_same⟩ (fun i H' _ z => z.1.seq (.of X1.g)) ?_ ?_
      · rintro i y H2 H3 hi ⟨s2, hC⟩ ⟨rfl, hy⟩
        obtain ⟨e, he, rfl⟩ := ref_at hy
        obtain ⟨en, hen, la, ls, e1, e2, e3, e4⟩ := X1.ge.left he
        have q1 := s2 _ _ (hid_same _ _ e1)
        have tk : s.good.take (i + 1) = s.good.take i ++ [en] := by rw [List.take_add_one, show s.good[i]? = some en from hen]; rfl
        refine ⟨rfl, _, rfl, e, _, _, _, rfl, rfl, .of q1, atI_nat (j := 3) rfl, _, rfl, rfl, _, rfl, ?_⟩
        by_cases eb : en.1.th.bed = b.name
        · refine iteD (congrArg V.str eb) ⟨_, rfl, e, _, _, _, rfl, rfl, .of q1, atI_nat (j := 0) rfl, _, hC, ?_, same_mut s2 nC, ?_⟩
          · rw [List.length_map]
            refine Nat.lt_of_le_of_lt (List.length_filter_le _ _) ?_
            rw [List.length_take]
            refine Nat.lt_of_le_of_lt (Nat.min_le_right _ _) (Nat.lt_of_le_of_lt (m := 1000) (by omega) (by decide))
          · rw [upd_same, tk, List.filter_append, List.map_append]
            simp [eb]
        · refine iteDn (vne eb) ⟨s2, ?_⟩
          rw [tk, List.filter_append, List.map_append]
          simp [eb, hC]
      · rintro H2 ⟨s2, hC⟩
        have el : (W.es.map V.ref).length = s.good.length := by rw [List.length_map, eg]
        have hC : H2 C = some (.lst (((s.good.take (W.es.map V.ref).length).filter (fun e : Pr × List Ky => decide (e.1.th.bed = b.name))).map fun e => V.int e.1.num)) := hC
        rw [el, List.take_length] at hC
        have X2 := X1.grow s2
        refine ⟨C, _, rfl, .of hC, fun p np => ?_⟩
        generalize hh : upd H2 p _ = H3; obtain ⟨s3, hp⟩ := gen_new hh np; clear hh
        have X3 := X2.grow s3
        have fl := flen (fun e : Pr × List Ky => decide (e.1.th.bed = b.name)) s.good
        have fl2 : (s.good.filter (fun e : Pr × List Ky => !decide (e.1.th.bed = b.name))).length + (s.good.filter (fun e : Pr × List Ky => decide (e.1.th.bed = b.name))).length = s.good.length := by omega
        refine ⟨_, p, _, _, rfl, rfl, X3.gn, hp, ?_, fun q nq => ?_⟩
        · rw [List.length_map, List.length_reverse, List.length_map]
          refine Nat.le_of_lt (Nat.lt_of_le_of_lt (m := 2000) ?_ (by decide))
          show s.gone.length + _ ≤ 2000
          omega
        have eadd : (s.gone.map V.int ++ ((s.good.filter (fun e : Pr × List Ky => decide (e.1.th.bed = b.name))).map fun e => V.int e.1.num).reverse) = (s.gone ++ ((s.good.filter (fun e : Pr × List Ky => decide (e.1.th.bed = b.name))).map fun e => e.1.num).reverse).map V.int := by
          rw [List.map_append, List.map_reverse, List.map_map]; rfl
        generalize hh : upd H3 q _ = H4; obtain ⟨s4, hq⟩ := gen_new hh nq; clear hh
        have X4 := X3.grow s4
        have hq : H4 q = some (.lst ((s.gone ++ ((s.good.filter (fun e : Pr × List Ky => decide (e.1.th.bed = b.name))).map fun e => e.1.num).reverse).map V.int)) := hq.trans (congrArg (fun z => some (HO.lst z)) eadd)
        refine ⟨_, rfl, _, _, rfl, DPut.k (k := .inr "gone") X4.ob (by show 6 < sizeLine; decide), ?_⟩
        rw [put_gone]
        generalize e5 : upd H4 d _ = H5
        obtain ⟨hd5, f5⟩ := gen_upd e5
        clear e5
        have g5 : H5 W.g = some (.lst (W.es.map V.ref)) := f5 _ _ (ne_of X4.g X4.ob (by intro q; cases q)) X4.g
        have st5 : Same (hid M H3) H5 := fun c o e => by
          obtain ⟨m, e⟩ := of_hid e
          exact f5 _ _ (fun z => m (by rw [z]; exact X4.mp.1)) (s4 _ _ e)
        refine ⟨_, rfl, _, _, rfl, dgs hd5 st_good, _, rfl, ⟨_, .of g5⟩, fun G nG => ?_⟩
        refine lc_it walk_list (fun i H' => Same H5 H' ∧ ∃ es' : List Addr, H' G = some (.lst (es'.map V.ref)) ∧ L2R (LEnt (hid M H3)) es' ((s.good.take i).filter (fun e : Pr × List Ky => !decide (e.1.th.bed = b.name))))
          ⟨same_new nG, [], upd_same, .nil⟩ (fun i H' _ z => z.1.seq (.of g5)) ?_ ?_
        · rintro i y H6 H7 hi ⟨s6, es', hG, hes⟩ ⟨rfl, hy⟩
          obtain ⟨e, he, rfl⟩ := ref_at hy
          obtain ⟨en, hen, ent⟩ := X3.ge.left he
          obtain ⟨la, ls, e1, _⟩ := id ent
          have q1 := s6 _ _ (st5 _ _ e1)
          have tk : s.good.take (i + 1) = s.good.take i ++ [en] := by rw [List.take_add_one, show s.good[i]? = some en from hen]; rfl
          refine ⟨rfl, _, rfl, e, _, _, _, rfl, rfl, .of q1, atI_nat (j := 3) rfl, _, rfl, rfl, _, rfl, ?_⟩
          by_cases eb : en.1.th.bed = b.name
          · refine iteNS (congrArg V.str eb) ⟨s6, es', hG, ?_⟩
            rw [tk, List.filter_append]
            have fe : [en].filter (fun e : Pr × List Ky => !decide (e.1.th.bed = b.name)) = [] := by simp [eb]
            rw [fe, List.append_nil]
            exact hes
          · refine iteN (vne eb) ⟨_, rfl, _, hG, ?_, same_mut s6 nG, es' ++ [e], by rw [upd_same, List.map_append]; rfl, ?_⟩
            · rw [List.length_map, hes.1]
              refine Nat.lt_of_le_of_lt (List.length_filter_le _ _) ?_
              rw [List.length_take]
              refine Nat.lt_of_le_of_lt (Nat.min_le_right _ _) (Nat.lt_of_le_of_lt (m := 1000) (by omega) (by decide))
            · rw [tk, List.filter_append]
              have fe : [en].filter (fun e : Pr × List Ky => !decide (e.1.th.bed = b.name)) = [en] := by simp [eb]
              rw [fe]
              exact hes.snoc ent
        · rintro H6 ⟨s6, es', hG, hes⟩
          have hes : L2R (LEnt (hid M H3)) es' ((s.good.take (W.es.map V.ref).length).filter (fun e : Pr × List Ky => !decide (e.1.th.bed = b.name))) := hes
          rw [el, List.take_length] at hes
          have hd6 := s6 _ _ hd5
          have nG4 : H4 G = none := by
            cases e : H4 G with
            | none => rfl
            | some o =>
              by_cases z : G = d
              · rw [z, hd5] at nG; cases nG
              · rw [f5 _ _ z e] at nG; cases nG
          refine ⟨_, rfl, _, _, rfl, DPut.k (k := .inr "good") hd6 (by show 6 < sizeLine; decide), ?_⟩
          rw [put_good]
          have Gd : G ≠ d := (ne_of_none hd5 nG).symm
          have nq3 : H3 q = none := nq
          have qd : q ≠ d := ne_of hq X4.ob (by intro z; cases z)
          have hq6 := s6 _ _ (f5 _ _ qd hq)
          have Gq : G ≠ q := (ne_of_none (f5 _ _ qd hq) nG).symm
          have G3 : H3 G = none := s4.free nG4
          generalize e7 : upd H6 d _ = H7
          obtain ⟨hd7, f7⟩ := gen_upd e7
          clear e7
          obtain ⟨M', W', X7, st7, eW⟩ := X3.cut (H' := H7) (g' := G) (gn' := q) (es' := es') (good' := s.good.filter (fun e : Pr × List Ky => !decide (e.1.th.bed = b.name))) (add := ((s.good.filter (fun e : Pr × List Ky => decide (e.1.th.bed = b.name))).map fun e => e.1.num).reverse) G3 nq3 Gq
            (fun c o n e => f7 _ _ n (s6 _ _ (f5 _ _ n (s4 _ _ e)))) hd7 (f7 _ _ qd hq6) (f7 _ _ Gd hG)
            (by
              show es'.length + _ ≤ W.es.length
              rw [hes.1, List.length_reverse, List.length_map, eg]
              omega) hes
          have s17 : Stp M H1 M' H7 := (Stp.grow (s2.trans s3)).trans st7
          have hdl7 := s17.sub _ _ hdl1
          have hts7 : L2R (BdrAt (hid M' H7)) ts bs := hts1.mono fun _ _ e => s17.sub _ _ e
          have dl7 := hid_same _ _ hdl7
          refine ⟨_, rfl, _, rfl, dl, rfl, ⟨_, .of dl7⟩, fun D nD => ?_⟩
          refine lc_it walk_list (fun i H' => Same H7 H' ∧ ∃ ds : List Addr, H' D = some (.lst (ds.map V.ref)) ∧ L2R (BdrAt (hid M' H7)) ds ((bs.take i).filter fun c => decide (c.name = b.name)))
            ⟨same_new nD, [], upd_same, .nil⟩ (fun i H' _ z => z.1.seq (.of dl7)) ?_ ?_
          · rintro i y H8 H9 hi ⟨s8, ds, hD, hds⟩ ⟨rfl, hy⟩
            obtain ⟨t, ht, rfl⟩ := ref_at hy
            obtain ⟨c, hc, e1⟩ := hts7.left ht
            have q1 : H9 t = some (.tup (bdV c)) := s8 _ _ (hid_same _ _ e1)
            have il : i < bs.length := (List.getElem?_eq_some_iff.mp hc).1
            have tk : bs.take (i + 1) = bs.take i ++ [c] := by rw [List.take_add_one, hc]; rfl
            refine ⟨rfl, _, rfl, t, _, _, _, rfl, rfl, .of q1, atI_nat (j := 0) rfl, _, rfl, rfl, _, rfl, ?_⟩
            by_cases eb : c.name = b.name
            · refine iteD (congrArg V.str eb) ⟨_, rfl, _, hD, ?_, same_mut s8 nD, ds ++ [t], by rw [upd_same, List.map_append]; rfl, ?_⟩
              · rw [List.length_map, hds.1]
                refine Nat.lt_of_le_of_lt (List.length_filter_le _ _) ?_
                rw [List.length_take]
                refine Nat.lt_of_le_of_lt (Nat.min_le_right _ _) (Nat.lt_of_le_of_lt (m := 10) (by omega) (by decide))
              · rw [tk, List.filter_append]
                have fe : ([c].filter fun c => decide (c.name = b.name)) = [c] := by simp [eb]
                rw [fe]
                exact hds.snoc e1
            · refine iteDn (vne eb) ⟨s8, ds, hD, ?_⟩
              rw [tk, List.filter_append]
              have fe : ([c].filter fun c => decide (c.name = b.name)) = [] := by simp [eb]
              rw [fe, List.append_nil]
              exact hds
          · rintro H8 ⟨s8, ds, hD, hds⟩
            have elb : bs.take (ts.map V.ref).length = bs := by rw [List.length_map, hts.1]; exact List.take_length
            rw [elb] at hds
            obtain ⟨c, hc⟩ : ∃ c, (bs.filter fun c => decide (c.name = b.name))[0]? = some c := by
              have hm : b ∈ bs.filter fun c => decide (c.name = b.name) := List.mem_filter.mpr ⟨hb, decide_eq_true rfl⟩
              cases e : bs.filter fun c => decide (c.name = b.name) with
              | nil => rw [e] at hm; cases hm
              | cons x r => exact ⟨x, rfl⟩
            have cb : c = b := by
              obtain ⟨c1, c2⟩ := List.mem_filter.mp (List.mem_of_getElem? hc)
              exact bd_inj dnd c1 hb (of_decide_eq_true c2)
            subst cb
            obtain ⟨tb, htb, e1⟩ := hds.right hc
            have X8 := X7.grow s8
            have e8 : BdrAt H8 tb c := s8 _ _ (hid_same _ _ e1)
            have hl := X8.hl
            have hpl := X8.hpl
            refine ⟨D, _, _, .ref tb, rfl, rfl, .of hD, atI_nat (j := 0) (by rw [List.getElem?_map, htb]; rfl), ?_⟩
            refine ⟨d, W'.h, W'.pp, tb, _, c, W'.kvs, W'.pvs, rfl, X8.ob, st_held, st_parts, X8.ne.1.1, X8.hh, X8.hp, by omega, by omega, e8, (dok c hb).r2, fun H9 kvs' aa m1 m2 m3 m4 m5 m6 m7 => ?_⟩
            have inj : ∀ y ∈ bs, y.name = c.name → y = c := fun y hy e => bd_inj dnd hy hb e
            obtain ⟨M9, W9, X9, st9⟩ := X8.backed (x := c) (bs' := bs) inj inj (fun y hy => .inl hy) m1 m2 m3 m4 m5 m6 m7
            exact k H9 M9 W9 X9 (s1.trans (s17.trans ((Stp.grow s8).trans st9)))
end
end Rp


set_option maxRecDepth 100000
set_option maxHeartbeats 4000000
namespace Rp
open PySem PySem.Spec PyProof.Rows L2
theorem perm_map_inv {α β : Type} {f : α → β} {ys l : List β} (h : ys.Perm l) : ∀ zs : List α, l = zs.map f → ∃ zs' : List α, zs'.Perm zs ∧ ys = zs'.map f := by
  induction h with
  | nil =>
    intro zs e
    cases zs with
    | nil => exact ⟨[], .nil, rfl⟩
    | cons z r => cases e
  | cons x p ih =>
    intro zs e
    cases zs with
    | nil => cases e
    | cons z r =>
      injection e with e1 e2
      obtain ⟨r', p', e'⟩ := ih r e2
      exact ⟨z :: r', p'.cons z, by rw [List.map_cons, ← e', e1]⟩
  | swap x y l =>
    intro zs e
    cases zs with
    | nil => cases e
    | cons z r =>
      cases r with
      | nil => cases e
      | cons z2 r =>
        injection e with e1 e2
        injection e2 with e2 e3
        exact ⟨z2 :: z :: r, List.Perm.swap _ _ _, by rw [List.map_cons, List.map_cons, ← e1, ← e2, ← e3]⟩
  | trans p q ih1 ih2 =>
    intro zs e
    obtain ⟨m, p1, e1⟩ := ih2 zs e
    obtain ⟨m2, p2, e2⟩ := ih1 m e1
    exact ⟨m2, p2.trans p1, e2⟩
theorem code3 (x y k : Int) : TS.code 1000 [x, y, k] = x * 1000000 + (y * 1000 + k) := by
  have e2 : (1000 : Int) ^ 2 = 1000000 := by decide
  have e1 : (1000 : Int) ^ 1 = 1000 := by decide
  have e0 : (1000 : Int) ^ 0 = 1 := by decide
  show x * 1000 ^ 2 + (y * 1000 ^ 1 + (k * 1000 ^ 0 + 0)) = _
  rw [e2, e1, e0, Int.mul_one, Int.add_zero]
def LnBd (l : Ln) : Prop := 0 ≤ l.mom ∧ l.mom < 1000 ∧ 0 ≤ l.num ∧ l.num < 1000
theorem RwAt.two {K : PySem.W.Frag} {H : Hp} {a : Addr} {l : Ln} (h : RwAt K H a l) : ∃ xs, H a = some (.tup xs) ∧ xs[1]? = some (.int l.num) ∧ xs[2]? = some (.int l.mom) := by
  cases l with
  | pr r => obtain ⟨t, e, _⟩ := h; exact ⟨_, e, rfl, rfl⟩
  | sp n m b => exact ⟨_, h, rfl, rfl⟩
section
variable {P : Program} {w : World} {K : PySem.W.Frag} {mg : Str → Option Value} {base : Heap}
def sp_l_in_time (K : PySem.W.Frag) : Sp := fun vs H Q _ => ∃ (a : Addr) (as : List Addr) (ls : List Ln), vs = [.ref a] ∧ H a = some (.lst (as.map V.ref)) ∧ L2R (RwAt K H) as ls ∧ (∀ l ∈ ls, LnBd l) ∧ (ls.map Ln.num).Nodup ∧ ls.length ≤ 30 ∧
  ∀ l cs H', Same H H' → H l = none → H' l = some (.lst (cs.map V.ref)) → L2R (RwAt K H') cs (inTime ls) → Q (.ref l) H'
theorem ok_l_in_time (T : Tx K mg) : FnOk P w K mg base CX0 1 (He.ga K "_law_in_time") (fdOf K dd_l_in_time) ["_law_rows_here"] (sp_l_in_time K) := by
  refine okF T.d_l_in_time sc_l_in_time (fun vs H Q E h => ?_) (fun cdv A outer s H vs Q E hr h => ?_)
  · obtain ⟨_, _, _, rfl, _⟩ := h; rfl
  · obtain ⟨a, as, ls, rfl, ha, has, lb, nd, len, k⟩ := h
    refine ⟨_, (pss_one (ps_ret (pe_lc (own := [("_law_moment", 1), ("_law_number", 2), ("_law_k", 3)]) (g := gTup K 3 (gCons (gName 1) (gCons (gName 2) (gCons (gName 3) gNil)))) (tt := tYes) rfl sc_l_in_time.nd (pi_list (pe_callB (cr_sortT (d := 3) (B := 1000) (by decide)) (by rfl) T.f_sorted (by decide +kernel) (pa_cons (pe_lc (own := [("_law_k", 3), ("_law_row", 4)]) (g := gTup K 2 (gCons (gName 3) (gCons (gName 4) gNil))) (tt := tYes) rfl sc_l_in_time.nd (pi_enum (by rfl) T.f_enumerate (pa_cons (pv 0) pa_nil)) (blkOk_by (own := [("_law_k", 3), ("_law_row", 4)]) (N := N_l_in_time) (sc := defScope s_l_in_time) (by decide +kernel)) (fun _ _ _ _ _ => (pg_tup rfl (pgs_cons (pg_name (i := 3) sc_l_in_time.nd rfl (Or.inl rfl)) (pgs_cons (pg_name (i := 4) sc_l_in_time.nd rfl (Or.inl rfl)) pgs_nil)))) (fun _ _ _ _ _ => pts_nil) (fun _ _ _ _ _ => (pe_tup (pa_cons (pe_ix (ix_tupK K rfl) (pv 4) pe_int (fun _ _ => rfl)) (pa_cons (pe_ix (ix_tupK K rfl) (pv 4) pe_int (fun _ _ => rfl)) (pa_cons (pv 3) pa_nil)))))) pa_nil))) (blkOk_by (own := [("_law_moment", 1), ("_law_number", 2), ("_law_k", 3)]) (N := N_l_in_time) (sc := defScope s_l_in_time) (by decide +kernel)) (fun _ _ _ _ _ => (pg_tup rfl (pgs_cons (pg_name (i := 1) sc_l_in_time.nd rfl (Or.inl rfl)) (pgs_cons (pg_name (i := 2) sc_l_in_time.nd rfl (Or.inl rfl)) (pgs_cons (pg_name (i := 3) sc_l_in_time.nd rfl (Or.inl rfl)) pgs_nil))))) (fun _ _ _ _ _ => pts_nil) (fun _ _ _ _ _ => (pe_ix (ix_listK K rfl) (pv 0) (pv 3) (fun _ _ => rfl)))))), ?_⟩
    -- the triples
    refine ⟨_, rfl, a, _, rfl, .of ha, fun D nD => ?_⟩
    refine lc_it (walk_enum (xs := as.map V.ref)) (fun i H' => Same H H' ∧ ∃ zs : List (Addr × Nat × Ln), H' D = some (.lst (zs.map fun z => V.ref z.1)) ∧ zs.length = i ∧ ∀ (j : Nat) z, zs[j]? = some z → z.2.1 = j ∧ ls[j]? = some z.2.2 ∧ H' z.1 = some (.tup [.int z.2.2.mom, .int z.2.2.num, .int (j : Int)]))
      ⟨same_new nD, [], upd_same, rfl, nofun⟩ (fun i H' _ z => z.1.seq (.of ha)) ?_ ?_
    · rintro i v H1 H2 hi ⟨s1, zs, hD, zl, hz⟩ ⟨T0, x, y, rfl, nT, rfl, ex, ey⟩
      have ex := Option.some.inj ex
      subst ex
      obtain ⟨ai, hai, rfl⟩ := ref_at ey
      obtain ⟨li, hli, hrw⟩ := has.left hai
      obtain ⟨xs, e0, e1, e2⟩ := (hrw.same s1).two
      generalize hh : upd H1 T0 _ = H2; obtain ⟨s2, hT⟩ := gen_new hh nT; clear hh
      have e0 := s2 _ _ e0
      have il : i < ls.length := (List.getElem?_eq_some_iff.mp hli).1
      refine ⟨T0, _, rfl, .of hT, rfl, _, _, rfl, _, _, rfl, rfl, rfl, yes (iteT ⟨_, rfl, ai, _, _, _, rfl, rfl, .of e0, atI_nat (j := 2) e2, _, rfl, ai, _, _, _, rfl, rfl, .of e0, atI_nat (j := 1) e1, _, rfl, by show 3 ≤ sizeLine; decide, fun t nt => ?_⟩)⟩
      generalize hh : upd H2 t _ = H3; obtain ⟨s3, ht⟩ := gen_new hh nt; clear hh
      have hD3 := s3 _ _ (s2 _ _ hD)
      refine ⟨_, hD3, by rw [List.length_map, zl]; exact Nat.lt_trans (m := 40) (by omega) (by decide), same_mut (s1.trans (s2.trans s3)) nD, zs ++ [(t, i, li)], by rw [upd_same, List.map_append]; rfl, by rw [List.length_append, zl]; rfl, fun j z hz2 => ?_⟩
      have up : ∀ {q xs}, H3 q = some (.tup xs) → upd H3 D (.lst (zs.map (fun z => V.ref z.1) ++ [V.ref t])) q = some (.tup xs) := fun e => by rw [upd_ne (ne_of e hD3 (by intro q; cases q))]; exact e
      by_cases hj : j < zs.length
      · rw [List.getElem?_append_left hj] at hz2
        obtain ⟨z1, z2, z3⟩ := hz j z hz2
        exact ⟨z1, z2, up (s3 _ _ (s2 _ _ z3))⟩
      · rw [List.getElem?_append_right (by omega)] at hz2
        have hj0 : j - zs.length = 0 := by
          have := (List.getElem?_eq_some_iff.mp hz2).1
          simp at this
          omega
        rw [hj0] at hz2
        have hz2 := Option.some.inj hz2
        have ej : j = i := by omega
        subst hz2 ej
        exact ⟨rfl, hli, up ht⟩
    · rintro H1 ⟨s1, zs, hD, zl, hz⟩
      have zl : zs.length = ls.length := by rw [zl, List.length_map, has.1]
      have zm : zs.map (fun z => z.2.2) = ls := by
        refine List.ext_getElem? fun j => ?_
        rw [List.getElem?_map]
        cases e : zs[j]? with
        | none =>
          have := List.getElem?_eq_none_iff.mp e
          rw [List.getElem?_eq_none (by omega)]; rfl
        | some z => exact (hz j z e).2.1.symm
      have zin : ∀ z ∈ zs, ls[z.2.1]? = some z.2.2 ∧ H1 z.1 = some (.tup [.int z.2.2.mom, .int z.2.2.num, .int (z.2.1 : Int)]) ∧ z.2.1 < 30 := fun z m => by
        obtain ⟨j, hj⟩ := List.getElem?_of_mem m
        obtain ⟨z1, z2, z3⟩ := hz j z hj
        subst z1
        exact ⟨z2, z3, by have := (List.getElem?_eq_some_iff.mp z2).1; omega⟩
      refine ⟨D, _, rfl, .of hD, by rw [List.length_map]; omega, fun x hx => ?_, fun ys p pm so np => ?_⟩
      · obtain ⟨z, hz1, rfl⟩ := List.mem_map.mp hx
        obtain ⟨z1, z2, z3⟩ := zin z hz1
        have b := lb z.2.2 (List.mem_of_getElem? z1)
        refine ⟨[z.2.2.mom, z.2.2.num, (z.2.1 : Int)], ⟨z.1, rfl, .of z2⟩, rfl, fun m hm => ?_⟩
        simp only [List.mem_cons, List.not_mem_nil, or_false] at hm
        rcases hm with rfl | rfl | rfl
        · exact ⟨b.1, b.2.1⟩
        · exact ⟨b.2.2.1, b.2.2.2⟩
        · exact ⟨by omega, by omega⟩
      obtain ⟨zs', pz, rfl⟩ := perm_map_inv pm zs rfl
      have sz : (zs'.map fun z => z.2.2).Pairwise lnLe := by
        refine List.pairwise_map.mpr ?_
        refine List.Pairwise.imp_of_mem (fun {z w} hz1 hw1 h => ?_) (List.pairwise_map.mp so)
        obtain ⟨z1, z2, z3⟩ := zin z (pz.mem_iff.mp hz1)
        obtain ⟨w1, w2, w3⟩ := zin w (pz.mem_iff.mp hw1)
        have c := h [z.2.2.mom, z.2.2.num, (z.2.1 : Int)] [w.2.2.mom, w.2.2.num, (w.2.1 : Int)] ⟨z.1, rfl, .of z2⟩ ⟨w.1, rfl, .of w2⟩
        rw [code3, code3] at c
        have b1 := lb z.2.2 (List.mem_of_getElem? z1)
        have b2 := lb w.2.2 (List.mem_of_getElem? w1)
        unfold LnBd at b1 b2
        unfold lnLe
        omega
      have ez : zs'.map (fun z => z.2.2) = inTime ls := inTime_unique nd (by rw [← zm]; exact pz.map _) sz
      generalize hh : upd H1 p _ = H2; obtain ⟨s2, hp⟩ := gen_new hh np; clear hh
      refine ⟨p, rfl, ⟨_, .of hp⟩, fun E nE => ?_⟩
      refine lc_it walk_list (fun i H' => Same H2 H' ∧ ∃ cs : List Addr, H' E = some (.lst (cs.map V.ref)) ∧ L2R (RwAt K H) cs ((zs'.map fun z => z.2.2).take i))
        ⟨same_new nE, [], upd_same, .nil⟩ (fun i H' _ z => z.1.seq (.of hp)) ?_ ?_
      · rintro i v H3 H4 hi ⟨s3, cs, hE, hcs⟩ ⟨rfl, hy⟩
        obtain ⟨z, hz1, hzm, rfl⟩ := fb_at hy
        obtain ⟨z1, z2, z3⟩ := zin z (pz.mem_iff.mp hzm)
        obtain ⟨ai, hai, hrw⟩ := has.right z1
        have q := s3 _ _ (s2 _ _ z2)
        have ha4 := s3 _ _ (s2 _ _ (s1 _ _ ha))
        have tk : (zs'.map fun z => z.2.2).take (i + 1) = (zs'.map fun z => z.2.2).take i ++ [z.2.2] := by rw [List.take_add_one, List.getElem?_map, hz1]; rfl
        have cl : cs.length ≤ 30 := by
          rw [hcs.1, List.length_take, List.length_map, pz.length_eq]
          omega
        refine ⟨z.1, _, rfl, .of q, rfl, _, _, rfl, _, _, rfl, _, _, rfl, rfl, rfl, yes (iteT ⟨_, rfl, _, rfl, a, _, _, .ref ai, rfl, rfl, .of ha4, atI_nat (by rw [List.getElem?_map, hai]; rfl), _, hE, by rw [List.length_map]; exact Nat.lt_of_le_of_lt cl (by decide), same_mut s3 nE, cs ++ [ai], by rw [upd_same, List.map_append]; rfl, ?_⟩)⟩
        rw [tk]
        exact hcs.snoc hrw
      · rintro H3 ⟨s3, cs, hE, hcs⟩
        rw [List.length_map] at hcs
        have el : (zs'.map fun z => z.2.2).take zs'.length = zs'.map fun z => z.2.2 := List.take_of_length_le (by rw [List.length_map]; exact Nat.le_refl _)
        rw [el, ez] at hcs
        have s03 := s1.trans (s2.trans s3)
        exact k E cs H3 s03 ((s1.trans s2).free nE) hE (hcs.mono fun _ _ e => e.same s03)
end
end Rp


set_option maxRecDepth 100000
set_option maxHeartbeats 4000000
namespace Rp
open PySem PySem.Spec PyProof.Rows L2
/-- a line of these beds -/
def LnInB (bs : List Bd) : Ln → Prop
  | .pr r => ∃ b, PrL bs r b
  | .sp n m b => ∃ c ∈ bs, b = c.name
section
variable {P : Program} {w : World} {K : PySem.W.Frag} {mg : Str → Option Value} {base : Heap}
def sp_l_led (K : PySem.W.Frag) : Sp := fun vs H Q _ => ∃ (dl a : Addr) (bs : List Bd) (ts : List Addr) (as : List Addr) (ls : List Ln), vs = [.ref dl, .ref a] ∧ H dl = some (.lst (ts.map V.ref)) ∧ L2R (BdrAt H) ts bs ∧ bs.length ≤ 3 ∧ (∀ b ∈ bs, b.Ok) ∧ (bs.map Bd.name).Nodup ∧
  H a = some (.lst (as.map V.ref)) ∧ L2R (RwAt K H) as ls ∧ (∀ l ∈ ls, LnBd l ∧ LnInB bs l) ∧ (ls.map Ln.num).Nodup ∧ ls.length ≤ 30 ∧
  ∀ d M H' n W, LsX M H' d bs (SM.run bs (inTime ls)) n W → Same H H' → (∀ m ∈ M, H m = none) → n ≤ 100 → Q (.ref d) H'
theorem ok_l_led (T : Tx K mg) : FnOk P w K mg base CX0 3 (He.ga K "_law_led") (fdOf K dd_l_led) ["_law_beds", "_law_rows_here"] (sp_l_led K) := by
  refine okF T.d_l_led sc_l_led (fun vs H Q E h => ?_) (fun cdv A outer s H vs Q E hr h => ?_)
  · obtain ⟨_, _, _, _, _, _, rfl, _⟩ := h; rfl
  · obtain ⟨dl, a, bs, ts, as, ls, rfl, hdl, hts, d3, dok, dnd, ha, has, lb, nd, len, k⟩ := h
    refine ⟨_, (pss_cons (ps_set (i := 2) sc_l_led.nd rfl (by first | exact Or.inl rfl | exact Or.inr rfl) (pe_call (ok_l_begin T) (hr.mono (by decide)) rfl T.g_l_begin T.d_l_begin.kp T.b_l_begin .nil pass0 (pa_cons (pv 0) pa_nil)))
      (pss_cons (ps_for PassesOwn.never rfl (pi_list (pe_call (ok_l_in_time T) (hr.mono (by decide)) rfl T.g_l_in_time T.d_l_in_time.kp T.b_l_in_time .nil pass0 (pa_cons (pv 1) pa_nil))) (pg_name (i := 3) sc_l_led.nd rfl (by first | exact Or.inl rfl | exact Or.inr rfl)) (pss_one (ps_if (pt_cmpR op_eq (pe_ix (ix_tupK K rfl) (pv 3) pe_int (fun _ _ => rfl)) pe_str (nomark _)) (pss_one (ps_expr (pe_call (ok_l_spoiled T) (hr.mono (by decide)) rfl T.g_l_spoiled T.d_l_spoiled.kp T.b_l_spoiled .nil pass0 (pa_cons (pv 2) (pa_cons (pv 0) (pa_cons (pv 3) pa_nil)))))) (pss_one (ps_expr (pe_call (ok_l_promised T) (hr.mono (by decide)) rfl T.g_l_promised T.d_l_promised.kp T.b_l_promised .nil pass0 (pa_cons (pv 2) (pa_cons (pv 3) pa_nil))))))))
      (pss_one (ps_ret (pv 2))))), ?_⟩
    refine ⟨_, rfl, dl, bs, ts, rfl, hdl, hts, d3, dok, dnd, fun d M H1 W X1 s1 fM => ?_⟩
    refine ⟨_, rfl, a, as, ls, rfl, s1 _ _ ha, has.mono fun _ _ e => e.same s1, fun l hl => (lb l hl).1, nd, len, fun l cs H2 s2 nl hl hcs => ?_⟩
    have X2 := X1.grow s2
    have s12 := s1.trans s2
    have nlM := X1.notM nl
    have hl1 : hid M H2 l = some (.lst (cs.map V.ref)) := hid_of hl nlM
    have cl : cs.length ≤ 30 := by rw [hcs.1, (inTime_perm ls).length_eq]; exact len
    refine ⟨l, rfl, ⟨_, .of hl⟩, ?_⟩
    refine for_it walk_list (fun i σ H' => ∃ M' W' x3, σ = [some (.ref dl), some (.ref a), some (.ref d), x3] ∧ LsX M' H' d bs (((inTime ls).take i).foldl (SM.take bs) (SM.begin bs)) (7 + 2 * i) W' ∧ Stp M H2 M' H')
      ⟨M, W, none, rfl, X2, Stp.refl⟩ (fun i σ H' _ ⟨_, _, _, _, _, e⟩ => e.same.seq (.of hl1)) ?_ ?_
    · rintro i y σ H3 H4 hi ⟨M', W', x3, rfl, X3, st⟩ ⟨rfl, hy⟩
      rw [List.length_map] at hi
      obtain ⟨c, hc, rfl⟩ := ref_at hy
      obtain ⟨ln, hln, hrw⟩ := hcs.left hc
      have lm : ln ∈ ls := (inTime_perm ls).mem_iff.mp (List.mem_of_getElem? hln)
      obtain ⟨s4, n4⟩ := st.of_same s12 fM
      have s5 : Same H (hid M' H4) := same_hid s4 n4
      have hrw4 : RwAt K (hid M' H4) c ln := by
        have h2 : RwAt K (hid M H2) c ln := by
          cases ln with
          | pr r =>
            obtain ⟨t, e1, e2⟩ := hrw
            refine ⟨t, X2.tupM e1, ?_⟩
            cases eth : r.th with
            | root b k => rw [eth] at e2; exact X2.tupM e2
            | offs b k => rw [eth] at e2; exact X2.tupM e2
            | share b u =>
              rw [eth] at e2
              obtain ⟨q, e3, d4, e4⟩ := e2
              refine ⟨q, X2.tupM e3, d4, hid_of e4 fun m => ?_⟩
              rcases X2.at_ m with ⟨_, e⟩ | ⟨_, e⟩ | ⟨_, e⟩ <;> rw [e4] at e <;> cases e
          | sp n m b => exact X2.tupM hrw
        exact h2.same st.sub
      have tk : (inTime ls).take (i + 1) = (inTime ls).take i ++ [ln] := by rw [List.take_add_one, hln]; rfl
      have fin : ∀ s', (((inTime ls).take i).foldl (SM.take bs) (SM.begin bs)).take bs ln = s' → (((inTime ls).take (i + 1)).foldl (SM.take bs) (SM.begin bs)) = s' := fun s' e => by rw [tk, List.foldl_append]; exact e
      cases ln with
      | sp nu mo b =>
        have q1 : H4 c = some (.tup [.str "spoil", .int nu, .int mo, .str b]) := hid_same _ _ hrw4
        obtain ⟨bd, hb, rfl⟩ := (lb _ lm).2
        refine ⟨_, rfl, c, _, _, _, rfl, rfl, .of q1, atI_nat (j := 0) rfl, rfl, _, rfl, iteD rfl ?_⟩
        refine ⟨_, rfl, _, rfl, _, rfl, d, dl, c, M', bs, ts, _, _, W', nu, mo, bd, rfl, X3, by omega, hrw4, hb, dnd, dok, d3, s5 _ _ hdl, hts.mono fun _ _ e => s5 _ _ e, fun H5 M5 W5 X5 st5 => ?_⟩
        refine ⟨M5, W5, _, rfl, ?_, st.trans st5⟩
        rw [fin _ rfl]
        exact X5
      | pr r =>
        obtain ⟨t, q1, q2⟩ := id hrw4
        have q1 := hid_same _ _ q1
        obtain ⟨bd, hp⟩ := (lb _ lm).2
        refine ⟨_, rfl, c, _, _, _, rfl, rfl, .of q1, atI_nat (j := 0) rfl, rfl, _, rfl, iteDn (vne kne7) ?_⟩
        refine ⟨_, rfl, _, rfl, d, c, M', bs, _, _, W', r, bd, rfl, X3, by omega, hrw4, hp, fun H5 W5 X5 st5 => ?_⟩
        refine ⟨M', W5, _, rfl, ?_, st.trans st5⟩
        rw [fin _ rfl]
        exact X5
    · rintro σ H3 ⟨M', W', x3, rfl, X3, st⟩
      have el : (inTime ls).take (cs.map V.ref).length = inTime ls := by rw [List.length_map, hcs.1]; exact List.take_length
      rw [el, List.length_map] at X3
      obtain ⟨s4, n4⟩ := st.of_same s12 fM
      exact ⟨_, rfl, k d M' H3 _ W' X3 s4 n4 (by omega)⟩
end
end Rp


set_option maxRecDepth 100000
set_option maxHeartbeats 4000000
namespace Rp
open PySem
/-! ### what a state's values are: names, somebody holds a part of each bed -/
theorem getU_cons (x : Str × Nat) (r : List (Str × Nat)) (m : Str) : getU (x :: r) m = if x.1 = m then x.2 else getU r m := by
  unfold getU
  rw [List.find?_cons]
  by_cases e : x.1 = m
  · rw [decide_eq_true e, if_pos e]; rfl
  · rw [decide_eq_false e, if_neg e]
theorem getU_map (n m : Str) (u : Nat) : ∀ us : List (Str × Nat), getU (us.map fun x => if x.1 = n then (n, u) else x) m = if m = n then (if (us.any fun x => decide (x.1 = n)) = true then u else 0) else getU us m
  | [] => by
    by_cases e : m = n
    · rw [if_pos e]; rfl
    · rw [if_neg e]; rfl
  | x :: r => by
    rw [List.map_cons, getU_cons, getU_cons, getU_map n m u r, List.any_cons]
    by_cases e : x.1 = n
    · rw [if_pos e, decide_eq_true e, Bool.true_or]
      by_cases f : m = n
      · rw [if_pos (show (n, u).1 = m from f.symm), if_pos f]; rfl
      · rw [if_neg (show ¬ (n, u).1 = m from fun z => f z.symm), if_neg f, if_neg f, if_neg (by rw [e]; exact fun z => f z.symm)]
    · rw [if_neg e, decide_eq_false e, Bool.false_or]
      by_cases f : m = n
      · rw [if_pos f, if_pos f, if_neg (by rw [f]; exact e)]
      · rw [if_neg f, if_neg f]
theorem getU_app (n m : Str) (u : Nat) : ∀ us : List (Str × Nat), (us.any fun x => decide (x.1 = n)) = false → getU (us ++ [(n, u)]) m = if m = n then u else getU us m
  | [], _ => by
    show getU [(n, u)] m = _
    rw [getU_cons]
    by_cases e : m = n
    · rw [if_pos e, if_pos e.symm]
    · rw [if_neg e, if_neg (fun z : n = m => e z.symm)]
  | x :: r, h => by
    rw [List.any_cons, Bool.or_eq_false_iff] at h
    have e : x.1 ≠ n := of_decide_eq_false h.1
    rw [List.cons_append, getU_cons, getU_cons, getU_app n m u r h.2]
    by_cases f : m = n
    · rw [if_pos f, if_pos f, if_neg (by rw [f]; exact e)]
    · rw [if_neg f, if_neg f]
theorem getU_put (us : List (Str × Nat)) (n m : Str) (u : Nat) : getU (putU us n u) m = if m = n then u else getU us m := by
  unfold putU
  cases c : us.any fun x => decide (x.1 = n) with
  | true => rw [if_pos rfl, getU_map, c, if_pos rfl]
  | false => rw [if_neg (by decide), getU_app n m u us c]
structure SvOk (bs : List Bd) (s : SM) (k : Nat) : Prop where
  held : ∀ y, (∃ b ∈ bs, inBed b y = true) → IsNm (s.held y)
  unm : ∀ b ∈ bs, ∀ x ∈ s.units b.name, IsNm x.1
  pos : ∀ b ∈ bs, ∃ m, 0 < getU (s.units b.name) m
  len : ∀ b ∈ bs, (s.units b.name).length ≤ 1 + 2 * k
section
variable {bs : List Bd} {s : SM} {k : Nat}
theorem SvOk.mono {k' : Nat} (V : SvOk bs s k) (e : k ≤ k') : SvOk bs s k' := ⟨V.held, V.unm, V.pos, fun b hb => by have := V.len b hb; omega⟩
theorem owner_pos (o : Str) : 0 < getU [(o, 27720)] o := by rw [getU_cons, if_pos rfl]; exact Nat.zero_lt_succ _
theorem SvOk.begin (nd : (bs.map Bd.name).Nodup) (bok : ∀ b ∈ bs, b.Ok) : SvOk bs (SM.begin bs) 0 := by
  refine ⟨fun y ⟨b, hb, hy⟩ => ?_, fun b hb x hx => ?_, fun b hb => ?_, fun b hb => ?_⟩
  · have : (SM.begin bs).held y = b.owner := back_held nd hb hy
    rw [this]; exact (bok b hb).ow
  · have : (SM.begin bs).units b.name = [(b.owner, 27720)] := back_units nd hb
    rw [this] at hx
    rw [List.mem_singleton.mp hx]
    exact (bok b hb).ow
  · have : (SM.begin bs).units b.name = [(b.owner, 27720)] := back_units nd hb
    rw [this]
    exact ⟨b.owner, owner_pos _⟩
  · have : (SM.begin bs).units b.name = [(b.owner, 27720)] := back_units nd hb
    rw [this]
    exact Nat.le_refl 1
theorem SvOk.take (nd : (bs.map Bd.name).Nodup) (bok : ∀ b ∈ bs, b.Ok) (V : SvOk bs s k) {l : Ln} (hl : LnInB bs l) : SvOk bs (s.take bs l) (k + 1) := by
  cases l with
  | sp n m c =>
    obtain ⟨bd, hbd, rfl⟩ := hl
    show SvOk bs (s.spoil bs n bd.name) (k + 1)
    unfold SM.spoil
    cases es : s.spoilt bd.name with
    | some _ => exact V.mono (Nat.le_succ _)
    | none =>
      rw [bedOf_bd nd hbd]
      have eu : ∀ b : Bd, (SM.back { s with spoilt := fun x => if x = bd.name then some n else s.spoilt x, gone := s.gone ++ ((s.good.filter fun e : Pr × List Ky => decide (e.1.th.bed = bd.name)).map fun e => e.1.num).reverse, good := s.good.filter fun e : Pr × List Ky => !decide (e.1.th.bed = bd.name) : SM } bd).units b.name = if b.name = bd.name then [(bd.owner, 27720)] else s.units b.name := fun _ => rfl
      refine ⟨fun y ⟨b, hb, hy⟩ => ?_, fun b hb x hx => ?_, fun b hb => ?_, fun b hb => ?_⟩
      · show IsNm (if inBed bd y = true then bd.owner else s.held y)
        split
        · exact (bok bd hbd).ow
        · exact V.held y ⟨b, hb, hy⟩
      · rw [eu] at hx
        split at hx
        · rw [List.mem_singleton.mp hx]
          exact (bok bd hbd).ow
        · exact V.unm b hb x hx
      · rw [eu]
        split
        · exact ⟨bd.owner, owner_pos _⟩
        · exact V.pos b hb
      · rw [eu]
        split
        · show 1 ≤ _
          omega
        · have := V.len b hb
          omega
  | pr p =>
    obtain ⟨bd, hp⟩ := hl
    show SvOk bs (if ((s.spoilt p.th.bed).isNone && s.holds p) = true then s.go p else s.void p) (k + 1)
    split
    · unfold SM.go
      split
      · rename_i c u eth
        have ok := hp.ok.th
        rw [eth] at ok
        obtain ⟨_, u0, _⟩ := ok
        refine ⟨V.held, fun b hb x hx => ?_, fun b hb => ?_, fun b hb => ?_⟩
        · have hx : x ∈ (if b.name = c then moved (s.units c) p u else s.units b.name) := hx
          split at hx
          · rename_i e
            rw [← e] at hx
            rcases putU_mem hx with h | h
            · rw [h]; exact hp.ok.b
            · rcases putU_mem h with h | h
              · rw [h]; exact hp.ok.s
              · exact V.unm b hb x h
          · exact V.unm b hb x hx
        · show ∃ m, 0 < getU (if b.name = c then moved (s.units c) p u else s.units b.name) m
          split
          · refine ⟨p.buyer, ?_⟩
            unfold moved
            rw [getU_put, if_pos rfl]
            omega
          · exact V.pos b hb
        · show (if b.name = c then moved (s.units c) p u else s.units b.name).length ≤ _
          split
          · rename_i e
            rw [← e]
            have h1 := V.len b hb
            have h2 := putU_len (s.units b.name) p.seller (getU (s.units b.name) p.seller - u)
            have h3 := putU_len (putU (s.units b.name) p.seller (getU (s.units b.name) p.seller - u)) p.buyer (getU (putU (s.units b.name) p.seller (getU (s.units b.name) p.seller - u)) p.buyer + u)
            have h4 : (moved (s.units b.name) p u).length ≤ (putU (s.units b.name) p.seller (getU (s.units b.name) p.seller - u)).length + 1 := h3
            omega
          · have := V.len b hb
            omega
      · refine ⟨fun y hy => ?_, V.unm, V.pos, fun b hb => by have : (s.units b.name).length ≤ _ := V.len b hb; show (s.units b.name).length ≤ _; omega⟩
        show IsNm (if y ∈ s.moves p then p.buyer else s.held y)
        split
        · exact hp.ok.b
        · exact V.held y hy
    · have key : ∀ row, SvOk bs { s with voids := s.voids ++ [row] } (k + 1) := fun row => ⟨V.held, V.unm, V.pos, fun b hb => by have : (s.units b.name).length ≤ _ := V.len b hb; show (s.units b.name).length ≤ _; omega⟩
      unfold SM.void
      split <;> exact key _
theorem SvOk.run (nd : (bs.map Bd.name).Nodup) (bok : ∀ b ∈ bs, b.Ok) : ∀ {ls : List Ln} {s : SM} {k : Nat}, (∀ l ∈ ls, LnInB bs l) → SvOk bs s k → SvOk bs (ls.foldl (SM.take bs) s) (k + ls.length)
  | [], _, _, _, V => V
  | l :: r, s, k, h, V => by
    have := SvOk.run nd bok (ls := r) (fun x hx => h x (List.mem_cons_of_mem l hx)) (V.take nd bok (h l List.mem_cons_self))
    rw [List.length_cons]
    exact this.mono (by omega)
theorem units_few {ls : List Ln} (nd : (bs.map Bd.name).Nodup) (bok : ∀ b ∈ bs, b.Ok) (h : ∀ l ∈ ls, LnInB bs l) (len : ls.length ≤ 25) {b : Bd} (hb : b ∈ bs) : ((SM.run bs (inTime ls)).units b.name).length < 64 := by
  have V := SvOk.run nd bok (ls := inTime ls) (fun l hl => h l ((inTime_perm ls).mem_iff.mp hl)) (SvOk.begin nd bok)
  have := V.len b hb
  rw [(inTime_perm ls).length_eq] at this
  exact Nat.lt_of_le_of_lt this (by omega)
end
/-! ### parts of at most twelve -/
theorem bot_dvd {b : Nat} (h1 : 1 ≤ b) (h2 : b ≤ 12) : b * (27720 / b) = 27720 := by
  match b, h1, h2 with
  | 1, _, _ => rfl
  | 2, _, _ => rfl
  | 3, _, _ => rfl
  | 4, _, _ => rfl
  | 5, _, _ => rfl
  | 6, _, _ => rfl
  | 7, _, _ => rfl
  | 8, _, _ => rfl
  | 9, _, _ => rfl
  | 10, _, _ => rfl
  | 11, _, _ => rfl
  | 12, _, _ => rfl
theorem part_ok {t b : Nat} (h1 : 1 ≤ b) (h2 : b ≤ 12) (t1 : 1 ≤ t) (t2 : t ≤ b) : t * 27720 = (t * (27720 / b)) * b ∧ 0 < t * (27720 / b) ∧ t * (27720 / b) ≤ 27720 ∧ den (t * (27720 / b)) ≤ 12 := by
  have e := bot_dvd h1 h2
  have p : 0 < 27720 / b := Nat.div_pos (by omega) h1
  have e1 : t * 27720 = (t * (27720 / b)) * b := by
    rw [Nat.mul_assoc, Nat.mul_comm (27720 / b) b, e]
  refine ⟨e1, Nat.mul_pos t1 p, ?_, ?_⟩
  · have := Nat.mul_le_mul_right (27720 / b) t2
    rw [e] at this
    exact this
  · rw [← (num_den_of h1 e1).2]
    exact Nat.le_trans (Nat.div_le_self _ _) h2
end Rp

set_option maxRecDepth 100000
set_option maxHeartbeats 4000000
namespace Rp
open PySem PySem.Spec PyProof.Rows L2
theorem src_same {B H H' : Hp} {c : Addr} (s : Same B H) (n : B c = none) (st : Stp [c] H [c] H') : Same B H' := (st.of_same s fun m hm => by rw [List.mem_singleton.mp hm]; exact n).1
theorem ThAt.src {K : PySem.W.Frag} {H H' : Hp} {t c : Addr} {th : Th} {z : Nat} (h : ThAt K H t th) (hs : SrcAt H c z) (st : Stp [c] H [c] H') : ThAt K H' t th := by
  have cl : ∀ m ∈ [c], ∃ xs, H m = some (.lst xs) := fun m hm => by rw [List.mem_singleton.mp hm]; exact hs.lst
  cases th with
  | root b k => exact st.tup cl h
  | offs b k => exact st.tup cl h
  | share b u =>
    obtain ⟨p, h1, dx, h2⟩ := h
    refine ⟨p, st.tup cl h1, dx, st.same _ _ (hid_of h2 fun m => ?_)⟩
    obtain ⟨xs, e⟩ := cl p m
    rw [h2] at e; cases e
theorem RwAt.src {K : PySem.W.Frag} {H H' : Hp} {a c : Addr} {l : Ln} {z : Nat} (h : RwAt K H a l) (hs : SrcAt H c z) (st : Stp [c] H [c] H') : RwAt K H' a l := by
  have cl : ∀ m ∈ [c], ∃ xs, H m = some (.lst xs) := fun m hm => by rw [List.mem_singleton.mp hm]; exact hs.lst
  cases l with
  | pr r =>
    obtain ⟨t, e1, e2⟩ := h
    exact ⟨t, st.tup cl e1, e2.src hs st⟩
  | sp n m b => exact st.tup cl h
/-- all that the making of a row looks at, as it stood ahead of its source -/
structure TlIn (B : Hp) (nl tl d : Addr) (ns : List Str) (us : List Addr) (ys : List Ky) (M : List Addr) (bs : List Bd) (s : SM) (n : Nat) (W : LsW) (k : Nat) : Prop where
  X : LsX M B d bs s n W
  sv : SvOk bs s k
  k30 : k ≤ 30
  nl : B nl = some (.lst (ns.map V.str))
  n2 : 2 ≤ ns.length
  n10 : ns.length ≤ 10
  nd : ns.Nodup
  nm : ∀ x ∈ ns, IsNm x
  tl : B tl = some (.lst (us.map V.ref))
  th : L2R (ThgAt B) us ys
  y1 : 1 ≤ ys.length
  y2 : ys.length ≤ 100
  yb : ∀ y ∈ ys, KyB bs y
  bok : ∀ b ∈ bs, b.Ok
theorem far_of (bb : Nat) (hb : bb < 12) (e : Nat) (he : e < 2) : ∃ n : Nat, atI [V.int (1 + (bb : Int)), .int ((1 + (bb : Int) + 3) / 4)] (e : Int) = some (.int (n : Int)) ∧ 1 ≤ n ∧ n ≤ 1 + bb := by
  match e, he with
  | 0, _ => exact ⟨1 + bb, (atI_nat (j := 0) rfl).trans (by show some (V.int (1 + (bb : Int))) = some (V.int ((1 + bb : Nat) : Int)); rw [show ((1 + bb : Nat) : Int) = 1 + (bb : Int) by omega]), by omega, by omega⟩
  | 1, _ => exact ⟨(1 + bb + 3) / 4, (atI_nat (j := 1) rfl).trans (by show some (V.int ((1 + (bb : Int) + 3) / 4)) = some (V.int (((1 + bb + 3) / 4 : Nat) : Int)); rw [show (((1 + bb + 3) / 4 : Nat) : Int) = (1 + (bb : Int) + 3) / 4 by omega]), by omega, by omega⟩
section
variable {P : Program} {w : World} {K : PySem.W.Frag} {mg : Str → Option Value} {base : Heap}
abbrev tNx (K : PySem.W.Frag) (t : TA) : TE := tCall (sp_l_next K) [] E0 (tCons (tVar 0) t)
abbrev tLen (K : PySem.W.Frag) (i : Nat) : TE := tCB (fun xs H_1 Q => ∃ x n, xs = [x] ∧ LenV K x H_1 n ∧ Q (V.int ↑n) H_1) (tCons (tVar i) tNil)
abbrev tLk4 (K : PySem.W.Frag) : TS := tSeq (tAsg (tTup (tCons (tC (V.str "promise")) (tCons (tVar 1) (tCons (tVar 2) (tCons (tVar 11) (tCons (tVar 13) (tCons (tVar 6) (tCons (tNx K (tCons (tC (V.int 100)) tNil)) tNil)))))))) (gName 15))
  (tRet (tOp (rCatT K) (tVar 15) (tTup (tCons (tC (V.str "flat")) (tCons (tVar 14) (tCons (tNx K (tCons (tC (V.int 9)) tNil)) tNil))))))
abbrev tLk3 (K : PySem.W.Frag) : TS := tSeq (tAsg (tLc (iList K (tVar 3)) (gName 8) (tTest (tOp rNe (tVar 8) (tVar 11))) (tVar 8) [8]) (gName 12))
  (tSeq (tAsg (tOp (rIxL K) (tVar 12) (tNx K (tCons (tLen K 12) tNil))) (gName 13)) (tSeq (tAsg (tC (V.str "go")) (gName 14))
    (tSeq (tIfS (tAnd (tTest (tOp rEq (tOp (rIxT K) (tVar 6) (tC (V.int 0))) (tC (V.str "root")))) (tTest (tOp rEq (tNx K (tCons (tC (V.int 3)) tNil)) (tC (V.int 0))))) (tAsg (tC (V.str "stay")) (gName 14)) tNext) (tLk4 K))))
abbrev tLk1 (K : PySem.W.Frag) : TS := tSeq (tAsg (tOp (rIxL K) (tVar 7) (tNx K (tCons (tLen K 7) tNil))) (gName 11))
  (tSeq (tIfS (tTest (tOp rEq (tNx K (tCons (tC (V.int 5)) tNil)) (tC (V.int 0)))) (tAsg (tOp (rIxL K) (tVar 3) (tNx K (tCons (tLen K 3) tNil))) (gName 11)) tNext) (tLk3 K))
section
variable {B H : Hp} {c nl tl d : Addr} {ns : List Str} {us : List Addr} {ys : List Ky} {M : List Addr} {bs : List Bd} {s : SM} {n : Nat} {W : LsW} {kk : Nat} {z : Nat} {num mom : Int} {t : Addr} {th : Th} {b : Bd}
/-- the last rows of a promise's making -/
theorem lk4 (sB : Same B H) (nc : B c = none) (hs : SrcAt H c z) (hz : z < 10000) (ht : ThAt K H t th) (ok : th.Ok) (inb : th.InB b) (bm : b ∈ bs) (n1 : 1 ≤ num) (m0 : 0 ≤ mom) {seller buyer : Str} (hS : IsNm seller) (hB : IsNm buyer) (ne : buyer ≠ seller)
    (stay : Bool) (hst : stay = true → ∃ b k, th = .root b k) {x3 x4 x5 x7 x8 x9 x10 x12 : Option V} {D : Ends}
    (k : ∀ (r : Pr) a H', r.num = num → r.mom = mom → PrL bs r b → RwAt K H' a (.pr r) → Same B H' → SrcAt H' c (z + 2) → D.rt (.ref a) H') :
    tLk4 K D [some (.ref c), some (.int num), some (.int mom), x3, x4, x5, some (.ref t), x7, x8, x9, x10, some (.str seller), x12, some (.str buyer), some (.str (goW stay)), none] H := by
  refine ⟨_, rfl, _, rfl, _, rfl, _, rfl, _, rfl, _, rfl, c, z, 100, rfl, hs, by omega, by decide, by decide, fun p H1 hp hs1 t1 => ⟨by show 7 ≤ sizeLine; decide, fun u nu => ?_⟩⟩
  generalize hh : upd H1 u _ = H2; obtain ⟨s2, hu2⟩ := gen_new hh nu; clear hh
  have ht2 := (ht.src hs t1).same s2
  have sB2 := (src_same sB nc t1).trans s2
  refine ⟨_, rfl, _, rfl, _, rfl, c, _, 9, rfl, hs1.same s2, by omega, by decide, by decide, fun e H3 he hs3 t3 => ⟨by show 3 ≤ sizeLine; decide, fun v nv => ?_⟩⟩
  have hu3 := t3.tup (fun m hm => by rw [List.mem_singleton.mp hm]; exact (hs1.same s2).lst) hu2
  generalize hh : upd H3 v _ = H4; obtain ⟨s4, hv⟩ := gen_new hh nv; clear hh
  have ht4 := (ht2.src (hs1.same s2) t3).same s4
  have sB4 := (src_same sB2 nc t3).trans s4
  refine ⟨u, v, _, _, rfl, rfl, .of (s4 _ _ hu3), .of hv, by simp, by show 10 ≤ sizeLine; decide, nofun, fun _ x nx => ?_⟩
  generalize hh : upd H4 x _ = H5; obtain ⟨s5, hx⟩ := gen_new hh nx; clear hh
  refine k ⟨num, mom, seller, buyer, th, (p : Int), stay, (e : Int)⟩ x H5 rfl rfl ⟨⟨n1, m0, hS, hB, ne, ok, by show (0 : Int) ≤ p; omega, by show (p : Int) ≤ _; omega, hst, by show (0 : Int) ≤ e; omega, by show (e : Int) ≤ _; omega⟩, bm, inb⟩ ⟨t, hx, ht4.same s5⟩ (sB4.trans s5) ((hs3.same s4).same s5)
theorem lk3 (TI : TlIn B nl tl d ns us ys M bs s n W kk) (sB : Same B H) (nc : B c = none) (hs : SrcAt H c z) (hz : z < 9000) (ht : ThAt K H t th) (ok : th.Ok) (inb : th.InB b) (bm : b ∈ bs) (n1 : 1 ≤ num) (m0 : 0 ≤ mom) {seller : Str} (hS : IsNm seller)
    {x4 x5 x7 x8 x9 x10 : Option V} {D : Ends}
    (k : ∀ (r : Pr) a H', r.num = num → r.mom = mom → PrL bs r b → RwAt K H' a (.pr r) → Same B H' → SrcAt H' c (z + 4) → D.rt (.ref a) H') :
    tLk3 K D [some (.ref c), some (.int num), some (.int mom), some (.ref nl), x4, x5, some (.ref t), x7, x8, x9, x10, some (.str seller), none, none, none, none] H := by
  have hnl := sB _ _ TI.nl
  have n10 := TI.n10
  refine ⟨_, rfl, nl, rfl, ⟨_, .of hnl⟩, fun D nD => ?_⟩
  refine lc_it walk_list (fun i H' => Same H H' ∧ H' D = some (.lst (((ns.take i).filter fun x => !decide (x = seller)).map V.str))) ⟨same_new nD, upd_same⟩ (fun i H' _ z => z.1.seq (.of hnl)) ?_ ?_
  · rintro i y H1 H2 hi ⟨s1, hD⟩ ⟨rfl, hy⟩
    rw [List.getElem?_map] at hy
    cases e : ns[i]? with
    | none => rw [e] at hy; cases hy
    | some x =>
      rw [e] at hy
      cases hy
      have tk : ns.take (i + 1) = ns.take i ++ [x] := by rw [List.take_add_one, e]; rfl
      refine ⟨rfl, _, rfl, _, rfl, rfl, _, rfl, ?_⟩
      by_cases ex : x = seller
      · refine iteNS (congrArg V.str ex) ⟨s1, ?_⟩
        rw [tk, List.filter_append]
        simp [ex, hD]
      · refine iteN (vne ex) ⟨_, rfl, _, hD, ?_, same_mut s1 nD, ?_⟩
        · rw [List.length_map]
          refine Nat.lt_of_le_of_lt (List.length_filter_le _ _) ?_
          rw [List.length_take]
          exact Nat.lt_of_le_of_lt (Nat.min_le_right _ _) (Nat.lt_of_le_of_lt n10 (by decide))
        · rw [upd_same, tk, List.filter_append, List.map_append]
          simp [ex]
  · rintro H1 ⟨s1, hD⟩
    have hD : H1 D = some (.lst (((ns.take (ns.map V.str).length).filter fun x => !decide (x = seller)).map V.str)) := hD
    rw [List.length_map, List.take_length] at hD
    generalize eo : ns.filter (fun x => !decide (x = seller)) = os at hD
    have o1 : 1 ≤ os.length := by
      have n2 := TI.n2
      have nd := TI.nd
      obtain ⟨x, hx, hxs⟩ : ∃ x ∈ ns, x ≠ seller := by
        cases hns : ns with
        | nil => rw [hns] at n2; exact absurd n2 (by decide)
        | cons a r =>
          cases hr : r with
          | nil => rw [hns, hr] at n2; exact absurd n2 (by show ¬ 2 ≤ 1; decide)
          | cons b r2 =>
            rw [hns, hr] at nd
            have ab : a ≠ b := fun e => (List.nodup_cons.mp nd).1 (by rw [e]; exact List.mem_cons_self)
            by_cases ea : a = seller
            · exact ⟨b, List.mem_cons_of_mem _ List.mem_cons_self, fun e => ab (ea.trans e.symm)⟩
            · exact ⟨a, List.mem_cons_self, ea⟩
      have : x ∈ os := by rw [← eo]; exact List.mem_filter.mpr ⟨hx, by simp [hxs]⟩
      exact List.length_pos_of_mem this
    have o2 : os.length ≤ 10 := by rw [← eo]; exact Nat.le_trans (List.length_filter_le _ _) n10
    have om : ∀ x ∈ os, IsNm x ∧ x ≠ seller := fun x hx => by
      rw [← eo] at hx
      obtain ⟨h1, h2⟩ := List.mem_filter.mp hx
      exact ⟨TI.nm x h1, by simpa using h2⟩
    have hs1 := hs.same s1
    have Dc : D ≠ c := by
      obtain ⟨_, e⟩ := hs.lst
      exact (ne_of_none e nD).symm
    refine ⟨_, rfl, _, rfl, _, rfl, .ref D, os.length, rfl, .inl ⟨_, .of hD, (List.length_map ..).symm⟩, c, z, os.length, rfl, hs1, by omega, by omega, by omega, fun a H2 ha hs2 t2 => ?_⟩
    obtain ⟨buyer, hb⟩ : ∃ x, os[a]? = some x := ⟨_, List.getElem?_eq_getElem ha⟩
    have hD2 := t2.same _ _ (hid_of hD (by simpa using Dc))
    refine ⟨D, _, _, .str buyer, rfl, rfl, .of hD2, atI_nat (by rw [List.getElem?_map, hb]; rfl), ?_⟩
    obtain ⟨hB, ne⟩ := om buyer (List.mem_of_getElem? hb)
    have sB1 := sB.trans s1
    have sB2 := src_same sB1 nc t2
    have ht1 := ht.same s1
    have ht2 := ht1.src hs1 t2
    have stop : ∀ {o}, tLk4 K _ [some (.ref c), some (.int num), some (.int mom), some (.ref nl), x4, x5, some (.ref t), x7, x8, x9, x10, some (.str seller), o, some (.str buyer), some (.str "go"), none] H2 := fun {o} =>
      lk4 (stay := false) sB2 nc hs2 (by omega) ht2 ok inb bm n1 m0 hS hB ne nofun fun r a H' e1 e2 e3 e4 e5 e6 => k r a H' e1 e2 e3 e4 e5 (e6.mono (by omega))
    cases th with
    | offs bn j =>
      have h2 : H2 t = some (.tup [.str "offsets", .str bn, .int j]) := ht2
      exact ⟨_, rfl, t, _, _, _, rfl, rfl, .of h2, atI_nat (j := 0) rfl, rfl, _, rfl, iteDn (vne kne3) (iteF stop)⟩
    | share bn u =>
      obtain ⟨q, h2, _⟩ := id ht2
      exact ⟨_, rfl, t, _, _, _, rfl, rfl, .of h2, atI_nat (j := 0) rfl, rfl, _, rfl, iteDn (vne kne5) (iteF stop)⟩
    | root bn j =>
      have h2 : H2 t = some (.tup [.str "root", .str bn, .int j]) := ht2
      refine ⟨_, rfl, t, _, _, _, rfl, rfl, .of h2, atI_nat (j := 0) rfl, rfl, _, rfl, iteD rfl ⟨_, rfl, c, _, 3, rfl, hs2, by omega, by decide, by decide, fun g H3 hg hs3 t3 => ⟨rfl, _, rfl, ?_⟩⟩⟩
      have sB3 := src_same sB2 nc t3
      have ht3 := ht2.src hs2 t3
      by_cases g0 : g = 0
      · refine iteD (by rw [g0]; rfl) ?_
        exact lk4 (stay := true) sB3 nc hs3 (by omega) ht3 ok inb bm n1 m0 hS hB ne (fun _ => ⟨_, _, rfl⟩) fun r a H' e1 e2 e3 e4 e5 e6 => k r a H' e1 e2 e3 e4 e5 (e6.mono (by omega))
      · refine iteDn (by intro q; injection q with q; omega) ?_
        exact lk4 (stay := false) sB3 nc hs3 (by omega) ht3 ok inb bm n1 m0 hS hB ne nofun fun r a H' e1 e2 e3 e4 e5 e6 => k r a H' e1 e2 e3 e4 e5 (e6.mono (by omega))
theorem lk1 (TI : TlIn B nl tl d ns us ys M bs s n W kk) (sB : Same B H) (nc : B c = none) (hs : SrcAt H c z) (hz : z < 8000) (ht : ThAt K H t th) (ok : th.Ok) (inb : th.InB b) (bm : b ∈ bs) (n1 : 1 ≤ num) (m0 : 0 ≤ mom) {wl : Addr} {ws : List Str}
    (hw : H wl = some (.lst (ws.map V.str))) (wc : wl ≠ c) (w1 : 1 ≤ ws.length) (w2 : ws.length ≤ 100) (wn : ∀ x ∈ ws, IsNm x) {x4 x5 x8 x9 x10 : Option V} {D : Ends}
    (k : ∀ (r : Pr) a H', r.num = num → r.mom = mom → PrL bs r b → RwAt K H' a (.pr r) → Same B H' → SrcAt H' c (z + 8) → D.rt (.ref a) H') :
    tLk1 K D [some (.ref c), some (.int num), some (.int mom), some (.ref nl), x4, x5, some (.ref t), some (.ref wl), x8, x9, x10, none, none, none, none, none] H := by
  refine ⟨_, rfl, _, rfl, _, rfl, .ref wl, ws.length, rfl, .inl ⟨_, .of hw, (List.length_map ..).symm⟩, c, z, ws.length, rfl, hs, by omega, by omega, by omega, fun a H1 ha hs1 t1 => ?_⟩
  obtain ⟨seller, hb⟩ : ∃ x, ws[a]? = some x := ⟨_, List.getElem?_eq_getElem ha⟩
  have hw1 := t1.same _ _ (hid_of hw (by simpa using wc))
  refine ⟨wl, _, _, .str seller, rfl, rfl, .of hw1, atI_nat (by rw [List.getElem?_map, hb]; rfl), ?_⟩
  have hS := wn seller (List.mem_of_getElem? hb)
  have sB1 := src_same sB nc t1
  have ht1 := ht.src hs t1
  refine ⟨_, rfl, c, _, 5, rfl, hs1, by omega, by decide, by decide, fun g H2 hg hs2 t2 => ⟨rfl, _, rfl, ?_⟩⟩
  have sB2 := src_same sB1 nc t2
  have ht2 := ht1.src hs1 t2
  by_cases g0 : g = 0
  · refine iteD (by rw [g0]; rfl) ?_
    have hnl := sB2 _ _ TI.nl
    have n2 := TI.n2
    have n10 := TI.n10
    refine ⟨_, rfl, _, rfl, _, rfl, .ref nl, ns.length, rfl, .inl ⟨_, .of hnl, (List.length_map ..).symm⟩, c, _, ns.length, rfl, hs2, by omega, by omega, by omega, fun e H3 he hs3 t3 => ?_⟩
    have sB3 := src_same sB2 nc t3
    obtain ⟨s2, hb2⟩ : ∃ x, ns[e]? = some x := ⟨_, List.getElem?_eq_getElem he⟩
    refine ⟨nl, _, _, .str s2, rfl, rfl, .of (sB3 _ _ TI.nl), atI_nat (by rw [List.getElem?_map, hb2]; rfl), ?_⟩
    exact lk3 TI sB3 nc hs3 (by omega) (ht2.src hs2 t3) ok inb bm n1 m0 (TI.nm s2 (List.mem_of_getElem? hb2)) fun r a H' e1 e2 e3 e4 e5 e6 => k r a H' e1 e2 e3 e4 e5 (e6.mono (by omega))
  · refine iteDn (by intro q; injection q with q; omega) ?_
    exact lk3 TI sB2 nc hs2 (by omega) ht2 ok inb bm n1 m0 hS fun r a H' e1 e2 e3 e4 e5 e6 => k r a H' e1 e2 e3 e4 e5 (e6.mono (by omega))
end
def sp_l_likely (K : PySem.W.Frag) : Sp := fun vs H Q _ => ∃ (c nl tl d : Addr) (z : Nat) (num mom : Int) (B : Hp) (ns : List Str) (us : List Addr) (ys : List Ky) (M : List Addr) (bs : List Bd) (s : SM) (n : Nat) (W : LsW) (kk : Nat),
  vs = [.ref c, .int num, .int mom, .ref nl, .ref tl, .ref d] ∧ TlIn B nl tl d ns us ys M bs s n W kk ∧ Same B H ∧ B c = none ∧ SrcAt H c z ∧ z < 1000 ∧ 1 ≤ num ∧ 0 ≤ mom ∧
  ∀ (r : Pr) b a H', r.num = num → r.mom = mom → PrL bs r b → RwAt K H' a (.pr r) → Same B H' → SrcAt H' c (z + 20) → Q (.ref a) H'
theorem ok_l_likely (T : Tx K mg) : FnOk P w K mg base CX0 4 (He.ga K "_law_likely") (fdOf K dd_l_likely) ["_law_source_here", "_law_number", "_law_moment", "_law_names_here", "_law_things_here", "_law_state"] (sp_l_likely K) := by
  refine okF T.d_l_likely sc_l_likely (fun vs H Q E h => ?_) (fun cdv A outer s H vs Q E hr h => ?_)
  · obtain ⟨_, _, _, _, _, _, _, _, _, _, _, _, _, _, _, _, _, rfl, _⟩ := h; rfl
  · obtain ⟨c, nl, tl, d, z, num, mom, B, ns, us, ys, M, bs, s, n, W, kk, rfl, TI, sB, nc, hs, z1, n1, m0, k⟩ := h
    have hu := hu_of hr
    refine ⟨_, (pss_cons (ps_set (i := 6) sc_l_likely.nd rfl (by first | exact Or.inl rfl | exact Or.inr rfl) (pe_ix (ix_listK K rfl) (pv 4) (pe_call (ok_l_next T) (hr.mono (by decide)) rfl T.g_l_next T.d_l_next.kp T.b_l_next .nil pass0 (pa_cons (pv 0) (pa_cons (pe_callB call_len (by rfl) T.f_len PySem.boot_len (pa_cons (pv 4) pa_nil)) pa_nil))) (fun _ _ => rfl)))
      (pss_cons (ps_if (pt_cmpR op_eq (pe_ix (ix_tupK K rfl) (pv 6) pe_int (fun _ _ => rfl)) pe_str (nomark _)) (pss_cons (ps_setLc (i := 7) (own := [("_law_name", 8)]) (g := gName 8) rfl sc_l_likely.nd rfl rfl (sw_true rfl rfl rfl (by decide +kernel)) (pi_list (pe_callB (call_sortedD rfl) (by rfl) T.f_sorted (by decide +kernel) (pa_cons (pe_dget hu (pe_dget hu (pv 5) pe_str (fun _ _ => rfl)) (pe_ix (ix_tupK K rfl) (pv 6) pe_int (fun _ _ => rfl)) (fun _ _ => rfl)) pa_nil))) (blkOk_by (own := [("_law_name", 8)]) (N := N_l_likely) (sc := defScope s_l_likely) (by decide +kernel)) (fun _ _ _ _ _ => (pg_name (i := 8) sc_l_likely.nd rfl (Or.inl rfl))) (fun _ _ _ _ _ => (pts_one (pt_cmpR op_gt (pe_dget hu (pe_dget hu (pe_dget hu (pv 5) pe_str (fun _ _ => rfl)) (pe_ix (ix_tupK K rfl) (pv 6) pe_int (fun _ _ => rfl)) (fun _ _ => rfl)) (pv 8) (fun _ _ => rfl)) pe_int (nomark _)))) (fun _ _ _ _ _ => (pv 8)))
      (pss_cons (ps_set (i := 9) sc_l_likely.nd rfl (by first | exact Or.inl rfl | exact Or.inr rfl) (pe_op op_add pe_int (pe_call (ok_l_next T) (hr.mono (by decide)) rfl T.g_l_next T.d_l_next.kp T.b_l_next .nil pass0 (pa_cons (pv 0) (pa_cons pe_int pa_nil)))))
      (pss_cons (ps_set (i := 10) sc_l_likely.nd rfl (by first | exact Or.inl rfl | exact Or.inr rfl) (pe_ix (ix_listK K rfl) (pe_lst (pa_cons (pv 9) (pa_cons (pe_op op_fdiv (pe_op op_add (pv 9) pe_int) pe_int) pa_nil))) (pe_call (ok_l_next T) (hr.mono (by decide)) rfl T.g_l_next T.d_l_next.kp T.b_l_next .nil pass0 (pa_cons (pv 0) (pa_cons pe_int pa_nil))) (fun _ _ => rfl)))
      (pss_one (ps_set (i := 6) sc_l_likely.nd rfl (by first | exact Or.inl rfl | exact Or.inr rfl) (pe_tup (pa_cons pe_str (pa_cons (pe_ix (ix_tupK K rfl) (pv 6) pe_int (fun _ _ => rfl)) (pa_cons (pe_make T.mk_Part (ok_Part_init T) (hr.mono (by decide)) rfl T.g_Part T.b_Part_init .nil pass0 (pa_cons (pe_op op_add pe_int (pe_call (ok_l_next T) (hr.mono (by decide)) rfl T.g_l_next T.d_l_next.kp T.b_l_next .nil pass0 (pa_cons (pv 0) (pa_cons (pv 10) pa_nil)))) (pa_cons (pv 9) pa_nil))) pa_nil))))))))) (pss_one (ps_set (i := 7) sc_l_likely.nd rfl (by first | exact Or.inl rfl | exact Or.inr rfl) (pe_lst (pa_cons (pe_dget hu (pe_dget hu (pv 5) pe_str (fun _ _ => rfl)) (pv 6) (fun _ _ => rfl)) pa_nil)))))
      (pss_cons (ps_set (i := 11) sc_l_likely.nd rfl (by first | exact Or.inl rfl | exact Or.inr rfl) (pe_ix (ix_listK K rfl) (pv 7) (pe_call (ok_l_next T) (hr.mono (by decide)) rfl T.g_l_next T.d_l_next.kp T.b_l_next .nil pass0 (pa_cons (pv 0) (pa_cons (pe_callB call_len (by rfl) T.f_len PySem.boot_len (pa_cons (pv 7) pa_nil)) pa_nil))) (fun _ _ => rfl)))
      (pss_cons (ps_if (pt_cmpR op_eq (pe_call (ok_l_next T) (hr.mono (by decide)) rfl T.g_l_next T.d_l_next.kp T.b_l_next .nil pass0 (pa_cons (pv 0) (pa_cons pe_int pa_nil))) pe_int (nomark _)) (pss_one (ps_set (i := 11) sc_l_likely.nd rfl (by first | exact Or.inl rfl | exact Or.inr rfl) (pe_ix (ix_listK K rfl) (pv 3) (pe_call (ok_l_next T) (hr.mono (by decide)) rfl T.g_l_next T.d_l_next.kp T.b_l_next .nil pass0 (pa_cons (pv 0) (pa_cons (pe_callB call_len (by rfl) T.f_len PySem.boot_len (pa_cons (pv 3) pa_nil)) pa_nil))) (fun _ _ => rfl)))) pss_nil)
      (pss_cons (ps_setLc (i := 12) (own := [("_law_name", 8)]) (g := gName 8) rfl sc_l_likely.nd rfl rfl (sw_true rfl rfl rfl (by decide +kernel)) (pi_list (pv 3)) (blkOk_by (own := [("_law_name", 8)]) (N := N_l_likely) (sc := defScope s_l_likely) (by decide +kernel)) (fun _ _ _ _ _ => (pg_name (i := 8) sc_l_likely.nd rfl (Or.inl rfl))) (fun _ _ _ _ _ => (pts_one (pt_cmpR op_ne (pv 8) (pv 11) (nomark _)))) (fun _ _ _ _ _ => (pv 8)))
      (pss_cons (ps_set (i := 13) sc_l_likely.nd rfl (by first | exact Or.inl rfl | exact Or.inr rfl) (pe_ix (ix_listK K rfl) (pv 12) (pe_call (ok_l_next T) (hr.mono (by decide)) rfl T.g_l_next T.d_l_next.kp T.b_l_next .nil pass0 (pa_cons (pv 0) (pa_cons (pe_callB call_len (by rfl) T.f_len PySem.boot_len (pa_cons (pv 12) pa_nil)) pa_nil))) (fun _ _ => rfl)))
      (pss_cons (ps_set (i := 14) sc_l_likely.nd rfl (by first | exact Or.inl rfl | exact Or.inr rfl) pe_str)
      (pss_cons (ps_if (PW.pt (pw_and (pt_cmpR op_eq (pe_ix (ix_tupK K rfl) (pv 6) pe_int (fun _ _ => rfl)) pe_str (nomark _)) (pw_and1 (pt_cmpR op_eq (pe_call (ok_l_next T) (hr.mono (by decide)) rfl T.g_l_next T.d_l_next.kp T.b_l_next .nil pass0 (pa_cons (pv 0) (pa_cons pe_int pa_nil))) pe_int (nomark _))))) (pss_one (ps_set (i := 14) sc_l_likely.nd rfl (by first | exact Or.inl rfl | exact Or.inr rfl) pe_str)) pss_nil)
      (pss_cons (ps_set (i := 15) sc_l_likely.nd rfl (by first | exact Or.inl rfl | exact Or.inr rfl) (pe_tup (pa_cons pe_str (pa_cons (pv 1) (pa_cons (pv 2) (pa_cons (pv 11) (pa_cons (pv 13) (pa_cons (pv 6) (pa_cons (pe_call (ok_l_next T) (hr.mono (by decide)) rfl T.g_l_next T.d_l_next.kp T.b_l_next .nil pass0 (pa_cons (pv 0) (pa_cons pe_int pa_nil))) pa_nil)))))))))
      (pss_one (ps_ret (pe_op op_catT (pv 15) (pe_tup (pa_cons pe_str (pa_cons (pv 14) (pa_cons (pe_call (ok_l_next T) (hr.mono (by decide)) rfl T.g_l_next T.d_l_next.kp T.b_l_next .nil pass0 (pa_cons (pv 0) (pa_cons pe_int pa_nil))) pa_nil)))))))))))))))), ?_⟩
    have y1 := TI.y1
    have y2 := TI.y2
    refine ⟨_, rfl, _, rfl, _, rfl, .ref tl, ys.length, rfl, .inl ⟨_, .of (sB _ _ TI.tl), by rw [List.length_map, TI.th.1]⟩, c, z, ys.length, rfl, hs, by omega, by omega, by omega, fun a H1 ha hs1 t1 => ?_⟩
    have sB1 := src_same sB nc t1
    obtain ⟨y, hy⟩ : ∃ y, ys[a]? = some y := ⟨_, List.getElem?_eq_getElem ha⟩
    obtain ⟨t0, ht0, hty⟩ := TI.th.right hy
    obtain ⟨b, bm, ybed, kb⟩ := TI.yb y (List.mem_of_getElem? hy)
    have bok := TI.bok b bm
    refine ⟨tl, _, _, .ref t0, rfl, rfl, .of (sB1 _ _ TI.tl), atI_nat (by rw [List.getElem?_map, ht0]; rfl), ?_⟩
    have hty1 := hty.same sB1
    have X1 := TI.X.grow sB1
    rcases kb with ⟨sh, ye⟩ | ⟨sh, inb⟩
    · subst ye
      have h1 : H1 t0 = some (.tup [.str "share", .str b.name, .non]) := hty1
      refine ⟨_, rfl, t0, _, _, _, rfl, rfl, .of h1, atI_nat (j := 0) rfl, rfl, _, rfl, iteD rfl ?_⟩
      obtain ⟨da, p1, p2, p3, p4⟩ := X1.pv b bm
      have gP : ∀ {H'}, Same H1 H' → DGet H' W.pp (.str b.name) (some (.ref da)) := fun {H'} e => dgs (e _ _ X1.hp) p2
      have few := TI.sv.len b bm
      have k30 := TI.k30
      have ekeys : ((s.units b.name).map uK).map (·.1) = ((s.units b.name).map fun x : Str × Nat => x.1).map Sum.inr := by rw [List.map_map, List.map_map]; rfl
      refine ⟨_, rfl, _, _, rfl, dgs X1.ob st_parts, _, rfl, t0, _, _, _, rfl, rfl, .of h1, atI_nat (j := 1) rfl, _, _, rfl, gP (Same.refl _), da, _, (s.units b.name).map (·.1), rfl, .of p3, ekeys, by rw [List.length_map]; omega, fun zs l pm so nl => ?_⟩
      generalize hh : upd H1 l _ = H2; obtain ⟨s2, hl⟩ := gen_new hh nl; clear hh
      have zl : zs.length = (s.units b.name).length := by rw [pm.length_eq, List.length_map]
      refine ⟨l, rfl, ⟨_, .of hl⟩, fun D nD => ?_⟩
      refine lc_it walk_list (fun i H' => Same H2 H' ∧ H' D = some (.lst (((zs.take i).filter fun x => decide (0 < getU (s.units b.name) x)).map V.str))) ⟨same_new nD, upd_same⟩ (fun i H' _ z => z.1.seq (.of hl)) ?_ ?_
      · rintro i v H3 H4 hi ⟨s3, hD⟩ ⟨rfl, hv⟩
        obtain ⟨nm, hnm, hmem, rfl⟩ := fb_at hv
        have s13 := s2.trans s3
        have gU : DGet H4 da (.str nm) (some (.int (getU (s.units b.name) nm : Int))) := by
          rcases uK_get (s.units b.name) nm with ⟨e1, _⟩ | e1
          · have := valV_mem (kvs := (s.units b.name).map uK) (k := (Sum.inr nm : Key)) (by
              rw [ekeys]
              exact List.mem_map.mpr ⟨nm, pm.mem_iff.mp hmem, rfl⟩)
            rw [e1] at this; cases this
          · exact dgs (s13 _ _ p3) e1
        have tk : zs.take (i + 1) = zs.take i ++ [nm] := by rw [List.take_add_one, hnm]; rfl
        refine ⟨rfl, _, rfl, _, _, rfl, dgs (s13 _ _ X1.ob) st_parts, _, rfl, t0, _, _, _, rfl, rfl, .of (s13 _ _ h1), atI_nat (j := 1) rfl, _, _, rfl, gP s13, _, rfl, _, _, rfl, gU, _, _, rfl, rfl, _, rfl, ?_⟩
        by_cases eu : 0 < getU (s.units b.name) nm
        · refine iteD (by omega) ⟨_, rfl, _, hD, ?_, same_mut s3 nD, ?_⟩
          · rw [List.length_map]
            refine Nat.lt_of_le_of_lt (List.length_filter_le _ _) ?_
            rw [List.length_take]
            exact Nat.lt_of_le_of_lt (Nat.min_le_right _ _) (Nat.lt_of_le_of_lt (m := 64) (by omega) (by decide))
          · rw [upd_same, tk, List.filter_append, List.map_append]
            simp [eu]
        · refine iteDn (by omega) ⟨s3, ?_⟩
          rw [tk, List.filter_append]
          have fe : ([nm].filter fun x => decide (0 < getU (s.units b.name) x)) = [] := by simp [eu]
          rw [fe, List.append_nil]
          exact hD
      · rintro H3 ⟨s3, hD⟩
        have hD : H3 D = some (.lst (((zs.take (zs.map V.str).length).filter fun x => decide (0 < getU (s.units b.name) x)).map V.str)) := hD
        rw [List.length_map, List.take_length] at hD
        obtain ⟨ws, hws⟩ : ∃ ws, zs.filter (fun x => decide (0 < getU (s.units b.name) x)) = ws := ⟨_, rfl⟩
        rw [hws] at hD
        have s13 := s2.trans s3
        have sB3 := sB1.trans s13
        have w1 : 1 ≤ ws.length := by
          obtain ⟨m, hm⟩ := TI.sv.pos b bm
          have : m ∈ ws := by
            rw [← hws]
            exact List.mem_filter.mpr ⟨pm.mem_iff.mpr (List.mem_map.mpr ⟨_, getU_mem hm, rfl⟩), decide_eq_true hm⟩
          exact List.length_pos_of_mem this
        have w2 : ws.length ≤ 100 := by
          rw [← hws]
          exact Nat.le_trans (List.length_filter_le _ _) (by omega)
        have wn : ∀ x ∈ ws, IsNm x := fun x hx => by
          rw [← hws] at hx
          obtain ⟨q, hq, e⟩ := List.mem_map.mp (pm.mem_iff.mp (List.mem_filter.mp hx).1)
          rw [← e]
          exact TI.sv.unm b bm q hq
        have hs3 := (hs1.same s2).same s3
        have Dc : D ≠ c := by
          obtain ⟨_, e⟩ := (hs1.same s2).lst
          exact (ne_of_none e nD).symm
        have h3 := s13 _ _ h1
        -- bottom
        refine ⟨_, rfl, c, _, 12, rfl, hs3, by omega, by decide, by decide, fun bb H4 hbb hs4 t4 => ⟨_, _, rfl, rfl, ?_⟩⟩
        have sB4 := src_same sB3 nc t4
        have hD4 := t4.same _ _ (hid_of hD (by simpa using Dc))
        -- far
        refine ⟨_, rfl, _, rfl, _, _, rfl, rfl, _, _, rfl, rfl, ⟨by decide, by decide⟩, by show 2 ≤ sizeLine; decide, fun fl nfl => ?_⟩
        generalize hh : upd H4 fl _ = H5; obtain ⟨s5, hfl⟩ := gen_new hh nfl; clear hh
        have flc : fl ≠ c := by
          obtain ⟨_, e⟩ := hs4.lst
          exact (ne_of_none e nfl).symm
        have sB5 := sB4.trans s5
        refine ⟨_, rfl, c, _, 2, rfl, hs4.same s5, by omega, by decide, by decide, fun e H6 he hs6 t6 => ?_⟩
        have hfl6 := t6.same _ _ (hid_of hfl (by simpa using flc))
        have sB6 := src_same sB5 nc t6
        have hD6 := t6.same _ _ (hid_of (s5 _ _ hD4) (by simpa using Dc))
        obtain ⟨fr, hfr, f1, f2⟩ := far_of bb hbb e he
        refine ⟨fl, _, _, _, rfl, rfl, .of hfl6, hfr, ?_⟩
        -- the thing
        have h6 : H6 t0 = some (.tup [.str "share", .str b.name, .non]) := hty.same sB6
        refine ⟨_, rfl, t0, _, _, _, rfl, rfl, .of h6, atI_nat (j := 1) rfl, _, rfl, _, rfl, c, _, fr, rfl, hs6, by omega, by omega, by omega, fun a2 H7 ha2 hs7 t7 => ⟨_, _, rfl, rfl, _, rfl, ?_⟩⟩
        have sB7 := src_same sB6 nc t7
        have hD7 := t7.same _ _ (hid_of hD6 (by simpa using Dc))
        intro q dq nq nd ne
        obtain ⟨pe, p0, p27, p12⟩ := part_ok (t := 1 + a2) (b := 1 + bb) (by omega) (by omega) (by omega) (by omega)
        refine ⟨q, dq, 1 + a2, 1 + bb, ?_, upd_same, by omega, by omega, fun H8 e1 e2 => ⟨rfl, ?_⟩⟩
        · show [V.ref q, V.int (1 + (a2 : Int)), V.int (1 + (bb : Int))] = [V.ref q, V.int ((1 + a2 : Nat) : Int), V.int ((1 + bb : Nat) : Int)]
          rw [show ((1 + a2 : Nat) : Int) = 1 + (a2 : Int) by omega, show ((1 + bb : Nat) : Int) = 1 + (bb : Int) by omega]
        obtain ⟨s8, hq⟩ := mk_part (K := K) nq nd e1 e2 (by omega) pe
        refine ⟨by show 3 ≤ sizeLine; decide, fun tt nt => ?_⟩
        generalize hh : upd H8 tt _ = H9; obtain ⟨s9, htt⟩ := gen_new hh nt; clear hh
        have sB9 := sB7.trans (s8.trans s9)
        exact lk1 TI sB9 nc ((hs7.same s8).same s9) (by omega) (th := .share b.name ((1 + a2) * (27720 / (1 + bb)))) ⟨q, htt, hq.same s9⟩ ⟨bok.nm, p0, p27, p12⟩ ⟨rfl, sh⟩ bm n1 m0 (s9 _ _ (s8 _ _ hD7)) Dc w1 w2 wn fun r a H' e1 e2 e3 e4 e5 e6 => k r b a H' e1 e2 e3 e4 e5 (e6.mono (by omega))
    · -- a root or offsets
      obtain ⟨zw, j, hyj⟩ : ∃ (zw : Str) (j : Nat), (zw = "root" ∧ y = .root b.name j) ∨ (zw = "offsets" ∧ y = .offs b.name j) := by
        cases y with
        | share x => cases inb
        | root x j => exact ⟨_, j, .inl ⟨rfl, by rw [show x = b.name from ybed]⟩⟩
        | offs x j => exact ⟨_, j, .inr ⟨rfl, by rw [show x = b.name from ybed]⟩⟩
      have ky1 : KyAt H1 t0 y := by
        rcases hyj with ⟨_, rfl⟩ | ⟨_, rfl⟩ <;> exact hty1
      have gH : DGet H1 W.h (.ref t0) (some (.str (s.held y))) := by
        have := DGet.t (k := keyOf y) X1.hh ky1
        rw [X1.hv y ⟨b, bm, inb⟩] at this
        exact this
      have hS := TI.sv.held y ⟨b, bm, inb⟩
      obtain ⟨th, hth, okth, inth, tz⟩ : ∃ th : Th, ThAt K H1 t0 th ∧ th.Ok ∧ th.InB b ∧ H1 t0 = some (.tup [.str zw, .str b.name, .int j]) := by
        rcases hyj with ⟨rfl, rfl⟩ | ⟨rfl, rfl⟩
        · simp only [inBed, Bool.and_eq_true, decide_eq_true_eq] at inb
          exact ⟨.root b.name j, hty1, ⟨bok.nm, inb.1.2⟩, ⟨rfl, sh, inb.2⟩, hty1⟩
        · simp only [inBed, Bool.and_eq_true, decide_eq_true_eq] at inb
          exact ⟨.offs b.name j, hty1, ⟨bok.nm, inb.1.2⟩, ⟨rfl, sh, inb.2⟩, hty1⟩
      have zne : V.str zw ≠ V.str "share" := by
        rcases hyj with ⟨rfl, _⟩ | ⟨rfl, _⟩
        · exact vne kne2
        · exact vne kne4
      refine ⟨_, rfl, t0, _, _, _, rfl, rfl, .of tz, atI_nat (j := 0) rfl, rfl, _, rfl, iteDn zne ?_⟩
      refine ⟨_, rfl, _, _, rfl, dgs X1.ob st_held, _, rfl, _, _, rfl, gH, by show 1 ≤ sizeLine; decide, fun wl nw => ?_⟩
      generalize hh : upd H1 wl _ = H2; obtain ⟨s2, hw⟩ := gen_new hh nw; clear hh
      have wc : wl ≠ c := by
        obtain ⟨_, e⟩ := hs1.lst
        exact (ne_of_none e nw).symm
      exact lk1 TI (sB1.trans s2) nc (hs1.same s2) (by omega) (hth.same s2) okth inth bm n1 m0 (ws := [s.held y]) hw wc (Nat.le_refl 1) (by show 1 ≤ 100; omega) (fun x hx => by rw [List.mem_singleton.mp hx]; exact hS) fun r a H' e1 e2 e3 e4 e5 e6 => k r b a H' e1 e2 e3 e4 e5 (e6.mono (by omega))
end
end Rp


set_option maxRecDepth 100000
set_option maxHeartbeats 4000000
namespace Rp
open PySem PySem.Spec PyProof.Rows L2
theorem ThgAt.bed {I : Hp} {t : Addr} {y : Ky} (h : ThgAt I t y) : ∃ z v, I t = some (.tup [.str z, .str y.bed, v]) := by cases y <;> exact ⟨_, _, h⟩
section
variable {P : Program} {w : World} {K : PySem.W.Frag} {mg : Str → Option Value} {base : Heap}
/-- the number of the k-th row -/
def nuOf (k : Nat) : Int := 1 + (k : Int) * 37 % 101
def sp_l_row_of (K : PySem.W.Frag) : Sp := fun vs H Q _ => ∃ (c nl tl d : Addr) (z k : Nat) (B : Hp) (ns : List Str) (us : List Addr) (ys : List Ky) (M : List Addr) (bs : List Bd) (s : SM) (n : Nat) (W : LsW) (kk : Nat),
  vs = [.ref c, .int (k : Int), .ref nl, .ref tl, .ref d, .int 8] ∧ TlIn B nl tl d ns us ys M bs s n W kk ∧ Same B H ∧ B c = none ∧ SrcAt H c z ∧ z < 500 ∧ k < 100 ∧
  ∀ (l : Ln) a H', l.num = nuOf k → l.mom = 3 * (k : Int) → LnInB bs l → LnOk l → RwAt K H' a l → Same B H' → SrcAt H' c (z + 30) → Q (.ref a) H'
theorem ok_l_row_of (T : Tx K mg) : FnOk P w K mg base CX0 5 (He.ga K "_law_row_of") (fdOf K dd_l_row_of) ["_law_source_here", "_law_k", "_law_names_here", "_law_things_here", "_law_state", "_law_spoils"] (sp_l_row_of K) := by
  refine okF T.d_l_row_of sc_l_row_of (fun vs H Q E h => ?_) (fun cdv A outer s H vs Q E hr h => ?_)
  · obtain ⟨_, _, _, _, _, _, _, _, _, _, _, _, _, _, _, _, rfl, _⟩ := h; rfl
  · obtain ⟨c, nl, tl, d, z, k, B, ns, us, ys, M, bs, s, n, W, kk, rfl, TI, sB, nc, hs, z1, k1, kq⟩ := h
    refine ⟨_, (pss_cons (ps_set (i := 6) sc_l_row_of.nd rfl (by first | exact Or.inl rfl | exact Or.inr rfl) (pe_op op_add pe_int (pe_op op_mod (pe_op op_mul (pv 1) pe_int) pe_int)))
      (pss_cons (ps_set (i := 7) sc_l_row_of.nd rfl (by first | exact Or.inl rfl | exact Or.inr rfl) (pe_op op_mul pe_int (pv 1)))
      (pss_cons (ps_if (pt_cmpR op_eq (pe_call (ok_l_next T) (hr.mono (by decide)) rfl T.g_l_next T.d_l_next.kp T.b_l_next .nil pass0 (pa_cons (pv 0) (pa_cons (pv 5) pa_nil))) pe_int (nomark _)) (pss_one (ps_ret (pe_tup (pa_cons pe_str (pa_cons (pv 6) (pa_cons (pv 7) (pa_cons (pe_ix (ix_tupK K rfl) (pe_ix (ix_listK K rfl) (pv 3) (pe_call (ok_l_next T) (hr.mono (by decide)) rfl T.g_l_next T.d_l_next.kp T.b_l_next .nil pass0 (pa_cons (pv 0) (pa_cons (pe_callB call_len (by rfl) T.f_len PySem.boot_len (pa_cons (pv 3) pa_nil)) pa_nil))) (fun _ _ => rfl)) pe_int (fun _ _ => rfl)) pa_nil))))))) pss_nil)
      (pss_one (ps_ret (pe_call (ok_l_likely T) (hr.mono (by decide)) rfl T.g_l_likely T.d_l_likely.kp T.b_l_likely .nil pass0 (pa_cons (pv 0) (pa_cons (pv 6) (pa_cons (pv 7) (pa_cons (pv 2) (pa_cons (pv 3) (pa_cons (pv 4) pa_nil)))))))))))), ?_⟩
    have nu0 : 0 ≤ (k : Int) * 37 % 101 := Int.emod_nonneg _ (by decide)
    refine ⟨_, rfl, _, _, rfl, rfl, .inl ⟨by omega, by omega⟩, _, _, rfl, rfl, (by show (0 : Int) < 101; decide), _, _, rfl, rfl, ?_⟩
    refine ⟨_, rfl, _, _, rfl, rfl, .inl ⟨by decide, by decide⟩, ?_⟩
    refine ⟨_, rfl, _, rfl, c, z, 8, rfl, hs, by omega, by decide, by decide, fun g H1 hg hs1 t1 => ⟨rfl, _, rfl, ?_⟩⟩
    have sB1 := src_same sB nc t1
    by_cases g0 : g = 0
    · refine iteD (by rw [g0]; rfl) ?_
      have y1 := TI.y1
      have y2 := TI.y2
      refine ⟨_, rfl, _, rfl, _, rfl, _, rfl, _, rfl, .ref tl, ys.length, rfl, .inl ⟨_, .of (sB1 _ _ TI.tl), by rw [List.length_map, TI.th.1]⟩, c, _, ys.length, rfl, hs1, by omega, by omega, by omega, fun a H2 ha hs2 t2 => ?_⟩
      have sB2 := src_same sB1 nc t2
      obtain ⟨y, hy⟩ : ∃ y, ys[a]? = some y := ⟨_, List.getElem?_eq_getElem ha⟩
      obtain ⟨t0, ht0, hty⟩ := TI.th.right hy
      obtain ⟨b, bm, ybed, _⟩ := TI.yb y (List.mem_of_getElem? hy)
      obtain ⟨zw, v, h2⟩ := (hty.same sB2).bed
      refine ⟨tl, _, _, .ref t0, rfl, rfl, .of (sB2 _ _ TI.tl), atI_nat (by rw [List.getElem?_map, ht0]; rfl), t0, _, _, .str y.bed, rfl, rfl, .of h2, atI_nat (j := 1) rfl, by show 4 ≤ sizeLine; decide, fun u nu => ?_⟩
      generalize hh : upd H2 u _ = H3; obtain ⟨s3, hu2⟩ := gen_new hh nu; clear hh
      refine kq (.sp (nuOf k) (3 * (k : Int)) y.bed) u H3 rfl rfl ⟨b, bm, ybed⟩ ⟨?_, ?_, ?_⟩ hu2 (sB2.trans s3) ((hs2.same s3).mono (by omega))
      · unfold nuOf; omega
      · omega
      · rw [ybed]; exact (TI.bok b bm).nm
    · refine iteDn (by intro q; injection q with q; omega) ?_
      refine ⟨_, rfl, _, rfl, _, rfl, _, rfl, _, rfl, _, rfl, c, nl, tl, d, z + 1, nuOf k, 3 * (k : Int), B, ns, us, ys, M, bs, s, n, W, kk, rfl, TI, sB1, nc, hs1, by omega, by unfold nuOf; omega, by omega, fun r b a H' e1 e2 e3 e4 e5 e6 => ?_⟩
      exact kq (.pr r) a H' e1 e2 ⟨b, e3⟩ e3.ok e4 e5 (e6.mono (by omega))
end
end Rp


set_option maxRecDepth 100000
set_option maxHeartbeats 4000000
namespace Rp
open PySem PySem.Spec PyProof.Rows L2
def GoodNe (s : SM) : Prop := ∀ e ∈ s.good, e.2 ≠ []
theorem moves_ne (s : SM) (p : Pr) : s.moves p ≠ [] := fun e => by
  have := moves_head s p
  rw [e] at this; cases this
theorem GoodNe.begin (bs : List Bd) : GoodNe (SM.begin bs) := by
  have : (SM.begin bs).good = [] := (back_rest (bs := bs) (s := SM.none)).2.1
  unfold GoodNe
  rw [this]
  nofun
theorem GoodNe.take {bs : List Bd} {s : SM} (h : GoodNe s) (l : Ln) : GoodNe (s.take bs l) := by
  cases l with
  | sp n m c =>
    show GoodNe (s.spoil bs n c)
    unfold SM.spoil
    cases s.spoilt c with
    | some _ => exact h
    | none => exact fun e he => h e (List.mem_filter.mp he).1
  | pr p =>
    show GoodNe (if ((s.spoilt p.th.bed).isNone && s.holds p) = true then s.go p else s.void p)
    have key : ∀ g : List (Pr × List Ky), g = s.good ++ [(p, s.moves p)] → ∀ e ∈ g, e.2 ≠ [] := fun g hg e he => by
      rw [hg] at he
      rcases List.mem_append.mp he with he | he
      · exact h e he
      · rw [List.mem_singleton.mp he]; exact moves_ne s p
    split
    · unfold SM.go
      split
      · rename_i c u eth
        have em : s.moves p = [Ky.share c] := by unfold SM.moves; rw [eth]; rfl
        exact key _ (by rw [em])
      · exact key _ rfl
    · unfold SM.void
      split <;> exact h
section
variable {K : PySem.W.Frag} {M : List Addr} {H H' : Hp} {d : Addr} {bs : List Bd} {s : SM} {n : Nat} {W : LsW}
theorem RwAt.hidM (X : LsX M H d bs s n W) {a : Addr} {l : Ln} (h : RwAt K H a l) : RwAt K (hid M H) a l := by
  cases l with
  | pr r =>
    obtain ⟨t, e1, e2⟩ := h
    refine ⟨t, X.tupM e1, ?_⟩
    cases eth : r.th with
    | root b k => rw [eth] at e2; exact X.tupM e2
    | offs b k => rw [eth] at e2; exact X.tupM e2
    | share b u =>
      rw [eth] at e2
      obtain ⟨q, e3, d4, e4⟩ := e2
      refine ⟨q, X.tupM e3, d4, hid_of e4 fun m => ?_⟩
      rcases X.at_ m with ⟨_, e⟩ | ⟨_, e⟩ | ⟨_, e⟩ <;> rw [e4] at e <;> cases e
  | sp n m b => exact X.tupM h
theorem RwAt.stp (X : LsX M H d bs s n W) {M' : List Addr} (st : Stp M H M' H') {a : Addr} {l : Ln} (h : RwAt K H a l) : RwAt K H' a l := ((h.hidM X).same st.sub).same hid_same
theorem RwAt.len {I : Hp} {a : Addr} {l : Ln} (h : RwAt K I a l) : ∃ xs, I a = some (.tup xs) ∧ 4 ≤ xs.length := by
  cases l with
  | pr r => obtain ⟨t, e, _⟩ := h; exact ⟨_, e, by show 4 ≤ 10; decide⟩
  | sp n m b => exact ⟨_, h, by show 4 ≤ 4; decide⟩
/-- a list of rows is no list of the state -/
theorem LsX.other (X : LsX M H d bs s n W) (ne : GoodNe s) {l : Addr} {as : List Addr} {ls : List Ln} (lM : l ∉ M) (hl : H l = some (.lst (as.map V.ref))) (has : L2R (RwAt K H) as ls) (fr : ∀ c o, c ≠ l → H c = some o → H' c = some o) : LsX M H' d bs s n W := by
  have om : ∀ {c o}, c ∈ M → H c = some o → H' c = some o := fun {c o} hc e => fr c o (fun z => lM (z ▸ hc)) e
  have tup : ∀ {c xs}, hid M H c = some (.tup xs) → hid M H' c = some (.tup xs) := fun {c xs} e => by
    obtain ⟨m, e⟩ := of_hid e
    exact hid_of (fr _ _ (ne_of e hl (by intro q; cases q)) e) m
  have mp := X.mp
  refine ⟨X.m, X.nd, om mp.1 X.ob, om mp.2.1 X.hh, X.hl, X.hv, om mp.2.2.1 X.hp, X.hpl, fun b hb => let ⟨a, h1, h2, h3, h4⟩ := X.pv b hb; ⟨a, h1, h2, om (mp.2.2.2.2.2.2.2 _ h1) h3, h4⟩, X.pn, fun x hx => let ⟨z, q⟩ := X.pd x hx; ⟨z, om (mp.2.2.2.2.2.2.2 x hx) q⟩, om mp.2.2.2.1 X.sp, X.sl, X.sv, om mp.2.2.2.2.1 X.g, X.gl, ?_, om mp.2.2.2.2.2.1 X.v, X.vl, X.ve.mono fun _ _ z => tup z, om mp.2.2.2.2.2.2.1 X.gn, X.n1⟩
  refine ⟨X.ge.1, fun i e x h1 h2 => ?_⟩
  obtain ⟨la, ks, e1, e2, e3, e4⟩ := X.ge.2 i e x h1 h2
  refine ⟨la, ks, tup e1, ?_, e3.mono fun _ _ z => tup z, e4⟩
  obtain ⟨m, e2⟩ := of_hid e2
  refine hid_of (fr _ _ (fun z => ?_) e2) m
  rw [z, hl] at e2
  have ea : as.map V.ref = ks.map V.ref := by injection e2 with q; injection q
  have ea : as = ks := (List.map_inj_right (fun a b q => V.ref.inj q)).mp ea
  have xne := ne x (List.mem_of_getElem? h2)
  cases hx : x.2 with
  | nil => exact xne hx
  | cons y r =>
    obtain ⟨k0, hk0, hy⟩ := e3.right (i := 0) (y := y) (by rw [hx]; rfl)
    rw [← ea] at hk0
    obtain ⟨ln, _, hr⟩ := has.left hk0
    obtain ⟨xs, q1, q2⟩ := hr.len
    have hy := (of_hid hy).2
    rw [q1] at hy
    have : xs = (keyOf y).map kV := by injection hy with q; injection q
    rw [this] at q2
    have k3 : ((keyOf y).map kV).length ≤ 3 := by
      rw [List.length_map]
      cases y <;> exact Nat.le_of_ble_eq_true rfl
    omega
end
theorem Stp.sub2 {M M' : List Addr} {H H' : Hp} {l : Addr} (st : Stp M H M' H') : Same (hid (l :: M) H) (hid (l :: M') H') := fun a o e => by
  obtain ⟨m, e⟩ := of_hid e
  rw [List.mem_cons, not_or] at m
  refine hid_of (st.same _ _ (hid_of e m.2)) fun z => ?_
  rcases List.mem_cons.mp z with z | z
  · exact m.1 z
  · rcases st.new a z with q | q
    · exact m.2 q
    · rw [e] at q; cases q
theorem hid_more {M : List Addr} {H : Hp} {l : Addr} : Same (hid (l :: M) H) (hid M H) := fun a o e => by
  obtain ⟨m, e⟩ := of_hid e
  rw [List.mem_cons, not_or] at m
  exact hid_of e m.2
/-- what has been made of the rows -/
structure RowsI (K : PySem.W.Frag) (H0 H : Hp) (d l : Addr) (M : List Addr) (bs : List Bd) (i : Nat) (W : LsW) (as : List Addr) (ls : List Ln) : Prop where
  X : LsX M H d bs (ls.foldl (SM.take bs) (SM.begin bs)) (7 + 2 * i) W
  sv : SvOk bs (ls.foldl (SM.take bs) (SM.begin bs)) i
  ne : GoodNe (ls.foldl (SM.take bs) (SM.begin bs))
  lM : l ∉ M
  hl : H l = some (.lst (as.map V.ref))
  has : L2R (RwAt K H) as ls
  sH : Same H0 (hid (l :: M) H)
  nums : ls.map Ln.num = (List.range i).map nuOf
  ok : ∀ x ∈ ls, LnBd x ∧ LnInB bs x ∧ LnOk x
section
variable {P : Program} {w : World} {K : PySem.W.Frag} {mg : Str → Option Value} {base : Heap}
abbrev tRw2 (K : PySem.W.Frag) : TS := tSeq (tIfS (tTest (tOp rEq (tOp (rIxT K) (tVar 10) (tC (V.int 0))) (tC (V.str "spoil")))) (tDrop (tCall (sp_l_spoiled K) [] E0 (tCons (tVar 5) (tCons (tVar 3) (tCons (tVar 10) tNil))))) (tDrop (tCall (sp_l_promised K) [] E0 (tCons (tVar 5) (tCons (tVar 10) tNil)))))
  (tDrop (tBM K "list" rAppend (tVar 6) (tCons (tVar 10) tNil)))
theorem rows_step {H0 B H : Hp} {d l dl a : Addr} {M : List Addr} {bs : List Bd} {ts : List Addr} {i : Nat} {W : LsW} {as : List Addr} {ls : List Ln} {ln : Ln} (I : RowsI K H0 B d l M bs i W as ls) (i1 : i < 30) (hdl : H0 dl = some (.lst (ts.map V.ref))) (hts : L2R (BdrAt H0) ts bs) (d3 : bs.length ≤ 3) (dnd : (bs.map Bd.name).Nodup) (dok : ∀ b ∈ bs, b.Ok)
    (sB : Same B H) (hr : RwAt K H a ln) (hn : ln.num = nuOf i) (ok : LnBd ln ∧ LnInB bs ln ∧ LnOk ln) {x0 x1 x2 x4 x7 x8 x9 : Option V} {D : Ends}
    (k : ∀ H' M' W', RowsI K H0 H' d l M' bs (i + 1) W' (as ++ [a]) (ls ++ [ln]) → D.nx [x0, x1, x2, some (.ref dl), x4, some (.ref d), some (.ref l), x7, x8, x9, some (.ref a)] H') :
    tRw2 K D [x0, x1, x2, some (.ref dl), x4, some (.ref d), some (.ref l), x7, x8, x9, some (.ref a)] H := by
  have X1 := I.X.grow sB
  have sH1 : Same H0 (hid (l :: M) H) := I.sH.trans (Stp.grow sB).sub2
  have sM : Same H0 (hid M H) := sH1.trans hid_more
  have rest : ∀ H2 M2 W2, LsX M2 H2 d bs ((ls.foldl (SM.take bs) (SM.begin bs)).take bs ln) (7 + 2 * i + 2) W2 → Stp M H M2 H2 → (tDrop (tBM K "list" rAppend (tVar 6) (tCons (tVar 10) tNil))) D [x0, x1, x2, some (.ref dl), x4, some (.ref d), some (.ref l), x7, x8, x9, some (.ref a)] H2 := by
    intro H2 M2 W2 X2 st
    have hl1 : H l = some (.lst (as.map V.ref)) := sB _ _ I.hl
    have hl2 := st.same _ _ (hid_of hl1 I.lM)
    have lM2 : l ∉ M2 := fun m => by
      rcases st.new l m with q | q
      · exact I.lM q
      · rw [hl1] at q; cases q
    have has2 : L2R (RwAt K H2) as ls := I.has.mono fun _ _ e => (e.same sB).stp X1 st
    have hr2 : RwAt K H2 a ln := hr.stp X1 st
    have la : as.length = i := by
      rw [I.has.1]
      have := congrArg List.length I.nums
      rw [List.length_map, List.length_map, List.length_range] at this
      exact this
    have ef : (ls ++ [ln]).foldl (SM.take bs) (SM.begin bs) = (ls.foldl (SM.take bs) (SM.begin bs)).take bs ln := by rw [List.foldl_append]; rfl
    have ne2 : GoodNe ((ls.foldl (SM.take bs) (SM.begin bs)).take bs ln) := I.ne.take ln
    refine ⟨_, rfl, .inl ⟨rfl, _, .of hl2⟩, _, rfl, l, _, _, rfl, rfl, hl2, by rw [List.length_map, la]; exact Nat.lt_trans i1 (by decide), ?_⟩
    have fr : ∀ c o, c ≠ l → H2 c = some o → upd H2 l (.lst (as.map V.ref ++ [.ref a])) c = some o := fun c o n e => by rw [upd_ne n]; exact e
    have up : ∀ {q x}, RwAt K H2 q x → RwAt K (upd H2 l (.lst (as.map V.ref ++ [.ref a]))) q x := fun {q x} h => by
      have tp : ∀ {c xs}, H2 c = some (.tup xs) → upd H2 l (.lst (as.map V.ref ++ [.ref a])) c = some (.tup xs) := fun e => fr _ _ (ne_of e hl2 (by intro q; cases q)) e
      cases x with
      | sp n m b => exact tp h
      | pr r =>
        obtain ⟨t, e1, e2⟩ := h
        refine ⟨t, tp e1, ?_⟩
        cases eth : r.th with
        | root b k => rw [eth] at e2; exact tp e2
        | offs b k => rw [eth] at e2; exact tp e2
        | share b u =>
          rw [eth] at e2
          obtain ⟨p, e3, d4, e4⟩ := e2
          exact ⟨p, tp e3, d4, fr _ _ (ne_of e4 hl2 (by intro q; cases q)) e4⟩
    refine k _ M2 W2 ⟨?_, ?_, ?_, lM2, by rw [upd_same, List.map_append]; rfl, (has2.mono fun _ _ e => up e).snoc (up hr2), ?_, ?_, fun x hx => ?_⟩
    · rw [ef]
      exact X2.other ne2 lM2 hl2 has2 fr
    · rw [ef]; exact I.sv.take dnd dok ok.2.1
    · rw [ef]; exact ne2
    · rw [hid_upd (by simp)]
      exact sH1.trans st.sub2
    · rw [List.map_append, I.nums, List.range_succ, List.map_append]
      show _ ++ [ln.num] = _ ++ [nuOf i]
      rw [hn]
    · rcases List.mem_append.mp hx with hx | hx
      · exact I.ok x hx
      · rw [List.mem_singleton.mp hx]; exact ok
  have hrM : RwAt K (hid M H) a ln := hr.hidM X1
  cases ln with
  | sp nu mo b =>
    have q1 : H a = some (.tup [.str "spoil", .int nu, .int mo, .str b]) := hr
    obtain ⟨bd, hb, rfl⟩ := ok.2.1
    refine ⟨_, rfl, a, _, _, _, rfl, rfl, .of q1, atI_nat (j := 0) rfl, rfl, _, rfl, iteD rfl ?_⟩
    refine ⟨_, rfl, _, rfl, _, rfl, d, dl, a, M, bs, ts, _, _, W, nu, mo, bd, rfl, X1, by omega, hrM, hb, dnd, dok, d3, sM _ _ hdl, hts.mono fun _ _ e => sM _ _ e, fun H5 M5 W5 X5 st5 => ?_⟩
    exact rest H5 M5 W5 X5 st5
  | pr r =>
    obtain ⟨t, q1, q2⟩ := id hr
    obtain ⟨bd, hp⟩ := ok.2.1
    refine ⟨_, rfl, a, _, _, _, rfl, rfl, .of q1, atI_nat (j := 0) rfl, rfl, _, rfl, iteDn (vne kne7) ?_⟩
    refine ⟨_, rfl, _, rfl, d, a, M, bs, _, _, W, r, bd, rfl, X1, by omega, hrM, hp, fun H5 W5 X5 st5 => ?_⟩
    exact rest H5 M W5 X5 st5
/-- another moment -/
def Ln.at_ (m : Int) : Ln → Ln
  | .pr r => .pr { r with mom := m }
  | .sp n _ b => .sp n m b
theorem LnInB.at_ {bs : List Bd} {l : Ln} {m : Int} (h : LnInB bs l) (m0 : 0 ≤ m) : LnInB bs (l.at_ m) := by
  cases l with
  | pr r => obtain ⟨b, ok, h2, h3⟩ := h; exact ⟨b, ⟨ok.n, m0, ok.s, ok.b, ok.ne, ok.th, ok.p1, ok.p2, ok.st, ok.e1, ok.e2⟩, h2, h3⟩
  | sp n m' b => exact h
theorem LnOk.at_ {l : Ln} {m : Int} (h : LnOk l) (m0 : 0 ≤ m) : LnOk (l.at_ m) := by
  cases l with
  | pr r => exact ⟨h.n, m0, h.s, h.b, h.ne, h.th, h.p1, h.p2, h.st, h.e1, h.e2⟩
  | sp n m' b => exact ⟨h.1, m0, h.2.2⟩
abbrev tMom (K : PySem.W.Frag) : TS := tAsg (tOp (rCatT K) (tOp (rCatT K) (tSl (rSlT K) (tVar 10) tNoPart (tPart (tC (V.int 2)))) (tTup (tCons (tOp (rI CMul fun i j => V.int (i * j)) (tC (V.int 3)) (tCall (sp_l_next K) [] E0 (tCons (tVar 9) (tCons (tOp (rI0 fun i j => V.int (i + j)) (tC (V.int 1)) (tLen K 1)) tNil)))) tNil))) (tSl (rSlT K) (tVar 10) (tPart (tC (V.int 3))) tNoPart)) (gName 10)
theorem mom_l {B H : Hp} {c cl a : Addr} {z : Nat} {cs : List Int} {ln : Ln} (sB : Same B H) (nc : B c = none) (hs : SrcAt H c z) (hz : z < 1000) (hcl : B cl = some (.lst (cs.map V.int))) (cs1 : cs.length ≤ 24) (hr : RwAt K H a ln) {x0 x2 x3 x4 x5 x6 x7 x8 : Option V} {D : Ends}
    (k : ∀ (r : Nat) a' H', r < 1 + cs.length → RwAt K H' a' (ln.at_ (3 * (r : Int))) → Same B H' → D.nx [x0, some (.ref cl), x2, x3, x4, x5, x6, x7, x8, some (.ref c), some (.ref a')] H') :
    tMom K D [x0, some (.ref cl), x2, x3, x4, x5, x6, x7, x8, some (.ref c), some (.ref a)] H := by
  have en : V.int ((1 + cs.length : Nat) : Int) = V.int (1 + (cs.length : Int)) := by rw [show ((1 + cs.length : Nat) : Int) = 1 + (cs.length : Int) by omega]
  cases ln with
  | pr r =>
    obtain ⟨t, h1, ht⟩ := hr
    refine ⟨_, rfl, _, rfl, a, _, rfl, .of h1, (by show ¬ (HT.sIx 10 0 none = 0 ∧ HT.sIx 10 10 (some 2) = 10); decide), fun p0 np0 => ?_⟩
    rw [show cutV (rwV r t) none (some 2) = [.str "promise", .int r.num] from rfl]
    generalize hh : upd H p0 _ = H1; obtain ⟨s1, hp0⟩ := gen_new hh np0; clear hh
    refine ⟨_, rfl, _, rfl, .ref cl, cs.length, rfl, .inl ⟨_, .of (s1 _ _ (sB _ _ hcl)), (List.length_map ..).symm⟩, _, _, rfl, rfl, c, z, 1 + cs.length, by rw [en]; rfl, hs.same s1, by omega, by omega, by omega, fun g H2 hg hs2 t2 => ⟨_, _, rfl, rfl, .inl ⟨by decide, by decide⟩, by show 1 ≤ sizeLine; decide, fun t1 nt1 => ?_⟩⟩
    have hp2 := t2.tup (fun m hm => by rw [List.mem_singleton.mp hm]; exact (hs.same s1).lst) hp0
    generalize hh : upd H2 t1 _ = H3; obtain ⟨s3, ht1⟩ := gen_new hh nt1; clear hh
    refine ⟨p0, t1, _, _, rfl, rfl, .of (s3 _ _ hp2), .of ht1, by simp, by show 3 ≤ sizeLine; decide, nofun, fun _ p np => ?_⟩
    generalize hh : upd H3 p _ = H4; obtain ⟨s4, hp⟩ := gen_new hh np; clear hh
    have sB4 := (src_same (sB.trans s1) nc t2).trans (s3.trans s4)
    have hr4 : RwAt K H4 a (.pr r) := ((RwAt.src (l := .pr r) (RwAt.same (l := .pr r) ⟨t, h1, ht⟩ s1) (hs.same s1) t2).same s3).same s4
    obtain ⟨t', h4, ht4⟩ := hr4
    refine ⟨_, rfl, _, rfl, a, _, rfl, .of h4, (by show ¬ (HT.sIx 10 0 (some 3) = 0 ∧ HT.sIx 10 10 none = 10); decide), fun p3 np3 => ?_⟩
    rw [show cutV (rwV r t') (some 3) none = [.str r.seller, .str r.buyer, .ref t', .int r.price, .str "flat", .str (goW r.stay), .int r.earnest] from rfl]
    generalize hh : upd H4 p3 _ = H5; obtain ⟨s5, hp3⟩ := gen_new hh np3; clear hh
    refine ⟨p, p3, _, _, rfl, rfl, .of (s5 _ _ hp), .of hp3, by simp, by show 10 ≤ sizeLine; decide, nofun, fun _ q nq => ?_⟩
    generalize hh : upd H5 q _ = H6; obtain ⟨s6, hq⟩ := gen_new hh nq; clear hh
    exact k g q H6 hg ⟨t', hq, (ht4.same s5).same s6⟩ (sB4.trans (s5.trans s6))
  | sp nu mo b =>
    have h1 : H a = some (.tup [.str "spoil", .int nu, .int mo, .str b]) := hr
    refine ⟨_, rfl, _, rfl, a, _, rfl, .of h1, (by show ¬ (HT.sIx 4 0 none = 0 ∧ HT.sIx 4 4 (some 2) = 4); decide), fun p0 np0 => ?_⟩
    rw [show cutV [V.str "spoil", .int nu, .int mo, .str b] none (some 2) = [.str "spoil", .int nu] from rfl]
    generalize hh : upd H p0 _ = H1; obtain ⟨s1, hp0⟩ := gen_new hh np0; clear hh
    refine ⟨_, rfl, _, rfl, .ref cl, cs.length, rfl, .inl ⟨_, .of (s1 _ _ (sB _ _ hcl)), (List.length_map ..).symm⟩, _, _, rfl, rfl, c, z, 1 + cs.length, by rw [en]; rfl, hs.same s1, by omega, by omega, by omega, fun g H2 hg hs2 t2 => ⟨_, _, rfl, rfl, .inl ⟨by decide, by decide⟩, by show 1 ≤ sizeLine; decide, fun t1 nt1 => ?_⟩⟩
    have cl : ∀ m ∈ [c], ∃ xs, H1 m = some (.lst xs) := fun m hm => by rw [List.mem_singleton.mp hm]; exact (hs.same s1).lst
    have hp2 := t2.tup cl hp0
    generalize hh : upd H2 t1 _ = H3; obtain ⟨s3, ht1⟩ := gen_new hh nt1; clear hh
    refine ⟨p0, t1, _, _, rfl, rfl, .of (s3 _ _ hp2), .of ht1, by simp, by show 3 ≤ sizeLine; decide, nofun, fun _ p np => ?_⟩
    generalize hh : upd H3 p _ = H4; obtain ⟨s4, hp⟩ := gen_new hh np; clear hh
    have sB4 := (src_same (sB.trans s1) nc t2).trans (s3.trans s4)
    have h4 := s4 _ _ (s3 _ _ (t2.tup cl (s1 _ _ h1)))
    refine ⟨_, rfl, _, rfl, a, _, rfl, .of h4, (by show ¬ (HT.sIx 4 0 (some 3) = 0 ∧ HT.sIx 4 4 none = 4); decide), fun p3 np3 => ?_⟩
    rw [show cutV [V.str "spoil", .int nu, .int mo, .str b] (some 3) none = [.str b] from rfl]
    generalize hh : upd H4 p3 _ = H5; obtain ⟨s5, hp3⟩ := gen_new hh np3; clear hh
    refine ⟨p, p3, _, _, rfl, rfl, .of (s5 _ _ hp), .of hp3, by simp, by show 4 ≤ sizeLine; decide, nofun, fun _ q nq => ?_⟩
    generalize hh : upd H5 q _ = H6; obtain ⟨s6, hq⟩ := gen_new hh nq; clear hh
    exact k g q H6 hg hq (sB4.trans (s5.trans s6))
def sp_l_rows (K : PySem.W.Frag) : Sp := fun vs H Q _ => ∃ (c0 cl nl dl tl : Addr) (cs : List Int) (ns : List Str) (ts us : List Addr) (bs : List Bd) (ys : List Ky), vs = [.ref c0, .ref cl, .ref nl, .ref dl, .ref tl] ∧ H cl = some (.lst (cs.map V.int)) ∧ cs.length ≤ 24 ∧
  H nl = some (.lst (ns.map V.str)) ∧ 2 ≤ ns.length ∧ ns.length ≤ 10 ∧ ns.Nodup ∧ (∀ x ∈ ns, IsNm x) ∧ H dl = some (.lst (ts.map V.ref)) ∧ L2R (BdrAt H) ts bs ∧ bs.length ≤ 3 ∧ (∀ b ∈ bs, b.Ok) ∧ (bs.map Bd.name).Nodup ∧
  H tl = some (.lst (us.map V.ref)) ∧ L2R (ThgAt H) us ys ∧ 1 ≤ ys.length ∧ ys.length ≤ 100 ∧ (∀ y ∈ ys, KyB bs y) ∧
  ∀ l as ls H', Same H H' → H l = none → H' l = some (.lst (as.map V.ref)) → L2R (RwAt K H') as ls → ls.map Ln.num = (List.range cs.length).map nuOf → (∀ x ∈ ls, LnBd x ∧ LnInB bs x ∧ LnOk x) → Q (.ref l) H'
theorem ok_l_rows (T : Tx K mg) : FnOk P w K mg base CX0 6 (He.ga K "_law_rows") (fdOf K dd_l_rows) ["_law_source_here", "_law_cells", "_law_names_here", "_law_beds", "_law_things_here"] (sp_l_rows K) := by
  refine okF T.d_l_rows sc_l_rows (fun vs H Q E h => ?_) (fun cdv A outer s H vs Q E hr h => ?_)
  · obtain ⟨_, _, _, _, _, _, _, _, _, _, _, rfl, _⟩ := h; rfl
  · obtain ⟨c0, cl, nl, dl, tl, cs, ns, ts, us, bs, ys, rfl, hcl, cs1, hnl, n2, n10, nnd, nnm, hdl, hts, d3, dok, dnd, htl, hth, y1, y2, yb, k⟩ := h
    refine ⟨_, (pss_cons (ps_set (i := 5) sc_l_rows.nd rfl (by first | exact Or.inl rfl | exact Or.inr rfl) (pe_call (ok_l_begin T) (hr.mono (by decide)) rfl T.g_l_begin T.d_l_begin.kp T.b_l_begin .nil pass0 (pa_cons (pv 3) pa_nil)))
      (pss_cons (ps_set (i := 6) sc_l_rows.nd rfl (by first | exact Or.inl rfl | exact Or.inr rfl) (pe_lst pa_nil))
      (pss_cons (ps_for PassesOwn.never rfl (pi_enum (by rfl) T.f_enumerate (pa_cons (pv 1) pa_nil)) (pg_tup rfl (pgs_cons (pg_name (i := 7) sc_l_rows.nd rfl (by first | exact Or.inl rfl | exact Or.inr rfl)) (pgs_cons (pg_name (i := 8) sc_l_rows.nd rfl (by first | exact Or.inl rfl | exact Or.inr rfl)) pgs_nil))) (pss_cons (ps_set (i := 9) sc_l_rows.nd rfl (by first | exact Or.inl rfl | exact Or.inr rfl) (pe_call (ok_l_source T) (hr.mono (by decide)) rfl T.g_l_source T.d_l_source.kp T.b_l_source .nil pass0 (pa_cons (pv 8) pa_nil)))
      (pss_cons (ps_set (i := 10) sc_l_rows.nd rfl (by first | exact Or.inl rfl | exact Or.inr rfl) (pe_call (ok_l_row_of T) (hr.mono (by decide)) rfl T.g_l_row_of T.d_l_row_of.kp T.b_l_row_of .nil pass0 (pa_cons (pv 9) (pa_cons (pv 7) (pa_cons (pv 2) (pa_cons (pv 4) (pa_cons (pv 5) (pa_cons pe_int pa_nil))))))))
      (pss_cons (ps_if (pt_cmpR op_eq (pe_call (ok_l_next T) (hr.mono (by decide)) rfl T.g_l_next T.d_l_next.kp T.b_l_next .nil pass0 (pa_cons (pv 9) (pa_cons pe_int pa_nil))) pe_int (nomark _)) (pss_one (ps_set (i := 10) sc_l_rows.nd rfl (by first | exact Or.inl rfl | exact Or.inr rfl) (pe_op op_catT (pe_op op_catT (pe_slice sl_tup (pv 10) po_none (po_some pe_int)) (pe_tup (pa_cons (pe_op op_mul pe_int (pe_call (ok_l_next T) (hr.mono (by decide)) rfl T.g_l_next T.d_l_next.kp T.b_l_next .nil pass0 (pa_cons (pv 9) (pa_cons (pe_op op_add pe_int (pe_callB call_len (by rfl) T.f_len PySem.boot_len (pa_cons (pv 1) pa_nil))) pa_nil)))) pa_nil))) (pe_slice sl_tup (pv 10) (po_some pe_int) po_none)))) pss_nil)
      (pss_cons (ps_if (pt_cmpR op_eq (pe_ix (ix_tupK K rfl) (pv 10) pe_int (fun _ _ => rfl)) pe_str (nomark _)) (pss_one (ps_expr (pe_call (ok_l_spoiled T) (hr.mono (by decide)) rfl T.g_l_spoiled T.d_l_spoiled.kp T.b_l_spoiled .nil pass0 (pa_cons (pv 5) (pa_cons (pv 3) (pa_cons (pv 10) pa_nil)))))) (pss_one (ps_expr (pe_call (ok_l_promised T) (hr.mono (by decide)) rfl T.g_l_promised T.d_l_promised.kp T.b_l_promised .nil pass0 (pa_cons (pv 5) (pa_cons (pv 10) pa_nil))))))
      (pss_one (ps_expr (pe_bm PySem.F.plainAttrs_list PySem.F.slot_list_append PySem.F.type_list_append mt_append (pv 6) (pa_cons (pv 10) pa_nil)))))))))
      (pss_one (ps_ret (pv 6)))))), ?_⟩
    refine ⟨_, rfl, dl, bs, ts, rfl, hdl, hts, d3, dok, dnd, fun d M H1 W X1 s1 fM => ?_⟩
    refine ⟨by show 0 ≤ sizeLine; decide, fun l nl2 => ?_⟩
    have lM := X1.notM nl2
    have l0 : H l = none := s1.free nl2
    generalize hh : upd H1 l _ = H2; obtain ⟨s2, hl⟩ := gen_new hh nl2; clear hh
    have hl : H2 l = some (.lst (([] : List Addr).map V.ref)) := hl
    have s12 := s1.trans s2
    have sH2 : Same H (hid (l :: M) H2) := fun a o e => hid_of (s12 _ _ e) fun m => by
      rcases List.mem_cons.mp m with q | q
      · rw [q, l0] at e; cases e
      · rw [fM a q] at e; cases e
    refine ⟨_, rfl, cl, _, rfl, .of (s12 _ _ hcl), ?_⟩
    refine for_it (walk_enum (xs := cs.map V.int)) (fun i σ H' => ∃ M' W' as ls x7 x8 x9 x10, σ = [some (.ref c0), some (.ref cl), some (.ref nl), some (.ref dl), some (.ref tl), some (.ref d), some (.ref l), x7, x8, x9, x10] ∧ RowsI K H H' d l M' bs i W' as ls)
      ⟨M, W, [], [], none, none, none, none, rfl, X1.grow s2, SvOk.begin dnd dok, GoodNe.begin bs, lM, hl, .nil, sH2, rfl, nofun⟩ (fun i σ H' _ ⟨_, _, _, _, _, _, _, _, _, I⟩ => (I.sH.trans hid_same).seq (.of hcl)) ?_ ?_
    · rintro i v σ H3 H4 hi ⟨M', W', as, ls, x7, x8, x9, x10, rfl, I⟩ ⟨T0, x, y, rfl, nT, rfl, ex, ey⟩
      rw [List.length_map] at hi
      have ex := Option.some.inj ex
      subst ex
      have ey : (cs.map V.int)[i]? = some y := ey
      rw [List.getElem?_map] at ey
      cases ec : cs[i]? with
      | none => rw [ec] at ey; cases ey
      | some cell =>
        rw [ec] at ey
        cases ey
        generalize hh : upd H3 T0 _ = H5; obtain ⟨s5, hT⟩ := gen_new hh nT; clear hh
        refine ⟨T0, _, rfl, .of hT, rfl, _, _, rfl, _, _, rfl, rfl, ?_⟩
        refine ⟨_, rfl, cell, rfl, fun c H6 nc s6 hs6 => ?_⟩
        have sB : Same H3 H6 := s5.trans s6
        have nc3 : H3 c = none := s5.free nc
        have sH3 := I.sH.trans hid_same
        have TI : TlIn H3 nl tl d ns us ys M' bs (ls.foldl (SM.take bs) (SM.begin bs)) (7 + 2 * i) W' i := ⟨I.X, I.sv, by omega, sH3 _ _ hnl, n2, n10, nnd, nnm, sH3 _ _ htl, hth.mono fun _ _ e => e.same sH3, y1, y2, yb, dok⟩
        refine ⟨_, rfl, _, rfl, _, rfl, _, rfl, _, rfl, c, nl, tl, d, 0, i, H3, ns, us, ys, M', bs, _, _, W', i, rfl, TI, sB, nc3, hs6, by decide, by omega, fun ln a H7 e1 e2 e3 e4 e5 s7 hs7 => ?_⟩
        refine ⟨_, rfl, c, _, 3, rfl, hs7, by decide, by decide, by decide, fun g H8 hg hs8 t8 => ⟨rfl, _, rfl, ?_⟩⟩
        have s8 := src_same s7 nc3 t8
        have r8 := e5.src hs7 t8
        have nu0 : (0 : Int) ≤ (i : Int) * 37 % 101 := Int.emod_nonneg _ (by decide)
        have nu1 : (i : Int) * 37 % 101 < 101 := Int.emod_lt_of_pos _ (by decide)
        have nb : ∀ {ln' : Ln}, ln'.num = nuOf i → 0 ≤ ln'.mom → ln'.mom < 1000 → LnBd ln' := fun {ln'} h1 h2 h3 => ⟨h2, h3, by rw [h1]; unfold nuOf; omega, by rw [h1]; unfold nuOf; omega⟩
        by_cases g0 : g = 0
        · refine iteD (by rw [g0]; rfl) ?_
          refine mom_l s8 nc3 hs8 (by omega) (sH3 _ _ hcl) cs1 r8 fun r a' H9 hr9 r9 s9 => ?_
          have a1 : (ln.at_ (3 * (r : Int))).num = nuOf i := by rw [← e1]; cases ln <;> rfl
          have a2 : (ln.at_ (3 * (r : Int))).mom = 3 * (r : Int) := by cases ln <;> rfl
          refine rows_step I (by omega) hdl hts d3 dnd dok s9 r9 a1 ⟨nb a1 (by rw [a2]; omega) (by rw [a2]; omega), e3.at_ (by omega), e4.at_ (by omega)⟩ fun H' M9 W9 I9 => ?_
          exact ⟨M9, W9, _, _, _, _, _, _, rfl, I9⟩
        · refine iteDn (by intro q; injection q with q; omega) ?_
          refine rows_step I (by omega) hdl hts d3 dnd dok s8 r8 e1 ⟨nb e1 (by omega) (by omega), e3, e4⟩ fun H' M9 W9 I9 => ?_
          exact ⟨M9, W9, _, _, _, _, _, _, rfl, I9⟩
    · rintro σ H3 ⟨M', W', as, ls, x7, x8, x9, x10, rfl, I⟩
      have I := I
      rw [List.length_map] at I
      exact ⟨_, rfl, k l as ls H3 (I.sH.trans hid_same) l0 I.hl I.has I.nums I.ok⟩
end
end Rp


set_option maxRecDepth 100000
set_option maxHeartbeats 4000000
namespace Rp
open PySem PySem.Spec PyProof.Rows L2
theorem FieldAt.hidC {K : PySem.W.Frag} {H : Hp} {c f : Addr} {fb : List (Bd × Addr)} {xs : List V} (F : FieldAt K H f fb) (hc : H c = some (.lst xs)) : FieldAt K (hid [c] H) f fb := by
  have nl : ∀ {a o}, H a = some o → (∀ z, o ≠ .lst z) → hid [c] H a = some o := fun {a o} e q => hid_of e fun m => by
    rw [List.mem_singleton.mp m, hc] at e
    exact q _ (Option.some.inj e).symm
  obtain ⟨dx, g, d, e1, e2⟩ := F.ob
  exact ⟨⟨dx, g, d, nl e1 (by intros; nofun), nl e2 (by intros; nofun)⟩, fun x hx => let ⟨dxb, e⟩ := F.at_ x hx; ⟨dxb, nl e (by intros; nofun)⟩, F.ok, F.nd, F.n2⟩
theorem cut3 (ns : List Str) (i : Nat) : cutV (ns.map V.str) none (some (i : Int)) = (ns.take i).map V.str := by rw [cut_to, List.map_take]
theorem cut3' (ns : List Str) (i : Nat) : cutV (ns.map V.str) (some (i : Int)) none = (ns.drop i).map V.str := by rw [cut_from, List.map_drop]
section
variable {P : Program} {w : World} {K : PySem.W.Frag} {mg : Str → Option Value} {base : Heap}
def sp_l_bed (K : PySem.W.Frag) : Sp := fun vs H Q _ => ∃ (a : Addr) (l : Ln), vs = [.ref a] ∧ RwAt K H a l ∧ Q (.str l.bed) H
theorem ok_l_bed (T : Tx K mg) : FnOk P w K mg base CX0 1 (He.ga K "_law_bed") (fdOf K dd_l_bed) ["_law_row"] (sp_l_bed K) := by
  refine okF T.d_l_bed sc_l_bed (fun vs H Q E h => ?_) (fun cdv A outer s H vs Q E hr h => ?_)
  · obtain ⟨_, _, rfl, _⟩ := h; rfl
  · obtain ⟨a, l, rfl, ha, k⟩ := h
    refine ⟨_, (pss_cons (ps_if (pt_cmpR op_eq (pe_ix (ix_tupK K rfl) (pv 0) pe_int (fun _ _ => rfl)) pe_str (nomark _)) (pss_one (ps_ret (pe_ix (ix_tupK K rfl) (pv 0) pe_int (fun _ _ => rfl)))) pss_nil)
      (pss_one (ps_ret (pe_ix (ix_tupK K rfl) (pe_ix (ix_tupK K rfl) (pv 0) pe_int (fun _ _ => rfl)) pe_int (fun _ _ => rfl))))), ?_⟩
    cases l with
    | sp n m b =>
      have h1 : H a = some (.tup [.str "spoil", .int n, .int m, .str b]) := ha
      exact ⟨_, rfl, a, _, _, _, rfl, rfl, .of h1, atI_nat (j := 0) rfl, rfl, _, rfl, iteD rfl ⟨_, rfl, a, _, _, _, rfl, rfl, .of h1, atI_nat (j := 3) rfl, k⟩⟩
    | pr r =>
      obtain ⟨t, h1, ht⟩ := ha
      obtain ⟨z, v, hz⟩ := ht.tup
      exact ⟨_, rfl, a, _, _, _, rfl, rfl, .of h1, atI_nat (j := 0) rfl, rfl, _, rfl, iteDn (vne kne7) ⟨_, rfl, a, _, _, _, rfl, rfl, .of h1, atI_nat (j := 5) rfl, t, _, _, _, rfl, rfl, .of hz, atI_nat (j := 1) rfl, k⟩⟩
/-- what stands of a scene: four names, the beds' rows, the field -/
structure Scene (K : PySem.W.Frag) (I : Hp) (nl dl f : Addr) (ns : List Str) (ts : List Addr) (bs : List Bd) (fb : List (Bd × Addr)) : Prop where
  hnl : I nl = some (.lst (ns.map V.str))
  n4 : ns.length = 4
  nd : ns.Nodup
  nm : ∀ x ∈ ns, IsNm x
  hdl : I dl = some (.lst (ts.map V.ref))
  hts : L2R (BdrAt I) ts bs
  b1 : 1 ≤ bs.length
  b3 : bs.length ≤ 3
  bok : ∀ b ∈ bs, b.Ok
  bnd : (bs.map Bd.name).Nodup
  efb : fb.map (·.1) = bs
  fld : FieldAt K I f fb
theorem Scene.same {I I' : Hp} {nl dl f : Addr} {ns : List Str} {ts : List Addr} {bs : List Bd} {fb : List (Bd × Addr)} (S : Scene K I nl dl f ns ts bs fb) (s : Same I I') : Scene K I' nl dl f ns ts bs fb :=
  ⟨s _ _ S.hnl, S.n4, S.nd, S.nm, s _ _ S.hdl, S.hts.mono fun _ _ e => s _ _ e, S.b1, S.b3, S.bok, S.bnd, S.efb, S.fld.same s⟩
def sp_l_scene (K : PySem.W.Frag) : Sp := fun vs H Q _ => ∃ (c : Addr) (z : Nat), vs = [.ref c, .int 3] ∧ SrcAt H c z ∧ z < 100 ∧
  ∀ (t nl dl f : Addr) (ns : List Str) (ts : List Addr) (bs : List Bd) (fb : List (Bd × Addr)) H', Stp [c] H [c] H' → SrcAt H' c (z + 500) → hid [c] H' t = some (.tup [.ref nl, .ref dl, .ref f]) → Scene K (hid [c] H') nl dl f ns ts bs fb → Q (.ref t) H'
theorem ok_l_scene (T : Tx K mg) : FnOk P w K mg base CX0 8 (He.ga K "_law_scene") (fdOf K dd_l_scene) ["_law_source_here", "_law_most"] (sp_l_scene K) := by
  refine okF T.d_l_scene sc_l_scene (fun vs H Q E h => ?_) (fun cdv A outer s H vs Q E hr h => ?_)
  · obtain ⟨_, _, rfl, _⟩ := h; rfl
  · obtain ⟨c, z, rfl, hs, z1, k⟩ := h
    refine ⟨_, (pss_cons (ps_set (i := 2) sc_l_scene.nd rfl (by first | exact Or.inl rfl | exact Or.inr rfl) (pe_call (ok_l_names T) (hr.mono (by decide)) rfl T.g_l_names T.d_l_names.kp T.b_l_names .nil pass0 (pa_cons (pv 0) (pa_cons pe_int pa_nil))))
      (pss_cons (ps_set (i := 3) sc_l_scene.nd rfl (by first | exact Or.inl rfl | exact Or.inr rfl) (pe_call (ok_l_breed_rows T) (hr.mono (by decide)) rfl T.g_l_breed_rows T.d_l_breed_rows.kp T.b_l_breed_rows .nil pass0 (pa_cons (pv 0) (pa_cons (pe_slice sl_list (pv 2) po_none (po_some pe_int)) pa_nil))))
      (pss_cons (ps_set (i := 4) sc_l_scene.nd rfl (by first | exact Or.inl rfl | exact Or.inr rfl) (pe_call (ok_l_bed_rows T) (hr.mono (by decide)) rfl T.g_l_bed_rows T.d_l_bed_rows.kp T.b_l_bed_rows .nil pass0 (pa_cons (pv 0) (pa_cons (pe_slice sl_list (pv 2) (po_some pe_int) po_none) (pa_cons (pv 3) (pa_cons (pe_slice sl_list (pv 2) po_none (po_some pe_int)) (pa_cons (pv 1) pa_nil)))))))
      (pss_one (ps_ret (pe_tup (pa_cons (pe_slice sl_list (pv 2) po_none (po_some pe_int)) (pa_cons (pv 4) (pa_cons (pe_call (ok_l_field T) (hr.mono (by decide)) rfl T.g_l_field T.d_l_field.kp T.b_l_field .nil pass0 (pa_cons (pv 3) (pa_cons (pv 4) pa_nil))) pa_nil))))))))), ?_⟩
    refine ⟨_, rfl, c, z, rfl, hs, by omega, fun ns l H1 n10 nnd nnm hs1 t1 nl hl => ?_⟩
    have free : ∀ {H' : Hp} {z : Nat} {p : Addr}, SrcAt H' c z → H' p = none → p ≠ c := fun h e => by
      obtain ⟨_, q⟩ := h.lst
      exact (ne_of_none q e).symm
    have lc : l ≠ c := free hs nl
    -- breeds
    refine ⟨_, rfl, _, rfl, _, rfl, l, _, rfl, .of hl, fun a1 na1 => ?_⟩
    have c3 : cutV (ns.map V.str) none (some 3) = (ns.take 3).map V.str := cut3 ns 3
    rw [c3]
    have a1c := free hs1 na1
    generalize hh : upd H1 a1 _ = H2; obtain ⟨s2, ha1⟩ := gen_new hh na1; clear hh
    have hs2 := hs1.same s2
    have hl2 := s2 _ _ hl
    refine ⟨c, a1, z + 200, ns.take 3, rfl, hs2, by omega, a1c, ha1, by rw [List.length_take]; omega, fun x hx => nnm x (List.mem_of_mem_take hx), fun brs bts bl H3 b1 b3 bn bg hs3 t3 nbl hbl hbt => ?_⟩
    have t23 : Stp [c] H2 [c] H3 := t3
    have hl3 := t3.same _ _ (hid_of hl2 (by simpa using lc))
    -- beds
    have c3' : cutV (ns.map V.str) (some 3) none = (ns.drop 3).map V.str := cut3' ns 3
    refine ⟨_, rfl, _, rfl, _, rfl, l, _, rfl, .of hl3, fun a2 na2 => ?_⟩
    rw [c3']
    have a2c := free hs3 na2
    generalize hh : upd H3 a2 _ = H4; obtain ⟨s4, ha2⟩ := gen_new hh na2; clear hh
    have hl4 := s4 _ _ hl3
    have hs4 := hs3.same s4
    refine ⟨_, rfl, _, rfl, _, rfl, l, _, rfl, .of hl4, fun a3 na3 => ?_⟩
    rw [c3]
    have a3c := free hs4 na3
    generalize hh : upd H4 a3 _ = H5; obtain ⟨s5, ha3⟩ := gen_new hh na3; clear hh
    have hs5 := hs4.same s5
    have hl5 := s5 _ _ hl4
    have s45 : Same (hid [c] H3) (hid [c] H5) := (Stp.grow (s4.trans s5)).sub
    refine ⟨_, rfl, c, a2, bl, a3, z + 300, ns.drop 3, ns.take 3, brs, bts, rfl, hs5.mono (by omega), by omega, hid_of (s5 _ _ ha2) (by simpa using a2c), by rw [List.length_drop]; omega, fun x hx => nnm x (List.mem_of_mem_drop hx), hid_of ha3 (by simpa using a3c), by rw [List.length_take]; omega, fun x hx => nnm x (List.mem_of_mem_take hx), s45 _ _ hbl, hbt.mono fun _ _ e => e.same s45, b1, b3, fun b hb => ?_, fun bs ts dl H6 d1 d3 dn dg hs6 t6 ndl hdl hts => ?_⟩
    · have : b.1 ∈ brs.map (·.1) := List.mem_map.mpr ⟨b, hb, rfl⟩
      rw [bn] at this
      exact nnm _ (List.mem_of_mem_take (List.mem_of_mem_take this))
    have hl6 := t6.same _ _ (hid_of hl5 (by simpa using lc))
    have s56 : Same (hid [c] H5) (hid [c] H6) := t6.sub
    -- what is told
    have c4 : cutV (ns.map V.str) none (some 4) = (ns.take 4).map V.str := cut3 ns 4
    refine ⟨_, rfl, _, rfl, l, _, rfl, .of hl6, fun a4 na4 => ?_⟩
    rw [c4]
    have a4c := free hs6 na4
    generalize hh : upd H6 a4 _ = H7; obtain ⟨s7, ha4⟩ := gen_new hh na4; clear hh
    have s67 : Same (hid [c] H6) (hid [c] H7) := (Stp.grow s7).sub
    have s57 := s56.trans s67
    have hdl7 := s67 _ _ hdl
    have hts7 : L2R (BdrAt (hid [c] H7)) ts bs := hts.mono fun _ _ e => s67 _ _ e
    have hbl7 := s57 _ _ (s45 _ _ hbl)
    have hbt7 : L2R (BrwAt (hid [c] H7)) bts brs := hbt.mono fun _ _ e => (e.same s45).same s57
    have bnd : (brs.map (·.1)).Nodup := by
      rw [bn]
      exact (((List.take_sublist _ _).trans (List.take_sublist _ _)).nodup nnd)
    have dnd : (bs.map Bd.name).Nodup := by
      rw [dn]
      exact (((List.take_sublist _ _).trans (List.drop_sublist _ _)).nodup nnd)
    refine ⟨_, rfl, _, rfl, _, rfl, bl, dl, brs, bts, bs, ts, rfl, hid_same _ _ hbl7, hbt7.mono fun _ _ e => e.same hid_same, b1, b3, bnd, fun b hb => ⟨?_, bg b hb⟩, hid_same _ _ hdl7, hts7.mono fun _ _ e => hid_same _ _ e, d1, d3, dnd, fun b hb => ⟨(dg b hb).1, (dg b hb).2.1⟩, fun f fb H8 efb s8 F => ⟨by show 3 ≤ sizeLine; decide, fun t nt => ?_⟩⟩
    · have : b.1 ∈ brs.map (·.1) := List.mem_map.mpr ⟨b, hb, rfl⟩
      rw [bn] at this
      exact nnm _ (List.mem_of_mem_take (List.mem_of_mem_take this))
    have hs8 := (hs6.same s7).same s8
    have tc := free hs8 nt
    generalize hh : upd H8 t _ = H9; obtain ⟨s9, ht⟩ := gen_new hh nt; clear hh
    have hs9 := hs8.same s9
    obtain ⟨cx, hcx⟩ := hs9.lst
    have s79 : Same (hid [c] H7) (hid [c] H9) := (Stp.grow (s8.trans s9)).sub
    refine k t a4 dl f (ns.take 4) ts bs fb H9 ?_ (hs9.mono (by omega)) (hid_of ht (by simpa using tc)) ⟨s79 _ _ (hid_of ha4 (by simpa using a4c)), by rw [List.length_take]; omega, (List.take_sublist _ _).nodup nnd, fun x hx => nnm x (List.mem_of_mem_take hx), s79 _ _ hdl7, hts7.mono fun _ _ e => s79 _ _ e, d1, d3, fun b hb => (dg b hb).1, dnd, efb, (F.same s9).hidC hcx⟩
    exact t1.trans ((Stp.grow s2).trans (t3.trans ((Stp.grow (s4.trans s5)).trans (t6.trans (Stp.grow (s7.trans (s8.trans s9)))))))
end
end Rp


set_option maxRecDepth 100000
set_option maxHeartbeats 4000000
namespace Rp
open PySem PySem.Spec PyProof.Rows L2
theorem lnIn_of {fb : List (Bd × Addr)} {l : Ln} (h : LnInB (fb.map (·.1)) l) (ok : LnOk l) : LnIn fb l := by
  cases l with
  | pr r =>
    obtain ⟨b, h1, h2, h3⟩ := h
    obtain ⟨x, hx, rfl⟩ := List.mem_map.mp h2
    exact ⟨x, h1, hx, h3⟩
  | sp n m b =>
    obtain ⟨c, h2, e⟩ := h
    obtain ⟨x, hx, rfl⟩ := List.mem_map.mp h2
    exact ⟨⟨ok.1, ok.2.1⟩, x, hx, e⟩
section
variable {P : Program} {w : World} {K : PySem.W.Frag} {mg : Str → Option Value} {base : Heap}
def sp_l_told (K : PySem.W.Frag) : Sp := fun vs H Q _ => ∃ (f rl : Addr) (fb : List (Bd × Addr)) (as : List Addr) (ls : List Ln), vs = [.ref f, .ref rl] ∧ FieldAt K H f fb ∧ H rl = some (.lst (as.map V.ref)) ∧ L2R (RwAt K H) as ls ∧ (∀ l ∈ ls, LnInB (fb.map (·.1)) l ∧ LnOk l) ∧ (ls.map Ln.num).Nodup ∧ ls.length ≤ 25 ∧
  ∀ g H', Same H H' → H g = none → LedAt K H' g f fb ls → Q (.ref g) H'
theorem ok_l_told (T : Tx K mg) : FnOk P w K mg base CX0 8 (He.ga K "_law_told") (fdOf K dd_l_told) ["_law_field_here", "_law_rows_here"] (sp_l_told K) := by
  refine okF T.d_l_told sc_l_told (fun vs H Q E h => ?_) (fun cdv A outer s H vs Q E hr h => ?_)
  · obtain ⟨_, _, _, _, _, rfl, _⟩ := h; rfl
  · obtain ⟨f, rl, fb, as, ls, rfl, F, hrl, has, ok, nd, len, k⟩ := h
    refine ⟨_, (pss_cons (ps_set (i := 2) sc_l_told.nd rfl (by first | exact Or.inl rfl | exact Or.inr rfl) (pe_make T.mk_Ledger (ok_Ledger_init T) (hr.mono (by decide)) rfl T.g_Ledger T.b_Ledger_init .nil pass0 (pa_cons (pv 0) pa_nil)))
      (pss_cons (ps_for PassesOwn.never rfl (pi_list (pv 1)) (pg_name (i := 3) sc_l_told.nd rfl (by first | exact Or.inl rfl | exact Or.inr rfl)) (pss_one (ps_if (pt_cmpR op_ne (pe_meth (pv 2) T.c_Ledger T.m_Ledger_tell (ok_Ledger_tell T) (hr.mono (by decide)) T.b_Ledger_tell .nil pass0 (pa_cons (pe_call (ok_l_made T) (hr.mono (by decide)) rfl T.g_l_made T.d_l_made.kp T.b_l_made .nil pass0 (pa_cons (pv 3) pa_nil)) pa_nil)) pe_str (nomark _)) (pss_one (ps_ret pe_non)) pss_nil)))
      (pss_one (ps_ret (pv 2))))), ?_⟩
    refine ⟨_, rfl, fun g dx ng ndx ne => ?_⟩
    refine ⟨g, dx, f, fb, rfl, upd_same, F.same (made_same ng ndx), fun H1 kn L1 f1 hkn => ⟨rfl, ?_⟩⟩
    have s1 : Same H H1 := make_same ng ndx f1
    have k0 : H kn = none := (made_same ng ndx).free hkn.2
    have sH1 : Same H (hid [g, kn] H1) := same_hid s1 fun m hm => by
      simp only [List.mem_cons, List.not_mem_nil, or_false] at hm
      rcases hm with rfl | rfl
      · exact ng
      · exact k0
    refine ⟨_, rfl, rl, rfl, ⟨_, .of (s1 _ _ hrl)⟩, ?_⟩
    refine for_it walk_list (fun i σ H' => ∃ x3, ∃ bs : List (Addr × Ln), σ = [some (.ref f), some (.ref rl), some (.ref g), x3] ∧ LdAt K H' g kn f .non fb bs ∧ bs.map (·.2) = ls.take i ∧ Same H (hid [g, kn] H'))
      ⟨none, [], rfl, L1, rfl, sH1⟩ (fun i σ H' _ ⟨_, _, _, _, _, e⟩ => (e.trans hid_same).seq (.of hrl)) ?_ ?_
    · rintro i y σ H2 H3 hi ⟨x3, bs, rfl, L, hbs, sH⟩ ⟨rfl, hy⟩
      obtain ⟨a, ha, rfl⟩ := ref_at hy
      obtain ⟨ln, hln, hr⟩ := has.left ha
      have lm := List.mem_of_getElem? hln
      have il : i < ls.length := (List.getElem?_eq_some_iff.mp hln).1
      have s3 := sH.trans hid_same
      obtain ⟨dg, hg⟩ := L.ob
      have bl : bs.length = i := by
        have := congrArg List.length hbs
        rw [List.length_map, List.length_take] at this
        omega
      have nin : ln.num ∉ bs.map fun x => x.2.num := fun m => by
        have e : (bs.map fun x => x.2.num) = (ls.take i).map Ln.num := by rw [← hbs, List.map_map]; rfl
        rw [e] at m
        obtain ⟨l', h1, h2⟩ := List.mem_map.mp m
        obtain ⟨j, hj⟩ := List.getElem?_of_mem h1
        rw [List.getElem?_take] at hj
        split at hj
        · rename_i hji
          have q1 : (ls.map Ln.num)[j]? = some ln.num := by rw [List.getElem?_map, hj]; exact congrArg some h2
          have q2 : (ls.map Ln.num)[i]? = some ln.num := by rw [List.getElem?_map, hln]; rfl
          have := (List.getElem?_inj (by rw [List.length_map]; omega) nd).mp (q1.trans q2.symm)
          omega
        · cases hj
      refine ⟨_, rfl, _, _, _, rfl, hg, lm_Ledger_tell, _, rfl, a, ln, rfl, hr.same s3, (ok ln lm).2, fun p H4 s4 hp => ?_⟩
      refine ⟨g, kn, f, fb, bs, p, ln, rfl, L.same s4, hp, lnIn_of (ok ln lm).1 (ok ln lm).2, nin, by omega, fun H5 L5 f5 => ⟨rfl, _, rfl, iteNS rfl ?_⟩⟩
      refine ⟨_, _, rfl, L5, ?_, fun c o e => ?_⟩
      · rw [List.map_append, hbs, List.take_add_one, hln]; rfl
      · obtain ⟨m, e⟩ := of_hid (sH _ _ e)
        have m2 := m
        simp only [List.mem_cons, List.not_mem_nil, or_false, not_or] at m2
        exact hid_of (f5 _ _ m2.1 m2.2 (s4 _ _ e)) m
    · rintro σ H2 ⟨x3, bs, rfl, L, hbs, sH⟩
      have el : ls.take (as.map V.ref).length = ls := by rw [List.length_map, has.1]; exact List.take_length
      rw [el] at hbs
      exact ⟨_, rfl, k g H2 (sH.trans hid_same) ng ⟨kn, .non, bs, L, hbs, len, .inl rfl⟩⟩
end
end Rp


set_option maxRecDepth 100000
set_option maxHeartbeats 4000000
namespace Rp
open PySem PySem.Spec PyProof.Rows L2
/-! ### a list of the law's own may change: no list of a ledger is it -/
def NoL (I I' : Hp) : Prop := ∀ c o, I c = some o → (∀ z, o ≠ .lst z) → I' c = some o
section
variable {K : PySem.W.Frag} {I I' : Hp}
theorem NoL.ins (s : NoL I I') {c C d : Addr} {fs : List (Str × V)} (h : I c = some (.ins C d fs)) : I' c = some (.ins C d fs) := s _ _ h (by intros; nofun)
theorem NoL.tup (s : NoL I I') {c : Addr} {xs : List V} (h : I c = some (.tup xs)) : I' c = some (.tup xs) := s _ _ h (by intros; nofun)
theorem NoL.dK (s : NoL I I') {c : Addr} {xs : List (Key × V)} (h : I c = some (.dK xs)) : I' c = some (.dK xs) := s _ _ h (by intros; nofun)
theorem PtAt.noL {q : Addr} {u : Nat} (h : PtAt K I q u) (s : NoL I I') : PtAt K I' q u := let ⟨d, e⟩ := h; ⟨d, s.ins e⟩
theorem ThAt.noL {t : Addr} {th : Th} (h : ThAt K I t th) (s : NoL I I') : ThAt K I' t th := by
  cases th with
  | root b k => exact s.tup h
  | offs b k => exact s.tup h
  | share b u => obtain ⟨q, e1, e2⟩ := h; exact ⟨q, s.tup e1, e2.noL s⟩
theorem PrAt.noL {a : Addr} {p : Pr} (h : PrAt K I a p) (s : NoL I I') : PrAt K I' a p := let ⟨d, t, e, h2⟩ := h; ⟨d, t, s.ins e, h2.noL s⟩
theorem FieldAt.noL {f : Addr} {fb : List (Bd × Addr)} (h : FieldAt K I f fb) (s : NoL I I') : FieldAt K I' f fb :=
  ⟨let ⟨d, g, dd, e1, e2⟩ := h.ob; ⟨d, g, dd, s.ins e1, s.dK e2⟩, fun x hx => let ⟨d, e⟩ := h.at_ x hx; ⟨d, s.ins e⟩, h.ok, h.nd, h.n2⟩
theorem LnAt.noL {a : Addr} {l : Ln} (h : LnAt K I a l) (s : NoL I I') : LnAt K I' a l := by
  cases l with
  | pr r => exact PrAt.noL h s
  | sp n m b => obtain ⟨d, e⟩ := h; exact ⟨d, s.ins e⟩
theorem RwAt.noL {a : Addr} {l : Ln} (h : RwAt K I a l) (s : NoL I I') : RwAt K I' a l := by
  cases l with
  | pr r => obtain ⟨t, e1, e2⟩ := h; exact ⟨t, s.tup e1, e2.noL s⟩
  | sp n m b => exact s.tup h
theorem URel.noL {us : List (Str × Nat)} {kvs : List (Key × V)} (h : URel K I us kvs) (s : NoL I I') : URel K I' us kvs := Paired.mapP h fun x kv ⟨e, q, e2, p⟩ => ⟨e, q, e2, p.noL s⟩
end
/-- a list whose first item is no tuple -/
def Odd (H : Hp) (q : Addr) : Prop := ∃ l0 rest, H q = some (.lst (.ref l0 :: rest)) ∧ ∀ xs, H l0 ≠ some (.tup xs)
section
variable {K : PySem.W.Frag} {H H' : Hp} {q : Addr}
theorem Odd.noL (o : Odd H q) (fr : ∀ c o, c ≠ q → H c = some o → H' c = some o) : NoL H H' := fun c u e n => by
  obtain ⟨l0, rest, h, _⟩ := o
  exact fr _ _ (ne_of e h (n _)) e
/-- a list of tuples is another one -/
theorem Odd.ne (o : Odd H q) {l : Addr} {as : List Addr} (hl : H l = some (.lst (as.map V.ref))) (ht : ∀ a ∈ as, ∃ xs, H a = some (.tup xs)) : l ≠ q := fun e => by
  obtain ⟨l0, rest, h, n⟩ := o
  rw [e, h] at hl
  have ea : V.ref l0 :: rest = as.map V.ref := by injection hl with z; injection z
  cases as with
  | nil => cases ea
  | cons a r =>
    rw [List.map_cons] at ea
    injection ea with e1 e2
    injection e1 with e1
    obtain ⟨xs, hx⟩ := ht a List.mem_cons_self
    rw [← e1] at hx
    exact n xs hx
theorem Odd.neI (o : Odd H q) {l : Addr} {zs : List Int} (hl : H l = some (.lst (zs.map V.int))) : l ≠ q := fun e => by
  obtain ⟨l0, rest, h, n⟩ := o
  rw [e, h] at hl
  have ea : V.ref l0 :: rest = zs.map V.int := by injection hl with z; injection z
  cases zs with
  | nil => cases ea
  | cons a r => rw [List.map_cons] at ea; injection ea with e1 e2; cases e1
theorem l2r_tups {α : Type} {R : Addr → α → Prop} {ks : List Addr} {ys : List α} (h : L2R R ks ys) (t : ∀ a y, R a y → ∃ xs, H a = some (.tup xs)) : ∀ a ∈ ks, ∃ xs, H a = some (.tup xs) := fun a ha => by
  obtain ⟨i, hi⟩ := List.getElem?_of_mem ha
  obtain ⟨y, _, r⟩ := h.left hi
  exact t a y r
theorem StX.other {M : List Addr} {p f : Addr} {fb : List (Bd × Addr)} {s : SM} {n : Nat} {W : StW} (X : StX K M H p f fb s n W) (o : Odd H q) (fr : ∀ c o, c ≠ q → H c = some o → H' c = some o) : StX K M H' p f fb s n W := by
  have nl := o.noL fr
  have hid' : NoL (hid M H) (hid M H') := fun c u e n => by
    obtain ⟨m, e⟩ := of_hid e
    exact hid_of (nl _ _ e n) m
  have tM : ∀ {a xs}, hid M H a = some (.tup xs) → H a = some (.tup xs) := fun e => (of_hid e).2
  have gne : W.g ≠ q := o.ne X.g (l2r_tups X.ge fun a y ⟨_, _, _, e, _⟩ => ⟨_, tM e⟩)
  have vne : W.v ≠ q := o.ne X.v (l2r_tups X.ve fun a y e => ⟨_, tM e⟩)
  have gnne : W.gn ≠ q := o.neI X.gn
  refine ⟨X.m, X.nd, nl.ins X.ob, ⟨X.fld.1.noL hid', X.fld.2⟩, nl _ _ X.hh (by intros; nofun), X.hl, X.hv, nl.dK X.hp, X.hpl, fun x hx hs => let ⟨a, h1, h2, kvs, h3, h4, h5⟩ := X.pv x hx hs; ⟨a, h1, h2, kvs, nl.dK h3, h4.noL hid', h5⟩, X.pn, fun x hx => let ⟨zz, e⟩ := X.pd x hx; ⟨zz, nl.dK e⟩, nl.dK X.sp, X.sl, X.sv, X.sk, fr _ _ gne X.g, X.gl, X.ge.mono fun e x h => ?_, fr _ _ vne X.v, X.vl, X.ve.mono fun _ _ e => hid'.tup e, fr _ _ gnne X.gn, X.n1⟩
  obtain ⟨a, la, ks, h1, h2, h3, h4, h5⟩ := h
  refine ⟨a, la, ks, hid'.tup h1, h2.noL hid', ?_, h4.mono fun _ _ e => hid'.tup e, h5⟩
  obtain ⟨m, e3⟩ := of_hid h3
  exact hid_of (fr _ _ (o.ne e3 (l2r_tups h4 fun a y e => ⟨_, tM e⟩)) e3) m
theorem LedAt.other {g f : Addr} {fb : List (Bd × Addr)} {ls : List Ln} (L : LedAt K H g f fb ls) (o : Odd H q) (fr : ∀ c o, c ≠ q → H c = some o → H' c = some o) : LedAt K H' g f fb ls := by
  obtain ⟨kn, cv, bs, L, e, len, c⟩ := L
  have nl := o.noL fr
  have hid' : NoL (hid [g, kn] H) (hid [g, kn] H') := fun c u e n => by
    obtain ⟨m, e⟩ := of_hid e
    exact hid_of (nl _ _ e n) m
  refine ⟨kn, cv, bs, ⟨let ⟨dx, z⟩ := L.ob; ⟨dx, nl.ins z⟩, nl.dK L.kd, L.fld.noL hid', fun x hx => ⟨(L.ln x hx).1.noL hid', (L.ln x hx).2⟩, L.nd⟩, e, len, ?_⟩
  rcases c with c | ⟨p, M, n, W, e, hn, X⟩
  · exact .inl c
  · exact .inr ⟨p, M, n, W, e, hn, X.other o fr⟩
end
/-! ### what the law asks of a ledger -/
inductive OV where
  | rows (xs : List (Int × Str × Option Int)) | nums (xs : List Int) | hold (xs : List (Str × Nat)) | pair (s : Str) (xs : List Int)
def OvAt (K : PySem.W.Frag) (H : Hp) (v : V) : OV → Prop
  | .rows xs => ∃ l ts, v = .ref l ∧ H l = some (.lst (ts.map V.ref)) ∧ L2R (VdAt H) ts xs
  | .nums xs => ∃ l, v = .ref l ∧ H l = some (.lst (xs.map V.int))
  | .hold xs => ∃ l ts, v = .ref l ∧ H l = some (.lst (ts.map V.ref)) ∧ L2R (HrAt K H) ts xs
  | .pair s xs => ∃ t l, v = .ref t ∧ H t = some (.tup [.str s, .ref l]) ∧ H l = some (.lst (xs.map V.int))
section
variable {K : PySem.W.Frag} {H H' : Hp} {v : V} {x : OV}
theorem OvAt.sameL (h : OvAt K H v x) (s : SameL H H') : OvAt K H' v x := by
  cases x with
  | rows xs => obtain ⟨l, ts, e, h1, h2⟩ := h; exact ⟨l, ts, e, s.lst h1, h2.mono fun _ _ e => s.tup e⟩
  | nums xs => obtain ⟨l, e, h1⟩ := h; exact ⟨l, e, s.lst h1⟩
  | hold xs => obtain ⟨l, ts, e, h1, h2⟩ := h; exact ⟨l, ts, e, s.lst h1, h2.mono fun _ _ ⟨q, e1, e2⟩ => ⟨q, s.tup e1, e2.sameL s⟩⟩
  | pair w xs => obtain ⟨t, l, e, h1, h2⟩ := h; exact ⟨t, l, e, s.tup h1, s.lst h2⟩
theorem OvAt.same (h : OvAt K H v x) (s : Same H H') : OvAt K H' v x := h.sameL fun c o e _ => s c o e
end
/-- what has been gathered of the ledger at g into the list at p; H0 as it stood ahead -/
structure OfI (K : PySem.W.Frag) (H0 H : Hp) (g f p : Addr) (fb : List (Bd × Addr)) (ls : List Ln) (vs : List V) (xs : List OV) : Prop where
  L : LedAt K H g f fb ls
  fr : ∀ c o, c ≠ g → H0 c = some o → H c = some o
  p0 : H0 p = none
  hp : H p = some (.lst vs)
  ov : L2R (OvAt K (hid [p] H)) vs xs
  odd : ∃ l0 rest zs, vs = .ref l0 :: rest ∧ H l0 = some (.lst zs)
section
variable {K : PySem.W.Frag} {H0 H H' : Hp} {g f p : Addr} {fb : List (Bd × Addr)} {ls : List Ln} {vs : List V} {xs : List OV}
theorem OfI.pg (I : OfI K H0 H g f p fb ls vs xs) : p ≠ g := by
  obtain ⟨dx, kn, cv, hg⟩ := I.L.ob
  exact ne_of I.hp hg (by intro q; cases q)
theorem OfI.grow (I : OfI K H0 H g f p fb ls vs xs) (s : Same H H') : OfI K H0 H' g f p fb ls vs xs :=
  ⟨I.L.same s, fun c o n e => s _ _ (I.fr c o n e), I.p0, s _ _ I.hp, I.ov.mono fun _ _ e => e.same (Stp.grow s).sub, let ⟨l0, r, z, e1, e2⟩ := I.odd; ⟨l0, r, z, e1, s _ _ e2⟩⟩
theorem OfI.step (I : OfI K H0 H g f p fb ls vs xs) (Q : Qg K g f fb ls H H') : OfI K H0 H' g f p fb ls vs xs := by
  obtain ⟨dx, kn, cv, hg⟩ := I.L.ob
  have sl : SameL (hid [p] H) (hid [p] H') := fun c o e n => by
    obtain ⟨m, e⟩ := of_hid e
    exact hid_of (Q.2 _ _ (fun q => by
      rw [q, hg] at e
      exact n _ _ _ (Option.some.inj e).symm rfl) e) m
  refine ⟨Q.1, fun c o n e => Q.2 _ _ n (I.fr c o n e), I.p0, Q.2 _ _ I.pg I.hp, I.ov.mono fun _ _ e => e.sameL sl, ?_⟩
  obtain ⟨l0, r, z, e1, e2⟩ := I.odd
  exact ⟨l0, r, z, e1, Q.2 _ _ (ne_of e2 hg (by intro q; cases q)) e2⟩
theorem OfI.push (I : OfI K H0 H g f p fb ls vs xs) {v : V} {x : OV} (hv : OvAt K (hid [p] H) v x) : OfI K H0 (upd H p (.lst (vs ++ [v]))) g f p fb ls (vs ++ [v]) (xs ++ [x]) := by
  obtain ⟨l0, r, z, e1, e2⟩ := I.odd
  have odd : Odd H p := ⟨l0, r, by rw [← e1]; exact I.hp, fun xs e => by rw [e2] at e; cases e⟩
  have l0p : l0 ≠ p := fun e => by
    obtain ⟨x0, hx, h0⟩ := I.ov.left (i := 0) (x := .ref l0) (by rw [e1]; rfl)
    rw [e] at h0
    have no : hid [p] H p = none := by unfold hid; rw [if_pos (by simp)]
    cases x0 with
    | rows xs => obtain ⟨l, ts, q, h1, _⟩ := h0; injection q with q; rw [← q, no] at h1; cases h1
    | nums xs => obtain ⟨l, q, h1⟩ := h0; injection q with q; rw [← q, no] at h1; cases h1
    | hold xs => obtain ⟨l, ts, q, h1, _⟩ := h0; injection q with q; rw [← q, no] at h1; cases h1
    | pair w xs => obtain ⟨t, l, q, h1, _⟩ := h0; injection q with q; rw [← q, no] at h1; cases h1
  have fr : ∀ c o, c ≠ p → H c = some o → upd H p (.lst (vs ++ [v])) c = some o := fun c o n e => by rw [upd_ne n]; exact e
  refine ⟨I.L.other odd fr, fun c o n e => fr _ _ (ne_of_none e I.p0) (I.fr c o n e), I.p0, upd_same, ?_, l0, r ++ [v], z, by rw [e1]; rfl, fr _ _ l0p e2⟩
  rw [hid_upd (by simp)]
  exact I.ov.snoc hv
end
end Rp


set_option maxRecDepth 100000
set_option maxHeartbeats 4000000
namespace Rp
open PySem PySem.Spec PyProof.Rows L2
theorem strict_unique {l l' : List Int} (h : l.Pairwise (· < ·)) (h' : l'.Pairwise (· < ·)) (m : ∀ k, k ∈ l ↔ k ∈ l') : l = l' := by
  have nd : l.Nodup := h.imp fun a => by omega
  have nd' : l'.Nodup := h'.imp fun a => by omega
  exact perm_sorted_eq (r := (· < ·)) (fun a _ b _ x y => by omega) ((List.perm_ext_iff_of_nodup nd nd').mpr m) h h'
def placesN (r : Nat) : List Nat := if r ≤ 1 then [1] else if r = 2 then [1, 2] else [1, r - 1, r]
theorem places_ok (r : Nat) (r1 : 1 ≤ r) : ((placesN r).map fun k : Nat => (k : Int)).Pairwise (· < ·) ∧ (∀ k : Int, k ∈ (placesN r).map (fun k : Nat => (k : Int)) ↔ k ∈ [1, (if (r : Int) - 1 > 1 then (r : Int) - 1 else 1), (r : Int)]) ∧ (placesN r).length ≤ 3 ∧ ∀ k ∈ placesN r, 1 ≤ k ∧ k ≤ r := by
  unfold placesN
  by_cases h1 : r ≤ 1
  · have : r = 1 := by omega
    subst this
    refine ⟨by decide, fun k => ?_, by decide, by decide⟩
    simp
  · rw [if_neg h1]
    by_cases h2 : r = 2
    · subst h2
      refine ⟨by decide, fun k => ?_, by decide, by decide⟩
      simp
    · rw [if_neg h2, if_pos (by omega)]
      refine ⟨?_, fun k => ?_, by show 3 ≤ 3; decide, fun k hk => ?_⟩
      · simp only [List.map_cons, List.map_nil, List.pairwise_cons, List.mem_cons, List.not_mem_nil, or_false, List.Pairwise.nil, and_true]
        refine ⟨fun a ha => ?_, fun a ha => ?_, nofun⟩
        · rcases ha with rfl | rfl <;> omega
        · subst ha; omega
      · simp only [List.map_cons, List.map_nil, List.mem_cons, List.not_mem_nil, or_false]
        omega
      · simp only [List.mem_cons, List.not_mem_nil, or_false] at hk
        omega
theorem inV_int (x : Int) : ∀ N : List Int, inV (.int x) (N.map V.int) = decide (x ∈ N)
  | [] => rfl
  | y :: r => by
    have ih := inV_int x r
    unfold inV at ih ⊢
    rw [List.map_cons, List.any_cons, ih]
    by_cases e : x = y
    · subst e; simp [eqV]
    · have e2 : ¬ y = x := fun z => e z.symm
      simp [eqV, e, e2]
theorem flat_ints : ∀ N : List Int, (N.map V.int).all flatV = true
  | [] => rfl
  | y :: r => by rw [List.map_cons, List.all_cons, flat_ints r]; rfl
def rowM (E : SM) (y : Ky) : List Int := (E.good.filter fun e => decide (y ∈ e.2)).map fun e => e.1.num
def ofPair (E : SM) (y : Ky) : OV := .pair (E.held y) (rowM E y)
def ofPairs (E : SM) (b : Bd) (k : Nat) : List OV := [ofPair E (.root b.name k), ofPair E (.offs b.name k)]
def ofBed (E : SM) (b : Bd) : List OV := if b.shares then [.hold (holdersM (E.units b.name))] else (placesN b.roots).flatMap (ofPairs E b)
def ofBase (E : SM) (N : List Int) : List OV := [.rows (E.voids.filter fun v => decide (v.1 ∈ N)), .nums (E.gone.filter fun n => decide (n ∈ N)), .nums ((E.good.map fun e => e.1.num).filter fun n => decide (n ∈ N))]
/-- all that the law asks of a ledger that came to E -/
def ofM (E : SM) (bs : List Bd) (N : List Int) : List OV := ofBase E N ++ bs.flatMap (ofBed E)
/-- all stands but g and p -/
def FrGP (g p : Addr) (H H' : Hp) : Prop := ∀ c o, c ≠ g → c ≠ p → H c = some o → H' c = some o
theorem FrGP.refl {g p : Addr} {H : Hp} : FrGP g p H H := fun _ _ _ _ e => e
theorem FrGP.trans {g p : Addr} {H H1 H2 : Hp} (a : FrGP g p H H1) (b : FrGP g p H1 H2) : FrGP g p H H2 := fun c o n1 n2 e => b c o n1 n2 (a c o n1 n2 e)
theorem FrGP.same {g p : Addr} {H H1 : Hp} (s : Same H H1) : FrGP g p H H1 := fun c o _ _ e => s c o e
section
variable {K : PySem.W.Frag} {H0 H H' : Hp} {g f p : Addr} {fb : List (Bd × Addr)} {ls : List Ln} {vs : List V} {xs : List OV}
theorem Qg.fr (Q : Qg K g f fb ls H H') : FrGP g p H H' := fun c o n1 _ e => Q.2 c o n1 e
theorem OfI.tupG (I : OfI K H0 H g f p fb ls vs xs) {t : Addr} {zs : List V} (h : H t = some (.tup zs)) : t ≠ g ∧ t ≠ p := by
  obtain ⟨dx, kn, cv, hg⟩ := I.L.ob
  exact ⟨ne_of h hg (by intro q; cases q), ne_of h I.hp (by intro q; cases q)⟩
theorem OfI.lstG (I : OfI K H0 H g f p fb ls vs xs) {t : Addr} {zs : List V} (h : H t = some (.lst zs)) : t ≠ g := by
  obtain ⟨dx, kn, cv, hg⟩ := I.L.ob
  exact ne_of h hg (by intro q; cases q)
abbrev tPairOf (K : PySem.W.Frag) : TS := tDrop (tBM K "list" rAppend (tVar 3) (tCons (tTup (tCons (tMeth (He.ga K "Ledger") "holder" (sp_Ledger_holder K) [] E0 (tVar 0) (tCons (tVar 8) tNil)) (tCons (tMeth (He.ga K "Ledger") "row" (sp_Ledger_row K) [] E0 (tVar 0) (tCons (tVar 8) tNil)) tNil))) tNil))
theorem of_pair (I : OfI K H0 H g f p fb ls vs xs) {t : Addr} {y : Ky} (ht : KyAt H t y) (ok : KyOk fb y) (len : vs.length ≤ 100) {x1 x2 x4 x5 x6 x7 : Option V} {D : Ends}
    (k : ∀ H' v, OfI K H0 H' g f p fb ls (vs ++ [v]) (xs ++ [ofPair (endOf fb ls) y]) → FrGP g p H H' → D.nx [some (.ref g), x1, x2, some (.ref p), x4, x5, x6, x7, some (.ref t)] H') :
    tPairOf K D [some (.ref g), x1, x2, some (.ref p), x4, x5, x6, x7, some (.ref t)] H := by
  obtain ⟨dx, kn, cv, hg⟩ := I.L.ob
  refine ⟨_, rfl, .inl ⟨rfl, _, .of I.hp⟩, _, rfl, _, _, _, rfl, hg, lm_Ledger_holder, _, rfl, g, f, t, fb, ls, y, rfl, I.L, ht, ok, fun H1 Q1 => ?_⟩
  have I1 := I.step Q1
  have ht1 : KyAt H1 t y := Q1.2 _ _ (I.tupG ht).1 ht
  obtain ⟨dx1, kn1, cv1, hg1⟩ := I1.L.ob
  refine ⟨_, rfl, _, _, _, rfl, hg1, lm_Ledger_row, _, rfl, g, f, t, fb, ls, y, rfl, I1.L, ht1, ok, fun H2 l Q2 nl hl => ⟨by show 2 ≤ sizeLine; decide, fun tp ntp => ?_⟩⟩
  have I2 := I1.step Q2
  have lp : l ≠ p := (ne_of_none I1.hp nl).symm
  generalize hh : upd H2 tp _ = H3; obtain ⟨s3, htp⟩ := gen_new hh ntp; clear hh
  have I3 := I2.grow s3
  refine ⟨p, _, _, rfl, rfl, I3.hp, Nat.lt_of_le_of_lt len (by decide), ?_⟩
  have hl : H2 l = some (.lst ((rowM (endOf fb ls) y).map V.int)) := hl.trans (by unfold rowM; rw [List.map_map]; rfl)
  refine k _ _ (I3.push (x := ofPair (endOf fb ls) y) ⟨tp, l, rfl, hid_of htp ?_, hid_of (s3 _ _ hl) (by simpa using lp)⟩) ?_
  · rw [List.mem_singleton]
    exact (I3.tupG htp).2
  · exact (Qg.fr Q1).trans ((Qg.fr Q2).trans ((FrGP.same s3).trans fun c o _ n e => by rw [upd_ne n]; exact e))
abbrev tPlaces (w : World) (K : PySem.W.Frag) : TE := tCB (rSortedSet w) (tCons (tCB (rSetI w K) (tCons (tLst (tCons (tC (V.int 1)) (tCons (tCB (fun xs H Q => ∃ i j, xs = [V.int i, V.int j] ∧ Q (V.int (if j > i then j else i)) H) (tCons (tC (V.int 1)) (tCons (tOp (rI0 fun i j => V.int (i - j)) (tOp (rIxT K) (tVar 4) (tC (V.int 3))) (tC (V.int 1))) tNil))) (tCons (tOp (rIxT K) (tVar 4) (tC (V.int 3))) tNil)))) tNil)) tNil)
abbrev tOfB (K : PySem.W.Frag) : TS := tFor (iList K (tLst (tCons (tTup (tCons (tC (V.str "root")) (tCons (tOp (rIxT K) (tVar 4) (tC (V.int 0))) (tCons (tVar 7) tNil)))) (tCons (tTup (tCons (tC (V.str "offsets")) (tCons (tOp (rIxT K) (tVar 4) (tC (V.int 0))) (tCons (tVar 7) tNil)))) tNil)))) (gName 8) (tPairOf K)
abbrev tSlOf (K : PySem.W.Frag) : TE := tSl (rSlL K) (tVar 6) tNoPart (tPart (tOp (rI CMul fun i j => V.int (i * j)) (tC (V.int 3)) (tCB (fun xs H Q => (∃ i, xs = [V.int i] ∧ Q (V.int i) H) ∨ ∃ k, xs = [V.bl k] ∧ Q (V.int (if k = true then 1 else 0)) H) (tCons (tOp rEq (tOp (rIxT K) (tVar 4) (tC (V.int 6))) (tC (V.str "roots"))) tNil))))
abbrev tOf2 (w : World) (K : PySem.W.Frag) : TS := tSeq (tAsg (tPlaces w K) (gName 6)) (tFor (iList K (tSl (rSlL K) (tVar 6) tNoPart (tPart (tOp (rI CMul fun i j => V.int (i * j)) (tC (V.int 3)) (tCB (fun xs H Q => (∃ i, xs = [V.int i] ∧ Q (V.int i) H) ∨ ∃ k, xs = [V.bl k] ∧ Q (V.int (if k = true then 1 else 0)) H) (tCons (tOp rEq (tOp (rIxT K) (tVar 4) (tC (V.int 6))) (tC (V.str "roots"))) tNil)))))) (gName 7) (tOfB K))
/-- both things of a place -/
theorem of_place (I : OfI K H0 H g f p fb ls vs xs) {t : Addr} {b : Bd} (ht : BdrAt H t b) {x : Bd × Addr} (hx : x ∈ fb) (xb : x.1 = b) (sh : b.shares = false) {n : Nat} (n1 : 1 ≤ n) (n2 : n ≤ b.roots) (len : vs.length ≤ 90) {x1 x2 x5 x6 x8 : Option V} {D : Ends}
    (k : ∀ H' v v' y8, OfI K H0 H' g f p fb ls (vs ++ [v, v']) (xs ++ ofPairs (endOf fb ls) b n) → FrGP g p H H' → D.nx [some (.ref g), x1, x2, some (.ref p), some (.ref t), x5, x6, some (.int (n : Int)), y8] H') :
    tOfB K D [some (.ref g), x1, x2, some (.ref p), some (.ref t), x5, x6, some (.int (n : Int)), x8] H := by
  have ht0 : H t = some (.tup (bdV b)) := ht
  have ok1 : KyOk fb (.root b.name n) := ⟨x, hx, by rw [xb]; exact sh, by rw [xb]; simp [inBed, n1, n2]⟩
  have ok2 : KyOk fb (.offs b.name n) := ⟨x, hx, by rw [xb]; exact sh, by rw [xb]; simp [inBed, n1, n2]⟩
  refine ⟨_, rfl, t, _, _, _, rfl, rfl, .of ht0, atI_nat (j := 0) rfl, _, rfl, by show 3 ≤ sizeLine; decide, fun t1 nt1 => ?_⟩
  generalize hh : upd H t1 _ = H1; obtain ⟨s1, ht1⟩ := gen_new hh nt1; clear hh
  refine ⟨_, rfl, t, _, _, _, rfl, rfl, .of (s1 _ _ ht0), atI_nat (j := 0) rfl, _, rfl, by show 3 ≤ sizeLine; decide, fun t2 nt2 => ?_⟩
  generalize hh : upd H1 t2 _ = H2; obtain ⟨s2, ht2⟩ := gen_new hh nt2; clear hh
  refine ⟨by show 2 ≤ sizeLine; decide, fun q nq => ?_⟩
  have I2 := I.grow (s1.trans s2)
  have qp : q ≠ p := (ne_of_none I2.hp nq).symm
  generalize hh : upd H2 q _ = H3; obtain ⟨s3, hq⟩ := gen_new hh nq; clear hh
  have s13 := s1.trans (s2.trans s3)
  have I3 := I.grow s13
  have k1 : KyAt H3 t1 (.root b.name n) := s3 _ _ (s2 _ _ ht1)
  have k2 : KyAt H3 t2 (.offs b.name n) := s3 _ _ ht2
  have hq : H3 q = some (.lst ([t1, t2].map V.ref)) := hq
  refine ⟨q, rfl, ⟨_, .of hq⟩, ?_⟩
  refine for_it walk_list (fun i σ H' => ∃ ws y8, σ = [some (.ref g), x1, x2, some (.ref p), some (.ref t), x5, x6, some (.int (n : Int)), y8] ∧ OfI K H0 H' g f p fb ls (vs ++ ws) (xs ++ (ofPairs (endOf fb ls) b n).take i) ∧ ws.length = i ∧ FrGP g p H3 H')
    ⟨[], _, rfl, by rw [List.append_nil]; exact (by show OfI K H0 H3 g f p fb ls vs (xs ++ []); rw [List.append_nil]; exact I3), rfl, FrGP.refl⟩ (fun i σ H' _ ⟨_, _, _, _, _, fr⟩ => .of (fr _ _ (I3.lstG hq) qp hq)) ?_ ?_
  · rintro i y σ H4 H5 hi ⟨ws, y8, rfl, I4, wl, fr⟩ ⟨rfl, hy⟩
    have hi : i < 2 := hi
    have wlen : (vs ++ ws).length ≤ 100 := by rw [List.length_append]; omega
    match i, hi with
    | 0, _ =>
      cases hy
      have h1 : KyAt H5 t1 (.root b.name n) := fr _ _ (I3.tupG k1).1 (I3.tupG k1).2 k1
      refine of_pair I4 h1 ok1 wlen fun H' v I' fr' => ⟨ws ++ [v], _, rfl, ?_, by rw [List.length_append, wl]; rfl, fr.trans fr'⟩
      rw [← List.append_assoc]
      have e : xs ++ (ofPairs (endOf fb ls) b n).take (0 + 1) = (xs ++ (ofPairs (endOf fb ls) b n).take 0) ++ [ofPair (endOf fb ls) (.root b.name n)] := by rw [List.append_assoc]; rfl
      rw [e]
      exact I'
    | 1, _ =>
      cases hy
      have h1 : KyAt H5 t2 (.offs b.name n) := fr _ _ (I3.tupG k2).1 (I3.tupG k2).2 k2
      refine of_pair I4 h1 ok2 wlen fun H' v I' fr' => ⟨ws ++ [v], _, rfl, ?_, by rw [List.length_append, wl]; rfl, fr.trans fr'⟩
      rw [← List.append_assoc]
      have e : xs ++ (ofPairs (endOf fb ls) b n).take (1 + 1) = (xs ++ (ofPairs (endOf fb ls) b n).take 1) ++ [ofPair (endOf fb ls) (.offs b.name n)] := by rw [List.append_assoc]; rfl
      rw [e]
      exact I'
  · rintro σ H4 ⟨ws, y8, rfl, I4, wl, fr⟩
    have wl : ws.length = 2 := wl
    obtain ⟨v, v', rfl⟩ : ∃ v v', ws = [v, v'] := by
      match ws, wl with
      | [v, v'], _ => exact ⟨v, v', rfl⟩
    exact k H4 v v' y8 I4 ((FrGP.same s13).trans fr)
theorem of_loop (I : OfI K H0 H g f p fb ls vs xs) {t : Addr} {b : Bd} (ht : BdrAt H t b) {x : Bd × Addr} (hx : x ∈ fb) (xb : x.1 = b) (len : vs.length ≤ 80) {x1 x2 x5 x6 x7 x8 : Option V} {D : Ends} {te : TE} {zs : List Nat} (zl : zs.length ≤ 3) (zr : ∀ k ∈ zs, 1 ≤ k ∧ k ≤ b.roots) (zsh : zs ≠ [] → b.shares = false)
    (hte : ∀ Q : VK, (∀ H4 q7, Same H H4 → H4 q7 = some (.lst (zs.map fun k : Nat => V.int (k : Int))) → q7 ≠ p → Q (.ref q7) H4) → te [some (.ref g), x1, x2, some (.ref p), some (.ref t), x5, x6, x7, x8] H Q)
    (k : ∀ H' vs' y7 y8, OfI K H0 H' g f p fb ls vs' (xs ++ zs.flatMap (ofPairs (endOf fb ls) b)) → vs'.length ≤ vs.length + 6 → FrGP g p H H' → D.nx [some (.ref g), x1, x2, some (.ref p), some (.ref t), x5, x6, y7, y8] H') :
    tFor (iList K te) (gName 7) (tOfB K) D [some (.ref g), x1, x2, some (.ref p), some (.ref t), x5, x6, x7, x8] H := by
  refine hte _ fun H4 q7 s4 h7 np => ⟨q7, rfl, ⟨_, .of h7⟩, ?_⟩
  have I4 := I.grow s4
  have ht4 : BdrAt H4 t b := s4 _ _ ht
  refine for_it walk_list (fun i σ H' => ∃ vs' y7 y8, σ = [some (.ref g), x1, x2, some (.ref p), some (.ref t), x5, x6, y7, y8] ∧ OfI K H0 H' g f p fb ls vs' (xs ++ (zs.take i).flatMap (ofPairs (endOf fb ls) b)) ∧ vs'.length ≤ vs.length + 2 * i ∧ FrGP g p H4 H')
    ⟨vs, _, _, rfl, (by show OfI K H0 H4 g f p fb ls vs (xs ++ []); rw [List.append_nil]; exact I4), Nat.le_refl _, FrGP.refl⟩ (fun i σ H' _ ⟨_, _, _, _, _, _, fr⟩ => .of (fr _ _ (I4.lstG h7) np h7)) ?_ ?_
  · rintro i y σ H5 H6 hi ⟨vs', y7, y8, rfl, I5, vl, fr⟩ ⟨rfl, hy⟩
    rw [List.length_map] at hi
    rw [List.getElem?_map] at hy
    cases ez : zs[i]? with
    | none => rw [ez] at hy; cases hy
    | some n =>
      rw [ez] at hy
      cases hy
      have zm := List.mem_of_getElem? ez
      have sh : b.shares = false := zsh fun e => by rw [e] at zm; cases zm
      have tk : zs.take (i + 1) = zs.take i ++ [n] := by rw [List.take_add_one, ez]; rfl
      refine of_place I5 (t := t) (b := b) (fr _ _ (I4.tupG ht4).1 (I4.tupG ht4).2 ht4) hx xb sh (zr n zm).1 (zr n zm).2 (by omega) fun H' v v' y8' I' fr' => ⟨vs' ++ [v, v'], _, y8', rfl, ?_, by rw [List.length_append]; show vs'.length + 2 ≤ _; omega, fr.trans fr'⟩
      have e : xs ++ (zs.take (i + 1)).flatMap (ofPairs (endOf fb ls) b) = (xs ++ (zs.take i).flatMap (ofPairs (endOf fb ls) b)) ++ ofPairs (endOf fb ls) b n := by
        rw [tk, List.flatMap_append, List.append_assoc]
        simp
      rw [e]
      exact I'
  · rintro σ H5 ⟨vs', y7, y8, rfl, I5, vl, fr⟩
    have el : zs.take (zs.map fun k : Nat => V.int (k : Int)).length = zs := by rw [List.length_map]; exact List.take_length
    rw [el] at I5
    rw [List.length_map] at vl
    exact k H5 vs' y7 y8 I5 (by omega) ((FrGP.same s4).trans fr)
theorem of_rest {w : World} (I : OfI K H0 H g f p fb ls vs xs) {t : Addr} {b : Bd} (ht : BdrAt H t b) (r1 : 1 ≤ b.roots) {x : Bd × Addr} (hx : x ∈ fb) (xb : x.1 = b) (len : vs.length ≤ 80) {x1 x2 x5 x6 x7 x8 : Option V} {D : Ends}
    (k : ∀ H' vs' y6 y7 y8, OfI K H0 H' g f p fb ls vs' (xs ++ if b.shares = true then [] else (placesN b.roots).flatMap (ofPairs (endOf fb ls) b)) → vs'.length ≤ vs.length + 6 → FrGP g p H H' → D.nx [some (.ref g), x1, x2, some (.ref p), some (.ref t), x5, y6, y7, y8] H') :
    tOf2 w K D [some (.ref g), x1, x2, some (.ref p), some (.ref t), x5, x6, x7, x8] H := by
  have ht0 : H t = some (.tup (bdV b)) := ht
  obtain ⟨pl1, pl2, pl3, pl4⟩ := places_ok b.roots r1
  refine ⟨_, rfl, t, _, _, _, rfl, rfl, .of ht0, atI_nat (j := 3) rfl, _, _, rfl, rfl, _, _, rfl, _, rfl, t, _, _, _, rfl, rfl, .of ht0, atI_nat (j := 3) rfl, by show 3 ≤ sizeLine; decide, fun q nq => ?_⟩
  generalize hh : upd H q _ = H1; obtain ⟨s1, hq⟩ := gen_new hh nq; clear hh
  refine ⟨q, [1, (if (b.roots : Int) - 1 > 1 then (b.roots : Int) - 1 else 1), (b.roots : Int)], rfl, .of hq, by show 3 ≤ 60; decide, fun sp c hc np => ?_⟩
  generalize hh : upd H1 sp _ = H2; obtain ⟨s2, hsp⟩ := gen_new hh np; clear hh
  refine ⟨sp, _, c, rfl, hsp, Nat.lt_of_le_of_lt hc (by show 3 < 64; decide), fun ns p6 so mem _ np6 => ?_⟩
  generalize hh : upd H2 p6 _ = H3; obtain ⟨s3, hp6⟩ := gen_new hh np6; clear hh
  have ens : ns = (placesN b.roots).map fun k : Nat => (k : Int) := strict_unique so pl1 fun k => by
    rw [pl2, mem]
    exact decide_eq_true_iff
  rw [ens] at hp6
  have s13 := s1.trans (s2.trans s3)
  have ht3 := s13 _ _ ht0
  have cutK : ∀ n : Nat, cutV (((placesN b.roots).map fun k : Nat => (k : Int)).map V.int) none (some (n : Int)) = ((placesN b.roots).take n).map fun k : Nat => V.int (k : Int) := fun n => by
    rw [cut_to, List.map_map, List.map_take]; rfl
  have I3 := I.grow s13
  have fin : ∀ (n : Nat) (zs : List Nat), (placesN b.roots).take n = zs → (zs ≠ [] → b.shares = false) → (zs.flatMap (ofPairs (endOf fb ls) b) = if b.shares = true then [] else (placesN b.roots).flatMap (ofPairs (endOf fb ls) b)) → ∀ te : TE, (∀ Q : VK, (∀ H4 q7, Same H3 H4 → H4 q7 = some (.lst (zs.map fun k : Nat => V.int (k : Int))) → q7 ≠ p → Q (.ref q7) H4) → te [some (.ref g), x1, x2, some (.ref p), some (.ref t), x5, some (.ref p6), x7, x8] H3 Q) →
      tFor (iList K te) (gName 7) (tOfB K) D [some (.ref g), x1, x2, some (.ref p), some (.ref t), x5, some (.ref p6), x7, x8] H3 := fun n zs ez zsh zf te hte => by
    refine of_loop I3 (b := b) ht3 hx xb len (zs := zs) (by rw [← ez, List.length_take]; omega) (fun k hk => pl4 k (by rw [← ez] at hk; exact List.mem_of_mem_take hk)) zsh hte fun H' vs' y7 y8 I' vl fr => ?_
    rw [zf] at I'
    exact k H' vs' _ y7 y8 I' vl ((FrGP.same s13).trans fr)
  show tFor (iList K (tSlOf K)) (gName 7) (tOfB K) D [some (.ref g), x1, x2, some (.ref p), some (.ref t), x5, some (.ref p6), x7, x8] H3
  cases es : b.shares with
  | true =>
    refine fin 0 [] rfl (fun h => absurd rfl h) (by rw [es]; rfl) _ fun Q h7 => ?_
    refine ⟨_, rfl, _, rfl, t, _, _, _, rfl, rfl, .of ht3, atI_nat (j := 6) rfl, rfl, .inr ⟨_, rfl, _, _, rfl, rfl, .inl ⟨by decide, by decide⟩, _, rfl, p6, _, rfl, .of hp6, fun q7 nq7 => ?_⟩⟩
    have e3 : (3 * (if decide (V.str b.kind = V.str "roots") = true then (1 : Int) else 0)) = ((0 : Nat) : Int) := by
      rw [decide_eq_false (by rw [kind_sh es]; exact vne (by decide +kernel))]; rfl
    rw [e3, cutK]
    exact h7 _ q7 (same_new nq7) upd_same (ne_of_none I3.hp nq7).symm
  | false =>
    refine fin 3 (placesN b.roots) (List.take_of_length_le pl3) (fun _ => es) (by rw [es]; rfl) _ fun Q h7 => ?_
    refine ⟨_, rfl, _, rfl, t, _, _, _, rfl, rfl, .of ht3, atI_nat (j := 6) rfl, rfl, .inr ⟨_, rfl, _, _, rfl, rfl, .inl ⟨by decide, by decide⟩, _, rfl, p6, _, rfl, .of hp6, fun q7 nq7 => ?_⟩⟩
    have e3 : (3 * (if decide (V.str b.kind = V.str "roots") = true then (1 : Int) else 0)) = ((3 : Nat) : Int) := by
      rw [decide_eq_true (congrArg V.str (kind_ro es))]; rfl
    rw [e3, cutK, List.take_of_length_le pl3]
    exact h7 _ q7 (same_new nq7) upd_same (ne_of_none I3.hp nq7).symm
end
end Rp


set_option maxRecDepth 100000
set_option maxHeartbeats 4000000
namespace Rp
open PySem PySem.Spec PyProof.Rows L2
section
variable {K : PySem.W.Frag} {H0 H H' : Hp} {g f p : Addr} {fb : List (Bd × Addr)} {ls : List Ln} {vs : List V} {xs : List OV}
theorem of_nums (I : OfI K H0 H g f p fb ls vs xs) {nl : Addr} {N : List Int} (hnl : H nl = some (.lst (N.map V.int))) (len : vs.length ≤ 80) {x1 x4 x5 x6 x7 x8 : Option V} {D : Ends} {te : TE} {zs : List Int} (zl : zs.length ≤ 100)
    (hte : ∀ Q : VK, (∀ H1 l, Qg K g f fb ls H H1 → H l = none → H1 l = some (.lst (zs.map V.int)) → Q (.ref l) H1) → te [some (.ref g), x1, some (.ref nl), some (.ref p), x4, x5, x6, x7, x8] H Q)
    (k : ∀ H' v, OfI K H0 H' g f p fb ls (vs ++ [v]) (xs ++ [.nums (zs.filter fun n => decide (n ∈ N))]) → FrGP g p H H' → D.nx [some (.ref g), x1, some (.ref nl), some (.ref p), x4, x5, x6, x7, x8] H') :
    tDrop (tBM K "list" rAppend (tVar 3) (tCons (tLc (iList K te) (gName 5) (tTest (tOp (rIn K false) (tVar 5) (tVar 2))) (tVar 5) [5]) tNil)) D [some (.ref g), x1, some (.ref nl), some (.ref p), x4, x5, x6, x7, x8] H := by
  refine ⟨_, rfl, .inl ⟨rfl, _, .of I.hp⟩, hte _ fun H1 l Q1 nl1 hl => ⟨l, rfl, ⟨_, .of hl⟩, fun E nE => ?_⟩⟩
  have I1 := I.step Q1
  have hnl1 := Q1.2 _ _ (I.lstG hnl) hnl
  refine lc_it walk_list (fun i H' => Same H1 H' ∧ H' E = some (.lst (((zs.take i).filter fun n => decide (n ∈ N)).map V.int))) ⟨same_new nE, upd_same⟩ (fun i H' _ z => z.1.seq (.of hl)) ?_ ?_
  · rintro i y H2 H3 hi ⟨s2, hE⟩ ⟨rfl, hy⟩
    rw [List.getElem?_map] at hy
    cases ez : zs[i]? with
    | none => rw [ez] at hy; cases hy
    | some n =>
      rw [ez] at hy
      cases hy
      have tk : zs.take (i + 1) = zs.take i ++ [n] := by rw [List.take_add_one, ez]; rfl
      refine ⟨rfl, _, rfl, _, rfl, nl, _, rfl, .inl (.of (s2 _ _ hnl1)), rfl, flat_ints N, decide (n ∈ N), congrArg V.bl (inV_int n N), ?_⟩
      by_cases e : n ∈ N
      · refine iteD e ⟨_, rfl, _, hE, ?_, same_mut s2 nE, ?_⟩
        · rw [List.length_map]
          refine Nat.lt_of_le_of_lt (List.length_filter_le _ _) ?_
          rw [List.length_take]
          exact Nat.lt_of_le_of_lt (Nat.min_le_right _ _) (Nat.lt_of_le_of_lt zl (by decide))
        · rw [upd_same, tk, List.filter_append, List.map_append]
          simp [e]
      · refine iteDn e ⟨s2, ?_⟩
        rw [tk, List.filter_append]
        have fe : ([n].filter fun n => decide (n ∈ N)) = [] := by simp [e]
        rw [fe, List.append_nil]
        exact hE
  · rintro H2 ⟨s2, hE⟩
    have hE : H2 E = some (.lst (((zs.take (zs.map V.int).length).filter fun n => decide (n ∈ N)).map V.int)) := hE
    rw [List.length_map, List.take_length] at hE
    have I2 := I1.grow s2
    have Ep : E ≠ p := (ne_of_none I1.hp nE).symm
    refine ⟨p, _, _, rfl, rfl, I2.hp, Nat.lt_of_le_of_lt len (by decide), ?_⟩
    refine k _ _ (I2.push (x := .nums (zs.filter fun n => decide (n ∈ N))) ⟨E, rfl, hid_of hE (by simpa using Ep)⟩) ?_
    exact (Qg.fr Q1).trans ((FrGP.same s2).trans fun c o _ n e => by rw [upd_ne n]; exact e)
end
section
variable {P : Program} {w : World} {K : PySem.W.Frag} {mg : Str → Option Value} {base : Heap}
theorem gone_few {fb : List (Bd × Addr)} {ls : List Ln} (len : ls.length ≤ 25) : (endOf fb ls).gone.length + (endOf fb ls).good.length ≤ 25 ∧ (endOf fb ls).voids.length ≤ 25 := by
  have key : ∀ (ls : List Ln) (s : SM) (m : Nat), s.gone.length + s.good.length ≤ m → s.voids.length ≤ m → (ls.foldl (SM.take (fb.map (·.1))) s).gone.length + (ls.foldl (SM.take (fb.map (·.1))) s).good.length ≤ m + ls.length ∧ (ls.foldl (SM.take (fb.map (·.1))) s).voids.length ≤ m + ls.length := by
    intro ls
    induction ls with
    | nil => exact fun s m h1 h2 => ⟨h1, h2⟩
    | cons l r ih =>
      intro s m h1 h2
      have st : (s.take (fb.map (·.1)) l).gone.length + (s.take (fb.map (·.1)) l).good.length ≤ m + 1 ∧ (s.take (fb.map (·.1)) l).voids.length ≤ m + 1 := by
        cases l with
        | sp n mo c =>
          show (s.spoil (fb.map (·.1)) n c).gone.length + (s.spoil (fb.map (·.1)) n c).good.length ≤ m + 1 ∧ (s.spoil (fb.map (·.1)) n c).voids.length ≤ m + 1
          unfold SM.spoil
          cases s.spoilt c with
          | some _ => exact ⟨Nat.le_succ_of_le h1, Nat.le_succ_of_le h2⟩
          | none =>
            refine ⟨?_, Nat.le_succ_of_le h2⟩
            show (s.gone ++ ((s.good.filter fun e : Pr × List Ky => decide (e.1.th.bed = c)).map fun e => e.1.num).reverse).length + (s.good.filter fun e : Pr × List Ky => !decide (e.1.th.bed = c)).length ≤ m + 1
            have := flen (fun e : Pr × List Ky => decide (e.1.th.bed = c)) s.good
            rw [List.length_append, List.length_reverse, List.length_map]
            omega
        | pr p =>
          show (if ((s.spoilt p.th.bed).isNone && s.holds p) = true then s.go p else s.void p).gone.length + (if ((s.spoilt p.th.bed).isNone && s.holds p) = true then s.go p else s.void p).good.length ≤ m + 1 ∧ (if ((s.spoilt p.th.bed).isNone && s.holds p) = true then s.go p else s.void p).voids.length ≤ m + 1
          split
          · have hg : (s.go p).gone = s.gone ∧ (s.go p).good.length = s.good.length + 1 ∧ (s.go p).voids = s.voids := by
              unfold SM.go
              split <;> exact ⟨rfl, List.length_append, rfl⟩
            rw [hg.1, hg.2.1, hg.2.2]
            omega
          · have hv : (s.void p).gone = s.gone ∧ (s.void p).good = s.good ∧ (s.void p).voids.length = s.voids.length + 1 := by
              unfold SM.void
              split <;> exact ⟨rfl, rfl, List.length_append⟩
            rw [hv.1, hv.2.1, hv.2.2]
            omega
      have := ih _ (m + 1) st.1 st.2
      rw [List.length_cons]
      rw [List.foldl_cons]
      omega
  have := key (inTime ls) (SM.begin (fb.map (·.1))) 0 (by
    have : (SM.begin (fb.map (·.1))).gone = [] ∧ (SM.begin (fb.map (·.1))).good = [] := ⟨(back_rest (bs := fb.map (fun x : Bd × Addr => x.1)) (s := SM.none)).2.2.2, (back_rest (bs := fb.map (fun x : Bd × Addr => x.1)) (s := SM.none)).2.1⟩
    rw [this.1, this.2]; exact Nat.le_refl 0) (by
    have : (SM.begin (fb.map (·.1))).voids = [] := (back_rest (bs := fb.map (fun x : Bd × Addr => x.1)) (s := SM.none)).2.2.1
    rw [this]; exact Nat.le_refl 0)
  rw [(inTime_perm ls).length_eq] at this
  unfold endOf SM.run
  omega
def sp_l_of (K : PySem.W.Frag) : Sp := fun vs H Q _ => ∃ (g dl nl f : Addr) (fb : List (Bd × Addr)) (ls : List Ln) (ts : List Addr) (bs : List Bd) (N : List Int), vs = [.ref g, .ref dl, .ref nl] ∧ LedAt K H g f fb ls ∧ H dl = some (.lst (ts.map V.ref)) ∧ L2R (BdrAt H) ts bs ∧ bs.length ≤ 3 ∧
  (∀ b ∈ bs, 1 ≤ b.roots ∧ ((endOf fb ls).units b.name).length < 64 ∧ ∃ x ∈ fb, x.1 = b) ∧ H nl = some (.lst (N.map V.int)) ∧
  ∀ p vs H', LedAt K H' g f fb ls → (∀ c o, c ≠ g → H c = some o → H' c = some o) → H p = none → H' p = some (.lst vs) → L2R (OvAt K H') vs (ofM (endOf fb ls) bs N) → Q (.ref p) H'
theorem ok_l_of (T : Tx K mg) : FnOk P w K mg base CX0 9 (He.ga K "_law_of") (fdOf K dd_l_of) ["_law_ledger", "_law_beds", "_law_numbers"] (sp_l_of K) := by
  refine okF T.d_l_of sc_l_of (fun vs H Q E h => ?_) (fun cdv A outer s H vs Q E hr h => ?_)
  · obtain ⟨_, _, _, _, _, _, _, _, _, rfl, _⟩ := h; rfl
  · obtain ⟨g, dl, nl, f, fb, ls, ts, bs, N, rfl, L, hdl, hts, d3, bok, hnl, k⟩ := h
    have hu := hu_of hr
    refine ⟨_, (pss_cons (ps_set (i := 3) sc_l_of.nd rfl (by first | exact Or.inl rfl | exact Or.inr rfl) (pe_lst (pa_cons (pe_lc (own := [("_law_row", 4)]) (g := gName 4) rfl sc_l_of.nd (pi_list (pe_meth0 (pv 0) T.c_Ledger T.m_Ledger_voids (ok_Ledger_voids T) (hr.mono (by decide)) T.b_Ledger_voids .nil pass0)) (blkOk_by (own := [("_law_row", 4)]) (N := N_l_of) (sc := defScope s_l_of) (by decide +kernel)) (fun _ _ _ _ _ => (pg_name (i := 4) sc_l_of.nd rfl (Or.inl rfl))) (fun _ _ _ _ _ => (pts_one (pt_cmpR (op_inK K rfl) (pe_ix (ix_tupK K rfl) (pv 4) pe_int (fun _ _ => rfl)) (pv 2) (by rfl)))) (fun _ _ _ _ _ => (pv 4))) pa_nil)))
      (pss_cons (ps_expr (pe_bm PySem.F.plainAttrs_list PySem.F.slot_list_append PySem.F.type_list_append mt_append (pv 3) (pa_cons (pe_lc (own := [("_law_number", 5)]) (g := gName 5) rfl sc_l_of.nd (pi_list (pe_meth0 (pv 0) T.c_Ledger T.m_Ledger_undone (ok_Ledger_undone T) (hr.mono (by decide)) T.b_Ledger_undone .nil pass0)) (blkOk_by (own := [("_law_number", 5)]) (N := N_l_of) (sc := defScope s_l_of) (by decide +kernel)) (fun _ _ _ _ _ => (pg_name (i := 5) sc_l_of.nd rfl (Or.inl rfl))) (fun _ _ _ _ _ => (pts_one (pt_cmpR (op_inK K rfl) (pv 5) (pv 2) (by rfl)))) (fun _ _ _ _ _ => (pv 5))) pa_nil)))
      (pss_cons (ps_expr (pe_bm PySem.F.plainAttrs_list PySem.F.slot_list_append PySem.F.type_list_append mt_append (pv 3) (pa_cons (pe_lc (own := [("_law_number", 5)]) (g := gName 5) rfl sc_l_of.nd (pi_list (pe_meth0 (pv 0) T.c_Ledger T.m_Ledger_hold (ok_Ledger_hold T) (hr.mono (by decide)) T.b_Ledger_hold .nil pass0)) (blkOk_by (own := [("_law_number", 5)]) (N := N_l_of) (sc := defScope s_l_of) (by decide +kernel)) (fun _ _ _ _ _ => (pg_name (i := 5) sc_l_of.nd rfl (Or.inl rfl))) (fun _ _ _ _ _ => (pts_one (pt_cmpR (op_inK K rfl) (pv 5) (pv 2) (by rfl)))) (fun _ _ _ _ _ => (pv 5))) pa_nil)))
      (pss_cons (ps_for PassesOwn.never rfl (pi_list (pv 1)) (pg_name (i := 4) sc_l_of.nd rfl (by first | exact Or.inl rfl | exact Or.inr rfl)) (pss_cons (ps_if (pt_cmpR op_eq (pe_ix (ix_tupK K rfl) (pv 4) pe_int (fun _ _ => rfl)) pe_str (nomark _)) (pss_one (ps_expr (pe_bm PySem.F.plainAttrs_list PySem.F.slot_list_append PySem.F.type_list_append mt_append (pv 3) (pa_cons (pe_meth (pv 0) T.c_Ledger T.m_Ledger_holders (ok_Ledger_holders T) (hr.mono (by decide)) T.b_Ledger_holders .nil pass0 (pa_cons (pe_ix (ix_tupK K rfl) (pv 4) pe_int (fun _ _ => rfl)) pa_nil)) pa_nil)))) pss_nil)
      (pss_cons (ps_set (i := 6) sc_l_of.nd rfl (by first | exact Or.inl rfl | exact Or.inr rfl) (pe_callB (cr_sortedSet rfl) (by rfl) T.f_sorted (by decide +kernel) (pa_cons (pe_callTy (cr_setI rfl) (by rfl) T.f_set (by decide +kernel) (pa_cons (pe_lst (pa_cons pe_int (pa_cons (pe_callB (call_max2 rfl) (by rfl) T.f_max (by decide +kernel) (pa_cons pe_int (pa_cons (pe_op op_sub (pe_ix (ix_tupK K rfl) (pv 4) pe_int (fun _ _ => rfl)) pe_int) pa_nil))) (pa_cons (pe_ix (ix_tupK K rfl) (pv 4) pe_int (fun _ _ => rfl)) pa_nil)))) pa_nil)) pa_nil)))
      (pss_one (ps_for PassesOwn.never rfl (pi_list (pe_slice sl_list (pv 6) po_none (po_some (pe_op op_mul pe_int (pe_callTy call_int1 (by rfl) T.f_int (by decide +kernel) (pa_cons (pe_cmpR op_eq (pe_ix (ix_tupK K rfl) (pv 4) pe_int (fun _ _ => rfl)) pe_str (nomark _)) pa_nil)))))) (pg_name (i := 7) sc_l_of.nd rfl (by first | exact Or.inl rfl | exact Or.inr rfl)) (pss_one (ps_for PassesOwn.never rfl (pi_list (pe_lst (pa_cons (pe_tup (pa_cons pe_str (pa_cons (pe_ix (ix_tupK K rfl) (pv 4) pe_int (fun _ _ => rfl)) (pa_cons (pv 7) pa_nil)))) (pa_cons (pe_tup (pa_cons pe_str (pa_cons (pe_ix (ix_tupK K rfl) (pv 4) pe_int (fun _ _ => rfl)) (pa_cons (pv 7) pa_nil)))) pa_nil)))) (pg_name (i := 8) sc_l_of.nd rfl (by first | exact Or.inl rfl | exact Or.inr rfl)) (pss_one (ps_expr (pe_bm PySem.F.plainAttrs_list PySem.F.slot_list_append PySem.F.type_list_append mt_append (pv 3) (pa_cons (pe_tup (pa_cons (pe_meth (pv 0) T.c_Ledger T.m_Ledger_holder (ok_Ledger_holder T) (hr.mono (by decide)) T.b_Ledger_holder .nil pass0 (pa_cons (pv 8) pa_nil)) (pa_cons (pe_meth (pv 0) T.c_Ledger T.m_Ledger_row (ok_Ledger_row T) (hr.mono (by decide)) T.b_Ledger_row .nil pass0 (pa_cons (pv 8) pa_nil)) pa_nil))) pa_nil)))))))))))
      (pss_one (ps_ret (pv 3))))))), ?_⟩
    obtain ⟨dx, kn, cv, hg⟩ := L.ob
    have llen : ls.length ≤ 25 := by obtain ⟨_, _, _, _, _, h, _⟩ := L; exact h
    obtain ⟨few1, few2⟩ := gone_few (fb := fb) llen
    have nlg : nl ≠ g := ne_of hnl hg (by intro q; cases q)
    have dlg : dl ≠ g := ne_of hdl hg (by intro q; cases q)
    -- the void ones
    refine ⟨_, rfl, _, _, _, rfl, hg, lm_Ledger_voids, g, f, fb, ls, rfl, L, fun H1 l us Q1 nl1 hl hus => ⟨l, rfl, ⟨_, .of hl⟩, fun E nE => ?_⟩⟩
    have hnl1 := Q1.2 _ _ nlg hnl
    refine lc_it walk_list (fun i H' => Same H1 H' ∧ ∃ es : List Addr, H' E = some (.lst (es.map V.ref)) ∧ L2R (VdAt H1) es (((endOf fb ls).voids.take i).filter fun v => decide (v.1 ∈ N))) ⟨same_new nE, [], upd_same, .nil⟩ (fun i H' _ z => z.1.seq (.of hl)) ?_ ?_
    · rintro i y H2 H3 hi ⟨s2, es, hE, hes⟩ ⟨rfl, hy⟩
      obtain ⟨a, ha, rfl⟩ := ref_at hy
      obtain ⟨v, hv, hva⟩ := hus.left ha
      have hva3 : H3 a = some (.tup [.int v.1, .str v.2.1, optV v.2.2]) := s2 _ _ hva
      have tk : (endOf fb ls).voids.take (i + 1) = (endOf fb ls).voids.take i ++ [v] := by rw [List.take_add_one, hv]; rfl
      refine ⟨rfl, _, rfl, a, _, _, _, rfl, rfl, .of hva3, atI_nat (j := 0) rfl, _, rfl, nl, _, rfl, .inl (.of (s2 _ _ hnl1)), rfl, flat_ints N, decide (v.1 ∈ N), congrArg V.bl (inV_int v.1 N), ?_⟩
      by_cases e : v.1 ∈ N
      · refine iteD e ⟨_, rfl, _, hE, ?_, same_mut s2 nE, es ++ [a], by rw [upd_same, List.map_append]; rfl, ?_⟩
        · rw [List.length_map, hes.1]
          refine Nat.lt_of_le_of_lt (List.length_filter_le _ _) ?_
          rw [List.length_take]
          exact Nat.lt_of_le_of_lt (Nat.min_le_right _ _) (Nat.lt_of_le_of_lt few2 (by decide))
        · rw [tk, List.filter_append]
          have fe : ([v].filter fun v => decide (v.1 ∈ N)) = [v] := by simp [e]
          rw [fe]
          exact hes.snoc hva
      · refine iteDn e ⟨s2, es, hE, ?_⟩
        rw [tk, List.filter_append]
        have fe : ([v].filter fun v => decide (v.1 ∈ N)) = [] := by simp [e]
        rw [fe, List.append_nil]
        exact hes
    · rintro H2 ⟨s2, es, hE, hes⟩
      have hes : L2R (VdAt H1) es (((endOf fb ls).voids.take (us.map V.ref).length).filter fun v => decide (v.1 ∈ N)) := hes
      rw [List.length_map, hus.1, List.take_length] at hes
      refine ⟨by show 1 ≤ sizeLine; decide, fun p np => ?_⟩
      have Ep : E ≠ p := (ne_of_none hE np)
      generalize hh : upd H2 p _ = H3; obtain ⟨s3, hp⟩ := gen_new hh np; clear hh
      have s13 := s2.trans s3
      have I : OfI K H H3 g f p fb ls [.ref E] [.rows ((endOf fb ls).voids.filter fun v => decide (v.1 ∈ N))] := by
        refine ⟨Q1.1.same s13, fun c o n e => s13 _ _ (Q1.2 _ _ n e), LedAt.free Q1.1 Q1.2 (s2.free np), hp, L2R.cons ⟨E, es, rfl, hid_of (s3 _ _ hE) (by simpa using Ep), hes.mono fun _ _ e => hid_of (s13 _ _ e) ?_⟩ .nil, E, [], _, rfl, s3 _ _ hE⟩
        rw [List.mem_singleton]
        exact ne_of (s13 _ _ e) hp (by intro q; cases q)
      have hnl3 := s13 _ _ hnl1
      -- the undone ones
      obtain ⟨d3x, k3, c3, hg3⟩ := I.L.ob
      refine of_nums I hnl3 (by show 1 ≤ 80; decide) (zs := (endOf fb ls).gone) (by omega) (fun Q h => ⟨_, rfl, _, _, _, rfl, hg3, lm_Ledger_undone, g, f, fb, ls, rfl, I.L, fun H4 l Q4 nl4 hl4 => h H4 l Q4 nl4 hl4⟩) fun H4 v4 I4 fr4 => ?_
      have hnl4 := fr4 _ _ (I.lstG hnl3) (fun e => by
        have := I4.p0
        rw [← e, hnl] at this; cases this) hnl3
      obtain ⟨d4x, k4, c4, hg4⟩ := I4.L.ob
      refine of_nums I4 hnl4 (by show 2 ≤ 80; decide) (zs := (endOf fb ls).good.map fun e => e.1.num) (by rw [List.length_map]; omega) (fun Q h => ⟨_, rfl, _, _, _, rfl, hg4, lm_Ledger_hold, g, f, fb, ls, rfl, I4.L, fun H5 l Q5 nl5 hl5 => h H5 l Q5 nl5 (hl5.trans (by rw [List.map_map]; rfl))⟩) fun H5 v5 I5 fr5 => ?_
      -- the beds
      have hdl5 := I5.fr _ _ dlg hdl
      have base : OfI K H H5 g f p fb ls ([V.ref E] ++ [v4] ++ [v5]) (ofBase (endOf fb ls) N) := I5
      refine ⟨_, rfl, dl, rfl, ⟨_, .of hdl5⟩, ?_⟩
      refine for_it walk_list (fun i σ H' => ∃ vs' x4 x5 x6 x7 x8, σ = [some (.ref g), some (.ref dl), some (.ref nl), some (.ref p), x4, x5, x6, x7, x8] ∧ OfI K H H' g f p fb ls vs' (ofBase (endOf fb ls) N ++ (bs.take i).flatMap (ofBed (endOf fb ls))) ∧ vs'.length ≤ 3 + 7 * i)
        ⟨_, _, _, _, _, _, rfl, (by show OfI K H H5 g f p fb ls _ (ofBase (endOf fb ls) N ++ []); rw [List.append_nil]; exact base), by show 3 ≤ 3; decide⟩ (fun i σ H' _ ⟨_, _, _, _, _, _, _, I', _⟩ => .of (I'.fr _ _ dlg hdl)) ?_ ?_
      · rintro i y σ H6 H7 hi ⟨vs', x4, x5, x6, x7, x8, rfl, I6, vl⟩ ⟨rfl, hy⟩
        obtain ⟨t, ht, rfl⟩ := ref_at hy
        obtain ⟨b, hb, hbt⟩ := hts.left ht
        have bm := List.mem_of_getElem? hb
        obtain ⟨r1, few, x, hx, xb⟩ := bok b bm
        have il : i < 3 := by have := (List.getElem?_eq_some_iff.mp hb).1; omega
        have tg : ∀ {H'' : Hp} {vv xx}, OfI K H H'' g f p fb ls vv xx → BdrAt H'' t b := fun I' => I'.fr _ _ (ne_of hbt hg (by intro q; cases q)) hbt
        have ht6 : H7 t = some (.tup (bdV b)) := tg I6
        have tk : bs.take (i + 1) = bs.take i ++ [b] := by rw [List.take_add_one, hb]; rfl
        have etk : ofBase (endOf fb ls) N ++ (bs.take (i + 1)).flatMap (ofBed (endOf fb ls)) = (ofBase (endOf fb ls) N ++ (bs.take i).flatMap (ofBed (endOf fb ls))) ++ ofBed (endOf fb ls) b := by
          rw [tk, List.flatMap_append, List.append_assoc]
          simp
        refine ⟨_, rfl, t, _, _, _, rfl, rfl, .of ht6, atI_nat (j := 6) rfl, rfl, _, rfl, ?_⟩
        cases es : b.shares with
        | true =>
          refine iteD (congrArg V.str (kind_sh es)) ?_
          obtain ⟨d6, k6, c6, hg6⟩ := I6.L.ob
          refine ⟨_, rfl, .inl ⟨rfl, _, .of I6.hp⟩, _, rfl, _, _, _, rfl, hg6, lm_Ledger_holders, _, rfl, t, _, _, _, rfl, rfl, .of ht6, atI_nat (j := 0) rfl, g, f, fb, ls, x, by rw [xb]; rfl, I6.L, hx, by rw [xb]; exact es, by rw [xb]; exact few, fun H8 l us Q8 nl8 hl8 hus8 => ?_⟩
          have I8 := I6.step Q8
          have lp : l ≠ p := (ne_of_none I6.hp nl8).symm
          refine ⟨p, _, _, rfl, rfl, I8.hp, Nat.lt_of_le_of_lt (m := 40) (by omega) (by decide), ?_⟩
          rw [xb] at hus8
          have I9 := I8.push (v := .ref l) (x := .hold (holdersM ((endOf fb ls).units b.name))) ⟨l, us, rfl, hid_of hl8 (by simpa using lp), hus8.mono fun a z ⟨q, e1, dq, e2⟩ => ⟨q, hid_of e1 (by rw [List.mem_singleton]; exact (I8.tupG e1).2), dq, hid_of e2 (by rw [List.mem_singleton]; exact ne_of e2 I8.hp (by intro q; cases q))⟩⟩
          refine of_rest (w := w) I9 (tg I9) r1 hx xb (by rw [List.length_append]; show vs'.length + 1 ≤ 80; omega) fun H' vs2 y6 y7 y8 I' vl' fr' => ⟨vs2, _, _, _, _, _, rfl, ?_, ?_⟩
          · rw [etk]
            rw [es, if_pos rfl, List.append_nil] at I'
            have : ofBed (endOf fb ls) b = [.hold (holdersM ((endOf fb ls).units b.name))] := by unfold ofBed; rw [es]; rfl
            rw [this]
            exact I'
          · rw [List.length_append] at vl'
            have : vs2.length ≤ (vs'.length + 1) + 6 := vl'
            omega
        | false =>
          refine iteDn (by rw [kind_ro es]; exact vne kne8) ?_
          refine of_rest (w := w) I6 (tg I6) r1 hx xb (by omega) fun H' vs2 y6 y7 y8 I' vl' fr' => ⟨vs2, _, _, _, _, _, rfl, ?_, by omega⟩
          rw [etk]
          rw [es, if_neg (by decide)] at I'
          have : ofBed (endOf fb ls) b = (placesN b.roots).flatMap (ofPairs (endOf fb ls) b) := by unfold ofBed; rw [es]; rfl
          rw [this]
          exact I'
      · rintro σ H6 ⟨vs', x4, x5, x6, x7, x8, rfl, I6, vl⟩
        have el : bs.take (ts.map V.ref).length = bs := by rw [List.length_map, hts.1]; exact List.take_length
        rw [el] at I6
        exact ⟨_, rfl, k p vs' H6 I6.L I6.fr I6.p0 I6.hp (I6.ov.mono fun _ _ e => e.same hid_same)⟩
end
end Rp


set_option maxRecDepth 100000
set_option maxHeartbeats 4000000
namespace Rp
open PySem
/-! ### the plain law: a spoilt bed alone -/
theorem bedOf_name (bs : List Bd) (n : Str) : (bedOf bs n).name = n := by
  unfold bedOf
  cases e : bs.find? fun b => decide (b.name = n) with
  | none => rfl
  | some c =>
    show c.name = n
    simpa using List.find?_some e
theorem moves_bed {s : SM} {p : Pr} {y : Ky} (hy : y ∈ s.moves p) : y.bed = p.th.bed := by
  unfold SM.moves at hy
  split at hy
  · rename_i e
    rw [e]
    split at hy <;> simp at hy
    · rcases hy with rfl | rfl <;> rfl
    · rw [hy]; rfl
  · simp at hy
    rw [hy, Th.key_bed]
theorem lastOf_filter {seller : Str} {y : Ky} {q : Pr × List Ky → Bool} : ∀ {good : List (Pr × List Ky)} {r : Str × Option Int}, (∀ e ∈ good, q e = false → y ∉ e.2) → lastOf good seller y r = lastOf (good.filter q) seller y r
  | [], _, _ => rfl
  | e :: t, r, h => by
    have ih : ∀ r, lastOf t seller y r = lastOf (t.filter q) seller y r := fun r => lastOf_filter (good := t) (r := r) fun x hx => h x (List.mem_cons_of_mem e hx)
    rw [List.filter_cons]
    cases c : q e with
    | true => exact ih _
    | false =>
      have n := h e List.mem_cons_self c
      show lastOf t seller y (if (decide (e.1.seller = seller) && decide (y ∈ e.2)) = true then _ else _) = lastOf (t.filter q) seller y r
      rw [decide_eq_false n, Bool.and_false, if_neg (by decide)]
      exact ih _
/-- what lines of other beds than b are -/
def LnN (b : Str) (N : Int → Bool) : Ln → Prop
  | .pr p => N p.num = !decide (p.th.bed = b)
  | .sp _ _ _ => True
/-- the entries of what holds -/
def EnN (b : Str) (N : Int → Bool) (e : Pr × List Ky) : Prop := N e.1.num = (!decide (e.1.th.bed = b)) ∧ ∀ y ∈ e.2, y.bed = e.1.th.bed
structure Loc (b : Str) (N : Int → Bool) (s t : SM) : Prop where
  held : ∀ y : Ky, y.bed ≠ b → s.held y = t.held y
  units : ∀ n, n ≠ b → s.units n = t.units n
  spoilt : ∀ n, n ≠ b → s.spoilt n = t.spoilt n
  good : s.good.filter (fun e => !decide (e.1.th.bed = b)) = t.good
  voids : s.voids.filter (fun v => N v.1) = t.voids
  gone : s.gone.filter N = t.gone
  ks : ∀ e ∈ s.good, EnN b N e
section
variable {b : Str} {N : Int → Bool} {s t : SM} {bs : List Bd}
theorem none_of {α : Type} {q : α → Bool} {xs : List α} (h : ∀ x ∈ xs, q x = false) : xs.filter q = [] := List.filter_eq_nil_iff.mpr fun x hx => by rw [h x hx]; decide
theorem all_of {α : Type} {q : α → Bool} {xs : List α} (h : ∀ x ∈ xs, q x = true) : xs.filter q = xs := List.filter_eq_self.mpr h
theorem Loc.own (L : Loc b N s t) {l : Ln} (hl : LnN b N l) (e : l.bed = b) : Loc b N (s.take bs l) t := by
  cases l with
  | sp n m c =>
    have e : c = b := e
    subst e
    show Loc c N (s.spoil bs n c) t
    unfold SM.spoil
    cases es : s.spoilt c with
    | some _ => exact L
    | none =>
      have nm := bedOf_name bs c
      refine ⟨fun y hy => ?_, fun n hn => ?_, fun n hn => ?_, ?_, L.voids, ?_, fun e he => ?_⟩
      · show (if inBed (bedOf bs c) y = true then _ else s.held y) = _
        rw [if_neg fun z => hy ((inBed_bed z).trans nm)]
        exact L.held y hy
      · show (if n = (bedOf bs c).name then _ else s.units n) = _
        rw [if_neg (by rw [nm]; exact hn)]
        exact L.units n hn
      · show (if n = c then _ else s.spoilt n) = _
        rw [if_neg hn]
        exact L.spoilt n hn
      · show ((s.good.filter fun e => !decide (e.1.th.bed = c)).filter fun e => !decide (e.1.th.bed = c)) = _
        rw [List.filter_filter]
        simp only [Bool.and_self]
        exact L.good
      · show (s.gone ++ ((s.good.filter fun e => decide (e.1.th.bed = c)).map fun e => e.1.num).reverse).filter N = _
        rw [List.filter_append, none_of (xs := ((s.good.filter fun e => decide (e.1.th.bed = c)).map fun e => e.1.num).reverse), List.append_nil]
        · exact L.gone
        · intro x hx
          obtain ⟨e, he, rfl⟩ := List.mem_map.mp (List.mem_reverse.mp hx)
          obtain ⟨h1, h2⟩ := List.mem_filter.mp he
          rw [(L.ks e h1).1, h2]; rfl
      · exact L.ks e (List.mem_filter.mp he).1
  | pr p =>
    have e : p.th.bed = b := e
    have hn : N p.num = false := by
      have : N p.num = !decide (p.th.bed = b) := hl
      rw [this, decide_eq_true e]; rfl
    show Loc b N (if ((s.spoilt p.th.bed).isNone && s.holds p) = true then s.go p else s.void p) t
    split
    · have ge : (s.good ++ [(p, s.moves p)]).filter (fun e => !decide (e.1.th.bed = b)) = t.good := by
        rw [List.filter_append, L.good, none_of (xs := [(p, s.moves p)]), List.append_nil]
        intro x hx
        rw [List.mem_singleton.mp hx, decide_eq_true e]; rfl
      have kse : ∀ x ∈ s.good ++ [(p, s.moves p)], EnN b N x := fun x hx => by
        rcases List.mem_append.mp hx with hx | hx
        · exact L.ks x hx
        · rw [List.mem_singleton.mp hx]
          exact ⟨hl, fun y hy => moves_bed hy⟩
      unfold SM.go
      split
      · rename_i c u eth
        have em : s.moves p = [Ky.share c] := by unfold SM.moves; rw [eth]; rfl
        rw [em] at ge kse
        have cb : c = b := by rw [eth] at e; exact e
        refine ⟨L.held, fun n hn => ?_, L.spoilt, ge, L.voids, L.gone, kse⟩
        show (if n = c then _ else s.units n) = _
        rw [if_neg (by rw [cb]; exact hn)]
        exact L.units n hn
      · refine ⟨fun y hy => ?_, L.units, L.spoilt, ge, L.voids, L.gone, kse⟩
        show (if y ∈ s.moves p then _ else s.held y) = _
        rw [if_neg fun z => hy ((moves_bed z).trans e)]
        exact L.held y hy
    · have key : ∀ row : Int × Str × Option Int, row.1 = p.num → Loc b N { s with voids := s.voids ++ [row] } t := fun row hr => by
        refine ⟨L.held, L.units, L.spoilt, L.good, ?_, L.gone, L.ks⟩
        show (s.voids ++ [row]).filter _ = _
        rw [List.filter_append, L.voids, none_of (xs := [row]), List.append_nil]
        intro x hx
        rw [List.mem_singleton.mp hx, hr, hn]
      unfold SM.void
      cases s.spoilt p.th.bed with
      | some n => exact key _ rfl
      | none => exact key _ rfl
theorem Loc.oth (L : Loc b N s t) {l : Ln} (hl : LnN b N l) (e : l.bed ≠ b) : Loc b N (s.take bs l) (t.take bs l) := by
  cases l with
  | sp n m c =>
    have e : c ≠ b := e
    show Loc b N (s.spoil bs n c) (t.spoil bs n c)
    unfold SM.spoil
    rw [← L.spoilt c e]
    cases es : s.spoilt c with
    | some _ => exact L
    | none =>
      have gc : t.good.filter (fun e => decide (e.1.th.bed = c)) = s.good.filter (fun e => decide (e.1.th.bed = c)) := by
        rw [← L.good, List.filter_filter]
        refine List.filter_congr fun x hx => ?_
        by_cases h : x.1.th.bed = c
        · rw [decide_eq_true h, decide_eq_false (by rw [h]; exact e)]; rfl
        · rw [decide_eq_false h]; rfl
      refine ⟨fun y hy => ?_, fun n hn => ?_, fun n hn => ?_, ?_, L.voids, ?_, fun e he => L.ks e (List.mem_filter.mp he).1⟩
      · show (if inBed (bedOf bs c) y = true then _ else s.held y) = if inBed (bedOf bs c) y = true then _ else t.held y
        rw [L.held y hy]
      · show (if n = (bedOf bs c).name then _ else s.units n) = if n = (bedOf bs c).name then _ else t.units n
        rw [L.units n hn]
      · show (if n = c then _ else s.spoilt n) = if n = c then _ else t.spoilt n
        rw [L.spoilt n hn]
      · show ((s.good.filter fun e => !decide (e.1.th.bed = c)).filter fun e => !decide (e.1.th.bed = b)) = t.good.filter fun e => !decide (e.1.th.bed = c)
        rw [← L.good, List.filter_filter, List.filter_filter]
        refine List.filter_congr fun x hx => ?_
        rw [Bool.and_comm]
      · show (s.gone ++ ((s.good.filter fun e => decide (e.1.th.bed = c)).map fun e => e.1.num).reverse).filter N = t.gone ++ ((t.good.filter fun e => decide (e.1.th.bed = c)).map fun e => e.1.num).reverse
        rw [gc, List.filter_append, L.gone, all_of (xs := ((s.good.filter fun e => decide (e.1.th.bed = c)).map fun e => e.1.num).reverse)]
        intro x hx
        obtain ⟨d, he, rfl⟩ := List.mem_map.mp (List.mem_reverse.mp hx)
        obtain ⟨h1, h2⟩ := List.mem_filter.mp he
        rw [(L.ks d h1).1, of_decide_eq_true h2, decide_eq_false e]; rfl
  | pr p =>
    have e : p.th.bed ≠ b := e
    have hn : N p.num = true := by
      have : N p.num = !decide (p.th.bed = b) := hl
      rw [this, decide_eq_false e]; rfl
    have eh : t.holds p = s.holds p := by
      unfold SM.holds
      split
      · rename_i c u eth
        rw [L.units c (by rw [eth] at e; exact e)]
      · rw [L.held _ (by rw [Th.key_bed]; exact e)]
    have emv : t.moves p = s.moves p := by
      unfold SM.moves
      split
      · rename_i c k eth
        rw [L.held (.offs c k) (by rw [eth] at e; exact e)]
      · rfl
    show Loc b N (if ((s.spoilt p.th.bed).isNone && s.holds p) = true then s.go p else s.void p) (if ((t.spoilt p.th.bed).isNone && t.holds p) = true then t.go p else t.void p)
    rw [eh, ← L.spoilt _ e]
    split
    · have ge : ∀ ms, (s.good ++ [(p, ms)]).filter (fun e => !decide (e.1.th.bed = b)) = t.good ++ [(p, ms)] := fun ms => by
        rw [List.filter_append, L.good, all_of (xs := [(p, ms)])]
        intro x hx
        rw [List.mem_singleton.mp hx, decide_eq_false e]; rfl
      have kse : ∀ x ∈ s.good ++ [(p, s.moves p)], EnN b N x := fun x hx => by
        rcases List.mem_append.mp hx with hx | hx
        · exact L.ks x hx
        · rw [List.mem_singleton.mp hx]
          exact ⟨hl, fun y hy => moves_bed hy⟩
      unfold SM.go
      split
      · rename_i c u eth
        have em : s.moves p = [Ky.share c] := by unfold SM.moves; rw [eth]; rfl
        rw [em] at kse
        refine ⟨L.held, fun n hn => ?_, L.spoilt, ge _, L.voids, L.gone, kse⟩
        show (if n = c then moved (s.units c) p u else s.units n) = if n = c then moved (t.units c) p u else t.units n
        rw [L.units n hn, L.units c (by rw [eth] at e; exact e)]
      · rw [emv]
        refine ⟨fun y hy => ?_, L.units, L.spoilt, ge _, L.voids, L.gone, kse⟩
        show (if y ∈ s.moves p then _ else s.held y) = if y ∈ s.moves p then _ else t.held y
        rw [L.held y hy]
    · have key : ∀ row : Int × Str × Option Int, row.1 = p.num → Loc b N { s with voids := s.voids ++ [row] } { t with voids := t.voids ++ [row] } := fun row hr => by
        refine ⟨L.held, L.units, L.spoilt, L.good, ?_, L.gone, L.ks⟩
        show (s.voids ++ [row]).filter _ = _
        rw [List.filter_append, L.voids, all_of (xs := [row])]
        intro x hx
        rw [List.mem_singleton.mp hx, hr, hn]
      unfold SM.void
      rw [← L.spoilt _ e]
      cases s.spoilt p.th.bed with
      | some n => exact key _ rfl
      | none =>
        have el : lastOf t.good p.seller p.th.key (("never" : Str), none) = lastOf s.good p.seller p.th.key (("never" : Str), none) := by
          rw [← L.good]
          refine (lastOf_filter fun x hx hq hy => ?_).symm
          have q1 : x.1.th.bed = b := by simpa using hq
          have q2 := (L.ks x hx).2 _ hy
          rw [Th.key_bed] at q2
          exact e (q2.trans q1)
        show Loc b N _ { t with voids := t.voids ++ [(p.num, lastOf t.good p.seller p.th.key (("never" : Str), none))] }
        rw [el]
        exact key _ rfl
theorem Loc.run : ∀ {ls : List Ln} {s t : SM}, (∀ l ∈ ls, LnN b N l) → Loc b N s t → Loc b N (ls.foldl (SM.take bs) s) ((ls.filter fun l => !decide (l.bed = b)).foldl (SM.take bs) t)
  | [], _, _, _, L => L
  | l :: r, s, t, h, L => by
    have h1 := h l List.mem_cons_self
    have h2 := fun x hx => h x (List.mem_cons_of_mem l hx)
    rw [List.filter_cons]
    by_cases e : l.bed = b
    · rw [decide_eq_true e]
      exact Loc.run h2 (L.own h1 e)
    · rw [decide_eq_false e]
      exact Loc.run h2 (L.oth h1 e)
theorem begin_rest (bs : List Bd) : (SM.begin bs).spoilt = (fun _ => none) ∧ (SM.begin bs).good = [] ∧ (SM.begin bs).voids = [] ∧ (SM.begin bs).gone = [] := back_rest
theorem loc_end {ls : List Ln} (nd : (ls.map Ln.num).Nodup) (h : ∀ l ∈ ls, LnN b N l) : Loc b N (SM.run bs (inTime ls)) (SM.run bs (inTime (ls.filter fun l => !decide (l.bed = b)))) := by
  rw [← inTime_filter nd]
  refine Loc.run (fun l hl => h l ((inTime_perm ls).mem_iff.mp hl)) ?_
  obtain ⟨r1, r2, r3, r4⟩ := begin_rest bs
  exact ⟨fun _ _ => rfl, fun _ _ => rfl, fun _ _ => rfl, by rw [r2]; rfl, by rw [r3]; rfl, by rw [r4]; rfl, by rw [r2]; nofun⟩
/-! what is undone of the spoilt bed -/
structure Ahead (b : Str) (N : Int → Bool) (s : SM) : Prop where
  sp : s.spoilt b = none
  gone : s.gone.filter (fun n => !N n) = []
  ks : ∀ e ∈ s.good, EnN b N e
structure Behind (b : Str) (N : Int → Bool) (X : List Int) (s : SM) : Prop where
  sp : s.spoilt b ≠ none
  gone : s.gone.filter (fun n => !N n) = X
  ks : ∀ e ∈ s.good, EnN b N e ∧ e.1.th.bed ≠ b
def isSp (b : Str) : Ln → Bool
  | .sp _ _ c => decide (c = b)
  | .pr _ => false
theorem go_rest (s : SM) (p : Pr) : (s.go p).spoilt = s.spoilt ∧ (s.go p).gone = s.gone ∧ (s.go p).good = s.good ++ [(p, s.moves p)] := by
  unfold SM.go
  split
  · rename_i c u eth
    have em : s.moves p = [Ky.share c] := by unfold SM.moves; rw [eth]; rfl
    rw [em]
    exact ⟨rfl, rfl, rfl⟩
  · exact ⟨rfl, rfl, rfl⟩
theorem void_rest (s : SM) (p : Pr) : (s.void p).spoilt = s.spoilt ∧ (s.void p).gone = s.gone ∧ (s.void p).good = s.good := by
  unfold SM.void
  split <;> exact ⟨rfl, rfl, rfl⟩
theorem gone_nums {s : SM} {c : Str} (hks : ∀ e ∈ s.good, EnN b N e) (hc : c ≠ b) : ((s.good.filter fun e => decide (e.1.th.bed = c)).map fun e => e.1.num).reverse.filter (fun n => !N n) = [] := by
  refine none_of fun x hx => ?_
  obtain ⟨d, he, rfl⟩ := List.mem_map.mp (List.mem_reverse.mp hx)
  obtain ⟨h1, h2⟩ := List.mem_filter.mp he
  rw [(hks d h1).1, of_decide_eq_true h2, decide_eq_false hc]; rfl
theorem Ahead.step (A : Ahead b N s) {l : Ln} (hl : LnN b N l) (e : isSp b l = false) : Ahead b N (s.take bs l) := by
  cases l with
  | sp n m c =>
    have e : c ≠ b := by simpa [isSp] using e
    show Ahead b N (s.spoil bs n c)
    unfold SM.spoil
    cases es : s.spoilt c with
    | some _ => exact A
    | none =>
      refine ⟨?_, ?_, fun e he => A.ks e (List.mem_filter.mp he).1⟩
      · show (if b = c then _ else s.spoilt b) = _
        rw [if_neg e.symm]; exact A.sp
      · show (s.gone ++ ((s.good.filter fun e => decide (e.1.th.bed = c)).map fun e => e.1.num).reverse).filter _ = _
        rw [List.filter_append, A.gone, gone_nums A.ks e]; rfl
  | pr p =>
    show Ahead b N (if ((s.spoilt p.th.bed).isNone && s.holds p) = true then s.go p else s.void p)
    split
    · obtain ⟨r1, r2, r3⟩ := go_rest s p
      refine ⟨by rw [r1]; exact A.sp, by rw [r2]; exact A.gone, fun x hx => ?_⟩
      rw [r3] at hx
      rcases List.mem_append.mp hx with hx | hx
      · exact A.ks x hx
      · rw [List.mem_singleton.mp hx]
        exact ⟨hl, fun y hy => moves_bed hy⟩
    · obtain ⟨r1, r2, r3⟩ := void_rest s p
      exact ⟨by rw [r1]; exact A.sp, by rw [r2]; exact A.gone, by rw [r3]; exact A.ks⟩
theorem Ahead.spoil (A : Ahead b N s) {n m : Int} : Behind b N ((s.good.filter fun e => decide (e.1.th.bed = b)).map fun e => e.1.num).reverse (s.take bs (.sp n m b)) := by
  show Behind b N _ (s.spoil bs n b)
  unfold SM.spoil
  rw [A.sp]
  refine ⟨?_, ?_, fun e he => ?_⟩
  · show (if b = b then some n else s.spoilt b) ≠ none
    rw [if_pos rfl]; nofun
  · show (s.gone ++ ((s.good.filter fun e => decide (e.1.th.bed = b)).map fun e => e.1.num).reverse).filter _ = _
    rw [List.filter_append, A.gone, List.nil_append]
    refine all_of fun x hx => ?_
    obtain ⟨d, he, rfl⟩ := List.mem_map.mp (List.mem_reverse.mp hx)
    obtain ⟨h1, h2⟩ := List.mem_filter.mp he
    rw [(A.ks d h1).1, h2]; rfl
  · obtain ⟨h1, h2⟩ := List.mem_filter.mp he
    exact ⟨A.ks e h1, by simpa using h2⟩
theorem Behind.step {X : List Int} (A : Behind b N X s) {l : Ln} (hl : LnN b N l) : Behind b N X (s.take bs l) := by
  cases l with
  | sp n m c =>
    show Behind b N X (s.spoil bs n c)
    unfold SM.spoil
    cases es : s.spoilt c with
    | some _ => exact A
    | none =>
      have e : c ≠ b := fun e => A.sp (by rw [← e]; exact es)
      refine ⟨?_, ?_, fun e he => A.ks e (List.mem_filter.mp he).1⟩
      · show (if b = c then _ else s.spoilt b) ≠ _
        rw [if_neg e.symm]; exact A.sp
      · show (s.gone ++ ((s.good.filter fun e => decide (e.1.th.bed = c)).map fun e => e.1.num).reverse).filter _ = _
        rw [List.filter_append, A.gone, gone_nums (fun e he => (A.ks e he).1) e, List.append_nil]
  | pr p =>
    show Behind b N X (if ((s.spoilt p.th.bed).isNone && s.holds p) = true then s.go p else s.void p)
    split
    · rename_i h
      obtain ⟨r1, r2, r3⟩ := go_rest s p
      refine ⟨by rw [r1]; exact A.sp, by rw [r2]; exact A.gone, fun x hx => ?_⟩
      rw [r3] at hx
      rcases List.mem_append.mp hx with hx | hx
      · exact A.ks x hx
      · rw [List.mem_singleton.mp hx]
        refine ⟨⟨hl, fun y hy => moves_bed hy⟩, fun z => A.sp ?_⟩
        rw [Bool.and_eq_true] at h
        have h1 := h.1
        have z : p.th.bed = b := z
        rw [z] at h1
        exact Option.isNone_iff_eq_none.mp h1
    · obtain ⟨r1, r2, r3⟩ := void_rest s p
      exact ⟨by rw [r1]; exact A.sp, by rw [r2]; exact A.gone, by rw [r3]; exact A.ks⟩
theorem Ahead.run : ∀ {ls : List Ln} {s : SM}, (∀ l ∈ ls, LnN b N l ∧ isSp b l = false) → Ahead b N s → Ahead b N (ls.foldl (SM.take bs) s)
  | [], _, _, A => A
  | l :: r, s, h, A => Ahead.run (ls := r) (fun x hx => h x (List.mem_cons_of_mem l hx)) (A.step (h l List.mem_cons_self).1 (h l List.mem_cons_self).2)
theorem Behind.run {X : List Int} : ∀ {ls : List Ln} {s : SM}, (∀ l ∈ ls, LnN b N l) → Behind b N X s → Behind b N X (ls.foldl (SM.take bs) s)
  | [], _, _, A => A
  | l :: r, s, h, A => Behind.run (ls := r) (fun x hx => h x (List.mem_cons_of_mem l hx)) (A.step (h l List.mem_cons_self))
/-- strictly ahead in time -/
def ltB (f l : Ln) : Bool := decide (l.mom < f.mom ∨ (l.mom = f.mom ∧ l.num < f.num))
/-- a list of lines up to the first one of a kind -/
theorem first_split {q : Ln → Bool} {f : Ln} : ∀ {ts : List Ln}, (ts.filter q)[0]? = some f → ∃ pre post, ts = pre ++ f :: post ∧ (∀ l ∈ pre, q l = false) ∧ q f = true
  | [], h => by cases h
  | x :: r, h => by
    rw [List.filter_cons] at h
    cases c : q x with
    | true =>
      rw [c] at h
      have e : x = f := Option.some.inj h
      subst e
      exact ⟨[], r, rfl, nofun, c⟩
    | false =>
      rw [c] at h
      obtain ⟨pre, post, e, h1, h2⟩ := first_split h
      refine ⟨x :: pre, post, by rw [e]; rfl, fun l hl => ?_, h2⟩
      rcases List.mem_cons.mp hl with e | hl
      · rw [e]; exact c
      · exact h1 l hl
theorem undone_end {ls : List Ln} {sn sm : Int} {f : Ln} (nd : ((ls ++ [Ln.sp sn sm b]).map Ln.num).Nodup) (h : ∀ l ∈ ls, LnN b N l) (hf : (inTime ((ls ++ [Ln.sp sn sm b]).filter (isSp b)))[0]? = some f) :
    Behind b N ((SM.run bs (inTime (ls.filter (ltB f)))).good.filter (fun e => decide (e.1.th.bed = b)) |>.map fun e => e.1.num).reverse (SM.run bs (inTime (ls ++ [Ln.sp sn sm b]))) := by
  rw [← inTime_filter nd] at hf
  obtain ⟨pre, post, e, h1, h2⟩ := first_split hf
  have all : ∀ l ∈ inTime (ls ++ [Ln.sp sn sm b]), LnN b N l := fun l hl => by
    rcases List.mem_append.mp ((inTime_perm _).mem_iff.mp hl) with hl | hl
    · exact h l hl
    · rw [List.mem_singleton.mp hl]; trivial
  have so := inTime_sorted (ls ++ [Ln.sp sn sm b])
  have ndt : ((inTime (ls ++ [Ln.sp sn sm b])).map Ln.num).Nodup := ((inTime_perm _).map _).nodup_iff.mpr nd
  rw [e] at so ndt
  have pe : pre = inTime (ls.filter (ltB f)) := by
    have e1 : (inTime (ls ++ [Ln.sp sn sm b])).filter (ltB f) = pre := by
      rw [e, List.filter_append, List.filter_cons]
      obtain ⟨s1, s2, s3⟩ := List.pairwise_append.mp so
      rw [List.map_append, List.map_cons, List.nodup_append] at ndt
      have a1 : pre.filter (ltB f) = pre := all_of fun x hx => by
        have le := s3 x hx f List.mem_cons_self
        have ne := ndt.2.2 x.num (List.mem_map.mpr ⟨x, hx, rfl⟩) f.num List.mem_cons_self
        unfold ltB
        refine decide_eq_true ?_
        unfold lnLe at le
        omega
      have a2 : ltB f f = false := decide_eq_false (by omega)
      have a3 : post.filter (ltB f) = [] := none_of fun x hx => by
        have le := (List.pairwise_cons.mp s2).1 x hx
        unfold ltB
        refine decide_eq_false ?_
        unfold lnLe at le
        omega
      rw [a1, a2, a3, if_neg (by decide), List.append_nil]
    have e2 := inTime_filter nd (ltB f)
    rw [e1, List.filter_append] at e2
    have e3 : [Ln.sp sn sm b].filter (ltB f) = [] := by
      refine none_of fun x hx => ?_
      rw [List.mem_singleton.mp hx]
      cases c : ltB f (.sp sn sm b) with
      | false => rfl
      | true =>
        have m : Ln.sp sn sm b ∈ pre := by
          rw [← e1]
          exact List.mem_filter.mpr ⟨(inTime_perm _).mem_iff.mpr (List.mem_append_right _ (List.mem_singleton.mpr rfl)), c⟩
        have := h1 _ m
        simp [isSp] at this
    rw [e3, List.append_nil] at e2
    exact e2
  rw [← pe]
  show Behind b N _ ((inTime (ls ++ [Ln.sp sn sm b])).foldl (SM.take bs) (SM.begin bs))
  rw [e, List.foldl_append]
  obtain ⟨r1, r2, r3, r4⟩ := begin_rest bs
  have A0 : Ahead b N (SM.begin bs) := ⟨by rw [r1], by rw [r4]; rfl, by rw [r2]; nofun⟩
  rw [e] at all
  have A1 := Ahead.run (bs := bs) (ls := pre) (fun l hl => ⟨all l (List.mem_append_left _ hl), h1 l hl⟩) A0
  cases f with
  | pr p => cases h2
  | sp n m c =>
    have ec : c = b := by simpa [isSp] using h2
    subst ec
    exact Behind.run (ls := post) (fun l hl => all l (List.mem_append_right _ (List.mem_cons_of_mem _ hl))) A1.spoil
end
end Rp

set_option maxRecDepth 100000
set_option maxHeartbeats 4000000
namespace Rp
open PySem PySem.Spec PyProof.Rows L2
theorem lexLt_two (a b c d : Int) : HT.lexLt [a, b] [c, d] = decide (a < c ∨ (a = c ∧ b < d)) := by
  show (if a = c then (if b = d then false else decide (b < d)) else decide (a < c)) = _
  by_cases h1 : a = c
  · rw [if_pos h1]
    by_cases h2 : b = d
    · rw [if_pos h2]; symm; exact decide_eq_false (by omega)
    · rw [if_neg h2]; exact decide_eq_decide.mpr (by omega)
  · rw [if_neg h1]; exact decide_eq_decide.mpr (by omega)
section
variable {P : Program} {w : World} {K : PySem.W.Frag} {mg : Str → Option Value} {base : Heap}
/-- what is undone of the spoilt bed, by the lines ahead of its first spoiling -/
def undoneM (bs : List Bd) (ls : List Ln) (b : Str) (f : Ln) : List Int := ((SM.run bs (inTime (ls.filter (ltB f)))).good.filter (fun e => decide (e.1.th.bed = b)) |>.map fun e => e.1.num).reverse
def sp_l_undone (K : PySem.W.Frag) : Sp := fun vs H Q _ => ∃ (dl rl sa : Addr) (b : Str) (sn sm : Int) (ts as : List Addr) (bs : List Bd) (ls : List Ln), vs = [.ref dl, .ref rl, .ref sa, .str b] ∧ H dl = some (.lst (ts.map V.ref)) ∧ L2R (BdrAt H) ts bs ∧ bs.length ≤ 3 ∧ (∀ b ∈ bs, b.Ok) ∧ (bs.map Bd.name).Nodup ∧
  H rl = some (.lst (as.map V.ref)) ∧ L2R (RwAt K H) as ls ∧ RwAt K H sa (.sp sn sm b) ∧ (∀ l ∈ ls, LnBd l ∧ LnInB bs l) ∧ LnBd (.sp sn sm b) ∧ ((ls ++ [Ln.sp sn sm b]).map Ln.num).Nodup ∧ ls.length ≤ 24 ∧
  ∀ f l H', (inTime ((ls ++ [Ln.sp sn sm b]).filter (isSp b)))[0]? = some f → Same H H' → H l = none → H' l = some (.lst ((undoneM bs ls b f).map V.int)) → Q (.ref l) H'
theorem ok_l_undone (T : Tx K mg) : FnOk P w K mg base CX0 4 (He.ga K "_law_undone") (fdOf K dd_l_undone) ["_law_beds", "_law_rows_here", "_law_spoiling", "_law_bed_here"] (sp_l_undone K) := by
  refine okF T.d_l_undone sc_l_undone (fun vs H Q E h => ?_) (fun cdv A outer s H vs Q E hr h => ?_)
  · obtain ⟨_, _, _, _, _, _, _, _, _, _, rfl, _⟩ := h; rfl
  · obtain ⟨dl, rl, sa, b, sn, sm, ts, as, bs, ls, rfl, hdl, hts, d3, dok, dnd, hrl, has, hsa, lok, sok, nd, len, k⟩ := h
    have hu := hu_of hr
    refine ⟨_, (pss_cons (ps_setLc (i := 4) (own := [("_law_row", 5)]) (g := gName 5) rfl sc_l_undone.nd rfl rfl (sw_true rfl rfl rfl (by decide +kernel)) (pi_list (pe_op op_cat (pv 1) (pe_lst (pa_cons (pv 2) pa_nil)))) (blkOk_by (own := [("_law_row", 5)]) (N := N_l_undone) (sc := defScope s_l_undone) (by decide +kernel)) (fun _ _ _ _ _ => (pg_name (i := 5) sc_l_undone.nd rfl (Or.inl rfl))) (fun _ _ _ _ _ => (pts_one (PW.pt (pw_and (pt_cmpR op_eq (pe_ix (ix_tupK K rfl) (pv 5) pe_int (fun _ _ => rfl)) pe_str (nomark _)) (pw_and1 (pt_cmpR op_eq (pe_ix (ix_tupK K rfl) (pv 5) pe_int (fun _ _ => rfl)) (pv 3) (nomark _))))))) (fun _ _ _ _ _ => (pv 5)))
      (pss_cons (ps_set (i := 6) sc_l_undone.nd rfl (by first | exact Or.inl rfl | exact Or.inr rfl) (pe_ix (ix_listK K rfl) (pe_call (ok_l_in_time T) (hr.mono (by decide)) rfl T.g_l_in_time T.d_l_in_time.kp T.b_l_in_time .nil pass0 (pa_cons (pv 4) pa_nil)) pe_int (fun _ _ => rfl)))
      (pss_cons (ps_set (i := 7) sc_l_undone.nd rfl (by first | exact Or.inl rfl | exact Or.inr rfl) (pe_tup (pa_cons (pe_ix (ix_tupK K rfl) (pv 6) pe_int (fun _ _ => rfl)) (pa_cons (pe_ix (ix_tupK K rfl) (pv 6) pe_int (fun _ _ => rfl)) pa_nil))))
      (pss_cons (ps_set (i := 8) sc_l_undone.nd rfl (by first | exact Or.inl rfl | exact Or.inr rfl) (pe_call (ok_l_led T) (hr.mono (by decide)) rfl T.g_l_led T.d_l_led.kp T.b_l_led .nil pass0 (pa_cons (pv 0) (pa_cons (pe_lc (own := [("_law_row", 5)]) (g := gName 5) rfl sc_l_undone.nd (pi_list (pv 1)) (blkOk_by (own := [("_law_row", 5)]) (N := N_l_undone) (sc := defScope s_l_undone) (by decide +kernel)) (fun _ _ _ _ _ => (pg_name (i := 5) sc_l_undone.nd rfl (Or.inl rfl))) (fun _ _ _ _ _ => (pts_one (pt_cmpR (op_ltTK K rfl hr.units0) (pe_tup (pa_cons (pe_ix (ix_tupK K rfl) (pv 5) pe_int (fun _ _ => rfl)) (pa_cons (pe_ix (ix_tupK K rfl) (pv 5) pe_int (fun _ _ => rfl)) pa_nil))) (pv 7) (nomark _)))) (fun _ _ _ _ _ => (pv 5))) pa_nil))))
      (pss_one (ps_ret (pe_revL (pe_lc (own := [("_law_entry", 9)]) (g := gName 9) rfl sc_l_undone.nd (pi_list (pe_dget hu (pv 8) pe_str (fun _ _ => rfl))) (blkOk_by (own := [("_law_entry", 9)]) (N := N_l_undone) (sc := defScope s_l_undone) (by decide +kernel)) (fun _ _ _ _ _ => (pg_name (i := 9) sc_l_undone.nd rfl (Or.inl rfl))) (fun _ _ _ _ _ => (pts_one (pt_cmpR op_eq (pe_ix (ix_tupK K rfl) (pv 9) pe_int (fun _ _ => rfl)) (pv 3) (nomark _)))) (fun _ _ _ _ _ => (pe_ix (ix_tupK K rfl) (pv 9) pe_int (fun _ _ => rfl))))))))))), ?_⟩
    obtain ⟨all, eall⟩ : ∃ all, all = ls ++ [Ln.sp sn sm b] := ⟨_, rfl⟩
    rw [← eall] at nd k
    have hall : L2R (RwAt K H) (as ++ [sa]) all := by rw [eall]; exact has.snoc hsa
    have alen : all.length = ls.length + 1 := by rw [eall, List.length_append]; rfl
    have aln : as.length = ls.length := has.1
    have allok : ∀ l ∈ all, LnBd l := fun l hl => by
      rw [eall] at hl
      rcases List.mem_append.mp hl with hl | hl
      · exact (lok l hl).1
      · rw [List.mem_singleton.mp hl]; exact sok
    -- the spoilings of the bed
    refine ⟨_, rfl, _, rfl, by show 1 ≤ sizeLine; decide, fun q nq => ?_⟩
    generalize hh : upd H q _ = H1; obtain ⟨s1, hq⟩ := gen_new hh nq; clear hh
    refine ⟨rl, q, _, _, rfl, rfl, s1 _ _ hrl, hq, by rw [List.length_map, aln]; exact Nat.le_trans (m := 30) (by show ls.length + 1 ≤ 30; omega) (by decide), fun p np => ?_⟩
    generalize hh : upd H1 p _ = H2; obtain ⟨s2, hp⟩ := gen_new hh np; clear hh
    have s12 := s1.trans s2
    have hp : H2 p = some (.lst ((as ++ [sa]).map V.ref)) := hp.trans (by rw [List.map_append]; rfl)
    refine ⟨p, rfl, ⟨_, .of hp⟩, fun E nE => ?_⟩
    refine lc_it walk_list (fun i H' => Same H2 H' ∧ ∃ es : List Addr, H' E = some (.lst (es.map V.ref)) ∧ L2R (RwAt K H) es ((all.take i).filter (isSp b)))
      ⟨same_new nE, [], upd_same, .nil⟩ (fun i H' _ z => z.1.seq (.of hp)) ?_ ?_
    · rintro i y H3 H4 hi ⟨s3, es, hE, hes⟩ ⟨rfl, hy⟩
      obtain ⟨a, ha, rfl⟩ := ref_at hy
      obtain ⟨ln, hln, hrw⟩ := hall.left ha
      have hr4 := hrw.same (s12.trans s3)
      have il : i < all.length := (List.getElem?_eq_some_iff.mp hln).1
      have tk : all.take (i + 1) = all.take i ++ [ln] := by rw [List.take_add_one, hln]; rfl
      have no : isSp b ln = false → ((all.take (i + 1)).filter (isSp b)) = ((all.take i).filter (isSp b)) := fun e => by
        rw [tk, List.filter_append]
        have fe : [ln].filter (isSp b) = [] := by simp [e]
        rw [fe, List.append_nil]
      cases ln with
      | pr r =>
        obtain ⟨t, e1, _⟩ := hr4
        refine ⟨rfl, _, rfl, a, _, _, _, rfl, rfl, .of e1, atI_nat (j := 0) rfl, rfl, _, rfl, iteDn (vne kne7) (iteF ⟨s3, es, hE, ?_⟩)⟩
        rw [no rfl]; exact hes
      | sp n m c =>
        have e1 : H4 a = some (.tup [.str "spoil", .int n, .int m, .str c]) := hr4
        refine ⟨rfl, _, rfl, a, _, _, _, rfl, rfl, .of e1, atI_nat (j := 0) rfl, rfl, _, rfl, iteD rfl ⟨_, rfl, a, _, _, _, rfl, rfl, .of e1, atI_nat (j := 3) rfl, _, rfl, rfl, _, rfl, ?_⟩⟩
        by_cases ec : c = b
        · refine iteD (congrArg V.str ec) ⟨_, rfl, _, hE, ?_, same_mut s3 nE, es ++ [a], by rw [upd_same, List.map_append]; rfl, ?_⟩
          · rw [List.length_map, hes.1]
            refine Nat.lt_of_le_of_lt (List.length_filter_le _ _) ?_
            rw [List.length_take]
            exact Nat.lt_of_le_of_lt (m := 30) (by omega) (by decide)
          · rw [tk, List.filter_append]
            have fe : [Ln.sp n m c].filter (isSp b) = [Ln.sp n m c] := by simp [isSp, ec]
            rw [fe]
            exact hes.snoc hrw
        · refine iteDn (vne ec) ⟨s3, es, hE, ?_⟩
          rw [no (by simp [isSp, ec])]; exact hes
    · rintro H3 ⟨s3, es, hE, hes⟩
      have hes : L2R (RwAt K H) es ((all.take ((as ++ [sa]).map V.ref).length).filter (isSp b)) := hes
      rw [List.length_map, hall.1, List.take_length] at hes
      have s13 := s12.trans s3
      have fin : Ln.sp sn sm b ∈ all.filter (isSp b) := List.mem_filter.mpr ⟨by rw [eall]; exact List.mem_append_right _ (List.mem_singleton.mpr rfl), by simp [isSp]⟩
      refine ⟨_, rfl, E, es, all.filter (isSp b), rfl, hE, hes.mono fun _ _ e => e.same s13, fun l hl => allok l (List.mem_filter.mp hl).1, (List.filter_sublist.map _).nodup nd, Nat.le_trans (List.length_filter_le _ _) (by omega), fun l cs H4 s4 nl hl hcs => ?_⟩
      obtain ⟨f, hf⟩ : ∃ f, (inTime (all.filter (isSp b)))[0]? = some f := ⟨_, List.getElem?_eq_getElem (List.length_pos_of_mem ((inTime_perm _).mem_iff.mpr fin))⟩
      obtain ⟨c0, hc0, hf0⟩ := hcs.right hf
      obtain ⟨fx, e0, e1, e2⟩ := hf0.two
      refine ⟨l, _, _, .ref c0, rfl, rfl, .of hl, atI_nat (j := 0) (by rw [List.getElem?_map, hc0]; rfl), ?_⟩
      refine ⟨_, rfl, c0, _, _, _, rfl, rfl, .of e0, atI_nat (j := 2) e2, _, rfl, c0, _, _, _, rfl, rfl, .of e0, atI_nat (j := 1) e1, by show 2 ≤ sizeLine; decide, fun mk nmk => ?_⟩
      generalize hh : upd H4 mk _ = H5; obtain ⟨s5, hmk⟩ := gen_new hh nmk; clear hh
      have hmk : H5 mk = some (.tup ([f.mom, f.num].map V.int)) := hmk
      have s15 := s13.trans (s4.trans s5)
      -- the lines ahead
      refine ⟨_, rfl, _, rfl, rl, rfl, ⟨_, .of (s15 _ _ hrl)⟩, fun G nG => ?_⟩
      refine lc_it walk_list (fun i H' => Same H5 H' ∧ ∃ gs : List Addr, H' G = some (.lst (gs.map V.ref)) ∧ L2R (RwAt K H) gs ((ls.take i).filter (ltB f)))
        ⟨same_new nG, [], upd_same, .nil⟩ (fun i H' _ z => (s15.trans z.1).seq (.of hrl)) ?_ ?_
      · rintro i y H6 H7 hi ⟨s6, gs, hG, hgs⟩ ⟨rfl, hy⟩
        obtain ⟨a, ha, rfl⟩ := ref_at hy
        obtain ⟨ln, hln, hrw⟩ := has.left ha
        obtain ⟨xx, q0, q1, q2⟩ := (hrw.same (s15.trans s6)).two
        have tk : ls.take (i + 1) = ls.take i ++ [ln] := by rw [List.take_add_one, hln]; rfl
        refine ⟨rfl, _, rfl, a, _, _, _, rfl, rfl, .of q0, atI_nat (j := 2) q2, _, rfl, a, _, _, _, rfl, rfl, .of q0, atI_nat (j := 1) q1, by show 2 ≤ sizeLine; decide, fun tt ntt => ?_⟩
        generalize hh : upd H7 tt _ = H8; obtain ⟨s8, htt⟩ := gen_new hh ntt; clear hh
        have htt : H8 tt = some (.tup ([ln.mom, ln.num].map V.int)) := htt
        have s68 := s6.trans s8
        have hG8 := s8 _ _ hG
        refine ⟨_, rfl, tt, mk, _, _, rfl, rfl, .of htt, .of (s68 _ _ hmk), ltB f ln, congrArg V.bl (lexLt_two _ _ _ _), ?_⟩
        cases el : ltB f ln with
        | true =>
          refine iteT ⟨_, rfl, _, hG8, ?_, same_mut s68 nG, gs ++ [a], by rw [upd_same, List.map_append]; rfl, ?_⟩
          · rw [List.length_map, hgs.1]
            refine Nat.lt_of_le_of_lt (List.length_filter_le _ _) ?_
            rw [List.length_take]
            exact Nat.lt_of_le_of_lt (m := 30) (by omega) (by decide)
          · rw [tk, List.filter_append]
            have fe : [ln].filter (ltB f) = [ln] := by simp [el]
            rw [fe]
            exact hgs.snoc hrw
        | false =>
          refine iteF ⟨s68, gs, hG8, ?_⟩
          rw [tk, List.filter_append]
          have fe : [ln].filter (ltB f) = [] := by simp [el]
          rw [fe, List.append_nil]
          exact hgs
      · rintro H6 ⟨s6, gs, hG, hgs⟩
        have hgs : L2R (RwAt K H) gs ((ls.take (as.map V.ref).length).filter (ltB f)) := hgs
        rw [List.length_map, aln, List.take_length] at hgs
        have s16 := s15.trans s6
        have ndl : (ls.map Ln.num).Nodup := by
          rw [eall, List.map_append] at nd
          exact (List.nodup_append.mp nd).1
        refine ⟨dl, G, bs, ts, gs, ls.filter (ltB f), rfl, s16 _ _ hdl, hts.mono fun _ _ e => s16 _ _ e, d3, dok, dnd, hG, hgs.mono fun _ _ e => e.same s16, fun l hl => lok l (List.mem_filter.mp hl).1, (List.filter_sublist.map _).nodup ndl, Nat.le_trans (List.length_filter_le _ _) (by omega), fun d M H7 n W X7 s7 fM n100 => ?_⟩
        -- what holds of the bed
        obtain ⟨E7, eE⟩ : ∃ E7, E7 = SM.run bs (inTime (ls.filter (ltB f))) := ⟨_, rfl⟩
        rw [← eE] at X7
        have gl := X7.gl
        have eg : W.es.length = E7.good.length := X7.ge.1
        refine ⟨_, rfl, _, _, rfl, dgs X7.ob st_good, _, rfl, ⟨_, .of X7.g⟩, fun C nC => ?_⟩
        refine lc_it walk_list (fun i H' => Same H7 H' ∧ H' C = some (.lst (((E7.good.take i).filter (fun e : Pr × List Ky => decide (e.1.th.bed = b))).map fun e => V.int e.1.num)))
          ⟨same_new nC, upd_same⟩ (fun i H' _ z => z.1.seq (.of X7.g)) ?_ ?_
        · rintro i y H8 H9 hi ⟨s8, hC⟩ ⟨rfl, hy⟩
          obtain ⟨e, he, rfl⟩ := ref_at hy
          obtain ⟨en, hen, la, lk, e1, e2, e3, e4⟩ := X7.ge.left he
          have q1 := s8 _ _ (hid_same _ _ e1)
          have tk : E7.good.take (i + 1) = E7.good.take i ++ [en] := by rw [List.take_add_one, hen]; rfl
          refine ⟨rfl, _, rfl, e, _, _, _, rfl, rfl, .of q1, atI_nat (j := 3) rfl, _, rfl, rfl, _, rfl, ?_⟩
          by_cases eb : en.1.th.bed = b
          · refine iteD (congrArg V.str eb) ⟨_, rfl, e, _, _, _, rfl, rfl, .of q1, atI_nat (j := 0) rfl, _, hC, ?_, same_mut s8 nC, ?_⟩
            · rw [List.length_map]
              refine Nat.lt_of_le_of_lt (List.length_filter_le _ _) ?_
              rw [List.length_take]
              refine Nat.lt_of_le_of_lt (Nat.min_le_right _ _) (Nat.lt_of_le_of_lt (m := 1000) (by omega) (by decide))
            · rw [upd_same, tk, List.filter_append, List.map_append]
              simp [eb]
          · refine iteDn (vne eb) ⟨s8, ?_⟩
            rw [tk, List.filter_append, List.map_append]
            simp [eb, hC]
        · rintro H8 ⟨s8, hC⟩
          have hC : H8 C = some (.lst (((E7.good.take (W.es.map V.ref).length).filter (fun e : Pr × List Ky => decide (e.1.th.bed = b))).map fun e => V.int e.1.num)) := hC
          rw [List.length_map, eg, List.take_length] at hC
          refine ⟨C, _, rfl, .of hC, fun l2 nl2 => ?_⟩
          have s18 := s16.trans (s7.trans s8)
          refine k f l2 _ hf (s18.trans (same_new nl2)) (s18.free nl2) ?_
          rw [upd_same]
          unfold undoneM
          rw [← eE, List.map_reverse, List.map_map]
          rfl
end
end Rp


set_option maxRecDepth 100000
set_option maxHeartbeats 4000000
/-! ### != of two lists whose items are equal by ==, their own == with it -/
namespace Rp
open PySem PySem.SeqAt
open AutoSeq1 (wpAny_loadPart')
open MeetsSeq MeetsSeq2 MeetsSeq3 SeqRoads2
section
variable {prog : Program} {w : World} {A : Around} {R : Result → Shared → Prop}
theorem ne_turns (l b : Addr) (N : Nat) (I : Nat → Shared → Prop) (hl : GQ.ListI prog w A (fun e s' => R (.error e) s') l b N I) (fin : ∀ s, I N s → R (.ok (.ret (.bool false))) s) (m : Nat) :
    ∀ i : Nat, N - i = m → i ≤ N → ∀ s, I i s → wpAny (model prog w) A.in1 (Builtin.«list.__eq__.loop» ⟨[.ref l, .ref b, rawInt i, rawInt 3], []⟩) (GQ.FinOf prog w A R) (fun e s' => R (.error e) s') s := by
  induction m with
  | zero =>
    intro i hm hi s h
    obtain ⟨xs, ys, n, n2, gl, gb, zl, zb, _⟩ := hl _ _ h
    have ei : i = N := by omega
    have last : R (.ok (.ret (.bool false))) s := fin s (ei ▸ h)
    obtain ⟨hp, g, d, tk, os⟩ := s
    wp_walk using wpAny_loadPart' gl, wpAny_loadPart' gb
    have no1 : xs[((i : Nat) : Int).toNat]? = none := by simp; omega
    have no2 : ys[((i : Nat) : Int).toNat]? = none := by simp; omega
    rw [no1, no2]
    wp_walk using wpAny_loadPart' gl, wpAny_loadPart' gb
    show R (.ok (.ret (.bool (xs.size != ys.size)))) _
    rw [zl, zb]
    simpa using last
  | succ m ih =>
    intro i hm hi s h
    obtain ⟨xs, ys, n, n2, gl, gb, zl, zb, turn⟩ := hl _ _ h
    have lt1 : i < xs.size := by omega
    have lt2 : i < ys.size := by omega
    have tn := turn lt1 lt2
    obtain ⟨hp, g, d, tk, os⟩ := s
    wp_walk using wpAny_loadPart' gl, wpAny_loadPart' gb
    have so1 : xs[((i : Nat) : Int).toNat]? = some xs[i] := by simp [lt1]
    have so2 : ys[((i : Nat) : Int).toNat]? = some ys[i] := by simp [lt2]
    have ci : ((i : Int) + 1) = ((i + 1 : Nat) : Int) := by omega
    rw [so1, so2]
    refine wpAny_bind (wpAny_mono tn (fun r s2 z => ?_) fun _ _ x => x)
    obtain ⟨er, z⟩ := z
    subst er
    have nxt := ih (i + 1) (by omega) (by omega) s2 z
    obtain ⟨hp2, g2, d2, tk2, os2⟩ := s2
    wp_walk
    rw [ci]
    exact ⟨plainId_quiet plain_eq_loop _, codeAny_builtin entry_eq_loop (by
      rw [Around.under_plainId plain_eq_loop _]
      exact nxt)⟩
theorem ne_whole (l b : Addr) (N : Nat) (I : Nat → Shared → Prop) (hl : GQ.ListI prog w A (fun e s' => R (.error e) s') l b N I) (fin : ∀ s, I N s → R (.ok (.ret (.bool false))) s) {s : Shared} (h : I 0 s) :
    wpAny (model prog w) A.in1 (Builtin.«list.__ne__» ⟨[.ref l, .ref b], []⟩) (GQ.FinOf prog w A R) (fun e s' => R (.error e) s') s := by
  obtain ⟨xs, ys, n, n2, gl, gb, zl, zb, _⟩ := hl _ _ h
  have nxt := ne_turns (A := A) (R := R) l b N I hl fin _ 0 rfl (Nat.zero_le _) s h
  obtain ⟨hp, g, d, tk, os⟩ := s
  have sub := AutoSeq1.sub_list_list
  have same : ¬ (xs.size != ys.size) = true := by simp [zl, zb]
  wp_walk using wpAny_loadPart' gl, wpAny_loadPart' gb
  exact ⟨plainId_quiet plain_eq_loop _, codeAny_builtin entry_eq_loop (by
    rw [Around.under_plainId plain_eq_loop _]
    exact nxt)⟩
end
section
variable {prog : Program} {w : World} {A : Around} {E : Value → Shared → Prop} {s : Shared}
theorem rc_ne {l b : Addr} {N : Nat} {Q : Value → Shared → Prop} (hu : A.units < cLine) (I : Nat → Shared → Prop) (hl : GQ.ListI prog w A E l b N I) (fin : ∀ s, I N s → Q (.bool false) s) (h : I 0 s) : wpAny (model prog w) A (richCompare .NotEq (.ref l) (.ref b)) Q E s := by
  obtain ⟨xs, ys, n, n2, gl, gb, _, _, _⟩ := hl _ _ h
  refine wpAny_richCompare_same_room (op := .NotEq) ⟨_, gl, rfl⟩ ⟨_, gb, rfl⟩ F.slot_list_ne (GQ.call_here F.slot_list_ne ⟨_, gl, rfl⟩ F.entry_list_ne (F.args_list_ne_2 _ _) ?_) hu
  exact ne_whole (R := wants (fun v s' => v ≠ .notImplemented ∧ Q v s') E) l b N I hl (fun s' q => ⟨(fun x => nomatch x), fin s' q⟩) h
end
end Rp
namespace Rp
open PySem PySem.Spec PyProof.Rows L2
section
variable {X : Cx} {n : Nat} {D : Eqv}
def rNeG (D : Eqv) : R2 := fun x y H Q => DList D x y H ∧ ∀ H', Ext H H' → Q (.bl false) H'
theorem op_neG (hD : Mon D) (h : EqG X n D) (hr : Room (n + 1) X.A) : OpR X (compareOp .NotEq) (rNeG D) := by
  intro pins s σ H x y v u Q I rx ry hq
  obtain ⟨⟨a, b, xs, ys, rfl, rfl, ha, hb, p⟩, q⟩ := hq
  cases rx
  cases ry
  show wpAny (model X.prog X.w) X.A (richCompare .NotEq (.ref a) (.ref b)) (EP X pins σ Q) X.xe s
  have sb : Sub X (n + 1) X.A := ⟨hr, rfl⟩
  refine rc_ne (N := xs.length) sb.room.units0 (fun _ s' => LoopI X pins σ H s') (fun i s' q => ?_) (fun s' ⟨H', I', e⟩ => ⟨.bl false, H', I', rfl, q H' e⟩) ⟨H, I, Ext.rfl'⟩
  obtain ⟨H1, I1, e1⟩ := id q
  obtain ⟨z, its, k, r, e⟩ := I1.hok a _ (e1 _ _ ha)
  obtain ⟨z2, its2, k2, r2, e2⟩ := I1.hok b _ (e1 _ _ hb)
  refine ⟨its.toArray, its2.toArray, k, k2, e, e2, by rw [List.size_toArray, ← r.length], by rw [List.size_toArray, ← r2.length, ← p.1], fun h1 h2 => ?_⟩
  exact turnG hD h sb p r r2 i h1 h2 s' q
end
/-! ### what the law asks of two ledgers that came to the like -/
abbrev D0 (K : PySem.W.Frag) : Eqv := fun x y H => DFlat x y H ∨ DIns (A_Part K) (fun a b H => ∃ u, PtAt K H a u ∧ PtAt K H b u) x y H
abbrev D1 (K : PySem.W.Frag) : Eqv := fun x y H => D0 K x y H ∨ (DTup K (D0 K) x y H ∨ DList (D0 K) x y H)
abbrev D2 (K : PySem.W.Frag) : Eqv := fun x y H => DTup K (D1 K) x y H ∨ DList (D1 K) x y H
theorem mon0 {K : PySem.W.Frag} : Mon (D0 K) := mon_flat.or (mon_ins fun a b H H' e ⟨u, h1, h2⟩ => ⟨u, h1.same e, h2.same e⟩)
theorem mon1 {K : PySem.W.Frag} : Mon (D1 K) := mon0.or ((mon_tup mon0).or (mon_list mon0))
theorem mon2 {K : PySem.W.Frag} : Mon (D2 K) := (mon_tup mon1).or (mon_list mon1)
theorem flat_int (i : Int) {H : Hp} : DFlat (.int i) (.int i) H := ⟨rfl, rfl, by simp [eqV]⟩
theorem flat_str (i : Str) {H : Hp} : DFlat (.str i) (.str i) H := ⟨rfl, rfl, by simp [eqV]⟩
theorem flat_opt (o : Option Int) {H : Hp} : DFlat (optV o) (optV o) H := by
  cases o with
  | none => exact ⟨rfl, rfl, rfl⟩
  | some m => exact flat_int m
section
variable {K : PySem.W.Frag} {H : Hp}
theorem prs_ints (zs : List Int) : Prs (D0 K) (zs.map V.int) (zs.map V.int) H := ⟨rfl, fun i x y h1 h2 => by
  rw [h1] at h2
  have e := Option.some.inj h2
  subst e
  rw [List.getElem?_map] at h1
  cases ez : zs[i]? with
  | none => rw [ez] at h1; cases h1
  | some n => rw [ez] at h1; cases h1; exact .inl (flat_int n)⟩
theorem prs_refs {α : Type} {R : Addr → α → Prop} {D : Eqv} {ts us : List Addr} {xs : List α} (h1 : L2R R ts xs) (h2 : L2R R us xs) (r : ∀ a b x, R a x → R b x → D (.ref a) (.ref b) H) : Prs D (ts.map V.ref) (us.map V.ref) H := ⟨by rw [List.length_map, List.length_map, h1.1, h2.1], fun i x y e1 e2 => by
  obtain ⟨a, ha, rfl⟩ := ref_at e1
  obtain ⟨b, hb, rfl⟩ := ref_at e2
  obtain ⟨z, hz, ra⟩ := h1.left ha
  exact r a b z ra (h2.2 i b z hb hz)⟩
theorem ov_eq {v u : V} {x : OV} (hv : OvAt K H v x) (hu : OvAt K H u x) : D2 K v u H := by
  cases x with
  | nums zs =>
    obtain ⟨l, rfl, h1⟩ := hv
    obtain ⟨m, rfl, h2⟩ := hu
    exact .inr ⟨l, m, _, _, rfl, rfl, h1, h2, rfl, fun i x y e1 e2 => .inl ((prs_ints (K := K) (H := H) zs).2 i x y e1 e2)⟩
  | rows zs =>
    obtain ⟨l, ts, rfl, h1, r1⟩ := hv
    obtain ⟨m, us, rfl, h2, r2⟩ := hu
    refine .inr ⟨l, m, _, _, rfl, rfl, h1, h2, prs_refs r1 r2 fun a b x e1 e2 => .inr (.inl ⟨a, b, _, _, rfl, rfl, .of e1, .of e2, ?_⟩)⟩
    exact .cons (.inl (flat_int _)) (.cons (.inl (flat_str _)) (.cons (.inl (flat_opt _)) .nil))
  | hold zs =>
    obtain ⟨l, ts, rfl, h1, r1⟩ := hv
    obtain ⟨m, us, rfl, h2, r2⟩ := hu
    refine .inr ⟨l, m, _, _, rfl, rfl, h1, h2, prs_refs r1 r2 fun a b x ⟨q, e1, p1⟩ ⟨q2, e2, p2⟩ => .inr (.inl ⟨a, b, _, _, rfl, rfl, .of e1, .of e2, ?_⟩)⟩
    obtain ⟨dx, g1⟩ := id p1
    obtain ⟨dy, g2⟩ := id p2
    exact .cons (.inl (flat_str _)) (.cons (.inr ⟨q, q2, dx, dy, _, _, rfl, rfl, g1, g2, x.2, p1, p2⟩) .nil)
  | pair w zs =>
    obtain ⟨t, l, rfl, h1, r1⟩ := hv
    obtain ⟨t2, m, rfl, h2, r2⟩ := hu
    exact .inl ⟨t, t2, _, _, rfl, rfl, .of h1, .of h2, .cons (.inl (.inl (flat_str w))) (.cons (.inr (.inr ⟨l, m, _, _, rfl, rfl, r1, r2, prs_ints zs⟩)) .nil)⟩
theorem ovs_eq {vs us : List V} {xs : List OV} (hv : L2R (OvAt K H) vs xs) (hu : L2R (OvAt K H) us xs) : Prs (D2 K) vs us H := ⟨hv.1.trans hu.1.symm, fun i x y e1 e2 => by
  obtain ⟨z, hz, r⟩ := hv.left e1
  exact ov_eq r (hu.2 i y z e2 hz)⟩
end
section
variable {X : Cx}
theorem eq0 (T : Tx X.K X.mg) : EqG X 1 (D0 X.K) :=
  (eqG_flat.mono (Nat.zero_le _)).or (eqG_ins (CX := CX0) (E := E0) (ok_Part_eq (P := X.prog) (w := X.w) (base := X.base) T) T.m_Part_eq.at_ T.m_Part_eq.fn T.b_Part_eq pass0)
theorem eq1 (T : Tx X.K X.mg) : EqG X (1 + 1) (D1 X.K) := ((eq0 T).mono (Nat.le_succ _)).or ((eqG_tup mon0 (eq0 T)).or (eqG_list mon0 (eq0 T)))
theorem eq2 (T : Tx X.K X.mg) : EqG X (1 + 1 + 1) (D2 X.K) := (eqG_tup mon1 (eq1 T)).or (eqG_list mon1 (eq1 T))
theorem op_neOK (K : PySem.W.Frag) (hK : X.K = K) (mg : Str → Option Value) (hm : X.mg = mg) (T : Tx K mg) (hr : Room (1 + 1 + 1 + 1) X.A) : OpR X (compareOp .NotEq) (rNeG (D2 K)) := by
  subst hK hm
  exact op_neG mon2 (eq2 T) hr
end
end Rp


set_option maxRecDepth 100000
set_option maxHeartbeats 4000000
namespace Rp
open PySem PySem.Spec PyProof.Rows L2
/-! ### the numbers -/
theorem nu24 : ((List.range 24).map nuOf).Nodup := by decide +kernel
theorem nus_nd {n : Nat} (h : n ≤ 24) : ((List.range n).map nuOf).Nodup := by
  have e : List.range n = (List.range 24).take n := by rw [List.take_range, Nat.min_eq_left h]
  rw [e, List.map_take]
  exact (List.take_sublist _ _).nodup nu24
theorem nu_lt (k : Nat) : nuOf k < 900 := by
  have := Int.emod_lt_of_pos ((k : Int) * 37) (b := 101) (by decide)
  unfold nuOf
  omega
/-- the numbers of the lines of other beds -/
def numsOf (b : Str) (ls : List Ln) : List Int := (ls.filter fun l => !decide (l.bed = b)).map Ln.num
theorem numsOf_ok {b : Str} {ls : List Ln} (nd : (ls.map Ln.num).Nodup) : ∀ l ∈ ls, LnN b (fun n => decide (n ∈ numsOf b ls)) l := fun l hl => by
  cases l with
  | sp n m c => trivial
  | pr p =>
    show decide (p.num ∈ numsOf b ls) = !decide (p.th.bed = b)
    by_cases e : p.th.bed = b
    · rw [decide_eq_true e]
      refine decide_eq_false fun m => ?_
      obtain ⟨l', h1, h2⟩ := List.mem_map.mp m
      obtain ⟨h3, h4⟩ := List.mem_filter.mp h1
      have := num_inj nd h3 hl h2
      rw [this] at h4
      have h4 : (!decide (p.th.bed = b)) = true := h4
      rw [decide_eq_true e] at h4
      cases h4
    · rw [decide_eq_false e]
      refine decide_eq_true (List.mem_map.mpr ⟨.pr p, List.mem_filter.mpr ⟨hl, ?_⟩, rfl⟩)
      show (!decide (p.th.bed = b)) = true
      rw [decide_eq_false e]; rfl
/-! ### what is asked of a ledger hangs on the lines of other beds alone -/
def ofT (t : SM) (bs : List Bd) : List OV := [.rows t.voids, .nums t.gone, .nums (t.good.map fun e => e.1.num)] ++ bs.flatMap (ofBed t)
theorem inBed_name {b : Bd} {k : Nat} : (Ky.root b.name k).bed = b.name ∧ (Ky.offs b.name k).bed = b.name := ⟨rfl, rfl⟩
theorem Loc.of {b : Str} {N : List Int} {s t : SM} (L : Loc b (fun n => decide (n ∈ N)) s t) {bs : List Bd} (h : ∀ x ∈ bs, x.name ≠ b) : ofM s bs N = ofT t bs := by
  have e1 : (s.good.map fun e => e.1.num).filter (fun n => decide (n ∈ N)) = t.good.map fun e => e.1.num := by
    rw [← L.good, List.filter_map]
    congr 1
    refine List.filter_congr fun e he => ?_
    exact (L.ks e he).1
  have row : ∀ y : Ky, y.bed ≠ b → rowM s y = rowM t y := fun y hy => by
    unfold rowM
    rw [← L.good, List.filter_filter]
    congr 1
    refine List.filter_congr fun e he => ?_
    by_cases m : y ∈ e.2
    · have : e.1.th.bed ≠ b := by rw [← (L.ks e he).2 y m]; exact hy
      rw [decide_eq_true m, decide_eq_false this]; rfl
    · rw [decide_eq_false m]; rfl
  have pr : ∀ y : Ky, y.bed ≠ b → ofPair s y = ofPair t y := fun y hy => by
    unfold ofPair
    rw [L.held y hy, row y hy]
  have bd : ∀ x ∈ bs, ofBed s x = ofBed t x := fun x hx => by
    unfold ofBed
    rw [L.units _ (h x hx)]
    congr 1
    congr 1
    funext k
    unfold ofPairs
    rw [pr (.root x.name k) (h x hx), pr (.offs x.name k) (h x hx)]
  have fm : bs.flatMap (ofBed s) = bs.flatMap (ofBed t) := by
    clear e1 row pr
    induction bs with
    | nil => rfl
    | cons x r ih =>
      rw [List.flatMap_cons, List.flatMap_cons, bd x List.mem_cons_self, ih (fun y hy => h y (List.mem_cons_of_mem x hy)) fun y hy => bd y (List.mem_cons_of_mem x hy)]
  unfold ofM ofT ofBase
  rw [fm, e1]
  have v := L.voids
  have g := L.gone
  rw [v, g]
/-! ### the words of void ones -/
def VoidW (s : SM) : Prop := ∀ v ∈ s.voids, v.2.1 = "spoiled" ∨ v.2.1 = "clash" ∨ v.2.1 = "never"
theorem lastOf_w (seller : Str) (y : Ky) : ∀ (good : List (Pr × List Ky)) (r : Str × Option Int), (r.1 = "clash" ∨ r.1 = "never") → ((lastOf good seller y r).1 = "clash" ∨ (lastOf good seller y r).1 = "never")
  | [], r, h => h
  | e :: t, r, h => by
    have key : ∀ r' : Str × Option Int, r' = (if (decide (e.1.seller = seller) && decide (y ∈ e.2)) = true then (("clash" : Str), some e.1.num) else r) → (r'.1 = "clash" ∨ r'.1 = "never") := fun r' e => by
      rw [e]
      split
      · exact .inl rfl
      · exact h
    exact lastOf_w seller y t _ (key _ rfl)
theorem VoidW.take {bs : List Bd} {s : SM} (h : VoidW s) (l : Ln) : VoidW (s.take bs l) := by
  cases l with
  | sp n m c =>
    show VoidW (s.spoil bs n c)
    unfold SM.spoil
    cases s.spoilt c <;> exact h
  | pr p =>
    show VoidW (if ((s.spoilt p.th.bed).isNone && s.holds p) = true then s.go p else s.void p)
    split
    · unfold SM.go
      split <;> exact h
    · have key : ∀ row : Int × Str × Option Int, (row.2.1 = "spoiled" ∨ row.2.1 = "clash" ∨ row.2.1 = "never") → VoidW { s with voids := s.voids ++ [row] } := fun row hr v hv => by
        rcases List.mem_append.mp hv with hv | hv
        · exact h v hv
        · rw [List.mem_singleton.mp hv]; exact hr
      unfold SM.void
      split
      · exact key _ (.inl rfl)
      · exact key _ (.inr (lastOf_w _ _ _ _ (.inr rfl)))
theorem VoidW.run {bs : List Bd} : ∀ {ls : List Ln} {s : SM}, VoidW s → VoidW (ls.foldl (SM.take bs) s)
  | [], _, h => h
  | l :: r, _, h => VoidW.run (ls := r) (h.take l)
theorem endOf_w (fb : List (Bd × Addr)) (ls : List Ln) : VoidW (endOf fb ls) := by
  unfold endOf SM.run
  refine VoidW.run ?_
  have : (SM.begin (fb.map (·.1))).voids = [] := (back_rest (bs := fb.map (fun x : Bd × Addr => x.1)) (s := SM.none)).2.2.1
  unfold VoidW
  rw [this]
  nofun
def vdD (x : Int × Str × Option Int) : PyData := .tuple [.int x.1, .str x.2.1, match x.2.2 with | none => .none | some m => .int m]
theorem w_ok4 : PyData.canLay0 (.str "spoiled") = true := by decide +kernel
theorem w_ok5 : PyData.canLay0 (.str "clash") = true := by decide +kernel
theorem w_ok6 : PyData.canLay0 (.str "never") = true := by decide +kernel
theorem vdD_lay {x : Int × Str × Option Int} (h : x.2.1 = "spoiled" ∨ x.2.1 = "clash" ∨ x.2.1 = "never") : (vdD x).canLay0 = true := by
  obtain ⟨n, s, o⟩ := x
  have hs : PyData.canLay0 (.str s) = true := by
    rcases h with h | h | h <;> (have h : s = _ := h; rw [h])
    · exact w_ok4
    · exact w_ok5
    · exact w_ok6
  unfold vdD
  cases o <;> simp only [PyData.canLay0, PyData.canLayAll0] at hs ⊢ <;> simp [hs]
theorem vdD_depth (x : Int × Str × Option Int) : (vdD x).depth ≤ 1 := by
  obtain ⟨n, s, o⟩ := x
  unfold vdD
  cases o <;> simp [PyData.depth, PyData.depthAll]
theorem vds_lay : ∀ {xs : List (Int × Str × Option Int)}, (∀ v ∈ xs, v.2.1 = "spoiled" ∨ v.2.1 = "clash" ∨ v.2.1 = "never") → PyData.canLayAll0 (xs.map vdD) = true
  | [], _ => rfl
  | x :: r, h => by
    rw [List.map_cons]
    simp only [PyData.canLayAll0]
    rw [vdD_lay (h x List.mem_cons_self), vds_lay fun v hv => h v (List.mem_cons_of_mem x hv)]
    rfl
theorem vds_depth : ∀ xs : List (Int × Str × Option Int), PyData.depthAll (xs.map vdD) ≤ 1
  | [] => by simp [PyData.depthAll]
  | x :: r => by
    have h1 := vdD_depth x
    have h2 := vds_depth r
    rw [List.map_cons]
    simp only [PyData.depthAll]
    omega
theorem vds_shaped {xs : List (Int × Str × Option Int)} (h : ∀ v ∈ xs, v.2.1 = "spoiled" ∨ v.2.1 = "clash" ∨ v.2.1 = "never") : SeqAt.shaped (.list (xs.map vdD)) = true := by
  show (PyData.canLay0 (.list (xs.map vdD)) && decide (PyData.depth (.list (xs.map vdD)) ≤ 64)) = true
  rw [Bool.and_eq_true]
  refine ⟨by simp only [PyData.canLay0]; exact vds_lay h, decide_eq_true ?_⟩
  simp only [PyData.depth]
  have := vds_depth xs
  omega
theorem eqv_same {d : PyData} (h : SeqAt.shaped d = true) : PyData.eqv d d = true := by
  have h : (PyData.canLay0 d && decide (PyData.depth d ≤ 64)) = true := h
  rw [Bool.and_eq_true] at h
  exact SeqAt.eqv_refl d h.1
theorem dp_vds {K : PySem.W.Frag} {H : Hp} : ∀ {ts : List Addr} {xs : List (Int × Str × Option Int)}, L2R (VdAt H) ts xs → DpAll K H (ts.map V.ref) (xs.map vdD)
  | [], [], _ => .nil
  | [], _ :: _, h => by cases h.1
  | _ :: _, [], h => by cases h.1
  | t :: ts, x :: xs, h => by
    have h0 : VdAt H t x := h.2 0 t x rfl rfl
    refine .cons (.tup (.of h0) ?_) (dp_vds ⟨Nat.succ.inj h.1, fun i a b h1 h2 => h.2 (i + 1) a b (by simpa using h1) (by simpa using h2)⟩)
    obtain ⟨n, s, o⟩ := x
    cases o with
    | none => exact .cons (.int _) (.cons (.str _) (.cons .non .nil))
    | some m => exact .cons (.int _) (.cons (.str _) (.cons (.int _) .nil))
end Rp

set_option maxRecDepth 100000
set_option maxHeartbeats 4000000
namespace Rp
open PySem PySem.Spec PyProof.Rows L2
theorem RwAt.sameL {K : PySem.W.Frag} {I I' : Hp} {a : Addr} {l : Ln} (h : RwAt K I a l) (s : SameL I I') : RwAt K I' a l := by
  cases l with
  | pr r => obtain ⟨t, e1, e2⟩ := h; exact ⟨t, s.tup e1, e2.sameL s⟩
  | sp n m b => exact s.tup h
/-- the ledgers gs as they stand; H0 as it stood at first -/
structure LawX (K : PySem.W.Frag) (H0 H : Hp) (f : Addr) (fb : List (Bd × Addr)) (gs : List (Addr × List Ln)) : Prop where
  led : ∀ x ∈ gs, LedAt K H x.1 f fb x.2
  led0 : ∀ x ∈ gs, LedAt K H0 x.1 f fb x.2
  nd : (gs.map (·.1)).Nodup
  fr : ∀ c o, c ∉ gs.map (·.1) → H0 c = some o → H c = some o
section
variable {K : PySem.W.Frag} {H0 H H' : Hp} {f : Addr} {fb : List (Bd × Addr)} {gs : List (Addr × List Ln)}
theorem LawX.sl (X : LawX K H0 H f fb gs) : SameL H0 H := fun c o e n => by
  refine X.fr c o (fun m => ?_) e
  obtain ⟨x, hx, rfl⟩ := List.mem_map.mp m
  obtain ⟨dx, kn, cv, hg⟩ := (X.led0 x hx).ob
  rw [hg] at e
  exact n _ _ _ (Option.some.inj e).symm rfl
theorem LawX.grow (X : LawX K H0 H f fb gs) (s : Same H H') : LawX K H0 H' f fb gs :=
  ⟨fun x hx => (X.led x hx).same s, X.led0, X.nd, fun c o n e => s _ _ (X.fr c o n e)⟩
theorem LawX.step (X : LawX K H0 H f fb gs) {x : Addr × List Ln} (hx : x ∈ gs) (L : LedAt K H' x.1 f fb x.2) (fr : ∀ c o, c ≠ x.1 → H c = some o → H' c = some o) : LawX K H0 H' f fb gs := by
  obtain ⟨dx, kn, cv, hg⟩ := (X.led x hx).ob
  refine ⟨fun y hy => ?_, X.led0, X.nd, fun c o n e => fr _ _ (fun z => n (by rw [z]; exact List.mem_map.mpr ⟨x, hx, rfl⟩)) (X.fr c o n e)⟩
  by_cases e : y.1 = x.1
  · have : y = x := nodup_fst X.nd hy hx e
    rw [this]; exact L
  · exact (X.led y hy).keepG hg e fr
/-- lists and tuples of any time stay by a step -/
theorem step_sl {g f : Addr} {ls : List Ln} (L : LedAt K H g f fb ls) (fr : ∀ c o, c ≠ g → H c = some o → H' c = some o) : SameL H H' := fun c o e n => by
  obtain ⟨dx, kn, cv, hg⟩ := L.ob
  refine fr c o (fun z => ?_) e
  rw [z, hg] at e
  exact n _ _ _ (Option.some.inj e).symm rfl
end
theorem dp_intl {K : PySem.W.Frag} {H : Hp} {l : Addr} {zs : List Int} (h : H l = some (.lst (zs.map V.int))) : Dp K H (.ref l) (.list (zs.map PyData.int)) := .lst (.of h) (dp_ints zs)
theorem eqv_ints (zs : List Int) : PyData.eqv (.list (zs.map PyData.int)) (.list (zs.map PyData.int)) = true := eqv_same (ints_shaped zs)
section
variable {P : Program} {w : World} {K : PySem.W.Frag} {mg : Str → Option Value} {base : Heap}
/-- what the last part of the law leans on -/
structure LawP (K : PySem.W.Frag) (H0 : Hp) (f dl rl sa ol nl gl : Addr) (fb : List (Bd × Addr)) (ts as os : List Addr) (bs : List Bd) (ls : List Ln) (b : Str) (sm : Int) (g0 g1 g2 g3 : Addr) : Prop where
  hgl : H0 gl = some (.lst [.ref g0, .ref g1, .ref g2, .ref g3])
  hdl : H0 dl = some (.lst (ts.map V.ref))
  hts : L2R (BdrAt H0) ts bs
  efb : fb.map (·.1) = bs
  b3 : bs.length ≤ 3
  bok : ∀ x ∈ bs, x.Ok
  bnd : (bs.map Bd.name).Nodup
  hrl : H0 rl = some (.lst (as.map V.ref))
  has : L2R (RwAt K H0) as ls
  hsa : RwAt K H0 sa (.sp 900 sm b)
  lok : ∀ l ∈ ls, LnBd l ∧ LnInB bs l ∧ LnOk l
  sok : LnBd (.sp 900 sm b) ∧ LnInB bs (.sp 900 sm b)
  nd : ((ls ++ [Ln.sp 900 sm b]).map Ln.num).Nodup
  len : ls.length ≤ 24
  hol : H0 ol = some (.lst (os.map V.ref))
  hos : L2R (BdrAt H0) os (bs.filter fun x => !decide (x.name = b))
  hnl : H0 nl = some (.lst ((numsOf b ls).map V.int))
abbrev gsOf (g0 g1 g2 g3 : Addr) (ls : List Ln) (b : Str) (sm : Int) : List (Addr × List Ln) := [(g0, ls), (g1, ls ++ [Ln.sp 900 sm b]), (g2, Ln.sp 900 sm b :: ls), (g3, ls.filter fun l => !decide (l.bed = b))]
section
variable {H0 H : Hp} {f dl rl sa ol nl gl : Addr} {fb : List (Bd × Addr)} {ts as os : List Addr} {bs : List Bd} {ls : List Ln} {b : Str} {sm : Int} {g0 g1 g2 g3 : Addr}
theorem LawP.nds (A : LawP K H0 f dl rl sa ol nl gl fb ts as os bs ls b sm g0 g1 g2 g3) : (ls.map Ln.num).Nodup := by
  have := A.nd
  rw [List.map_append] at this
  exact (List.nodup_append.mp this).1
theorem LawP.perm2 : (Ln.sp 900 sm b :: ls).Perm (ls ++ [Ln.sp 900 sm b]) := (List.perm_append_comm (l₁ := [Ln.sp 900 sm b]) (l₂ := ls))
theorem LawP.end2 (A : LawP K H0 f dl rl sa ol nl gl fb ts as os bs ls b sm g0 g1 g2 g3) : endOf fb (Ln.sp 900 sm b :: ls) = endOf fb (ls ++ [Ln.sp 900 sm b]) := by
  unfold endOf
  rw [inTime_congr A.nd LawP.perm2]
/-- what all four ledgers come to, beside the bed -/
def restOf (bs : List Bd) (ls : List Ln) (b : Str) : SM := SM.run bs (inTime (ls.filter fun l => !decide (l.bed = b)))
theorem LawP.loc (A : LawP K H0 f dl rl sa ol nl gl fb ts as os bs ls b sm g0 g1 g2 g3) {x : Addr × List Ln} (hx : x ∈ gsOf g0 g1 g2 g3 ls b sm) : Loc b (fun n => decide (n ∈ numsOf b ls)) (endOf fb x.2) (restOf bs ls b) := by
  have nn := numsOf_ok (b := b) A.nds
  have fs : [Ln.sp 900 sm b].filter (fun l => !decide (l.bed = b)) = [] := by
    refine List.filter_eq_nil_iff.mpr fun l hl => ?_
    rw [List.mem_singleton.mp hl]
    show ¬ (!decide (b = b)) = true
    rw [decide_eq_true rfl]; decide
  have l1 : Loc b (fun n => decide (n ∈ numsOf b ls)) (endOf fb (ls ++ [Ln.sp 900 sm b])) (restOf bs ls b) := by
    have := loc_end (bs := bs) (N := fun n => decide (n ∈ numsOf b ls)) A.nd fun l hl => by
      rcases List.mem_append.mp hl with hl | hl
      · exact nn l hl
      · rw [List.mem_singleton.mp hl]; trivial
    rw [List.filter_append, fs, List.append_nil] at this
    unfold endOf
    rw [A.efb]
    exact this
  simp only [gsOf, List.mem_cons, List.not_mem_nil, or_false] at hx
  rcases hx with rfl | rfl | rfl | rfl
  · have := loc_end (bs := bs) (N := fun n => decide (n ∈ numsOf b ls)) A.nds nn
    show Loc b _ (endOf fb ls) _
    unfold endOf
    rw [A.efb]
    exact this
  · exact l1
  · show Loc b _ (endOf fb (Ln.sp 900 sm b :: ls)) _
    rw [A.end2]
    exact l1
  · have nd3 : ((ls.filter fun l => !decide (l.bed = b)).map Ln.num).Nodup := (List.filter_sublist.map _).nodup A.nds
    have := loc_end (bs := bs) (N := fun n => decide (n ∈ numsOf b ls)) nd3 fun l hl => nn l (List.mem_filter.mp hl).1
    rw [List.filter_filter] at this
    simp only [Bool.and_self] at this
    show Loc b _ (endOf fb (ls.filter fun l => !decide (l.bed = b))) _
    unfold endOf
    rw [A.efb]
    exact this
theorem LawP.ofM (A : LawP K H0 f dl rl sa ol nl gl fb ts as os bs ls b sm g0 g1 g2 g3) {x : Addr × List Ln} (hx : x ∈ gsOf g0 g1 g2 g3 ls b sm) : Rp.ofM (endOf fb x.2) (bs.filter fun x => !decide (x.name = b)) (numsOf b ls) = ofT (restOf bs ls b) (bs.filter fun x => !decide (x.name = b)) :=
  (A.loc hx).of fun y hy => by simpa using (List.mem_filter.mp hy).2
theorem LawP.lines (A : LawP K H0 f dl rl sa ol nl gl fb ts as os bs ls b sm g0 g1 g2 g3) {x : Addr × List Ln} (hx : x ∈ gsOf g0 g1 g2 g3 ls b sm) : (∀ l ∈ x.2, LnInB bs l) ∧ x.2.length ≤ 25 := by
  have len := A.len
  have all : ∀ l ∈ ls, LnInB bs l := fun l hl => (A.lok l hl).2.1
  simp only [gsOf, List.mem_cons, List.not_mem_nil, or_false] at hx
  rcases hx with rfl | rfl | rfl | rfl
  · exact ⟨all, by show ls.length ≤ 25; omega⟩
  · refine ⟨fun l hl => ?_, by show (ls ++ [_]).length ≤ 25; rw [List.length_append]; show ls.length + 1 ≤ 25; omega⟩
    rcases List.mem_append.mp hl with hl | hl
    · exact all l hl
    · rw [List.mem_singleton.mp hl]; exact A.sok.2
  · refine ⟨fun l hl => ?_, by show ls.length + 1 ≤ 25; omega⟩
    rcases List.mem_cons.mp hl with hl | hl
    · rw [hl]; exact A.sok.2
    · exact all l hl
  · exact ⟨fun l hl => all l (List.mem_filter.mp hl).1, Nat.le_trans (List.length_filter_le _ _) (by omega)⟩
theorem LawP.few (A : LawP K H0 f dl rl sa ol nl gl fb ts as os bs ls b sm g0 g1 g2 g3) {x : Addr × List Ln} (hx : x ∈ gsOf g0 g1 g2 g3 ls b sm) : ∀ y ∈ bs.filter (fun x => !decide (x.name = b)), 1 ≤ y.roots ∧ ((endOf fb x.2).units y.name).length < 64 ∧ ∃ z ∈ fb, z.1 = y := fun y hy => by
  have ym := (List.mem_filter.mp hy).1
  obtain ⟨h1, h2⟩ := A.lines hx
  refine ⟨(A.bok y ym).r1, ?_, ?_⟩
  · unfold endOf
    rw [A.efb]
    exact units_few A.bnd A.bok h1 h2 ym
  · rw [← A.efb] at ym
    obtain ⟨z, hz, e⟩ := List.mem_map.mp ym
    exact ⟨z, hz, e⟩
end
end
end Rp

set_option maxRecDepth 100000
set_option maxHeartbeats 8000000
namespace Rp
open PySem PySem.Spec PyProof.Rows L2
section
variable {K : PySem.W.Frag}
abbrev tLB6 (K : PySem.W.Frag) : TS := tRet (tAndV (tOp (rEqD K) (tMeth (He.ga K "Ledger") "voids" (sp_Ledger_voids K) [] E0 (tOp (rIxL K) (tVar 11) (tC (V.int 1))) tNil) (tMeth (He.ga K "Ledger") "voids" (sp_Ledger_voids K) [] E0 (tOp (rIxL K) (tVar 11) (tC (V.int 2))) tNil)) (tOp (rEqD K) (tMeth (He.ga K "Ledger") "hold" (sp_Ledger_hold K) [] E0 (tOp (rIxL K) (tVar 11) (tC (V.int 1))) tNil) (tMeth (He.ga K "Ledger") "hold" (sp_Ledger_hold K) [] E0 (tOp (rIxL K) (tVar 11) (tC (V.int 2))) tNil)))
abbrev tLB5b (K : PySem.W.Frag) : TS := tSeq (tIfS (tTest (tOp (rNeD K) (tLc (iList K (tMeth (He.ga K "Ledger") "undone" (sp_Ledger_undone K) [] E0 (tVar 12) tNil)) (gName 15) (tTest (tOp (rIn K true) (tVar 15) (tVar 10))) (tVar 15) [15]) (tVar 14))) (tRet (tC (V.bl false))) tNext)
  (tIfS (tTest (tOp (rIn K true) (tVar 6) (tMeth (He.ga K "Ledger") "spoiled" (sp_Ledger_spoiled K) [] E0 (tVar 12) tNil))) (tRet (tC (V.bl false))) tNext)
abbrev tLB5 (K : PySem.W.Frag) : TS := tFor (iList K (tSl (rSlL K) (tVar 11) (tPart (tC (V.int 1))) (tPart (tC (V.int 3))))) (gName 12) (tLB5b K)
abbrev tLB3 (K : PySem.W.Frag) : TS := tIfS (tTest (tOp (rNeD K) (tLc (iList K (tVar 11)) (gName 12) (tTest (tOp (rNeG (D2 K)) (tCall (sp_l_of K) [] E0 (tCons (tVar 12) (tCons (tVar 8) (tCons (tVar 10) tNil)))) (tVar 13))) (tVar 12) [12]) (tLst tNil))) (tRet (tC (V.bl false))) tNext
abbrev tLB2 (K : PySem.W.Frag) : TS := tAsg (tCall (sp_l_of K) [] E0 (tCons (tOp (rIxL K) (tVar 11) (tC (V.int 0))) (tCons (tVar 8) (tCons (tVar 10) tNil)))) (gName 13)
abbrev tLB4 (K : PySem.W.Frag) : TS := tAsg (tCall (sp_l_undone K) [] E0 (tCons (tVar 3) (tCons (tVar 5) (tCons (tVar 7) (tCons (tVar 6) tNil))))) (gName 14)
abbrev tLB1 (K : PySem.W.Frag) : TS := tIfS (tTest (tOp (rNeD K) (tLc (iList K (tVar 11)) (gName 12) (tTest (tOp (fun x y H Q => y = V.non ∧ Q (V.bl (decide (x = V.non))) H) (tVar 12) (tC V.non))) (tVar 12) [12]) (tLst tNil))) (tRet (tC (V.bl false))) tNext
abbrev tLB (K : PySem.W.Frag) : TS := tSeq (tLB1 K) (tSeq (tLB2 K) (tSeq (tLB3 K) (tSeq (tLB4 K) (tSeq (tLB5 K) (tLB6 K)))))
variable {H0 H : Hp} {f dl rl sa ol nl gl : Addr} {fb : List (Bd × Addr)} {ts as os : List Addr} {bs : List Bd} {ls : List Ln} {b : Str} {sm : Int} {g0 g1 g2 g3 : Addr}
theorem m0 : (g0, ls) ∈ gsOf g0 g1 g2 g3 ls b sm := by simp
theorem m1 : (g1, ls ++ [Ln.sp 900 sm b]) ∈ gsOf g0 g1 g2 g3 ls b sm := by simp
theorem m2 : (g2, Ln.sp 900 sm b :: ls) ∈ gsOf g0 g1 g2 g3 ls b sm := by simp
theorem nil_ne {K : PySem.W.Frag} {H : Hp} {a c : Addr} (h1 : H a = some (.lst [])) (h2 : H c = some (.lst [])) : ∃ d e, Dp K H (.ref a) d ∧ Dp K H (.ref c) e ∧ SeqAt.shaped d = true ∧ SeqAt.shaped e = true ∧ V.bl (!PyData.eqv d e) = .bl false :=
  ⟨.list [], .list [], .lst (.of h1) .nil, .lst (.of h2) .nil, by decide, by decide, congrArg V.bl (congrArg not (eqv_nil []))⟩
theorem lb6 (A : LawP K H0 f dl rl sa ol nl gl fb ts as os bs ls b sm g0 g1 g2 g3) (X : LawX K H0 H f fb (gsOf g0 g1 g2 g3 ls b sm)) {x0 x1 x2 x3 x4 x5 x6 x7 x8 x9 x10 x12 x13 x14 x15 : Option V} {D : Ends} (k : ∀ H', D.rt (.bl true) H') :
    tLB6 K D [x0, x1, x2, x3, x4, x5, x6, x7, x8, x9, x10, some (.ref gl), x12, x13, x14, x15] H := by
  have hgl := X.sl.lst A.hgl
  obtain ⟨dx1, kn1, cv1, hg1⟩ := (X.led _ m1).ob
  refine ⟨_, rfl, gl, _, _, .ref g1, rfl, rfl, .of hgl, atI_nat (j := 1) rfl, _, _, _, rfl, hg1, lm_Ledger_voids, g1, f, fb, _, rfl, X.led _ m1, fun H1 l1 t1 Q1 n1 hl1 hv1 => ?_⟩
  have X1 := X.step m1 Q1.1 Q1.2
  obtain ⟨dx2, kn2, cv2, hg2⟩ := (X1.led _ m2).ob
  refine ⟨_, rfl, gl, _, _, .ref g2, rfl, rfl, .of (X1.sl.lst A.hgl), atI_nat (j := 2) rfl, _, _, _, rfl, hg2, lm_Ledger_voids, g2, f, fb, _, rfl, X1.led _ m2, fun H2 l2 t2 Q2 n2 hl2 hv2 => ?_⟩
  have X2 := X1.step m2 Q2.1 Q2.2
  have s2 := step_sl (X1.led _ m2) Q2.2
  rw [A.end2] at hv2
  have w := endOf_w fb (ls ++ [Ln.sp 900 sm b])
  refine ⟨_, _, .lst (.of (s2.lst hl1)) (dp_vds (hv1.mono fun _ _ e => s2.tup e)), .lst (.of hl2) (dp_vds hv2), vds_shaped w, vds_shaped w, true, congrArg V.bl (eqv_same (vds_shaped w)), iteT ?_⟩
  obtain ⟨dx3, kn3, cv3, hg3⟩ := (X2.led _ m1).ob
  refine ⟨_, rfl, gl, _, _, .ref g1, rfl, rfl, .of (X2.sl.lst A.hgl), atI_nat (j := 1) rfl, _, _, _, rfl, hg3, lm_Ledger_hold, g1, f, fb, _, rfl, X2.led _ m1, fun H3 l3 Q3 n3 hl3 => ?_⟩
  have X3 := X2.step m1 Q3.1 Q3.2
  obtain ⟨dx4, kn4, cv4, hg4⟩ := (X3.led _ m2).ob
  refine ⟨_, rfl, gl, _, _, .ref g2, rfl, rfl, .of (X3.sl.lst A.hgl), atI_nat (j := 2) rfl, _, _, _, rfl, hg4, lm_Ledger_hold, g2, f, fb, _, rfl, X3.led _ m2, fun H4 l4 Q4 n4 hl4 => ?_⟩
  have s4 := step_sl (X3.led _ m2) Q4.2
  rw [A.end2] at hl4
  have em : ∀ good : List (Pr × List Ky), (good.map fun e => V.int e.1.num) = (good.map fun e => e.1.num).map V.int := fun good => by rw [List.map_map]; rfl
  rw [em] at hl3 hl4
  refine ⟨_, _, dp_intl (s4.lst hl3), dp_intl hl4, ints_shaped _, ints_shaped _, ?_⟩
  rw [eqv_ints]
  exact k H4
theorem lb5 (A : LawP K H0 f dl rl sa ol nl gl fb ts as os bs ls b sm g0 g1 g2 g3) (X : LawX K H0 H f fb (gsOf g0 g1 g2 g3 ls b sm)) {lu : Addr} {us : List Int} (hlu : H lu = some (.lst (us.map V.int)))
    (hus : Behind b (fun n => decide (n ∈ numsOf b ls)) us (endOf fb (ls ++ [Ln.sp 900 sm b]))) {x0 x1 x2 x3 x4 x5 x7 x8 x9 x12 x13 x15 : Option V} {D : Ends}
    (k : ∀ H' y12, LawX K H0 H' f fb (gsOf g0 g1 g2 g3 ls b sm) → D.nx [x0, x1, x2, x3, x4, x5, some (.str b), x7, x8, x9, some (.ref nl), some (.ref gl), y12, x13, some (.ref lu), x15] H') :
    tLB5 K D [x0, x1, x2, x3, x4, x5, some (.str b), x7, x8, x9, some (.ref nl), some (.ref gl), x12, x13, some (.ref lu), x15] H := by
  refine ⟨_, rfl, _, rfl, _, rfl, gl, _, rfl, .of (X.sl.lst A.hgl), fun q nq => ?_⟩
  have ec : cutV [V.ref g0, .ref g1, .ref g2, .ref g3] (some 1) (some 3) = [g1, g2].map V.ref := rfl
  rw [ec]
  generalize hh : upd H q _ = H1; obtain ⟨s1, hq⟩ := gen_new hh nq; clear hh
  refine ⟨q, rfl, ⟨_, .of hq⟩, ?_⟩
  refine for_it walk_list (fun i σ H' => ∃ y12, σ = [x0, x1, x2, x3, x4, x5, some (.str b), x7, x8, x9, some (.ref nl), some (.ref gl), y12, x13, some (.ref lu), x15] ∧ LawX K H0 H' f fb (gsOf g0 g1 g2 g3 ls b sm) ∧ H' q = some (.lst ([g1, g2].map V.ref)) ∧ H' lu = some (.lst (us.map V.int)))
    ⟨_, rfl, X.grow s1, hq, s1 _ _ hlu⟩ (fun i σ H' _ ⟨_, _, _, h, _⟩ => .of h) ?_ ?_
  · rintro i y σ H2 H3 hi ⟨y12, rfl, X2, hq2, hlu2⟩ ⟨rfl, hy⟩
    obtain ⟨g, hg, rfl⟩ := ref_at hy
    obtain ⟨gl2, mem, eend⟩ : ∃ L, (g, L) ∈ gsOf g0 g1 g2 g3 ls b sm ∧ endOf fb L = endOf fb (ls ++ [Ln.sp 900 sm b]) := by
      have gm : g ∈ [g1, g2] := List.mem_of_getElem? hg
      simp only [List.mem_cons, List.not_mem_nil, or_false] at gm
      rcases gm with e | e
      · exact ⟨_, by rw [e]; exact m1, rfl⟩
      · exact ⟨_, by rw [e]; exact m2, A.end2⟩
    have L2 := X2.led _ mem
    obtain ⟨dx, kn, cv, hgo⟩ := L2.ob
    refine ⟨_, rfl, _, _, _, rfl, hgo, lm_Ledger_undone, g, f, fb, gl2, rfl, L2, fun H4 l Q4 nl4 hl4 => ⟨l, rfl, ⟨_, .of hl4⟩, fun E nE => ?_⟩⟩
    have X4 := X2.step mem Q4.1 Q4.2
    have s4 := step_sl L2 Q4.2
    have hnl4 := X4.sl.lst A.hnl
    rw [eend] at hl4
    have few := (gone_few (fb := fb) (ls := ls ++ [Ln.sp 900 sm b]) (A.lines m1).2).1
    obtain ⟨zs, ezs⟩ : ∃ zs, (endOf fb (ls ++ [Ln.sp 900 sm b])).gone = zs := ⟨_, rfl⟩
    rw [ezs] at hl4 few
    refine lc_it walk_list (fun i H' => Same H4 H' ∧ H' E = some (.lst (((zs.take i).filter fun n => !decide (n ∈ numsOf b ls)).map V.int))) ⟨same_new nE, upd_same⟩ (fun i H' _ z => z.1.seq (.of hl4)) ?_ ?_
    · rintro j v H5 H6 hj ⟨s5, hE⟩ ⟨rfl, hv⟩
      rw [List.getElem?_map] at hv
      cases ez : zs[j]? with
      | none => rw [ez] at hv; cases hv
      | some n =>
        rw [ez] at hv
        cases hv
        have tk : zs.take (j + 1) = zs.take j ++ [n] := by rw [List.take_add_one, ez]; rfl
        refine ⟨rfl, _, rfl, _, rfl, nl, _, rfl, .inl (.of (s5 _ _ hnl4)), rfl, flat_ints _, !decide (n ∈ numsOf b ls), congrArg V.bl (congrArg not (inV_int n _)), ?_⟩
        by_cases e : n ∈ numsOf b ls
        · rw [decide_eq_true e]
          refine iteF ⟨s5, ?_⟩
          rw [tk, List.filter_append]
          have fe : ([n].filter fun n => !decide (n ∈ numsOf b ls)) = [] := by simp [e]
          rw [fe, List.append_nil]
          exact hE
        · rw [decide_eq_false e]
          refine iteT ⟨_, rfl, _, hE, ?_, same_mut s5 nE, ?_⟩
          · rw [List.length_map]
            refine Nat.lt_of_le_of_lt (List.length_filter_le _ _) ?_
            rw [List.length_take]
            exact Nat.lt_of_le_of_lt (Nat.min_le_right _ _) (Nat.lt_of_le_of_lt (m := 25) (by omega) (by decide))
          · rw [upd_same, tk, List.filter_append, List.map_append]
            simp [e]
    · rintro H5 ⟨s5, hE⟩
      have hE : H5 E = some (.lst (((zs.take (zs.map V.int).length).filter fun n => !decide (n ∈ numsOf b ls)).map V.int)) := hE
      rw [List.length_map, List.take_length] at hE
      have eg : zs.filter (fun n => !decide (n ∈ numsOf b ls)) = us := by rw [← ezs]; exact hus.gone
      rw [eg] at hE
      have X5 := X4.grow s5
      have hlu5 := s5 _ _ (s4.lst hlu2)
      have hq5 := s5 _ _ (s4.lst hq2)
      refine ⟨_, rfl, _, _, dp_intl hE, dp_intl hlu5, ints_shaped _, ints_shaped _, false, congrArg V.bl (congrArg not (eqv_ints us)), iteF ?_⟩
      have L5 := X5.led _ mem
      obtain ⟨dx5, kn5, cv5, hg5⟩ := L5.ob
      refine ⟨_, rfl, _, rfl, _, _, _, rfl, hg5, lm_Ledger_spoiled, g, f, fb, gl2, rfl, L5, fun H6 l6 ys Q6 n6 hl6 hys => ?_⟩
      have s6 := step_sl L5 Q6.2
      have mem6 : b ∈ ys := (hys b).mpr (by rw [eend]; exact hus.sp)
      refine ⟨l6, _, rfl, .inl (.of hl6), rfl, flat_strs ys, false, congrArg V.bl (congrArg not (inV_str mem6)), iteF ?_⟩
      exact ⟨_, rfl, X5.step mem Q6.1 Q6.2, s6.lst hq5, s6.lst hlu5⟩
  · rintro σ H2 ⟨y12, rfl, X2, _, _⟩
    exact k H2 y12 X2
theorem lb3 (A : LawP K H0 f dl rl sa ol nl gl fb ts as os bs ls b sm g0 g1 g2 g3) (X : LawX K H0 H f fb (gsOf g0 g1 g2 g3 ls b sm)) {p0 : Addr} {vs0 : List V} (hp0 : H p0 = some (.lst vs0)) (ov0 : L2R (OvAt K H) vs0 (ofT (restOf bs ls b) (bs.filter fun x => !decide (x.name = b)))) {x0 x1 x2 x3 x4 x5 x6 x7 x9 x12 x14 x15 : Option V} {D : Ends}
    (k : ∀ H', LawX K H0 H' f fb (gsOf g0 g1 g2 g3 ls b sm) → D.nx [x0, x1, x2, x3, x4, x5, x6, x7, some (.ref ol), x9, some (.ref nl), some (.ref gl), x12, some (.ref p0), x14, x15] H') :
    tLB3 K D [x0, x1, x2, x3, x4, x5, x6, x7, some (.ref ol), x9, some (.ref nl), some (.ref gl), x12, some (.ref p0), x14, x15] H := by
  refine ⟨_, rfl, gl, rfl, ⟨_, .of (X.sl.lst A.hgl)⟩, fun E nE => ?_⟩
  have s1 : Same H (upd H E (.lst [])) := same_new nE
  refine lc_it (walk_list (xs := [g0, g1, g2, g3].map V.ref)) (fun i H' => LawX K H0 H' f fb (gsOf g0 g1 g2 g3 ls b sm) ∧ H' p0 = some (.lst vs0) ∧ L2R (OvAt K H') vs0 (ofT (restOf bs ls b) (bs.filter fun x => !decide (x.name = b))) ∧ H' E = some (.lst []))
    ⟨X.grow s1, s1 _ _ hp0, ov0.mono fun _ _ e => e.same s1, upd_same⟩ (fun i H' _ z => .of (z.1.sl.lst A.hgl)) ?_ ?_
  · rintro i y H2 H3 hi ⟨X2, hp2, ov2, hE2⟩ ⟨rfl, hy⟩
    obtain ⟨g, hg, rfl⟩ := ref_at hy
    obtain ⟨L, mem⟩ : ∃ L, (g, L) ∈ gsOf g0 g1 g2 g3 ls b sm := by
      have gm : g ∈ [g0, g1, g2, g3] := List.mem_of_getElem? hg
      simp only [List.mem_cons, List.not_mem_nil, or_false] at gm
      rcases gm with e | e | e | e
      · exact ⟨ls, by rw [e]; simp⟩
      · exact ⟨ls ++ [Ln.sp 900 sm b], by rw [e]; simp⟩
      · exact ⟨Ln.sp 900 sm b :: ls, by rw [e]; simp⟩
      · exact ⟨ls.filter fun l => !decide (l.bed = b), by rw [e]; simp⟩
    have b3 := A.b3
    refine ⟨rfl, _, rfl, _, rfl, _, rfl, g, ol, nl, f, fb, L, os, _, _, rfl, X2.led _ mem, X2.sl.lst A.hol, A.hos.mono fun _ _ e => X2.sl.tup e, Nat.le_trans (List.length_filter_le _ _) b3, A.few mem, X2.sl.lst A.hnl, fun p vs H4 L4 fr4 np4 hp4 ov4 => ?_⟩
    rw [A.ofM mem] at ov4
    have s4 := step_sl (X2.led _ mem) fr4
    have X4 := X2.step mem L4 fr4
    refine ⟨_, rfl, ⟨p, p0, vs, vs0, rfl, rfl, hp4, s4.lst hp2, ovs_eq ov4 (ov2.mono fun _ _ e => e.sameL s4)⟩, fun H5 e5 => ⟨false, rfl, iteF ?_⟩⟩
    have s5 : Same H4 H5 := e5
    exact ⟨X4.grow s5, s5 _ _ (s4.lst hp2), ov2.mono fun _ _ e => (e.sameL s4).same s5, s5 _ _ (s4.lst hE2)⟩
  · rintro H2 ⟨X2, hp2, ov2, hE2⟩
    refine ⟨by show 0 ≤ sizeLine; decide, fun e ne => ?_⟩
    generalize hh : upd H2 e _ = H3; obtain ⟨s3, he⟩ := gen_new hh ne; clear hh
    obtain ⟨d1, d2, q1, q2, q3, q4, q5⟩ := nil_ne (K := K) (s3 _ _ hE2) he
    exact ⟨d1, d2, q1, q2, q3, q4, false, q5, iteF (k H3 (X2.grow s3))⟩
theorem law_b (A : LawP K H0 f dl rl sa ol nl gl fb ts as os bs ls b sm g0 g1 g2 g3) (X : LawX K H0 H f fb (gsOf g0 g1 g2 g3 ls b sm)) {x0 x1 x2 x9 : Option V} {D : Ends} (k : ∀ H', D.rt (.bl true) H') :
    tLB K D [x0, x1, x2, some (.ref dl), some (.ref f), some (.ref rl), some (.str b), some (.ref sa), some (.ref ol), x9, some (.ref nl), some (.ref gl), none, none, none, none] H := by
  refine ⟨_, rfl, gl, rfl, ⟨_, .of (X.sl.lst A.hgl)⟩, fun E nE => ?_⟩
  have hgl : H gl = some (.lst ([g0, g1, g2, g3].map V.ref)) := X.sl.lst A.hgl
  refine lc_it (walk_list (xs := [g0, g1, g2, g3].map V.ref)) (fun i H' => Same H H' ∧ H' E = some (.lst [])) ⟨same_new nE, upd_same⟩ (fun i H' _ z => z.1.seq (.of hgl)) ?_ ?_
  · rintro i y H2 H3 hi ⟨s2, hE⟩ ⟨rfl, hy⟩
    obtain ⟨g, hg, rfl⟩ := ref_at hy
    exact ⟨rfl, _, rfl, rfl, _, rfl, iteDn (by intro q; cases q) ⟨s2, hE⟩⟩
  · rintro H1 ⟨s1, hE⟩
    refine ⟨by show 0 ≤ sizeLine; decide, fun e ne => ?_⟩
    generalize hh : upd H1 e _ = H2; obtain ⟨s2, he⟩ := gen_new hh ne; clear hh
    obtain ⟨d1, d2, q1, q2, q3, q4, q5⟩ := nil_ne (K := K) (s2 _ _ hE) he
    refine ⟨d1, d2, q1, q2, q3, q4, false, q5, iteF ?_⟩
    have X2 := X.grow (s1.trans s2)
    have b3 := A.b3
    refine ⟨_, rfl, gl, _, _, .ref g0, rfl, rfl, .of (X2.sl.lst A.hgl), atI_nat (j := 0) rfl, _, rfl, _, rfl, g0, ol, nl, f, fb, ls, os, _, _, rfl, X2.led _ m0, X2.sl.lst A.hol, A.hos.mono fun _ _ e => X2.sl.tup e, Nat.le_trans (List.length_filter_le _ _) b3, A.few m0, X2.sl.lst A.hnl, fun p0 vs0 H4 L4 fr4 np4 hp4 ov4 => ?_⟩
    have X4 := X2.step m0 L4 fr4
    have ov4 : L2R (OvAt K H4) vs0 (ofT (restOf bs ls b) (bs.filter fun x => !decide (x.name = b))) := by
      rw [← A.ofM m0]; exact ov4
    refine lb3 A X4 hp4 ov4 fun H5 X5 => ?_
    refine ⟨_, rfl, _, rfl, _, rfl, _, rfl, dl, rl, sa, b, 900, sm, ts, as, bs, ls, rfl, X5.sl.lst A.hdl, A.hts.mono fun _ _ e => X5.sl.tup e, A.b3, A.bok, A.bnd, X5.sl.lst A.hrl, A.has.mono fun _ _ e => e.sameL X5.sl, A.hsa.sameL X5.sl, fun l hl => ⟨(A.lok l hl).1, (A.lok l hl).2.1⟩, A.sok.1, A.nd, A.len, fun fl lu H6 hf s6 nl6 hl6 => ?_⟩
    have hus : Behind b (fun n => decide (n ∈ numsOf b ls)) (undoneM bs ls b fl) (endOf fb (ls ++ [Ln.sp 900 sm b])) := by
      unfold endOf
      rw [A.efb]
      exact undone_end A.nd (numsOf_ok A.nds) hf
    exact lb5 A (X5.grow s6) hl6 hus fun H7 y12 X7 => lb6 A X7 k
end
end Rp


set_option maxRecDepth 100000
set_option maxHeartbeats 8000000
namespace Rp
open PySem PySem.Spec PyProof.Rows L2
/-- the law's data, ahead of its ledgers -/
structure LawF (K : PySem.W.Frag) (H0 : Hp) (f dl rl sa ol nl : Addr) (fb : List (Bd × Addr)) (ts as os : List Addr) (bs : List Bd) (ls : List Ln) (b : Str) (sm : Int) : Prop where
  fld : FieldAt K H0 f fb
  hdl : H0 dl = some (.lst (ts.map V.ref))
  hts : L2R (BdrAt H0) ts bs
  efb : fb.map (·.1) = bs
  b3 : bs.length ≤ 3
  bok : ∀ x ∈ bs, x.Ok
  bnd : (bs.map Bd.name).Nodup
  hrl : H0 rl = some (.lst (as.map V.ref))
  has : L2R (RwAt K H0) as ls
  hsa : RwAt K H0 sa (.sp 900 sm b)
  lok : ∀ l ∈ ls, LnBd l ∧ LnInB bs l ∧ LnOk l
  sok : LnBd (.sp 900 sm b) ∧ LnInB bs (.sp 900 sm b) ∧ LnOk (.sp 900 sm b)
  nd : ((ls ++ [Ln.sp 900 sm b]).map Ln.num).Nodup
  len : ls.length ≤ 24
  hol : H0 ol = some (.lst (os.map V.ref))
  hos : L2R (BdrAt H0) os (bs.filter fun x => !decide (x.name = b))
  hnl : H0 nl = some (.lst ((numsOf b ls).map V.int))
section
variable {K : PySem.W.Frag} {H H' : Hp} {f dl rl sa ol nl : Addr} {fb : List (Bd × Addr)} {ts as os : List Addr} {bs : List Bd} {ls : List Ln} {b : Str} {sm : Int}
theorem LawF.same (F : LawF K H f dl rl sa ol nl fb ts as os bs ls b sm) (s : Same H H') : LawF K H' f dl rl sa ol nl fb ts as os bs ls b sm :=
  ⟨F.fld.same s, s _ _ F.hdl, F.hts.mono fun _ _ e => s _ _ e, F.efb, F.b3, F.bok, F.bnd, s _ _ F.hrl, F.has.mono fun _ _ e => e.same s, F.hsa.same s, F.lok, F.sok, F.nd, F.len, s _ _ F.hol, F.hos.mono fun _ _ e => s _ _ e, s _ _ F.hnl⟩
theorem LawF.toP (F : LawF K H f dl rl sa ol nl fb ts as os bs ls b sm) {gl g0 g1 g2 g3 : Addr} (h : H gl = some (.lst [.ref g0, .ref g1, .ref g2, .ref g3])) : LawP K H f dl rl sa ol nl gl fb ts as os bs ls b sm g0 g1 g2 g3 :=
  ⟨h, F.hdl, F.hts, F.efb, F.b3, F.bok, F.bnd, F.hrl, F.has, F.hsa, F.lok, ⟨F.sok.1, F.sok.2.1⟩, F.nd, F.len, F.hol, F.hos, F.hnl⟩
theorem LawF.nds (F : LawF K H f dl rl sa ol nl fb ts as os bs ls b sm) : (ls.map Ln.num).Nodup := by
  have := F.nd
  rw [List.map_append] at this
  exact (List.nodup_append.mp this).1
theorem LawF.ok0 (F : LawF K H f dl rl sa ol nl fb ts as os bs ls b sm) : ∀ l ∈ ls, LnInB (fb.map (·.1)) l ∧ LnOk l := fun l hl => by rw [F.efb]; exact (F.lok l hl).2
theorem LawF.ok1 (F : LawF K H f dl rl sa ol nl fb ts as os bs ls b sm) : ∀ l ∈ ls ++ [Ln.sp 900 sm b], LnInB (fb.map (·.1)) l ∧ LnOk l := fun l hl => by
  rcases List.mem_append.mp hl with hl | hl
  · exact F.ok0 l hl
  · rw [List.mem_singleton.mp hl, F.efb]; exact F.sok.2
end
theorem led_ne {K : PySem.W.Frag} {H : Hp} {g g' f : Addr} {fb : List (Bd × Addr)} {ls : List Ln} (L : LedAt K H g f fb ls) (n : H g' = none) : g' ≠ g := fun z => by
  obtain ⟨dx, kn, cv, e⟩ := L.ob
  rw [← z, n] at e; cases e
theorem cut_cells (ns : List Int) : ∃ cs : List Int, cutV (ns.map V.int) (some 1) (some 21) = cs.map V.int ∧ cs.length ≤ 20 := by
  refine ⟨(ns.drop (min 1 ns.length)).take (min 21 ns.length - min 1 ns.length), ?_, ?_⟩
  · unfold cutV
    rw [show (some (1 : Int)) = some ((1 : Nat) : Int) from rfl, show (some (21 : Int)) = some ((21 : Nat) : Int) from rfl, sIx_to, sIx_to, List.length_map, List.map_take, List.map_drop]
  · rw [List.length_take]
    omega
abbrev tLA2 (K : PySem.W.Frag) : TS := tSeq (tAsg (tLst (tCons (tCall (sp_l_told K) [] E0 (tCons (tVar 4) (tCons (tVar 5) tNil))) (tCons (tCall (sp_l_told K) [] E0 (tCons (tVar 4) (tCons (tOp rCat (tVar 5) (tLst (tCons (tVar 7) tNil))) tNil))) tNil))) (gName 11))
  (tSeq (tDrop (tBM K "list" rAppend (tVar 11) (tCons (tCall (sp_l_told K) [] E0 (tCons (tVar 4) (tCons (tOp rCat (tLst (tCons (tVar 7) tNil)) (tVar 5)) tNil))) tNil)))
    (tSeq (tDrop (tBM K "list" rAppend (tVar 11) (tCons (tCall (sp_l_told K) [] E0 (tCons (tVar 4) (tCons (tLc (iList K (tVar 5)) (gName 9) (tTest (tOp rNe (tCall (sp_l_bed K) [] E0 (tCons (tVar 9) tNil)) (tVar 6))) (tVar 9) [9]) tNil))) tNil))) (tLB K)))
section
variable {K : PySem.W.Frag} {H : Hp} {f dl rl sa ol nl : Addr} {fb : List (Bd × Addr)} {ts as os : List Addr} {bs : List Bd} {ls : List Ln} {b : Str} {sm : Int}
theorem law_a2 (F : LawF K H f dl rl sa ol nl fb ts as os bs ls b sm) {x0 x1 x2 : Option V} {D : Ends} (k : ∀ H', D.rt (.bl true) H') :
    tLA2 K D [x0, x1, x2, some (.ref dl), some (.ref f), some (.ref rl), some (.str b), some (.ref sa), some (.ref ol), none, some (.ref nl), none, none, none, none, none] H := by
  have len := F.len
  have aln : as.length = ls.length := F.has.1
  have z3 : (30 : Nat) ≤ sizeLine := by decide
  -- the first and the second ledger
  refine ⟨_, rfl, _, rfl, f, rl, fb, as, ls, rfl, F.fld, F.hrl, F.has, F.ok0, F.nds, by omega, fun g0 H1 s1 n0 L0 => ?_⟩
  have F1 := F.same s1
  refine ⟨_, rfl, _, rfl, _, rfl, by show 1 ≤ sizeLine; decide, fun q nq => ?_⟩
  generalize hh : upd H1 q _ = H2; obtain ⟨s2, hq⟩ := gen_new hh nq; clear hh
  refine ⟨rl, q, _, _, rfl, rfl, s2 _ _ F1.hrl, hq, by rw [List.length_map, aln]; show ls.length + 1 ≤ sizeLine; omega, fun q2 nq2 => ?_⟩
  generalize hh : upd H2 q2 _ = H3; obtain ⟨s3, hq2⟩ := gen_new hh nq2; clear hh
  have s13 := s2.trans s3
  have F3 := F1.same s13
  have hq2 : H3 q2 = some (.lst ((as ++ [sa]).map V.ref)) := hq2.trans (by rw [List.map_append]; rfl)
  refine ⟨f, q2, fb, as ++ [sa], ls ++ [Ln.sp 900 sm b], rfl, F3.fld, hq2, F3.has.snoc F3.hsa, F3.ok1, F3.nd, by rw [List.length_append]; show ls.length + 1 ≤ 25; omega, fun g1 H4 s4 n1 L1 => ⟨by show 2 ≤ sizeLine; decide, fun gl ngl => ?_⟩⟩
  have L03 := L0.same s13
  have L04 := L03.same s4
  have F4 := F3.same s4
  have g10 := led_ne L03 n1
  generalize hh : upd H4 gl _ = H5; obtain ⟨s5, hgl⟩ := gen_new hh ngl; clear hh
  -- the third one
  have L05 := L04.same s5
  have L15 := L1.same s5
  have F5 := F4.same s5
  refine ⟨_, rfl, .inl ⟨rfl, _, .of hgl⟩, _, rfl, _, rfl, by show 1 ≤ sizeLine; decide, fun q nq => ?_⟩
  generalize hh : upd H5 q _ = H6; obtain ⟨s6, hq⟩ := gen_new hh nq; clear hh
  refine ⟨_, rfl, q, rl, _, _, rfl, rfl, hq, s6 _ _ F5.hrl, by rw [List.length_map, aln]; show 1 + ls.length ≤ sizeLine; omega, fun q3 nq3 => ?_⟩
  generalize hh : upd H6 q3 _ = H7; obtain ⟨s7, hq3⟩ := gen_new hh nq3; clear hh
  have s57 := s6.trans s7
  have F7 := F5.same s57
  have nd2 : ((Ln.sp 900 sm b :: ls).map Ln.num).Nodup := (LawP.perm2.map Ln.num).nodup_iff.mpr F.nd
  refine ⟨f, q3, fb, sa :: as, Ln.sp 900 sm b :: ls, rfl, F7.fld, hq3, L2R.cons F7.hsa F7.has, fun l hl => F7.ok1 l (LawP.perm2.mem_iff.mp hl), nd2, by show ls.length + 1 ≤ 25; omega, fun g2 H8 s8 n2 L2 => ?_⟩
  have L07 := L05.same s57
  have L17 := L15.same s57
  have g20 := led_ne L07 n2
  have g21 := led_ne L17 n2
  have hgl8 := s8 _ _ (s57 _ _ hgl)
  have L08 := L07.same s8
  have L18 := L17.same s8
  refine ⟨gl, _, _, rfl, rfl, hgl8, by show 2 < sizeLine; decide, ?_⟩
  have odd8 : Odd H8 gl := ⟨g0, _, hgl8, fun xs e => by
    obtain ⟨dx, kn, cv, e2⟩ := L08.ob
    rw [e] at e2; cases e2⟩
  have fr8 : ∀ c o, c ≠ gl → H8 c = some o → upd H8 gl (.lst ([.ref g0, .ref g1] ++ [.ref g2])) c = some o := fun c o n e => by rw [upd_ne n]; exact e
  have s48 : Same H4 (upd H8 gl (.lst ([.ref g0, .ref g1] ++ [.ref g2]))) := same_mut (s5.trans (s57.trans s8)) ngl
  have hgl9 : upd H8 gl (.lst ([.ref g0, .ref g1] ++ [.ref g2])) gl = some (.lst [.ref g0, .ref g1, .ref g2]) := upd_same
  have L09 := L08.other odd8 fr8
  have L19 := L18.other odd8 fr8
  have L29 := L2.other odd8 fr8
  generalize upd H8 gl (.lst ([.ref g0, .ref g1] ++ [.ref g2])) = H9 at s48 hgl9 L09 L19 L29 ⊢
  clear fr8 odd8
  -- the fourth one
  have F9 := F4.same s48
  refine ⟨_, rfl, .inl ⟨rfl, _, .of hgl9⟩, _, rfl, _, rfl, rl, rfl, ⟨_, .of F9.hrl⟩, fun E nE => ?_⟩
  refine lc_it walk_list (fun i H' => Same H9 H' ∧ ∃ es : List Addr, H' E = some (.lst (es.map V.ref)) ∧ L2R (RwAt K H9) es ((ls.take i).filter fun l => !decide (l.bed = b)))
    ⟨same_new nE, [], upd_same, .nil⟩ (fun i H' _ z => z.1.seq (.of F9.hrl)) ?_ ?_
  · rintro i y HA HB hi ⟨sA, es, hE, hes⟩ ⟨rfl, hy⟩
    obtain ⟨a, ha, rfl⟩ := ref_at hy
    obtain ⟨ln, hln, hrw⟩ := F9.has.left ha
    have tk : ls.take (i + 1) = ls.take i ++ [ln] := by rw [List.take_add_one, hln]; rfl
    refine ⟨rfl, _, rfl, a, ln, rfl, hrw.same sA, _, rfl, rfl, _, rfl, ?_⟩
    by_cases e : ln.bed = b
    · refine iteNS (congrArg V.str e) ⟨sA, es, hE, ?_⟩
      rw [tk, List.filter_append]
      have fe : ([ln].filter fun l => !decide (l.bed = b)) = [] := by simp [e]
      rw [fe, List.append_nil]
      exact hes
    · refine iteN (vne e) ⟨_, rfl, _, hE, ?_, same_mut sA nE, es ++ [a], by rw [upd_same, List.map_append]; rfl, ?_⟩
      · rw [List.length_map, hes.1]
        refine Nat.lt_of_le_of_lt (List.length_filter_le _ _) ?_
        rw [List.length_take]
        exact Nat.lt_of_le_of_lt (m := 30) (by omega) (by decide)
      · rw [tk, List.filter_append]
        have fe : ([ln].filter fun l => !decide (l.bed = b)) = [ln] := by simp [e]
        rw [fe]
        exact hes.snoc hrw
  · rintro HA ⟨sA, es, hE, hes⟩
    have hes : L2R (RwAt K H9) es ((ls.take (as.map V.ref).length).filter fun l => !decide (l.bed = b)) := hes
    rw [List.length_map, aln, List.take_length] at hes
    have FA := F9.same sA
    refine ⟨f, E, fb, es, ls.filter fun l => !decide (l.bed = b), rfl, FA.fld, hE, hes.mono fun _ _ e => e.same sA, fun l hl => F.ok0 l (List.mem_filter.mp hl).1, (List.filter_sublist.map _).nodup F.nds, Nat.le_trans (List.length_filter_le _ _) (by omega), fun g3 HB sB n3 L3 => ?_⟩
    have g30 := led_ne (L09.same sA) n3
    have g31 := led_ne (L19.same sA) n3
    have g32 := led_ne (L29.same sA) n3
    have s9B := sA.trans sB
    have hglB := s9B _ _ hgl9
    have L0B := L09.same s9B
    have L1B := L19.same s9B
    have L2B := L29.same s9B
    refine ⟨gl, _, _, rfl, rfl, hglB, by show 3 < sizeLine; decide, ?_⟩
    have oddB : Odd HB gl := ⟨g0, _, hglB, fun xs e => by
      obtain ⟨dx, kn, cv, e2⟩ := L0B.ob
      rw [e] at e2; cases e2⟩
    have frB : ∀ c o, c ≠ gl → HB c = some o → upd HB gl (.lst ([.ref g0, .ref g1, .ref g2] ++ [.ref g3])) c = some o := fun c o n e => by rw [upd_ne n]; exact e
    have s4C : Same H4 (upd HB gl (.lst ([.ref g0, .ref g1, .ref g2] ++ [.ref g3]))) := same_mut (s48.trans s9B) ngl
    have hglC : upd HB gl (.lst ([.ref g0, .ref g1, .ref g2] ++ [.ref g3])) gl = some (.lst [.ref g0, .ref g1, .ref g2, .ref g3]) := upd_same
    have L0C := L0B.other oddB frB
    have L1C := L1B.other oddB frB
    have L2C := L2B.other oddB frB
    have L3C := L3.other oddB frB
    generalize upd HB gl (.lst ([.ref g0, .ref g1, .ref g2] ++ [.ref g3])) = HC at s4C hglC L0C L1C L2C L3C ⊢
    have led : ∀ x ∈ gsOf g0 g1 g2 g3 ls b sm, LedAt K HC x.1 f fb x.2 := fun x hx => by
      simp only [gsOf, List.mem_cons, List.not_mem_nil, or_false] at hx
      rcases hx with rfl | rfl | rfl | rfl
      · exact L0C
      · exact L1C
      · exact L2C
      · exact L3C
    have X : LawX K HC HC f fb (gsOf g0 g1 g2 g3 ls b sm) := ⟨led, led, by
      show [g0, g1, g2, g3].Nodup
      simp only [List.nodup_cons, List.mem_cons, List.not_mem_nil, not_or, or_false, not_false_eq_true, List.nodup_nil, and_true]
      exact ⟨⟨g10.symm, g20.symm, g30.symm⟩, ⟨g21.symm, g31.symm⟩, g32.symm⟩, fun c o _ e => e⟩
    exact law_b ((F4.same s4C).toP hglC) X k
end
end Rp


set_option maxRecDepth 100000
set_option maxHeartbeats 8000000
namespace Rp
open PySem PySem.Spec PyProof.Rows L2
section
variable {P : Program} {w : World} {K : PySem.W.Frag} {mg : Str → Option Value} {base : Heap}
def sp_law (K : PySem.W.Frag) : Sp := fun vs H Q _ => ∃ (a : Addr) (ns : List Int), vs = [.ref a] ∧ SqL K H a (ns.map V.int) ∧ ∀ H', Q (.bl true) H'
theorem ok_law (T : Tx K mg) : FnOk P w K mg base CX0 10 (He.ga K "law") (fdOf K dd_law) ["_law_script"] (sp_law K) := by
  refine okF T.d_law sc_law (fun vs H Q E h => ?_) (fun cdv A outer s H vs Q E hr h => ?_)
  · obtain ⟨_, _, rfl, _⟩ := h; rfl
  · obtain ⟨a, ns, rfl, hS, k⟩ := h
    have hu := hu_of hr
    have hu65 := hu65_of hr
    refine ⟨_, (pss_cons (ps_set (i := 1) sc_law.nd rfl (by first | exact Or.inl rfl | exact Or.inr rfl) (pe_call (ok_l_source T) (hr.mono (by decide)) rfl T.g_l_source T.d_l_source.kp T.b_l_source .nil pass0 (pa_cons (pe_call (ok_l_cell_at T) (hr.mono (by decide)) rfl T.g_l_cell_at T.d_l_cell_at.kp T.b_l_cell_at .nil pass0 (pa_cons (pv 0) (pa_cons pe_int pa_nil))) pa_nil)))
      (pss_cons (ps_asg (pe_call (ok_l_scene T) (hr.mono (by decide)) rfl T.g_l_scene T.d_l_scene.kp T.b_l_scene .nil pass0 (pa_cons (pv 1) (pa_cons pe_int pa_nil))) (pg_tup rfl (pgs_cons (pg_name (i := 2) sc_law.nd rfl (by first | exact Or.inl rfl | exact Or.inr rfl)) (pgs_cons (pg_name (i := 3) sc_law.nd rfl (by first | exact Or.inl rfl | exact Or.inr rfl)) (pgs_cons (pg_name (i := 4) sc_law.nd rfl (by first | exact Or.inl rfl | exact Or.inr rfl)) pgs_nil)))))
      (pss_cons (ps_set (i := 5) sc_law.nd rfl (by first | exact Or.inl rfl | exact Or.inr rfl) (pe_call (ok_l_rows T) (hr.mono (by decide)) rfl T.g_l_rows T.d_l_rows.kp T.b_l_rows .nil pass0 (pa_cons (pv 1) (pa_cons (pe_op op_cat (pe_slice sl_list (pv 0) (po_some pe_int) (po_some pe_int)) (pe_lst (pa_cons pe_int (pa_cons pe_int (pa_cons pe_int (pa_cons pe_int pa_nil)))))) (pa_cons (pv 2) (pa_cons (pv 3) (pa_cons (pe_call (ok_l_things T) (hr.mono (by decide)) rfl T.g_l_things T.d_l_things.kp T.b_l_things .nil pass0 (pa_cons (pv 3) pa_nil)) pa_nil)))))))
      (pss_cons (ps_set (i := 6) sc_law.nd rfl (by first | exact Or.inl rfl | exact Or.inr rfl) (pe_ix (ix_tupK K rfl) (pe_ix (ix_listK K rfl) (pv 3) (pe_call (ok_l_next T) (hr.mono (by decide)) rfl T.g_l_next T.d_l_next.kp T.b_l_next .nil pass0 (pa_cons (pv 1) (pa_cons (pe_callB call_len (by rfl) T.f_len PySem.boot_len (pa_cons (pv 3) pa_nil)) pa_nil))) (fun _ _ => rfl)) pe_int (fun _ _ => rfl)))
      (pss_cons (ps_set (i := 7) sc_law.nd rfl (by first | exact Or.inl rfl | exact Or.inr rfl) (pe_tup (pa_cons pe_str (pa_cons pe_int (pa_cons (pe_op op_mul pe_int (pe_call (ok_l_next T) (hr.mono (by decide)) rfl T.g_l_next T.d_l_next.kp T.b_l_next .nil pass0 (pa_cons (pv 1) (pa_cons (pe_op op_add pe_int (pe_callB call_len (by rfl) T.f_len PySem.boot_len (pa_cons (pv 5) pa_nil))) pa_nil)))) (pa_cons (pv 6) pa_nil))))))
      (pss_cons (ps_set (i := 8) sc_law.nd rfl (by first | exact Or.inl rfl | exact Or.inr rfl) (pe_lc (own := [("_law_row", 9)]) (g := gName 9) rfl sc_law.nd (pi_list (pv 3)) (blkOk_by (own := [("_law_row", 9)]) (N := N_law) (sc := defScope s_law) (by decide +kernel)) (fun _ _ _ _ _ => (pg_name (i := 9) sc_law.nd rfl (Or.inl rfl))) (fun _ _ _ _ _ => (pts_one (pt_cmpR op_ne (pe_ix (ix_tupK K rfl) (pv 9) pe_int (fun _ _ => rfl)) (pv 6) (nomark _)))) (fun _ _ _ _ _ => (pv 9))))
      (pss_cons (ps_set (i := 10) sc_law.nd rfl (by first | exact Or.inl rfl | exact Or.inr rfl) (pe_lc (own := [("_law_row", 9)]) (g := gName 9) rfl sc_law.nd (pi_list (pv 5)) (blkOk_by (own := [("_law_row", 9)]) (N := N_law) (sc := defScope s_law) (by decide +kernel)) (fun _ _ _ _ _ => (pg_name (i := 9) sc_law.nd rfl (Or.inl rfl))) (fun _ _ _ _ _ => (pts_one (pt_cmpR op_ne (pe_call (ok_l_bed T) (hr.mono (by decide)) rfl T.g_l_bed T.d_l_bed.kp T.b_l_bed .nil pass0 (pa_cons (pv 9) pa_nil)) (pv 6) (nomark _)))) (fun _ _ _ _ _ => (pe_ix (ix_tupK K rfl) (pv 9) pe_int (fun _ _ => rfl)))))
      (pss_cons (ps_set (i := 11) sc_law.nd rfl (by first | exact Or.inl rfl | exact Or.inr rfl) (pe_lst (pa_cons (pe_call (ok_l_told T) (hr.mono (by decide)) rfl T.g_l_told T.d_l_told.kp T.b_l_told .nil pass0 (pa_cons (pv 4) (pa_cons (pv 5) pa_nil))) (pa_cons (pe_call (ok_l_told T) (hr.mono (by decide)) rfl T.g_l_told T.d_l_told.kp T.b_l_told .nil pass0 (pa_cons (pv 4) (pa_cons (pe_op op_cat (pv 5) (pe_lst (pa_cons (pv 7) pa_nil))) pa_nil))) pa_nil))))
      (pss_cons (ps_expr (pe_bm PySem.F.plainAttrs_list PySem.F.slot_list_append PySem.F.type_list_append mt_append (pv 11) (pa_cons (pe_call (ok_l_told T) (hr.mono (by decide)) rfl T.g_l_told T.d_l_told.kp T.b_l_told .nil pass0 (pa_cons (pv 4) (pa_cons (pe_op op_cat (pe_lst (pa_cons (pv 7) pa_nil)) (pv 5)) pa_nil))) pa_nil)))
      (pss_cons (ps_expr (pe_bm PySem.F.plainAttrs_list PySem.F.slot_list_append PySem.F.type_list_append mt_append (pv 11) (pa_cons (pe_call (ok_l_told T) (hr.mono (by decide)) rfl T.g_l_told T.d_l_told.kp T.b_l_told .nil pass0 (pa_cons (pv 4) (pa_cons (pe_lc (own := [("_law_row", 9)]) (g := gName 9) rfl sc_law.nd (pi_list (pv 5)) (blkOk_by (own := [("_law_row", 9)]) (N := N_law) (sc := defScope s_law) (by decide +kernel)) (fun _ _ _ _ _ => (pg_name (i := 9) sc_law.nd rfl (Or.inl rfl))) (fun _ _ _ _ _ => (pts_one (pt_cmpR op_ne (pe_call (ok_l_bed T) (hr.mono (by decide)) rfl T.g_l_bed T.d_l_bed.kp T.b_l_bed .nil pass0 (pa_cons (pv 9) pa_nil)) (pv 6) (nomark _)))) (fun _ _ _ _ _ => (pv 9))) pa_nil))) pa_nil)))
      (pss_cons (ps_if (pt_cmpR (op_neDK K rfl hr.units) (pe_lc (own := [("_law_ledger", 12)]) (g := gName 12) rfl sc_law.nd (pi_list (pv 11)) (blkOk_by (own := [("_law_ledger", 12)]) (N := N_law) (sc := defScope s_law) (by decide +kernel)) (fun _ _ _ _ _ => (pg_name (i := 12) sc_law.nd rfl (Or.inl rfl))) (fun _ _ _ _ _ => (pts_one (pt_cmpR op_isN (pv 12) pe_non (nomark _)))) (fun _ _ _ _ _ => (pv 12))) (pe_lst pa_nil) (nomark _)) (pss_one (ps_ret pe_bl)) pss_nil)
      (pss_cons (ps_set (i := 13) sc_law.nd rfl (by first | exact Or.inl rfl | exact Or.inr rfl) (pe_call (ok_l_of T) (hr.mono (by decide)) rfl T.g_l_of T.d_l_of.kp T.b_l_of .nil pass0 (pa_cons (pe_ix (ix_listK K rfl) (pv 11) pe_int (fun _ _ => rfl)) (pa_cons (pv 8) (pa_cons (pv 10) pa_nil)))))
      (pss_cons (ps_if (pt_cmpR (op_neDK K rfl hr.units) (pe_lc (own := [("_law_ledger", 12)]) (g := gName 12) rfl sc_law.nd (pi_list (pv 11)) (blkOk_by (own := [("_law_ledger", 12)]) (N := N_law) (sc := defScope s_law) (by decide +kernel)) (fun _ _ _ _ _ => (pg_name (i := 12) sc_law.nd rfl (Or.inl rfl))) (fun _ _ _ _ _ => (pts_one (pt_cmpR (op_neOK K rfl mg rfl T (hr.mono (by decide))) (pe_call (ok_l_of T) (hr.mono (by decide)) rfl T.g_l_of T.d_l_of.kp T.b_l_of .nil pass0 (pa_cons (pv 12) (pa_cons (pv 8) (pa_cons (pv 10) pa_nil)))) (pv 13) (nomark _)))) (fun _ _ _ _ _ => (pv 12))) (pe_lst pa_nil) (nomark _)) (pss_one (ps_ret pe_bl)) pss_nil)
      (pss_cons (ps_set (i := 14) sc_law.nd rfl (by first | exact Or.inl rfl | exact Or.inr rfl) (pe_call (ok_l_undone T) (hr.mono (by decide)) rfl T.g_l_undone T.d_l_undone.kp T.b_l_undone .nil pass0 (pa_cons (pv 3) (pa_cons (pv 5) (pa_cons (pv 7) (pa_cons (pv 6) pa_nil))))))
      (pss_cons (ps_for PassesOwn.never rfl (pi_list (pe_slice sl_list (pv 11) (po_some pe_int) (po_some pe_int))) (pg_name (i := 12) sc_law.nd rfl (by first | exact Or.inl rfl | exact Or.inr rfl)) (pss_cons (ps_if (pt_cmpR (op_neDK K rfl hr.units) (pe_lc (own := [("_law_number", 15)]) (g := gName 15) rfl sc_law.nd (pi_list (pe_meth0 (pv 12) T.c_Ledger T.m_Ledger_undone (ok_Ledger_undone T) (hr.mono (by decide)) T.b_Ledger_undone .nil pass0)) (blkOk_by (own := [("_law_number", 15)]) (N := N_law) (sc := defScope s_law) (by decide +kernel)) (fun _ _ _ _ _ => (pg_name (i := 15) sc_law.nd rfl (Or.inl rfl))) (fun _ _ _ _ _ => (pts_one (pt_cmpR (op_notInK K rfl) (pv 15) (pv 10) (by rfl)))) (fun _ _ _ _ _ => (pv 15))) (pv 14) (nomark _)) (pss_one (ps_ret pe_bl)) pss_nil)
      (pss_one (ps_if (pt_cmpR (op_notInK K rfl) (pv 6) (pe_meth0 (pv 12) T.c_Ledger T.m_Ledger_spoiled (ok_Ledger_spoiled T) (hr.mono (by decide)) T.b_Ledger_spoiled .nil pass0) (by rfl)) (pss_one (ps_ret pe_bl)) pss_nil))))
      (pss_one (ps_ret (pe_and (pe_cmpR (op_eqDK K rfl hr.units) (pe_meth0 (pe_ix (ix_listK K rfl) (pv 11) pe_int (fun _ _ => rfl)) T.c_Ledger T.m_Ledger_voids (ok_Ledger_voids T) (hr.mono (by decide)) T.b_Ledger_voids .nil pass0) (pe_meth0 (pe_ix (ix_listK K rfl) (pv 11) pe_int (fun _ _ => rfl)) T.c_Ledger T.m_Ledger_voids (ok_Ledger_voids T) (hr.mono (by decide)) T.b_Ledger_voids .nil pass0) (nomark _)) (pe_one (pe_cmpR (op_eqDK K rfl hr.units) (pe_meth0 (pe_ix (ix_listK K rfl) (pv 11) pe_int (fun _ _ => rfl)) T.c_Ledger T.m_Ledger_hold (ok_Ledger_hold T) (hr.mono (by decide)) T.b_Ledger_hold .nil pass0) (pe_meth0 (pe_ix (ix_listK K rfl) (pv 11) pe_int (fun _ _ => rfl)) T.c_Ledger T.m_Ledger_hold (ok_Ledger_hold T) (hr.mono (by decide)) T.b_Ledger_hold .nil pass0) (nomark _))))))))))))))))))))), ?_⟩
    refine ⟨_, rfl, a, ns, 0, rfl, hS, fun cell => ⟨cell, rfl, fun c H1 nc s1 hs1 => ?_⟩⟩
    refine ⟨_, rfl, c, 0, rfl, hs1, by decide, fun t nl dl f nms ts bs fb H2 t2 hs2 ht S => ?_⟩
    refine ⟨t, _, rfl, .of (hid_same _ _ ht), rfl, _, _, rfl, _, _, rfl, _, _, rfl, rfl, ?_⟩
    have s2 : Same H H2 := src_same s1 nc t2
    -- the rows
    refine ⟨_, rfl, _, rfl, _, rfl, _, rfl, a, _, rfl, s2.seq hS, fun q nq => ?_⟩
    obtain ⟨cs, ec, cl⟩ := cut_cells ns
    rw [ec]
    generalize hh : upd H2 q _ = H3; obtain ⟨s3, hq⟩ := gen_new hh nq; clear hh
    refine ⟨by show 4 ≤ sizeLine; decide, fun q2 nq2 => ?_⟩
    generalize hh : upd H3 q2 _ = H4; obtain ⟨s4, hq2⟩ := gen_new hh nq2; clear hh
    refine ⟨q, q2, _, _, rfl, rfl, s4 _ _ hq, hq2, by rw [List.length_map]; exact Nat.le_trans (m := 24) (by show cs.length + 4 ≤ 24; omega) (by decide), fun q3 nq3 => ?_⟩
    generalize hh : upd H4 q3 _ = H5; obtain ⟨s5, hq3⟩ := gen_new hh nq3; clear hh
    have hq3 : H5 q3 = some (.lst ((cs ++ [0, 1, 2, 3]).map V.int)) := hq3.trans (by rw [List.map_append]; rfl)
    have s25 := s3.trans (s4.trans s5)
    have S5 : Scene K H5 nl dl f nms ts bs fb := (S.same (Stp.grow s25).sub).same hid_same
    have hs5 := hs2.same s25
    refine ⟨_, rfl, _, rfl, _, rfl, dl, bs, ts, rfl, S5.hdl, S5.hts, S5.b1, S5.b3, S5.bok, fun tl us ys H6 s6 htl hth y1 y2 yb => ?_⟩
    have S6 := S5.same s6
    have n4 := S.n4
    refine ⟨c, q3, nl, dl, tl, cs ++ [0, 1, 2, 3], nms, ts, us, bs, ys, rfl, s6 _ _ hq3, by rw [List.length_append]; show cs.length + 4 ≤ 24; omega, S6.hnl, by omega, by omega, S6.nd, S6.nm, S6.hdl, S6.hts, S6.b3, S6.bok, S6.bnd, htl, hth, y1, y2, yb, fun rl as ls H7 s7 nrl hrl has nums lok => ?_⟩
    have hs6 := hs5.same s6
    have hs7 := hs6.same s7
    have S7 := S6.same s7
    have rlc : rl ≠ c := by
      obtain ⟨_, e⟩ := hs6.lst
      exact (ne_of_none e nrl).symm
    have len : ls.length ≤ 24 := by
      have := congrArg List.length nums
      rw [List.length_map, List.length_map, List.length_range, List.length_append] at this
      have : ls.length = cs.length + 4 := this
      omega
    have aln : as.length = ls.length := has.1
    -- what the source's turns leave
    have S2c : Scene K (hid [c] H7) nl dl f nms ts bs fb := S.same (Stp.grow (s25.trans (s6.trans s7))).sub
    clear S5 S6 S7
    -- the bed
    have b1 := S.b1
    have b3 := S.b3
    refine ⟨_, rfl, _, rfl, _, rfl, .ref dl, bs.length, rfl, .inl ⟨_, .of (hid_same _ _ S2c.hdl), by rw [List.length_map, S2c.hts.1]⟩, c, 500, bs.length, rfl, hs7, by decide, by omega, by omega, fun r H8 hr8 hs8 t8 => ?_⟩
    have S8 := S2c.same t8.sub
    obtain ⟨bd, hbd⟩ : ∃ bd, bs[r]? = some bd := ⟨_, List.getElem?_eq_getElem hr8⟩
    have bm := List.mem_of_getElem? hbd
    obtain ⟨tb, htb, hbt⟩ := S8.hts.right hbd
    have hbt8 : H8 tb = some (.tup (bdV bd)) := hid_same _ _ hbt
    refine ⟨dl, _, _, .ref tb, rfl, rfl, .of (hid_same _ _ S8.hdl), atI_nat (by rw [List.getElem?_map, htb]; rfl), tb, _, _, .str bd.name, rfl, rfl, .of hbt8, atI_nat (j := 0) rfl, ?_⟩
    -- the spoiling
    have hrl8 := t8.same _ _ (hid_of hrl (by simpa using rlc))
    have has8 : L2R (RwAt K H8) as ls := has.mono fun _ _ e => e.src hs7 t8
    have en : V.int ((1 + ls.length : Nat) : Int) = V.int (1 + (ls.length : Int)) := by rw [show ((1 + ls.length : Nat) : Int) = 1 + (ls.length : Int) by omega]
    refine ⟨_, rfl, _, rfl, .ref rl, ls.length, rfl, .inl ⟨_, .of hrl8, by rw [List.length_map, aln]⟩, _, _, rfl, rfl, c, 501, 1 + ls.length, by rw [en]; rfl, hs8, by decide, by omega, by omega, fun m H9 hm hs9 t9 => ⟨_, _, rfl, rfl, .inl ⟨by decide, by decide⟩, _, rfl, by show 4 ≤ sizeLine; decide, fun sa nsa => ?_⟩⟩
    have S9 := S8.same t9.sub
    have hrl9 := t9.same _ _ (hid_of hrl8 (by simpa using rlc))
    have has9 : L2R (RwAt K H9) as ls := has8.mono fun _ _ e => e.src hs8 t9
    generalize hh : upd H9 sa _ = HA; obtain ⟨sA, hsa⟩ := gen_new hh nsa; clear hh
    have SA : Scene K HA nl dl f nms ts bs fb := (S9.same (Stp.grow sA).sub).same hid_same
    have hrlA := sA _ _ hrl9
    have hasA : L2R (RwAt K HA) as ls := has9.mono fun _ _ e => e.same sA
    have hsaA : RwAt K HA sa (.sp 900 (3 * (m : Int)) bd.name) := hsa
    clear S S2c S8 S9 has has8 has9 hrl hrl8 hrl9 hsa hbt hbt8
    -- the other beds
    refine ⟨_, rfl, dl, rfl, ⟨_, .of SA.hdl⟩, fun E nE => ?_⟩
    refine lc_it walk_list (fun i H' => Same HA H' ∧ ∃ es : List Addr, H' E = some (.lst (es.map V.ref)) ∧ L2R (BdrAt HA) es ((bs.take i).filter fun x => !decide (x.name = bd.name)))
      ⟨same_new nE, [], upd_same, .nil⟩ (fun i H' _ z => z.1.seq (.of SA.hdl)) ?_ ?_
    · rintro i y HB HC hi ⟨sB, es, hE, hes⟩ ⟨rfl, hy⟩
      obtain ⟨x, hx, rfl⟩ := ref_at hy
      obtain ⟨b2, hb2, hb2t⟩ := SA.hts.left hx
      have q1 : HC x = some (.tup (bdV b2)) := sB _ _ hb2t
      have il : i < bs.length := (List.getElem?_eq_some_iff.mp hb2).1
      have tk : bs.take (i + 1) = bs.take i ++ [b2] := by rw [List.take_add_one, hb2]; rfl
      refine ⟨rfl, _, rfl, x, _, _, _, rfl, rfl, .of q1, atI_nat (j := 0) rfl, _, rfl, rfl, _, rfl, ?_⟩
      by_cases e : b2.name = bd.name
      · refine iteNS (congrArg V.str e) ⟨sB, es, hE, ?_⟩
        rw [tk, List.filter_append]
        have fe : ([b2].filter fun x => !decide (x.name = bd.name)) = [] := by simp [e]
        rw [fe, List.append_nil]
        exact hes
      · refine iteN (vne e) ⟨_, rfl, _, hE, ?_, same_mut sB nE, es ++ [x], by rw [upd_same, List.map_append]; rfl, ?_⟩
        · rw [List.length_map, hes.1]
          refine Nat.lt_of_le_of_lt (List.length_filter_le _ _) ?_
          rw [List.length_take]
          exact Nat.lt_of_le_of_lt (m := 30) (by omega) (by decide)
        · rw [tk, List.filter_append]
          have fe : ([b2].filter fun x => !decide (x.name = bd.name)) = [b2] := by simp [e]
          rw [fe]
          exact hes.snoc hb2t
    · rintro HB ⟨sB, os, hE, hos⟩
      have hos : L2R (BdrAt HA) os ((bs.take (ts.map V.ref).length).filter fun x => !decide (x.name = bd.name)) := hos
      rw [List.length_map, SA.hts.1, List.take_length] at hos
      -- the numbers
      refine ⟨_, rfl, rl, rfl, ⟨_, .of (sB _ _ hrlA)⟩, fun G nG => ?_⟩
      refine lc_it walk_list (fun i H' => Same HB H' ∧ H' G = some (.lst ((numsOf bd.name (ls.take i)).map V.int)))
        ⟨same_new nG, upd_same⟩ (fun i H' _ z => (sB.trans z.1).seq (.of hrlA)) ?_ ?_
      · rintro i y HC HD hi ⟨sC, hG⟩ ⟨rfl, hy⟩
        obtain ⟨x, hx, rfl⟩ := ref_at hy
        obtain ⟨ln, hln, hrw⟩ := hasA.left hx
        have hr1 := hrw.same (sB.trans sC)
        obtain ⟨xx, q0, q1, _⟩ := hr1.two
        have tk : ls.take (i + 1) = ls.take i ++ [ln] := by rw [List.take_add_one, hln]; rfl
        have il : i < ls.length := (List.getElem?_eq_some_iff.mp hln).1
        refine ⟨rfl, _, rfl, x, ln, rfl, hr1, _, rfl, rfl, _, rfl, ?_⟩
        by_cases e : ln.bed = bd.name
        · refine iteNS (congrArg V.str e) ⟨sC, ?_⟩
          have : numsOf bd.name (ls.take (i + 1)) = numsOf bd.name (ls.take i) := by
            unfold numsOf
            rw [tk, List.filter_append]
            have fe : ([ln].filter fun l => !decide (l.bed = bd.name)) = [] := by simp [e]
            rw [fe, List.append_nil]
          rw [this]; exact hG
        · refine iteN (vne e) ⟨_, rfl, x, _, _, _, rfl, rfl, .of q0, atI_nat (j := 1) q1, _, hG, ?_, same_mut sC nG, ?_⟩
          · rw [List.length_map]
            unfold numsOf
            rw [List.length_map]
            refine Nat.lt_of_le_of_lt (List.length_filter_le _ _) ?_
            rw [List.length_take]
            exact Nat.lt_of_le_of_lt (m := 30) (by omega) (by decide)
          · have : numsOf bd.name (ls.take (i + 1)) = numsOf bd.name (ls.take i) ++ [ln.num] := by
              unfold numsOf
              rw [tk, List.filter_append]
              have fe : ([ln].filter fun l => !decide (l.bed = bd.name)) = [ln] := by simp [e]
              rw [fe, List.map_append]; rfl
            rw [upd_same, this, List.map_append]; rfl
      · rintro HC ⟨sC, hG⟩
        have hG : HC G = some (.lst ((numsOf bd.name (ls.take (as.map V.ref).length)).map V.int)) := hG
        rw [List.length_map, aln, List.take_length] at hG
        have sAC := sB.trans sC
        have SC := SA.same sAC
        have ndl : (ls.map Ln.num).Nodup := by
          rw [nums]
          exact nus_nd (by rw [List.length_append]; show cs.length + 4 ≤ 24; omega)
        have F : LawF K HC f dl rl sa E G fb ts as os bs ls bd.name (3 * (m : Int)) := by
          refine ⟨SC.fld, SC.hdl, SC.hts, SC.efb, SC.b3, SC.bok, SC.bnd, sAC _ _ hrlA, hasA.mono fun _ _ e => e.same sAC, hsaA.same sAC, fun l hl => lok l hl, ⟨⟨?_, ?_, ?_, ?_⟩, ⟨bd, bm, rfl⟩, ?_, ?_, (SC.bok bd bm).nm⟩, ?_, len, sC _ _ hE, hos.mono fun _ _ e => sAC _ _ e, hG⟩
          · show (0 : Int) ≤ 3 * (m : Int); omega
          · show 3 * (m : Int) < 1000; omega
          · show (0 : Int) ≤ 900; decide
          · show (900 : Int) < 1000; decide
          · show (1 : Int) ≤ 900; decide
          · show (0 : Int) ≤ 3 * (m : Int); omega
          · rw [List.map_append]
            refine List.nodup_append.mpr ⟨ndl, by simp, fun x hx y hy => ?_⟩
            rw [nums] at hx
            obtain ⟨kk, _, rfl⟩ := List.mem_map.mp hx
            have : y = 900 := List.mem_singleton.mp hy
            rw [this]
            have := nu_lt kk
            omega
        exact law_a2 F k
end
end Rp


set_option maxRecDepth 100000
set_option maxHeartbeats 0
namespace Rp
open PySem PySem.Spec PyProof.Rows L2
/-! ### the run -/
abbrev R : PySem.W.OpenRow := PySem.W.OpenLaw.row PySem.Challenge.rw_rootpledge_k82_whole_a_spoilt_bed_alone
def as0 : List Addr := [3, 176, 177, 183, 184, 190, 191, 195, 196, 202, 203, 211, 217, 218, 224, 225, 241, 242, 252, 253, 259, 260, 266, 267, 268, 274, 275, 279, 280, 293, 294, 296, 297, 307, 308, 316]
def as1 : List Addr := [322, 323, 325, 326, 336, 337, 341, 342, 346, 347, 358, 359, 379, 380, 386, 387, 396, 397, 402, 408, 409, 415, 416, 422, 423, 429, 430, 436, 437, 445, 451, 452, 473, 474, 491, 492]
def as2 : List Addr := [508, 509, 533, 534, 540, 541, 547, 548, 561, 562, 568, 569, 575, 576, 582, 583, 589, 590, 596, 597, 601, 602, 608, 609, 611, 612, 629, 630, 643, 644, 650, 651, 657, 658, 664, 665]
def as3 : List Addr := [671, 672, 678, 679, 683, 684, 690, 691, 697, 698, 704, 705, 709, 710, 714, 715, 717, 718, 728, 729, 735, 736, 742, 743, 749, 750, 756, 757, 763, 764, 768, 769, 775, 776, 782, 783]
def as4 : List Addr := [787, 788, 794, 795, 801, 802, 808, 809, 813, 814, 818, 819, 825, 826, 830, 831, 837, 838, 844, 845, 851, 852, 865, 866, 872, 873, 877, 878, 882, 883, 887, 888]
def as_ : List Addr := as0 ++ (as1 ++ (as2 ++ (as3 ++ as4)))
def look (g : Addr → Option Obj) : He.AlD × Bool := (He.obsD fa fn (He.frG g as_), ex (He.frG g as_))
def hk : PySem.W.Hook where
  α := He.AlD × Bool
  obs := fun s => look s.heap.get?
  val := fun _ => (He.valD fn, true)
  says := fun _ h => ∃ K : PySem.W.Frag, K.In h ∧ He.SaysD fa fn K ∧ ex K = true
  of := fun _ _ e => ⟨_, He.frG_in, congrArg Prod.fst e, congrArg Prod.snd e⟩
  keeps := fun _ _ _ ⟨K, hK, c⟩ k => ⟨K, PySem.W.Frag.In.keeps hK k, c⟩
def ob (s : PySem.W.SharedT) : He.AlD × Bool := look (HandSHeadRun.getT s)
theorem ob_eq (s : PySem.W.SharedT) : ob s = hk.obs s.abs := by
  have e : HandSHeadRun.getT s = s.abs.heap.get? := funext (HandSHeadRun.getT_eq s)
  unfold ob
  rw [e]
  rfl
def loose0 : List Str := ["_wall", "RootError", "NoPart", "NoBreed", "NoBed", "NoField", "NotThere", "NoPromise", "NoLine", "Taken", "TooMany", "LETTERS", "MOST_LETTERS", "is_whole", "is_between", "is_from", "is_name", "common", "Part", "plus", "minus", "less", "MOST_GRADES", "MOST_LEAST", "MOST_HUNDREDTHS", "MOST_BEDS", "MOST_ROOTS", "MOST_GUESS", "MOST_OFFSETS", "KINDS"]
def loose1 : List Str := ["is_grade", "are_grades", "Breed", "first_wrong", "Bed", "are_unlike", "are_breeds", "are_beds", "Field", "MOST_SUM", "MOST_BOTTOM", "RULES", "is_thing", "has", "is_rule", "goes_with", "is_going", "Promise", "Spoiling", "thing_words", "words_of", "is_line", "when", "in_time", "MOST_LINES", "Standing", "Ledger", "_law_cell_at", "_law_source", "_law_next"]
def loose2 : List Str := ["_law_names", "_law_breed_rows", "_law_bed_rows", "_law_field", "_law_made", "_law_things", "_law_in_time", "_law_back", "_law_begin", "_law_keys", "_law_promised", "_law_spoiled", "_law_led", "_law_likely", "_law_row_of", "_law_scene", "_law_rows", "_law_turned", "_law_told", "_law_bed", "_law_of", "_law_undone"]
def loose : List Str := loose0 ++ (loose1 ++ loose2)
theorem run (w : World) : HandSHeadRun.RunEq R (PySem.W.view R.prog [88]) hk ob 7000 loose w := by
  intro os
  kernel_rfl
end Rp

set_option maxRecDepth 100000
set_option maxHeartbeats 0
namespace Rp
open PySem PySem.Spec PyProof.Rows L2
theorem facts {P : Program} {w : World} {K : PySem.W.Frag} {h : Heap} {mg : Str → Option Value} {f : Addr} (X : K.In h) (G : h.Ns mainGlobals mg) (hfa : mg ("law" : Str) = some (.ref f)) (c : He.SaysD fa fn K) (e : ex K = true) :
    ∃ fd : FuncData, (∀ (s : Shared) (v : Value), BindsTo s fd ⟨[v], []⟩ [("_law_script", v)]) ∧ ∀ base : Heap, K.In base → base.Ns mainGlobals mg → FnOk P w K mg base CX0 10 f fd ["_law_script"] (sp_law K) := by
  have T : Tx K mg := ⟨⟨h, X, G⟩, c, e⟩
  have q := hfa.symm.trans T.g_law
  cases q
  have b := FunD.bindsA (ps := ["_law_script"]) T.d_law fun _ _ _ _ _ _ us hl => match us, hl with | [_], _ => rfl
  exact ⟨fdOf K dd_law, fun s v => b s [v] rfl, fun base _ _ => ok_law T⟩
end Rp
open PySem PySem.W PySem.Calls PyProof.Rows
theorem PySem.Challenge.cw_rootpledge_k82_whole_a_spoilt_bed_alone_holds : PySem.Challenge.rw_rootpledge_k82_whole_a_spoilt_bed_alone.Holds := by
  w_on; o_law
  refine HandSHeadRun.head_any (r := OpenLaw.row PySem.Challenge.rw_rootpledge_k82_whole_a_spoilt_bed_alone) (q := view (OpenLaw.row PySem.Challenge.rw_rootpledge_k82_whole_a_spoilt_bed_alone).prog [88]) (H := Rp.hk) (ob := Rp.ob) (M := 7000) (loose := Rp.loose) (d := HandSHeadRun.topDef (OpenLaw.row PySem.Challenge.rw_rootpledge_k82_whole_a_spoilt_bed_alone).prog 88) (kwd := []) Rp.ob_eq
    (by kernel_rfl) (fun s => by kernel_rfl) Rp.run (by kernel_rfl) (by kernel_rfl) (by kernel_rfl) (by rfl) (by first | assumption | decide +kernel) (by decide +kernel) ⟨rfl, rfl, rfl, rfl, rfl, by decide +kernel⟩ ?hw ?hc
  case hw => w_witness2
  case hc =>
    refine L2.walk_ofE (l := PySem.Challenge.rw_rootpledge_k82_whole_a_spoilt_bed_alone) (n := 63) (k := 10) (x := "_law_script") (CX := L2.CX0) rfl (by decide) (by kernel_rfl) ⟨rfl, by decide, by decide⟩ ?F (fun _ _ _ _ z => z)
    intro w mg fa h Y G hmg0
    obtain ⟨K, KX, c, e⟩ := Y
    have hmg : mg ("law" : PySem.Str) = some (.ref fa) := by
      have e : (HandSHeadRun.topDef (OpenLaw.row PySem.Challenge.rw_rootpledge_k82_whole_a_spoilt_bed_alone).prog 88).name = ("law" : PySem.Str) := by kernel_rfl
      rw [← e]
      exact hmg0
    obtain ⟨fd, hb, hF⟩ := Rp.facts (P := (PySem.Challenge.rw_rootpledge_k82_whole_a_spoilt_bed_alone).prog) (w := w) KX G hmg c e
    exact ⟨K, fd, Rp.sp_law K, KX, hb, fun H a ns hl _ hS => ⟨a, ns, rfl, hS, fun _ => rfl⟩, hF⟩
