import PyProof.Rows.All
import Wide.All
import OpenK.AllK
import Wide.FinOn
import HandS.Words
import HandS.HeadHook2
import KE.KStateDown
import HandS.Ends
import HandS.More
import HandS.WordsExc
import HandS.Defaults
import HandS.Head0
import HandS.Head1
import HandS.Head2
import HandS.HeadEnd
import HandS.HeadHook1
import HandS.HeadHook3
import HandS.ExcField
import HandS.ExcInit
import KE.KSuper
import KE.KExcSuper
import HandS.ForMost
import HandS.Exc
import HandS.Conv
import HandS.TupAny
import HandS.IsInst
import HandS.Style
import HandS.Wide
import HandS.Walk
import HandS.Zip
import KE.GoesEnum
import HandS.Iter
import HandS.SetFor
import HandS.DictComp
import HandS.CallLocal
import KE.GoesZip
import KE.GoesMore
import KE.SortData
import HandS.TryMany
import HandS.Nested
import HandS.Small
import HandS.ExcOwn
import PySem.Challenge.RW_ringclaims_k13_whole_leaving_and_carryin
set_option Elab.async false
set_option linter.all false
section
set_option Elab.async false
set_option linter.all false
set_option maxRecDepth 100000
set_option maxHeartbeats 2000000
namespace RC
open PySem PySem.Spec PyProof.Rows L2

/-! The text by places; what the top has left (Txt). Printed by gen2.py. -/
def topS (i : Nat) : Stmt := PySem.Challenge.pw_ringclaims_k13_whole_leaving_and_carryin.main.body.getD i (.Pass ⟨0, 0, 0, 0⟩)
abbrev s_law_tape : Stmt := topS 75
abbrev s_law_pick : Stmt := topS 76
abbrev s_law_any : Stmt := topS 77
abbrev s_law_deeds : Stmt := topS 81
abbrev s_law_needs : Stmt := topS 78
abbrev s_law_loads : Stmt := topS 79
abbrev s_law_standing : Stmt := topS 82
abbrev s_law_wish : Stmt := topS 84
abbrev s_law_gone : Stmt := topS 85
abbrev s_law_behind : Stmt := topS 83
abbrev s_law_easy : Stmt := topS 80
abbrev s_law_told_later : Stmt := topS 86
abbrev s_law_must : Stmt := topS 87
abbrev s_law_pressed : Stmt := topS 94
abbrev s_is_triple : Stmt := topS 14
abbrev s_is_integer : Stmt := topS 11
abbrev s_is_within : Stmt := topS 12
abbrev s_is_first_behind : Stmt := topS 20
abbrev s_is_number : Stmt := topS 13
abbrev s_is_lot : Stmt := topS 15
abbrev s_is_waits : Stmt := topS 21
abbrev s_first_wrong : Stmt := topS 22
abbrev s_is_too_far : Stmt := topS 25
abbrev s_waited_for : Stmt := topS 23
abbrev s_first_in_ring : Stmt := topS 24
abbrev s_Standing_init : Stmt := L2.inClass (topS 26) 0
abbrev s_law_lots : Stmt := topS 90
abbrev s_law_carried : Stmt := topS 88
abbrev s_some_wait : Stmt := topS 56
abbrev s_check_free : Stmt := topS 57
abbrev s_check_deed : Stmt := topS 32
abbrev s_raw_standing : Stmt := topS 27
abbrev s_renumbered : Stmt := topS 44
abbrev s_written_many : Stmt := topS 45
abbrev s_carried_of : Stmt := topS 63
abbrev s_fits_with : Stmt := topS 62
abbrev s_carried : Stmt := topS 64
abbrev s_law_told : Stmt := topS 95
abbrev s_law_led_right : Stmt := topS 98
abbrev s_law_left : Stmt := topS 89
abbrev s_waits_of : Stmt := topS 28
abbrev s_loads_of : Stmt := topS 29
abbrev s_too_heavy : Stmt := topS 30
abbrev s_easy : Stmt := topS 31
abbrev s_check_easy : Stmt := topS 53
abbrev s_is_deed : Stmt := topS 38
abbrev s_is_row_wish : Stmt := topS 39
abbrev s_is_open_wish : Stmt := topS 40
abbrev s_is_wish : Stmt := topS 42
abbrev s_check_wish : Stmt := topS 43
abbrev s_check_asked : Stmt := topS 58
abbrev s_behind_row : Stmt := topS 46
abbrev s_behind_open : Stmt := topS 47
abbrev s_behind_of : Stmt := topS 49
abbrev s_wisher_behind : Stmt := topS 50
abbrev s_is_first_row : Stmt := topS 51
abbrev s_own_sum : Stmt := topS 59
abbrev s_must_of : Stmt := topS 60
abbrev s_left_order : Stmt := topS 65
abbrev s_left_of : Stmt := topS 66
abbrev s_left : Stmt := topS 68
abbrev s_law_when_left : Stmt := topS 91
abbrev s_law_can : Stmt := topS 92
abbrev s_let_by : Stmt := topS 54
abbrev s_wish_when_left : Stmt := topS 67
abbrev s_is_carrying : Stmt := topS 72
abbrev s_law_sum : Stmt := topS 93
abbrev s_law_fits : Stmt := topS 96
abbrev s_need_behind : Stmt := topS 70
abbrev s_cells_of : Stmt := topS 69
abbrev s_sum_of : Stmt := topS 71
abbrev s_carry_sum : Stmt := topS 73
abbrev s_law_own_sum : Stmt := topS 97
abbrev s_law : Stmt := topS 99
def d_law_tape : He.DefD := ⟨("_law_tape", none), "_law_tape", "_law_tape", defArgs s_law_tape, defBody s_law_tape, defScope s_law_tape, [], []⟩
def d_law_pick : He.DefD := ⟨("_law_pick", none), "_law_pick", "_law_pick", defArgs s_law_pick, defBody s_law_pick, defScope s_law_pick, [], []⟩
def d_law_any : He.DefD := ⟨("_law_any", none), "_law_any", "_law_any", defArgs s_law_any, defBody s_law_any, defScope s_law_any, [], []⟩
def d_law_deeds : He.DefD := ⟨("_law_deeds", none), "_law_deeds", "_law_deeds", defArgs s_law_deeds, defBody s_law_deeds, defScope s_law_deeds, [], []⟩
def d_law_needs : He.DefD := ⟨("_law_needs", none), "_law_needs", "_law_needs", defArgs s_law_needs, defBody s_law_needs, defScope s_law_needs, [], []⟩
def d_law_loads : He.DefD := ⟨("_law_loads", none), "_law_loads", "_law_loads", defArgs s_law_loads, defBody s_law_loads, defScope s_law_loads, [], []⟩
def d_law_standing : He.DefD := ⟨("_law_standing", none), "_law_standing", "_law_standing", defArgs s_law_standing, defBody s_law_standing, defScope s_law_standing, [], []⟩
def d_law_wish : He.DefD := ⟨("_law_wish", none), "_law_wish", "_law_wish", defArgs s_law_wish, defBody s_law_wish, defScope s_law_wish, [], []⟩
def d_law_gone : He.DefD := ⟨("_law_gone", none), "_law_gone", "_law_gone", defArgs s_law_gone, defBody s_law_gone, defScope s_law_gone, [], []⟩
def d_law_behind : He.DefD := ⟨("_law_behind", none), "_law_behind", "_law_behind", defArgs s_law_behind, defBody s_law_behind, defScope s_law_behind, [], []⟩
def d_law_easy : He.DefD := ⟨("_law_easy", none), "_law_easy", "_law_easy", defArgs s_law_easy, defBody s_law_easy, defScope s_law_easy, [], []⟩
def d_law_told_later : He.DefD := ⟨("_law_told_later", none), "_law_told_later", "_law_told_later", defArgs s_law_told_later, defBody s_law_told_later, defScope s_law_told_later, [], []⟩
def d_law_must : He.DefD := ⟨("_law_must", none), "_law_must", "_law_must", defArgs s_law_must, defBody s_law_must, defScope s_law_must, [], []⟩
def d_law_pressed : He.DefD := ⟨("_law_pressed", none), "_law_pressed", "_law_pressed", defArgs s_law_pressed, defBody s_law_pressed, defScope s_law_pressed, [], []⟩
def d_is_triple : He.DefD := ⟨("is_triple", none), "is_triple", "is_triple", defArgs s_is_triple, defBody s_is_triple, defScope s_is_triple, [], []⟩
def d_is_integer : He.DefD := ⟨("is_integer", none), "is_integer", "is_integer", defArgs s_is_integer, defBody s_is_integer, defScope s_is_integer, [], []⟩
def d_is_within : He.DefD := ⟨("is_within", none), "is_within", "is_within", defArgs s_is_within, defBody s_is_within, defScope s_is_within, [], []⟩
def d_is_first_behind : He.DefD := ⟨("is_first_behind", none), "is_first_behind", "is_first_behind", defArgs s_is_first_behind, defBody s_is_first_behind, defScope s_is_first_behind, [], []⟩
def d_is_number : He.DefD := ⟨("is_number", none), "is_number", "is_number", defArgs s_is_number, defBody s_is_number, defScope s_is_number, [], []⟩
def d_is_lot : He.DefD := ⟨("is_lot", none), "is_lot", "is_lot", defArgs s_is_lot, defBody s_is_lot, defScope s_is_lot, [], []⟩
def d_is_waits : He.DefD := ⟨("is_waits", none), "is_waits", "is_waits", defArgs s_is_waits, defBody s_is_waits, defScope s_is_waits, [], []⟩
def d_first_wrong : He.DefD := ⟨("first_wrong", none), "first_wrong", "first_wrong", defArgs s_first_wrong, defBody s_first_wrong, defScope s_first_wrong, [], []⟩
def d_is_too_far : He.DefD := ⟨("is_too_far", none), "is_too_far", "is_too_far", defArgs s_is_too_far, defBody s_is_too_far, defScope s_is_too_far, [], []⟩
def d_waited_for : He.DefD := ⟨("waited_for", none), "waited_for", "waited_for", defArgs s_waited_for, defBody s_waited_for, defScope s_waited_for, [], []⟩
def d_first_in_ring : He.DefD := ⟨("first_in_ring", none), "first_in_ring", "first_in_ring", defArgs s_first_in_ring, defBody s_first_in_ring, defScope s_first_in_ring, [], []⟩
def d_Standing_init : He.DefD := ⟨("Standing", some "__init__"), "__init__", "Standing.__init__", defArgs s_Standing_init, defBody s_Standing_init, defScope s_Standing_init, [], []⟩
def d_law_lots : He.DefD := ⟨("_law_lots", none), "_law_lots", "_law_lots", defArgs s_law_lots, defBody s_law_lots, defScope s_law_lots, [], []⟩
def d_law_carried : He.DefD := ⟨("_law_carried", none), "_law_carried", "_law_carried", defArgs s_law_carried, defBody s_law_carried, defScope s_law_carried, [], []⟩
def d_some_wait : He.DefD := ⟨("some_wait", none), "some_wait", "some_wait", defArgs s_some_wait, defBody s_some_wait, defScope s_some_wait, [], []⟩
def d_check_free : He.DefD := ⟨("check_free", none), "check_free", "check_free", defArgs s_check_free, defBody s_check_free, defScope s_check_free, [], []⟩
def d_check_deed : He.DefD := ⟨("check_deed", none), "check_deed", "check_deed", defArgs s_check_deed, defBody s_check_deed, defScope s_check_deed, [], []⟩
def d_raw_standing : He.DefD := ⟨("raw_standing", none), "raw_standing", "raw_standing", defArgs s_raw_standing, defBody s_raw_standing, defScope s_raw_standing, [], []⟩
def d_renumbered : He.DefD := ⟨("renumbered", none), "renumbered", "renumbered", defArgs s_renumbered, defBody s_renumbered, defScope s_renumbered, [], []⟩
def d_written_many : He.DefD := ⟨("written_many", none), "written_many", "written_many", defArgs s_written_many, defBody s_written_many, defScope s_written_many, [], []⟩
def d_carried_of : He.DefD := ⟨("carried_of", none), "carried_of", "carried_of", defArgs s_carried_of, defBody s_carried_of, defScope s_carried_of, [], []⟩
def d_fits_with : He.DefD := ⟨("fits_with", none), "fits_with", "fits_with", defArgs s_fits_with, defBody s_fits_with, defScope s_fits_with, [], []⟩
def d_carried : He.DefD := ⟨("carried", none), "carried", "carried", defArgs s_carried, defBody s_carried, defScope s_carried, [], []⟩
def d_law_told : He.DefD := ⟨("_law_told", none), "_law_told", "_law_told", defArgs s_law_told, defBody s_law_told, defScope s_law_told, [], []⟩
def d_law_led_right : He.DefD := ⟨("_law_led_right", none), "_law_led_right", "_law_led_right", defArgs s_law_led_right, defBody s_law_led_right, defScope s_law_led_right, [], []⟩
def d_law_left : He.DefD := ⟨("_law_left", none), "_law_left", "_law_left", defArgs s_law_left, defBody s_law_left, defScope s_law_left, [], []⟩
def d_waits_of : He.DefD := ⟨("waits_of", none), "waits_of", "waits_of", defArgs s_waits_of, defBody s_waits_of, defScope s_waits_of, [], []⟩
def d_loads_of : He.DefD := ⟨("loads_of", none), "loads_of", "loads_of", defArgs s_loads_of, defBody s_loads_of, defScope s_loads_of, [], []⟩
def d_too_heavy : He.DefD := ⟨("too_heavy", none), "too_heavy", "too_heavy", defArgs s_too_heavy, defBody s_too_heavy, defScope s_too_heavy, [], []⟩
def d_easy : He.DefD := ⟨("easy", none), "easy", "easy", defArgs s_easy, defBody s_easy, defScope s_easy, [], []⟩
def d_check_easy : He.DefD := ⟨("check_easy", none), "check_easy", "check_easy", defArgs s_check_easy, defBody s_check_easy, defScope s_check_easy, [], []⟩
def d_is_deed : He.DefD := ⟨("is_deed", none), "is_deed", "is_deed", defArgs s_is_deed, defBody s_is_deed, defScope s_is_deed, [], []⟩
def d_is_row_wish : He.DefD := ⟨("is_row_wish", none), "is_row_wish", "is_row_wish", defArgs s_is_row_wish, defBody s_is_row_wish, defScope s_is_row_wish, [], []⟩
def d_is_open_wish : He.DefD := ⟨("is_open_wish", none), "is_open_wish", "is_open_wish", defArgs s_is_open_wish, defBody s_is_open_wish, defScope s_is_open_wish, [], []⟩
def d_is_wish : He.DefD := ⟨("is_wish", none), "is_wish", "is_wish", defArgs s_is_wish, defBody s_is_wish, defScope s_is_wish, [], []⟩
def d_check_wish : He.DefD := ⟨("check_wish", none), "check_wish", "check_wish", defArgs s_check_wish, defBody s_check_wish, defScope s_check_wish, [], []⟩
def d_check_asked : He.DefD := ⟨("check_asked", none), "check_asked", "check_asked", defArgs s_check_asked, defBody s_check_asked, defScope s_check_asked, [], []⟩
def d_behind_row : He.DefD := ⟨("behind_row", none), "behind_row", "behind_row", defArgs s_behind_row, defBody s_behind_row, defScope s_behind_row, [], []⟩
def d_behind_open : He.DefD := ⟨("behind_open", none), "behind_open", "behind_open", defArgs s_behind_open, defBody s_behind_open, defScope s_behind_open, [], []⟩
def d_behind_of : He.DefD := ⟨("behind_of", none), "behind_of", "behind_of", defArgs s_behind_of, defBody s_behind_of, defScope s_behind_of, [], []⟩
def d_wisher_behind : He.DefD := ⟨("wisher_behind", none), "wisher_behind", "wisher_behind", defArgs s_wisher_behind, defBody s_wisher_behind, defScope s_wisher_behind, [], []⟩
def d_is_first_row : He.DefD := ⟨("is_first_row", none), "is_first_row", "is_first_row", defArgs s_is_first_row, defBody s_is_first_row, defScope s_is_first_row, [], []⟩
def d_own_sum : He.DefD := ⟨("own_sum", none), "own_sum", "own_sum", defArgs s_own_sum, defBody s_own_sum, defScope s_own_sum, [], []⟩
def d_must_of : He.DefD := ⟨("must_of", none), "must_of", "must_of", defArgs s_must_of, defBody s_must_of, defScope s_must_of, [], []⟩
def d_left_order : He.DefD := ⟨("left_order", none), "left_order", "left_order", defArgs s_left_order, defBody s_left_order, defScope s_left_order, [], []⟩
def d_left_of : He.DefD := ⟨("left_of", none), "left_of", "left_of", defArgs s_left_of, defBody s_left_of, defScope s_left_of, [], []⟩
def d_left : He.DefD := ⟨("left", none), "left", "left", defArgs s_left, defBody s_left, defScope s_left, [], []⟩
def d_law_when_left : He.DefD := ⟨("_law_when_left", none), "_law_when_left", "_law_when_left", defArgs s_law_when_left, defBody s_law_when_left, defScope s_law_when_left, [], []⟩
def d_law_can : He.DefD := ⟨("_law_can", none), "_law_can", "_law_can", defArgs s_law_can, defBody s_law_can, defScope s_law_can, [], []⟩
def d_let_by : He.DefD := ⟨("let_by", none), "let_by", "let_by", defArgs s_let_by, defBody s_let_by, defScope s_let_by, [], []⟩
def d_wish_when_left : He.DefD := ⟨("wish_when_left", none), "wish_when_left", "wish_when_left", defArgs s_wish_when_left, defBody s_wish_when_left, defScope s_wish_when_left, [], []⟩
def d_is_carrying : He.DefD := ⟨("is_carrying", none), "is_carrying", "is_carrying", defArgs s_is_carrying, defBody s_is_carrying, defScope s_is_carrying, [], []⟩
def d_law_sum : He.DefD := ⟨("_law_sum", none), "_law_sum", "_law_sum", defArgs s_law_sum, defBody s_law_sum, defScope s_law_sum, [], []⟩
def d_law_fits : He.DefD := ⟨("_law_fits", none), "_law_fits", "_law_fits", defArgs s_law_fits, defBody s_law_fits, defScope s_law_fits, [], []⟩
def d_need_behind : He.DefD := ⟨("need_behind", none), "need_behind", "need_behind", defArgs s_need_behind, defBody s_need_behind, defScope s_need_behind, [], []⟩
def d_cells_of : He.DefD := ⟨("cells_of", none), "cells_of", "cells_of", defArgs s_cells_of, defBody s_cells_of, defScope s_cells_of, [], []⟩
def d_sum_of : He.DefD := ⟨("sum_of", none), "sum_of", "sum_of", defArgs s_sum_of, defBody s_sum_of, defScope s_sum_of, [], []⟩
def d_carry_sum : He.DefD := ⟨("carry_sum", none), "carry_sum", "carry_sum", defArgs s_carry_sum, defBody s_carry_sum, defScope s_carry_sum, [], []⟩
def d_law_own_sum : He.DefD := ⟨("_law_own_sum", none), "_law_own_sum", "_law_own_sum", defArgs s_law_own_sum, defBody s_law_own_sum, defScope s_law_own_sum, [], []⟩
def d_law : He.DefD := ⟨("law", none), "law", "law", defArgs s_law, defBody s_law, defScope s_law, [], []⟩
def fnL0 : List He.DefD := [d_law_tape, d_law_pick, d_law_any, d_law_deeds, d_law_needs, d_law_loads, d_law_standing, d_law_wish, d_law_gone, d_law_behind, d_law_easy, d_law_told_later, d_law_must, d_law_pressed, d_is_triple, d_is_integer, d_is_within, d_is_first_behind, d_is_number, d_is_lot, d_is_waits, d_first_wrong, d_is_too_far, d_waited_for, d_first_in_ring]
def fnL1 : List He.DefD := [d_Standing_init, d_law_lots, d_law_carried, d_some_wait, d_check_free, d_check_deed, d_raw_standing, d_renumbered, d_written_many, d_carried_of, d_fits_with, d_carried, d_law_told, d_law_led_right, d_law_left, d_waits_of, d_loads_of, d_too_heavy, d_easy, d_check_easy, d_is_deed, d_is_row_wish, d_is_open_wish, d_is_wish, d_check_wish]
def fnL2 : List He.DefD := [d_check_asked, d_behind_row, d_behind_open, d_behind_of, d_wisher_behind, d_is_first_row, d_own_sum, d_must_of, d_left_order, d_left_of, d_left, d_law_when_left, d_law_can, d_let_by, d_wish_when_left, d_is_carrying, d_law_sum, d_law_fits, d_need_behind, d_cells_of, d_sum_of, d_carry_sum, d_law_own_sum, d_law]
def fnL : List He.DefD := fnL0 ++ fnL1 ++ fnL2
def glL0 : List Str := ["RingError", "BadStanding", "NoDeed", "NotEasy", "NoWish", "Waiting", "NoLot", "NoRoom", "NoRows", "is_integer", "is_within", "is_number", "is_triple", "is_lot", "is_first_behind", "is_waits", "first_wrong", "waited_for", "first_in_ring", "is_too_far", "Standing", "raw_standing", "waits_of", "loads_of", "too_heavy"]
def glL1 : List Str := ["easy", "check_deed", "is_deed", "is_row_wish", "is_open_wish", "is_wait_wish", "is_wish", "check_wish", "renumbered", "written_many", "behind_row", "behind_open", "behind_wait", "behind_of", "wisher_behind", "is_first_row", "check_easy", "let_by", "some_wait", "check_free", "check_asked", "own_sum", "must_of", "fits_with", "carried_of"]
def glL2 : List Str := ["carried", "left_order", "left_of", "wish_when_left", "left", "cells_of", "need_behind", "sum_of", "is_carrying", "carry_sum", "_law_tape", "_law_pick", "_law_any", "_law_needs", "_law_loads", "_law_easy", "_law_deeds", "_law_standing", "_law_behind", "_law_wish", "_law_gone", "_law_told_later", "_law_must", "_law_carried", "_law_left"]
def glL3 : List Str := ["_law_lots", "_law_when_left", "_law_can", "_law_sum", "_law_pressed", "_law_told", "_law_fits", "_law_own_sum", "_law_led_right", "law"]
def glL : List Str := glL0 ++ glL1 ++ glL2 ++ glL3
def frL0 : List Str := ["len", "isinstance", "int", "bool", "tuple", "str", "enumerate", "list", "range", "sorted", "sum", "max", "min", "all", "any", "abs", "zip", "super"]
def frL : List Str := frL0
abbrev s_NoRoom_init : Stmt := L2.inClass (topS 8) 0
end RC

end
section
set_option Elab.async false
set_option linter.all false
set_option maxRecDepth 100000
set_option maxHeartbeats 0
namespace RC
open PySem PySem.Spec PyProof.Rows L2
/-- NoRoom.__init__ as the head shows it -/
abbrev NrV : Type := Option (Str × Str × Arguments × FuncBody × Scope × Addr × List Str × Value × Value × Addr)
abbrev nrAt (K : PySem.W.Frag) : Addr := He.fAd K ("NoRoom", some "__init__")
def nrObs (K : PySem.W.Frag) : NrV := match K.lookup (nrAt K) with
  | some ⟨_, _, .func fd, _⟩ => some (fd.name, fd.qualname, fd.params, fd.body, fd.scope, fd.globals, fd.closure.map (·.1), fd.defaults, fd.kwdefaults, fd.builtins)
  | _ => none
def nrVal : NrV := some ("__init__", "NoRoom.__init__", defArgs s_NoRoom_init, .stmts (defBody s_NoRoom_init), defScope s_NoRoom_init, mainGlobals, ["__class__"], .none, .none, builtinsNs)
def nrB (K : PySem.W.Frag) (C : Addr) : Bool := match K.lookup (nrAt K) with
  | some ⟨_, _, .func fd, _⟩ => (match fd.code, fd.closure with
    | .ref cda, [(_, cc)] => PySem.W.codeIn K (.ref cda) "NoRoom.__init__" && ((match K.lookup cda with
      | some ⟨_, _, .fields vs, _⟩ => (match (vs[2]? : Option Value) with
        | some (.str file _) => ((PySem.Challenge.pw_ringclaims_k13_whole_leaving_and_carryin.main.file : Str) == file)
        | _ => false)
      | _ => false) && (match K.lookup cc with
      | some ⟨_, _, .cell (some (.ref D)), _⟩ => decide (D = C)
      | _ => false))
    | _, _ => false)
  | _ => false
/-- what OexC needs, looked up -/
def oexB (K : PySem.W.Frag) (C : Addr) : Bool := (match K.lookup C with
  | some ⟨.type "type", _, .cls cd, sl⟩ => (match cd.mro, sl.toList with
    | .ref C' :: bm, [_, _, _, _, some (.builtin n), _] => C' == C && (n == "ValueError.__new__" && (!cd.hasDel && (cd.hasDict && PySem.HandSPX.refsVE bm)))
    | _, _ => false)
  | _ => false) && (decide (PySem.W.findIn K (.ref C) "__setattr__" = some (some (.builtin "object.__setattr__"))) && (decide (PySem.W.subIn K (.ref C) (.type "BaseException") = some true) && (decide (PySem.W.typeIn K (.ref C) = some (.type "type")) && PySem.W.keepIn K (.ref C))))
/-- all that is to be looked up on NoRoom -/
def nrAll (K : PySem.W.Frag) : Bool := nrB K (He.ga K "NoRoom") && (oexB K (He.ga K "NoRoom") && ((PySem.W.clsIn K (He.ga K "NoRoom")).isSome && (decide (PySem.W.mroIn K (He.ga K "NoRoom") (.ref (He.ga K "NoRoom")) = some true) &&
  (decide (PySem.W.ks_superIn K (He.ga K "NoRoom") (He.ga K "NoRoom") "__init__" = some (some (.builtin "ValueError.__init__"))) && (decide (PySem.W.subIn K (.ref (He.ga K "NoRoom")) (.type "ValueError") = some true) && (decide (PySem.W.nsIn K PySem.cStatics "thirdparty.any" = some none) &&
  (decide (PySem.W.findIn K (.ref (He.ga K "NoRoom")) "deed" = some none) && (decide (PySem.W.findIn K (.ref (He.ga K "NoRoom")) "__init__" = some (some (.ref (nrAt K)))) && (decide (PySem.W.typeIn K (.ref (nrAt K)) = some (.type "function")) && xfB K (He.ga K "NoRoom"))))))))))
abbrev R : PySem.W.OpenRow := PySem.W.OpenLaw.row PySem.Challenge.rw_ringclaims_k13_whole_leaving_and_carryin
def ln0 : List PySem.Str := ["RingError", "BadStanding", "NoDeed", "NotEasy", "NoWish", "Waiting", "NoLot", "NoRoom", "NoRows", "is_integer", "is_within", "is_number", "is_triple", "is_lot", "MOST_CELLS", "MOST_HEAD", "MOST_DEEDS", "is_first_behind", "is_waits", "first_wrong", "waited_for", "first_in_ring", "is_too_far", "Standing", "raw_standing", "waits_of", "loads_of", "too_heavy", "easy", "check_deed"]
def ln1 : List PySem.Str := ["ROW", "OPEN", "WAIT", "SIZES", "is_deed", "is_row_wish", "is_open_wish", "is_wait_wish", "is_wish", "check_wish", "renumbered", "written_many", "behind_row", "behind_open", "behind_wait", "behind_of", "wisher_behind", "is_first_row", "check_easy", "let_by", "some_wait", "check_free", "check_asked", "own_sum", "must_of", "fits_with", "carried_of", "carried", "left_order", "left_of"]
def ln2 : List PySem.Str := ["wish_when_left", "left", "cells_of", "need_behind", "sum_of", "is_carrying", "carry_sum", "_law_tape", "_law_pick", "_law_any", "_law_needs", "_law_loads", "_law_easy", "_law_deeds", "_law_standing", "_law_behind", "_law_wish", "_law_gone", "_law_told_later", "_law_must", "_law_carried", "_law_left", "_law_lots", "_law_when_left", "_law_can", "_law_sum", "_law_pressed", "_law_told", "_law_fits", "_law_own_sum"]
def ln3 : List PySem.Str := ["_law_led_right"]
def lnL : List PySem.Str := ln0 ++ ln1 ++ ln2 ++ ln3
def refsAt (g : Addr → Option Obj) (a : Addr) : List Addr := match g a with
  | some o => He.refsD o
  | none => []
def clsN : List PySem.Str := ["RingError", "NoRoom", "NoRows", "Standing"]
def fnN : List PySem.Str := fnL.filterMap fun d => match d.at_.2 with
  | none => some d.at_.1
  | some _ => none
def asP (g : Addr → Option Obj) : List Addr :=
  let K0 := He.frG g [mainGlobals]
  let f1 := fnN.map fun x => He.ga K0 x
  let c0 := clsN.map fun x => He.ga K0 x
  let c1 := c0.flatMap (refsAt g)
  let c2 := c1.flatMap (refsAt g)
  let c3 := c2.flatMap (refsAt g)
  let fI := [He.fAd (He.frG g (mainGlobals :: (c0 ++ c1))) ("NoRoom", some "__init__")]
  let c4 := fI ++ fI.flatMap (refsAt g)
  mainGlobals :: (f1 ++ (f1.flatMap (refsAt g) ++ (c0 ++ (c1 ++ (c2 ++ (c3 ++ (c4 ++ [He.ga K0 "SIZES", PySem.cStatics])))))))

def faC : List He.Fa := [.int "MOST_CELLS" (10 ^ 30), .int "MOST_HEAD" (10 ^ 40), .int "MOST_DEEDS" 200, .str "ROW" "row", .str "OPEN" "open", .str "WAIT" "wait", .cls "Standing", .noat "Standing" "cells", .noat "Standing" "head", .noat "Standing" "deeds", .mkr "Standing", .glo "SIZES"]
def faX : List He.Fa := [.free "super", .exc "NoRows", .exm "NoRoom" "NoRoom" true, .exm "NoRows" "NoRoom" false, .exm "NoRows" "NoRows" true]
def faG : List He.Fa := glL.map He.Fa.glo
def faF : List He.Fa := frL.map He.Fa.free
def faL : List He.Fa := faG ++ (faF ++ (faC ++ faX))
def szB (K : PySem.W.Frag) : Bool := (match PySem.W.nsIn K (He.ga K "SIZES") "row" with
  | some (some (.int 4 _)) => true
  | _ => false) && ((match PySem.W.nsIn K (He.ga K "SIZES") "open" with
  | some (some (.int 4 _)) => true
  | _ => false) && He.Fa.ok K (.glo "SIZES"))
abbrev AlX : Type := He.AlD × (NrV × (Bool × _root_.Option (List (_root_.Option (PySem.Str × Int)))))
def obX (K : PySem.W.Frag) : AlX := (He.obsD faL fnL K, (nrObs K, (nrAll K && szB K, He.dicW K (He.ga K "SIZES"))))
def vlX (w : World) : AlX := (He.valD fnL, (nrVal, (true, some (He.keysIn w.params ["row", "open", "wait"]))))
def hkP : PySem.W.Hook where
  α := AlX
  obs := fun s => obX (He.frG s.heap.get? (asP s.heap.get?))
  val := vlX
  says := fun w h => ∃ K : PySem.W.Frag, K.In h ∧ obX K = vlX w
  of := fun _ _ e => ⟨_, He.frG_in, e⟩
  keeps := fun _ _ _ ⟨K, hK, c⟩ k => ⟨K, PySem.W.Frag.In.keeps hK k, c⟩
def obP (s : PySem.W.SharedT) : AlX := obX (He.frG (HandSHeadRun.getT s) (asP (HandSHeadRun.getT s)))
theorem obP_eq (s : PySem.W.SharedT) : obP s = hkP.obs s.abs := by
  have e : HandSHeadRun.getT s = s.abs.heap.get? := funext (HandSHeadRun.getT_eq s)
  unfold obP
  rw [e] <;> rfl
theorem runF (w : World) : HandSHeadRun.RunEq R (PySem.W.view R.prog [99]) hkP obP 6000 lnL (w.withFollow "special-get-raises" false) := by
  intro os
  kernel_rfl
theorem runT (w : World) : HandSHeadRun.RunEq R (PySem.W.view R.prog [99]) hkP obP 6000 lnL (w.withFollow "special-get-raises" true) := by
  intro os
  kernel_rfl
theorem runP (w : World) : HandSHeadRun.RunEq R (PySem.W.view R.prog [99]) hkP obP 6000 lnL w := PySem.W.byRow2 "special-get-raises" (P := fun w => HandSHeadRun.RunEq R (PySem.W.view R.prog [99]) hkP obP 6000 lnL w) runF runT w
end RC

end
section
set_option Elab.async false
set_option linter.all false
set_option maxRecDepth 100000
set_option maxHeartbeats 1000000
/-! RC, part 1: data in a heap, the frozen heap beside the heap, worlds of cells that change, big steps. -/
namespace RC
open PySem L2

/-! ### data -/
mutual
inductive Rp (F : Hp) : V → PyData → Prop
  | non : Rp F .non .none
  | bl (b : Bool) : Rp F (.bl b) (.bool b)
  | int (i : Int) : Rp F (.int i) (.int i)
  | str (x : Str) : Rp F (.str x) (.str x)
  | lst {a : Addr} {xs : List V} {ds : List PyData} (h : F a = some (.lst xs)) (hs : RpAll F xs ds) : Rp F (.ref a) (.list ds)
  | tup {a : Addr} {xs : List V} {ds : List PyData} (h : F a = some (.tup xs)) (hs : RpAll F xs ds) : Rp F (.ref a) (.tuple ds)
inductive RpAll (F : Hp) : List V → List PyData → Prop
  | nil : RpAll F [] []
  | cons {v : V} {vs : List V} {d : PyData} {ds : List PyData} (h : Rp F v d) (hs : RpAll F vs ds) : RpAll F (v :: vs) (d :: ds)
end
section
variable {F F' : Hp}
mutual
theorem Rp.mono (e : Same F F') : ∀ {v : V} {d : PyData}, Rp F v d → Rp F' v d
  | _, _, .non => .non
  | _, _, .bl b => .bl b
  | _, _, .int i => .int i
  | _, _, .str x => .str x
  | _, _, .lst h hs => .lst (e _ _ h) (RpAll.mono e hs)
  | _, _, .tup h hs => .tup (e _ _ h) (RpAll.mono e hs)
theorem RpAll.mono (e : Same F F') : ∀ {vs : List V} {ds : List PyData}, RpAll F vs ds → RpAll F' vs ds
  | _, _, .nil => .nil
  | _, _, .cons h hs => .cons (Rp.mono e h) (RpAll.mono e hs)
end
mutual
theorem Rp.dp {K : PySem.W.Frag} : ∀ {v : V} {d : PyData}, Rp F v d → Dp K F v d
  | _, _, .non => .non
  | _, _, .bl b => .bl b
  | _, _, .int i => .int i
  | _, _, .str x => .str x
  | _, _, .lst h hs => .lst (SqL.of h) (RpAll.dp hs)
  | _, _, .tup h hs => .tup (SqT.of h) (RpAll.dp hs)
theorem RpAll.dp {K : PySem.W.Frag} : ∀ {vs : List V} {ds : List PyData}, RpAll F vs ds → DpAll K F vs ds
  | _, _, .nil => .nil
  | _, _, .cons h hs => .cons (Rp.dp h) (RpAll.dp hs)
end
theorem RpAll.length : ∀ {vs : List V} {ds : List PyData}, RpAll F vs ds → vs.length = ds.length
  | _, _, .nil => rfl
  | _, _, .cons _ hs => congrArg (· + 1) (RpAll.length hs)
theorem RpAll.get : ∀ {vs : List V} {ds : List PyData} {i : Nat} {d : PyData}, RpAll F vs ds → ds[i]? = some d → ∃ v, vs[i]? = some v ∧ Rp F v d
  | _, _, _, _, .nil, e => by simp at e
  | _, _, 0, _, .cons h _, e => by
    simp at e
    subst e
    exact ⟨_, rfl, h⟩
  | _, _, i + 1, d, .cons _ hs, e => by
    obtain ⟨v, h1, h2⟩ := RpAll.get (i := i) (d := d) hs (by simpa using e)
    exact ⟨v, by simpa using h1, h2⟩
theorem RpAll.getV : ∀ {vs : List V} {ds : List PyData} {i : Nat} {v : V}, RpAll F vs ds → vs[i]? = some v → ∃ d, ds[i]? = some d ∧ Rp F v d
  | _, _, _, _, .nil, e => by simp at e
  | _, _, 0, _, .cons h _, e => by
    simp at e
    subst e
    exact ⟨_, rfl, h⟩
  | _, _, i + 1, v, .cons _ hs, e => by
    obtain ⟨d, h1, h2⟩ := RpAll.getV (i := i) (v := v) hs (by simpa using e)
    exact ⟨d, by simpa using h1, h2⟩
theorem RpAll.app : ∀ {vs ws : List V} {ds es : List PyData}, RpAll F vs ds → RpAll F ws es → RpAll F (vs ++ ws) (ds ++ es)
  | _, _, _, _, .nil, h => h
  | _, _, _, _, .cons h hs, h2 => .cons h (RpAll.app hs h2)
theorem RpAll.snoc {vs : List V} {ds : List PyData} {v : V} {d : PyData} (h : RpAll F vs ds) (h2 : Rp F v d) : RpAll F (vs ++ [v]) (ds ++ [d]) := h.app (.cons h2 .nil)
theorem RpAll.set : ∀ {vs : List V} {ds : List PyData} {v : V} {d : PyData} (i : Nat), RpAll F vs ds → Rp F v d → RpAll F (vs.set i v) (ds.set i d)
  | _, _, _, _, _, .nil, _ => .nil
  | _, _, _, _, 0, .cons _ hs, h2 => .cons h2 hs
  | _, _, _, _, i + 1, .cons h hs, h2 => .cons h (RpAll.set i hs h2)
theorem RpAll.take : ∀ {vs : List V} {ds : List PyData} (n : Nat), RpAll F vs ds → RpAll F (vs.take n) (ds.take n)
  | _, _, 0, _ => .nil
  | _, _, _ + 1, .nil => .nil
  | _, _, n + 1, .cons h hs => .cons h (RpAll.take n hs)
theorem RpAll.drop : ∀ {vs : List V} {ds : List PyData} (n : Nat), RpAll F vs ds → RpAll F (vs.drop n) (ds.drop n)
  | _, _, 0, h => h
  | _, _, _ + 1, .nil => .nil
  | _, _, n + 1, .cons _ hs => RpAll.drop n hs
theorem RpAll.eraseIdx : ∀ {vs : List V} {ds : List PyData} (n : Nat), RpAll F vs ds → RpAll F (vs.eraseIdx n) (ds.eraseIdx n)
  | _, _, _, .nil => .nil
  | _, _, 0, .cons _ hs => hs
  | _, _, n + 1, .cons h hs => .cons h (RpAll.eraseIdx n hs)
/-- ints of a list -/
theorem RpAll.ints : ∀ {vs : List V} {ns : List Int}, RpAll F vs (ns.map PyData.int) → vs = ns.map V.int
  | _, [], .nil => rfl
  | _, n :: ns, .cons (.int _) hs => by rw [RpAll.ints hs] <;> rfl
theorem rpAll_ints : ∀ (ns : List Int), RpAll F (ns.map V.int) (ns.map PyData.int)
  | [] => .nil
  | n :: ns => .cons (.int n) (rpAll_ints ns)
theorem RpAll.bools : ∀ {vs : List V} {ns : List Bool}, RpAll F vs (ns.map PyData.bool) → vs = ns.map V.bl
  | _, [], .nil => rfl
  | _, n :: ns, .cons (.bl _) hs => by rw [RpAll.bools hs] <;> rfl
/-- what needs no heap -/
def flatD : PyData → Bool
  | .none => true
  | .bool _ => true
  | .int _ => true
  | .str _ => true
  | _ => false
theorem Rp.flat {v : V} {d : PyData} (h : Rp F v d) (f : flatD d = true) (F' : Hp) : Rp F' v d := by
  cases h with
  | non => exact .non
  | bl b => exact .bl b
  | int i => exact .int i
  | str x => exact .str x
  | lst h hs => cases f
  | tup h hs => cases f
end

/-! ### predicates on values -/
structure PV where
  p : V → Hp → Prop
  mono : ∀ {v : V} {H H' : Hp}, Same H H' → p v H → p v H'
/-- the data d -/
def DV (d : PyData) : PV := ⟨fun v F => Rp F v d, fun e h => Rp.mono e h⟩
abbrev IV (i : Int) : PV := DV (.int i)
abbrev BV (b : Bool) : PV := DV (.bool b)
/-- just this value -/
def XV (x : V) : PV := ⟨fun v _ => v = x, fun _ h => h⟩
/-- anything -/
def AnyV : PV := ⟨fun _ _ => True, fun _ h => h⟩
/-- an int with φ -/
def IN (φ : Int → Prop) : PV := ⟨fun v _ => ∃ i, v = .int i ∧ φ i, fun _ h => h⟩
/-- one of several -/
def ExV {α : Sort _} (φ : α → Prop) (P : α → PV) : PV := ⟨fun v F => ∃ a, φ a ∧ (P a).p v F, fun e ⟨a, h1, h2⟩ => ⟨a, h1, (P a).mono e h2⟩⟩
theorem IV.v {i : Int} {v : V} {F : Hp} (h : (IV i).p v F) : v = .int i := by
  cases h
  rfl
theorem BV.v {b : Bool} {v : V} {F : Hp} (h : (BV b).p v F) : v = .bl b := by
  cases h
  rfl

/-! ### worlds: the cells that may change -/
structure Wd where
  T : Addr → Prop
  J : Hp → Hp → Prop
  there : ∀ {F H : Hp} {a : Addr}, J F H → T a → F a = none ∧ H a ≠ none
  keep : ∀ {F F' H H' : Hp}, J F H → Same F F' → (∀ a, T a → F' a = none) → (∀ a, T a → H' a = H a) → J F' H'
def W0 : Wd := ⟨fun _ => False, fun _ _ => True, fun _ h => h.elim, fun _ _ _ _ => trivial⟩
/-- what stands in a cell -/
structure CP where
  c : HO → Hp → Prop
  mono : ∀ {o : HO} {F F' : Hp}, Same F F' → c o F → c o F'
def LC (ds : List PyData) : CP := ⟨fun o F => ∃ xs, o = .lst xs ∧ RpAll F xs ds, fun e ⟨xs, h1, h2⟩ => ⟨xs, h1, RpAll.mono e h2⟩⟩
def OC (o : HO) : CP := ⟨fun o' _ => o' = o, fun _ h => h⟩
def Wd.add (W : Wd) (l : Addr) (C : CP) : Wd where
  T := fun a => W.T a ∨ a = l
  J := fun F H => W.J F H ∧ ¬ W.T l ∧ F l = none ∧ ∃ o, H l = some o ∧ C.c o F
  there := fun {F H a} ⟨h1, _, h3, o, h4, _⟩ ht => by
    rcases ht with ht | ht
    · exact W.there h1 ht
    · subst ht
      exact ⟨h3, by rw [h4]; exact fun q => nomatch q⟩
  keep := fun {F F' H H'} ⟨h1, h2, h3, o, h4, h5⟩ e n k => ⟨W.keep h1 e (fun a ha => n a (.inl ha)) (fun a ha => k a (.inl ha)), h2, n l (.inr rfl), o, by rw [k l (.inr rfl)]; exact h4, C.mono e h5⟩

/-! ### steps -/
structure Stp (T : Addr → Prop) (H H' : Hp) : Prop where
  kp : ∀ a o, ¬ T a → H a = some o → H' a = some o
  th : ∀ a, H a ≠ none → H' a ≠ none
theorem Stp.refl {T : Addr → Prop} {H : Hp} : Stp T H H := ⟨fun _ _ _ h => h, fun _ h => h⟩
theorem Stp.trans {T : Addr → Prop} {H H1 H2 : Hp} (a : Stp T H H1) (b : Stp T H1 H2) : Stp T H H2 := ⟨fun x o n h => b.kp x o n (a.kp x o n h), fun x h => b.th x (a.th x h)⟩
theorem Stp.of {T : Addr → Prop} {H H' : Hp} (e : Same H H') : Stp T H H' := ⟨fun a o _ h => e a o h, fun a h => by
  cases q : H a with
  | none => exact absurd q h
  | some o => rw [e a o q]; exact fun z => nomatch z⟩
/-- the frozen heap behind a step: what was, and what is new -/
def fz (F H H' : Hp) : Hp := fun a => match H a with
  | none => H' a
  | some _ => F a
theorem fz_none {F H H' : Hp} {a : Addr} (h : H a = none) : fz F H H' a = H' a := by
  unfold fz
  rw [h]
theorem fz_some {F H H' : Hp} {a : Addr} (h : H a ≠ none) : fz F H H' a = F a := by
  unfold fz
  cases q : H a with
  | none => exact absurd q h
  | some o => rfl
theorem fz_le {F H H' : Hp} (e : Same F H) : Same F (fz F H H') := fun a o h => by
  rw [fz_some (by rw [e a o h]; exact fun z => nomatch z)]
  exact h
theorem fz_mono {F F1 H H' : Hp} (e : Same F F1) : Same (fz F H H') (fz F1 H H') := fun a o h => by
  cases q : H a with
  | none =>
    rw [fz_none q] at h ⊢
    exact h
  | some x =>
    have hq : H a ≠ none := by rw [q]; exact fun z => nomatch z
    rw [fz_some hq] at h ⊢
    exact e a o h
structure Go (W : Wd) (F H F' H' : Hp) : Prop where
  st : Stp W.T H H'
  eq : F' = fz F H H'
  j : W.J F' H'
section
variable {W : Wd} {F H F' H' F1 H1 F2 H2 : Hp}
theorem Go.le (g : Go W F H F' H') (e : Same F H) : Same F F' := by
  rw [g.eq]
  exact fz_le e
theorem Go.sm (g : Go W F H F' H') (e : Same F H) (j : W.J F H) : Same F' H' := fun a o h => by
  rw [g.eq] at h
  cases q : H a with
  | none =>
    rw [fz_none q] at h
    exact h
  | some x =>
    rw [fz_some (by rw [q]; exact fun z => nomatch z)] at h
    refine g.st.kp a o (fun ht => ?_) (e a o h)
    rw [(W.there j ht).1] at h
    cases h
theorem Go.refl (e : Same F H) (j : W.J F H) : Go W F H F H := by
  refine ⟨Stp.refl, ?_, j⟩
  funext a
  cases q : H a with
  | none =>
    rw [fz_none q, q]
    cases h : F a with
    | none => rfl
    | some o =>
      rw [e a o h] at q
      cases q
  | some x => rw [fz_some (by rw [q]; exact fun z => nomatch z)]
theorem Go.trans (g : Go W F H F1 H1) (j : W.J F H) (g2 : Go W F1 H1 F2 H2) : Go W F H F2 H2 := by
  refine ⟨g.st.trans g2.st, ?_, g2.j⟩
  rw [g2.eq, g.eq]
  funext a
  cases q : H a with
  | none =>
    rw [fz_none (F := F) q]
    cases q1 : H1 a with
    | none => rw [fz_none q1]
    | some x =>
      rw [fz_some (by rw [q1]; exact fun z => nomatch z), fz_none q, q1]
      exact (g2.st.kp a x (fun ht => (W.there j ht).2 q) q1).symm
  | some x =>
    have hq : H a ≠ none := by rw [q]; exact fun z => nomatch z
    rw [fz_some (F := fz F H H1) (g.st.th a hq), fz_some hq, fz_some hq]
/-- a new object -/
theorem Go.new {p : Addr} {o : HO} (e : Same F H) (j : W.J F H) (h : H p = none) : Go W F H (upd F p o) (upd H p o) := by
  have hT : ∀ a, W.T a → a ≠ p := fun a ha z => (W.there j ha).2 (by rw [z]; exact h)
  refine ⟨Stp.of fun a u q => ?_, ?_, W.keep j (fun a u q => ?_) (fun a ha => ?_) fun a ha => upd_ne (hT a ha)⟩
  · rw [upd_ne (ne_of_none q h)]
    exact q
  · funext a
    by_cases z : a = p
    · subst z
      rw [fz_none h, upd_same, upd_same]
    · rw [upd_ne z]
      cases q : H a with
      | none =>
        rw [fz_none q, upd_ne z, q]
        cases q2 : F a with
        | none => rfl
        | some u =>
          rw [e a u q2] at q
          cases q
      | some x => rw [fz_some (by rw [q]; exact fun y => nomatch y)]
  · have hp : F p = none := by
      cases q2 : F p with
      | none => rfl
      | some u =>
        rw [e p u q2] at h
        cases h
    rw [upd_ne (ne_of_none q hp)]
    exact q
  · rw [upd_ne (hT a ha)]
    exact (W.there j ha).1
/-- a step that keeps all that was -/
theorem Go.same (e : Same F H) (j : W.J F H) (s : Same H H') : Go W F H (fz F H H') H' := by
  refine ⟨Stp.of s, rfl, W.keep j (fz_le e) (fun a ha => ?_) fun a ha => ?_⟩
  · obtain ⟨h1, h2⟩ := W.there j ha
    rw [fz_some h2]
    exact h1
  · obtain ⟨h1, h2⟩ := W.there j ha
    cases q : H a with
    | none => exact absurd q h2
    | some o => exact s a o q
end

/-! ### slots -/
abbrev Gm := List (Option PV)
def Env (G : Gm) (σ : L2.St) (F : Hp) : Prop := σ.length = G.length ∧ ∀ (i : Nat) (P : PV), G[i]? = some (some P) → ∃ v, σ[i]? = some (some v) ∧ P.p v F
theorem Env.mono {G : Gm} {σ : L2.St} {F F' : Hp} (h : Env G σ F) (e : Same F F') : Env G σ F' := ⟨h.1, fun i P q => let ⟨v, h1, h2⟩ := h.2 i P q; ⟨v, h1, P.mono e h2⟩⟩
theorem Env.set {G : Gm} {σ : L2.St} {F : Hp} {P : PV} {v : V} (i : Nat) (h : Env G σ F) (hp : P.p v F) : Env (G.set i (some P)) (σ.set i (some v)) F := by
  refine ⟨by simp [h.1], fun j Q q => ?_⟩
  by_cases z : i = j
  · subst z
    rw [List.getElem?_set] at q
    rw [if_pos rfl] at q
    by_cases l : i < G.length
    · rw [if_pos l] at q
      injection q with q
      injection q with q
      subst q
      exact ⟨v, by rw [List.getElem?_set_self (by rw [h.1]; exact l)], hp⟩
    · rw [if_neg l] at q
      cases q
  · rw [List.getElem?_set_ne z] at q ⊢
    exact h.2 j Q q
/-- forgetting -/
def Sub (G G' : Gm) : Prop := G.length = G'.length ∧ ∀ (i : Nat) (P : PV), G'[i]? = some (some P) → G[i]? = some (some P)
theorem Env.sub {G G' : Gm} {σ : L2.St} {F : Hp} (h : Env G σ F) (s : Sub G G') : Env G' σ F := ⟨h.1.trans s.1, fun i P q => h.2 i P (s.2 i P q)⟩

/-! ### what evaluates to what -/
def Ev (W : Wd) (te : TE) (σ : L2.St) (F : Hp) (P : PV) : Prop := ∀ H, Same F H → W.J F H → ∀ Q : VK, (∀ v F' H', Go W F H F' H' → P.p v F' → Q v H') → te σ H Q
def Ty (W : Wd) (G : Gm) (te : TE) (P : PV) : Prop := ∀ σ F, Env G σ F → Ev W te σ F P
def TyT (W : Wd) (G : Gm) (tt : TT) (b : Bool) : Prop := ∀ σ F, Env G σ F → ∀ H, Same F H → W.J F H → ∀ Q : Bool → Hp → Prop, (∀ F' H', Go W F H F' H' → Q b H') → tt σ H Q
def ARGS : List PV → List V → Hp → Prop
  | [], [], _ => True
  | P :: Ps, v :: vs, F => P.p v F ∧ ARGS Ps vs F
  | _, _, _ => False
def TyA (W : Wd) (G : Gm) (ta : TA) (Ps : List PV) : Prop := ∀ σ F, Env G σ F → ∀ H, Same F H → W.J F H → ∀ Q : List V → Hp → Prop, (∀ vs F' H', Go W F H F' H' → ARGS Ps vs F' → Q vs H') → ta σ H Q
/-- a new list of the data ds -/
def TyN (W : Wd) (G : Gm) (te : TE) (ds : List PyData) : Prop := ∀ σ F, Env G σ F → ∀ H, Same F H → W.J F H → ∀ Q : VK, (∀ l xs F1 H1, Go W F H F1 H1 → H1 l = none → RpAll F1 xs ds → Q (.ref l) (upd H1 l (.lst xs))) → te σ H Q
def RV2 (W : Wd) (r : R2) (P1 P2 P : PV) : Prop := ∀ x y F H, Same F H → W.J F H → P1.p x F → P2.p y F → ∀ Q : VK, (∀ v F' H', Go W F H F' H' → P.p v F' → Q v H') → r x y H Q
def RVs (W : Wd) (r : List V → Hp → VK → Prop) (Ps : List PV) (P : PV) : Prop := ∀ vs F H, Same F H → W.J F H → ARGS Ps vs F → ∀ Q : VK, (∀ v F' H', Go W F H F' H' → P.p v F' → Q v H') → r vs H Q
def RVsN (W : Wd) (r : List V → Hp → VK → Prop) (Ps : List PV) (ds : List PyData) : Prop := ∀ vs F H, Same F H → W.J F H → ARGS Ps vs F → ∀ Q : VK, (∀ l xs F1 H1, Go W F H F1 H1 → H1 l = none → RpAll F1 xs ds → Q (.ref l) (upd H1 l (.lst xs))) → r vs H Q
theorem ARGS.mono : ∀ {Ps : List PV} {vs : List V} {F F' : Hp}, Same F F' → ARGS Ps vs F → ARGS Ps vs F'
  | [], [], _, _, _, _ => trivial
  | P :: Ps, v :: vs, _, _, e, ⟨h1, h2⟩ => ⟨P.mono e h1, ARGS.mono e h2⟩
  | [], _ :: _, _, _, _, h => h.elim
  | _ :: _, [], _, _, _, h => h.elim
theorem ARGS.len : ∀ {Ps : List PV} {vs : List V} {F : Hp}, ARGS Ps vs F → vs.length = Ps.length
  | [], [], _, _ => rfl
  | P :: Ps, v :: vs, _, ⟨_, h2⟩ => congrArg (· + 1) (ARGS.len h2)
  | [], _ :: _, _, h => h.elim
  | _ :: _, [], _, h => h.elim
theorem ARGS.one {P : PV} {vs : List V} {F : Hp} (h : ARGS [P] vs F) : ∃ v, vs = [v] ∧ P.p v F := by
  match vs, h with
  | [v], h => exact ⟨v, rfl, h.1⟩
  | [], h => exact h.elim
  | _ :: _ :: _, h => exact h.2.elim
theorem ARGS.two {P P2 : PV} {vs : List V} {F : Hp} (h : ARGS [P, P2] vs F) : ∃ v w, vs = [v, w] ∧ P.p v F ∧ P2.p w F := by
  match vs, h with
  | [v, w], h => exact ⟨v, w, rfl, h.1, h.2.1⟩
  | [], h => exact h.elim
  | [_], h => exact h.2.elim
  | _ :: _ :: _ :: _, h => exact h.2.2.elim
/-- what data the arguments are, one list -/
theorem ARGS.all : ∀ {ds : List PyData} {vs : List V} {F : Hp}, ARGS (ds.map DV) vs F → RpAll F vs ds
  | [], [], _, _ => .nil
  | _ :: _, _ :: _, _, ⟨h1, h2⟩ => .cons h1 (ARGS.all h2)
  | [], _ :: _, _, h => h.elim
  | _ :: _, [], _, h => h.elim
end RC

end
section
set_option Elab.async false
set_option linter.all false
set_option maxRecDepth 100000
set_option maxHeartbeats 1000000
/-! RC, part 2: the rules of expressions. -/
namespace RC
open PySem L2
section
variable {W : Wd} {G : Gm} {ta tb tc te : TE} {t u : TT} {P P1 P2 P3 : PV} {r : R2}

/-! ### weakening, places, constants -/
theorem Ty.weak (h : Ty W G te P) (k : ∀ v F, P.p v F → P1.p v F) : Ty W G te P1 := fun σ F e H s j Q q => h σ F e H s j Q fun v F' H' g p => q v F' H' g (k v F' p)
theorem Ty.is {d d' : PyData} (h : Ty W G te (DV d)) (e : d = d') : Ty W G te (DV d') := by
  subst e
  exact h
theorem Ty.to {P' : PV} (h : Ty W G te P) (e : P = P') : Ty W G te P' := by
  subst e
  exact h
theorem TyT.is {b b' : Bool} (h : TyT W G t b) (e : b = b') : TyT W G t b' := by
  subst e
  exact h
theorem ty_var {i : Nat} (h : G[i]? = some (some P) := by rfl) : Ty W G (tVar i) P := fun σ F e H s j Q q =>
  let ⟨v, h1, h2⟩ := e.2 i P h
  ⟨v, h1, q v F H (Go.refl s j) h2⟩
theorem ty_c {x : V} (h : ∀ F, P.p x F) : Ty W G (tC x) P := fun σ F e H s j Q q => q x F H (Go.refl s j) (h F)
theorem ty_int {i : Int} : Ty W G (tC (.int i)) (IV i) := ty_c fun _ => .int i
theorem ty_bl {b : Bool} : Ty W G (tC (.bl b)) (BV b) := ty_c fun _ => .bl b
theorem ty_non : Ty W G (tC .non) (DV .none) := ty_c fun _ => .non
theorem ty_str {x : Str} : Ty W G (tC (.str x)) (DV (.str x)) := ty_c fun _ => .str x
theorem ty_x {x : V} : Ty W G (tC x) (XV x) := ty_c fun _ => rfl

/-! ### two places -/
theorem ty_op (ha : Ty W G ta P1) (hb : Ty W G tb P2) (hr : RV2 W r P1 P2 P) : Ty W G (tOp r ta tb) P := fun σ F e H s j Q q =>
  ha σ F e H s j _ fun x F1 H1 g1 p1 => hb σ F1 (e.mono (g1.le s)) H1 (g1.sm s j) g1.j _ fun y F2 H2 g2 p2 =>
    hr x y F2 H2 (g2.sm (g1.sm s j) g1.j) g2.j (P1.mono (g2.le (g1.sm s j)) p1) p2 Q fun v F3 H3 g3 p3 => q v F3 H3 ((g1.trans j g2).trans j g3) p3
theorem ty_un {r : V → Hp → VK → Prop} (ha : Ty W G ta P1) (hr : ∀ x F H, Same F H → W.J F H → P1.p x F → ∀ Q : VK, (∀ v F' H', Go W F H F' H' → P.p v F' → Q v H') → r x H Q) : Ty W G (tUn r ta) P := fun σ F e H s j Q q =>
  ha σ F e H s j _ fun x F1 H1 g1 p1 => hr x F1 H1 (g1.sm s j) g1.j p1 Q fun v F3 H3 g3 p3 => q v F3 H3 (g1.trans j g3) p3
theorem rv_I0 {g : Int → Int → V} {i j : Int} (h : ∀ F, P.p (g i j) F) : RV2 W (rI0 g) (IV i) (IV j) P := fun x y F H s jj p1 p2 Q q => ⟨i, j, IV.v p1, IV.v p2, q _ F H (Go.refl s jj) (h F)⟩
theorem rv_I {C : Int → Int → Prop} {g : Int → Int → V} {i j : Int} (hc : C i j) (h : ∀ F, P.p (g i j) F) : RV2 W (rI C g) (IV i) (IV j) P := fun x y F H s jj p1 p2 Q q => ⟨i, j, IV.v p1, IV.v p2, hc, q _ F H (Go.refl s jj) (h F)⟩
theorem rv_I0N {g : Int → Int → V} {φ ψ : Int → Prop} (h : ∀ i j F, φ i → ψ j → P.p (g i j) F) : RV2 W (rI0 g) (IN φ) (IN ψ) P := fun x y F H s jj ⟨i, e1, h1⟩ ⟨j, e2, h2⟩ Q q => ⟨i, j, e1, e2, q _ F H (Go.refl s jj) (h i j F h1 h2)⟩
theorem rv_IN {C : Int → Int → Prop} {g : Int → Int → V} {φ ψ : Int → Prop} (hc : ∀ i j, φ i → ψ j → C i j) (h : ∀ i j F, φ i → ψ j → P.p (g i j) F) : RV2 W (rI C g) (IN φ) (IN ψ) P := fun x y F H s jj ⟨i, e1, h1⟩ ⟨j, e2, h2⟩ Q q => ⟨i, j, e1, e2, hc i j h1 h2, q _ F H (Go.refl s jj) (h i j F h1 h2)⟩
theorem ty_IN {i : Int} {φ : Int → Prop} (h : Ty W G te (IV i)) (hi : φ i) : Ty W G te (IN φ) := h.weak fun v F p => ⟨i, IV.v p, hi⟩

/-- + : ints, lists, tuples -/
def rAddA (K : PySem.W.Frag) : R2 := fun x y H Q => rI0 (fun i j => .int (i + j)) x y H Q ∨ (rCat x y H Q ∨ rCatA K x y H Q)
theorem op_addA {X : Cx} : OpR X (binaryOp .Add) (rAddA X.K) := OpR.or op_add (OpR.or op_cat op_catA)
def rSubI : R2 := rI0 fun i j => .int (i - j)
def rMulI : R2 := rI CMul fun i j => .int (i * j)
def rModI : R2 := rI (fun _ j => 0 < j) fun i j => .int (i % j)
def rDivI : R2 := rI CDiv fun i j => .int (i / j)
def rPowI : R2 := rI CPow fun i j => .int (i ^ j.toNat)
def rLtI : R2 := rI0 fun i j => .bl (decide (i < j))
def rLeI : R2 := rI0 fun i j => .bl (decide (i ≤ j))
def rGtI : R2 := rI0 fun i j => .bl (decide (j < i))
def rGeI : R2 := rI0 fun i j => .bl (decide (j ≤ i))
def rIsNo : R2 := fun x y H Q => y = .non ∧ Q (.bl (decide (x = .non))) H
def rNotNo : R2 := fun x y H Q => y = .non ∧ Q (.bl (!decide (x = .non))) H
section
variable {X : Cx}
theorem op_subI : OpR X (binaryOp .Sub) rSubI := op_sub
theorem op_mulI : OpR X (binaryOp .Mult) rMulI := op_mul
theorem op_modI : OpR X (binaryOp .Mod) rModI := op_mod
theorem op_divI : OpR X (binaryOp .FloorDiv) rDivI := op_fdiv
theorem op_powI : OpR X (binaryOp .Pow) rPowI := op_pow
theorem op_ltI : OpR X (compareOp .Lt) rLtI := op_lt
theorem op_leI : OpR X (compareOp .LtE) rLeI := op_le
theorem op_gtI : OpR X (compareOp .Gt) rGtI := op_gt
theorem op_geI : OpR X (compareOp .GtE) rGeI := op_ge
theorem op_isNo : OpR X (compareOp .Is) rIsNo := op_isN
theorem op_notNo : OpR X (compareOp .IsNot) rNotNo := op_notN
end
variable {K : PySem.W.Frag} {i j : Int}
theorem ty_add (ha : Ty W G ta (IV i)) (hb : Ty W G tb (IV j)) : Ty W G (tOp (rAddA K) ta tb) (IV (i + j)) := ty_op ha hb fun x y F H s jj p1 p2 Q q => .inl (rv_I0 (g := fun i j => .int (i + j)) (P := IV (i + j)) (fun _ => .int (i + j)) x y F H s jj p1 p2 Q q)
theorem ty_addN {φ ψ χ : Int → Prop} (ha : Ty W G ta (IN φ)) (hb : Ty W G tb (IN ψ)) (h : ∀ i j, φ i → ψ j → χ (i + j)) : Ty W G (tOp (rAddA K) ta tb) (IN χ) :=
  ty_op ha hb fun x y F H s jj p1 p2 Q q => .inl (rv_I0N (g := fun i j => .int (i + j)) (P := IN χ) (fun i j _ h1 h2 => ⟨_, rfl, h i j h1 h2⟩) x y F H s jj p1 p2 Q q)
theorem ty_sub (ha : Ty W G ta (IV i)) (hb : Ty W G tb (IV j)) : Ty W G (tOp rSubI ta tb) (IV (i - j)) := ty_op ha hb (rv_I0 fun _ => .int _)
theorem ty_mul (ha : Ty W G ta (IV i)) (hb : Ty W G tb (IV j)) (hc : CMul i j) : Ty W G (tOp rMulI ta tb) (IV (i * j)) := ty_op ha hb (rv_I hc fun _ => .int _)
theorem ty_mod (ha : Ty W G ta (IV i)) (hb : Ty W G tb (IV j)) (hc : 0 < j) : Ty W G (tOp rModI ta tb) (IV (i % j)) := ty_op ha hb (rv_I hc fun _ => .int _)
theorem ty_div (ha : Ty W G ta (IV i)) (hb : Ty W G tb (IV j)) (hc : CDiv i j) : Ty W G (tOp rDivI ta tb) (IV (i / j)) := ty_op ha hb (rv_I hc fun _ => .int _)
theorem ty_pow (ha : Ty W G ta (IV i)) (hb : Ty W G tb (IV j)) (hc : CPow i j) : Ty W G (tOp rPowI ta tb) (IV (i ^ j.toNat)) := ty_op ha hb (rv_I hc fun _ => .int _)
theorem ty_lt (ha : Ty W G ta (IV i)) (hb : Ty W G tb (IV j)) : Ty W G (tOp rLtI ta tb) (BV (decide (i < j))) := ty_op ha hb (rv_I0 fun _ => .bl _)
theorem ty_le (ha : Ty W G ta (IV i)) (hb : Ty W G tb (IV j)) : Ty W G (tOp rLeI ta tb) (BV (decide (i ≤ j))) := ty_op ha hb (rv_I0 fun _ => .bl _)
theorem ty_gt (ha : Ty W G ta (IV i)) (hb : Ty W G tb (IV j)) : Ty W G (tOp rGtI ta tb) (BV (decide (j < i))) := ty_op ha hb (rv_I0 fun _ => .bl _)
theorem ty_ge (ha : Ty W G ta (IV i)) (hb : Ty W G tb (IV j)) : Ty W G (tOp rGeI ta tb) (BV (decide (j ≤ i))) := ty_op ha hb (rv_I0 fun _ => .bl _)
/-- what is None -/
def isNoD : PyData → Bool
  | .none => true
  | _ => false
theorem Rp.no {F : Hp} {v : V} {d : PyData} (h : Rp F v d) : decide (v = .non) = isNoD d := by
  cases h <;> simp [isNoD]
theorem ty_isN {d : PyData} (ha : Ty W G ta (DV d)) : Ty W G (tOp rIsNo ta (tC .non)) (BV (isNoD d)) := ty_op ha ty_non fun x y F H s jj p1 p2 Q q => ⟨by cases p2; rfl, q _ F H (Go.refl s jj) (by rw [Rp.no p1]; exact .bl _)⟩
theorem ty_notN {d : PyData} (ha : Ty W G ta (DV d)) : Ty W G (tOp rNotNo ta (tC .non)) (BV (!isNoD d)) := ty_op ha ty_non fun x y F H s jj p1 p2 Q q => ⟨by cases p2; rfl, q _ F H (Go.refl s jj) (by rw [Rp.no p1]; exact .bl _)⟩
theorem ty_notNX (ha : Ty W G ta P) (h : ∀ v F, P.p v F → v ≠ .non) : Ty W G (tOp rNotNo ta (tC .non)) (BV true) := ty_op ha ty_non fun x y F H s jj p1 p2 Q q => ⟨by cases p2; rfl, q _ F H (Go.refl s jj) (by rw [decide_eq_false (h x F p1)]; exact .bl _)⟩
/-- == and != of data -/
theorem ty_eq {d e : PyData} (ha : Ty W G ta (DV d)) (hb : Ty W G tb (DV e)) (hd : SeqAt.shaped d = true) (he : SeqAt.shaped e = true) : Ty W G (tOp (rEqD K) ta tb) (BV (PyData.eqv d e)) :=
  ty_op ha hb fun x y F H s jj p1 p2 Q q => ⟨d, e, Rp.dp (Rp.mono s p1), Rp.dp (Rp.mono s p2), hd, he, q _ F H (Go.refl s jj) (.bl _)⟩
theorem ty_ne {d e : PyData} (ha : Ty W G ta (DV d)) (hb : Ty W G tb (DV e)) (hd : SeqAt.shaped d = true) (he : SeqAt.shaped e = true) : Ty W G (tOp (rNeD K) ta tb) (BV (!PyData.eqv d e)) :=
  ty_op ha hb fun x y F H s jj p1 p2 Q q => ⟨d, e, Rp.dp (Rp.mono s p1), Rp.dp (Rp.mono s p2), hd, he, q _ F H (Go.refl s jj) (.bl _)⟩

/-! ### and, or, not; tests; a if t else b -/
theorem ty_and {a b : Bool} (ha : Ty W G ta (BV a)) (hb : a = true → Ty W G tb (BV b)) : Ty W G (tAndV ta tb) (BV (a && b)) := fun σ F e H s j Q q => ha σ F e H s j _ fun x F1 H1 g1 p1 => ⟨a, BV.v p1, by
  cases a with
  | true =>
    show tb σ H1 Q
    exact hb rfl σ F1 (e.mono (g1.le s)) H1 (g1.sm s j) g1.j Q fun v F2 H2 g2 p2 => q v F2 H2 (g1.trans j g2) p2
  | false =>
    show Q (.bl false) H1
    exact q _ F1 H1 g1 (.bl _)⟩
theorem ty_or {a b : Bool} (ha : Ty W G ta (BV a)) (hb : a = false → Ty W G tb (BV b)) : Ty W G (tOrV ta tb) (BV (a || b)) := fun σ F e H s j Q q => ha σ F e H s j _ fun x F1 H1 g1 p1 => ⟨a, BV.v p1, by
  cases a with
  | false =>
    show tb σ H1 Q
    exact hb rfl σ F1 (e.mono (g1.le s)) H1 (g1.sm s j) g1.j Q fun v F2 H2 g2 p2 => q v F2 H2 (g1.trans j g2) p2
  | true =>
    show Q (.bl true) H1
    exact q _ F1 H1 g1 (.bl _)⟩
theorem ty_not {a : Bool} (ha : Ty W G ta (BV a)) : Ty W G (tNotV ta) (BV (!a)) := fun σ F e H s j Q q => ha σ F e H s j _ fun x F1 H1 g1 p1 => ⟨a, BV.v p1, q _ F1 H1 g1 (.bl _)⟩
theorem tt_test {b : Bool} (h : Ty W G te (BV b)) : TyT W G (tTest te) b := fun σ F e H s j Q q => h σ F e H s j _ fun v F1 H1 g p => ⟨b, BV.v p, q F1 H1 g⟩
theorem tt_B {b : Bool} (h : Ty W G te (BV b)) : TyT W G (tB te) b := fun σ F e H s j Q q => h σ F e H s j _ fun v F1 H1 g p => ⟨b, BV.v p, q F1 H1 g⟩
theorem tt_yes : TyT W G tYes true := fun σ F e H s j Q q => q F H (Go.refl s j)
theorem tt_not {b : Bool} (h : TyT W G t b) : TyT W G (tNot t) (!b) := fun σ F e H s j Q q => h σ F e H s j _ fun F1 H1 g => q F1 H1 g
theorem tt_and {a b : Bool} (ha : TyT W G t a) (hb : a = true → TyT W G u b) : TyT W G (tAnd t u) (a && b) := fun σ F e H s j Q q => ha σ F e H s j _ fun F1 H1 g1 => by
  cases a with
  | true =>
    show u σ H1 Q
    exact hb rfl σ F1 (e.mono (g1.le s)) H1 (g1.sm s j) g1.j Q fun F2 H2 g2 => q F2 H2 (g1.trans j g2)
  | false =>
    show Q false H1
    exact q F1 H1 g1
theorem tt_or {a b : Bool} (ha : TyT W G t a) (hb : a = false → TyT W G u b) : TyT W G (tOr t u) (a || b) := fun σ F e H s j Q q => ha σ F e H s j _ fun F1 H1 g1 => by
  cases a with
  | false =>
    show u σ H1 Q
    exact hb rfl σ F1 (e.mono (g1.le s)) H1 (g1.sm s j) g1.j Q fun F2 H2 g2 => q F2 H2 (g1.trans j g2)
  | true =>
    show Q true H1
    exact q F1 H1 g1
theorem ty_if {b : Bool} (h : TyT W G t b) (h1 : b = true → Ty W G ta P) (h2 : b = false → Ty W G tb P) : Ty W G (tIf t ta tb) P := fun σ F e H s j Q q => h σ F e H s j _ fun F1 H1 g1 => by
  cases b with
  | true =>
    show ta σ H1 Q
    exact h1 rfl σ F1 (e.mono (g1.le s)) H1 (g1.sm s j) g1.j Q fun v F2 H2 g2 p2 => q v F2 H2 (g1.trans j g2) p2
  | false =>
    show tb σ H1 Q
    exact h2 rfl σ F1 (e.mono (g1.le s)) H1 (g1.sm s j) g1.j Q fun v F2 H2 g2 p2 => q v F2 H2 (g1.trans j g2) p2
theorem ty_chain {r r' : R2} {a b : Bool} (ha : Ty W G ta P1) (hb : Ty W G tb P2) (hc : a = true → Ty W G tc P3) (h1 : RV2 W r P1 P2 (BV a)) (h2 : a = true → RV2 W r' P2 P3 (BV b)) : Ty W G (tChain r r' ta tb tc) (BV (a && b)) := fun σ F e H s j Q q =>
  ha σ F e H s j _ fun x F1 H1 g1 p1 => hb σ F1 (e.mono (g1.le s)) H1 (g1.sm s j) g1.j _ fun y F2 H2 g2 p2 =>
    have s2 := g2.sm (g1.sm s j) g1.j
    have g12 := g1.trans j g2
    h1 x y F2 H2 s2 g2.j (P1.mono (g2.le (g1.sm s j)) p1) p2 _ fun z F3 H3 g3 p3 => ⟨a, BV.v p3, by
      have g13 := g12.trans j g3
      have s3 := g3.sm s2 g2.j
      cases a with
      | true =>
        show tc σ H3 fun w' H4 => r' y w' H4 Q
        refine hc rfl σ F3 (e.mono (g13.le s)) H3 s3 g3.j _ fun w F4 H4 g4 p4 => h2 rfl y w F4 H4 (g4.sm s3 g3.j) g4.j (P2.mono (g4.le s3) (P2.mono (g3.le s2) p2)) p4 Q fun v F5 H5 g5 p5 => q v F5 H5 ((g13.trans j g4).trans j g5) p5
      | false =>
        show Q (.bl false) H3
        exact q _ F3 H3 g13 (.bl _)⟩
theorem ty_leleI {i j k : Int} (ha : Ty W G ta (IV i)) (hb : Ty W G tb (IV j)) (hc : Ty W G tc (IV k)) : Ty W G (tChain rLeI rLeI ta tb tc) (BV (decide (i ≤ j) && decide (j ≤ k))) := ty_chain ha hb (fun _ => hc) (rv_I0 fun _ => .bl _) (fun _ => rv_I0 fun _ => .bl _)
theorem ty_ltltI {i j k : Int} (ha : Ty W G ta (IV i)) (hb : Ty W G tb (IV j)) (hc : Ty W G tc (IV k)) : Ty W G (tChain rLtI rLtI ta tb tc) (BV (decide (i < j) && decide (j < k))) := ty_chain ha hb (fun _ => hc) (rv_I0 fun _ => .bl _) (fun _ => rv_I0 fun _ => .bl _)

/-! ### arguments, displays -/
theorem ta_nil : TyA W G tNil [] := fun σ F e H s j Q q => q [] F H (Go.refl s j) trivial
theorem ta_cons {tr : TA} {Ps : List PV} (h : Ty W G te P) (hr : TyA W G tr Ps) : TyA W G (tCons te tr) (P :: Ps) := fun σ F e H s j Q q =>
  h σ F e H s j _ fun x F1 H1 g1 p1 => hr σ F1 (e.mono (g1.le s)) H1 (g1.sm s j) g1.j _ fun vs F2 H2 g2 p2 => q (x :: vs) F2 H2 (g1.trans j g2) ⟨P.mono (g2.le (g1.sm s j)) p1, p2⟩
theorem szOk {n : Nat} (h : n ≤ 100000) : n ≤ sizeLine := Nat.le_trans h (by decide)
theorem szLt {n : Nat} (h : n < 100000) : n < sizeLine := Nat.lt_of_lt_of_le h (by decide)
theorem ty_tup {ta : TA} {ds : List PyData} (h : TyA W G ta (ds.map DV)) (hl : ds.length ≤ 100000 := by decide) : Ty W G (tTup ta) (DV (.tuple ds)) := fun σ F e H s j Q q =>
  h σ F e H s j _ fun vs F1 H1 g1 p1 => ⟨szOk (by rw [ARGS.len p1, List.length_map]; exact hl), fun p hp =>
    have n := Go.new (o := .tup vs) (g1.sm s j) g1.j hp
    q _ _ _ (g1.trans j n) (.tup upd_same (RpAll.mono (n.le (g1.sm s j)) (ARGS.all p1)))⟩
theorem tn_lst {ta : TA} {ds : List PyData} (h : TyA W G ta (ds.map DV)) (hl : ds.length ≤ 100000 := by decide) : TyN W G (tLst ta) ds := fun σ F e H s j Q q =>
  h σ F e H s j _ fun vs F1 H1 g1 p1 => ⟨szOk (by rw [ARGS.len p1, List.length_map]; exact hl), fun p hp => q p vs F1 H1 g1 hp (ARGS.all p1)⟩
/-- a new list, as data -/
theorem TyN.ty {ds : List PyData} (h : TyN W G te ds) : Ty W G te (DV (.list ds)) := fun σ F e H s j Q q => h σ F e H s j _ fun l xs F1 H1 g1 n p =>
  have g2 := Go.new (o := .lst xs) (g1.sm s j) g1.j n
  q _ _ _ (g1.trans j g2) (.lst upd_same (RpAll.mono (g2.le (g1.sm s j)) p))
theorem TyN.is {ds es : List PyData} (h : TyN W G te ds) (e : ds = es) : TyN W G te es := by
  subst e
  exact h

/-! ### + of lists, of tuples -/
theorem tn_cat {ds es : List PyData} (ha : Ty W G ta (DV (.list ds))) (hb : Ty W G tb (DV (.list es))) (hl : ds.length + es.length ≤ 100000) : TyN W G (tOp (rAddA K) ta tb) (ds ++ es) := fun σ F e H s j Q q =>
  ha σ F e H s j _ fun x F1 H1 g1 p1 => hb σ F1 (e.mono (g1.le s)) H1 (g1.sm s j) g1.j _ fun y F2 H2 g2 p2 => by
    have s2 := g2.sm (g1.sm s j) g1.j
    have p1' := (DV (.list ds)).mono (g2.le (g1.sm s j)) p1
    cases p1' with
    | lst h1 r1 =>
      cases p2 with
      | lst h2 r2 => exact .inr (.inl ⟨_, _, _, _, rfl, rfl, s2 _ _ h1, s2 _ _ h2, szOk (by rw [r1.length, r2.length]; exact hl), fun p hp => q p _ F2 H2 (g1.trans j g2) hp (r1.app r2)⟩)
theorem ty_catT {ds es : List PyData} (ha : Ty W G ta (DV (.tuple ds))) (hb : Ty W G tb (DV (.tuple es))) (hl : ds.length + es.length ≤ 100000) : Ty W G (tOp (rAddA K) ta tb) (DV (.tuple (ds ++ es))) :=
  ty_op ha hb fun x y F H s j p1 p2 Q q => by
    cases p1 with
    | @tup a xs _ h1 r1 =>
      cases p2 with
      | @tup b ys _ h2 r2 =>
        refine .inr (.inr ⟨_, _, _, _, rfl, rfl, SqT.of (s _ _ h1), SqT.of (s _ _ h2), szOk (by rw [r1.length, r2.length]; exact hl), fun z => ?_, fun _ z => ?_, fun _ _ p hp => ?_⟩)
        · subst z
          cases r1
          exact q _ F H (Go.refl s j) (.tup h2 r2)
        · subst z
          cases r2
          rw [List.append_nil] at q
          exact q _ F H (Go.refl s j) (.tup h1 r1)
        · have n := Go.new (o := .tup (xs ++ ys)) s j hp
          exact q _ _ _ n (.tup upd_same (RpAll.mono (n.le s) (r1.app r2)))

/-! ### places -/
/-- a list or a tuple -/
def rIxA (K : PySem.W.Frag) : R2 := fun x y H Q => rIxL K x y H Q ∨ rIxT K x y H Q
theorem ix_any {X : Cx} : IxR X (rIxA X.K) := IxR.or ix_list ix_tup
theorem atI_map {α β : Type} (f : α → β) (xs : List α) (i : Int) : atI (xs.map f) i = (atI xs i).map f := by
  unfold atI
  rw [List.length_map]
  cases ixN xs.length i with
  | none => rfl
  | some j =>
    show (xs.map f)[j]? = (xs[j]?).map f
    rw [List.getElem?_map]
theorem RpAll.at_ {F : Hp} {vs : List V} {ds : List PyData} {i : Int} {d : PyData} (h : RpAll F vs ds) (e : atI ds i = some d) : ∃ v, atI vs i = some v ∧ Rp F v d := by
  unfold atI at e ⊢
  rw [h.length]
  cases q : ixN ds.length i with
  | none =>
    rw [q] at e
    cases e
  | some j =>
    rw [q] at e
    exact h.get e
theorem ty_ixT {ds : List PyData} {d : PyData} (ha : Ty W G ta (DV (.tuple ds))) (hb : Ty W G tb (IV i)) (h : atI ds i = some d) : Ty W G (tOp (rIxA K) ta tb) (DV d) := ty_op ha hb fun x y F H s j p1 p2 Q q => by
  cases p1 with
  | tup h1 r1 =>
    obtain ⟨v, h2, h3⟩ := r1.at_ h
    exact .inr ⟨_, _, i, v, rfl, IV.v p2, SqT.of (s _ _ h1), h2, q v F H (Go.refl s j) h3⟩
theorem ty_ixL {ds : List PyData} {d : PyData} (ha : Ty W G ta (DV (.list ds))) (hb : Ty W G tb (IV i)) (h : atI ds i = some d) : Ty W G (tOp (rIxA K) ta tb) (DV d) := ty_op ha hb fun x y F H s j p1 p2 Q q => by
  cases p1 with
  | lst h1 r1 =>
    obtain ⟨v, h2, h3⟩ := r1.at_ h
    exact .inl ⟨_, _, i, v, rfl, IV.v p2, SqL.of (s _ _ h1), h2, q v F H (Go.refl s j) h3⟩
/-- slices of lists, of tuples -/
def rSlB (K : PySem.W.Frag) : V → Option Int → Option Int → Hp → VK → Prop := fun x lo hi H Q => rSlL K x lo hi H Q ∨ rSlA K x lo hi H Q
theorem sl_any {X : Cx} : SlR X (rSlB X.K) := SlR.or sl_list sl_tupA
/-- a slice of data -/
def cutD (ds : List PyData) (lo hi : Option Int) : List PyData := (ds.drop (HT.sIx ds.length 0 lo)).take (HT.sIx ds.length ds.length hi - HT.sIx ds.length 0 lo)
theorem RpAll.cut {F : Hp} {vs : List V} {ds : List PyData} (h : RpAll F vs ds) (lo hi : Option Int) : RpAll F (cutV vs lo hi) (cutD ds lo hi) := by
  unfold cutV cutD
  rw [h.length]
  exact (h.drop _).take _
def TyO (W : Wd) (G : Gm) (to : TO) (o : Option Int) : Prop := ∀ σ F, Env G σ F → ∀ H, Same F H → W.J F H → ∀ Q : Option Int → Hp → Prop, (∀ F' H', Go W F H F' H' → Q o H') → to σ H Q
theorem to_no : TyO W G tNoPart none := fun σ F e H s j Q q => q F H (Go.refl s j)
theorem to_some (h : Ty W G te (IV i)) : TyO W G (tPart te) (some i) := fun σ F e H s j Q q => h σ F e H s j _ fun v F1 H1 g p => ⟨i, IV.v p, q F1 H1 g⟩
theorem ty_slT {ds : List PyData} {lo hi : Option Int} {tl th : TO} (ha : Ty W G ta (DV (.tuple ds))) (hl : TyO W G tl lo) (hh : TyO W G th hi) : Ty W G (tSl (rSlB K) ta tl th) (DV (.tuple (cutD ds lo hi))) := fun σ F e H s j Q q =>
  ha σ F e H s j _ fun x F1 H1 g1 p1 => hl σ F1 (e.mono (g1.le s)) H1 (g1.sm s j) g1.j _ fun F2 H2 g2 =>
    have s2 := g2.sm (g1.sm s j) g1.j
    have g12 := g1.trans j g2
    hh σ F2 (e.mono (g12.le s)) H2 s2 g2.j _ fun F3 H3 g3 => by
      have s3 := g3.sm s2 g2.j
      have g13 := g12.trans j g3
      have p3 := (DV (.tuple ds)).mono (g3.le s2) ((DV (.tuple ds)).mono (g2.le (g1.sm s j)) p1)
      cases p3 with
      | @tup a xs _ h1 r1 =>
        refine .inr ⟨a, xs, rfl, SqT.of (s3 _ _ h1), fun z => ?_, fun _ p hp => ?_⟩
        · have ez : cutD ds lo hi = ds := by
            unfold cutD
            rw [← r1.length, z.1, z.2, List.drop_zero]
            exact List.take_of_length_le (by rw [r1.length]; omega)
          rw [ez] at q
          exact q _ F3 H3 g13 (.tup h1 r1)
        · have n := Go.new (o := .tup (cutV xs lo hi)) s3 g3.j hp
          exact q _ _ _ (g13.trans j n) (.tup upd_same (RpAll.mono (n.le s3) (r1.cut lo hi)))
theorem tn_slL {ds : List PyData} {lo hi : Option Int} {tl th : TO} (ha : Ty W G ta (DV (.list ds))) (hl : TyO W G tl lo) (hh : TyO W G th hi) : TyN W G (tSl (rSlB K) ta tl th) (cutD ds lo hi) := fun σ F e H s j Q q =>
  ha σ F e H s j _ fun x F1 H1 g1 p1 => hl σ F1 (e.mono (g1.le s)) H1 (g1.sm s j) g1.j _ fun F2 H2 g2 =>
    have s2 := g2.sm (g1.sm s j) g1.j
    have g12 := g1.trans j g2
    hh σ F2 (e.mono (g12.le s)) H2 s2 g2.j _ fun F3 H3 g3 => by
      have s3 := g3.sm s2 g2.j
      have g13 := g12.trans j g3
      have p3 := (DV (.list ds)).mono (g3.le s2) ((DV (.list ds)).mono (g2.le (g1.sm s j)) p1)
      cases p3 with
      | lst h1 r1 => exact .inl ⟨_, _, rfl, SqL.of (s3 _ _ h1), fun p hp => q p _ F3 H3 g13 hp (r1.cut lo hi)⟩
end
end RC

end
section
set_option Elab.async false
set_option linter.all false
set_option maxRecDepth 100000
set_option maxHeartbeats 1000000
/-! RC, part 3: built-ins, fields, calls of defs. -/
namespace RC
open PySem L2
section
variable {W : Wd} {G : Gm} {ta tb tc te : TE} {t u : TT} {P P1 P2 P3 : PV} {K : PySem.W.Frag}

theorem ty_cb {r : List V → Hp → VK → Prop} {ta : TA} {Ps : List PV} (h : TyA W G ta Ps) (hr : RVs W r Ps P) : Ty W G (tCB r ta) P := fun σ F e H s j Q q =>
  h σ F e H s j _ fun vs F1 H1 g1 p1 => hr vs F1 H1 (g1.sm s j) g1.j p1 Q fun v F2 H2 g2 p2 => q v F2 H2 (g1.trans j g2) p2
theorem tn_cb {r : List V → Hp → VK → Prop} {ta : TA} {Ps : List PV} {ds : List PyData} (h : TyA W G ta Ps) (hr : RVsN W r Ps ds) : TyN W G (tCB r ta) ds := fun σ F e H s j Q q =>
  h σ F e H s j _ fun vs F1 H1 g1 p1 => hr vs F1 H1 (g1.sm s j) g1.j p1 Q fun l xs F2 H2 g2 n p2 => q l xs F2 H2 (g1.trans j g2) n p2
theorem rv1 {r : List V → Hp → VK → Prop} (h : ∀ x F H, Same F H → W.J F H → P1.p x F → ∀ Q : VK, (∀ v F' H', Go W F H F' H' → P.p v F' → Q v H') → r [x] H Q) : RVs W r [P1] P := fun vs F H s j p Q q => by
  obtain ⟨v, rfl, hp⟩ := p.one
  exact h v F H s j hp Q q
theorem rv1N {r : List V → Hp → VK → Prop} {ds : List PyData} (h : ∀ x F H, Same F H → W.J F H → P1.p x F → ∀ Q : VK, (∀ l xs F1 H1, Go W F H F1 H1 → H1 l = none → RpAll F1 xs ds → Q (.ref l) (upd H1 l (.lst xs))) → r [x] H Q) : RVsN W r [P1] ds := fun vs F H s j p Q q => by
  obtain ⟨v, rfl, hp⟩ := p.one
  exact h v F H s j hp Q q
/-! ### len, sum, max, min, all, any -/
def rLen (K : PySem.W.Frag) : List V → Hp → VK → Prop := fun xs H Q => ∃ x n, xs = [x] ∧ LenV K x H n ∧ Q (.int (n : Nat)) H
theorem call_lenA {X : Cx} : CallR X (.builtin "len") (rLen X.K) := call_len
theorem ty_lenT {ds : List PyData} (h : Ty W G te (DV (.tuple ds))) : Ty W G (tCB (rLen K) (tCons te tNil)) (IV (ds.length : Nat)) := ty_cb (ta_cons h ta_nil) (rv1 fun x F H s j p Q q => by
  cases p with
  | @tup a xs _ h1 r1 => exact ⟨_, xs.length, rfl, .inr ⟨xs, SqT.of (s _ _ h1), rfl⟩, q _ F H (Go.refl s j) (by rw [r1.length]; exact .int _)⟩)
theorem ty_lenL {ds : List PyData} (h : Ty W G te (DV (.list ds))) : Ty W G (tCB (rLen K) (tCons te tNil)) (IV (ds.length : Nat)) := ty_cb (ta_cons h ta_nil) (rv1 fun x F H s j p Q q => by
  cases p with
  | @lst a xs _ h1 r1 => exact ⟨_, xs.length, rfl, .inl ⟨xs, SqL.of (s _ _ h1), rfl⟩, q _ F H (Go.refl s j) (by rw [r1.length]; exact .int _)⟩)
theorem ty_sum {ns : List Int} (h : Ty W G te (DV (.list (ns.map .int)))) : Ty W G (tCB (rSum K) (tCons te tNil)) (IV ns.sum) := ty_cb (ta_cons h ta_nil) (rv1 fun x F H s j p Q q => by
  cases p with
  | @lst a xs _ h1 r1 =>
    have e := r1.ints
    subst e
    exact ⟨a, ns, rfl, SqL.of (s _ _ h1), q _ F H (Go.refl s j) (.int _)⟩)
theorem ty_max {ns : List Int} {m : Int} (h : Ty W G te (DV (.list (ns.map .int)))) (hm : m ∈ ns) (hb : ∀ y ∈ ns, y ≤ m) : Ty W G (tCB (rMax K) (tCons te tNil)) (IV m) := ty_cb (ta_cons h ta_nil) (rv1 fun x F H s j p Q q => by
  cases p with
  | @lst a xs _ h1 r1 =>
    have e := r1.ints
    subst e
    refine ⟨a, ns, rfl, SqL.of (s _ _ h1), List.length_pos_of_mem hm, fun m' hm' hb' => ?_⟩
    have z : m' = m := Int.le_antisymm (hb _ hm') (hb' _ hm)
    rw [z]
    exact q _ F H (Go.refl s j) (.int _))
theorem ty_min {ns : List Int} {m : Int} (h : Ty W G te (DV (.list (ns.map .int)))) (hm : m ∈ ns) (hb : ∀ y ∈ ns, m ≤ y) : Ty W G (tCB (rMin K) (tCons te tNil)) (IV m) := ty_cb (ta_cons h ta_nil) (rv1 fun x F H s j p Q q => by
  cases p with
  | @lst a xs _ h1 r1 =>
    have e := r1.ints
    subst e
    refine ⟨a, ns, rfl, SqL.of (s _ _ h1), List.length_pos_of_mem hm, fun m' hm' hb' => ?_⟩
    have z : m' = m := Int.le_antisymm (hb' _ hm) (hb _ hm')
    rw [z]
    exact q _ F H (Go.refl s j) (.int _))
theorem ty_all {bs : List Bool} (h : Ty W G te (DV (.list (bs.map .bool)))) : Ty W G (tCB (rAll K) (tCons te tNil)) (BV (bs.all id)) := ty_cb (ta_cons h ta_nil) (rv1 fun x F H s j p Q q => by
  cases p with
  | @lst a xs _ h1 r1 =>
    have e := r1.bools
    subst e
    exact ⟨a, bs, rfl, SqL.of (s _ _ h1), q _ F H (Go.refl s j) (.bl _)⟩)
theorem ty_any {bs : List Bool} (h : Ty W G te (DV (.list (bs.map .bool)))) : Ty W G (tCB (rAny K) (tCons te tNil)) (BV (bs.any id)) := ty_cb (ta_cons h ta_nil) (rv1 fun x F H s j p Q q => by
  cases p with
  | @lst a xs _ h1 r1 =>
    have e := r1.bools
    subst e
    exact ⟨a, bs, rfl, SqL.of (s _ _ h1), q _ F H (Go.refl s j) (.bl _)⟩)
def rMin2 : List V → Hp → VK → Prop := fun xs H Q => ∃ i j, xs = [.int i, .int j] ∧ Q (.int (if j < i then j else i)) H
theorem call_min2A {X : Cx} (hc : X.calm = true) : CallR X (.builtin "min") rMin2 := call_min2 hc
theorem ty_min2 {i j : Int} (h : Ty W G ta (IV i)) (h2 : Ty W G tb (IV j)) : Ty W G (tCB rMin2 (tCons ta (tCons tb tNil))) (IV (if j < i then j else i)) := ty_cb (ta_cons h (ta_cons h2 ta_nil)) fun vs F H s jj p Q q => by
  obtain ⟨v, w, rfl, p1, p2⟩ := p.two
  exact ⟨i, j, by rw [IV.v p1, IV.v p2], q _ F H (Go.refl s jj) (.int _)⟩
def rAbs : List V → Hp → VK → Prop := fun xs H Q => ∃ i, xs = [.int i] ∧ Q (.int (if i < 0 then -i else i)) H
theorem call_absA {X : Cx} : CallR X (.builtin "abs") rAbs := call_abs
theorem ty_abs {i : Int} (h : Ty W G te (IV i)) : Ty W G (tCB rAbs (tCons te tNil)) (IV (if i < 0 then -i else i)) := ty_cb (ta_cons h ta_nil) (rv1 fun x F H s j p Q q => ⟨i, by rw [IV.v p], q _ F H (Go.refl s j) (.int _)⟩)
def rInt1 : List V → Hp → VK → Prop := fun xs H Q => (∃ i, xs = [.int i] ∧ Q (.int i) H) ∨ ∃ k, xs = [.bl k] ∧ Q (.int (if k then 1 else 0)) H
theorem call_intA {X : Cx} : CallR X (.type "int") rInt1 := call_int1
theorem ty_int1 {i : Int} (h : Ty W G te (IV i)) : Ty W G (tCB rInt1 (tCons te tNil)) (IV i) := ty_cb (ta_cons h ta_nil) (rv1 fun x F H s j p Q q => .inl ⟨i, by rw [IV.v p], q _ F H (Go.refl s j) (.int _)⟩)
/-! ### tuple(list), list(list), list(tuple) -/
def rListS (K : PySem.W.Frag) : List V → Hp → VK → Prop := fun xs H Q => ∃ p ys, xs = [.ref p] ∧ (SqL K H p ys ∨ SqT K H p ys) ∧ ∀ l, H l = none → Q (.ref l) (upd H l (.lst ys))
theorem call_listS {X : Cx} : CallR X (.type "list") (rListS X.K) := fun pins s σ H xs us Q I r h => by
  obtain ⟨p, ys, e, hh, q⟩ := h
  exact call_list_of pins s σ H xs us Q I r ⟨p, ys, e, hh, q⟩
theorem tn_listT {ds : List PyData} (h : Ty W G te (DV (.tuple ds))) : TyN W G (tCB (rListS K) (tCons te tNil)) ds := tn_cb (ta_cons h ta_nil) (rv1N fun x F H s j p Q q => by
  cases p with
  | @tup a xs _ h1 r1 => exact ⟨a, xs, rfl, .inr (SqT.of (s _ _ h1)), fun l hl => q l xs F H (Go.refl s j) hl r1⟩)
theorem tn_listL {ds : List PyData} (h : Ty W G te (DV (.list ds))) : TyN W G (tCB (rListS K) (tCons te tNil)) ds := tn_cb (ta_cons h ta_nil) (rv1N fun x F H s j p Q q => by
  cases p with
  | @lst a xs _ h1 r1 => exact ⟨a, xs, rfl, .inl (SqL.of (s _ _ h1)), fun l hl => q l xs F H (Go.refl s j) hl r1⟩)
theorem ty_tupleL {ds : List PyData} (h : Ty W G te (DV (.list ds))) : Ty W G (tThen te (kTup K)) (DV (.tuple ds)) := fun σ F e H s j Q q =>
  h σ F e H s j _ fun x F1 H1 g1 p => by
    have s1 := g1.sm s j
    cases p with
    | @lst a xs _ h1 r1 =>
      refine .inl ⟨a, xs, rfl, SqL.of (s1 _ _ h1), fun l hl => ?_⟩
      have n := Go.new (o := .tup xs) s1 g1.j hl
      exact q _ _ _ (g1.trans j n) (.tup upd_same (RpAll.mono (n.le s1) r1))
theorem ty_tupleT {ds : List PyData} (h : Ty W G te (DV (.tuple ds))) : Ty W G (tThen te (kTup K)) (DV (.tuple ds)) := fun σ F e H s j Q q =>
  h σ F e H s j _ fun x F1 H1 g1 p => by
    have s1 := g1.sm s j
    cases p with
    | @tup a xs _ h1 r1 => exact .inr ⟨a, xs, rfl, SqT.of (s1 _ _ h1), q _ F1 H1 g1 (.tup h1 r1)⟩
/-! ### list(range(..)) -/
def TyR (W : Wd) (G : Gm) (tr : L2.St → Hp → (Int → Int → Hp → Prop) → Prop) (a b : Int) : Prop := ∀ σ F, Env G σ F → ∀ H, Same F H → W.J F H → ∀ Q : Int → Int → Hp → Prop, (∀ F' H', Go W F H F' H' → Q a b H') → tr σ H Q
theorem tr_1 {i : Int} (h : Ty W G te (IV i)) : TyR W G (tRg1 te) 0 i := fun σ F e H s j Q q => h σ F e H s j _ fun x F1 H1 g1 p => ⟨i, IV.v p, q F1 H1 g1⟩
theorem tr_2 {i k : Int} (h : Ty W G ta (IV i)) (h2 : Ty W G tb (IV k)) : TyR W G (tRg2 ta tb) i k := fun σ F e H s j Q q => h σ F e H s j _ fun x F1 H1 g1 p =>
  h2 σ F1 (e.mono (g1.le s)) H1 (g1.sm s j) g1.j _ fun y F2 H2 g2 p2 => ⟨i, k, IV.v p, IV.v p2, q F2 H2 (g1.trans j g2)⟩
def rgD (a b : Int) : List PyData := (List.range (b - a).toNat).map fun i => PyData.int (a + (i : Nat))
theorem tn_listR {tr : L2.St → Hp → (Int → Int → Hp → Prop) → Prop} {a b : Int} (h : TyR W G tr a b) (ok : RgOk a b) : TyN W G (tLstRg tr) (rgD a b) := fun σ F e H s j Q q =>
  h σ F e H s j _ fun F1 H1 g1 => ⟨ok, fun l hl => q l (rgV a b) F1 H1 g1 hl (by
    unfold rgV rgD
    have z : ∀ ns : List Nat, RpAll F1 (ns.map fun i => V.int (a + (i : Nat))) (ns.map fun i => PyData.int (a + (i : Nat))) := fun ns => by
      induction ns with
      | nil => exact .nil
      | cons n r ih => exact .cons (.int _) ih
    exact z _)⟩
/-! ### isinstance: the answers that come -/
def rIsT (K : PySem.W.Frag) : List V → Hp → VK → Prop := rIsi K
theorem call_isT {X : Cx} : CallR X (.builtin "isinstance") (rIsT X.K) := call_isi
/-- the built-in type of data -/
def tyD : PyData → String
  | .none => "NoneType"
  | .bool _ => "bool"
  | .int _ => "int"
  | .str _ => "str"
  | .list _ => "list"
  | .tuple _ => "tuple"
  | .dict _ => "dict"
theorem Rp.ty {F H : Hp} {v : V} {d : PyData} (h : Rp F v d) (s : Same F H) : TyOf K H v (.type (tyD d)) := by
  cases h with
  | non => exact .non
  | bl b => exact .bl b
  | int i => exact .int i
  | str x => exact .str x
  | lst h hs => exact .lst (s _ _ h)
  | tup h hs => exact .tup (s _ _ h)
theorem ty_isi {d : PyData} {n : String} {b : Bool} (h : Ty W G te (DV d)) (hk : kitB (tyD d) n = some b) : Ty W G (tCB (rIsT K) (tCons te (tCons (tC (.ty n)) tNil))) (BV b) := ty_cb (ta_cons h (ta_cons ty_x ta_nil)) fun vs F H s j p Q q => by
  obtain ⟨v, w, rfl, p1, p2⟩ := p.two
  have p2' : w = .ty n := p2
  subst p2'
  exact ⟨v, .ty n, .type (tyD d), .type n, b, rfl, .ty n, .base (Rp.ty p1 s), kit_ty hk, q _ F H (Go.refl s j) (.bl _)⟩

/-! ### in -/
def eqD : PyData → PyData → Bool
  | .none, .none => true
  | .int a, .int b => a == b
  | .str a, .str b => a == b
  | _, _ => false
/-- an int among ints -/
theorem inV_ints {i : Int} : ∀ (ns : List Int), inV (.int i) (ns.map V.int) = decide (i ∈ ns)
  | [] => by simp [inV]
  | n :: ns => by
    have h := inV_ints (i := i) ns
    unfold inV at h ⊢
    rw [List.map_cons, List.any_cons, h]
    by_cases e : n = i
    · subst e
      simp [eqV]
    · have e2 : ¬ i = n := fun z => e z.symm
      simp [eqV, e, e2]
theorem flat_ints : ∀ (ns : List Int), (ns.map V.int).all flatV = true
  | [] => rfl
  | n :: ns => by
    rw [List.map_cons, List.all_cons, flat_ints ns] <;> rfl
theorem ty_inT {i : Int} {ns : List Int} (ha : Ty W G ta (IV i)) (hb : Ty W G tb (DV (.tuple (ns.map .int)))) : Ty W G (tOp (rIn K false) ta tb) (BV (decide (i ∈ ns))) := ty_op ha hb fun x y F H s j p1 p2 Q q => by
  have e1 := IV.v p1
  subst e1
  cases p2 with
  | @tup a xs _ h1 r1 =>
    have e := r1.ints
    subst e
    refine ⟨a, _, rfl, .inr (SqT.of (s _ _ h1)), rfl, flat_ints ns, ?_⟩
    rw [inV_ints]
    exact q _ F H (Go.refl s j) (.bl _)
theorem ty_inL {i : Int} {ns : List Int} (ha : Ty W G ta (IV i)) (hb : Ty W G tb (DV (.list (ns.map .int)))) : Ty W G (tOp (rIn K false) ta tb) (BV (decide (i ∈ ns))) := ty_op ha hb fun x y F H s j p1 p2 Q q => by
  have e1 := IV.v p1
  subst e1
  cases p2 with
  | @lst a xs _ h1 r1 =>
    have e := r1.ints
    subst e
    refine ⟨a, _, rfl, .inl (SqL.of (s _ _ h1)), rfl, flat_ints ns, ?_⟩
    rw [inV_ints]
    exact q _ F H (Go.refl s j) (.bl _)
theorem ty_niT {i : Int} {ns : List Int} (ha : Ty W G ta (IV i)) (hb : Ty W G tb (DV (.tuple (ns.map .int)))) : Ty W G (tOp (rIn K true) ta tb) (BV (!decide (i ∈ ns))) := ty_op ha hb fun x y F H s j p1 p2 Q q => by
  have e1 := IV.v p1
  subst e1
  cases p2 with
  | @tup a xs _ h1 r1 =>
    have e := r1.ints
    subst e
    refine ⟨a, _, rfl, .inr (SqT.of (s _ _ h1)), rfl, flat_ints ns, ?_⟩
    rw [inV_ints]
    exact q _ F H (Go.refl s j) (.bl _)
theorem ty_niL {i : Int} {ns : List Int} (ha : Ty W G ta (IV i)) (hb : Ty W G tb (DV (.list (ns.map .int)))) : Ty W G (tOp (rIn K true) ta tb) (BV (!decide (i ∈ ns))) := ty_op ha hb fun x y F H s j p1 p2 Q q => by
  have e1 := IV.v p1
  subst e1
  cases p2 with
  | @lst a xs _ h1 r1 =>
    have e := r1.ints
    subst e
    refine ⟨a, _, rfl, .inl (SqL.of (s _ _ h1)), rfl, flat_ints ns, ?_⟩
    rw [inV_ints]
    exact q _ F H (Go.refl s j) (.bl _)
/-! ### list.index of an int -/
def rIdx (K : PySem.W.Frag) : V → List V → Hp → VK → Prop := rIndex K
theorem mt_idx {X : Cx} : MtR X "list.index" (rIdx X.K) := mt_index
theorem ty_index {i : Int} {ns : List Int} {j : Nat} (ha : Ty W G ta (DV (.list (ns.map .int)))) (hb : Ty W G tb (IV i)) (hj : ns[j]? = some i) (hn : ∀ m z, m < j → ns[m]? = some z → z ≠ i) : Ty W G (tBM K "list" (rIdx K) ta (tCons tb tNil)) (IV (j : Nat)) := fun σ F e H s jj Q q =>
  ha σ F e H s jj _ fun x F1 H1 g1 p1 => by
    have s1 := g1.sm s jj
    cases p1 with
    | @lst a xs _ h1 r1 =>
      have ex := r1.ints
      subst ex
      refine ⟨.inl ⟨rfl, _, SqL.of (s1 _ _ h1)⟩, hb σ F1 (e.mono (g1.le s)) H1 s1 g1.j _ fun y F2 H2 g2 p2 => ?_⟩
      have s2 := g2.sm s1 g1.j
      rw [IV.v p2]
      refine ⟨a, _, .int i, j, .int i, rfl, rfl, SqL.of (s2 _ _ (g2.le s1 _ _ h1)), rfl, flat_ints ns, by rw [List.getElem?_map, hj] <;> rfl, by simp [eqV], fun m z' hm hz => ?_, q _ F2 H2 (g1.trans jj g2) (.int _)⟩
      rw [List.getElem?_map] at hz
      cases hq : ns[m]? with
      | none =>
        rw [hq] at hz
        cases hz
      | some z =>
        rw [hq] at hz
        have ez : z' = .int z := (Option.some.inj hz).symm
        subst ez
        simpa [eqV] using hn m z hm hq

/-! ### fields -/
/-- an instance of the class at C whose fields hold the int c, the int h, the tuple ds -/
def SV (C : Addr) (c h : Int) (ds : List PyData) : PV := ⟨fun v F => ∃ a dx t, v = .ref a ∧ F a = some (.ins C dx [("cells", .int c), ("head", .int h), ("deeds", .ref t)]) ∧ Rp F (.ref t) (.tuple ds),
  fun e ⟨a, dx, t, h1, h2, h3⟩ => ⟨a, dx, t, h1, e _ _ h2, Rp.mono e h3⟩⟩
structure StdC (K : PySem.W.Frag) (C : Addr) : Prop where
  cl : Cls K C
  n1 : NoAttr K C "cells"
  n2 : NoAttr K C "head"
  n3 : NoAttr K C "deeds"
theorem ty_cells {C : Addr} {c h : Int} {ds : List PyData} (S : StdC K C) (ha : Ty W G ta (SV C c h ds)) : Ty W G (tFld K ta "cells") (IV c) := fun σ F e H s j Q q =>
  ha σ F e H s j _ fun x F1 H1 g1 ⟨a, dx, t, h1, h2, h3⟩ => ⟨a, C, dx, _, .int c, h1, g1.sm s j _ _ h2, S.cl, S.n1, by simp [List.lookup], q _ F1 H1 g1 (.int c)⟩
theorem ty_head {C : Addr} {c h : Int} {ds : List PyData} (S : StdC K C) (ha : Ty W G ta (SV C c h ds)) : Ty W G (tFld K ta "head") (IV h) := fun σ F e H s j Q q =>
  ha σ F e H s j _ fun x F1 H1 g1 ⟨a, dx, t, h1, h2, h3⟩ => ⟨a, C, dx, _, .int h, h1, g1.sm s j _ _ h2, S.cl, S.n2, by
    have e1 : (("head" : Str) == ("cells" : Str)) = false := by decide
    simp [List.lookup, e1], q _ F1 H1 g1 (.int h)⟩
theorem ty_deeds {C : Addr} {c h : Int} {ds : List PyData} (S : StdC K C) (ha : Ty W G ta (SV C c h ds)) : Ty W G (tFld K ta "deeds") (DV (.tuple ds)) := fun σ F e H s j Q q =>
  ha σ F e H s j _ fun x F1 H1 g1 ⟨a, dx, t, h1, h2, h3⟩ => ⟨a, C, dx, _, .ref t, h1, g1.sm s j _ _ h2, S.cl, S.n3, by
    have e1 : (("deeds" : Str) == ("cells" : Str)) = false := by decide
    have e2 : (("deeds" : Str) == ("head" : Str)) = false := by decide
    simp [List.lookup, e1, e2], q _ F1 H1 g1 h3⟩

/-! ### calls -/
/-- what a def without cells of its caller's promises: a value with P -/
def RET (P : PV) (F H : Hp) (Q : VK) : Prop := ∀ v H', Same H H' → P.p v (fz F H H') → Q v H'
/-- a promise: with such arguments, such a value -/
def Pr (R : List PV → PV → Prop) : Sp := fun vs H Q _ => ∃ (F : Hp) (Ps : List PV) (P : PV), Same F H ∧ ARGS Ps vs F ∧ R Ps P ∧ RET P F H Q
theorem ty_call {R : List PV → PV → Prop} {ta : TA} {Ps : List PV} {E : XK} (h : TyA W G ta Ps) (hr : R Ps P) : Ty W G (tCall (Pr R) [] E ta) P := fun σ F e H s j Q q =>
  h σ F e H s j _ fun vs F1 H1 g1 p1 => by
    rw [List.append_nil]
    exact ⟨F1, Ps, P, g1.sm s j, p1, hr, fun v H2 s2 p2 => q v _ H2 (g1.trans j (Go.same (g1.sm s j) g1.j s2)) p2⟩
end
end RC

end
section
set_option Elab.async false
set_option linter.all false
set_option maxRecDepth 100000
set_option maxHeartbeats 1000000
/-! RC, part 4: what is walked, targets, comprehensions. -/
namespace RC
open PySem L2
/-- a heap without one object -/
def del (H : Hp) (D : Addr) : Hp := fun a => if a = D then none else H a
theorem del_same {H : Hp} {D : Addr} : del H D D = none := if_pos rfl
theorem del_ne {H : Hp} {D a : Addr} (h : a ≠ D) : del H D a = H a := if_neg h
theorem del_upd {H : Hp} {D : Addr} {o : HO} (h : H D = none) : del (upd H D o) D = H := by
  funext a
  by_cases e : a = D
  · subst e
    rw [del_same, h]
  · rw [del_ne e, upd_ne e]
theorem upd_del {H : Hp} {D : Addr} {o : HO} (h : H D = some o) : upd (del H D) D o = H := by
  funext a
  by_cases e : a = D
  · subst e
    rw [upd_same, h]
  · rw [upd_ne e, del_ne e]
theorem del_upd2 {H : Hp} {D : Addr} {o : HO} : del (upd H D o) D = del H D := by
  funext a
  by_cases e : a = D
  · subst e
    rw [del_same, del_same]
  · rw [del_ne e, del_ne e, upd_ne e]
theorem Same.none_of {F H : Hp} {D : Addr} (s : Same F H) (h : H D = none) : F D = none := by
  cases q : F D with
  | none => rfl
  | some o =>
    rw [s D o q] at h
    cases h
theorem Go.minus {W : Wd} {F H F' H' : Hp} {D : Addr} (g : Go W F H F' H') (hF : F D = none) (hD : H D ≠ none) (hT : ¬ W.T D) : Go W F (del H D) F' (del H' D) := by
  have hF' : F' D = none := by
    rw [g.eq, fz_some hD]
    exact hF
  refine ⟨⟨fun a o n h => ?_, fun a h => ?_⟩, ?_, W.keep g.j (fun _ _ h => h) (fun a ha => (W.there g.j ha).1) fun a ha => del_ne fun z => hT (by rw [← z]; exact ha)⟩
  · by_cases e : a = D
    · subst e
      rw [del_same] at h
      cases h
    · rw [del_ne e] at h ⊢
      exact g.st.kp a o n h
  · by_cases e : a = D
    · subst e
      exact absurd del_same h
    · rw [del_ne e] at h ⊢
      exact g.st.th a h
  · funext a
    by_cases e : a = D
    · subst e
      rw [fz_none del_same, del_same, hF']
    · rw [g.eq]
      cases q : H a with
      | none => rw [fz_none q, fz_none (by rw [del_ne e]; exact q), del_ne e]
      | some x =>
        have hq : H a ≠ none := by rw [q]; exact fun z => nomatch z
        rw [fz_some hq, fz_some (by rw [del_ne e]; exact hq)]

/-! ### what is walked -/
/-- the walk J gives the data ds, one behind another, from the frozen heap F1 on -/
def WalkD (F1 : Hp) (J : It) (ds : List PyData) : Prop := ∃ (Gd : Hp → Prop) (Y : Nat → Hp → V → Hp → Prop), Walk J ds.length Gd Y ∧ (∀ H, Same F1 H → Gd H) ∧
  ∀ (W : Wd) (i : Nat) (F H : Hp) (x : V) (H' : Hp), i < ds.length → Same F1 F → Same F H → W.J F H → Y i H x H' → ∃ F' d, Go W F H F' H' ∧ ds[i]? = some d ∧ Rp F' x d
def TyI (W : Wd) (G : Gm) (wi : TI) (ds : List PyData) : Prop := ∀ σ F, Env G σ F → ∀ H, Same F H → W.J F H → ∀ R : It → Hp → Prop, (∀ J F' H', Go W F H F' H' → WalkD F' J ds → R J H') → wi σ H R
theorem TyI.is {W : Wd} {G : Gm} {wi : TI} {ds es : List PyData} (h : TyI W G wi ds) (e : ds = es) : TyI W G wi es := by
  subst e
  exact h
theorem seqL {K : PySem.W.Frag} {F H : Hp} {a : Addr} {xs : List V} (h : F a = some (.lst xs)) (s : Same F H) : SqL K H a xs := SqL.of (s _ _ h)
theorem seqT {K : PySem.W.Frag} {F H : Hp} {a : Addr} {xs : List V} (h : F a = some (.tup xs)) (s : Same F H) : SqT K H a xs := SqT.of (s _ _ h)
section
variable {W : Wd} {G G' : Gm} {tl ta te tb : TE} {K : PySem.W.Frag} {ds es : List PyData}
theorem wd_tup {F1 : Hp} {a : Addr} {xs : List V} (h : F1 a = some (.tup xs)) (r : RpAll F1 xs ds) : WalkD F1 (Itt K a) ds :=
  ⟨_, _, r.length ▸ walk_tup (K := K) (a := a) (xs := xs), fun H s => seqT h s, fun W i F H x H' _ s1 s2 j ⟨e, hx⟩ => by
    subst e
    obtain ⟨d, h1, h2⟩ := r.getV hx
    exact ⟨F, d, Go.refl s2 j, h1, Rp.mono s1 h2⟩⟩
theorem wd_list {F1 : Hp} {a : Addr} {xs : List V} (h : F1 a = some (.lst xs)) (r : RpAll F1 xs ds) : WalkD F1 (Itl K a) ds :=
  ⟨_, _, r.length ▸ walk_list (K := K) (a := a) (xs := xs), fun H s => seqL h s, fun W i F H x H' _ s1 s2 j ⟨e, hx⟩ => by
    subst e
    obtain ⟨d, h1, h2⟩ := r.getV hx
    exact ⟨F, d, Go.refl s2 j, h1, Rp.mono s1 h2⟩⟩
theorem ti_tup (h : Ty W G tl (DV (.tuple ds))) : TyI W G (iTup K tl) ds := fun σ F e H s j R q => h σ F e H s j _ fun v F1 H1 g p => by
  cases p with
  | @tup a xs _ h1 r1 => exact ⟨a, rfl, ⟨xs, seqT h1 (g.sm s j)⟩, q _ F1 H1 g (wd_tup h1 r1)⟩
theorem ti_list (h : Ty W G tl (DV (.list ds))) : TyI W G (iList K tl) ds := fun σ F e H s j R q => h σ F e H s j _ fun v F1 H1 g p => by
  cases p with
  | @lst a xs _ h1 r1 => exact ⟨a, rfl, ⟨xs, seqL h1 (g.sm s j)⟩, q _ F1 H1 g (wd_list h1 r1)⟩
theorem rgD_get {lo hi : Int} {i : Nat} (h : i < (hi - lo).toNat) : (rgD lo hi)[i]? = some (.int (lo + (i : Nat))) := by
  unfold rgD
  rw [List.getElem?_map, List.getElem?_range h] <;> rfl
theorem rgD_len {lo hi : Int} : (rgD lo hi).length = (hi - lo).toNat := by
  unfold rgD
  rw [List.length_map, List.length_range]
theorem wd_range {F1 : Hp} {lo hi : Int} : WalkD F1 (Itr lo (hi - lo).toNat) (rgD lo hi) := by
  have w := walk_range (lo := lo) (n := (hi - lo).toNat)
  refine ⟨fun _ => True, YFn fun i => .int (lo + i), by rw [rgD_len]; exact w, fun _ _ => trivial, fun W i F H x H' hi s1 s2 j ⟨e, hx⟩ => ?_⟩
  subst e
  subst hx
  exact ⟨F, _, Go.refl s2 j, rgD_get (by rw [← rgD_len]; exact hi), .int _⟩
theorem ti_range1 {n : Int} (h : Ty W G te (IV n)) (h1 : -(2 ^ 62) ≤ n ∧ n < 2 ^ 62) : TyI W G (iRng1 (tCons te tNil)) (rgD 0 n) := fun σ F e H s j R q => (ta_cons h ta_nil) σ F e H s j _ fun vs F1 H1 g p => by
  obtain ⟨v, rfl, pv⟩ := p.one
  have w := wd_range (F1 := F1) (lo := 0) (hi := n)
  rw [Int.sub_zero] at w
  exact ⟨n, by rw [IV.v pv], h1.1, h1.2, q _ F1 H1 g w⟩
theorem ti_range2 {m n : Int} (h : Ty W G te (IV m)) (h2 : Ty W G tb (IV n)) (h1 : (-(2 ^ 62) ≤ m ∧ m < 2 ^ 62) ∧ -(2 ^ 62) ≤ n ∧ n < 2 ^ 62) : TyI W G (iRng2 (tCons te (tCons tb tNil))) (rgD m n) := fun σ F e H s j R q => (ta_cons h (ta_cons h2 ta_nil)) σ F e H s j _ fun vs F1 H1 g p => by
  obtain ⟨v, w, rfl, pv, pw⟩ := p.two
  exact ⟨m, n, by rw [IV.v pv, IV.v pw], ⟨h1.1.1, h1.1.2, h1.2.1, h1.2.2⟩, q _ F1 H1 g wd_range⟩
/-- numbered data -/
def enD (ds : List PyData) : List PyData := (List.range ds.length).map fun i => PyData.tuple [.int (i : Nat), ds.getD i .none]
theorem enD_len : (enD ds).length = ds.length := by
  unfold enD
  rw [List.length_map, List.length_range]
theorem enD_get {i : Nat} {d : PyData} (h : ds[i]? = some d) : (enD ds)[i]? = some (.tuple [.int (i : Nat), d]) := by
  have hl := (List.getElem?_eq_some_iff.mp h).1
  unfold enD
  rw [List.getElem?_map, List.getElem?_range hl]
  show some (PyData.tuple [.int (i : Nat), ds.getD i .none]) = _
  rw [List.getD_eq_getElem?_getD, h] <;> rfl
theorem pair_new {W : Wd} {F H : Hp} {T : Addr} {x y : V} {d e : PyData} (s : Same F H) (j : W.J F H) (n : H T = none) (hx : Rp F x d) (hy : Rp F y e) : ∃ F', Go W F H F' (upd H T (.tup [x, y])) ∧ Rp F' (.ref T) (.tuple [d, e]) := by
  have g := Go.new (o := .tup [x, y]) s j n
  exact ⟨_, g, .tup upd_same (.cons (Rp.mono (g.le s) hx) (.cons (Rp.mono (g.le s) hy) .nil))⟩
theorem wd_enum {F1 : Hp} {a : Addr} {xs : List V} (h : F1 a = some (.lst xs)) (r : RpAll F1 xs ds) : WalkD F1 (Ite K a) (enD ds) := by
  refine ⟨_, _, ((enD_len (ds := ds)).trans r.length.symm) ▸ walk_enum (K := K) (a := a) (xs := xs), fun H s => seqL h s, fun W i F H x H' hi s1 s2 j hy => ?_⟩
  obtain ⟨T, u, y, rfl, n, rfl, h1, h2⟩ := hy
  have eu : V.int (i : Nat) = u := Option.some.inj h1
  subst eu
  obtain ⟨d, h3, h4⟩ := r.getV h2
  obtain ⟨F', g, p⟩ := pair_new s2 j n (.int (i : Nat)) (Rp.mono s1 h4)
  exact ⟨F', _, g, enD_get h3, p⟩
theorem ti_enumL (h : Ty W G te (DV (.list ds))) : TyI W G (iEnum K (tCons te tNil)) (enD ds) := fun σ F e H s j R q => (ta_cons h ta_nil) σ F e H s j _ fun vs F1 H1 g p => by
  obtain ⟨v, rfl, pv⟩ := p.one
  cases pv with
  | @lst a xs _ h1 r1 => exact ⟨a, xs, rfl, seqL h1 (g.sm s j), q _ F1 H1 g (wd_enum h1 r1)⟩

/-! ### targets -/
def TyG (g : TG) (d : PyData) (G G' : Gm) : Prop := ∀ (σ : L2.St) (F H : Hp) (v : V) (Q : L2.St → Hp → Prop), Env G σ F → Same F H → Rp F v d → (∀ σ', Env G' σ' F → Q σ' H) → g v σ H Q
def TyGs (g : TGs) (ds : List PyData) (G G' : Gm) : Prop := ∀ (σ : L2.St) (F H : Hp) (vs : List V) (Q : L2.St → Hp → Prop), Env G σ F → Same F H → RpAll F vs ds → (∀ σ', Env G' σ' F → Q σ' H) → g vs σ H Q
theorem tg_name {i : Nat} {d : PyData} : TyG (gName i) d G (G.set i (some (DV d))) := fun σ F H v Q e s p q => q _ (e.set i p)
theorem tg_tup {n : Nat} {g : TGs} (h : TyGs g ds G G') (hn : ds.length = n := by rfl) : TyG (gTup K n g) (.tuple ds) G G' := fun σ F H v Q e s p q => by
  cases p with
  | @tup a xs _ h1 r1 => exact ⟨a, xs, rfl, seqT h1 s, r1.length.trans hn, h σ F H xs Q e s r1 q⟩
theorem tgs_nil : TyGs gNil [] G G := fun σ F H vs Q e s p q => by
  cases p
  exact ⟨rfl, q σ e⟩
theorem tgs_cons {g : TG} {gs : TGs} {d : PyData} {G1 : Gm} (h : TyG g d G G1) (hs : TyGs gs ds G1 G') : TyGs (gCons g gs) (d :: ds) G G' := fun σ F H vs Q e s p q => by
  cases p with
  | cons h1 r1 => exact ⟨_, _, rfl, h σ F H _ _ e s h1 fun σ' e' => hs σ' F H _ Q e' s r1 q⟩
/-- a target that stores in these slots alone -/
def Own (vs : List Nat) (g : TG) : Prop := ∀ v σ H Q, g v σ H Q → g v σ H fun σ' H' => Q σ' H' ∧ wipe σ' vs = wipe σ vs
def Owns (vs : List Nat) (g : TGs) : Prop := ∀ v σ H Q, g v σ H Q → g v σ H fun σ' H' => Q σ' H' ∧ wipe σ' vs = wipe σ vs
theorem wipe_get {σ : L2.St} {i : Nat} : ∀ {vs : List Nat}, (wipe σ vs)[i]? = if i ∈ vs then (if i < σ.length then some none else none) else σ[i]?
  | [] => by simp [wipe]
  | w :: vs => by
    show ((wipe σ vs).set w none)[i]? = _
    by_cases e : w = i
    · subst e
      rw [List.getElem?_set]
      simp [wipe_length]
    · rw [List.getElem?_set_ne e, wipe_get (vs := vs)]
      have e2 : ¬ i = w := fun z => e z.symm
      simp [e2]
theorem wipe_set {σ : L2.St} {i : Nat} {o : Option V} {vs : List Nat} (h : i ∈ vs) : wipe (σ.set i o) vs = wipe σ vs := by
  apply List.ext_getElem?
  intro k
  rw [wipe_get, wipe_get, List.length_set]
  by_cases e : k ∈ vs
  · rw [if_pos e, if_pos e]
  · rw [if_neg e, if_neg e]
    rw [List.getElem?_set_ne (fun z => e (by rw [← z]; exact h))]
theorem own_name {vs : List Nat} {i : Nat} (h : i ∈ vs := by decide) : Own vs (gName i) := fun v σ H Q q => ⟨q, wipe_set h⟩
theorem owns_nil {vs : List Nat} : Owns vs gNil := fun v σ H Q ⟨h1, h2⟩ => ⟨h1, h2, rfl⟩
theorem mono_of_own {vs : List Nat} {g : TG} (h : Own vs g) (mono : ∀ v σ H Q Q', (∀ σ' H', Q σ' H' → Q' σ' H') → g v σ H Q → g v σ H Q') : ∀ v σ H Q, g v σ H Q → g v σ H fun σ' H' => Q σ' H' ∧ wipe σ' vs = wipe σ vs := h
def Mon (g : TG) : Prop := ∀ v σ H Q Q', (∀ σ' H', Q σ' H' → Q' σ' H') → g v σ H Q → g v σ H Q'
def Mons (g : TGs) : Prop := ∀ v σ H Q Q', (∀ σ' H', Q σ' H' → Q' σ' H') → g v σ H Q → g v σ H Q'
theorem mon_name {i : Nat} : Mon (gName i) := fun v σ H Q Q' h q => h _ _ q
theorem mons_nil : Mons gNil := fun v σ H Q Q' h ⟨h1, h2⟩ => ⟨h1, h _ _ h2⟩
theorem mons_cons {g : TG} {gs : TGs} (h1 : Mon g) (h2 : Mons gs) : Mons (gCons g gs) := fun v σ H Q Q' h ⟨x, r, e, q⟩ => ⟨x, r, e, h1 _ _ _ _ _ (fun σ' H' q' => h2 _ _ _ _ _ h q') q⟩
theorem mon_tup {n : Nat} {gs : TGs} (h : Mons gs) : Mon (gTup K n gs) := fun v σ H Q Q' hq ⟨a, xs, e, t, l, q⟩ => ⟨a, xs, e, t, l, h _ _ _ _ _ hq q⟩
theorem owns_cons {vs : List Nat} {g : TG} {gs : TGs} (h1 : Own vs g) (m1 : Mon g) (h2 : Owns vs gs) (m2 : Mons gs) : Owns vs (gCons g gs) := fun v σ H Q ⟨x, r, e, q⟩ =>
  ⟨x, r, e, m1 _ _ _ _ _ (fun σ' H' ⟨q', w⟩ => m2 _ _ _ _ _ (fun σ2 H2 ⟨q2, w2⟩ => ⟨q2, w2.trans w⟩) (h2 _ _ _ _ q')) (h1 _ _ _ _ q)⟩
theorem own_tup {vs : List Nat} {n : Nat} {gs : TGs} (h : Owns vs gs) : Own vs (gTup K n gs) := fun v σ H Q ⟨a, xs, e, t, l, q⟩ => ⟨a, xs, e, t, l, h _ _ _ _ q⟩

/-! ### comprehensions -/
def wipeG (G : Gm) : List Nat → Gm
  | [] => G
  | v :: vs => (wipeG G vs).set v none
theorem Env.unset {σ : L2.St} {F : Hp} (i : Nat) (h : Env G σ F) : Env (G.set i none) (σ.set i none) F := by
  refine ⟨by simp [h.1], fun j Q q => ?_⟩
  by_cases z : i = j
  · subst z
    rw [List.getElem?_set, if_pos rfl] at q
    by_cases l : i < G.length
    · rw [if_pos l] at q
      cases q
    · rw [if_neg l] at q
      cases q
  · rw [List.getElem?_set_ne z] at q ⊢
    exact h.2 j Q q
theorem Env.wipe {σ : L2.St} {F : Hp} (h : Env G σ F) : ∀ vs : List Nat, Env (wipeG G vs) (L2.wipe σ vs) F
  | [] => h
  | v :: vs => (h.wipe vs).unset v
theorem take_more {α : Type} : ∀ {l : List α} {i : Nat} {x : α}, l[i]? = some x → l.take (i + 1) = l.take i ++ [x]
  | [], i, x, h => by simp at h
  | a :: l, 0, x, h => by
    simp at h
    subst h
    simp
  | a :: l, i + 1, x, h => by
    have z : l[i]? = some x := by simpa using h
    simp [List.take_succ_cons, take_more z]
theorem tn_lc {α : Type} {wi : TI} {g : TG} {tt : TT} {vs : List Nat} (xs : List α) (enc : α → PyData) (f : α → Option PyData) (hI : TyI W G wi (xs.map enc)) (hO : Own vs g) (hm : Mon g) (hl : xs.length ≤ 100000)
    (hs : ∀ a ∈ xs, ∃ G' b, TyG g (enc a) (wipeG G vs) G' ∧ TyT W G' tt b ∧ (b = true → ∃ d, f a = some d ∧ Ty W G' te (DV d)) ∧ (b = false → f a = none)) : TyN W G (tLc wi g tt te vs) (xs.filterMap f) := fun σ F e H s j Q q =>
  hI σ F e H s j _ fun J F1 H1 g1 wd => by
    intro D hD
    obtain ⟨Gd, Y, w, hG, hY⟩ := wd
    have s1 := g1.sm s j
    have hFD : F1 D = none := Same.none_of s1 hD
    have hTD : ¬ W.T D := fun t => (W.there g1.j t).2 hD
    have hn : (xs.map enc).length = xs.length := List.length_map _
    rw [hn] at w
    refine lc_it w (fun i H' => ∃ F' acc, H' D = some (.lst acc) ∧ Go W F1 H1 F' (del H' D) ∧ RpAll F' acc ((xs.take i).filterMap f) ∧ acc.length ≤ i) ⟨F1, [], upd_same, by rw [del_upd hD]; exact Go.refl s1 g1.j, .nil, Nat.le_refl _⟩
      (fun i H' _ ⟨F', acc, h1, h2, h3, _⟩ => hG H' fun a o q => ?_) (fun i x H' H'' hi ⟨F', acc, h1, h2, h3, h4⟩ hy => ?_) fun H' ⟨F', acc, h1, h2, h3, h4⟩ => ?_
    · have q2 := h2.sm s1 g1.j a o (h2.le s1 a o q)
      by_cases z : a = D
      · subst z
        rw [del_same] at q2
        cases q2
      · rwa [del_ne z] at q2
    · have s2 := h2.sm s1 g1.j
      have le2 := h2.le s1
      have sH : Same F' H' := fun a o q => by
        have q2 := s2 a o q
        by_cases z : a = D
        · subst z
          rw [del_same] at q2
          cases q2
        · rwa [del_ne z] at q2
      have hF'D : F' D = none := Same.none_of s2 del_same
      have jH : W.J F' H' := W.keep h2.j (fun _ _ h => h) (fun a ha => (W.there h2.j ha).1) fun a ha => (del_ne fun z => hTD (by rw [← z]; exact ha)).symm
      obtain ⟨F3, d, g3, hd, p3⟩ := hY W i F' H' x H'' (by rw [hn]; exact hi) le2 sH jH hy
      rw [List.getElem?_map] at hd
      cases hxi : xs[i]? with
      | none =>
        rw [hxi] at hd
        cases hd
      | some a =>
        rw [hxi] at hd
        have ed : enc a = d := Option.some.inj hd
        subst ed
        obtain ⟨G', b, hg, ht, hy1, hy0⟩ := hs a (List.mem_of_getElem? hxi)
        have s3 := g3.sm sH jH
        have e3 : Env (wipeG G vs) (L2.wipe σ vs) F3 := ((e.wipe vs).mono (g1.le s)).mono (fun a o q => g3.le sH a o (le2 a o q))
        have hHD : H' D ≠ none := by rw [h1]; exact fun z => nomatch z
        have tk := take_more hxi
        refine hm _ _ _ _ _ (fun σ2 H2 ⟨q2, w2⟩ => ⟨by rw [w2, ← wipe_wipe σ vs], q2⟩) (hO _ _ _ _ (hg _ F3 H'' x _ e3 s3 p3 fun σ' e' => ?_))
        refine ht σ' F3 e' H'' s3 g3.j _ fun F4 H4 g4 => ?_
        have s4 := g4.sm s3 g3.j
        have g34 := g3.trans jH g4
        cases b with
        | true =>
          show te σ' H4 _
          obtain ⟨d, hf, hte⟩ := hy1 rfl
          refine hte σ' F4 (e'.mono (g4.le s3)) H4 s4 g4.j _ fun v F5 H5 g5 p5 => ?_
          have g35 := g34.trans jH g5
          have h5D : H5 D = some (.lst acc) := g35.st.kp D _ hTD h1
          refine ⟨acc, h5D, szLt (by have := (List.getElem?_eq_some_iff.mp hxi).1; omega), F5, acc ++ [v], upd_same, ?_, ?_, by simp; omega⟩
          · rw [del_upd2]
            exact h2.trans g1.j (g35.minus hF'D hHD hTD)
          · rw [tk, List.filterMap_append]
            have z : List.filterMap f [a] = [d] := by simp [List.filterMap, hf]
            rw [z]
            exact (RpAll.mono (g35.le sH) h3).snoc p5
        | false =>
          show ∃ F' acc, H4 D = some (.lst acc) ∧ _
          refine ⟨F4, acc, g34.st.kp D _ hTD h1, h2.trans g1.j (g34.minus hF'D hHD hTD), ?_, by omega⟩
          rw [tk, List.filterMap_append]
          have z : List.filterMap f [a] = [] := by simp [List.filterMap, hy0 rfl]
          rw [z, List.append_nil]
          exact RpAll.mono (g34.le sH) h3
    · rw [List.take_length] at h3
      have z := q D acc F' (del H' D) (g1.trans j h2) del_same h3
      rw [upd_del h1] at z
      exact z
where
  wipe_wipe (σ : L2.St) (vs : List Nat) : L2.wipe σ vs = L2.wipe (L2.wipe σ vs) vs := by
    apply List.ext_getElem?
    intro k
    rw [wipe_get, wipe_get (σ := L2.wipe σ vs), wipe_length, wipe_get]
    by_cases e : k ∈ vs
    · rw [if_pos e, if_pos e]
    · rw [if_neg e, if_neg e]
/-- without a test -/
theorem tn_lcm {α : Type} {wi : TI} {g : TG} {vs : List Nat} (xs : List α) (enc : α → PyData) (f : α → PyData) (hI : TyI W G wi (xs.map enc)) (hO : Own vs g) (hm : Mon g) (hl : xs.length ≤ 100000)
    (hs : ∀ a ∈ xs, ∃ G', TyG g (enc a) (wipeG G vs) G' ∧ Ty W G' te (DV (f a))) : TyN W G (tLc wi g tYes te vs) (xs.map f) :=
  (tn_lc xs enc (fun a => some (f a)) hI hO hm hl fun a ha => let ⟨G', h1, h2⟩ := hs a ha; ⟨G', true, h1, tt_yes, fun _ => ⟨_, rfl, h2⟩, fun z => nomatch z⟩).is (by simp)
/-- with a test -/
theorem tn_lcf {α : Type} {wi : TI} {g : TG} {tt : TT} {vs : List Nat} (xs : List α) (enc : α → PyData) (p : α → Bool) (f : α → PyData) (hI : TyI W G wi (xs.map enc)) (hO : Own vs g) (hm : Mon g) (hl : xs.length ≤ 100000)
    (hs : ∀ a ∈ xs, ∃ G', TyG g (enc a) (wipeG G vs) G' ∧ TyT W G' tt (p a) ∧ (p a = true → Ty W G' te (DV (f a)))) : TyN W G (tLc wi g tt te vs) ((xs.filter p).map f) :=
  (tn_lc xs enc (fun a => if p a then some (f a) else none) hI hO hm hl fun a ha => let ⟨G', h1, h2, h3⟩ := hs a ha; ⟨G', p a, h1, h2, fun z => ⟨_, if_pos z, h3 z⟩, fun z => by simp [z]⟩).is (by
    clear hI hl hs
    induction xs with
    | nil => rfl
    | cons a r ih =>
      cases h : p a with
      | true => simp [List.filterMap_cons, List.filter_cons, h, ih]
      | false => simp [List.filterMap_cons, List.filter_cons, h, ih])
end
end RC

end
section
set_option Elab.async false
set_option linter.all false
set_option maxRecDepth 100000
set_option maxHeartbeats 1000000
/-! RC, part 5: statements. -/
namespace RC
open PySem L2
/-- a def's run: its world, frozen heap and heap at the entry; a frozen heap that stands for sure -/
structure Ctx where
  W0 : Wd
  F0 : Hp
  H0 : Hp
  L : Hp
/-- cells beside a world -/
abbrev Cs := List (Addr × CP)
def Wd.adds (W : Wd) (cs : Cs) : Wd where
  T := fun a => W.T a ∨ a ∈ cs.map (·.1)
  J := fun F H => W.J F H ∧ (cs.map (·.1)).Nodup ∧ ∀ q ∈ cs, ¬ W.T q.1 ∧ F q.1 = none ∧ ∃ o, H q.1 = some o ∧ q.2.c o F
  there := fun {F H a} ⟨h1, _, h3⟩ ht => by
    rcases ht with ht | ht
    · exact W.there h1 ht
    · obtain ⟨q, hq, e⟩ := List.mem_map.mp ht
      subst e
      obtain ⟨_, z, o, h, _⟩ := h3 q hq
      exact ⟨z, by rw [h]; exact fun y => nomatch y⟩
  keep := fun {F F' H H'} ⟨h1, h2, h3⟩ e n k => ⟨W.keep h1 e (fun a ha => n a (.inl ha)) (fun a ha => k a (.inl ha)), h2, fun q hq => by
    obtain ⟨z1, z2, o, h, c⟩ := h3 q hq
    have hm : q.1 ∈ cs.map (·.1) := List.mem_map.mpr ⟨q, hq, rfl⟩
    exact ⟨z1, n _ (.inr hm), o, by rw [k _ (.inr hm)]; exact h, q.2.mono e c⟩⟩
theorem adds_nil {W : Wd} {F H : Hp} : (W.adds []).J F H ↔ W.J F H := ⟨fun h => h.1, fun h => ⟨h, List.nodup_nil, fun _ z => nomatch z⟩⟩
abbrev Ctx.w (C : Ctx) (cs : Cs) : Wd := C.W0.adds cs
structure Run (C : Ctx) (cs : Cs) (F H : Hp) : Prop where
  st : Stp C.W0.T C.H0 H
  old : ∀ a, C.H0 a ≠ none → F a = C.F0 a
  sm : Same F H
  j : (C.w cs).J F H
  lo : Same C.L F
  fresh : ∀ q ∈ cs, C.H0 q.1 = none
def Ctx.up (C : Ctx) (L : Hp) : Ctx := { C with L := L }
section
variable {C : Ctx} {W W' : Cs} {F H F' H' : Hp} {G G' : Gm} {D : Ends} {t t1 t2 rest tb : TS} {te ta : TE} {tt : TT} {P P1 P2 : PV} {K : PySem.W.Frag}
theorem Run.go (r : Run C W F H) (g : Go (C.w W) F H F' H') : Run C W F' H' := by
  have le := g.le r.sm
  refine ⟨⟨fun a o n h => ?_, fun a h => g.st.th a (r.st.th a h)⟩, fun a h => ?_, g.sm r.sm r.j, g.j, fun a o h => le a o (r.lo a o h), r.fresh⟩
  · refine g.st.kp a o (fun ht => ?_) (r.st.kp a o n h)
    rcases ht with z | z
    · exact n z
    · obtain ⟨q, hq, e⟩ := List.mem_map.mp z
      rw [← e, r.fresh q hq] at h
      cases h
  · rw [g.eq, fz_some (r.st.th a h)]
    exact r.old a h
theorem Run.lift {L' : Hp} (r : Run (C.up L') W F H) (s : Same C.L L') : Run C W F H := ⟨r.st, r.old, r.sm, r.j, fun a o h => r.lo a o (s a o h), r.fresh⟩
/-- t, from such slots in such a world, brings D about -/
def Ok (C : Ctx) (W : Cs) (G : Gm) (t : TS) (D : Ends) : Prop := ∀ σ F H, Run C W F H → Env G σ F → t D σ H
def Rets (C : Ctx) (D : Ends) (P : PV) : Prop := ∀ W v F H, Run C W F H → P.p v F → D.rt v H
def Fall (C : Ctx) (D : Ends) (P : PV) : Prop := ∀ W σ F H, Run C W F H → P.p .non F → D.nx σ H
/-- in such slots, in such a world, and p -/
def At (C : Ctx) (W : Cs) (G : Gm) (p : Prop) : L2.St → Hp → Prop := fun σ H => p ∧ ∃ F, Run C W F H ∧ Env G σ F
theorem Rets.up {L' : Hp} (r : Rets C D P) (s : Same C.L L') : Rets (C.up L') D P := fun W v F H q p => r W v F H (q.lift s) p

/-! ### assignments -/
theorem ok_asg {i : Nat} (h : Ty (C.w W) G te P) (k : Ok C W (G.set i (some P)) rest D) : Ok C W G (tSeq (tAsg te (gName i)) rest) D := fun σ F H r e => h σ F e H r.sm r.j _ fun v F1 H1 g p => k _ F1 H1 (r.go g) ((e.mono (g.le r.sm)).set i p)
theorem ok_asgX {α : Sort _} {φ : α → Prop} {Q : α → PV} {i : Nat} (h : Ty (C.w W) G te (ExV φ Q)) (k : ∀ a, φ a → Ok C W (G.set i (some (Q a))) rest D) : Ok C W G (tSeq (tAsg te (gName i)) rest) D := fun σ F H r e =>
  h σ F e H r.sm r.j _ fun v F1 H1 g ⟨a, ha, p⟩ => k a ha _ F1 H1 (r.go g) ((e.mono (g.le r.sm)).set i p)
/-- an int with φ -/
theorem ok_asgI {φ : Int → Prop} {i : Nat} (h : Ty (C.w W) G te (IN φ)) (k : ∀ a, φ a → Ok C W (G.set i (some (IV a))) rest D) : Ok C W G (tSeq (tAsg te (gName i)) rest) D := fun σ F H r e =>
  h σ F e H r.sm r.j _ fun v F1 H1 g ⟨a, e1, ha⟩ => k a ha _ F1 H1 (r.go g) ((e.mono (g.le r.sm)).set i (by subst e1; exact .int a))
theorem ok_asgG {g : TG} {d : PyData} (h : Ty (C.w W) G te (DV d)) (hg : TyG g d G G') (k : Ok C W G' rest D) : Ok C W G (tSeq (tAsg te g) rest) D := fun σ F H r e => h σ F e H r.sm r.j _ fun v F1 H1 g1 p =>
  hg σ F1 H1 v _ (e.mono (g1.le r.sm)) (g1.sm r.sm r.j) p fun σ' e' => k σ' F1 H1 (r.go g1) e'
theorem ok_par {i j : Nat} {ta : TA} (h : TyA (C.w W) G ta [P1, P2]) (k : Ok C W ((G.set i (some P1)).set j (some P2)) rest D) : Ok C W G (tSeq (tPar i j ta) rest) D := fun σ F H r e => h σ F e H r.sm r.j _ fun vs F1 H1 g p => by
  obtain ⟨v, w, rfl, p1, p2⟩ := p.two
  exact ⟨v, w, rfl, k _ F1 H1 (r.go g) (((e.mono (g.le r.sm)).set i p1).set j p2)⟩
theorem ok_drop (h : Ty (C.w W) G te P) (k : Ok C W G rest D) : Ok C W G (tSeq (tDrop te) rest) D := fun σ F H r e => h σ F e H r.sm r.j _ fun v F1 H1 g p => k σ F1 H1 (r.go g) (e.mono (g.le r.sm))
theorem ok_aug {i : Nat} {f : Int → Int → Int} {a b : Int} (hx : G[i]? = some (some (IV a))) (h : Ty (C.w W) G te (IV b)) (k : Ok C W (G.set i (some (IV (f a b)))) rest D) : Ok C W G (tSeq (tAug i te (ipI f)) rest) D := fun σ F H r e => by
  obtain ⟨v, h1, h2⟩ := e.2 i _ hx
  exact ⟨v, h1, h σ F e H r.sm r.j _ fun w F1 H1 g p => ⟨a, b, IV.v h2, IV.v p, k _ F1 H1 (r.go g) ((e.mono (g.le r.sm)).set i (.int _))⟩⟩
theorem ok_sub (s : Sub G G') (k : Ok C W G' t D) : Ok C W G t D := fun σ F H r e => k σ F H r (e.sub s)

/-! ### ways out -/
theorem ok_ret (h : Ty (C.w W) G te P) (hr : Rets C D P) : Ok C W G (tRet te) D := fun σ F H r e => h σ F e H r.sm r.j _ fun v F1 H1 g p => hr W v F1 H1 (r.go g) p
theorem ok_retS (h : Ty (C.w W) G te P) (hr : Rets C D P) : Ok C W G (tSeq (tRet te) rest) D := fun σ F H r e => h σ F e H r.sm r.j _ fun v F1 H1 g p => hr W v F1 H1 (r.go g) p
theorem ok_next (h : Fall C D P) (hp : ∀ F, P.p .non F) : Ok C W G tNext D := fun σ F H r e => h W σ F H r (hp F)
theorem ok_at {p : Prop} (hp : p) (hn : ∀ σ H, At C W G p σ H → D.nx σ H) : Ok C W G tNext D := fun σ F H r e => hn σ H ⟨hp, F, r, e⟩
theorem ok_if {b : Bool} (h : TyT (C.w W) G tt b) (h1 : b = true → Ok C W G t1 D) (h2 : b = false → Ok C W G t2 D) : Ok C W G (tIfS tt t1 t2) D := fun σ F H r e => h σ F e H r.sm r.j _ fun F1 H1 g => by
  cases b with
  | true =>
    show t1 D σ H1
    exact h1 rfl σ F1 H1 (r.go g) (e.mono (g.le r.sm))
  | false =>
    show t2 D σ H1
    exact h2 rfl σ F1 H1 (r.go g) (e.mono (g.le r.sm))
theorem ok_ifS {b : Bool} (h : TyT (C.w W) G tt b) (h1 : b = true → Ok C W G (tSeq t1 rest) D) (h2 : b = false → Ok C W G (tSeq t2 rest) D) : Ok C W G (tSeq (tIfS tt t1 t2) rest) D := fun σ F H r e => h σ F e H r.sm r.j _ fun F1 H1 g => by
  cases b with
  | true =>
    show t1 { D with nx := rest D } σ H1
    exact h1 rfl σ F1 H1 (r.go g) (e.mono (g.le r.sm))
  | false =>
    show t2 { D with nx := rest D } σ H1
    exact h2 rfl σ F1 H1 (r.go g) (e.mono (g.le r.sm))
/-- if c: raise .. that is not taken -/
theorem ok_pass (h : TyT (C.w W) G tt false) (k : Ok C W G rest D) : Ok C W G (tSeq (tIfS tt t1 tNext) rest) D := ok_ifS h (fun z => nomatch z) fun _ => k
theorem ok_assoc (h : Ok C W G (tSeq t1 (tSeq t2 rest)) D) : Ok C W G (tSeq (tSeq t1 t2) rest) D := h
theorem ok_nextS (h : Ok C W G rest D) : Ok C W G (tSeq tNext rest) D := h

/-! ### loops -/
theorem ok_for {ds : List PyData} {wi : TI} {g : TG} (Wi : Nat → Cs) (Gi : Nat → Gm) (φ : Nat → Prop) (hI : TyI (C.w W) G wi ds) (h0 : φ 0) (hW : Wi 0 = W) (hG : Sub G (Gi 0))
    (hs : ∀ L', Same C.L L' → ∀ i d, ds[i]? = some d → φ i → ∃ G', TyG g d (Gi i) G' ∧ Ok (C.up L') (Wi i) G' tb { D with nx := At (C.up L') (Wi (i + 1)) (Gi (i + 1)) (φ (i + 1)), ct := At (C.up L') (Wi (i + 1)) (Gi (i + 1)) (φ (i + 1)), bk := rest D })
    (hd : φ ds.length → Ok C (Wi ds.length) (Gi ds.length) rest D) : Ok C W G (tSeq (tFor wi g tb) rest) D := fun σ F H r e => by
  subst hW
  refine hI σ F e H r.sm r.j _ fun J F1 H1 g1 wd => ?_
  have r1 := r.go g1
  obtain ⟨Gd, Y, w, hGd, hY⟩ := wd
  have r1' : Run (C.up F1) (Wi 0) F1 H1 := ⟨r1.st, r1.old, r1.sm, r1.j, Same.refl F1, r1.fresh⟩
  refine for_it w (D := { D with nx := rest D }) (fun i => At (C.up F1) (Wi i) (Gi i) (φ i)) ⟨h0, F1, r1', (e.mono (g1.le r.sm)).sub hG⟩ (fun i σ' H' _ ⟨_, F', r', _⟩ => hGd H' fun a o q => r'.sm a o (r'.lo a o q)) (fun i x σ' H' H'' hi ⟨hp, F', r', e'⟩ hy => ?_) fun σ' H' ⟨hp, F', r', e'⟩ => hd hp σ' F' H' (r'.lift r1.lo) e'
  obtain ⟨F2, d, g2, hdi, p2⟩ := hY (C.w (Wi i)) i F' H' x H'' hi r'.lo r'.sm r'.j hy
  obtain ⟨G', hg, k⟩ := hs F1 r1.lo i d hdi hp
  have r2 := r'.go g2
  exact hg σ' F2 H'' x _ (e'.mono (g2.le r'.sm)) r2.sm p2 fun σ2 e2 => k σ2 F2 H'' r2 e2
theorem ok_while {c : TT} (n : Nat) (Wi : Nat → Cs) (Gi : Nat → Gm) (φ : Nat → Prop) (h0 : φ 0) (hW : Wi 0 = W) (hG : Sub G (Gi 0)) (ht : ∀ i, i < n → φ i → TyT (C.w (Wi i)) (Gi i) c true) (hf : φ n → TyT (C.w (Wi n)) (Gi n) c false)
    (hs : ∀ i, i < n → φ i → Ok C (Wi i) (Gi i) tb { D with nx := At C (Wi (i + 1)) (Gi (i + 1)) (φ (i + 1)), ct := At C (Wi (i + 1)) (Gi (i + 1)) (φ (i + 1)), bk := rest D })
    (hd : φ n → Ok C (Wi n) (Gi n) rest D) : Ok C W G (tSeq (tWhile c tb) rest) D := fun σ F H r e => by
  subst hW
  refine ⟨fun m σ' H' => ∃ i, i ≤ n ∧ m = n - i ∧ At C (Wi i) (Gi i) (φ i) σ' H', ⟨n, 0, Nat.zero_le _, rfl, h0, F, r, e.sub hG⟩, fun m σ' H' ⟨i, hi, hm, hp, F', r', e'⟩ => ?_⟩
  by_cases z : i = n
  · subst z
    refine hf hp σ' F' e' H' r'.sm r'.j _ fun F1 H1 g => ?_
    show rest D σ' H1
    exact hd hp σ' F1 H1 (r'.go g) (e'.mono (g.le r'.sm))
  · have hlt : i < n := by omega
    refine ht i hlt hp σ' F' e' H' r'.sm r'.j _ fun F1 H1 g => ?_
    show ∃ N : L2.St → Hp → Prop, _ ∧ _
    exact ⟨_, fun σ2 H2 a => ⟨n - (i + 1), by omega, i + 1, hlt, rfl, a⟩, hs i hlt hp σ' F1 H1 (r'.go g) (e'.mono (g.le r'.sm))⟩


/-! ### cells -/
theorem Run.alloc {l : Addr} {o : HO} {Cp : CP} (r : Run C W F H) (n : H l = none) (h : Cp.c o F) : Run C ((l, Cp) :: W) F (upd H l o) := by
  obtain ⟨j1, j2, j3⟩ := id r.j
  have hT : ∀ a, (C.w W).T a → a ≠ l := fun a ha z => ((C.w W).there r.j ha).2 (by rw [z]; exact n)
  have hF := Same.none_of r.sm n
  have hl : C.H0 l = none := by
    cases q : C.H0 l with
    | none => rfl
    | some u => exact absurd n (r.st.th l (by rw [q]; exact fun z => nomatch z))
  obtain ⟨k1, k2, k3⟩ := (C.w W).keep (F' := F) (H' := upd H l o) r.j (fun _ _ h => h) (fun a ha => ((C.w W).there r.j ha).1) fun a ha => upd_ne (hT a ha)
  refine ⟨⟨fun a u n' q => ?_, fun a q => ?_⟩, r.old, fun a u q => ?_, ⟨k1, List.nodup_cons.mpr ⟨fun z => hT l (.inr z) rfl, k2⟩, fun q hq => ?_⟩, r.lo, fun q hq => ?_⟩
  · have z := r.st.kp a u n' q
    rw [upd_ne (ne_of_none z n)]
    exact z
  · by_cases e : a = l
    · subst e
      rw [upd_same]
      exact fun z => nomatch z
    · rw [upd_ne e]
      exact r.st.th a q
  · rw [upd_ne (ne_of_none q hF)]
    exact r.sm a u q
  · rcases List.mem_cons.mp hq with e | hq
    · subst e
      exact ⟨fun z => hT l (.inl z) rfl, hF, o, upd_same, h⟩
    · exact k3 q hq
  · rcases List.mem_cons.mp hq with e | hq
    · subst e
      exact hl
    · exact r.fresh q hq
theorem cell_ne {cs : Cs} (hn : (cs.map (·.1)).Nodup) {i k : Nat} {p q : Addr × CP} (h1 : cs[i]? = some p) (h2 : cs[k]? = some q) (hne : i ≠ k) : p.1 ≠ q.1 := fun e => by
  have a1 : (cs.map (·.1))[i]? = some p.1 := by rw [List.getElem?_map, h1] <;> rfl
  have a2 : (cs.map (·.1))[k]? = some p.1 := by rw [List.getElem?_map, h2, e] <;> rfl
  exact hne (nd_ix hn a1 a2)
theorem map_set {cs : Cs} {k : Nat} {l : Addr} {Cp Cq : CP} (hk : cs[k]? = some (l, Cp)) : (cs.set k (l, Cq)).map (·.1) = cs.map (·.1) := by
  rw [List.map_set]
  apply List.ext_getElem?
  intro i
  by_cases e : k = i
  · subst e
    have hl := (List.getElem?_eq_some_iff.mp hk).1
    rw [List.getElem?_set_self (by rw [List.length_map]; exact hl), List.getElem?_map, hk] <;> rfl
  · rw [List.getElem?_set_ne e]
/-- a cell is written -/
theorem Run.put {k : Nat} {l : Addr} {o : HO} {Cp Cq : CP} (r : Run C W F H) (hk : W[k]? = some (l, Cp)) (h : Cq.c o F) : Run C (W.set k (l, Cq)) F (upd H l o) := by
  obtain ⟨j1, j2, j3⟩ := id r.j
  have hm : (l, Cp) ∈ W := List.mem_of_getElem? hk
  obtain ⟨nT, hF, o0, h0, c0⟩ := j3 _ hm
  have hl : C.H0 l = none := r.fresh _ hm
  refine ⟨⟨fun a u n' q => ?_, fun a q => ?_⟩, r.old, fun a u q => ?_, ⟨C.W0.keep j1 (fun _ _ h => h) (fun a ha => (C.W0.there j1 ha).1) fun a ha => upd_ne fun z => nT (by rw [← z]; exact ha), by rw [map_set hk]; exact j2, fun q hq => ?_⟩, r.lo, fun q hq => ?_⟩
  · rw [upd_ne (ne_of_none q hl)]
    exact r.st.kp a u n' q
  · by_cases e : a = l
    · subst e
      rw [upd_same]
      exact fun z => nomatch z
    · rw [upd_ne e]
      exact r.st.th a q
  · rw [upd_ne (ne_of_none q hF)]
    exact r.sm a u q
  · obtain ⟨i, hi⟩ := List.getElem?_of_mem hq
    by_cases e : k = i
    · subst e
      rw [List.getElem?_set_self (List.getElem?_eq_some_iff.mp hk).1] at hi
      have e2 := Option.some.inj hi
      subst e2
      exact ⟨nT, hF, o, upd_same, h⟩
    · rw [List.getElem?_set_ne e] at hi
      obtain ⟨z1, z2, u, z3, z4⟩ := j3 q (List.mem_of_getElem? hi)
      exact ⟨z1, z2, u, by rw [upd_ne (cell_ne j2 hi hk (Ne.symm e))]; exact z3, z4⟩
  · obtain ⟨i, hi⟩ := List.getElem?_of_mem hq
    by_cases e : k = i
    · subst e
      rw [List.getElem?_set_self (List.getElem?_eq_some_iff.mp hk).1] at hi
      have e2 := Option.some.inj hi
      subst e2
      exact hl
    · rw [List.getElem?_set_ne e] at hi
      exact r.fresh q (List.mem_of_getElem? hi)
/-- the newest cell is a cell no more: its list is data from now on -/
theorem Run.freeze {l : Addr} {ds : List PyData} (r : Run C ((l, LC ds) :: W) F H) : ∃ F', Run C W F' H ∧ Same F F' ∧ Rp F' (.ref l) (.list ds) := by
  obtain ⟨j1, j2, j3⟩ := id r.j
  obtain ⟨nT, hF, o, h0, xs, e0, c0⟩ := j3 _ List.mem_cons_self
  subst e0
  have hl : C.H0 l = none := r.fresh _ List.mem_cons_self
  have le : Same F (upd F l (.lst xs)) := fun a u q => by
    rw [upd_ne (ne_of_none q hF)]
    exact q
  have nd := List.nodup_cons.mp j2
  refine ⟨upd F l (.lst xs), ⟨r.st, fun a q => ?_, fun a u q => ?_, ⟨C.W0.keep j1 le (fun a ha => ?_) (fun _ _ => rfl), nd.2, fun q hq => ?_⟩, fun a u q => le a u (r.lo a u q), fun q hq => r.fresh q (List.mem_cons_of_mem _ hq)⟩, le, .lst upd_same (RpAll.mono le c0)⟩
  · rw [upd_ne fun z => q (by rw [z]; exact hl)]
    exact r.old a q
  · by_cases e : a = l
    · subst e
      rw [upd_same] at q
      rw [← q]
      exact h0
    · rw [upd_ne e] at q
      exact r.sm a u q
  · rw [upd_ne fun z => nT (by rw [← z]; exact ha)]
    exact (C.W0.there j1 ha).1
  · obtain ⟨z1, z2, u, z3, z4⟩ := j3 q (List.mem_cons_of_mem _ hq)
    have ne : q.1 ≠ l := fun z => nd.1 (by
      show l ∈ W.map (·.1)
      rw [← z]
      exact List.mem_map.mpr ⟨q, hq, rfl⟩)
    exact ⟨z1, by rw [upd_ne ne]; exact z2, u, z3, q.2.mono le z4⟩
/-- a cell's list, read -/
theorem Run.cell {k : Nat} {l : Addr} {ds : List PyData} (r : Run C W F H) (hk : W[k]? = some (l, LC ds)) : ∃ xs, H l = some (.lst xs) ∧ RpAll F xs ds := by
  obtain ⟨_, _, o, h0, xs, e0, c0⟩ := r.j.2.2 _ (List.mem_of_getElem? hk)
  subst e0
  exact ⟨xs, h0, c0⟩
/-- x = a new list, that will change -/
theorem ok_new {i : Nat} {ds : List PyData} (h : TyN (C.w W) G te ds) (k : ∀ l, Ok C ((l, LC ds) :: W) (G.set i (some (XV (.ref l)))) rest D) : Ok C W G (tSeq (tAsg te (gName i)) rest) D := fun σ F H r e =>
  h σ F e H r.sm r.j _ fun l xs F1 H1 g n p => k l _ F1 _ ((r.go g).alloc n ⟨xs, rfl, p⟩) ((e.mono (g.le r.sm)).set i rfl)
/-- x.append(e) -/
theorem ok_app {k i : Nat} {l : Addr} {ds : List PyData} {d : PyData} (hk : W[k]? = some (l, LC ds)) (hi : G[i]? = some (some (XV (.ref l)))) (h : Ty (C.w W) G te (DV d)) (hz : ds.length < 100000) (q : Ok C (W.set k (l, LC (ds ++ [d]))) G rest D) :
    Ok C W G (tSeq (tDrop (tBM K "list" rAppend (tVar i) (tCons te tNil))) rest) D := fun σ F H r e => by
  obtain ⟨v, h1, h2⟩ := e.2 i _ hi
  have h2' : v = .ref l := h2
  subst h2'
  obtain ⟨xs, hc, hr⟩ := r.cell hk
  refine ⟨_, h1, .inl ⟨rfl, xs, SqL.of hc⟩, h σ F e H r.sm r.j _ fun w F1 H1 g p => ?_⟩
  have r1 := r.go g
  obtain ⟨xs1, hc1, hr1⟩ := r1.cell hk
  exact ⟨l, xs1, w, rfl, rfl, hc1, szLt (by rw [hr1.length]; exact hz), q σ F1 _ (r1.put hk ⟨_, rfl, hr1.snoc p⟩) (e.mono (g.le r.sm))⟩
/-- x[j] = e -/
theorem ok_setL {k i : Nat} {l : Addr} {ds : List PyData} {d : PyData} {tb : TE} {j : Int} {m : Nat} (hk : W[k]? = some (l, LC ds)) (hi : G[i]? = some (some (XV (.ref l)))) (h : Ty (C.w W) G te (DV d)) (hj : Ty (C.w W) G tb (IV j)) (hm : ixN ds.length j = some m) (q : Ok C (W.set k (l, LC (ds.set m d))) G rest D) :
    Ok C W G (tSeq (tAsg te (gSub (tVar i) tb rSetL)) rest) D := fun σ F H r e => by
  refine h σ F e H r.sm r.j _ fun w F1 H1 g p => ?_
  have r1 := r.go g
  have e1 := e.mono (g.le r.sm)
  obtain ⟨v, h1, h2⟩ := e.2 i _ hi
  have h2' : v = .ref l := h2
  subst h2'
  refine ⟨_, h1, hj σ F1 e1 H1 r1.sm r1.j _ fun y F2 H2 g2 p2 => ?_⟩
  have r2 := r1.go g2
  obtain ⟨xs, hc, hr⟩ := r2.cell hk
  exact ⟨l, xs, j, m, rfl, IV.v p2, hc, by rw [hr.length]; exact hm, q σ F2 _ (r2.put hk ⟨_, rfl, hr.set m (Rp.mono (g2.le r1.sm) p)⟩) (e1.mono (g2.le r1.sm))⟩
/-- from here on the newest cell's list is data -/
theorem ok_freeze {i : Nat} {l : Addr} {ds : List PyData} (hi : G[i]? = some (some (XV (.ref l)))) (q : Ok C W (G.set i (some (DV (.list ds)))) t D) : Ok C ((l, LC ds) :: W) G t D := fun σ F H r e => by
  obtain ⟨F', r', le, p⟩ := r.freeze
  obtain ⟨v, h1, h2⟩ := e.2 i _ hi
  have h2' : v = .ref l := h2
  subst h2'
  refine q σ F' H r' ?_
  have e' := (e.mono le).set (P := DV (.list ds)) i p
  have hs : σ.set i (some (.ref l)) = σ := by
    apply List.ext_getElem?
    intro j
    by_cases z : i = j
    · subst z
      rw [List.getElem?_set, if_pos rfl, if_pos (List.getElem?_eq_some_iff.mp h1).1, h1]
    · rw [List.getElem?_set_ne z]
  rw [hs] at e'
  exact e'
/-- what is read of a cell -/
theorem cell_at {k : Nat} {l : Addr} {ds : List PyData} (hk : W[k]? = some (l, LC ds)) (j : (C.w W).J F H) : ∃ xs, H l = some (.lst xs) ∧ RpAll F xs ds := by
  obtain ⟨_, _, o, h0, xs, e0, c0⟩ := j.2.2 _ (List.mem_of_getElem? hk)
  subst e0
  exact ⟨xs, h0, c0⟩
theorem tyc_len {k i : Nat} {l : Addr} {ds : List PyData} (hk : W[k]? = some (l, LC ds)) (hi : G[i]? = some (some (XV (.ref l)))) : Ty (C.w W) G (tCB (rLen K) (tCons (tVar i) tNil)) (IV (ds.length : Nat)) := fun σ F e H s j Q q => by
  obtain ⟨v, h1, h2⟩ := e.2 i _ hi
  have h2' : v = .ref l := h2
  subst h2'
  obtain ⟨xs, hc, hr⟩ := cell_at hk j
  exact ⟨_, h1, _, xs.length, rfl, .inl ⟨xs, SqL.of hc, rfl⟩, q _ F H (Go.refl s j) (by rw [hr.length]; exact .int _)⟩
theorem tyc_ix {k i : Nat} {l : Addr} {ds : List PyData} {d : PyData} {m : Int} {tb : TE} (hk : W[k]? = some (l, LC ds)) (hi : G[i]? = some (some (XV (.ref l)))) (hb : Ty (C.w W) G tb (IV m)) (h : atI ds m = some d) : Ty (C.w W) G (tOp (rIxA K) (tVar i) tb) (DV d) := fun σ F e H s j Q q => by
  obtain ⟨v, h1, h2⟩ := e.2 i _ hi
  have h2' : v = .ref l := h2
  subst h2'
  refine ⟨_, h1, hb σ F e H s j _ fun y F1 H1 g p => ?_⟩
  obtain ⟨xs, hc, hr⟩ := cell_at hk g.j
  obtain ⟨u, h3, h4⟩ := hr.at_ h
  exact .inl ⟨l, xs, m, u, rfl, IV.v p, SqL.of hc, h3, q u F1 H1 g h4⟩
/-- f(x), x a cell's list, the value without a heap -/
theorem tyc_call {R : List PV → PV → Prop} {k i : Nat} {l : Addr} {ds : List PyData} {E : XK} (hk : W[k]? = some (l, LC ds)) (hi : G[i]? = some (some (XV (.ref l)))) (hr : R [DV (.list ds)] P) (hp : ∀ v F F', P.p v F → P.p v F') : Ty (C.w W) G (tCall (Pr R) [] E (tCons (tVar i) tNil)) P := fun σ F e H s j Q q => by
  obtain ⟨v, h1, h2⟩ := e.2 i _ hi
  have h2' : v = .ref l := h2
  subst h2'
  obtain ⟨xs, hc, hrp⟩ := cell_at hk j
  have hF : F l = none := (j.2.2 _ (List.mem_of_getElem? hk)).2.1
  have le : Same F (upd F l (.lst xs)) := fun a u q => by
    rw [upd_ne (ne_of_none q hF)]
    exact q
  have s' : Same (upd F l (.lst xs)) H := fun a u q => by
    by_cases z : a = l
    · subst z
      rw [upd_same] at q
      rw [← q]
      exact hc
    · rw [upd_ne z] at q
      exact s a u q
  refine ⟨_, h1, upd F l (.lst xs), [DV (.list ds)], P, s', ⟨.lst upd_same (RpAll.mono le hrp), trivial⟩, hr, fun w H' sm pw => ?_⟩
  exact q w _ H' (Go.same s j sm) (hp w _ _ pw)
end

/-! ### a def's entry -/
theorem env_start : ∀ {Ps : List PV} {vs : List V} {F : Hp} (n : Nat), ARGS Ps vs F → Env (Ps.map some ++ List.replicate n none) (vs.map some ++ List.replicate n none) F
  | Ps, vs, F, n, h => by
    refine ⟨by simp [h.len], fun i P q => ?_⟩
    by_cases z : i < Ps.length
    · rw [List.getElem?_append_left (by rw [List.length_map]; exact z), List.getElem?_map] at q
      rw [List.getElem?_append_left (by rw [List.length_map, h.len]; exact z), List.getElem?_map]
      cases hq : Ps[i]? with
      | none =>
        rw [hq] at q
        cases q
      | some P' =>
        rw [hq] at q
        have e : P' = P := Option.some.inj (Option.some.inj q)
        subst e
        obtain ⟨v, hv, hp⟩ := argsAt h hq
        exact ⟨v, by rw [hv] <;> rfl, hp⟩
    · rw [List.getElem?_append_right (by rw [List.length_map]; omega), List.getElem?_replicate] at q
      split at q
      · cases q
      · cases q
where
  argsAt : ∀ {Ps : List PV} {vs : List V} {F : Hp} {i : Nat} {P : PV}, ARGS Ps vs F → Ps[i]? = some P → ∃ v, vs[i]? = some v ∧ P.p v F
  | P :: Ps, v :: vs, F, 0, P', ⟨h1, _⟩, e => by
    have z : P = P' := by simpa using e
    subst z
    exact ⟨v, rfl, h1⟩
  | P :: Ps, v :: vs, F, i + 1, P', ⟨_, h2⟩, e => by
    obtain ⟨w, h3, h4⟩ := argsAt (i := i) h2 (by simpa using e)
    exact ⟨w, by simpa using h3, h4⟩
  | [], [], _, _, _, _, e => by simp at e
  | [], _ :: _, _, _, _, h, _ => h.elim
  | _ :: _, [], _, _, _, h, _ => h.elim
/-- what follows a def's body -/
abbrev endsOf (Q : VK) : Ends := { nx := fun _ H' => Q .non H', rt := Q }
theorem enterW {W : Wd} {F H : Hp} {Ps : List PV} {vs : List V} {P : PV} {Q : VK} {N : List Str} {t : TS} {G : Gm} (s : Same F H) (j : W.J F H) (ha : ARGS Ps vs F) (k : ∀ v F' H', Go W F H F' H' → P.p v F' → Q v H')
    (hG : G = Ps.map some ++ List.replicate (N.length - Ps.length) none) (h : ∀ C : Ctx, C.W0 = W → Rets C (endsOf Q) P → Fall C (endsOf Q) P → Ok C [] G t (endsOf Q)) : t (endsOf Q) (L2.start N vs) H := by
  have hc : ∀ cs F' H', Run ⟨W, F, H, F⟩ cs F' H' → Go W F H (fz F H H') H' ∧ Same F' (fz F H H') := fun cs F' H' r => by
    have le : Same F' (fz F H H') := fun a o q => by
      cases z : H a with
      | none =>
        rw [fz_none z]
        exact r.sm a o q
      | some u =>
        have z' : H a ≠ none := by rw [z]; exact fun y => nomatch y
        have z2 : F' a = F a := r.old a z'
        rw [fz_some z', ← z2]
        exact q
    refine ⟨⟨r.st, rfl, W.keep r.j.1 le (fun a ha => ?_) fun _ _ => rfl⟩, le⟩
    obtain ⟨y1, y2⟩ := W.there j ha
    rw [fz_some y2]
    exact y1
  refine h ⟨W, F, H, F⟩ rfl (fun cs v F' H' r p => ?_) (fun cs σ F' H' r p => ?_) _ F H ⟨Stp.refl, fun _ _ => rfl, s, adds_nil.mpr j, Same.refl F, fun _ z => nomatch z⟩ ?_
  · obtain ⟨g, le⟩ := hc cs F' H' r
    exact k v _ H' g (P.mono le p)
  · obtain ⟨g, le⟩ := hc cs F' H' r
    exact k .non _ H' g (P.mono le p)
  · subst hG
    unfold L2.start
    rw [ha.len]
    exact env_start _ ha
/-- a def without cells -/
theorem enter {R : List PV → PV → Prop} {H : Hp} {vs : List V} {Q : VK} {E : XK} {N : List Str} {t : TS} (h : Pr R vs H Q E)
    (b : ∀ Ps P, R Ps P → ∀ C : Ctx, C.W0 = W0 → Rets C (endsOf Q) P → Fall C (endsOf Q) P → Ok C [] (Ps.map some ++ List.replicate (N.length - Ps.length) none) t (endsOf Q)) : t (endsOf Q) (L2.start N vs) H := by
  obtain ⟨F, Ps, P, s, ha, hR, k⟩ := h
  exact enterW s trivial ha (fun v F' H' g p => k v H' (fun a o q => g.st.kp a o (fun z => z) q) (by rw [← g.eq]; exact p)) rfl fun C h1 h2 h3 => b Ps P hR C h1 h2 h3
theorem Pr.len {R : List PV → PV → Prop} {n : Nat} (hn : ∀ Ps P, R Ps P → Ps.length = n) {vs : List V} {H : Hp} {Q : VK} {E : XK} (h : Pr R vs H Q E) : vs.length = n := by
  obtain ⟨F, Ps, P, s, ha, hR, k⟩ := h
  rw [ha.len, hn Ps P hR]
end RC

end
section
set_option Elab.async false
set_option linter.all false
set_option maxRecDepth 100000
set_option maxHeartbeats 1000000
/-! RC, part 6: enumerate of a tuple, what may be a list or a tuple, calls of defs. -/
namespace RC
open PySem PySem.Spec PyProof.Rows L2

/-! ### enumerate(tuple) -/
theorem meets_en1 {v : Value} {o : Obj} {Hq : Heap → Prop} (B : Begins v o Hq) :
    Meets (Builtin.«enumerate.__new__» ⟨[.type "enumerate", v], []⟩) (fun _ R s => Hq s.heap ∧ R (.ok (.ret (.ref (s.heap.push o).objs.size)))
      { s with heap := (s.heap.push o).push { cls := .type "enumerate", data := .fields #[.none, .bool false, .ref s.heap.objs.size, rawInt 0, .none, .none] } }) :=
  .of_wp fun prog w A R s hR => by
    obtain ⟨hp, gs, dr, tk, os⟩ := s
    obtain ⟨hq, hR⟩ := hR
    have hsub := sub_enumerate
    have q1 : ∀ {A' : Around} {E : Value → Shared → Prop} {Q : Value → Shared → Prop}, Q (.ref hp.objs.size) ⟨hp.push o, gs, dr, tk, os⟩ → wpAny (model prog w) A' (pyIter v) Q E ⟨hp, gs, dr, tk, os⟩ := fun q =>
      B.iter prog w _ _ ⟨hp, gs, dr, tk, os⟩ _ hq q
    wp_walk using q1
    refine wpAny_stack_any fun st => wpAny_pure ?_
    split
    · rename_i c _ _ _ _ _
      cases (c == Value.type "enumerate") <;> (wp_walk using q1; exact ⟨_, rfl, hR⟩)
    · wp_walk using q1
      exact ⟨_, rfl, hR⟩
section
variable {prog : Program} {w : World} {A : Around} {E : Value → Shared → Prop} {s : Shared}
theorem call_en1 {v : Value} {o : Obj} {Hq : Heap → Prop} {Q : Value → Shared → Prop} (B : Begins v o Hq) (h1 : Hq s.heap)
    (h : ∀ h', IsEnum h' (s.heap.objs.size + 1) s.heap.objs.size 0 .none → h'.get? s.heap.objs.size = some o → (∀ b u, s.heap.get? b = some u → h'.get? b = some u) → Q (.ref (s.heap.objs.size + 1)) { s with heap := h' }) :
    wpAny (model prog w) A (call (.type "enumerate") [v]) Q E s := by
  refine callType_new F.called_enumerate (by decide) (F.typeCall_enumerate_1 _) (F.newCall_enumerate_1 _) (fun obj => F.args_object_init_2 obj _) F.entry_enumerate_new (meets_en1 B) ⟨h1, ?_⟩
  have hz : (s.heap.push o).objs.size = s.heap.objs.size + 1 := Heap.size_push ..
  show _ ∧ _
  rw [hz]
  have he : IsEnum ((s.heap.push o).push { cls := .type "enumerate", data := .fields #[.none, .bool false, .ref s.heap.objs.size, rawInt 0, .none, .none] }) (s.heap.objs.size + 1) s.heap.objs.size 0 .none := by
    have q := Heap.get?_push_size (s.heap.push o) (o := { cls := .type "enumerate", data := .fields #[.none, .bool false, .ref s.heap.objs.size, rawInt 0, .none, .none] }) rfl
    rw [hz] at q
    exact q
  exact ⟨⟨_, he, rfl⟩, h _ he (Heap.get?_push_of_some _ (Heap.get?_push_size _ B.free)) fun b u x => Heap.get?_push_of_some _ (Heap.get?_push_of_some _ x)⟩
end
/-- the tuple at a, numbered, each item in a new pair -/
def Ien (a : Addr) : It where
  go := fun i H => ∃ (xs : List V) (x : V), H a = some (.tup xs) ∧ xs[i]? = some x
  yld := fun i H v H' => ∃ T x, v = .ref T ∧ H T = none ∧ H' = upd H T (.tup [.int (i : Nat), x]) ∧ ∀ xs, H a = some (.tup xs) → xs[i]? = some x
  stop := fun i H => ∃ xs : List V, H a = some (.tup xs) ∧ xs.length ≤ i
theorem turn_en {P : Program} {w : World} {K : PySem.W.Frag} {elts : List Expr} {kk : Nat} {tpos : Pos} (a e it : Addr) :
    Turn P w K (.Tuple elts kk tpos) (Ien a) [e, it] e (fun i h => (∃ old, IsEnum h e it ((i : Nat) : Int) old) ∧ h.IsTupleIter it a i ∧ e ≠ it) where
  mem := List.mem_cons_self
  obj := fun i h st b hb => by
    obtain ⟨⟨old, he⟩, ⟨o, ho, hc, hd⟩, _⟩ := st
    rcases List.mem_cons.mp hb with z | z
    · rw [z]
      exact ⟨_, he, fun v q => nomatch q⟩
    · rw [List.mem_singleton.mp z]
      exact ⟨o, ho, fun v q => by rw [hd] at q; cases q⟩
  keep := fun i h h' ⟨⟨old, he⟩, hi, hne⟩ k => ⟨⟨old, k e List.mem_cons_self _ he⟩, hi.at fun o q => k it (List.mem_cons_of_mem _ List.mem_cons_self) o q, hne⟩
  item := by
    intro X hP hw hK hc i pins s σ H E I hf st hg
    subst hP hw hK
    obtain ⟨⟨old, he⟩, hit, hne⟩ := st
    obtain ⟨xs, x, hq, hx⟩ := hg
    obtain ⟨its, rv, p, hz⟩ := I.tuple (SqT.of hq)
    obtain ⟨u, hu, ru⟩ := rv.get hx
    have hel : e < s.heap.objs.size := Heap.lt_size he
    have hil : it < s.heap.objs.size := by
      obtain ⟨_, q, _⟩ := hit
      exact Heap.lt_size q
    have pt : s.heap.IsTuple a its.toArray := p
    have nea : ∀ b ∈ [e, it], a ≠ b := fun b hb z => by
      have q := (hf b hb).1
      rw [← z, hq] at q
      cases q
    have ne1 := nea e List.mem_cons_self
    have ne2 := nea it (List.mem_cons_of_mem _ List.mem_cons_self)
    have hlt : i < its.toArray.size := by
      have l := rv.length
      have l2 := (List.getElem?_eq_some_iff.mp hx).1
      simp
      omega
    refine wpAny_pyNext_enum_itemD (Draws.tuple (by exact I.ok.hd hc) it a ne2 its.toArray) he ⟨hit, pt⟩ hlt hne (by simp [hne, Ne.symm ne1]) fun u' h' tk hP ho hs' hT hsz hk => ?_
    have eu : u' = u := by
      have z : its.toArray[i]? = some u' := hP
      rw [List.getElem?_toArray, hu] at z
      exact (Option.some.inj z).symm
    subst eu
    refine ⟨_, rfl, wpAny_letOwnedTupleGo_enum (s := { s with heap := h', toks := tk + 1 }) ho fun h'' he' sb => ?_⟩
    have hT2 : h''.get? s.heap.objs.size = some { cls := .type "tuple", data := .seq #[.int i tk, u'] } := (sb.2 _ (Nat.ne_of_gt hel)).trans hT
    have new : ObjOk X.prog X.w (upd H s.heap.objs.size (.tup [.int (i : Nat), x])) h'' s.heap.objs.size (.tup [.int (i : Nat), x]) := ⟨by show 2 ≤ sizeLine; decide, [.int i tk, u'], .cons ⟨_, rfl⟩ (.cons ru .nil), ⟨_, hT2, rfl, _, rfl⟩⟩
    have nm : ∀ {b : Addr}, b ∉ [e, it] → b ≠ e ∧ b ≠ it := fun hb => ⟨fun z => hb (by simp [z]), fun z => hb (by simp [z])⟩
    have I1 : Inv X pins σ (upd H s.heap.objs.size (.tup [.int (i : Nat), x])) { s with heap := h'', toks := tk + 1 } :=
      I.turnedNew (ch := [e, it]) (fun b ob hb q => (sb.2 b (nm hb).1).trans (hk b ob (nm hb).1 (nm hb).2 q)) hf (Nat.le_refl _) new
    refine ⟨.ref s.heap.objs.size, _, I1, rfl, ⟨_, x, rfl, I.hok.fresh (Nat.le_refl _), rfl, fun ys hy => ?_⟩, ⟨⟨u', ?_⟩, hs'.1.at fun o q => (sb.2 it (Ne.symm hne)).trans q, hne⟩, fun b hb => ?_⟩
    · rw [hq] at hy
      have z : xs = ys := by injection hy with z; injection z
      rw [← z]
      exact hx
    · have e1 : ((i + 1 : Nat) : Int) = (i : Int) + 1 := by omega
      rw [e1]
      exact he'
    · have hb' : b < s.heap.objs.size := by
        rcases List.mem_cons.mp hb with z | z
        · rw [z]; exact hel
        · rw [List.mem_singleton.mp z]; exact hil
      rw [upd_ne (Nat.ne_of_lt hb')]
      exact (hf b hb).1
  done := by
    intro X hP hw hK hc i pins s σ H E I hf st hg
    subst hP hw hK
    obtain ⟨⟨old, he⟩, hit, hne⟩ := st
    obtain ⟨xs, hq, hx⟩ := hg
    obtain ⟨its, rv, p, hz⟩ := I.tuple (SqT.of hq)
    obtain ⟨f0, f1, f2, f3, f4, f5⟩ := hf it (List.mem_cons_of_mem _ List.mem_cons_self)
    have pt : s.heap.IsTuple a its.toArray := p
    refine wpAny_of_pyNext (e := e) (it := it) (a := a) he hit pt (by have l := rv.length; simp; omega) (I.ok.hd hc) (fun z => ?_) fun h' eb => ⟨rfl, I.turned (t' := s.toks) (fun b o hb q => eb b o hb q) f0 f1 f3 f4 f5⟩
    rw [← z, hq] at f0
    cases f0
  self := fun A i s Q E ⟨⟨_, he⟩, _⟩ h => wpAny_pyIter_enum he h
where
  wpAny_of_pyNext {prog : Program} {w : World} {A : Around} {E : Value → Shared → Prop} {s : Shared} {e it a : Addr} {i : Nat} {c : Int} {items : Array Value} {old : Value} {Q : Option Value → Shared → Prop} (he : IsEnum s.heap e it c old) (hit : s.heap.IsTupleIter it a i) (pt : s.heap.IsTuple a items) (hn : items.size ≤ i) (hh : A.handled = none) (hne : a ≠ it)
      (hQ : ∀ h', Heap.ExtBut it s.heap h' → Q none { s with heap := h' }) : wpAny (model prog w) A (pyNext (.ref e)) Q E s := by
    have D : Draws prog w A.in1 it [it, a] 0 (fun _ _ => False) (fun _ h => h.IsTupleIter it a i ∧ h.IsTuple a items) :=
      { live := fun _ _ st => let ⟨o, ho, _⟩ := st.1; ⟨o, ho⟩
        frame := fun _ _ _ st hk => ⟨st.1.at fun o e => hk it (by simp) o e, st.2.at fun o e => hk a (by simp) o e⟩
        item := fun i s Q E hi => absurd hi (Nat.not_lt_zero _)
        done := fun s Q E st hE => wpAny_nextOf_tuple_end (by exact hh) st.1 st.2 (by simp; omega) hE }
    exact wpAny_pyNext_enum_endD D he ⟨hit, pt⟩ hQ
def iEnT (ta : TA) : TI := fun σ H R => ta σ H fun vs H1 => ∃ a xs, vs = [.ref a] ∧ H1 a = some (.tup xs) ∧ R (Ien a) H1
theorem pi_enT {X : Cx} {e : Expr} {ta : TA} {p pos tpos : Pos} {elts : List Expr} {kk : Nat} (hg : Gl X "enumerate") (hm : X.mg "enumerate" = none) (ha : PA X [e] ta) (hs : starEach [e] X.env = [(false, eval e X.env)] := by rfl) :
    PI X (.Tuple elts kk tpos) (.Call (.Name "enumerate" p) [e] [] pos) (iEnT ta) := by
  refine ⟨fun pins s σ H R I h => ?_⟩
  refine Call_ (ld_blt I hg hm boot_enumerate (callWith_type1 (thn (ha.run pos pins s σ H _ I h) fun us s1 ⟨vs, H1, I1, r1, q1⟩ => ?_) hs rfl))
  obtain ⟨a, xs, ex, hq, q⟩ := q1
  subst ex
  cases r1 with
  | cons r rr =>
    cases rr
    cases r
    obtain ⟨its, rv, p', hz⟩ := I1.tuple (SqT.of hq)
    refine call_en1 (begins_tuple a its.toArray) p' fun h' he hit hk => wpAny_pyIter_enum he ?_
    have I2 : Inv X pins σ H1 { s1 with heap := h' } := I1.kept (t' := s1.toks) hk
    refine ⟨s1.heap.objs.size + 1, [s1.heap.objs.size + 1, s1.heap.objs.size], _, _, H1, rfl, I2, turn_en a (s1.heap.objs.size + 1) s1.heap.objs.size, ⟨⟨.none, he⟩, ⟨_, hit, rfl, rfl⟩, Nat.succ_ne_self _⟩, fun b hb => ?_, q⟩
    have hle : s1.heap.objs.size ≤ b := by
      rcases List.mem_cons.mp hb with z | z
      · rw [z]; exact Nat.le_add_right _ _
      · rw [List.mem_singleton.mp z]; exact Nat.le_refl _
    exact I1.fpOk hle (I1.hok.fresh hle)
section
variable {W : Wd} {G G' : Gm} {tl ta te tb : TE} {K : PySem.W.Frag} {ds es : List PyData}
theorem walk_en {a : Addr} {xs : List V} : Walk (Ien a) xs.length (fun H => H a = some (.tup xs)) (YPair (fun i => some (.int (i : Nat))) (fun i => xs[i]?)) :=
  ⟨fun i H hi q => ⟨xs, xs[i], q, List.getElem?_eq_getElem hi⟩, fun H q => ⟨xs, q, Nat.le_refl _⟩, fun i H x H' _ q ⟨T, y, e1, e2, e3, e4⟩ => ⟨T, _, y, e1, e2, e3, rfl, e4 xs q⟩⟩
theorem wd_enT {F1 : Hp} {a : Addr} {xs : List V} (h : F1 a = some (.tup xs)) (r : RpAll F1 xs ds) : WalkD F1 (Ien a) (enD ds) := by
  refine ⟨_, _, ((enD_len (ds := ds)).trans r.length.symm) ▸ walk_en (a := a) (xs := xs), fun H s => s _ _ h, fun W i F H x H' hi s1 s2 j hy => ?_⟩
  obtain ⟨T, u, y, rfl, n, rfl, h1, h2⟩ := hy
  have eu : V.int (i : Nat) = u := Option.some.inj h1
  subst eu
  obtain ⟨d, h3, h4⟩ := r.getV h2
  obtain ⟨F', g, p⟩ := pair_new s2 j n (.int (i : Nat)) (Rp.mono s1 h4)
  exact ⟨F', _, g, enD_get h3, p⟩
theorem ti_enumT (h : Ty W G te (DV (.tuple ds))) : TyI W G (iEnT (tCons te tNil)) (enD ds) := fun σ F e H s j R q => (ta_cons h ta_nil) σ F e H s j _ fun vs F1 H1 g p => by
  obtain ⟨v, rfl, pv⟩ := p.one
  cases pv with
  | @tup a xs _ h1 r1 => exact ⟨a, xs, rfl, g.sm s j _ _ h1, q _ F1 H1 g (wd_enT h1 r1)⟩
end

/-! ### a list or a tuple, walked -/
def iSeq (K : PySem.W.Frag) (tl : TE) : TI := fun σ H R => tl σ H fun x H1 => ∃ a, x = .ref a ∧ (((∃ xs, SqL K H1 a xs) ∧ R (Itl K a) H1) ∨ ((∃ xs, SqT K H1 a xs) ∧ R (Itt K a) H1))
theorem pi_seq {X : Cx} {tg l : Expr} {tl : TE} (hl : PE X l tl) : PI X tg l (iSeq X.K tl) := by
  refine ⟨fun pins s σ H R I h => thn (hl.run pins s σ H _ I h) fun v s1 ⟨x, H1, I1, r1, a, e, q1⟩ => ?_⟩
  subst e
  cases r1
  rcases q1 with ⟨⟨xs, hq⟩, q⟩ | ⟨⟨xs, hq⟩, q⟩
  · obtain ⟨its, rv, p, hz⟩ := I1.list hq
    refine wpAny_pyIter_list p.isList ⟨s1.heap.objs.size, [s1.heap.objs.size], _, _, H1, rfl, I1.kept (t' := s1.toks) fun b o e => Heap.get?_push_of_some _ e, turn_list a _, ⟨_, Heap.get?_push_size _ rfl, rfl, rfl⟩, fun b hb => ?_, q⟩
    rw [List.mem_singleton.mp hb]
    exact I1.fpOk (Nat.le_refl _) (I1.hok.fresh (Nat.le_refl _))
  · obtain ⟨its, rv, p, hz⟩ := I1.tuple hq
    refine wpAny_pyIter_tuple (show s1.heap.IsTuple a its.toArray from p) ⟨s1.heap.objs.size, [s1.heap.objs.size], _, _, H1, rfl, I1.kept (t' := s1.toks) fun b o e => Heap.get?_push_of_some _ e, turn_tuple a _, ⟨_, Heap.get?_push_size _ rfl, rfl, rfl⟩, fun b hb => ?_, q⟩
    rw [List.mem_singleton.mp hb]
    exact I1.fpOk (Nat.le_refl _) (I1.hok.fresh (Nat.le_refl _))
section
variable {W : Wd} {G G' : Gm} {tl : TE} {K : PySem.W.Frag} {ds : List PyData}
theorem ti_seqT (h : Ty W G tl (DV (.tuple ds))) : TyI W G (iSeq K tl) ds := fun σ F e H s j R q => h σ F e H s j _ fun v F1 H1 g p => by
  cases p with
  | @tup a xs _ h1 r1 => exact ⟨a, rfl, .inr ⟨⟨xs, seqT h1 (g.sm s j)⟩, q _ F1 H1 g (wd_tup h1 r1)⟩⟩
theorem ti_seqL (h : Ty W G tl (DV (.list ds))) : TyI W G (iSeq K tl) ds := fun σ F e H s j R q => h σ F e H s j _ fun v F1 H1 g p => by
  cases p with
  | @lst a xs _ h1 r1 => exact ⟨a, rfl, .inl ⟨⟨xs, seqL h1 (g.sm s j)⟩, q _ F1 H1 g (wd_list h1 r1)⟩⟩
end

/-! ### defs that are called by their names -/
structure Cal (P : Program) (w : World) (K : PySem.W.Frag) (mg : Str → Option Value) (base : Heap) (k : Nat) (x : Str) (sp : Sp) : Prop where
  ex : ∃ (f : Addr) (fd : FuncData) (ps : List Str), FnOk P w K mg base L2.CX0 k f fd ps sp ∧ mg x = some (.ref f) ∧ PySem.W.keepIn K (.ref f) = true ∧ L2.Binds K fd ps []
section
variable {X : Cx} {k j : Nat} {x : Str} {sp : Sp} {p pos : Pos} {e : Expr} {es : List Expr} {t : TA}
theorem pe_cal (c : Cal X.prog X.w X.K X.mg X.base k x sp) (hr : Room j X.A) (hk : k ≤ j) (hg : Gl X x) (ha : PA X (e :: es) t) (hdb : (x == ("__debug__" : Str)) = false := by decide)
    (he : starEach (e :: es) X.env = (false, eval e X.env) :: starEach es X.env := by rfl) (hpl : (backTo pos (starEach es X.env)).any (·.1) = false := by rfl) : PE X (.Call (.Name x p) (e :: es) [] pos) (tCall sp [] L2.E0 t) := by
  obtain ⟨f, fd, ps, F, hm, hkp, hb⟩ := c.ex
  exact pe_call F (hr.mono hk) hg hm hkp hb .nil L2.pass0 ha hdb he hpl
theorem pe_globI {i : Int} (hg : Gl X x) (hm : ∃ t, X.mg x = some (.int i t)) (hd : (x == ("__debug__" : Str)) = false := by decide) : PE X (.Name x pos) (tC (.int i)) := by
  obtain ⟨t, h⟩ := hm
  exact pe_glob hg h ⟨t, rfl⟩ hd
theorem pe_globS {z : Str} (hg : Gl X x) (hm : ∃ t, X.mg x = some (.str z t)) (hd : (x == ("__debug__" : Str)) = false := by decide) : PE X (.Name x pos) (tC (.str z)) := by
  obtain ⟨t, h⟩ := hm
  exact pe_glob hg h ⟨t, rfl⟩ hd
end
def rNegI : V → Hp → VK → Prop := rU fun i => .int (-i)
theorem un_negI {X : Cx} : UnR X (unaryOp .USub) rNegI := un_neg
theorem ty_neg {W : Wd} {G : Gm} {te : TE} {i : Int} (h : Ty W G te (IV i)) : Ty W G (tUn rNegI te) (IV (-i)) := ty_un h fun x F H s j p Q q => ⟨i, IV.v p, q _ F H (Go.refl s j) (.int _)⟩
end RC

end
section
set_option Elab.async false
set_option linter.all false
set_option maxRecDepth 100000
set_option maxHeartbeats 1000000
/-! RC, the mathematics' words: deeds, wishes, loads, what stands behind a wish, who must go, what is left. -/
namespace RC
open PySem L2
/-- a deed: its first place, if it has written, and its end need -/
abbrev Dd := Option Int × Int
def oD : Option Int → PyData
  | none => .none
  | some i => .int i
def dD (d : Dd) : PyData := .tuple [oD d.1, .int d.2, .tuple []]
def dsD (ds : List Dd) : PyData := .tuple (ds.map dD)
def nD (i : Nat) : PyData := .int (i : Nat)
def oN : Option Nat → PyData
  | none => .none
  | some i => .int (i : Nat)
inductive Wi where
  | opn (c n : Int)
  | row (d : Nat) (c n : Int)
def wD : Wi → PyData
  | .opn c n => .tuple [.str "open", .int c, .int n, .tuple []]
  | .row d c n => .tuple [.str "row", .int (d : Nat), .int c, .int n]
def insAt {α : Type} (k : Nat) (x : α) (l : List α) : List α := l.take k ++ [x] ++ l.drop k
def wrote (d : Dd) : Bool := d.1.isSome
/-- how many have written -/
def wm (ds : List Dd) : Nat := (ds.filter wrote).length
/-- the end needs of so many of the eldest -/
def needs (ds : List Dd) (m : Nat) : Int := ((ds.take m).map (·.2)).sum
def load (h : Int) (ds : List Dd) (i : Nat) (d : Dd) : Int := match d.1 with
  | none => d.2
  | some f => h - f + needs ds (i + 1)
def loads (h : Int) (ds : List Dd) : List Int := ds.mapIdx fun i d => load h ds i d
def easyB (c h : Int) (ds : List Dd) : Bool := (loads h ds).all fun l => decide (l ≤ c)
def heavy (c h : Int) (ds : List Dd) : List Nat := (List.range ds.length).filter fun i => decide (c < (loads h ds).getD i 0)
/-- (head, deeds) behind a wish -/
def behind (h : Int) (ds : List Dd) : Wi → Int × List Dd
  | .opn c n => if 0 < c then (h + c, insAt (wm ds) (some h, n) ds) else (h + c, ds ++ [(none, n)])
  | .row d c n => match ds[d]? with
    | some (some f, _) => (h + c, ds.set d (some f, n))
    | _ => (h + c, insAt (wm (ds.eraseIdx d)) (some h, n) (ds.eraseIdx d))
def wisher (ds : List Dd) : Wi → Nat
  | .opn c _ => if 0 < c then wm ds else ds.length
  | .row d _ _ => match ds[d]? with
    | some (some _, _) => d
    | _ => wm ds
def firstRow (ds : List Dd) : Wi → Bool
  | .opn c _ => decide (0 < c)
  | .row d _ _ => match ds[d]? with
    | some (some _, _) => false
    | _ => true
def cellsOf : Wi → Int
  | .opn c _ => c
  | .row _ c _ => c
def needOf : Wi → Int
  | .opn _ n => n
  | .row _ _ n => n
/-- the least step from m on at which p holds, looked for n times -/
def firstFrom (p : Nat → Bool) : Nat → Nat → Nat
  | m, 0 => m
  | m, n + 1 => if p m then m else firstFrom p (m + 1) n
/-- own_sum: the deed's load behind its first row when many are gone -/
def ownSum (ds : List Dd) (wi : Nat) (c : Int) (many : Nat) : Int := c + (((ds.take (wi + 1)).drop many).map (·.2)).sum
/-- who must go, as the program says -/
def pMust (c h : Int) (ds : List Dd) (w : Wi) : Option Nat :=
  let th := behind h ds w
  let wi := wisher ds w
  let hv := heavy c th.1 th.2
  let some_ := hv.filter fun d => decide (d ≠ wi)
  let m0 := match some_.getLast? with
    | some d => d + 1
    | none => 0
  if firstRow ds w then
    let m := firstFrom (fun m => decide (wi < m) || decide (ownSum th.2 wi (th.1 - h) m ≤ c)) m0 (wi + 1 - m0)
    if wi < m then none else some m
  else if wi ∈ hv then none else if wi < m0 then none else some m0
def goneF (h : Int) (ds : List Dd) (m : Nat) : Int × List Dd := (h + needs ds m, ds.drop m)
def later : Wi → Nat → Wi
  | .opn c n, _ => .opn c n
  | .row d c n, m => .row (d - m) c n
/-- whether the wish is let by when m of the eldest are gone -/
def okAt (c h : Int) (ds : List Dd) (w : Wi) (m : Nat) : Bool :=
  let g := goneF h ds m
  let b := behind g.1 g.2 (later w m)
  easyB c b.1 b.2
/-- who must go, as the law looks for it -/
def lMustFrom (c h : Int) (ds : List Dd) (w : Wi) : Nat → Nat → Option Nat
  | _, 0 => none
  | m, n + 1 => match w with
    | .row d _ _ => if d < m then none else if okAt c h ds w m then some m else lMustFrom c h ds w (m + 1) n
    | .opn _ _ => if okAt c h ds w m then some m else lMustFrom c h ds w (m + 1) n
def lMust (c h : Int) (ds : List Dd) (w : Wi) : Option Nat := lMustFrom c h ds w 0 (ds.length + 1)
/-- what stands when many have left, the lot's being carried: their new rows -/
def againF : Int → List Dd → Nat → List Nat → List Dd
  | _, [], _, _ => []
  | h, d :: ds, i, lot => if i ∈ lot ∧ 0 < d.2 then (some h, d.2) :: againF (h + d.2) ds (i + 1) lot else againF (h + d.2) ds (i + 1) lot
def bareF (ds : List Dd) (lot : List Nat) : List Dd := (lot.filter fun i => decide ((ds.getD i (none, 0)).2 ≤ 0)).map fun _ => (none, 0)
def leftF (h : Int) (ds : List Dd) (m : Nat) (lot : List Nat) : Int × List Dd :=
  (h + needs ds m, (ds.drop m).filter wrote ++ againF h (ds.take m) 0 lot ++ (ds.drop m).filter (fun d => !wrote d) ++ bareF ds lot)
/-- the order of those that are there then, by their old numbers, without those that have no rows left -/
def orderF (ds : List Dd) (m : Nat) (lot : List Nat) : List Nat :=
  ((List.range' m (ds.length - m)).filter fun i => wrote (ds.getD i (none, 0))) ++ (lot.filter fun i => decide (0 < (ds.getD i (none, 0)).2)) ++ ((List.range' m (ds.length - m)).filter fun i => !wrote (ds.getD i (none, 0)))
def whenLeft (ds : List Dd) (m : Nat) (lot : List Nat) : Wi → Wi
  | .opn c n => .opn c n
  | .row d c n => .row ((orderF ds m lot).idxOf d) c n
def canF (c h : Int) (ds : List Dd) (w : Wi) (m : Nat) (lot : List Nat) : Bool :=
  let l := leftF h ds m lot
  let b := behind l.1 l.2 (whenLeft ds m lot w)
  easyB c b.1 b.2
def needBehind (ds : List Dd) (w : Wi) (i : Nat) : Int := match w with
  | .row d _ n => if d = i then n else (ds.getD i (none, 0)).2
  | .opn _ _ => (ds.getD i (none, 0)).2
/-- the sum of a deed of the lot -/
def sumF (ds : List Dd) (w : Wi) (m : Nat) (lot : List Nat) (d : Nat) : Int :=
  cellsOf w + ((((List.range' m (ds.length - m)).filter fun i => wrote (ds.getD i (none, 0))) ++ lot).map (needBehind ds w)).sum + (ds.getD d (none, 0)).2 + (((List.range' (d + 1) (m - (d + 1))).filter fun i => decide (i ∉ lot)).map fun i => (ds.getD i (none, 0)).2).sum
/-- the sum of the deed that wishes -/
def ownF (ds : List Dd) (w : Wi) (m : Nat) (lot : List Nat) : Int := if firstRow ds w then
    cellsOf w + needOf w + ((((List.range ds.length).filter fun i => decide (i ∈ lot) || decide (m ≤ i) && wrote (ds.getD i (none, 0)))).map fun i => (ds.getD i (none, 0)).2).sum
  else 0
/-- what carried tells -/
inductive Car where
  | rows
  | room (d : Nat)
  | let_ (h : Int) (ds : List Dd)
def carD : Car → PyData
  | .rows => .tuple [.str "rows"]
  | .room d => .tuple [.str "room", .int (d : Nat)]
  | .let_ h ds => .tuple [.str "let", .int h, dsD ds]
def carTo (h : Int) (ds : List Dd) (d : Nat) : Int × List Dd :=
  let n := (ds.getD d (none, 0)).2
  let r := ds.eraseIdx d
  (h + n, if 0 < n then insAt (wm r) (some h, n) r else r ++ [(none, n)])
def carF (c h : Int) (ds : List Dd) (d : Nat) : Car := match (ds.getD d (none, 0)).1 with
  | none => .rows
  | some _ => if c < h + (ds.getD d (none, 0)).2 - ((ds.getD 0 (none, 0)).1.getD 0) then .room d else .let_ (carTo h ds d).1 (carTo h ds d).2
/-! ### what is right -/
/-- those that have written nothing stand behind -/
def NL (ds : List Dd) : Prop := ∃ k : Nat, k ≤ ds.length ∧ ∀ (i : Nat) (d : Dd), ds[i]? = some d → (wrote d = true ↔ i < k)
/-- the firsts ascend, from lo on, and lie below the head; needs within a bound -/
def Good (c h : Int) (ds : List Dd) : Prop := NL ds ∧ (∀ d ∈ ds, 0 ≤ d.2 ∧ d.2 ≤ 10 ^ 30) ∧ (∀ (i j : Nat) (f g n m : Int), i < j → ds[i]? = some (some f, n) → ds[j]? = some (some g, m) → f < g) ∧ (∀ (f n : Int), (some f, n) ∈ ds → 0 ≤ f ∧ f < h) ∧
  1 ≤ c ∧ c ≤ 10 ^ 30 ∧ 0 ≤ h ∧ h ≤ 10 ^ 40 ∧ ds.length ≤ 8 ∧ (∀ (f n : Int), ds[0]? = some (some f, n) → h - f ≤ c)
def WiOk (ds : List Dd) : Wi → Prop
  | .opn c n => 0 ≤ c ∧ c ≤ 10 ^ 30 ∧ 0 ≤ n ∧ n ≤ 10 ^ 30
  | .row d c n => d < ds.length ∧ 1 ≤ c ∧ c ≤ 10 ^ 30 ∧ 0 ≤ n ∧ n ≤ 10 ^ 30
/-- an ascending lot of numbers below m -/
def Lot (lot : List Nat) (m : Nat) : Prop := lot.Pairwise (· < ·) ∧ ∀ i ∈ lot, i < m
def lotD (lot : List Nat) : PyData := .tuple (lot.map nD)
end RC

end
section
set_option Elab.async false
set_option linter.all false
set_option maxRecDepth 100000
set_option maxHeartbeats 1000000
/-! RC: the promises. -/
namespace RC
open PySem L2
section
abbrev SC (K : PySem.W.Frag) : Addr := He.ga K "Standing"
/-- a standing -/
abbrev SS (K : PySem.W.Frag) (c h : Int) (ds : List Dd) : PV := SV (SC K) c h (ds.map dD)
abbrev LV (ds : List PyData) : PV := DV (.list ds)
abbrev TV (ds : List PyData) : PV := DV (.tuple ds)
abbrev NV : PV := DV .none
def e0 : PyData := .tuple []
/-! ### checks -/
def sp_is_integer (K : PySem.W.Frag) : Sp := Pr fun Ps P => ∃ i : Int, Ps = [IV i] ∧ P = BV true
def sp_is_within (K : PySem.W.Frag) : Sp := Pr fun Ps P => ∃ i a b : Int, Ps = [IV i, IV a, IV b] ∧ P = BV (decide (a ≤ i) && decide (i ≤ b))
def sp_is_number (K : PySem.W.Frag) : Sp := Pr fun Ps P => ∃ i b : Int, Ps = [IV i, IV b] ∧ P = BV (decide (0 ≤ i) && decide (i ≤ b))
def sp_is_triple (K : PySem.W.Frag) : Sp := Pr fun Ps P => ∃ ds, Ps = [TV ds] ∧ P = BV (decide (ds.length = 3))
def sp_is_lot (K : PySem.W.Frag) : Sp := Pr fun Ps P => ∃ (lot : List Nat) (m : Nat), Ps = [DV (lotD lot), IV (m : Nat)] ∧ Lot lot m ∧ P = BV true
/-! ### standings -/
def sp_is_first_behind (K : PySem.W.Frag) : Sp := Pr fun Ps P => ∃ (h : Int) (l f : Option Int), Ps = [IV h, DV (oD l), DV (oD f)] ∧ (∀ g, f = some g → ∃ k, l = some k ∧ k < g ∧ g < h) ∧ P = BV true
def sp_is_waits (K : PySem.W.Frag) : Sp := Pr fun Ps P => ∃ m i : Nat, Ps = [IV (m : Nat), IV (i : Nat), DV e0] ∧ P = BV true
def sp_first_wrong (K : PySem.W.Frag) : Sp := Pr fun Ps P => ∃ (c h : Int) (ds : List Dd), Ps = [IV h, DV (dsD ds)] ∧ Good c h ds ∧ P = NV
def sp_waited_for (K : PySem.W.Frag) : Sp := Pr fun Ps P => ∃ n, (Ps = [LV (List.replicate n e0), DV e0] ∧ P = DV e0) ∨ ∃ i : Nat, i < n ∧ Ps = [LV (List.replicate n e0), DV (.tuple [nD i])] ∧ P = DV (.tuple [nD i])
def sp_first_in_ring (K : PySem.W.Frag) : Sp := Pr fun Ps P => ∃ n, n ≤ 1000 ∧ Ps = [LV (List.replicate n e0)] ∧ P = NV
def sp_is_too_far (K : PySem.W.Frag) : Sp := Pr fun Ps P => ∃ (c h : Int) (ds : List Dd), Ps = [IV c, IV h, DV (dsD ds)] ∧ (∀ f n, ds[0]? = some (some f, n) → h - f ≤ c) ∧ P = BV false
/-- Standing(..): the instance at p has its three fields behind it, all else is as it was -/
def sp_Standing_init (K : PySem.W.Frag) : Sp := fun vs H Q _ => ∃ (F : Hp) (p dx t : Addr) (c h : Int) (ds : List Dd), vs = [.ref p, .int c, .int h, .ref t] ∧ H p = some (.ins (SC K) dx []) ∧ Same F H ∧ F p = none ∧ Rp F (.ref t) (dsD ds) ∧ Good c h ds ∧
  ∀ H', (∀ b o, b ≠ p → H b = some o → H' b = some o) → H' p = some (.ins (SC K) dx [("cells", .int c), ("head", .int h), ("deeds", .ref t)]) → Q .non H'
def sp_raw_standing (K : PySem.W.Frag) : Sp := Pr fun Ps P => ∃ (c h : Int) (ds : List PyData), Ps = [IV c, IV h, TV ds] ∧ P = SV (SC K) c h ds
def sp_waits_of (K : PySem.W.Frag) : Sp := Pr fun Ps P => ∃ (c h : Int) (ds : List Dd), Ps = [SS K c h ds] ∧ ds.length ≤ 1000 ∧ P = LV (List.replicate ds.length e0)
def sp_loads_of (K : PySem.W.Frag) : Sp := Pr fun Ps P => ∃ (c h : Int) (ds : List Dd), Ps = [SS K c h ds] ∧ NL ds ∧ ds.length ≤ 1000 ∧ P = TV ((loads h ds).map .int)
def sp_too_heavy (K : PySem.W.Frag) : Sp := Pr fun Ps P => ∃ (c h : Int) (ds : List Dd), Ps = [SS K c h ds] ∧ NL ds ∧ ds.length ≤ 1000 ∧ P = LV ((heavy c h ds).map nD)
def sp_easy (K : PySem.W.Frag) : Sp := Pr fun Ps P => ∃ (c h : Int) (ds : List Dd), Ps = [SS K c h ds] ∧ NL ds ∧ ds.length ≤ 1000 ∧ P = BV (easyB c h ds)
def sp_check_deed (K : PySem.W.Frag) : Sp := Pr fun Ps P => ∃ (c h : Int) (ds : List Dd) (i : Nat), Ps = [SS K c h ds, IV (i : Nat)] ∧ i < ds.length ∧ P = NV
/-! ### wishes -/
def sp_is_deed (K : PySem.W.Frag) : Sp := Pr fun Ps P => ∃ (c h : Int) (ds : List Dd) (i : Nat), Ps = [SS K c h ds, IV (i : Nat)] ∧ i < ds.length ∧ P = BV true
def sp_is_row_wish (K : PySem.W.Frag) : Sp := Pr fun Ps P => ∃ (c h : Int) (ds : List Dd) (d : Nat) (a b : Int), Ps = [SS K c h ds, DV (wD (.row d a b))] ∧ WiOk ds (.row d a b) ∧ P = BV true
def sp_is_open_wish (K : PySem.W.Frag) : Sp := Pr fun Ps P => ∃ (c h : Int) (ds : List Dd) (a b : Int), Ps = [SS K c h ds, DV (wD (.opn a b))] ∧ WiOk ds (.opn a b) ∧ ds.length ≤ 100 ∧ P = BV true
def sp_is_wish (K : PySem.W.Frag) : Sp := Pr fun Ps P => ∃ (c h : Int) (ds : List Dd) (w : Wi), Ps = [SS K c h ds, DV (wD w)] ∧ WiOk ds w ∧ ds.length ≤ 100 ∧ P = BV true
def sp_check_wish (K : PySem.W.Frag) : Sp := Pr fun Ps P => ∃ (c h : Int) (ds : List Dd) (w : Wi), Ps = [SS K c h ds, DV (wD w)] ∧ WiOk ds w ∧ ds.length ≤ 100 ∧ P = NV
/-- the deeds in an order of their numbers -/
def pick (ds : List Dd) (ix : List Nat) : List Dd := ix.map fun i => ds.getD i (none, 0)
def sp_renumbered (K : PySem.W.Frag) : Sp := Pr fun Ps P => ∃ (ds : List Dd) (ix : List Nat), Ps = [LV (ds.map dD), LV (ix.map nD)] ∧ (∀ i ∈ ix, i < ds.length) ∧ ds.length ≤ 1000 ∧ ix.length ≤ 1000 ∧ P = DV (dsD (pick ds ix))
def sp_written_many (K : PySem.W.Frag) : Sp := Pr fun Ps P => ∃ ds : List Dd, (Ps = [DV (dsD ds)] ∨ Ps = [LV (ds.map dD)]) ∧ ds.length ≤ 1000 ∧ P = IV (wm ds : Nat)
def sp_behind_row (K : PySem.W.Frag) : Sp := Pr fun Ps P => ∃ (c h : Int) (ds : List Dd) (d : Nat) (a b : Int), Ps = [SS K c h ds, IV (d : Nat), IV a, IV b] ∧ d < ds.length ∧ ds.length ≤ 100 ∧ P = SS K c (behind h ds (.row d a b)).1 (behind h ds (.row d a b)).2
def sp_behind_open (K : PySem.W.Frag) : Sp := Pr fun Ps P => ∃ (c h : Int) (ds : List Dd) (a b : Int), Ps = [SS K c h ds, IV a, IV b, DV e0] ∧ ds.length ≤ 100 ∧ P = SS K c (behind h ds (.opn a b)).1 (behind h ds (.opn a b)).2
/-- the deed of a row is there -/
def WiIn (ds : List Dd) : Wi → Prop
  | .opn _ _ => True
  | .row d _ _ => d < ds.length
def sp_behind_of (K : PySem.W.Frag) : Sp := Pr fun Ps P => ∃ (c h : Int) (ds : List Dd) (w : Wi), Ps = [SS K c h ds, DV (wD w)] ∧ WiIn ds w ∧ ds.length ≤ 100 ∧ P = SS K c (behind h ds w).1 (behind h ds w).2
def sp_wisher_behind (K : PySem.W.Frag) : Sp := Pr fun Ps P => ∃ (c h : Int) (ds : List Dd) (w : Wi), Ps = [SS K c h ds, DV (wD w)] ∧ WiIn ds w ∧ ds.length ≤ 100 ∧ P = IV (wisher ds w : Nat)
def sp_is_first_row (K : PySem.W.Frag) : Sp := Pr fun Ps P => ∃ (c h : Int) (ds : List Dd) (w : Wi), Ps = [SS K c h ds, DV (wD w)] ∧ WiIn ds w ∧ P = BV (firstRow ds w)
/-! ### keepers, leaving -/
def sp_check_easy (K : PySem.W.Frag) : Sp := Pr fun Ps P => ∃ (c h : Int) (ds : List Dd), Ps = [SS K c h ds] ∧ NL ds ∧ ds.length ≤ 1000 ∧ easyB c h ds = true ∧ P = NV
def sp_let_by (K : PySem.W.Frag) : Sp := Pr fun Ps P => ∃ (c h : Int) (ds : List Dd) (w : Wi), Ps = [SS K c h ds, DV (wD w)] ∧ WiIn ds w ∧ ds.length ≤ 100 ∧ NL (behind h ds w).2 ∧ P = BV (easyB c (behind h ds w).1 (behind h ds w).2)
def sp_some_wait (K : PySem.W.Frag) : Sp := Pr fun Ps P => ∃ (c h : Int) (ds : List Dd), Ps = [SS K c h ds] ∧ ds.length ≤ 1000 ∧ P = BV false
def sp_check_free (K : PySem.W.Frag) : Sp := Pr fun Ps P => ∃ (c h : Int) (ds : List Dd), Ps = [SS K c h ds] ∧ ds.length ≤ 1000 ∧ P = NV
def sp_check_asked (K : PySem.W.Frag) : Sp := Pr fun Ps P => ∃ (c h : Int) (ds : List Dd) (w : Wi), Ps = [SS K c h ds, DV (wD w)] ∧ WiOk ds w ∧ ds.length ≤ 100 ∧ NL ds ∧ easyB c h ds = true ∧ P = NV
def sp_own_sum (K : PySem.W.Frag) : Sp := Pr fun Ps P => ∃ (c h : Int) (ds : List Dd) (wi m : Nat) (a : Int), Ps = [SS K c h ds, IV (wi : Nat), IV a, IV (m : Nat)] ∧ ds.length ≤ 1000 ∧ P = IV (ownSum ds wi a m)
def sp_must_of (K : PySem.W.Frag) : Sp := Pr fun Ps P => ∃ (c h : Int) (ds : List Dd) (w : Wi), Ps = [SS K c h ds, DV (wD w)] ∧ WiIn ds w ∧ ds.length ≤ 100 ∧ NL (behind h ds w).2 ∧ P = DV (oN (pMust c h ds w))
/-! ### carrying -/
def sp_fits_with (K : PySem.W.Frag) : Sp := Pr fun Ps P => ∃ (c h : Int) (ds : List Dd) (n : Int), Ps = [SS K c h ds, IV n] ∧ P = BV (match ds[0]? with | some (some f, _) => decide (h + n - f ≤ c) | _ => true)
def sp_carried_of (K : PySem.W.Frag) : Sp := Pr fun Ps P => ∃ (c h : Int) (ds : List Dd) (d : Nat), Ps = [SS K c h ds, IV (d : Nat)] ∧ d < ds.length ∧ wrote (ds.getD d (none, 0)) = true ∧ ds.length ≤ 100 ∧ P = SS K c (carTo h ds d).1 (carTo h ds d).2
/-- the numbers of those that are there when many have left -/
def allF (ds : List Dd) (m : Nat) (lot : List Nat) : List Nat := orderF ds m lot ++ lot.filter fun i => decide ((ds.getD i (none, 0)).2 ≤ 0)
def sp_left_order (K : PySem.W.Frag) : Sp := Pr fun Ps P => ∃ (c h : Int) (ds : List Dd) (m : Nat) (lot : List Nat), Ps = [SS K c h ds, IV (m : Nat), DV (lotD lot)] ∧ m ≤ ds.length ∧ Lot lot m ∧ ds.length ≤ 100 ∧ P = LV ((allF ds m lot).map nD)
def sp_left_of (K : PySem.W.Frag) : Sp := Pr fun Ps P => ∃ (c h : Int) (ds : List Dd) (m : Nat) (lot : List Nat), Ps = [SS K c h ds, IV (m : Nat), DV (lotD lot)] ∧ m ≤ ds.length ∧ Lot lot m ∧ ds.length ≤ 100 ∧ (∀ d ∈ ds, 0 ≤ d.2) ∧ P = SS K c (leftF h ds m lot).1 (leftF h ds m lot).2
def sp_wish_when_left (K : PySem.W.Frag) : Sp := Pr fun Ps P => ∃ (c h : Int) (ds : List Dd) (w : Wi) (m : Nat) (lot : List Nat), Ps = [SS K c h ds, DV (wD w), IV (m : Nat), DV (lotD lot)] ∧ m ≤ ds.length ∧ Lot lot m ∧ ds.length ≤ 100 ∧ (∀ d a b, w = .row d a b → m ≤ d ∧ d < ds.length) ∧ P = DV (wD (whenLeft ds m lot w))
def sp_left (K : PySem.W.Frag) : Sp := Pr fun Ps P => ∃ (c h : Int) (ds : List Dd) (w : Wi) (m : Nat) (lot : List Nat), Ps = [SS K c h ds, DV (wD w), DV (lotD lot)] ∧ WiOk ds w ∧ ds.length ≤ 100 ∧ NL ds ∧ easyB c h ds = true ∧ NL (behind h ds w).2 ∧ pMust c h ds w = some m ∧ m ≤ ds.length ∧ Lot lot m ∧ (∀ d ∈ ds, 0 ≤ d.2) ∧ P = SS K c (leftF h ds m lot).1 (leftF h ds m lot).2
def sp_cells_of (K : PySem.W.Frag) : Sp := Pr fun Ps P => ∃ w : Wi, Ps = [DV (wD w)] ∧ P = IV (cellsOf w)
def sp_need_behind (K : PySem.W.Frag) : Sp := Pr fun Ps P => ∃ (c h : Int) (ds : List Dd) (w : Wi) (i : Nat), Ps = [SS K c h ds, DV (wD w), IV (i : Nat)] ∧ i < ds.length ∧ P = IV (needBehind ds w i)
def sp_sum_of (K : PySem.W.Frag) : Sp := Pr fun Ps P => ∃ (c h : Int) (ds : List Dd) (w : Wi) (m : Nat) (lot : List Nat) (d : Nat), Ps = [SS K c h ds, DV (wD w), IV (m : Nat), DV (lotD lot), IV (d : Nat)] ∧ ds.length ≤ 100 ∧ m ≤ ds.length ∧ Lot lot m ∧ d ∈ lot ∧ P = IV (sumF ds w m lot d)
def sp_is_carrying (K : PySem.W.Frag) : Sp := Pr fun Ps P => ∃ (c h : Int) (ds : List Dd) (w : Wi) (lot : List Nat), Ps = [SS K c h ds, DV (wD w), DV (lotD lot)] ∧ WiOk ds w ∧ ds.length ≤ 100 ∧ NL ds ∧ easyB c h ds = true ∧ NL (behind h ds w).2 ∧ (∀ d ∈ ds, 0 ≤ d.2) ∧
  match pMust c h ds w with
  | none => lot = [] ∧ P = BV false
  | some m => m ≤ ds.length ∧ Lot lot m ∧ (∀ d a b, w = .row d a b → m ≤ d) ∧ P = BV (canF c h ds w m lot)
def sp_carry_sum (K : PySem.W.Frag) : Sp := Pr fun Ps P => ∃ (c h : Int) (ds : List Dd) (w : Wi) (m : Nat) (lot : List Nat) (d : Nat), Ps = [SS K c h ds, DV (wD w), DV (lotD lot), IV (d : Nat)] ∧ WiOk ds w ∧ ds.length ≤ 100 ∧ NL ds ∧ easyB c h ds = true ∧ NL (behind h ds w).2 ∧
  pMust c h ds w = some m ∧ m ≤ ds.length ∧ Lot lot m ∧ (∀ d ∈ ds, 0 ≤ d.2) ∧ d ∈ lot ∧ P = IV (sumF ds w m lot d)
/-! ### the law's own, without the tape -/
def sp_law_needs (K : PySem.W.Frag) : Sp := Pr fun Ps P => ∃ (ds : List Dd) (m : Nat), Ps = [DV (dsD ds), IV (m : Nat)] ∧ ds.length ≤ 1000 ∧ P = IV (needs ds m)
def sp_law_loads (K : PySem.W.Frag) : Sp := Pr fun Ps P => ∃ (h : Int) (ds : List Dd), Ps = [IV h, DV (dsD ds)] ∧ ds.length ≤ 1000 ∧ P = LV ((loads h ds).map .int)
def sp_law_easy (K : PySem.W.Frag) : Sp := Pr fun Ps P => ∃ (c h : Int) (ds : List Dd), Ps = [IV c, IV h, DV (dsD ds)] ∧ ds.length ≤ 1000 ∧ (∀ d ∈ ds, 0 ≤ d.2) ∧ P = BV (easyB c h ds)
def hdD (p : Int × List Dd) : PyData := .tuple [.int p.1, dsD p.2]
def sp_law_behind (K : PySem.W.Frag) : Sp := Pr fun Ps P => ∃ (h : Int) (ds : List Dd) (w : Wi), Ps = [IV h, DV (dsD ds), DV (wD w)] ∧ WiIn ds w ∧ (0 ≤ cellsOf w) ∧ ds.length ≤ 1000 ∧ P = DV (hdD (behind h ds w))
def sp_law_gone (K : PySem.W.Frag) : Sp := Pr fun Ps P => ∃ (h : Int) (ds : List Dd) (m : Nat), Ps = [IV h, DV (dsD ds), IV (m : Nat)] ∧ ds.length ≤ 1000 ∧ P = DV (hdD (goneF h ds m))
def sp_law_told_later (K : PySem.W.Frag) : Sp := Pr fun Ps P => ∃ (w : Wi) (m : Nat), Ps = [DV (wD w), IV (m : Nat)] ∧ (∀ d a b, w = .row d a b → m ≤ d) ∧ P = DV (wD (later w m))
def sp_law_must (K : PySem.W.Frag) : Sp := Pr fun Ps P => ∃ (c h : Int) (ds : List Dd) (w : Wi), Ps = [IV c, IV h, DV (dsD ds), DV (wD w)] ∧ WiIn ds w ∧ 0 ≤ cellsOf w ∧ 0 ≤ needOf w ∧ ds.length ≤ 500 ∧ (∀ d ∈ ds, 0 ≤ d.2) ∧ P = DV (oN (lMust c h ds w))
def sp_law_carried (K : PySem.W.Frag) : Sp := Pr fun Ps P => ∃ (c h : Int) (ds : List Dd) (d : Nat), Ps = [IV c, IV h, DV (dsD ds), IV (d : Nat)] ∧ d < ds.length ∧ ds.length ≤ 1000 ∧ NL ds ∧ P = DV (carD (carF c h ds d))
def sp_law_left (K : PySem.W.Frag) : Sp := Pr fun Ps P => ∃ (h : Int) (ds : List Dd) (m : Nat) (lot : List Nat), Ps = [IV h, DV (dsD ds), IV (m : Nat), DV (lotD lot)] ∧ m ≤ ds.length ∧ ds.length ≤ 1000 ∧ Lot lot m ∧ (∀ d ∈ ds, 0 ≤ d.2) ∧ P = DV (hdD (leftF h ds m lot))
def sp_law_lots (K : PySem.W.Frag) : Sp := Pr fun Ps P => ∃ m : Nat, m ≤ 5 ∧ Ps = [IV (m : Nat)] ∧ P = ExV (fun Ls : List (List Nat) => (∀ L ∈ Ls, Lot L m) ∧ Ls.length ≤ 32) fun Ls => LV (Ls.map lotD)
def sp_law_when_left (K : PySem.W.Frag) : Sp := Pr fun Ps P => ∃ (ds : List Dd) (w : Wi) (m : Nat) (lot : List Nat), Ps = [DV (dsD ds), DV (wD w), IV (m : Nat), DV (lotD lot)] ∧ m ≤ ds.length ∧ Lot lot m ∧ ds.length ≤ 1000 ∧ (∀ d a b, w = .row d a b → m ≤ d ∧ d < ds.length) ∧ P = DV (wD (whenLeft ds m lot w))
def sp_law_can (K : PySem.W.Frag) : Sp := Pr fun Ps P => ∃ (c h : Int) (ds : List Dd) (w : Wi) (m : Nat) (lot : List Nat), Ps = [IV c, IV h, DV (dsD ds), DV (wD w), IV (m : Nat), DV (lotD lot)] ∧ m ≤ ds.length ∧ Lot lot m ∧ ds.length ≤ 500 ∧ WiOk ds w ∧ (∀ d a b, w = .row d a b → m ≤ d) ∧ (∀ d ∈ ds, 0 ≤ d.2) ∧ P = BV (canF c h ds w m lot)
def sp_law_sum (K : PySem.W.Frag) : Sp := Pr fun Ps P => ∃ (ds : List Dd) (w : Wi) (m : Nat) (lot : List Nat) (d : Nat), Ps = [DV (dsD ds), DV (wD w), IV (m : Nat), DV (lotD lot), IV (d : Nat)] ∧ m ≤ ds.length ∧ Lot lot m ∧ ds.length ≤ 1000 ∧ d ∈ lot ∧ (∀ i a b, w = .row i a b → m ≤ i) ∧ P = IV (sumF ds w m lot d)
def sp_law_fits (K : PySem.W.Frag) : Sp := Pr fun Ps P => ∃ (c h : Int) (ds : List Dd) (m : Nat) (lot : List Nat), Ps = [IV c, IV h, DV (dsD ds), IV (m : Nat), DV (lotD lot)] ∧ m ≤ wm ds ∧ Lot lot m ∧ Good c h ds ∧ easyB c h ds = true ∧ P = BV true
def sp_law_own_sum (K : PySem.W.Frag) : Sp := Pr fun Ps P => ∃ (ds : List Dd) (w : Wi) (m : Nat) (lot : List Nat), Ps = [DV (dsD ds), DV (wD w), IV (m : Nat), DV (lotD lot)] ∧ m ≤ ds.length ∧ Lot lot m ∧ ds.length ≤ 1000 ∧ WiOk ds w ∧ (∀ d a b, w = .row d a b → m ≤ d) ∧ P = IV (ownF ds w m lot)
def sp_law_told (K : PySem.W.Frag) : Sp := Pr fun Ps P => ∃ (c h : Int) (ds : List Dd) (d : Nat), Ps = [SS K c h ds, IV (d : Nat)] ∧ d < ds.length ∧ ds.length ≤ 100 ∧ NL ds ∧ P = DV (carD (carF c h ds d))
/-! ### the tape -/
/-- the tape at tp: [the script's numbers, a place, three numbers] -/
def tapeW (tp : Addr) : Wd where
  T := fun a => a = tp
  J := fun F H => F tp = none ∧ ∃ (sc : Addr) (i1 i2 i3 i4 : Int) (ns : List Int), H tp = some (.lst [.ref sc, .int i1, .int i2, .int i3, .int i4]) ∧ F sc = some (.lst (ns.map V.int)) ∧ 0 ≤ i1
  there := fun {F H a} ⟨h1, sc, i1, i2, i3, i4, ns, h2, _⟩ ht => by
    subst ht
    exact ⟨h1, by rw [h2]; exact fun z => nomatch z⟩
  keep := fun {F F' H H'} ⟨h1, sc, i1, i2, i3, i4, ns, h2, h3, h4⟩ e n k => ⟨n _ rfl, sc, i1, i2, i3, i4, ns, by rw [k _ rfl]; exact h2, e _ _ h3, h4⟩
/-- a def that draws from the tape, its first argument -/
def PrT (R : List PV → PV → Prop) : Sp := fun vs H Q _ => ∃ (F : Hp) (tp : Addr) (Ps : List PV) (P : PV) (ws : List V), vs = .ref tp :: ws ∧ Same F H ∧ (tapeW tp).J F H ∧ ARGS Ps ws F ∧ R Ps P ∧ ∀ v F' H', Go (tapeW tp) F H F' H' → P.p v F' → Q v H'
def sp_law_tape (K : PySem.W.Frag) : Sp := fun vs H Q _ => ∃ (a : Addr) (ns : List Int), vs = [.ref a] ∧ SqL K H a (ns.map V.int) ∧ ∀ (sc tp : Addr) (H' : Hp), Same H H' → H sc = none → H tp = none → sc ≠ tp → H' sc = some (.lst (ns.map V.int)) → H' tp = some (.lst [.ref sc, .int 0, .int 0, .int 1, .int 0]) → Q (.ref tp) H'
def sp_law_pick (K : PySem.W.Frag) : Sp := PrT fun Ps P => ∃ m : Int, Ps = [IV m] ∧ 0 < m ∧ m < 1073741824 ∧ P = IN fun r => 0 ≤ r ∧ r < m
def sp_law_any (K : PySem.W.Frag) : Sp := PrT fun Ps P => ∃ ns : List Int, Ps = [LV (ns.map .int)] ∧ 0 < ns.length ∧ ns.length ≤ 1000 ∧ P = IN fun r => r ∈ ns
structure Drawn (h : Int) (ds : List Dd) : Prop where
  nl : NL ds
  nd : ∀ d ∈ ds, 0 ≤ d.2 ∧ d.2 ≤ 9
  asc : ∀ (i j : Nat) (f g n m : Int), i < j → ds[i]? = some (some f, n) → ds[j]? = some (some g, m) → f < g
  fst : ∀ (f n : Int), (some f, n) ∈ ds → 0 ≤ f ∧ f < h
  lo : 0 ≤ h
  hi : h ≤ 2 * 10 ^ 12
  len : 1 ≤ ds.length ∧ ds.length ≤ 7
def sp_law_deeds (K : PySem.W.Frag) : Sp := PrT fun Ps P => ∃ (m g : Nat), Ps = [IV (m : Nat), IV (g : Nat)] ∧ 1 ≤ m ∧ m ≤ 7 ∧ 1 ≤ g ∧ g ≤ 9 ∧ P = ExV (fun p : Int × List Dd => Drawn p.1 p.2) fun p => DV (hdD p)
def sp_law_standing (K : PySem.W.Frag) : Sp := PrT fun Ps P => ∃ (m g : Nat), Ps = [IV (m : Nat), IV (g : Nat)] ∧ 1 ≤ m ∧ m ≤ 7 ∧ 1 ≤ g ∧ g ≤ 9 ∧
  P = ExV (fun p : Int × Int × List Dd => Drawn p.2.1 p.2.2 ∧ Good p.1 p.2.1 p.2.2 ∧ easyB p.1 p.2.1 p.2.2 = true) fun p => DV (.tuple [.int p.1, .int p.2.1, dsD p.2.2])
def sp_law_wish (K : PySem.W.Frag) : Sp := PrT fun Ps P => ∃ (ds : List Dd) (g : Nat), Ps = [DV (dsD ds), IV (g : Nat)] ∧ 1 ≤ g ∧ g ≤ 9 ∧ ds.length ≤ 7 ∧ P = ExV (fun w : Wi => WiOk ds w) fun w => DV (wD w)
structure Pressed where
  c : Int
  h : Int
  ds : List Dd
  w : Wi
def sp_law_pressed (K : PySem.W.Frag) : Sp := PrT fun Ps P => ∃ (m g : Nat), Ps = [IV (m : Nat), IV (g : Nat)] ∧ 1 ≤ m ∧ m ≤ 7 ∧ 1 ≤ g ∧ g ≤ 9 ∧
  P = ExV (fun p : Pressed => Drawn p.h p.ds ∧ Good p.c p.h p.ds ∧ easyB p.c p.h p.ds = true ∧ WiOk p.ds p.w) fun p => DV (.tuple [.int p.c, .int p.h, dsD p.ds, wD p.w, oN (lMust p.c p.h p.ds p.w)])
def sp_law_led_right (K : PySem.W.Frag) : Sp := PrT fun Ps P => ∃ (c h : Int) (ds : List Dd), Ps = [IV c, IV h, DV (dsD ds)] ∧ Good c h ds ∧ h ≤ 10 ^ 39 ∧ 1 ≤ ds.length ∧ ds.length ≤ 7 ∧ P = BV true
def sp_law (K : PySem.W.Frag) : Sp := fun vs H Q _ => ∃ (a : Addr) (ns : List Int), vs = [.ref a] ∧ SqL K H a (ns.map V.int) ∧ ns.length ≤ 63 ∧ ∀ H', Q (.bl true) H'
end
end RC

end
section
set_option Elab.async false
set_option linter.all false
set_option maxRecDepth 100000
set_option maxHeartbeats 2000000
namespace RC
open PySem PySem.Spec PyProof.Rows L2
structure Txt (K : PySem.W.Frag) (mg : Str → Option Value) : Prop where
  fn : ∀ (i : Nat) (d : He.DefD), fnL[i]? = some d → ∃ fd, FunD K d.name d.qual d.params d.body d.scope (d.dvs K) (d.kws K) (He.fAd K d.at_) fd
  gl : ∀ (i : Nat) (x : Str), glL[i]? = some x → mg x = some (.ref (He.ga K x))
  fr : ∀ (i : Nat) (x : Str), frL[i]? = some x → mg x = none
  c_MOST_CELLS : ∃ t, mg "MOST_CELLS" = some (.int (10 ^ 30) t)
  c_MOST_HEAD : ∃ t, mg "MOST_HEAD" = some (.int (10 ^ 40) t)
  c_MOST_DEEDS : ∃ t, mg "MOST_DEEDS" = some (.int 200 t)
  c_ROW : ∃ t, mg "ROW" = some (.str "row" t)
  c_OPEN : ∃ t, mg "OPEN" = some (.str "open" t)
  c_WAIT : ∃ t, mg "WAIT" = some (.str "wait" t)
  std : StdC K (SC K)
  mks : Mk K (SC K) (He.ma K (SC K) "__init__")
section
variable {K : PySem.W.Frag} {mg : Str → Option Value}
theorem Txt.fn_law_tape (T : Txt K mg) : ∃ fd, FunD K "_law_tape" "_law_tape" (defArgs s_law_tape) (defBody s_law_tape) (defScope s_law_tape) [] [] (He.fAd K ("_law_tape", none)) fd := T.fn 0 d_law_tape rfl
theorem Txt.fn_law_pick (T : Txt K mg) : ∃ fd, FunD K "_law_pick" "_law_pick" (defArgs s_law_pick) (defBody s_law_pick) (defScope s_law_pick) [] [] (He.fAd K ("_law_pick", none)) fd := T.fn 1 d_law_pick rfl
theorem Txt.fn_law_any (T : Txt K mg) : ∃ fd, FunD K "_law_any" "_law_any" (defArgs s_law_any) (defBody s_law_any) (defScope s_law_any) [] [] (He.fAd K ("_law_any", none)) fd := T.fn 2 d_law_any rfl
theorem Txt.fn_law_deeds (T : Txt K mg) : ∃ fd, FunD K "_law_deeds" "_law_deeds" (defArgs s_law_deeds) (defBody s_law_deeds) (defScope s_law_deeds) [] [] (He.fAd K ("_law_deeds", none)) fd := T.fn 3 d_law_deeds rfl
theorem Txt.fn_law_needs (T : Txt K mg) : ∃ fd, FunD K "_law_needs" "_law_needs" (defArgs s_law_needs) (defBody s_law_needs) (defScope s_law_needs) [] [] (He.fAd K ("_law_needs", none)) fd := T.fn 4 d_law_needs rfl
theorem Txt.fn_law_loads (T : Txt K mg) : ∃ fd, FunD K "_law_loads" "_law_loads" (defArgs s_law_loads) (defBody s_law_loads) (defScope s_law_loads) [] [] (He.fAd K ("_law_loads", none)) fd := T.fn 5 d_law_loads rfl
theorem Txt.fn_law_standing (T : Txt K mg) : ∃ fd, FunD K "_law_standing" "_law_standing" (defArgs s_law_standing) (defBody s_law_standing) (defScope s_law_standing) [] [] (He.fAd K ("_law_standing", none)) fd := T.fn 6 d_law_standing rfl
theorem Txt.fn_law_wish (T : Txt K mg) : ∃ fd, FunD K "_law_wish" "_law_wish" (defArgs s_law_wish) (defBody s_law_wish) (defScope s_law_wish) [] [] (He.fAd K ("_law_wish", none)) fd := T.fn 7 d_law_wish rfl
theorem Txt.fn_law_gone (T : Txt K mg) : ∃ fd, FunD K "_law_gone" "_law_gone" (defArgs s_law_gone) (defBody s_law_gone) (defScope s_law_gone) [] [] (He.fAd K ("_law_gone", none)) fd := T.fn 8 d_law_gone rfl
theorem Txt.fn_law_behind (T : Txt K mg) : ∃ fd, FunD K "_law_behind" "_law_behind" (defArgs s_law_behind) (defBody s_law_behind) (defScope s_law_behind) [] [] (He.fAd K ("_law_behind", none)) fd := T.fn 9 d_law_behind rfl
theorem Txt.fn_law_easy (T : Txt K mg) : ∃ fd, FunD K "_law_easy" "_law_easy" (defArgs s_law_easy) (defBody s_law_easy) (defScope s_law_easy) [] [] (He.fAd K ("_law_easy", none)) fd := T.fn 10 d_law_easy rfl
theorem Txt.fn_law_told_later (T : Txt K mg) : ∃ fd, FunD K "_law_told_later" "_law_told_later" (defArgs s_law_told_later) (defBody s_law_told_later) (defScope s_law_told_later) [] [] (He.fAd K ("_law_told_later", none)) fd := T.fn 11 d_law_told_later rfl
theorem Txt.fn_law_must (T : Txt K mg) : ∃ fd, FunD K "_law_must" "_law_must" (defArgs s_law_must) (defBody s_law_must) (defScope s_law_must) [] [] (He.fAd K ("_law_must", none)) fd := T.fn 12 d_law_must rfl
theorem Txt.fn_law_pressed (T : Txt K mg) : ∃ fd, FunD K "_law_pressed" "_law_pressed" (defArgs s_law_pressed) (defBody s_law_pressed) (defScope s_law_pressed) [] [] (He.fAd K ("_law_pressed", none)) fd := T.fn 13 d_law_pressed rfl
theorem Txt.fn_is_triple (T : Txt K mg) : ∃ fd, FunD K "is_triple" "is_triple" (defArgs s_is_triple) (defBody s_is_triple) (defScope s_is_triple) [] [] (He.fAd K ("is_triple", none)) fd := T.fn 14 d_is_triple rfl
theorem Txt.fn_is_integer (T : Txt K mg) : ∃ fd, FunD K "is_integer" "is_integer" (defArgs s_is_integer) (defBody s_is_integer) (defScope s_is_integer) [] [] (He.fAd K ("is_integer", none)) fd := T.fn 15 d_is_integer rfl
theorem Txt.fn_is_within (T : Txt K mg) : ∃ fd, FunD K "is_within" "is_within" (defArgs s_is_within) (defBody s_is_within) (defScope s_is_within) [] [] (He.fAd K ("is_within", none)) fd := T.fn 16 d_is_within rfl
theorem Txt.fn_is_first_behind (T : Txt K mg) : ∃ fd, FunD K "is_first_behind" "is_first_behind" (defArgs s_is_first_behind) (defBody s_is_first_behind) (defScope s_is_first_behind) [] [] (He.fAd K ("is_first_behind", none)) fd := T.fn 17 d_is_first_behind rfl
theorem Txt.fn_is_number (T : Txt K mg) : ∃ fd, FunD K "is_number" "is_number" (defArgs s_is_number) (defBody s_is_number) (defScope s_is_number) [] [] (He.fAd K ("is_number", none)) fd := T.fn 18 d_is_number rfl
theorem Txt.fn_is_lot (T : Txt K mg) : ∃ fd, FunD K "is_lot" "is_lot" (defArgs s_is_lot) (defBody s_is_lot) (defScope s_is_lot) [] [] (He.fAd K ("is_lot", none)) fd := T.fn 19 d_is_lot rfl
theorem Txt.fn_is_waits (T : Txt K mg) : ∃ fd, FunD K "is_waits" "is_waits" (defArgs s_is_waits) (defBody s_is_waits) (defScope s_is_waits) [] [] (He.fAd K ("is_waits", none)) fd := T.fn 20 d_is_waits rfl
theorem Txt.fn_first_wrong (T : Txt K mg) : ∃ fd, FunD K "first_wrong" "first_wrong" (defArgs s_first_wrong) (defBody s_first_wrong) (defScope s_first_wrong) [] [] (He.fAd K ("first_wrong", none)) fd := T.fn 21 d_first_wrong rfl
theorem Txt.fn_is_too_far (T : Txt K mg) : ∃ fd, FunD K "is_too_far" "is_too_far" (defArgs s_is_too_far) (defBody s_is_too_far) (defScope s_is_too_far) [] [] (He.fAd K ("is_too_far", none)) fd := T.fn 22 d_is_too_far rfl
theorem Txt.fn_waited_for (T : Txt K mg) : ∃ fd, FunD K "waited_for" "waited_for" (defArgs s_waited_for) (defBody s_waited_for) (defScope s_waited_for) [] [] (He.fAd K ("waited_for", none)) fd := T.fn 23 d_waited_for rfl
theorem Txt.fn_first_in_ring (T : Txt K mg) : ∃ fd, FunD K "first_in_ring" "first_in_ring" (defArgs s_first_in_ring) (defBody s_first_in_ring) (defScope s_first_in_ring) [] [] (He.fAd K ("first_in_ring", none)) fd := T.fn 24 d_first_in_ring rfl
theorem Txt.fn_Standing_init (T : Txt K mg) : ∃ fd, FunD K "__init__" "Standing.__init__" (defArgs s_Standing_init) (defBody s_Standing_init) (defScope s_Standing_init) [] [] (He.fAd K ("Standing", some "__init__")) fd := T.fn 25 d_Standing_init rfl
theorem Txt.fn_law_lots (T : Txt K mg) : ∃ fd, FunD K "_law_lots" "_law_lots" (defArgs s_law_lots) (defBody s_law_lots) (defScope s_law_lots) [] [] (He.fAd K ("_law_lots", none)) fd := T.fn 26 d_law_lots rfl
theorem Txt.fn_law_carried (T : Txt K mg) : ∃ fd, FunD K "_law_carried" "_law_carried" (defArgs s_law_carried) (defBody s_law_carried) (defScope s_law_carried) [] [] (He.fAd K ("_law_carried", none)) fd := T.fn 27 d_law_carried rfl
theorem Txt.fn_some_wait (T : Txt K mg) : ∃ fd, FunD K "some_wait" "some_wait" (defArgs s_some_wait) (defBody s_some_wait) (defScope s_some_wait) [] [] (He.fAd K ("some_wait", none)) fd := T.fn 28 d_some_wait rfl
theorem Txt.fn_check_free (T : Txt K mg) : ∃ fd, FunD K "check_free" "check_free" (defArgs s_check_free) (defBody s_check_free) (defScope s_check_free) [] [] (He.fAd K ("check_free", none)) fd := T.fn 29 d_check_free rfl
theorem Txt.fn_check_deed (T : Txt K mg) : ∃ fd, FunD K "check_deed" "check_deed" (defArgs s_check_deed) (defBody s_check_deed) (defScope s_check_deed) [] [] (He.fAd K ("check_deed", none)) fd := T.fn 30 d_check_deed rfl
theorem Txt.fn_raw_standing (T : Txt K mg) : ∃ fd, FunD K "raw_standing" "raw_standing" (defArgs s_raw_standing) (defBody s_raw_standing) (defScope s_raw_standing) [] [] (He.fAd K ("raw_standing", none)) fd := T.fn 31 d_raw_standing rfl
theorem Txt.fn_renumbered (T : Txt K mg) : ∃ fd, FunD K "renumbered" "renumbered" (defArgs s_renumbered) (defBody s_renumbered) (defScope s_renumbered) [] [] (He.fAd K ("renumbered", none)) fd := T.fn 32 d_renumbered rfl
theorem Txt.fn_written_many (T : Txt K mg) : ∃ fd, FunD K "written_many" "written_many" (defArgs s_written_many) (defBody s_written_many) (defScope s_written_many) [] [] (He.fAd K ("written_many", none)) fd := T.fn 33 d_written_many rfl
theorem Txt.fn_carried_of (T : Txt K mg) : ∃ fd, FunD K "carried_of" "carried_of" (defArgs s_carried_of) (defBody s_carried_of) (defScope s_carried_of) [] [] (He.fAd K ("carried_of", none)) fd := T.fn 34 d_carried_of rfl
theorem Txt.fn_fits_with (T : Txt K mg) : ∃ fd, FunD K "fits_with" "fits_with" (defArgs s_fits_with) (defBody s_fits_with) (defScope s_fits_with) [] [] (He.fAd K ("fits_with", none)) fd := T.fn 35 d_fits_with rfl
theorem Txt.fn_carried (T : Txt K mg) : ∃ fd, FunD K "carried" "carried" (defArgs s_carried) (defBody s_carried) (defScope s_carried) [] [] (He.fAd K ("carried", none)) fd := T.fn 36 d_carried rfl
theorem Txt.fn_law_told (T : Txt K mg) : ∃ fd, FunD K "_law_told" "_law_told" (defArgs s_law_told) (defBody s_law_told) (defScope s_law_told) [] [] (He.fAd K ("_law_told", none)) fd := T.fn 37 d_law_told rfl
theorem Txt.fn_law_led_right (T : Txt K mg) : ∃ fd, FunD K "_law_led_right" "_law_led_right" (defArgs s_law_led_right) (defBody s_law_led_right) (defScope s_law_led_right) [] [] (He.fAd K ("_law_led_right", none)) fd := T.fn 38 d_law_led_right rfl
theorem Txt.fn_law_left (T : Txt K mg) : ∃ fd, FunD K "_law_left" "_law_left" (defArgs s_law_left) (defBody s_law_left) (defScope s_law_left) [] [] (He.fAd K ("_law_left", none)) fd := T.fn 39 d_law_left rfl
theorem Txt.fn_waits_of (T : Txt K mg) : ∃ fd, FunD K "waits_of" "waits_of" (defArgs s_waits_of) (defBody s_waits_of) (defScope s_waits_of) [] [] (He.fAd K ("waits_of", none)) fd := T.fn 40 d_waits_of rfl
theorem Txt.fn_loads_of (T : Txt K mg) : ∃ fd, FunD K "loads_of" "loads_of" (defArgs s_loads_of) (defBody s_loads_of) (defScope s_loads_of) [] [] (He.fAd K ("loads_of", none)) fd := T.fn 41 d_loads_of rfl
theorem Txt.fn_too_heavy (T : Txt K mg) : ∃ fd, FunD K "too_heavy" "too_heavy" (defArgs s_too_heavy) (defBody s_too_heavy) (defScope s_too_heavy) [] [] (He.fAd K ("too_heavy", none)) fd := T.fn 42 d_too_heavy rfl
theorem Txt.fn_easy (T : Txt K mg) : ∃ fd, FunD K "easy" "easy" (defArgs s_easy) (defBody s_easy) (defScope s_easy) [] [] (He.fAd K ("easy", none)) fd := T.fn 43 d_easy rfl
theorem Txt.fn_check_easy (T : Txt K mg) : ∃ fd, FunD K "check_easy" "check_easy" (defArgs s_check_easy) (defBody s_check_easy) (defScope s_check_easy) [] [] (He.fAd K ("check_easy", none)) fd := T.fn 44 d_check_easy rfl
theorem Txt.fn_is_deed (T : Txt K mg) : ∃ fd, FunD K "is_deed" "is_deed" (defArgs s_is_deed) (defBody s_is_deed) (defScope s_is_deed) [] [] (He.fAd K ("is_deed", none)) fd := T.fn 45 d_is_deed rfl
theorem Txt.fn_is_row_wish (T : Txt K mg) : ∃ fd, FunD K "is_row_wish" "is_row_wish" (defArgs s_is_row_wish) (defBody s_is_row_wish) (defScope s_is_row_wish) [] [] (He.fAd K ("is_row_wish", none)) fd := T.fn 46 d_is_row_wish rfl
theorem Txt.fn_is_open_wish (T : Txt K mg) : ∃ fd, FunD K "is_open_wish" "is_open_wish" (defArgs s_is_open_wish) (defBody s_is_open_wish) (defScope s_is_open_wish) [] [] (He.fAd K ("is_open_wish", none)) fd := T.fn 47 d_is_open_wish rfl
theorem Txt.fn_is_wish (T : Txt K mg) : ∃ fd, FunD K "is_wish" "is_wish" (defArgs s_is_wish) (defBody s_is_wish) (defScope s_is_wish) [] [] (He.fAd K ("is_wish", none)) fd := T.fn 48 d_is_wish rfl
theorem Txt.fn_check_wish (T : Txt K mg) : ∃ fd, FunD K "check_wish" "check_wish" (defArgs s_check_wish) (defBody s_check_wish) (defScope s_check_wish) [] [] (He.fAd K ("check_wish", none)) fd := T.fn 49 d_check_wish rfl
theorem Txt.fn_check_asked (T : Txt K mg) : ∃ fd, FunD K "check_asked" "check_asked" (defArgs s_check_asked) (defBody s_check_asked) (defScope s_check_asked) [] [] (He.fAd K ("check_asked", none)) fd := T.fn 50 d_check_asked rfl
theorem Txt.fn_behind_row (T : Txt K mg) : ∃ fd, FunD K "behind_row" "behind_row" (defArgs s_behind_row) (defBody s_behind_row) (defScope s_behind_row) [] [] (He.fAd K ("behind_row", none)) fd := T.fn 51 d_behind_row rfl
theorem Txt.fn_behind_open (T : Txt K mg) : ∃ fd, FunD K "behind_open" "behind_open" (defArgs s_behind_open) (defBody s_behind_open) (defScope s_behind_open) [] [] (He.fAd K ("behind_open", none)) fd := T.fn 52 d_behind_open rfl
theorem Txt.fn_behind_of (T : Txt K mg) : ∃ fd, FunD K "behind_of" "behind_of" (defArgs s_behind_of) (defBody s_behind_of) (defScope s_behind_of) [] [] (He.fAd K ("behind_of", none)) fd := T.fn 53 d_behind_of rfl
theorem Txt.fn_wisher_behind (T : Txt K mg) : ∃ fd, FunD K "wisher_behind" "wisher_behind" (defArgs s_wisher_behind) (defBody s_wisher_behind) (defScope s_wisher_behind) [] [] (He.fAd K ("wisher_behind", none)) fd := T.fn 54 d_wisher_behind rfl
theorem Txt.fn_is_first_row (T : Txt K mg) : ∃ fd, FunD K "is_first_row" "is_first_row" (defArgs s_is_first_row) (defBody s_is_first_row) (defScope s_is_first_row) [] [] (He.fAd K ("is_first_row", none)) fd := T.fn 55 d_is_first_row rfl
theorem Txt.fn_own_sum (T : Txt K mg) : ∃ fd, FunD K "own_sum" "own_sum" (defArgs s_own_sum) (defBody s_own_sum) (defScope s_own_sum) [] [] (He.fAd K ("own_sum", none)) fd := T.fn 56 d_own_sum rfl
theorem Txt.fn_must_of (T : Txt K mg) : ∃ fd, FunD K "must_of" "must_of" (defArgs s_must_of) (defBody s_must_of) (defScope s_must_of) [] [] (He.fAd K ("must_of", none)) fd := T.fn 57 d_must_of rfl
theorem Txt.fn_left_order (T : Txt K mg) : ∃ fd, FunD K "left_order" "left_order" (defArgs s_left_order) (defBody s_left_order) (defScope s_left_order) [] [] (He.fAd K ("left_order", none)) fd := T.fn 58 d_left_order rfl
theorem Txt.fn_left_of (T : Txt K mg) : ∃ fd, FunD K "left_of" "left_of" (defArgs s_left_of) (defBody s_left_of) (defScope s_left_of) [] [] (He.fAd K ("left_of", none)) fd := T.fn 59 d_left_of rfl
theorem Txt.fn_left (T : Txt K mg) : ∃ fd, FunD K "left" "left" (defArgs s_left) (defBody s_left) (defScope s_left) [] [] (He.fAd K ("left", none)) fd := T.fn 60 d_left rfl
theorem Txt.fn_law_when_left (T : Txt K mg) : ∃ fd, FunD K "_law_when_left" "_law_when_left" (defArgs s_law_when_left) (defBody s_law_when_left) (defScope s_law_when_left) [] [] (He.fAd K ("_law_when_left", none)) fd := T.fn 61 d_law_when_left rfl
theorem Txt.fn_law_can (T : Txt K mg) : ∃ fd, FunD K "_law_can" "_law_can" (defArgs s_law_can) (defBody s_law_can) (defScope s_law_can) [] [] (He.fAd K ("_law_can", none)) fd := T.fn 62 d_law_can rfl
theorem Txt.fn_let_by (T : Txt K mg) : ∃ fd, FunD K "let_by" "let_by" (defArgs s_let_by) (defBody s_let_by) (defScope s_let_by) [] [] (He.fAd K ("let_by", none)) fd := T.fn 63 d_let_by rfl
theorem Txt.fn_wish_when_left (T : Txt K mg) : ∃ fd, FunD K "wish_when_left" "wish_when_left" (defArgs s_wish_when_left) (defBody s_wish_when_left) (defScope s_wish_when_left) [] [] (He.fAd K ("wish_when_left", none)) fd := T.fn 64 d_wish_when_left rfl
theorem Txt.fn_is_carrying (T : Txt K mg) : ∃ fd, FunD K "is_carrying" "is_carrying" (defArgs s_is_carrying) (defBody s_is_carrying) (defScope s_is_carrying) [] [] (He.fAd K ("is_carrying", none)) fd := T.fn 65 d_is_carrying rfl
theorem Txt.fn_law_sum (T : Txt K mg) : ∃ fd, FunD K "_law_sum" "_law_sum" (defArgs s_law_sum) (defBody s_law_sum) (defScope s_law_sum) [] [] (He.fAd K ("_law_sum", none)) fd := T.fn 66 d_law_sum rfl
theorem Txt.fn_law_fits (T : Txt K mg) : ∃ fd, FunD K "_law_fits" "_law_fits" (defArgs s_law_fits) (defBody s_law_fits) (defScope s_law_fits) [] [] (He.fAd K ("_law_fits", none)) fd := T.fn 67 d_law_fits rfl
theorem Txt.fn_need_behind (T : Txt K mg) : ∃ fd, FunD K "need_behind" "need_behind" (defArgs s_need_behind) (defBody s_need_behind) (defScope s_need_behind) [] [] (He.fAd K ("need_behind", none)) fd := T.fn 68 d_need_behind rfl
theorem Txt.fn_cells_of (T : Txt K mg) : ∃ fd, FunD K "cells_of" "cells_of" (defArgs s_cells_of) (defBody s_cells_of) (defScope s_cells_of) [] [] (He.fAd K ("cells_of", none)) fd := T.fn 69 d_cells_of rfl
theorem Txt.fn_sum_of (T : Txt K mg) : ∃ fd, FunD K "sum_of" "sum_of" (defArgs s_sum_of) (defBody s_sum_of) (defScope s_sum_of) [] [] (He.fAd K ("sum_of", none)) fd := T.fn 70 d_sum_of rfl
theorem Txt.fn_carry_sum (T : Txt K mg) : ∃ fd, FunD K "carry_sum" "carry_sum" (defArgs s_carry_sum) (defBody s_carry_sum) (defScope s_carry_sum) [] [] (He.fAd K ("carry_sum", none)) fd := T.fn 71 d_carry_sum rfl
theorem Txt.fn_law_own_sum (T : Txt K mg) : ∃ fd, FunD K "_law_own_sum" "_law_own_sum" (defArgs s_law_own_sum) (defBody s_law_own_sum) (defScope s_law_own_sum) [] [] (He.fAd K ("_law_own_sum", none)) fd := T.fn 72 d_law_own_sum rfl
theorem Txt.fn_law (T : Txt K mg) : ∃ fd, FunD K "law" "law" (defArgs s_law) (defBody s_law) (defScope s_law) [] [] (He.fAd K ("law", none)) fd := T.fn 73 d_law rfl
theorem Txt.g_RingError (T : Txt K mg) : mg "RingError" = some (.ref (He.ga K "RingError")) := T.gl 0 _ rfl
theorem Txt.g_BadStanding (T : Txt K mg) : mg "BadStanding" = some (.ref (He.ga K "BadStanding")) := T.gl 1 _ rfl
theorem Txt.g_NoDeed (T : Txt K mg) : mg "NoDeed" = some (.ref (He.ga K "NoDeed")) := T.gl 2 _ rfl
theorem Txt.g_NotEasy (T : Txt K mg) : mg "NotEasy" = some (.ref (He.ga K "NotEasy")) := T.gl 3 _ rfl
theorem Txt.g_NoWish (T : Txt K mg) : mg "NoWish" = some (.ref (He.ga K "NoWish")) := T.gl 4 _ rfl
theorem Txt.g_Waiting (T : Txt K mg) : mg "Waiting" = some (.ref (He.ga K "Waiting")) := T.gl 5 _ rfl
theorem Txt.g_NoLot (T : Txt K mg) : mg "NoLot" = some (.ref (He.ga K "NoLot")) := T.gl 6 _ rfl
theorem Txt.g_NoRoom (T : Txt K mg) : mg "NoRoom" = some (.ref (He.ga K "NoRoom")) := T.gl 7 _ rfl
theorem Txt.g_NoRows (T : Txt K mg) : mg "NoRows" = some (.ref (He.ga K "NoRows")) := T.gl 8 _ rfl
theorem Txt.g_is_integer (T : Txt K mg) : mg "is_integer" = some (.ref (He.ga K "is_integer")) := T.gl 9 _ rfl
theorem Txt.g_is_within (T : Txt K mg) : mg "is_within" = some (.ref (He.ga K "is_within")) := T.gl 10 _ rfl
theorem Txt.g_is_number (T : Txt K mg) : mg "is_number" = some (.ref (He.ga K "is_number")) := T.gl 11 _ rfl
theorem Txt.g_is_triple (T : Txt K mg) : mg "is_triple" = some (.ref (He.ga K "is_triple")) := T.gl 12 _ rfl
theorem Txt.g_is_lot (T : Txt K mg) : mg "is_lot" = some (.ref (He.ga K "is_lot")) := T.gl 13 _ rfl
theorem Txt.g_is_first_behind (T : Txt K mg) : mg "is_first_behind" = some (.ref (He.ga K "is_first_behind")) := T.gl 14 _ rfl
theorem Txt.g_is_waits (T : Txt K mg) : mg "is_waits" = some (.ref (He.ga K "is_waits")) := T.gl 15 _ rfl
theorem Txt.g_first_wrong (T : Txt K mg) : mg "first_wrong" = some (.ref (He.ga K "first_wrong")) := T.gl 16 _ rfl
theorem Txt.g_waited_for (T : Txt K mg) : mg "waited_for" = some (.ref (He.ga K "waited_for")) := T.gl 17 _ rfl
theorem Txt.g_first_in_ring (T : Txt K mg) : mg "first_in_ring" = some (.ref (He.ga K "first_in_ring")) := T.gl 18 _ rfl
theorem Txt.g_is_too_far (T : Txt K mg) : mg "is_too_far" = some (.ref (He.ga K "is_too_far")) := T.gl 19 _ rfl
theorem Txt.g_Standing (T : Txt K mg) : mg "Standing" = some (.ref (He.ga K "Standing")) := T.gl 20 _ rfl
theorem Txt.g_raw_standing (T : Txt K mg) : mg "raw_standing" = some (.ref (He.ga K "raw_standing")) := T.gl 21 _ rfl
theorem Txt.g_waits_of (T : Txt K mg) : mg "waits_of" = some (.ref (He.ga K "waits_of")) := T.gl 22 _ rfl
theorem Txt.g_loads_of (T : Txt K mg) : mg "loads_of" = some (.ref (He.ga K "loads_of")) := T.gl 23 _ rfl
theorem Txt.g_too_heavy (T : Txt K mg) : mg "too_heavy" = some (.ref (He.ga K "too_heavy")) := T.gl 24 _ rfl
theorem Txt.g_easy (T : Txt K mg) : mg "easy" = some (.ref (He.ga K "easy")) := T.gl 25 _ rfl
theorem Txt.g_check_deed (T : Txt K mg) : mg "check_deed" = some (.ref (He.ga K "check_deed")) := T.gl 26 _ rfl
theorem Txt.g_is_deed (T : Txt K mg) : mg "is_deed" = some (.ref (He.ga K "is_deed")) := T.gl 27 _ rfl
theorem Txt.g_is_row_wish (T : Txt K mg) : mg "is_row_wish" = some (.ref (He.ga K "is_row_wish")) := T.gl 28 _ rfl
theorem Txt.g_is_open_wish (T : Txt K mg) : mg "is_open_wish" = some (.ref (He.ga K "is_open_wish")) := T.gl 29 _ rfl
theorem Txt.g_is_wait_wish (T : Txt K mg) : mg "is_wait_wish" = some (.ref (He.ga K "is_wait_wish")) := T.gl 30 _ rfl
theorem Txt.g_is_wish (T : Txt K mg) : mg "is_wish" = some (.ref (He.ga K "is_wish")) := T.gl 31 _ rfl
theorem Txt.g_check_wish (T : Txt K mg) : mg "check_wish" = some (.ref (He.ga K "check_wish")) := T.gl 32 _ rfl
theorem Txt.g_renumbered (T : Txt K mg) : mg "renumbered" = some (.ref (He.ga K "renumbered")) := T.gl 33 _ rfl
theorem Txt.g_written_many (T : Txt K mg) : mg "written_many" = some (.ref (He.ga K "written_many")) := T.gl 34 _ rfl
theorem Txt.g_behind_row (T : Txt K mg) : mg "behind_row" = some (.ref (He.ga K "behind_row")) := T.gl 35 _ rfl
theorem Txt.g_behind_open (T : Txt K mg) : mg "behind_open" = some (.ref (He.ga K "behind_open")) := T.gl 36 _ rfl
theorem Txt.g_behind_wait (T : Txt K mg) : mg "behind_wait" = some (.ref (He.ga K "behind_wait")) := T.gl 37 _ rfl
theorem Txt.g_behind_of (T : Txt K mg) : mg "behind_of" = some (.ref (He.ga K "behind_of")) := T.gl 38 _ rfl
theorem Txt.g_wisher_behind (T : Txt K mg) : mg "wisher_behind" = some (.ref (He.ga K "wisher_behind")) := T.gl 39 _ rfl
theorem Txt.g_is_first_row (T : Txt K mg) : mg "is_first_row" = some (.ref (He.ga K "is_first_row")) := T.gl 40 _ rfl
theorem Txt.g_check_easy (T : Txt K mg) : mg "check_easy" = some (.ref (He.ga K "check_easy")) := T.gl 41 _ rfl
theorem Txt.g_let_by (T : Txt K mg) : mg "let_by" = some (.ref (He.ga K "let_by")) := T.gl 42 _ rfl
theorem Txt.g_some_wait (T : Txt K mg) : mg "some_wait" = some (.ref (He.ga K "some_wait")) := T.gl 43 _ rfl
theorem Txt.g_check_free (T : Txt K mg) : mg "check_free" = some (.ref (He.ga K "check_free")) := T.gl 44 _ rfl
theorem Txt.g_check_asked (T : Txt K mg) : mg "check_asked" = some (.ref (He.ga K "check_asked")) := T.gl 45 _ rfl
theorem Txt.g_own_sum (T : Txt K mg) : mg "own_sum" = some (.ref (He.ga K "own_sum")) := T.gl 46 _ rfl
theorem Txt.g_must_of (T : Txt K mg) : mg "must_of" = some (.ref (He.ga K "must_of")) := T.gl 47 _ rfl
theorem Txt.g_fits_with (T : Txt K mg) : mg "fits_with" = some (.ref (He.ga K "fits_with")) := T.gl 48 _ rfl
theorem Txt.g_carried_of (T : Txt K mg) : mg "carried_of" = some (.ref (He.ga K "carried_of")) := T.gl 49 _ rfl
theorem Txt.g_carried (T : Txt K mg) : mg "carried" = some (.ref (He.ga K "carried")) := T.gl 50 _ rfl
theorem Txt.g_left_order (T : Txt K mg) : mg "left_order" = some (.ref (He.ga K "left_order")) := T.gl 51 _ rfl
theorem Txt.g_left_of (T : Txt K mg) : mg "left_of" = some (.ref (He.ga K "left_of")) := T.gl 52 _ rfl
theorem Txt.g_wish_when_left (T : Txt K mg) : mg "wish_when_left" = some (.ref (He.ga K "wish_when_left")) := T.gl 53 _ rfl
theorem Txt.g_left (T : Txt K mg) : mg "left" = some (.ref (He.ga K "left")) := T.gl 54 _ rfl
theorem Txt.g_cells_of (T : Txt K mg) : mg "cells_of" = some (.ref (He.ga K "cells_of")) := T.gl 55 _ rfl
theorem Txt.g_need_behind (T : Txt K mg) : mg "need_behind" = some (.ref (He.ga K "need_behind")) := T.gl 56 _ rfl
theorem Txt.g_sum_of (T : Txt K mg) : mg "sum_of" = some (.ref (He.ga K "sum_of")) := T.gl 57 _ rfl
theorem Txt.g_is_carrying (T : Txt K mg) : mg "is_carrying" = some (.ref (He.ga K "is_carrying")) := T.gl 58 _ rfl
theorem Txt.g_carry_sum (T : Txt K mg) : mg "carry_sum" = some (.ref (He.ga K "carry_sum")) := T.gl 59 _ rfl
theorem Txt.g__law_tape (T : Txt K mg) : mg "_law_tape" = some (.ref (He.ga K "_law_tape")) := T.gl 60 _ rfl
theorem Txt.g__law_pick (T : Txt K mg) : mg "_law_pick" = some (.ref (He.ga K "_law_pick")) := T.gl 61 _ rfl
theorem Txt.g__law_any (T : Txt K mg) : mg "_law_any" = some (.ref (He.ga K "_law_any")) := T.gl 62 _ rfl
theorem Txt.g__law_needs (T : Txt K mg) : mg "_law_needs" = some (.ref (He.ga K "_law_needs")) := T.gl 63 _ rfl
theorem Txt.g__law_loads (T : Txt K mg) : mg "_law_loads" = some (.ref (He.ga K "_law_loads")) := T.gl 64 _ rfl
theorem Txt.g__law_easy (T : Txt K mg) : mg "_law_easy" = some (.ref (He.ga K "_law_easy")) := T.gl 65 _ rfl
theorem Txt.g__law_deeds (T : Txt K mg) : mg "_law_deeds" = some (.ref (He.ga K "_law_deeds")) := T.gl 66 _ rfl
theorem Txt.g__law_standing (T : Txt K mg) : mg "_law_standing" = some (.ref (He.ga K "_law_standing")) := T.gl 67 _ rfl
theorem Txt.g__law_behind (T : Txt K mg) : mg "_law_behind" = some (.ref (He.ga K "_law_behind")) := T.gl 68 _ rfl
theorem Txt.g__law_wish (T : Txt K mg) : mg "_law_wish" = some (.ref (He.ga K "_law_wish")) := T.gl 69 _ rfl
theorem Txt.g__law_gone (T : Txt K mg) : mg "_law_gone" = some (.ref (He.ga K "_law_gone")) := T.gl 70 _ rfl
theorem Txt.g__law_told_later (T : Txt K mg) : mg "_law_told_later" = some (.ref (He.ga K "_law_told_later")) := T.gl 71 _ rfl
theorem Txt.g__law_must (T : Txt K mg) : mg "_law_must" = some (.ref (He.ga K "_law_must")) := T.gl 72 _ rfl
theorem Txt.g__law_carried (T : Txt K mg) : mg "_law_carried" = some (.ref (He.ga K "_law_carried")) := T.gl 73 _ rfl
theorem Txt.g__law_left (T : Txt K mg) : mg "_law_left" = some (.ref (He.ga K "_law_left")) := T.gl 74 _ rfl
theorem Txt.g__law_lots (T : Txt K mg) : mg "_law_lots" = some (.ref (He.ga K "_law_lots")) := T.gl 75 _ rfl
theorem Txt.g__law_when_left (T : Txt K mg) : mg "_law_when_left" = some (.ref (He.ga K "_law_when_left")) := T.gl 76 _ rfl
theorem Txt.g__law_can (T : Txt K mg) : mg "_law_can" = some (.ref (He.ga K "_law_can")) := T.gl 77 _ rfl
theorem Txt.g__law_sum (T : Txt K mg) : mg "_law_sum" = some (.ref (He.ga K "_law_sum")) := T.gl 78 _ rfl
theorem Txt.g__law_pressed (T : Txt K mg) : mg "_law_pressed" = some (.ref (He.ga K "_law_pressed")) := T.gl 79 _ rfl
theorem Txt.g__law_told (T : Txt K mg) : mg "_law_told" = some (.ref (He.ga K "_law_told")) := T.gl 80 _ rfl
theorem Txt.g__law_fits (T : Txt K mg) : mg "_law_fits" = some (.ref (He.ga K "_law_fits")) := T.gl 81 _ rfl
theorem Txt.g__law_own_sum (T : Txt K mg) : mg "_law_own_sum" = some (.ref (He.ga K "_law_own_sum")) := T.gl 82 _ rfl
theorem Txt.g__law_led_right (T : Txt K mg) : mg "_law_led_right" = some (.ref (He.ga K "_law_led_right")) := T.gl 83 _ rfl
theorem Txt.g_law (T : Txt K mg) : mg "law" = some (.ref (He.ga K "law")) := T.gl 84 _ rfl
theorem Txt.b_len (T : Txt K mg) : mg "len" = none := T.fr 0 _ rfl
theorem Txt.b_isinstance (T : Txt K mg) : mg "isinstance" = none := T.fr 1 _ rfl
theorem Txt.b_int (T : Txt K mg) : mg "int" = none := T.fr 2 _ rfl
theorem Txt.b_bool (T : Txt K mg) : mg "bool" = none := T.fr 3 _ rfl
theorem Txt.b_tuple (T : Txt K mg) : mg "tuple" = none := T.fr 4 _ rfl
theorem Txt.b_str (T : Txt K mg) : mg "str" = none := T.fr 5 _ rfl
theorem Txt.b_enumerate (T : Txt K mg) : mg "enumerate" = none := T.fr 6 _ rfl
theorem Txt.b_list (T : Txt K mg) : mg "list" = none := T.fr 7 _ rfl
theorem Txt.b_range (T : Txt K mg) : mg "range" = none := T.fr 8 _ rfl
theorem Txt.b_sorted (T : Txt K mg) : mg "sorted" = none := T.fr 9 _ rfl
theorem Txt.b_sum (T : Txt K mg) : mg "sum" = none := T.fr 10 _ rfl
theorem Txt.b_max (T : Txt K mg) : mg "max" = none := T.fr 11 _ rfl
theorem Txt.b_min (T : Txt K mg) : mg "min" = none := T.fr 12 _ rfl
theorem Txt.b_all (T : Txt K mg) : mg "all" = none := T.fr 13 _ rfl
theorem Txt.b_any (T : Txt K mg) : mg "any" = none := T.fr 14 _ rfl
theorem Txt.b_abs (T : Txt K mg) : mg "abs" = none := T.fr 15 _ rfl
theorem Txt.b_zip (T : Txt K mg) : mg "zip" = none := T.fr 16 _ rfl
theorem Txt.b_super (T : Txt K mg) : mg "super" = none := T.fr 17 _ rfl
end
end RC
end
section
set_option Elab.async false
set_option linter.all false
set_option maxRecDepth 100000
set_option maxHeartbeats 1000000
/-! RC, part 7: readings of single places, lists that are changed by insert and remove. -/
namespace RC
open PySem PySem.Spec PyProof.Rows L2
/-- xs.insert(i, y) -/
def rIns : V → List V → Hp → VK → Prop := fun x vs H Q => ∃ (l : Addr) (xs : List V) (i : Int) (y : V), x = .ref l ∧ vs = [.int i, y] ∧ H l = some (.lst xs) ∧ xs.length < sizeLine ∧ 0 ≤ i ∧ i < 2 ^ 63 ∧ Q .non (upd H l (.lst (xs.take i.toNat ++ [y] ++ xs.drop i.toNat)))
theorem mt_ins {X : Cx} : MtR X "list.insert" rIns := mt_insert
/-- SIZES.get(x, 0) -/
def sizeOf (z : Str) : Int := if z = "row" then 4 else if z = "open" then 4 else if z = "wait" then 3 else 0
def tSizes (K : PySem.W.Frag) (t : TA) : TE := fun σ H Q => t σ H fun vs H1 => ∃ z : Str, (z = "row" ∨ z = "open") ∧ vs = [.str z, .int 0] ∧ Q (.int 4) H1
/-- {ROW: is_row_wish, OPEN: is_open_wish, WAIT: is_wait_wish}[x] -/
def judgeOf (K : PySem.W.Frag) (z : Str) : Option Addr := if z = "row" then some (He.ga K "is_row_wish") else if z = "open" then some (He.ga K "is_open_wish") else none
def tJudges (K : PySem.W.Frag) (t : TE) : TE := tDGet (tDisp [(tC (.str "row"), tC (.ref (He.ga K "is_row_wish"))), (tC (.str "open"), tC (.ref (He.ga K "is_open_wish"))), (tC (.str "wait"), tC (.ref (He.ga K "is_wait_wish")))]) t
/-- judge(..), judge being one of the two -/
def judgeSp (K : PySem.W.Frag) (f : Addr) : Option Sp := if f = He.ga K "is_row_wish" then some (sp_is_row_wish K) else if f = He.ga K "is_open_wish" then some (sp_is_open_wish K) else none
def tJudge (K : PySem.W.Frag) (i : Nat) (t : TA) : TE := tCallA i (judgeSp K) t
/-- sorted of a list of pairs (number, lot): the same pairs in some order -/
def rSortLots (K : PySem.W.Frag) : List V → Hp → VK → Prop := fun vs H Q => ∃ (a : Addr) (xs : List V), vs = [.ref a] ∧ H a = some (.lst xs) ∧ xs.length < 64 ∧ (∀ x ∈ xs, ∃ (t u : Addr) (n : Int) (ns : List Int), x = .ref t ∧ H t = some (.tup [.int n, .ref u]) ∧ H u = some (.tup (ns.map .int))) ∧
  ∀ ys p, ys.Perm xs → H p = none → Q (.ref p) (upd H p (.lst ys))
/-- sorted of a dict of numbers -/
def rSortD : List V → Hp → VK → Prop := fun vs H Q => ∃ (a : Addr) (kvs : List (Key × V)) (ks : List Int), vs = [.ref a] ∧ Rd H a (.dK kvs) ∧ kvs.map (·.1) = ks.map Sum.inl ∧ ks.length < 64 ∧ ∀ (ys : List Int) (p : Addr), ys.Perm ks → ys.Pairwise (· ≤ ·) → H p = none → Q (.ref p) (upd H p (.lst (ys.map V.int)))
/-- zip of a tuple and a list -/
def Izp (a b : Addr) : It where
  go := fun i H => ∃ (xs ys : List V) (x y : V), H a = some (.tup xs) ∧ H b = some (.lst ys) ∧ xs[i]? = some x ∧ ys[i]? = some y
  yld := fun i H v H' => ∃ T x y, v = .ref T ∧ H T = none ∧ H' = upd H T (.tup [x, y]) ∧ (∀ xs, H a = some (.tup xs) → xs[i]? = some x) ∧ ∀ ys, H b = some (.lst ys) → ys[i]? = some y
  stop := fun i H => ∃ xs ys : List V, H a = some (.tup xs) ∧ H b = some (.lst ys) ∧ xs.length = i ∧ ys.length = i
def iZipTL (ta : TA) : TI := fun σ H R => ta σ H fun vs H1 => ∃ a b xs ys, vs = [.ref a, .ref b] ∧ H1 a = some (.tup xs) ∧ H1 b = some (.lst ys) ∧ xs.length = ys.length ∧ R (Izp a b) H1
section
variable {C : Ctx} {W : Cs} {G : Gm} {D : Ends} {rest : TS} {te tb : TE} {K : PySem.W.Frag}
/-- x.insert(j, e) -/
theorem ok_ins {k i : Nat} {l : Addr} {ds : List PyData} {d : PyData} {j : Nat} (hk : W[k]? = some (l, LC ds)) (hi : G[i]? = some (some (XV (.ref l)))) (hj : Ty (C.w W) G tb (IV (j : Nat))) (h : Ty (C.w W) G te (DV d)) (hz : ds.length < 100000) (hj2 : j ≤ 100000) (q : Ok C (W.set k (l, LC (insAt j d ds))) G rest D) :
    Ok C W G (tSeq (tDrop (tBM K "list" rIns (tVar i) (tCons tb (tCons te tNil)))) rest) D := fun σ F H r e => by
  obtain ⟨v, h1, h2⟩ := e.2 i _ hi
  have h2' : v = .ref l := h2
  subst h2'
  obtain ⟨xs, hc, hr⟩ := r.cell hk
  refine ⟨_, h1, .inl ⟨rfl, xs, SqL.of hc⟩, (ta_cons hj (ta_cons h ta_nil)) σ F e H r.sm r.j _ fun vs F1 H1 g p => ?_⟩
  obtain ⟨u, w, rfl, p1, p2⟩ := p.two
  have r1 := r.go g
  obtain ⟨xs1, hc1, hr1⟩ := r1.cell hk
  refine ⟨l, xs1, (j : Nat), w, rfl, by rw [IV.v p1], hc1, szLt (by rw [hr1.length]; exact hz), by omega, by omega, q σ F1 _ (r1.put hk ⟨_, rfl, ?_⟩) (e.mono (g.le r.sm))⟩
  rw [Int.toNat_natCast]
  exact ((hr1.take j).snoc p2).app (hr1.drop j)
/-- x.remove(e), ints -/
theorem ok_rem {k i : Nat} {l : Addr} {ns : List Int} {z : Int} {j : Nat} (hk : W[k]? = some (l, LC (ns.map .int))) (hi : G[i]? = some (some (XV (.ref l)))) (h : Ty (C.w W) G te (IV z)) (hj : ns[j]? = some z) (hn : ∀ m : Nat, m < j → ns[m]? ≠ some z) (q : Ok C (W.set k (l, LC ((ns.eraseIdx j).map .int))) G rest D) :
    Ok C W G (tSeq (tDrop (tBM K "list" rRemI (tVar i) (tCons te tNil))) rest) D := fun σ F H r e => by
  obtain ⟨v, h1, h2⟩ := e.2 i _ hi
  have h2' : v = .ref l := h2
  subst h2'
  obtain ⟨xs, hc, hr⟩ := r.cell hk
  refine ⟨_, h1, .inl ⟨rfl, xs, SqL.of hc⟩, (ta_cons h ta_nil) σ F e H r.sm r.j _ fun vs F1 H1 g p => ?_⟩
  obtain ⟨u, rfl, p1⟩ := p.one
  have r1 := r.go g
  obtain ⟨xs1, hc1, hr1⟩ := r1.cell hk
  have ex := hr1.ints
  subst ex
  exact ⟨l, ns, z, j, rfl, by rw [IV.v p1], hc1, hj, hn, q σ F1 _ (r1.put hk ⟨_, rfl, rpAll_ints _⟩) (e.mono (g.le r.sm))⟩
end
end RC

end
section
set_option Elab.async false
set_option linter.all false
set_option maxRecDepth 100000
set_option maxHeartbeats 2000000
namespace RC
open PySem PySem.Spec PyProof.Rows L2

abbrev N_law_tape : List Str := ["_law_script"]
theorem sc_law_tape : FnScope N_law_tape ["_law_script"] (defScope s_law_tape) := ⟨rfl, rfl, rfl, by decide +kernel, rfl, by decide +kernel, by decide +kernel⟩
def t_law_tape (K : PySem.W.Frag) : TS := tRet (tLst (tCons (tCB (rListS K) (tCons (tVar 0) (tNil))) (tCons (tC (.int 0)) (tCons (tC (.int 0)) (tCons (tC (.int 1)) (tCons (tC (.int 0)) (tNil)))))))
abbrev N_law_pick : List Str := ["_law_tape_here", "_law_many", "_law_digit", "_law_cell", "_law_mixed"]
theorem sc_law_pick : FnScope N_law_pick ["_law_tape_here", "_law_many"] (defScope s_law_pick) := ⟨rfl, rfl, rfl, by decide +kernel, rfl, by decide +kernel, by decide +kernel⟩
def t_law_pick (K : PySem.W.Frag) : TS := tSeq (tIfS (tTest (tOp rGtI (tOp (rIxA K) (tVar 0) (tC (.int 2))) (tC (.int 1)))) (tSeq (tAsg (tOp rModI (tCB rInt1 (tCons (tOp (rIxA K) (tVar 0) (tC (.int 2))) (tNil))) (tVar 1)) (gName 2)) (tSeq (tAsg (tOp rDivI (tOp (rIxA K) (tVar 0) (tC (.int 2))) (tVar 1)) (gSub (tVar 0) (tC (.int 2)) rSetL)) (tRet (tVar 2)))) (tNext)) (tSeq (tAsg (tOp (rAddA K) (tOp (rIxA K) (tVar 0) (tC (.int 4))) (tC (.int 1))) (gSub (tVar 0) (tC (.int 4)) rSetL)) (tSeq (tAsg (tC (.int 0)) (gName 3)) (tSeq (tIfS (tTest (tOp rLtI (tOp (rIxA K) (tVar 0) (tC (.int 1))) (tCB (rLen K) (tCons (tOp (rIxA K) (tVar 0) (tC (.int 0))) (tNil))))) (tSeq (tAsg (tCB rAbs (tCons (tCB rInt1 (tCons (tOp (rIxA K) (tOp (rIxA K) (tVar 0) (tC (.int 0))) (tOp (rIxA K) (tVar 0) (tC (.int 1)))) (tNil))) (tNil))) (gName 3)) (tAsg (tOp (rAddA K) (tOp (rIxA K) (tVar 0) (tC (.int 1))) (tC (.int 1))) (gSub (tVar 0) (tC (.int 1)) rSetL))) (tNext)) (tSeq (tIfS (tTest (tOp rGeI (tVar 3) (tOp rPowI (tC (.int 10)) (tC (.int 18))))) (tSeq (tAsg (tOp rDivI (tVar 3) (tVar 1)) (gSub (tVar 0) (tC (.int 2)) rSetL)) (tRet (tOp rModI (tCB rInt1 (tCons (tVar 3) (tNil))) (tVar 1)))) (tNext)) (tSeq (tAsg (tOp rModI (tCB rInt1 (tCons (tOp (rAddA K) (tOp (rAddA K) (tOp rMulI (tOp (rIxA K) (tVar 0) (tC (.int 3))) (tC (.int 48271))) (tOp rModI (tCB rInt1 (tCons (tVar 3) (tNil))) (tC (.int 2147483629)))) (tOp rMulI (tOp (rIxA K) (tVar 0) (tC (.int 4))) (tC (.int 69621)))) (tNil))) (tC (.int 2147483647))) (gName 4)) (tSeq (tAsg (tOp rModI (tCB rInt1 (tCons (tOp rMulI (tVar 4) (tOp (rAddA K) (tOp rDivI (tVar 4) (tC (.int 1009))) (tC (.int 40692)))) (tNil))) (tC (.int 2147483399))) (gName 4)) (tSeq (tAsg (tVar 4) (gSub (tVar 0) (tC (.int 3)) rSetL)) (tRet (tOp rModI (tCB rInt1 (tCons (tOp rDivI (tVar 4) (tC (.int 16))) (tNil))) (tVar 1))))))))))
abbrev N_law_any : List Str := ["_law_tape_here", "_law_things"]
theorem sc_law_any : FnScope N_law_any ["_law_tape_here", "_law_things"] (defScope s_law_any) := ⟨rfl, rfl, rfl, by decide +kernel, rfl, by decide +kernel, by decide +kernel⟩
def t_law_any (K : PySem.W.Frag) : TS := tRet (tOp (rIxA K) (tVar 1) (tCall (sp_law_pick K) [] L2.E0 (tCons (tVar 0) (tCons (tCB (rLen K) (tCons (tVar 1) (tNil))) (tNil)))))
abbrev N_law_deeds : List Str := ["_law_tape_here", "_law_many", "_law_great", "_law_at", "_law_deeds_here", "_law_bare", "_law_number", "_law_need"]
theorem sc_law_deeds : FnScope N_law_deeds ["_law_tape_here", "_law_many", "_law_great"] (defScope s_law_deeds) := ⟨rfl, rfl, rfl, by decide +kernel, rfl, by decide +kernel, by decide +kernel⟩
def t_law_deeds (K : PySem.W.Frag) : TS := tSeq (tAsg (tCall (sp_law_any K) [] L2.E0 (tCons (tVar 0) (tCons (tLst (tCons (tC (.int 0)) (tCons (tC (.int 0)) (tCons (tC (.int 7)) (tCons (tOp rPowI (tC (.int 10)) (tC (.int 12))) (tNil)))))) (tNil)))) (gName 3)) (tSeq (tPar 4 5 (tCons (tLst (tNil)) (tCons (tCall (sp_law_any K) [] L2.E0 (tCons (tVar 0) (tCons (tLst (tCons (tC (.int 0)) (tCons (tC (.int 0)) (tCons (tC (.int 1)) (tCons (tC (.int 2)) (tNil)))))) (tNil)))) (tNil)))) (tSeq (tFor (iRng1 (tCons (tVar 1) (tNil))) (gName 6) (tSeq (tAsg (tIf (tTest (tOp (rEqD K) (tVar 5) (tC (.int 0)))) (tCall (sp_law_pick K) [] L2.E0 (tCons (tVar 0) (tCons (tOp (rAddA K) (tVar 2) (tC (.int 1))) (tNil)))) (tOp (rAddA K) (tC (.int 1)) (tCall (sp_law_pick K) [] L2.E0 (tCons (tVar 0) (tCons (tVar 2) (tNil)))))) (gName 7)) (tIfS (tTest (tOp rGeI (tVar 6) (tOp rSubI (tVar 1) (tVar 5)))) (tDrop (tBM K "list" rAppend (tVar 4) (tCons (tTup (tCons (tC .non) (tCons (tVar 7) (tCons (tTup (tNil)) (tNil))))) (tNil)))) (tSeq (tDrop (tBM K "list" rAppend (tVar 4) (tCons (tTup (tCons (tVar 3) (tCons (tVar 7) (tCons (tTup (tNil)) (tNil))))) (tNil)))) (tAsg (tOp (rAddA K) (tOp (rAddA K) (tVar 3) (tC (.int 1))) (tCall (sp_law_pick K) [] L2.E0 (tCons (tVar 0) (tCons (tVar 2) (tNil))))) (gName 3)))))) (tRet (tTup (tCons (tOp (rAddA K) (tVar 3) (tCall (sp_law_pick K) [] L2.E0 (tCons (tVar 0) (tCons (tC (.int 3)) (tNil))))) (tCons (tThen (tVar 4) (kTup K)) (tNil)))))))
abbrev N_law_needs : List Str := ["_law_deeds_here", "_law_many", "_law_first", "_law_need", "_law_waits"]
theorem sc_law_needs : FnScope N_law_needs ["_law_deeds_here", "_law_many"] (defScope s_law_needs) := ⟨rfl, rfl, rfl, by decide +kernel, rfl, by decide +kernel, by decide +kernel⟩
def t_law_needs (K : PySem.W.Frag) : TS := tRet (tCB (rSum K) (tCons (tLc (iTup K (tSl (rSlB K) (tVar 0) (tNoPart) (tPart (tVar 1)))) (gTup K 3 (gCons (gName 2) (gCons (gName 3) (gCons (gName 4) (gNil))))) (tYes) (tVar 3) [2, 3, 4]) (tNil)))
abbrev N_law_loads : List Str := ["_law_head", "_law_deeds_here", "_law_found", "_law_at", "_law_first", "_law_need", "_law_waits"]
theorem sc_law_loads : FnScope N_law_loads ["_law_head", "_law_deeds_here"] (defScope s_law_loads) := ⟨rfl, rfl, rfl, by decide +kernel, rfl, by decide +kernel, by decide +kernel⟩
def t_law_loads (K : PySem.W.Frag) : TS := tSeq (tAsg (tLst (tNil)) (gName 2)) (tSeq (tFor (iEnT (tCons (tVar 1) (tNil))) (gTup K 2 (gCons (gName 3) (gCons (gTup K 3 (gCons (gName 4) (gCons (gName 5) (gCons (gName 6) (gNil))))) (gNil)))) (tDrop (tBM K "list" rAppend (tVar 2) (tCons (tIf (tTest (tOp rIsNo (tVar 4) (tC .non))) (tVar 5) (tOp (rAddA K) (tOp rSubI (tVar 0) (tVar 4)) (tCall (sp_law_needs K) [] L2.E0 (tCons (tVar 1) (tCons (tOp (rAddA K) (tVar 3) (tC (.int 1))) (tNil)))))) (tNil))))) (tRet (tVar 2)))
abbrev N_law_standing : List Str := ["_law_tape_here", "_law_many", "_law_great", "_law_head", "_law_deeds_here", "_law_cells"]
theorem sc_law_standing : FnScope N_law_standing ["_law_tape_here", "_law_many", "_law_great"] (defScope s_law_standing) := ⟨rfl, rfl, rfl, by decide +kernel, rfl, by decide +kernel, by decide +kernel⟩
def t_law_standing (K : PySem.W.Frag) : TS := tSeq (tAsg (tCall (sp_law_deeds K) [] L2.E0 (tCons (tVar 0) (tCons (tVar 1) (tCons (tVar 2) (tNil))))) (gTup K 2 (gCons (gName 3) (gCons (gName 4) (gNil))))) (tSeq (tAsg (tOp (rAddA K) (tCB (rMax K) (tCons (tOp (rAddA K) (tLst (tCons (tC (.int 1)) (tNil))) (tCall (sp_law_loads K) [] L2.E0 (tCons (tVar 3) (tCons (tVar 4) (tNil))))) (tNil))) (tCall (sp_law_any K) [] L2.E0 (tCons (tVar 0) (tCons (tLst (tCons (tC (.int 0)) (tCons (tC (.int 0)) (tCons (tC (.int 1)) (tCons (tC (.int 3)) (tCons (tC (.int 9)) (tNil))))))) (tNil))))) (gName 5)) (tRet (tTup (tCons (tVar 5) (tCons (tVar 3) (tCons (tVar 4) (tNil)))))))
abbrev N_law_wish : List Str := ["_law_tape_here", "_law_deeds_here", "_law_great"]
theorem sc_law_wish : FnScope N_law_wish ["_law_tape_here", "_law_deeds_here", "_law_great"] (defScope s_law_wish) := ⟨rfl, rfl, rfl, by decide +kernel, rfl, by decide +kernel, by decide +kernel⟩
def t_law_wish (K : PySem.W.Frag) : TS := tSeq (tIfS (tOr (tTest (tOp (rEqD K) (tCB (rLen K) (tCons (tVar 1) (tNil))) (tC (.int 0)))) (tTest (tOp (rEqD K) (tCall (sp_law_pick K) [] L2.E0 (tCons (tVar 0) (tCons (tC (.int 3)) (tNil)))) (tC (.int 0))))) (tRet (tTup (tCons (tC (.str "open")) (tCons (tCall (sp_law_pick K) [] L2.E0 (tCons (tVar 0) (tCons (tOp (rAddA K) (tOp rMulI (tC (.int 2)) (tVar 2)) (tC (.int 1))) (tNil)))) (tCons (tCall (sp_law_pick K) [] L2.E0 (tCons (tVar 0) (tCons (tOp (rAddA K) (tVar 2) (tC (.int 1))) (tNil)))) (tCons (tTup (tNil)) (tNil))))))) (tNext)) (tRet (tTup (tCons (tC (.str "row")) (tCons (tCall (sp_law_pick K) [] L2.E0 (tCons (tVar 0) (tCons (tCB (rLen K) (tCons (tVar 1) (tNil))) (tNil)))) (tCons (tOp (rAddA K) (tC (.int 1)) (tCall (sp_law_pick K) [] L2.E0 (tCons (tVar 0) (tCons (tOp rMulI (tC (.int 2)) (tVar 2)) (tNil))))) (tCons (tCall (sp_law_pick K) [] L2.E0 (tCons (tVar 0) (tCons (tOp (rAddA K) (tVar 2) (tC (.int 1))) (tNil)))) (tNil)))))))
abbrev N_law_gone : List Str := ["_law_head", "_law_deeds_here", "_law_many"]
theorem sc_law_gone : FnScope N_law_gone ["_law_head", "_law_deeds_here", "_law_many"] (defScope s_law_gone) := ⟨rfl, rfl, rfl, by decide +kernel, rfl, by decide +kernel, by decide +kernel⟩
def t_law_gone (K : PySem.W.Frag) : TS := tRet (tTup (tCons (tOp (rAddA K) (tVar 0) (tCall (sp_law_needs K) [] L2.E0 (tCons (tVar 1) (tCons (tVar 2) (tNil))))) (tCons (tSl (rSlB K) (tVar 1) (tPart (tVar 2)) (tNoPart)) (tNil))))
abbrev N_law_behind : List Str := ["_law_head", "_law_deeds_here", "_law_wish_here", "_law_cells", "_law_new", "_law_deed", "_law_place", "_law_word", "_law_need", "_law_first", "_law_rest", "_law_one"]
theorem sc_law_behind : FnScope N_law_behind ["_law_head", "_law_deeds_here", "_law_wish_here"] (defScope s_law_behind) := ⟨rfl, rfl, rfl, by decide +kernel, rfl, by decide +kernel, by decide +kernel⟩
def t_law_behind (K : PySem.W.Frag) : TS := tSeq (tIfS (tTest (tOp (rEqD K) (tOp (rIxA K) (tVar 2) (tC (.int 0))) (tC (.str "open")))) (tSeq (tPar 3 4 (tCons (tOp (rIxA K) (tVar 2) (tC (.int 1))) (tCons (tTup (tCons (tIf (tTest (tOp rGtI (tOp (rIxA K) (tVar 2) (tC (.int 1))) (tC (.int 0)))) (tVar 0) (tC .non)) (tCons (tOp (rIxA K) (tVar 2) (tC (.int 2))) (tCons (tTup (tNil)) (tNil))))) (tNil)))) (tSeq (tAsg (tIf (tTest (tOp (rEqD K) (tVar 3) (tC (.int 0)))) (tCB (rLen K) (tCons (tVar 1) (tNil))) (tCB (rLen K) (tCons (tLc (iTup K (tVar 1)) (gName 5) (tTest (tOp rNotNo (tOp (rIxA K) (tVar 5) (tC (.int 0))) (tC .non))) (tVar 5) [5]) (tNil)))) (gName 6)) (tRet (tTup (tCons (tOp (rAddA K) (tVar 0) (tVar 3)) (tCons (tOp (rAddA K) (tOp (rAddA K) (tSl (rSlB K) (tVar 1) (tNoPart) (tPart (tVar 6))) (tTup (tCons (tVar 4) (tNil)))) (tSl (rSlB K) (tVar 1) (tPart (tVar 6)) (tNoPart))) (tNil))))))) (tNext)) (tSeq (tAsg (tVar 2) (gTup K 4 (gCons (gName 7) (gCons (gName 5) (gCons (gName 3) (gCons (gName 8) (gNil))))))) (tSeq (tAsg (tOp (rIxA K) (tOp (rIxA K) (tVar 1) (tVar 5)) (tC (.int 0))) (gName 9)) (tSeq (tIfS (tTest (tOp rNotNo (tVar 9) (tC .non))) (tRet (tTup (tCons (tOp (rAddA K) (tVar 0) (tVar 3)) (tCons (tOp (rAddA K) (tOp (rAddA K) (tSl (rSlB K) (tVar 1) (tNoPart) (tPart (tVar 5))) (tTup (tCons (tTup (tCons (tVar 9) (tCons (tVar 8) (tCons (tTup (tNil)) (tNil))))) (tNil)))) (tSl (rSlB K) (tVar 1) (tPart (tOp (rAddA K) (tVar 5) (tC (.int 1)))) (tNoPart))) (tNil))))) (tNext)) (tSeq (tAsg (tOp (rAddA K) (tSl (rSlB K) (tVar 1) (tNoPart) (tPart (tVar 5))) (tSl (rSlB K) (tVar 1) (tPart (tOp (rAddA K) (tVar 5) (tC (.int 1)))) (tNoPart))) (gName 10)) (tSeq (tAsg (tCB (rLen K) (tCons (tLc (iTup K (tVar 10)) (gName 11) (tTest (tOp rNotNo (tOp (rIxA K) (tVar 11) (tC (.int 0))) (tC .non))) (tVar 11) [11]) (tNil))) (gName 6)) (tRet (tTup (tCons (tOp (rAddA K) (tVar 0) (tVar 3)) (tCons (tOp (rAddA K) (tOp (rAddA K) (tSl (rSlB K) (tVar 10) (tNoPart) (tPart (tVar 6))) (tTup (tCons (tTup (tCons (tVar 0) (tCons (tVar 8) (tCons (tTup (tNil)) (tNil))))) (tNil)))) (tSl (rSlB K) (tVar 10) (tPart (tVar 6)) (tNoPart))) (tNil))))))))))
abbrev N_law_easy : List Str := ["_law_cells", "_law_head", "_law_deeds_here", "_law_firsts", "_law_first", "_law_need", "_law_waits", "_law_load"]
theorem sc_law_easy : FnScope N_law_easy ["_law_cells", "_law_head", "_law_deeds_here"] (defScope s_law_easy) := ⟨rfl, rfl, rfl, by decide +kernel, rfl, by decide +kernel, by decide +kernel⟩
def t_law_easy (K : PySem.W.Frag) : TS := tSeq (tAsg (tLc (iTup K (tVar 2)) (gTup K 3 (gCons (gName 4) (gCons (gName 5) (gCons (gName 6) (gNil))))) (tTest (tOp rNotNo (tVar 4) (tC .non))) (tVar 4) [4, 5, 6]) (gName 3)) (tSeq (tIfS (tAnd (tTest (tOp rGtI (tCB (rLen K) (tCons (tVar 3) (tNil))) (tC (.int 0)))) (tTest (tOp rGtI (tOp rSubI (tVar 1) (tCB (rMin K) (tCons (tVar 3) (tNil)))) (tVar 0)))) (tRet (tC (.bl false))) (tNext)) (tRet (tCB (rAll K) (tCons (tLc (iList K (tCall (sp_law_loads K) [] L2.E0 (tCons (tVar 1) (tCons (tVar 2) (tNil))))) (gName 7) (tYes) (tOp rLeI (tVar 7) (tVar 0)) [7]) (tNil)))))
abbrev N_law_told_later : List Str := ["_law_wish_here", "_law_many"]
theorem sc_law_told_later : FnScope N_law_told_later ["_law_wish_here", "_law_many"] (defScope s_law_told_later) := ⟨rfl, rfl, rfl, by decide +kernel, rfl, by decide +kernel, by decide +kernel⟩
def t_law_told_later (K : PySem.W.Frag) : TS := tRet (tIf (tTest (tOp (rEqD K) (tOp (rIxA K) (tVar 0) (tC (.int 0))) (tC (.str "open")))) (tVar 0) (tOp (rAddA K) (tTup (tCons (tC (.str "row")) (tCons (tOp rSubI (tOp (rIxA K) (tVar 0) (tC (.int 1))) (tVar 1)) (tNil)))) (tSl (rSlB K) (tVar 0) (tPart (tC (.int 2))) (tNoPart))))
abbrev N_law_must : List Str := ["_law_cells", "_law_head", "_law_deeds_here", "_law_wish_here", "_law_many", "_law_later", "_law_rest", "_law_last", "_law_some"]
theorem sc_law_must : FnScope N_law_must ["_law_cells", "_law_head", "_law_deeds_here", "_law_wish_here"] (defScope s_law_must) := ⟨rfl, rfl, rfl, by decide +kernel, rfl, by decide +kernel, by decide +kernel⟩
def t_law_must (K : PySem.W.Frag) : TS := tSeq (tFor (iRng1 (tCons (tOp (rAddA K) (tCB (rLen K) (tCons (tVar 2) (tNil))) (tC (.int 1))) (tNil))) (gName 4) (tSeq (tIfS (tAnd (tTest (tOp (rEqD K) (tOp (rIxA K) (tVar 3) (tC (.int 0))) (tC (.str "row")))) (tTest (tOp rGtI (tVar 4) (tOp (rIxA K) (tVar 3) (tC (.int 1)))))) (tRet (tC .non)) (tNext)) (tSeq (tAsg (tCall (sp_law_gone K) [] L2.E0 (tCons (tVar 1) (tCons (tVar 2) (tCons (tVar 4) (tNil))))) (gTup K 2 (gCons (gName 5) (gCons (gName 6) (gNil))))) (tSeq (tAsg (tCall (sp_law_behind K) [] L2.E0 (tCons (tVar 5) (tCons (tVar 6) (tCons (tCall (sp_law_told_later K) [] L2.E0 (tCons (tVar 3) (tCons (tVar 4) (tNil)))) (tNil))))) (gTup K 2 (gCons (gName 7) (gCons (gName 8) (gNil))))) (tIfS (tB (tCall (sp_law_easy K) [] L2.E0 (tCons (tVar 0) (tCons (tVar 7) (tCons (tVar 8) (tNil)))))) (tRet (tVar 4)) (tNext)))))) (tRet (tC .non))
abbrev N_law_pressed : List Str := ["_law_tape_here", "_law_many", "_law_great", "_law_turn", "_law_cells", "_law_head", "_law_deeds_here", "_law_wish_here", "_law_must_here"]
theorem sc_law_pressed : FnScope N_law_pressed ["_law_tape_here", "_law_many", "_law_great"] (defScope s_law_pressed) := ⟨rfl, rfl, rfl, by decide +kernel, rfl, by decide +kernel, by decide +kernel⟩
def t_law_pressed (K : PySem.W.Frag) : TS := tSeq (tFor (iRng1 (tCons (tC (.int 12)) (tNil))) (gName 3) (tSeq (tAsg (tCall (sp_law_standing K) [] L2.E0 (tCons (tVar 0) (tCons (tVar 1) (tCons (tVar 2) (tNil))))) (gTup K 3 (gCons (gName 4) (gCons (gName 5) (gCons (gName 6) (gNil)))))) (tSeq (tAsg (tCall (sp_law_wish K) [] L2.E0 (tCons (tVar 0) (tCons (tVar 6) (tCons (tVar 2) (tNil))))) (gName 7)) (tSeq (tAsg (tCall (sp_law_must K) [] L2.E0 (tCons (tVar 4) (tCons (tVar 5) (tCons (tVar 6) (tCons (tVar 7) (tNil)))))) (gName 8)) (tIfS (tAnd (tTest (tOp rNotNo (tVar 8) (tC .non))) (tTest (tOp rGtI (tVar 8) (tC (.int 0))))) (tBreak) (tNext)))))) (tRet (tTup (tCons (tVar 4) (tCons (tVar 5) (tCons (tVar 6) (tCons (tVar 7) (tCons (tVar 8) (tNil))))))))
abbrev N_is_triple : List Str := ["thing"]
theorem sc_is_triple : FnScope N_is_triple ["thing"] (defScope s_is_triple) := ⟨rfl, rfl, rfl, by decide +kernel, rfl, by decide +kernel, by decide +kernel⟩
def t_is_triple (K : PySem.W.Frag) : TS := tRet (tAndV (tCB (rIsT K) (tCons (tVar 0) (tCons (tC (.ty "tuple")) (tNil)))) (tOp (rEqD K) (tCB (rLen K) (tCons (tVar 0) (tNil))) (tC (.int 3))))
abbrev N_is_integer : List Str := ["thing"]
theorem sc_is_integer : FnScope N_is_integer ["thing"] (defScope s_is_integer) := ⟨rfl, rfl, rfl, by decide +kernel, rfl, by decide +kernel, by decide +kernel⟩
def t_is_integer (K : PySem.W.Frag) : TS := tRet (tAndV (tCB (rIsT K) (tCons (tVar 0) (tCons (tC (.ty "int")) (tNil)))) (tNotV (tCB (rIsT K) (tCons (tVar 0) (tCons (tC (.ty "bool")) (tNil))))))
abbrev N_is_within : List Str := ["thing", "least", "most"]
theorem sc_is_within : FnScope N_is_within ["thing", "least", "most"] (defScope s_is_within) := ⟨rfl, rfl, rfl, by decide +kernel, rfl, by decide +kernel, by decide +kernel⟩
def t_is_within (K : PySem.W.Frag) : TS := tRet (tAndV (tCall (sp_is_integer K) [] L2.E0 (tCons (tVar 0) (tNil))) (tChain rLeI rLeI (tVar 1) (tVar 0) (tVar 2)))
abbrev N_is_first_behind : List Str := ["head", "last", "thing"]
theorem sc_is_first_behind : FnScope N_is_first_behind ["head", "last", "thing"] (defScope s_is_first_behind) := ⟨rfl, rfl, rfl, by decide +kernel, rfl, by decide +kernel, by decide +kernel⟩
def t_is_first_behind (K : PySem.W.Frag) : TS := tRet (tOrV (tOp rIsNo (tVar 2) (tC .non)) (tAndV (tOp rNotNo (tVar 1) (tC .non)) (tCall (sp_is_within K) [] L2.E0 (tCons (tVar 2) (tCons (tOp (rAddA K) (tVar 1) (tC (.int 1))) (tCons (tOp rSubI (tVar 0) (tC (.int 1))) (tNil)))))))
abbrev N_is_number : List Str := ["thing", "most"]
theorem sc_is_number : FnScope N_is_number ["thing", "most"] (defScope s_is_number) := ⟨rfl, rfl, rfl, by decide +kernel, rfl, by decide +kernel, by decide +kernel⟩
def t_is_number (K : PySem.W.Frag) : TS := tRet (tCall (sp_is_within K) [] L2.E0 (tCons (tVar 0) (tCons (tC (.int 0)) (tCons (tVar 1) (tNil)))))
abbrev N_is_lot : List Str := ["thing", "many", "last", "number"]
theorem sc_is_lot : FnScope N_is_lot ["thing", "many"] (defScope s_is_lot) := ⟨rfl, rfl, rfl, by decide +kernel, rfl, by decide +kernel, by decide +kernel⟩
def t_is_lot (K : PySem.W.Frag) : TS := tSeq (tIfS (tNot (tB (tCB (rIsT K) (tCons (tVar 0) (tCons (tC (.ty "tuple")) (tNil)))))) (tRet (tC (.bl false))) (tNext)) (tSeq (tAsg (tUn rNegI (tC (.int 1))) (gName 2)) (tSeq (tFor (iTup K (tVar 0)) (gName 3) (tSeq (tIfS (tNot (tB (tCall (sp_is_within K) [] L2.E0 (tCons (tVar 3) (tCons (tOp (rAddA K) (tVar 2) (tC (.int 1))) (tCons (tOp rSubI (tVar 1) (tC (.int 1))) (tNil))))))) (tRet (tC (.bl false))) (tNext)) (tAsg (tVar 3) (gName 2)))) (tRet (tC (.bl true)))))
abbrev N_is_waits : List Str := ["many", "deed", "thing"]
theorem sc_is_waits : FnScope N_is_waits ["many", "deed", "thing"] (defScope s_is_waits) := ⟨rfl, rfl, rfl, by decide +kernel, rfl, by decide +kernel, by decide +kernel⟩
def t_is_waits (K : PySem.W.Frag) : TS := tRet (tAndV (tCall (sp_is_lot K) [] L2.E0 (tCons (tVar 2) (tCons (tVar 0) (tNil)))) (tOp (rIn K true) (tVar 1) (tVar 2)))
abbrev N_first_wrong : List Str := ["head", "deeds", "last", "deed", "thing"]
theorem sc_first_wrong : FnScope N_first_wrong ["head", "deeds"] (defScope s_first_wrong) := ⟨rfl, rfl, rfl, by decide +kernel, rfl, by decide +kernel, by decide +kernel⟩
def t_first_wrong (K : PySem.W.Frag) : TS := tSeq (tAsg (tUn rNegI (tC (.int 1))) (gName 2)) (tSeq (tFor (iEnT (tCons (tVar 1) (tNil))) (gTup K 2 (gCons (gName 3) (gCons (gName 4) (gNil)))) (tSeq (tIfS (tOr (tNot (tB (tCall (sp_is_triple K) [] L2.E0 (tCons (tVar 4) (tNil))))) (tNot (tB (tCall (sp_is_first_behind K) [] L2.E0 (tCons (tVar 0) (tCons (tVar 2) (tCons (tOp (rIxA K) (tVar 4) (tC (.int 0))) (tNil)))))))) (tRet (tVar 3)) (tNext)) (tSeq (tIfS (tOr (tNot (tB (tCall (sp_is_number K) [] L2.E0 (tCons (tOp (rIxA K) (tVar 4) (tC (.int 1))) (tCons (tC (.int (10 ^ 30))) (tNil)))))) (tNot (tB (tCall (sp_is_waits K) [] L2.E0 (tCons (tCB (rLen K) (tCons (tVar 1) (tNil))) (tCons (tVar 3) (tCons (tOp (rIxA K) (tVar 4) (tC (.int 2))) (tNil)))))))) (tRet (tVar 3)) (tNext)) (tAsg (tOp (rIxA K) (tVar 4) (tC (.int 0))) (gName 2))))) (tRet (tC .non)))
abbrev N_is_too_far : List Str := ["cells", "head", "deeds"]
theorem sc_is_too_far : FnScope N_is_too_far ["cells", "head", "deeds"] (defScope s_is_too_far) := ⟨rfl, rfl, rfl, by decide +kernel, rfl, by decide +kernel, by decide +kernel⟩
def t_is_too_far (K : PySem.W.Frag) : TS := tRet (tAndV (tOp rGtI (tCB (rLen K) (tCons (tVar 2) (tNil))) (tC (.int 0))) (tAndV (tOp rNotNo (tOp (rIxA K) (tOp (rIxA K) (tVar 2) (tC (.int 0))) (tC (.int 0))) (tC .non)) (tOp rGtI (tOp rSubI (tVar 1) (tOp (rIxA K) (tOp (rIxA K) (tVar 2) (tC (.int 0))) (tC (.int 0)))) (tVar 0))))
abbrev N_waited_for : List Str := ["waits", "lot", "found", "waiting", "other", "deed"]
theorem sc_waited_for : FnScope N_waited_for ["waits", "lot"] (defScope s_waited_for) := ⟨rfl, rfl, rfl, by decide +kernel, rfl, by decide +kernel, by decide +kernel⟩
def t_waited_for (K : PySem.W.Frag) : TS := tSeq (tAsg (tDc (iTup K (tVar 1)) (gName 5) (tYes) (tVar 5) (tC (.bl true)) [5]) (gName 2)) (tSeq (tAsg (tCB (rListS K) (tCons (tVar 1) (tNil))) (gName 3)) (tSeq (tWhile (tTest (tOp rGtI (tCB (rLen K) (tCons (tVar 3) (tNil))) (tC (.int 0)))) (tFor (iTup K (tOp (rIxA K) (tVar 0) (tBM0 K "list" rPop (tVar 3)))) (gName 4) (tIfS (tB (tDNotIn (tVar 4) (tVar 2))) (tSeq (sDPut (tVar 2) (tVar 4) (tC (.bl true))) (tDrop (tBM K "list" rAppend (tVar 3) (tCons (tVar 4) (tNil))))) (tNext)))) (tRet (tThen (tCB rSortD (tCons (tVar 2) (tNil))) (kTup K)))))
abbrev N_first_in_ring : List Str := ["waits", "deed", "some"]
theorem sc_first_in_ring : FnScope N_first_in_ring ["waits"] (defScope s_first_in_ring) := ⟨rfl, rfl, rfl, by decide +kernel, rfl, by decide +kernel, by decide +kernel⟩
def t_first_in_ring (K : PySem.W.Frag) : TS := tSeq (tFor (iEnum K (tCons (tVar 0) (tNil))) (gTup K 2 (gCons (gName 1) (gCons (gName 2) (gNil)))) (tIfS (tTest (tOp (rIn K false) (tVar 1) (tCall (sp_waited_for K) [] L2.E0 (tCons (tVar 0) (tCons (tVar 2) (tNil)))))) (tRet (tVar 1)) (tNext))) (tRet (tC .non))
abbrev N_Standing_init : List Str := ["self", "cells", "head", "deeds", "wrong", "first", "need", "waits"]
theorem sc_Standing_init : FnScope N_Standing_init ["self", "cells", "head", "deeds"] (defScope s_Standing_init) := ⟨rfl, rfl, rfl, by decide +kernel, rfl, by decide +kernel, by decide +kernel⟩
def t_Standing_init (K : PySem.W.Frag) : TS := tSeq (tIfS (tNot (tB (tCall (sp_is_within K) [] L2.E0 (tCons (tVar 1) (tCons (tC (.int 1)) (tCons (tC (.int (10 ^ 30))) (tNil))))))) (tNever) (tNext)) (tSeq (tIfS (tNot (tB (tCall (sp_is_number K) [] L2.E0 (tCons (tVar 2) (tCons (tC (.int (10 ^ 40))) (tNil)))))) (tNever) (tNext)) (tSeq (tIfS (tOr (tNot (tB (tCB (rIsT K) (tCons (tVar 3) (tCons (tC (.ty "tuple")) (tNil)))))) (tTest (tOp rGtI (tCB (rLen K) (tCons (tVar 3) (tNil))) (tC (.int 200))))) (tNever) (tNext)) (tSeq (tAsg (tCall (sp_first_wrong K) [] L2.E0 (tCons (tVar 2) (tCons (tVar 3) (tNil)))) (gName 4)) (tSeq (tIfS (tTest (tOp rNotNo (tVar 4) (tC .non))) (tNever) (tNext)) (tSeq (tIfS (tB (tCall (sp_is_too_far K) [] L2.E0 (tCons (tVar 1) (tCons (tVar 2) (tCons (tVar 3) (tNil)))))) (tNever) (tNext)) (tSeq (tAsg (tCall (sp_first_in_ring K) [] L2.E0 (tCons (tLc (iTup K (tVar 3)) (gTup K 3 (gCons (gName 5) (gCons (gName 6) (gCons (gName 7) (gNil))))) (tYes) (tVar 7) [5, 6, 7]) (tNil))) (gName 4)) (tSeq (tIfS (tTest (tOp rNotNo (tVar 4) (tC .non))) (tNever) (tNext)) (tSeq (sFld K (tVar 0) (tVar 1) "cells") (tSeq (sFld K (tVar 0) (tVar 2) "head") (sFld K (tVar 0) (tVar 3) "deeds"))))))))))
abbrev N_law_lots : List Str := ["_law_many", "_law_found", "_law_number", "_law_size", "_law_lot"]
theorem sc_law_lots : FnScope N_law_lots ["_law_many"] (defScope s_law_lots) := ⟨rfl, rfl, rfl, by decide +kernel, rfl, by decide +kernel, by decide +kernel⟩
def t_law_lots (K : PySem.W.Frag) : TS := tSeq (tAsg (tLst (tCons (tTup (tNil)) (tNil))) (gName 1)) (tSeq (tFor (iRng1 (tCons (tVar 0) (tNil))) (gName 2) (tAsg (tOp (rAddA K) (tVar 1) (tLc (iList K (tVar 1)) (gName 4) (tYes) (tOp (rAddA K) (tVar 4) (tTup (tCons (tVar 2) (tNil)))) [4])) (gName 1))) (tRet (tLc (iList K (tCB (rSortLots K) (tCons (tLc (iList K (tVar 1)) (gName 4) (tYes) (tTup (tCons (tCB (rLen K) (tCons (tVar 4) (tNil))) (tCons (tVar 4) (tNil)))) [4]) (tNil)))) (gTup K 2 (gCons (gName 3) (gCons (gName 4) (gNil)))) (tYes) (tVar 4) [3, 4])))
abbrev N_law_carried : List Str := ["_law_cells", "_law_head", "_law_deeds_here", "_law_deed", "_law_first", "_law_need", "_law_waits", "_law_rest", "_law_place", "_law_one"]
theorem sc_law_carried : FnScope N_law_carried ["_law_cells", "_law_head", "_law_deeds_here", "_law_deed"] (defScope s_law_carried) := ⟨rfl, rfl, rfl, by decide +kernel, rfl, by decide +kernel, by decide +kernel⟩
def t_law_carried (K : PySem.W.Frag) : TS := tSeq (tAsg (tOp (rIxA K) (tVar 2) (tVar 3)) (gTup K 3 (gCons (gName 4) (gCons (gName 5) (gCons (gName 6) (gNil)))))) (tSeq (tIfS (tTest (tOp rIsNo (tVar 4) (tC .non))) (tRet (tTup (tCons (tC (.str "rows")) (tNil)))) (tNext)) (tSeq (tIfS (tTest (tOp rGtI (tOp rSubI (tOp (rAddA K) (tVar 1) (tVar 5)) (tOp (rIxA K) (tOp (rIxA K) (tVar 2) (tC (.int 0))) (tC (.int 0)))) (tVar 0))) (tRet (tTup (tCons (tC (.str "room")) (tCons (tVar 3) (tNil))))) (tNext)) (tSeq (tAsg (tOp (rAddA K) (tSl (rSlB K) (tVar 2) (tNoPart) (tPart (tVar 3))) (tSl (rSlB K) (tVar 2) (tPart (tOp (rAddA K) (tVar 3) (tC (.int 1)))) (tNoPart))) (gName 7)) (tSeq (tAsg (tIf (tTest (tOp rGtI (tVar 5) (tC (.int 0)))) (tCB (rLen K) (tCons (tLc (iTup K (tVar 7)) (gName 9) (tTest (tOp rNotNo (tOp (rIxA K) (tVar 9) (tC (.int 0))) (tC .non))) (tVar 9) [9]) (tNil))) (tCB (rLen K) (tCons (tVar 7) (tNil)))) (gName 8)) (tRet (tTup (tCons (tC (.str "let")) (tCons (tOp (rAddA K) (tVar 1) (tVar 5)) (tCons (tOp (rAddA K) (tOp (rAddA K) (tSl (rSlB K) (tVar 7) (tNoPart) (tPart (tVar 8))) (tTup (tCons (tTup (tCons (tIf (tTest (tOp rGtI (tVar 5) (tC (.int 0)))) (tVar 1) (tC .non)) (tCons (tVar 5) (tCons (tTup (tNil)) (tNil))))) (tNil)))) (tSl (rSlB K) (tVar 7) (tPart (tVar 8)) (tNoPart))) (tNil))))))))))
abbrev N_some_wait : List Str := ["standing", "first", "need", "waits"]
theorem sc_some_wait : FnScope N_some_wait ["standing"] (defScope s_some_wait) := ⟨rfl, rfl, rfl, by decide +kernel, rfl, by decide +kernel, by decide +kernel⟩
def t_some_wait (K : PySem.W.Frag) : TS := tRet (tCB (rAny K) (tCons (tLc (iTup K (tFld K (tVar 0) "deeds")) (gTup K 3 (gCons (gName 1) (gCons (gName 2) (gCons (gName 3) (gNil))))) (tYes) (tOp rGtI (tCB (rLen K) (tCons (tVar 3) (tNil))) (tC (.int 0))) [1, 2, 3]) (tNil)))
abbrev N_check_free : List Str := ["standing"]
theorem sc_check_free : FnScope N_check_free ["standing"] (defScope s_check_free) := ⟨rfl, rfl, rfl, by decide +kernel, rfl, by decide +kernel, by decide +kernel⟩
def t_check_free (K : PySem.W.Frag) : TS := tIfS (tB (tCall (sp_some_wait K) [] L2.E0 (tCons (tVar 0) (tNil)))) (tNever) (tNext)
abbrev N_check_deed : List Str := ["standing", "thing"]
theorem sc_check_deed : FnScope N_check_deed ["standing", "thing"] (defScope s_check_deed) := ⟨rfl, rfl, rfl, by decide +kernel, rfl, by decide +kernel, by decide +kernel⟩
def t_check_deed (K : PySem.W.Frag) : TS := tIfS (tNot (tB (tCall (sp_is_within K) [] L2.E0 (tCons (tVar 1) (tCons (tC (.int 0)) (tCons (tOp rSubI (tCB (rLen K) (tCons (tFld K (tVar 0) "deeds") (tNil))) (tC (.int 1))) (tNil))))))) (tNever) (tNext)
abbrev N_raw_standing : List Str := ["cells", "head", "deeds", "found"]
theorem sc_raw_standing : FnScope N_raw_standing ["cells", "head", "deeds"] (defScope s_raw_standing) := ⟨rfl, rfl, rfl, by decide +kernel, rfl, by decide +kernel, by decide +kernel⟩
def t_raw_standing (K : PySem.W.Frag) : TS := tSeq (tAsg (tMake (He.ga K "Standing") (sp_Standing_init K) [] L2.E0 (tCons (tC (.int 1)) (tCons (tC (.int 0)) (tCons (tTup (tNil)) (tNil))))) (gName 3)) (tSeq (sFld K (tVar 3) (tVar 0) "cells") (tSeq (sFld K (tVar 3) (tVar 1) "head") (tSeq (sFld K (tVar 3) (tThen (tVar 2) (kTup K)) "deeds") (tRet (tVar 3)))))
abbrev N_renumbered : List Str := ["deeds", "order", "deed", "names", "found", "first", "need", "waits", "at", "other"]
theorem sc_renumbered : FnScope N_renumbered ["deeds", "order"] (defScope s_renumbered) := ⟨rfl, rfl, rfl, by decide +kernel, rfl, by decide +kernel, by decide +kernel⟩
def t_renumbered (K : PySem.W.Frag) : TS := tSeq (tAsg (tDc (iEnum K (tCons (tVar 1) (tNil))) (gTup K 2 (gCons (gName 8) (gCons (gName 2) (gNil)))) (tYes) (tVar 2) (tVar 8) [8, 2]) (gName 3)) (tSeq (tAsg (tLst (tNil)) (gName 4)) (tSeq (tFor (iList K (tVar 1)) (gName 2) (tSeq (tAsg (tOp (rIxA K) (tVar 0) (tVar 2)) (gTup K 3 (gCons (gName 5) (gCons (gName 6) (gCons (gName 7) (gNil)))))) (tDrop (tBM K "list" rAppend (tVar 4) (tCons (tTup (tCons (tVar 5) (tCons (tVar 6) (tCons (tThen (tCB (rSorted K) (tCons (tLc (iTup K (tVar 7)) (gName 9) (tB (tDIn (tVar 9) (tVar 3))) (tDGet (tVar 3) (tVar 9)) [9]) (tNil))) (kTup K)) (tNil))))) (tNil)))))) (tRet (tThen (tVar 4) (kTup K)))))
abbrev N_written_many : List Str := ["deeds", "first", "need", "waits"]
theorem sc_written_many : FnScope N_written_many ["deeds"] (defScope s_written_many) := ⟨rfl, rfl, rfl, by decide +kernel, rfl, by decide +kernel, by decide +kernel⟩
def t_written_many (K : PySem.W.Frag) : TS := tRet (tCB (rLen K) (tCons (tLc (iSeq K (tVar 0)) (gTup K 3 (gCons (gName 1) (gCons (gName 2) (gCons (gName 3) (gNil))))) (tTest (tOp rNotNo (tVar 1) (tC .non))) (tVar 1) [1, 2, 3]) (tNil)))
abbrev N_carried_of : List Str := ["standing", "deed", "first", "need", "waits", "deeds", "order", "other"]
theorem sc_carried_of : FnScope N_carried_of ["standing", "deed"] (defScope s_carried_of) := ⟨rfl, rfl, rfl, by decide +kernel, rfl, by decide +kernel, by decide +kernel⟩
def t_carried_of (K : PySem.W.Frag) : TS := tSeq (tAsg (tOp (rIxA K) (tFld K (tVar 0) "deeds") (tVar 1)) (gTup K 3 (gCons (gName 2) (gCons (gName 3) (gCons (gName 4) (gNil)))))) (tSeq (tAsg (tCB (rListS K) (tCons (tFld K (tVar 0) "deeds") (tNil))) (gName 5)) (tSeq (tAsg (tTup (tCons (tIf (tTest (tOp rGtI (tVar 3) (tC (.int 0)))) (tFld K (tVar 0) "head") (tC .non)) (tCons (tVar 3) (tCons (tVar 4) (tNil))))) (gSub (tVar 5) (tVar 1) rSetL)) (tSeq (tAsg (tLc (iRng1 (tCons (tCB (rLen K) (tCons (tVar 5) (tNil))) (tNil))) (gName 7) (tTest (tOp (rNeD K) (tVar 7) (tVar 1))) (tVar 7) [7]) (gName 6)) (tSeq (tDrop (tBM K "list" rIns (tVar 6) (tCons (tIf (tTest (tOp rGtI (tVar 3) (tC (.int 0)))) (tOp rSubI (tCall (sp_written_many K) [] L2.E0 (tCons (tFld K (tVar 0) "deeds") (tNil))) (tC (.int 1))) (tCB (rLen K) (tCons (tVar 6) (tNil)))) (tCons (tVar 1) (tNil))))) (tRet (tCall (sp_raw_standing K) [] L2.E0 (tCons (tFld K (tVar 0) "cells") (tCons (tOp (rAddA K) (tFld K (tVar 0) "head") (tVar 3)) (tCons (tCall (sp_renumbered K) [] L2.E0 (tCons (tVar 5) (tCons (tVar 6) (tNil)))) (tNil))))))))))
abbrev N_fits_with : List Str := ["standing", "cells", "first"]
theorem sc_fits_with : FnScope N_fits_with ["standing", "cells"] (defScope s_fits_with) := ⟨rfl, rfl, rfl, by decide +kernel, rfl, by decide +kernel, by decide +kernel⟩
def t_fits_with (K : PySem.W.Frag) : TS := tSeq (tAsg (tIf (tTest (tOp rGtI (tCB (rLen K) (tCons (tFld K (tVar 0) "deeds") (tNil))) (tC (.int 0)))) (tOp (rIxA K) (tOp (rIxA K) (tFld K (tVar 0) "deeds") (tC (.int 0))) (tC (.int 0))) (tC .non)) (gName 2)) (tRet (tOrV (tOp rIsNo (tVar 2) (tC .non)) (tOp rLeI (tOp rSubI (tOp (rAddA K) (tFld K (tVar 0) "head") (tVar 1)) (tVar 2)) (tFld K (tVar 0) "cells"))))
abbrev N_carried : List Str := ["standing", "deed"]
theorem sc_carried : FnScope N_carried ["standing", "deed"] (defScope s_carried) := ⟨rfl, rfl, rfl, by decide +kernel, rfl, by decide +kernel, by decide +kernel⟩
abbrev N_law_told : List Str := ["_law_standing_here", "_law_deed", "_law_found", "_law_made", "error"]
theorem sc_law_told : FnScope N_law_told ["_law_standing_here", "_law_deed"] (defScope s_law_told) := ⟨rfl, rfl, rfl, by decide +kernel, rfl, by decide +kernel, by decide +kernel⟩
abbrev N_law_led_right : List Str := ["_law_tape_here", "_law_cells", "_law_head", "_law_deeds_here", "_law_turn", "_law_deed", "_law_due", "_law_told_here", "_law_first", "_law_need", "_law_waits"]
theorem sc_law_led_right : FnScope N_law_led_right ["_law_tape_here", "_law_cells", "_law_head", "_law_deeds_here"] (defScope s_law_led_right) := ⟨rfl, rfl, rfl, by decide +kernel, rfl, by decide +kernel, by decide +kernel⟩
def t_law_led_right (K : PySem.W.Frag) : TS := tSeq (tFor (iRng1 (tCons (tC (.int 8)) (tNil))) (gName 4) (tSeq (tAsg (tCall (sp_law_pick K) [] L2.E0 (tCons (tVar 0) (tCons (tCB (rLen K) (tCons (tVar 3) (tNil))) (tNil)))) (gName 5)) (tSeq (tAsg (tCall (sp_law_carried K) [] L2.E0 (tCons (tVar 1) (tCons (tVar 2) (tCons (tVar 3) (tCons (tVar 5) (tNil)))))) (gName 6)) (tSeq (tAsg (tCall (sp_law_told K) [] L2.E0 (tCons (tMake (He.ga K "Standing") (sp_Standing_init K) [] L2.E0 (tCons (tVar 1) (tCons (tVar 2) (tCons (tVar 3) (tNil))))) (tCons (tVar 5) (tNil)))) (gName 7)) (tSeq (tIfS (tTest (tOp (rNeD K) (tVar 7) (tVar 6))) (tRet (tC (.bl false))) (tNext)) (tIfS (tTest (tOp (rEqD K) (tOp (rIxA K) (tVar 6) (tC (.int 0))) (tC (.str "let")))) (tSeq (tPar 2 3 (tCons (tOp (rIxA K) (tVar 6) (tC (.int 1))) (tCons (tOp (rIxA K) (tVar 6) (tC (.int 2))) (tNil)))) (tIfS (tOr (tTest (tOp rGtI (tVar 2) (tOp rPowI (tC (.int 10)) (tC (.int 39))))) (tNot (tB (tCB (rAny K) (tCons (tLc (iTup K (tVar 3)) (gTup K 3 (gCons (gName 8) (gCons (gName 9) (gCons (gName 10) (gNil))))) (tYes) (tOp rNotNo (tVar 8) (tC .non)) [8, 9, 10]) (tNil)))))) (tRet (tC (.bl true))) (tNext))) (tNext))))))) (tRet (tC (.bl true)))
abbrev N_law_left : List Str := ["_law_head", "_law_deeds_here", "_law_many", "_law_lot", "_law_again", "_law_bare", "_law_deed", "_law_need", "_law_wrote", "_law_nothing"]
theorem sc_law_left : FnScope N_law_left ["_law_head", "_law_deeds_here", "_law_many", "_law_lot"] (defScope s_law_left) := ⟨rfl, rfl, rfl, by decide +kernel, rfl, by decide +kernel, by decide +kernel⟩
def t_law_left (K : PySem.W.Frag) : TS := tSeq (tPar 4 5 (tCons (tLst (tNil)) (tCons (tLst (tNil)) (tNil)))) (tSeq (tFor (iRng1 (tCons (tVar 2) (tNil))) (gName 6) (tSeq (tAsg (tOp (rIxA K) (tOp (rIxA K) (tVar 1) (tVar 6)) (tC (.int 1))) (gName 7)) (tSeq (tIfS (tAnd (tTest (tOp (rIn K false) (tVar 6) (tVar 3))) (tTest (tOp rGtI (tVar 7) (tC (.int 0))))) (tDrop (tBM K "list" rAppend (tVar 4) (tCons (tTup (tCons (tVar 0) (tCons (tVar 7) (tCons (tTup (tNil)) (tNil))))) (tNil)))) (tIfS (tTest (tOp (rIn K false) (tVar 6) (tVar 3))) (tDrop (tBM K "list" rAppend (tVar 5) (tCons (tTup (tCons (tC .non) (tCons (tC (.int 0)) (tCons (tTup (tNil)) (tNil))))) (tNil)))) (tNext))) (tAsg (tOp (rAddA K) (tVar 0) (tVar 7)) (gName 0))))) (tSeq (tAsg (tLc (iTup K (tSl (rSlB K) (tVar 1) (tPart (tVar 2)) (tNoPart))) (gName 6) (tTest (tOp rNotNo (tOp (rIxA K) (tVar 6) (tC (.int 0))) (tC .non))) (tVar 6) [6]) (gName 8)) (tSeq (tAsg (tLc (iTup K (tSl (rSlB K) (tVar 1) (tPart (tVar 2)) (tNoPart))) (gName 6) (tTest (tOp rIsNo (tOp (rIxA K) (tVar 6) (tC (.int 0))) (tC .non))) (tVar 6) [6]) (gName 9)) (tRet (tTup (tCons (tVar 0) (tCons (tThen (tOp (rAddA K) (tOp (rAddA K) (tOp (rAddA K) (tVar 8) (tVar 4)) (tVar 9)) (tVar 5)) (kTup K)) (tNil))))))))
abbrev N_waits_of : List Str := ["standing", "first", "need", "waits"]
theorem sc_waits_of : FnScope N_waits_of ["standing"] (defScope s_waits_of) := ⟨rfl, rfl, rfl, by decide +kernel, rfl, by decide +kernel, by decide +kernel⟩
def t_waits_of (K : PySem.W.Frag) : TS := tRet (tLc (iTup K (tFld K (tVar 0) "deeds")) (gTup K 3 (gCons (gName 1) (gCons (gName 2) (gCons (gName 3) (gNil))))) (tYes) (tVar 3) [1, 2, 3])
abbrev N_loads_of : List Str := ["standing", "waits", "known", "total", "found", "deed", "first", "need", "some", "other"]
theorem sc_loads_of : FnScope N_loads_of ["standing"] (defScope s_loads_of) := ⟨rfl, rfl, rfl, by decide +kernel, rfl, by decide +kernel, by decide +kernel⟩
def t_loads_of (K : PySem.W.Frag) : TS := tSeq (tAsg (tCall (sp_waits_of K) [] L2.E0 (tCons (tVar 0) (tNil))) (gName 1)) (tSeq (tAsg tDNewK (gName 2)) (tSeq (tAsg (tC (.int 0)) (gName 3)) (tSeq (tAsg (tLst (tNil)) (gName 4)) (tSeq (tFor (iEnT (tCons (tFld K (tVar 0) "deeds") (tNil))) (gTup K 2 (gCons (gName 5) (gCons (gTup K 3 (gCons (gName 6) (gCons (gName 7) (gCons (gName 8) (gNil))))) (gNil)))) (tIfS (tTest (tOp rIsNo (tVar 6) (tC .non))) (tDrop (tBM K "list" rAppend (tVar 4) (tCons (tVar 7) (tNil)))) (tSeq (tFor (iTup K (tCall (sp_waited_for K) [] L2.E0 (tCons (tVar 1) (tCons (tTup (tCons (tVar 5) (tNil))) (tNil))))) (gName 9) (tIfS (tB (tDNotIn (tVar 9) (tVar 2))) (tSeq (sDPut (tVar 2) (tVar 9) (tC (.bl true))) (tAug 3 (tOp (rIxA K) (tOp (rIxA K) (tFld K (tVar 0) "deeds") (tVar 9)) (tC (.int 1))) (ipI fun i j => i + j))) (tNext))) (tDrop (tBM K "list" rAppend (tVar 4) (tCons (tOp (rAddA K) (tOp rSubI (tFld K (tVar 0) "head") (tVar 6)) (tVar 3)) (tNil))))))) (tRet (tThen (tVar 4) (kTup K)))))))
abbrev N_too_heavy : List Str := ["standing", "deed", "load"]
theorem sc_too_heavy : FnScope N_too_heavy ["standing"] (defScope s_too_heavy) := ⟨rfl, rfl, rfl, by decide +kernel, rfl, by decide +kernel, by decide +kernel⟩
def t_too_heavy (K : PySem.W.Frag) : TS := tRet (tLc (iEnT (tCons (tCall (sp_loads_of K) [] L2.E0 (tCons (tVar 0) (tNil))) (tNil))) (gTup K 2 (gCons (gName 1) (gCons (gName 2) (gNil)))) (tTest (tOp rGtI (tVar 2) (tFld K (tVar 0) "cells"))) (tVar 1) [1, 2])
abbrev N_easy : List Str := ["standing"]
theorem sc_easy : FnScope N_easy ["standing"] (defScope s_easy) := ⟨rfl, rfl, rfl, by decide +kernel, rfl, by decide +kernel, by decide +kernel⟩
def t_easy (K : PySem.W.Frag) : TS := tRet (tOp (rEqD K) (tCB (rLen K) (tCons (tCall (sp_too_heavy K) [] L2.E0 (tCons (tVar 0) (tNil))) (tNil))) (tC (.int 0)))
abbrev N_check_easy : List Str := ["standing"]
theorem sc_check_easy : FnScope N_check_easy ["standing"] (defScope s_check_easy) := ⟨rfl, rfl, rfl, by decide +kernel, rfl, by decide +kernel, by decide +kernel⟩
def t_check_easy (K : PySem.W.Frag) : TS := tIfS (tNot (tB (tCall (sp_easy K) [] L2.E0 (tCons (tVar 0) (tNil))))) (tNever) (tNext)
abbrev N_is_deed : List Str := ["standing", "thing"]
theorem sc_is_deed : FnScope N_is_deed ["standing", "thing"] (defScope s_is_deed) := ⟨rfl, rfl, rfl, by decide +kernel, rfl, by decide +kernel, by decide +kernel⟩
def t_is_deed (K : PySem.W.Frag) : TS := tRet (tCall (sp_is_within K) [] L2.E0 (tCons (tVar 1) (tCons (tC (.int 0)) (tCons (tOp rSubI (tCB (rLen K) (tCons (tFld K (tVar 0) "deeds") (tNil))) (tC (.int 1))) (tNil)))))
abbrev N_is_row_wish : List Str := ["standing", "thing"]
theorem sc_is_row_wish : FnScope N_is_row_wish ["standing", "thing"] (defScope s_is_row_wish) := ⟨rfl, rfl, rfl, by decide +kernel, rfl, by decide +kernel, by decide +kernel⟩
def t_is_row_wish (K : PySem.W.Frag) : TS := tRet (tAndV (tCall (sp_is_deed K) [] L2.E0 (tCons (tVar 0) (tCons (tOp (rIxA K) (tVar 1) (tC (.int 1))) (tNil)))) (tAndV (tCall (sp_is_within K) [] L2.E0 (tCons (tOp (rIxA K) (tVar 1) (tC (.int 2))) (tCons (tC (.int 1)) (tCons (tC (.int (10 ^ 30))) (tNil))))) (tCall (sp_is_number K) [] L2.E0 (tCons (tOp (rIxA K) (tVar 1) (tC (.int 3))) (tCons (tC (.int (10 ^ 30))) (tNil))))))
abbrev N_is_open_wish : List Str := ["standing", "thing"]
theorem sc_is_open_wish : FnScope N_is_open_wish ["standing", "thing"] (defScope s_is_open_wish) := ⟨rfl, rfl, rfl, by decide +kernel, rfl, by decide +kernel, by decide +kernel⟩
def t_is_open_wish (K : PySem.W.Frag) : TS := tSeq (tIfS (tOr (tTest (tOp rGeI (tCB (rLen K) (tCons (tFld K (tVar 0) "deeds") (tNil))) (tC (.int 200)))) (tOr (tNot (tB (tCall (sp_is_number K) [] L2.E0 (tCons (tOp (rIxA K) (tVar 1) (tC (.int 1))) (tCons (tC (.int (10 ^ 30))) (tNil)))))) (tNot (tB (tCall (sp_is_number K) [] L2.E0 (tCons (tOp (rIxA K) (tVar 1) (tC (.int 2))) (tCons (tC (.int (10 ^ 30))) (tNil)))))))) (tRet (tC (.bl false))) (tNext)) (tRet (tCall (sp_is_lot K) [] L2.E0 (tCons (tOp (rIxA K) (tVar 1) (tC (.int 3))) (tCons (tCB (rLen K) (tCons (tFld K (tVar 0) "deeds") (tNil))) (tNil)))))
abbrev N_is_wish : List Str := ["standing", "thing", "judge"]
theorem sc_is_wish : FnScope N_is_wish ["standing", "thing"] (defScope s_is_wish) := ⟨rfl, rfl, rfl, by decide +kernel, rfl, by decide +kernel, by decide +kernel⟩
def t_is_wish (K : PySem.W.Frag) : TS := tSeq (tIfS (tOr (tNot (tB (tCB (rIsT K) (tCons (tVar 1) (tCons (tC (.ty "tuple")) (tNil)))))) (tOr (tTest (tOp rLtI (tCB (rLen K) (tCons (tVar 1) (tNil))) (tC (.int 3)))) (tNot (tB (tCB (rIsT K) (tCons (tOp (rIxA K) (tVar 1) (tC (.int 0))) (tCons (tC (.ty "str")) (tNil)))))))) (tRet (tC (.bl false))) (tNext)) (tSeq (tIfS (tTest (tOp (rNeD K) (tSizes K (tCons (tOp (rIxA K) (tVar 1) (tC (.int 0))) (tCons (tC (.int 0)) (tNil)))) (tCB (rLen K) (tCons (tVar 1) (tNil))))) (tRet (tC (.bl false))) (tNext)) (tSeq (tAsg (tJudges K (tOp (rIxA K) (tVar 1) (tC (.int 0)))) (gName 2)) (tRet (tJudge K 2 (tCons (tVar 0) (tCons (tVar 1) (tNil)))))))
abbrev N_check_wish : List Str := ["standing", "thing"]
theorem sc_check_wish : FnScope N_check_wish ["standing", "thing"] (defScope s_check_wish) := ⟨rfl, rfl, rfl, by decide +kernel, rfl, by decide +kernel, by decide +kernel⟩
def t_check_wish (K : PySem.W.Frag) : TS := tIfS (tNot (tB (tCall (sp_is_wish K) [] L2.E0 (tCons (tVar 0) (tCons (tVar 1) (tNil)))))) (tNever) (tNext)
abbrev N_check_asked : List Str := ["standing", "wish"]
theorem sc_check_asked : FnScope N_check_asked ["standing", "wish"] (defScope s_check_asked) := ⟨rfl, rfl, rfl, by decide +kernel, rfl, by decide +kernel, by decide +kernel⟩
def t_check_asked (K : PySem.W.Frag) : TS := tSeq (tDrop (tCall (sp_check_easy K) [] L2.E0 (tCons (tVar 0) (tNil)))) (tSeq (tDrop (tCall (sp_check_wish K) [] L2.E0 (tCons (tVar 0) (tCons (tVar 1) (tNil))))) (tSeq (tDrop (tCall (sp_check_free K) [] L2.E0 (tCons (tVar 0) (tNil)))) (tIfS (tOr (tTest (tOp (rEqD K) (tOp (rIxA K) (tVar 1) (tC (.int 0))) (tC (.str "wait")))) (tAnd (tTest (tOp (rEqD K) (tOp (rIxA K) (tVar 1) (tC (.int 0))) (tC (.str "open")))) (tTest (tOp rGtI (tCB (rLen K) (tCons (tOp (rIxA K) (tVar 1) (tC (.int 3))) (tNil))) (tC (.int 0)))))) (tNever) (tNext))))
abbrev N_behind_row : List Str := ["standing", "deed", "cells", "need", "first", "elder", "waits", "deeds", "order"]
theorem sc_behind_row : FnScope N_behind_row ["standing", "deed", "cells", "need"] (defScope s_behind_row) := ⟨rfl, rfl, rfl, by decide +kernel, rfl, by decide +kernel, by decide +kernel⟩
def t_behind_row (K : PySem.W.Frag) : TS := tSeq (tAsg (tOp (rIxA K) (tFld K (tVar 0) "deeds") (tVar 1)) (gTup K 3 (gCons (gName 4) (gCons (gName 5) (gCons (gName 6) (gNil)))))) (tSeq (tAsg (tCB (rListS K) (tCons (tFld K (tVar 0) "deeds") (tNil))) (gName 7)) (tSeq (tAsg (tLstRg (tRg1 (tCB (rLen K) (tCons (tVar 7) (tNil))))) (gName 8)) (tSeq (tIfS (tTest (tOp rIsNo (tVar 4) (tC .non))) (tSeq (tDrop (tBM K "list" rRemI (tVar 8) (tCons (tVar 1) (tNil)))) (tSeq (tDrop (tBM K "list" rIns (tVar 8) (tCons (tCall (sp_written_many K) [] L2.E0 (tCons (tVar 7) (tNil))) (tCons (tVar 1) (tNil))))) (tAsg (tFld K (tVar 0) "head") (gName 4)))) (tNext)) (tSeq (tAsg (tTup (tCons (tVar 4) (tCons (tVar 3) (tCons (tVar 6) (tNil))))) (gSub (tVar 7) (tVar 1) rSetL)) (tRet (tCall (sp_raw_standing K) [] L2.E0 (tCons (tFld K (tVar 0) "cells") (tCons (tOp (rAddA K) (tFld K (tVar 0) "head") (tVar 2)) (tCons (tCall (sp_renumbered K) [] L2.E0 (tCons (tVar 7) (tCons (tVar 8) (tNil)))) (tNil))))))))))
abbrev N_behind_open : List Str := ["standing", "cells", "need", "waits", "deeds", "order"]
theorem sc_behind_open : FnScope N_behind_open ["standing", "cells", "need", "waits"] (defScope s_behind_open) := ⟨rfl, rfl, rfl, by decide +kernel, rfl, by decide +kernel, by decide +kernel⟩
def t_behind_open (K : PySem.W.Frag) : TS := tSeq (tAsg (tOp (rAddA K) (tCB (rListS K) (tCons (tFld K (tVar 0) "deeds") (tNil))) (tLst (tCons (tTup (tCons (tIf (tTest (tOp rGtI (tVar 1) (tC (.int 0)))) (tFld K (tVar 0) "head") (tC .non)) (tCons (tVar 2) (tCons (tVar 3) (tNil))))) (tNil)))) (gName 4)) (tSeq (tAsg (tLstRg (tRg1 (tCB (rLen K) (tCons (tFld K (tVar 0) "deeds") (tNil))))) (gName 5)) (tSeq (tDrop (tBM K "list" rIns (tVar 5) (tCons (tIf (tTest (tOp rGtI (tVar 1) (tC (.int 0)))) (tCall (sp_written_many K) [] L2.E0 (tCons (tFld K (tVar 0) "deeds") (tNil))) (tCB (rLen K) (tCons (tVar 5) (tNil)))) (tCons (tCB (rLen K) (tCons (tVar 5) (tNil))) (tNil))))) (tRet (tCall (sp_raw_standing K) [] L2.E0 (tCons (tFld K (tVar 0) "cells") (tCons (tOp (rAddA K) (tFld K (tVar 0) "head") (tVar 1)) (tCons (tCall (sp_renumbered K) [] L2.E0 (tCons (tVar 4) (tCons (tVar 5) (tNil)))) (tNil))))))))
abbrev N_behind_of : List Str := ["standing", "wish"]
theorem sc_behind_of : FnScope N_behind_of ["standing", "wish"] (defScope s_behind_of) := ⟨rfl, rfl, rfl, by decide +kernel, rfl, by decide +kernel, by decide +kernel⟩
def t_behind_of (K : PySem.W.Frag) : TS := tSeq (tIfS (tTest (tOp (rEqD K) (tOp (rIxA K) (tVar 1) (tC (.int 0))) (tC (.str "row")))) (tRet (tCall (sp_behind_row K) [] L2.E0 (tCons (tVar 0) (tCons (tOp (rIxA K) (tVar 1) (tC (.int 1))) (tCons (tOp (rIxA K) (tVar 1) (tC (.int 2))) (tCons (tOp (rIxA K) (tVar 1) (tC (.int 3))) (tNil))))))) (tNext)) (tSeq (tIfS (tTest (tOp (rEqD K) (tOp (rIxA K) (tVar 1) (tC (.int 0))) (tC (.str "open")))) (tRet (tCall (sp_behind_open K) [] L2.E0 (tCons (tVar 0) (tCons (tOp (rIxA K) (tVar 1) (tC (.int 1))) (tCons (tOp (rIxA K) (tVar 1) (tC (.int 2))) (tCons (tOp (rIxA K) (tVar 1) (tC (.int 3))) (tNil))))))) (tNext)) (tNever))
abbrev N_wisher_behind : List Str := ["standing", "wish"]
theorem sc_wisher_behind : FnScope N_wisher_behind ["standing", "wish"] (defScope s_wisher_behind) := ⟨rfl, rfl, rfl, by decide +kernel, rfl, by decide +kernel, by decide +kernel⟩
def t_wisher_behind (K : PySem.W.Frag) : TS := tSeq (tIfS (tTest (tOp (rEqD K) (tOp (rIxA K) (tVar 1) (tC (.int 0))) (tC (.str "open")))) (tRet (tIf (tTest (tOp rGtI (tOp (rIxA K) (tVar 1) (tC (.int 1))) (tC (.int 0)))) (tCall (sp_written_many K) [] L2.E0 (tCons (tFld K (tVar 0) "deeds") (tNil))) (tCB (rLen K) (tCons (tFld K (tVar 0) "deeds") (tNil))))) (tNext)) (tSeq (tIfS (tOr (tTest (tOp (rEqD K) (tOp (rIxA K) (tVar 1) (tC (.int 0))) (tC (.str "wait")))) (tTest (tOp rNotNo (tOp (rIxA K) (tOp (rIxA K) (tFld K (tVar 0) "deeds") (tOp (rIxA K) (tVar 1) (tC (.int 1)))) (tC (.int 0))) (tC .non)))) (tRet (tOp (rIxA K) (tVar 1) (tC (.int 1)))) (tNext)) (tRet (tCall (sp_written_many K) [] L2.E0 (tCons (tFld K (tVar 0) "deeds") (tNil)))))
abbrev N_is_first_row : List Str := ["standing", "wish"]
theorem sc_is_first_row : FnScope N_is_first_row ["standing", "wish"] (defScope s_is_first_row) := ⟨rfl, rfl, rfl, by decide +kernel, rfl, by decide +kernel, by decide +kernel⟩
def t_is_first_row (K : PySem.W.Frag) : TS := tSeq (tIfS (tTest (tOp (rEqD K) (tOp (rIxA K) (tVar 1) (tC (.int 0))) (tC (.str "open")))) (tRet (tOp rGtI (tOp (rIxA K) (tVar 1) (tC (.int 1))) (tC (.int 0)))) (tNext)) (tRet (tAndV (tOp (rEqD K) (tOp (rIxA K) (tVar 1) (tC (.int 0))) (tC (.str "row"))) (tOp rIsNo (tOp (rIxA K) (tOp (rIxA K) (tFld K (tVar 0) "deeds") (tOp (rIxA K) (tVar 1) (tC (.int 1)))) (tC (.int 0))) (tC .non))))
abbrev N_own_sum : List Str := ["there", "wisher", "cells", "many", "first", "need", "waits"]
theorem sc_own_sum : FnScope N_own_sum ["there", "wisher", "cells", "many"] (defScope s_own_sum) := ⟨rfl, rfl, rfl, by decide +kernel, rfl, by decide +kernel, by decide +kernel⟩
def t_own_sum (K : PySem.W.Frag) : TS := tRet (tOp (rAddA K) (tVar 2) (tCB (rSum K) (tCons (tLc (iTup K (tSl (rSlB K) (tFld K (tVar 0) "deeds") (tPart (tVar 3)) (tPart (tOp (rAddA K) (tVar 1) (tC (.int 1)))))) (gTup K 3 (gCons (gName 4) (gCons (gName 5) (gCons (gName 6) (gNil))))) (tYes) (tVar 5) [4, 5, 6]) (tNil))))
abbrev N_must_of : List Str := ["standing", "wish", "there", "wisher", "heavy", "some", "many", "cells", "deed"]
theorem sc_must_of : FnScope N_must_of ["standing", "wish"] (defScope s_must_of) := ⟨rfl, rfl, rfl, by decide +kernel, rfl, by decide +kernel, by decide +kernel⟩
def t_must_of (K : PySem.W.Frag) : TS := tSeq (tAsg (tCall (sp_behind_of K) [] L2.E0 (tCons (tVar 0) (tCons (tVar 1) (tNil)))) (gName 2)) (tSeq (tAsg (tCall (sp_wisher_behind K) [] L2.E0 (tCons (tVar 0) (tCons (tVar 1) (tNil)))) (gName 3)) (tSeq (tAsg (tCall (sp_too_heavy K) [] L2.E0 (tCons (tVar 2) (tNil))) (gName 4)) (tSeq (tAsg (tLc (iList K (tVar 4)) (gName 8) (tTest (tOp (rNeD K) (tVar 8) (tVar 3))) (tVar 8) [8]) (gName 5)) (tSeq (tAsg (tIf (tTest (tOp rGtI (tCB (rLen K) (tCons (tVar 5) (tNil))) (tC (.int 0)))) (tOp (rAddA K) (tOp (rIxA K) (tVar 5) (tUn rNegI (tC (.int 1)))) (tC (.int 1))) (tC (.int 0))) (gName 6)) (tSeq (tIfS (tB (tCall (sp_is_first_row K) [] L2.E0 (tCons (tVar 0) (tCons (tVar 1) (tNil))))) (tSeq (tAsg (tOp rSubI (tFld K (tVar 2) "head") (tFld K (tVar 0) "head")) (gName 7)) (tWhile (tAnd (tTest (tOp rLeI (tVar 6) (tVar 3))) (tTest (tOp rGtI (tCall (sp_own_sum K) [] L2.E0 (tCons (tVar 2) (tCons (tVar 3) (tCons (tVar 7) (tCons (tVar 6) (tNil)))))) (tFld K (tVar 2) "cells")))) (tAug 6 (tC (.int 1)) (ipI fun i j => i + j)))) (tIfS (tTest (tOp (rIn K false) (tVar 3) (tVar 4))) (tRet (tC .non)) (tNext))) (tRet (tIf (tTest (tOp rGtI (tVar 6) (tVar 3))) (tC .non) (tVar 6))))))))
abbrev N_left_order : List Str := ["standing", "many", "lot", "stay", "wrote", "nothing", "again", "deed"]
theorem sc_left_order : FnScope N_left_order ["standing", "many", "lot"] (defScope s_left_order) := ⟨rfl, rfl, rfl, by decide +kernel, rfl, by decide +kernel, by decide +kernel⟩
def t_left_order (K : PySem.W.Frag) : TS := tSeq (tAsg (tLstRg (tRg2 (tVar 1) (tCB (rLen K) (tCons (tFld K (tVar 0) "deeds") (tNil))))) (gName 3)) (tSeq (tAsg (tLc (iList K (tVar 3)) (gName 7) (tTest (tOp rNotNo (tOp (rIxA K) (tOp (rIxA K) (tFld K (tVar 0) "deeds") (tVar 7)) (tC (.int 0))) (tC .non))) (tVar 7) [7]) (gName 4)) (tSeq (tAsg (tLc (iList K (tVar 3)) (gName 7) (tTest (tOp rIsNo (tOp (rIxA K) (tOp (rIxA K) (tFld K (tVar 0) "deeds") (tVar 7)) (tC (.int 0))) (tC .non))) (tVar 7) [7]) (gName 5)) (tSeq (tAsg (tLc (iTup K (tVar 2)) (gName 7) (tTest (tOp rGtI (tOp (rIxA K) (tOp (rIxA K) (tFld K (tVar 0) "deeds") (tVar 7)) (tC (.int 1))) (tC (.int 0)))) (tVar 7) [7]) (gName 6)) (tRet (tOp (rAddA K) (tOp (rAddA K) (tOp (rAddA K) (tVar 4) (tVar 6)) (tVar 5)) (tLc (iTup K (tVar 2)) (gName 7) (tTest (tOp (rIn K true) (tVar 7) (tVar 6))) (tVar 7) [7]))))))
abbrev N_left_of : List Str := ["standing", "many", "lot", "deeds", "head", "deed", "first", "need", "waits"]
theorem sc_left_of : FnScope N_left_of ["standing", "many", "lot"] (defScope s_left_of) := ⟨rfl, rfl, rfl, by decide +kernel, rfl, by decide +kernel, by decide +kernel⟩
def t_left_of (K : PySem.W.Frag) : TS := tSeq (tAsg (tCB (rListS K) (tCons (tFld K (tVar 0) "deeds") (tNil))) (gName 3)) (tSeq (tAsg (tFld K (tVar 0) "head") (gName 4)) (tSeq (tFor (iRng1 (tCons (tVar 1) (tNil))) (gName 5) (tSeq (tAsg (tOp (rIxA K) (tVar 3) (tVar 5)) (gTup K 3 (gCons (gName 6) (gCons (gName 7) (gCons (gName 8) (gNil)))))) (tSeq (tAsg (tTup (tCons (tIf (tTest (tOp rGtI (tVar 7) (tC (.int 0)))) (tVar 4) (tC .non)) (tCons (tVar 7) (tCons (tVar 8) (tNil))))) (gSub (tVar 3) (tVar 5) rSetL)) (tAug 4 (tVar 7) (ipI fun i j => i + j))))) (tRet (tCall (sp_raw_standing K) [] L2.E0 (tCons (tFld K (tVar 0) "cells") (tCons (tVar 4) (tCons (tCall (sp_renumbered K) [] L2.E0 (tCons (tVar 3) (tCons (tCall (sp_left_order K) [] L2.E0 (tCons (tVar 0) (tCons (tVar 1) (tCons (tVar 2) (tNil))))) (tNil)))) (tNil))))))))
abbrev N_left : List Str := ["standing", "wish", "lot", "many"]
theorem sc_left : FnScope N_left ["standing", "wish", "lot"] (defScope s_left) := ⟨rfl, rfl, rfl, by decide +kernel, rfl, by decide +kernel, by decide +kernel⟩
def t_left (K : PySem.W.Frag) : TS := tSeq (tDrop (tCall (sp_check_asked K) [] L2.E0 (tCons (tVar 0) (tCons (tVar 1) (tNil))))) (tSeq (tAsg (tCall (sp_must_of K) [] L2.E0 (tCons (tVar 0) (tCons (tVar 1) (tNil)))) (gName 3)) (tSeq (tIfS (tOr (tTest (tOp rIsNo (tVar 3) (tC .non))) (tNot (tB (tCall (sp_is_lot K) [] L2.E0 (tCons (tVar 2) (tCons (tVar 3) (tNil))))))) (tNever) (tNext)) (tRet (tCall (sp_left_of K) [] L2.E0 (tCons (tVar 0) (tCons (tVar 3) (tCons (tVar 2) (tNil))))))))
abbrev N_law_when_left : List Str := ["_law_deeds_here", "_law_wish_here", "_law_many", "_law_lot", "_law_wrote", "_law_again", "_law_nothing", "_law_deed"]
theorem sc_law_when_left : FnScope N_law_when_left ["_law_deeds_here", "_law_wish_here", "_law_many", "_law_lot"] (defScope s_law_when_left) := ⟨rfl, rfl, rfl, by decide +kernel, rfl, by decide +kernel, by decide +kernel⟩
def t_law_when_left (K : PySem.W.Frag) : TS := tSeq (tIfS (tTest (tOp (rEqD K) (tOp (rIxA K) (tVar 1) (tC (.int 0))) (tC (.str "open")))) (tRet (tVar 1)) (tNext)) (tSeq (tAsg (tLc (iRng2 (tCons (tVar 2) (tCons (tCB (rLen K) (tCons (tVar 0) (tNil))) (tNil)))) (gName 7) (tTest (tOp rNotNo (tOp (rIxA K) (tOp (rIxA K) (tVar 0) (tVar 7)) (tC (.int 0))) (tC .non))) (tVar 7) [7]) (gName 4)) (tSeq (tAsg (tLc (iTup K (tVar 3)) (gName 7) (tTest (tOp rGtI (tOp (rIxA K) (tOp (rIxA K) (tVar 0) (tVar 7)) (tC (.int 1))) (tC (.int 0)))) (tVar 7) [7]) (gName 5)) (tSeq (tAsg (tLc (iRng2 (tCons (tVar 2) (tCons (tCB (rLen K) (tCons (tVar 0) (tNil))) (tNil)))) (gName 7) (tTest (tOp rIsNo (tOp (rIxA K) (tOp (rIxA K) (tVar 0) (tVar 7)) (tC (.int 0))) (tC .non))) (tVar 7) [7]) (gName 6)) (tRet (tOp (rAddA K) (tTup (tCons (tC (.str "row")) (tCons (tBM K "list" (rIdx K) (tOp (rAddA K) (tOp (rAddA K) (tVar 4) (tVar 5)) (tVar 6)) (tCons (tOp (rIxA K) (tVar 1) (tC (.int 1))) (tNil))) (tNil)))) (tSl (rSlB K) (tVar 1) (tPart (tC (.int 2))) (tNoPart)))))))
abbrev N_law_can : List Str := ["_law_cells", "_law_head", "_law_deeds_here", "_law_wish_here", "_law_many", "_law_lot", "_law_later", "_law_rest", "_law_last", "_law_left_ones"]
theorem sc_law_can : FnScope N_law_can ["_law_cells", "_law_head", "_law_deeds_here", "_law_wish_here", "_law_many", "_law_lot"] (defScope s_law_can) := ⟨rfl, rfl, rfl, by decide +kernel, rfl, by decide +kernel, by decide +kernel⟩
def t_law_can (K : PySem.W.Frag) : TS := tSeq (tAsg (tCall (sp_law_left K) [] L2.E0 (tCons (tVar 1) (tCons (tVar 2) (tCons (tVar 4) (tCons (tVar 5) (tNil)))))) (gTup K 2 (gCons (gName 6) (gCons (gName 7) (gNil))))) (tSeq (tAsg (tCall (sp_law_behind K) [] L2.E0 (tCons (tVar 6) (tCons (tVar 7) (tCons (tCall (sp_law_when_left K) [] L2.E0 (tCons (tVar 2) (tCons (tVar 3) (tCons (tVar 4) (tCons (tVar 5) (tNil)))))) (tNil))))) (gTup K 2 (gCons (gName 8) (gCons (gName 9) (gNil))))) (tRet (tCall (sp_law_easy K) [] L2.E0 (tCons (tVar 0) (tCons (tVar 8) (tCons (tVar 9) (tNil)))))))
abbrev N_let_by : List Str := ["standing", "wish"]
theorem sc_let_by : FnScope N_let_by ["standing", "wish"] (defScope s_let_by) := ⟨rfl, rfl, rfl, by decide +kernel, rfl, by decide +kernel, by decide +kernel⟩
def t_let_by (K : PySem.W.Frag) : TS := tRet (tCall (sp_easy K) [] L2.E0 (tCons (tCall (sp_behind_of K) [] L2.E0 (tCons (tVar 0) (tCons (tVar 1) (tNil)))) (tNil)))
abbrev N_wish_when_left : List Str := ["standing", "wish", "many", "lot"]
theorem sc_wish_when_left : FnScope N_wish_when_left ["standing", "wish", "many", "lot"] (defScope s_wish_when_left) := ⟨rfl, rfl, rfl, by decide +kernel, rfl, by decide +kernel, by decide +kernel⟩
def t_wish_when_left (K : PySem.W.Frag) : TS := tSeq (tIfS (tTest (tOp (rEqD K) (tOp (rIxA K) (tVar 1) (tC (.int 0))) (tC (.str "open")))) (tRet (tVar 1)) (tNext)) (tRet (tOp (rAddA K) (tOp (rAddA K) (tSl (rSlB K) (tVar 1) (tNoPart) (tPart (tC (.int 1)))) (tTup (tCons (tBM K "list" (rIdx K) (tCall (sp_left_order K) [] L2.E0 (tCons (tVar 0) (tCons (tVar 2) (tCons (tVar 3) (tNil))))) (tCons (tOp (rIxA K) (tVar 1) (tC (.int 1))) (tNil))) (tNil)))) (tSl (rSlB K) (tVar 1) (tPart (tC (.int 2))) (tNoPart))))
abbrev N_is_carrying : List Str := ["standing", "wish", "thing", "many"]
theorem sc_is_carrying : FnScope N_is_carrying ["standing", "wish", "thing"] (defScope s_is_carrying) := ⟨rfl, rfl, rfl, by decide +kernel, rfl, by decide +kernel, by decide +kernel⟩
def t_is_carrying (K : PySem.W.Frag) : TS := tSeq (tDrop (tCall (sp_check_asked K) [] L2.E0 (tCons (tVar 0) (tCons (tVar 1) (tNil))))) (tSeq (tAsg (tCall (sp_must_of K) [] L2.E0 (tCons (tVar 0) (tCons (tVar 1) (tNil)))) (gName 3)) (tSeq (tIfS (tOr (tTest (tOp rIsNo (tVar 3) (tC .non))) (tNot (tB (tCall (sp_is_lot K) [] L2.E0 (tCons (tVar 2) (tCons (tVar 3) (tNil))))))) (tRet (tC (.bl false))) (tNext)) (tRet (tCall (sp_let_by K) [] L2.E0 (tCons (tCall (sp_left_of K) [] L2.E0 (tCons (tVar 0) (tCons (tVar 3) (tCons (tVar 2) (tNil))))) (tCons (tCall (sp_wish_when_left K) [] L2.E0 (tCons (tVar 0) (tCons (tVar 1) (tCons (tVar 3) (tCons (tVar 2) (tNil)))))) (tNil)))))))
abbrev N_law_sum : List Str := ["_law_deeds_here", "_law_wish_here", "_law_many", "_law_lot", "_law_deed", "_law_total", "_law_other", "_law_need"]
theorem sc_law_sum : FnScope N_law_sum ["_law_deeds_here", "_law_wish_here", "_law_many", "_law_lot", "_law_deed"] (defScope s_law_sum) := ⟨rfl, rfl, rfl, by decide +kernel, rfl, by decide +kernel, by decide +kernel⟩
def t_law_sum (K : PySem.W.Frag) : TS := tSeq (tAsg (tOp (rAddA K) (tIf (tTest (tOp (rEqD K) (tOp (rIxA K) (tVar 1) (tC (.int 0))) (tC (.str "row")))) (tOp (rIxA K) (tVar 1) (tC (.int 2))) (tOp (rIxA K) (tVar 1) (tC (.int 1)))) (tOp (rIxA K) (tOp (rIxA K) (tVar 0) (tVar 4)) (tC (.int 1)))) (gName 5)) (tSeq (tFor (iRng1 (tCons (tCB (rLen K) (tCons (tVar 0) (tNil))) (tNil))) (gName 6) (tSeq (tAsg (tIf (tAnd (tTest (tOp (rEqD K) (tOp (rIxA K) (tVar 1) (tC (.int 0))) (tC (.str "row")))) (tTest (tOp (rEqD K) (tOp (rIxA K) (tVar 1) (tC (.int 1))) (tVar 6)))) (tOp (rIxA K) (tVar 1) (tC (.int 3))) (tOp (rIxA K) (tOp (rIxA K) (tVar 0) (tVar 6)) (tC (.int 1)))) (gName 7)) (tSeq (tIfS (tOr (tTest (tOp (rIn K false) (tVar 6) (tVar 3))) (tAnd (tTest (tOp rGeI (tVar 6) (tVar 2))) (tTest (tOp rNotNo (tOp (rIxA K) (tOp (rIxA K) (tVar 0) (tVar 6)) (tC (.int 0))) (tC .non))))) (tAsg (tOp (rAddA K) (tVar 5) (tVar 7)) (gName 5)) (tNext)) (tIfS (tAnd (tTest (tChain rLtI rLtI (tVar 4) (tVar 6) (tVar 2))) (tTest (tOp (rIn K true) (tVar 6) (tVar 3)))) (tAsg (tOp (rAddA K) (tVar 5) (tVar 7)) (gName 5)) (tNext))))) (tRet (tVar 5)))
abbrev N_law_fits : List Str := ["_law_cells", "_law_head", "_law_deeds_here", "_law_many", "_law_lot", "_law_need", "_law_firsts", "_law_deed", "_law_held", "_law_first", "_law_waits"]
theorem sc_law_fits : FnScope N_law_fits ["_law_cells", "_law_head", "_law_deeds_here", "_law_many", "_law_lot"] (defScope s_law_fits) := ⟨rfl, rfl, rfl, by decide +kernel, rfl, by decide +kernel, by decide +kernel⟩
def t_law_fits (K : PySem.W.Frag) : TS := tSeq (tAsg (tLc (iTup K (tVar 2)) (gTup K 3 (gCons (gName 9) (gCons (gName 5) (gCons (gName 10) (gNil))))) (tYes) (tVar 9) [9, 5, 10]) (gName 6)) (tSeq (tFor (iRng1 (tCons (tVar 3) (tNil))) (gName 7) (tSeq (tAsg (tOp (rIxA K) (tOp (rIxA K) (tVar 2) (tVar 7)) (tC (.int 1))) (gName 5)) (tSeq (tAsg (tLc (iList K (tVar 6)) (gName 9) (tTest (tOp rNotNo (tVar 9) (tC .non))) (tVar 9) [9]) (gName 8)) (tSeq (tIfS (tAnd (tTest (tOp rGtI (tCB (rLen K) (tCons (tVar 8) (tNil))) (tC (.int 0)))) (tTest (tOp rGtI (tOp rSubI (tOp (rAddA K) (tVar 1) (tVar 5)) (tCB (rMin K) (tCons (tVar 8) (tNil)))) (tVar 0)))) (tRet (tC (.bl false))) (tNext)) (tSeq (tAsg (tIf (tAnd (tTest (tOp (rIn K false) (tVar 7) (tVar 4))) (tTest (tOp rGtI (tVar 5) (tC (.int 0))))) (tVar 1) (tC .non)) (gSub (tVar 6) (tVar 7) rSetL)) (tAsg (tOp (rAddA K) (tVar 1) (tVar 5)) (gName 1))))))) (tRet (tC (.bl true))))
abbrev N_need_behind : List Str := ["standing", "wish", "deed"]
theorem sc_need_behind : FnScope N_need_behind ["standing", "wish", "deed"] (defScope s_need_behind) := ⟨rfl, rfl, rfl, by decide +kernel, rfl, by decide +kernel, by decide +kernel⟩
def t_need_behind (K : PySem.W.Frag) : TS := tRet (tIf (tAnd (tTest (tOp (rEqD K) (tOp (rIxA K) (tVar 1) (tC (.int 0))) (tC (.str "row")))) (tTest (tOp (rEqD K) (tOp (rIxA K) (tVar 1) (tC (.int 1))) (tVar 2)))) (tOp (rIxA K) (tVar 1) (tC (.int 3))) (tOp (rIxA K) (tOp (rIxA K) (tFld K (tVar 0) "deeds") (tVar 2)) (tC (.int 1))))
abbrev N_cells_of : List Str := ["wish"]
theorem sc_cells_of : FnScope N_cells_of ["wish"] (defScope s_cells_of) := ⟨rfl, rfl, rfl, by decide +kernel, rfl, by decide +kernel, by decide +kernel⟩
def t_cells_of (K : PySem.W.Frag) : TS := tRet (tIf (tTest (tOp (rEqD K) (tOp (rIxA K) (tVar 0) (tC (.int 0))) (tC (.str "row")))) (tOp (rIxA K) (tVar 0) (tC (.int 2))) (tOp (rIxA K) (tVar 0) (tC (.int 1))))
abbrev N_sum_of : List Str := ["standing", "wish", "many", "lot", "deed", "stay", "needs", "going", "other"]
theorem sc_sum_of : FnScope N_sum_of ["standing", "wish", "many", "lot", "deed"] (defScope s_sum_of) := ⟨rfl, rfl, rfl, by decide +kernel, rfl, by decide +kernel, by decide +kernel⟩
def t_sum_of (K : PySem.W.Frag) : TS := tSeq (tAsg (tLc (iRng2 (tCons (tVar 2) (tCons (tCB (rLen K) (tCons (tFld K (tVar 0) "deeds") (tNil))) (tNil)))) (gName 8) (tTest (tOp rNotNo (tOp (rIxA K) (tOp (rIxA K) (tFld K (tVar 0) "deeds") (tVar 8)) (tC (.int 0))) (tC .non))) (tVar 8) [8]) (gName 5)) (tSeq (tAsg (tCB (rSum K) (tCons (tLc (iList K (tOp (rAddA K) (tVar 5) (tCB (rListS K) (tCons (tVar 3) (tNil))))) (gName 8) (tYes) (tCall (sp_need_behind K) [] L2.E0 (tCons (tVar 0) (tCons (tVar 1) (tCons (tVar 8) (tNil))))) [8]) (tNil))) (gName 6)) (tSeq (tAsg (tLc (iRng2 (tCons (tOp (rAddA K) (tVar 4) (tC (.int 1))) (tCons (tVar 2) (tNil)))) (gName 8) (tTest (tOp (rIn K true) (tVar 8) (tVar 3))) (tVar 8) [8]) (gName 7)) (tRet (tOp (rAddA K) (tOp (rAddA K) (tOp (rAddA K) (tCall (sp_cells_of K) [] L2.E0 (tCons (tVar 1) (tNil))) (tVar 6)) (tOp (rIxA K) (tOp (rIxA K) (tFld K (tVar 0) "deeds") (tVar 4)) (tC (.int 1)))) (tCB (rSum K) (tCons (tLc (iList K (tVar 7)) (gName 8) (tYes) (tOp (rIxA K) (tOp (rIxA K) (tFld K (tVar 0) "deeds") (tVar 8)) (tC (.int 1))) [8]) (tNil)))))))
abbrev N_carry_sum : List Str := ["standing", "wish", "lot", "deed"]
theorem sc_carry_sum : FnScope N_carry_sum ["standing", "wish", "lot", "deed"] (defScope s_carry_sum) := ⟨rfl, rfl, rfl, by decide +kernel, rfl, by decide +kernel, by decide +kernel⟩
def t_carry_sum (K : PySem.W.Frag) : TS := tSeq (tDrop (tCall (sp_left K) [] L2.E0 (tCons (tVar 0) (tCons (tVar 1) (tCons (tVar 2) (tNil)))))) (tSeq (tIfS (tOr (tNot (tB (tCall (sp_is_number K) [] L2.E0 (tCons (tVar 3) (tCons (tCB (rLen K) (tCons (tFld K (tVar 0) "deeds") (tNil))) (tNil)))))) (tTest (tOp (rIn K true) (tVar 3) (tVar 2)))) (tNever) (tNext)) (tRet (tCall (sp_sum_of K) [] L2.E0 (tCons (tVar 0) (tCons (tVar 1) (tCons (tCall (sp_must_of K) [] L2.E0 (tCons (tVar 0) (tCons (tVar 1) (tNil)))) (tCons (tVar 2) (tCons (tVar 3) (tNil)))))))))
abbrev N_law_own_sum : List Str := ["_law_deeds_here", "_law_wish_here", "_law_many", "_law_lot", "_law_own", "_law_total", "_law_other"]
theorem sc_law_own_sum : FnScope N_law_own_sum ["_law_deeds_here", "_law_wish_here", "_law_many", "_law_lot"] (defScope s_law_own_sum) := ⟨rfl, rfl, rfl, by decide +kernel, rfl, by decide +kernel, by decide +kernel⟩
def t_law_own_sum (K : PySem.W.Frag) : TS := tSeq (tIfS (tOr (tAnd (tTest (tOp (rEqD K) (tOp (rIxA K) (tVar 1) (tC (.int 0))) (tC (.str "row")))) (tTest (tOp rNotNo (tOp (rIxA K) (tOp (rIxA K) (tVar 0) (tOp (rIxA K) (tVar 1) (tC (.int 1)))) (tC (.int 0))) (tC .non)))) (tAnd (tTest (tOp (rEqD K) (tOp (rIxA K) (tVar 1) (tC (.int 0))) (tC (.str "open")))) (tTest (tOp (rEqD K) (tOp (rIxA K) (tVar 1) (tC (.int 1))) (tC (.int 0)))))) (tRet (tC (.int 0))) (tNext)) (tSeq (tAsg (tIf (tTest (tOp (rEqD K) (tOp (rIxA K) (tVar 1) (tC (.int 0))) (tC (.str "row")))) (tOp (rIxA K) (tVar 1) (tC (.int 1))) (tC .non)) (gName 4)) (tSeq (tAsg (tIf (tTest (tOp (rEqD K) (tOp (rIxA K) (tVar 1) (tC (.int 0))) (tC (.str "row")))) (tOp (rAddA K) (tOp (rIxA K) (tVar 1) (tC (.int 2))) (tOp (rIxA K) (tVar 1) (tC (.int 3)))) (tOp (rAddA K) (tOp (rIxA K) (tVar 1) (tC (.int 1))) (tOp (rIxA K) (tVar 1) (tC (.int 2))))) (gName 5)) (tSeq (tFor (iRng1 (tCons (tCB (rLen K) (tCons (tVar 0) (tNil))) (tNil))) (gName 6) (tIfS (tAnd (tTest (tOp (rNeD K) (tVar 6) (tVar 4))) (tOr (tTest (tOp (rIn K false) (tVar 6) (tVar 3))) (tAnd (tTest (tOp rGeI (tVar 6) (tVar 2))) (tTest (tOp rNotNo (tOp (rIxA K) (tOp (rIxA K) (tVar 0) (tVar 6)) (tC (.int 0))) (tC .non)))))) (tAsg (tOp (rAddA K) (tVar 5) (tOp (rIxA K) (tOp (rIxA K) (tVar 0) (tVar 6)) (tC (.int 1)))) (gName 5)) (tNext))) (tRet (tVar 5)))))
abbrev N_law : List Str := ["_law_script", "_law_tape_here", "_law_turn", "_law_cells", "_law_head", "_law_deeds_here", "_law_wish_here", "_law_many", "_law_standing_here", "_law_lot", "_law_later", "_law_rest", "_law_made", "_law_due", "_law_flag", "_law_sums", "_law_great", "_law_deed", "_law_one"]
theorem sc_law : FnScope N_law ["_law_script"] (defScope s_law) := ⟨rfl, rfl, rfl, by decide +kernel, rfl, by decide +kernel, by decide +kernel⟩
def t_law (K : PySem.W.Frag) : TS := tSeq (tAsg (tCall (sp_law_tape K) [] L2.E0 (tCons (tVar 0) (tNil))) (gName 1)) (tSeq (tFor (iRng1 (tCons (tC (.int 2)) (tNil))) (gName 2) (tSeq (tAsg (tCall (sp_law_pressed K) [] L2.E0 (tCons (tVar 1) (tCons (tOp (rAddA K) (tC (.int 1)) (tCall (sp_law_pick K) [] L2.E0 (tCons (tVar 1) (tCons (tC (.int 7)) (tNil))))) (tCons (tCall (sp_law_any K) [] L2.E0 (tCons (tVar 1) (tCons (tLst (tCons (tC (.int 2)) (tCons (tC (.int 5)) (tCons (tC (.int 9)) (tNil))))) (tNil)))) (tNil))))) (gTup K 5 (gCons (gName 3) (gCons (gName 4) (gCons (gName 5) (gCons (gName 6) (gCons (gName 7) (gNil)))))))) (tSeq (tAsg (tMake (He.ga K "Standing") (sp_Standing_init K) [] L2.E0 (tCons (tVar 3) (tCons (tVar 4) (tCons (tVar 5) (tNil))))) (gName 8)) (tSeq (tFor (iList K (tCall (sp_law_lots K) [] L2.E0 (tCons (tIf (tTest (tOp rNotNo (tVar 7) (tC .non))) (tCB rMin2 (tCons (tVar 7) (tCons (tC (.int 5)) (tNil)))) (tC (.int 0))) (tNil)))) (gName 9) (tIfS (tTest (tOp rIsNo (tVar 7) (tC .non))) (tIfS (tTest (tOp rNotB (tCall (sp_is_carrying K) [] L2.E0 (tCons (tVar 8) (tCons (tVar 6) (tCons (tVar 9) (tNil))))) (tC (.bl false)))) (tRet (tC (.bl false))) (tNext)) (tSeq (tAsg (tCall (sp_law_left K) [] L2.E0 (tCons (tVar 4) (tCons (tVar 5) (tCons (tVar 7) (tCons (tVar 9) (tNil)))))) (gTup K 2 (gCons (gName 10) (gCons (gName 11) (gNil))))) (tSeq (tAsg (tCall (sp_left K) [] L2.E0 (tCons (tVar 8) (tCons (tVar 6) (tCons (tVar 9) (tNil))))) (gName 12)) (tSeq (tIfS (tTest (tOp (rNeD K) (tTup (tCons (tFld K (tVar 12) "cells") (tCons (tFld K (tVar 12) "head") (tCons (tFld K (tVar 12) "deeds") (tNil))))) (tTup (tCons (tVar 3) (tCons (tVar 10) (tCons (tVar 11) (tNil))))))) (tRet (tC (.bl false))) (tNext)) (tSeq (tAsg (tCall (sp_law_can K) [] L2.E0 (tCons (tVar 3) (tCons (tVar 4) (tCons (tVar 5) (tCons (tVar 6) (tCons (tVar 7) (tCons (tVar 9) (tNil)))))))) (gName 13)) (tSeq (tAsg (tCall (sp_is_carrying K) [] L2.E0 (tCons (tVar 8) (tCons (tVar 6) (tCons (tVar 9) (tNil))))) (gName 14)) (tSeq (tIfS (tOr (tNot (tB (tCall (sp_law_fits K) [] L2.E0 (tCons (tVar 3) (tCons (tVar 4) (tCons (tVar 5) (tCons (tVar 7) (tCons (tVar 9) (tNil))))))))) (tOr (tNot (tB (tCB (rIsT K) (tCons (tVar 14) (tCons (tC (.ty "bool")) (tNil)))))) (tTest (tOp (rNeD K) (tVar 14) (tVar 13))))) (tRet (tC (.bl false))) (tNext)) (tSeq (tAsg (tLc (iTup K (tVar 9)) (gName 17) (tYes) (tCall (sp_law_sum K) [] L2.E0 (tCons (tVar 5) (tCons (tVar 6) (tCons (tVar 7) (tCons (tVar 9) (tCons (tVar 17) (tNil))))))) [17]) (gName 15)) (tSeq (tIfS (tTest (tOp (rNeD K) (tLc (iTup K (tVar 9)) (gName 17) (tYes) (tCall (sp_carry_sum K) [] L2.E0 (tCons (tVar 8) (tCons (tVar 6) (tCons (tVar 9) (tCons (tVar 17) (tNil)))))) [17]) (tVar 15))) (tRet (tC (.bl false))) (tNext)) (tSeq (tAsg (tLc (iZipTL (tCons (tVar 9) (tCons (tVar 15) (tNil)))) (gTup K 2 (gCons (gName 17) (gCons (gName 18) (gNil)))) (tAnd (tTest (tOp rGtI (tOp (rIxA K) (tOp (rIxA K) (tVar 5) (tVar 17)) (tC (.int 1))) (tC (.int 0)))) (tTest (tOp rGtI (tVar 18) (tVar 3)))) (tVar 18) [17, 18]) (gName 16)) (tIfS (tTest (tOp (rNeD K) (tVar 13) (tAndV (tOp (rEqD K) (tCB (rLen K) (tCons (tVar 16) (tNil))) (tC (.int 0))) (tOp rLeI (tCall (sp_law_own_sum K) [] L2.E0 (tCons (tVar 5) (tCons (tVar 6) (tCons (tVar 7) (tCons (tVar 9) (tNil)))))) (tVar 3))))) (tRet (tC (.bl false))) (tNext))))))))))))) (tIfS (tNot (tB (tCall (sp_law_led_right K) [] L2.E0 (tCons (tVar 1) (tCons (tVar 3) (tCons (tVar 4) (tCons (tVar 5) (tNil)))))))) (tRet (tC (.bl false))) (tNext)))))) (tRet (tC (.bl true))))
end RC
end
section
set_option Elab.async false
set_option linter.all false
set_option maxRecDepth 100000
set_option maxHeartbeats 2000000
namespace RC
open PySem PySem.Spec PyProof.Rows L2
section
variable {K : PySem.W.Frag} {mg : Str → Option Value} {vs : List V} {H : Hp} {Q : VK} {E : XK}
theorem len_law_pick (h : sp_law_pick K vs H Q E) : vs.length = 2 := by
  obtain ⟨F, tp, Ps, P, ws, rfl, s, j, ha, hR, k⟩ := h
  rw [List.length_cons, ha.len]
  clear ha k
  repeat (obtain ⟨x, hR⟩ := hR)
  subst_vars
  rfl
theorem len_law_any (h : sp_law_any K vs H Q E) : vs.length = 2 := by
  obtain ⟨F, tp, Ps, P, ws, rfl, s, j, ha, hR, k⟩ := h
  rw [List.length_cons, ha.len]
  clear ha k
  repeat (obtain ⟨x, hR⟩ := hR)
  subst_vars
  rfl
theorem len_law_deeds (h : sp_law_deeds K vs H Q E) : vs.length = 3 := by
  obtain ⟨F, tp, Ps, P, ws, rfl, s, j, ha, hR, k⟩ := h
  rw [List.length_cons, ha.len]
  clear ha k
  repeat (obtain ⟨x, hR⟩ := hR)
  subst_vars
  rfl
theorem len_law_needs (h : sp_law_needs K vs H Q E) : vs.length = 2 := by
  obtain ⟨F, Ps, P, s, ha, hR, k⟩ := h
  rw [ha.len]
  clear ha k
  repeat (obtain ⟨x, hR⟩ := hR)
  subst_vars
  rfl
theorem len_law_loads (h : sp_law_loads K vs H Q E) : vs.length = 2 := by
  obtain ⟨F, Ps, P, s, ha, hR, k⟩ := h
  rw [ha.len]
  clear ha k
  repeat (obtain ⟨x, hR⟩ := hR)
  subst_vars
  rfl
theorem len_law_standing (h : sp_law_standing K vs H Q E) : vs.length = 3 := by
  obtain ⟨F, tp, Ps, P, ws, rfl, s, j, ha, hR, k⟩ := h
  rw [List.length_cons, ha.len]
  clear ha k
  repeat (obtain ⟨x, hR⟩ := hR)
  subst_vars
  rfl
theorem len_law_wish (h : sp_law_wish K vs H Q E) : vs.length = 3 := by
  obtain ⟨F, tp, Ps, P, ws, rfl, s, j, ha, hR, k⟩ := h
  rw [List.length_cons, ha.len]
  clear ha k
  repeat (obtain ⟨x, hR⟩ := hR)
  subst_vars
  rfl
theorem len_law_gone (h : sp_law_gone K vs H Q E) : vs.length = 3 := by
  obtain ⟨F, Ps, P, s, ha, hR, k⟩ := h
  rw [ha.len]
  clear ha k
  repeat (obtain ⟨x, hR⟩ := hR)
  subst_vars
  rfl
theorem len_law_behind (h : sp_law_behind K vs H Q E) : vs.length = 3 := by
  obtain ⟨F, Ps, P, s, ha, hR, k⟩ := h
  rw [ha.len]
  clear ha k
  repeat (obtain ⟨x, hR⟩ := hR)
  subst_vars
  rfl
theorem len_law_easy (h : sp_law_easy K vs H Q E) : vs.length = 3 := by
  obtain ⟨F, Ps, P, s, ha, hR, k⟩ := h
  rw [ha.len]
  clear ha k
  repeat (obtain ⟨x, hR⟩ := hR)
  subst_vars
  rfl
theorem len_law_told_later (h : sp_law_told_later K vs H Q E) : vs.length = 2 := by
  obtain ⟨F, Ps, P, s, ha, hR, k⟩ := h
  rw [ha.len]
  clear ha k
  repeat (obtain ⟨x, hR⟩ := hR)
  subst_vars
  rfl
theorem len_law_must (h : sp_law_must K vs H Q E) : vs.length = 4 := by
  obtain ⟨F, Ps, P, s, ha, hR, k⟩ := h
  rw [ha.len]
  clear ha k
  repeat (obtain ⟨x, hR⟩ := hR)
  subst_vars
  rfl
theorem len_law_pressed (h : sp_law_pressed K vs H Q E) : vs.length = 3 := by
  obtain ⟨F, tp, Ps, P, ws, rfl, s, j, ha, hR, k⟩ := h
  rw [List.length_cons, ha.len]
  clear ha k
  repeat (obtain ⟨x, hR⟩ := hR)
  subst_vars
  rfl
theorem len_is_triple (h : sp_is_triple K vs H Q E) : vs.length = 1 := by
  obtain ⟨F, Ps, P, s, ha, hR, k⟩ := h
  rw [ha.len]
  clear ha k
  repeat (obtain ⟨x, hR⟩ := hR)
  subst_vars
  rfl
theorem len_is_integer (h : sp_is_integer K vs H Q E) : vs.length = 1 := by
  obtain ⟨F, Ps, P, s, ha, hR, k⟩ := h
  rw [ha.len]
  clear ha k
  repeat (obtain ⟨x, hR⟩ := hR)
  subst_vars
  rfl
theorem len_is_within (h : sp_is_within K vs H Q E) : vs.length = 3 := by
  obtain ⟨F, Ps, P, s, ha, hR, k⟩ := h
  rw [ha.len]
  clear ha k
  repeat (obtain ⟨x, hR⟩ := hR)
  subst_vars
  rfl
theorem len_is_first_behind (h : sp_is_first_behind K vs H Q E) : vs.length = 3 := by
  obtain ⟨F, Ps, P, s, ha, hR, k⟩ := h
  rw [ha.len]
  clear ha k
  repeat (obtain ⟨x, hR⟩ := hR)
  subst_vars
  rfl
theorem len_is_number (h : sp_is_number K vs H Q E) : vs.length = 2 := by
  obtain ⟨F, Ps, P, s, ha, hR, k⟩ := h
  rw [ha.len]
  clear ha k
  repeat (obtain ⟨x, hR⟩ := hR)
  subst_vars
  rfl
theorem len_is_lot (h : sp_is_lot K vs H Q E) : vs.length = 2 := by
  obtain ⟨F, Ps, P, s, ha, hR, k⟩ := h
  rw [ha.len]
  clear ha k
  repeat (obtain ⟨x, hR⟩ := hR)
  subst_vars
  rfl
theorem len_is_waits (h : sp_is_waits K vs H Q E) : vs.length = 3 := by
  obtain ⟨F, Ps, P, s, ha, hR, k⟩ := h
  rw [ha.len]
  clear ha k
  repeat (obtain ⟨x, hR⟩ := hR)
  subst_vars
  rfl
theorem len_first_wrong (h : sp_first_wrong K vs H Q E) : vs.length = 2 := by
  obtain ⟨F, Ps, P, s, ha, hR, k⟩ := h
  rw [ha.len]
  clear ha k
  repeat (obtain ⟨x, hR⟩ := hR)
  subst_vars
  rfl
theorem len_is_too_far (h : sp_is_too_far K vs H Q E) : vs.length = 3 := by
  obtain ⟨F, Ps, P, s, ha, hR, k⟩ := h
  rw [ha.len]
  clear ha k
  repeat (obtain ⟨x, hR⟩ := hR)
  subst_vars
  rfl
theorem len_waited_for (h : sp_waited_for K vs H Q E) : vs.length = 2 := by
  obtain ⟨F, Ps, P, s, ha, hR, k⟩ := h
  rw [ha.len]
  clear ha k
  rcases hR with ⟨n, ⟨rfl, _⟩ | ⟨i, _, rfl, _⟩⟩ <;> rfl
theorem len_first_in_ring (h : sp_first_in_ring K vs H Q E) : vs.length = 1 := by
  obtain ⟨F, Ps, P, s, ha, hR, k⟩ := h
  rw [ha.len]
  clear ha k
  repeat (obtain ⟨x, hR⟩ := hR)
  subst_vars
  rfl
theorem len_law_lots (h : sp_law_lots K vs H Q E) : vs.length = 1 := by
  obtain ⟨F, Ps, P, s, ha, hR, k⟩ := h
  rw [ha.len]
  clear ha k
  repeat (obtain ⟨x, hR⟩ := hR)
  subst_vars
  rfl
theorem len_law_carried (h : sp_law_carried K vs H Q E) : vs.length = 4 := by
  obtain ⟨F, Ps, P, s, ha, hR, k⟩ := h
  rw [ha.len]
  clear ha k
  repeat (obtain ⟨x, hR⟩ := hR)
  subst_vars
  rfl
theorem len_some_wait (h : sp_some_wait K vs H Q E) : vs.length = 1 := by
  obtain ⟨F, Ps, P, s, ha, hR, k⟩ := h
  rw [ha.len]
  clear ha k
  repeat (obtain ⟨x, hR⟩ := hR)
  subst_vars
  rfl
theorem len_check_free (h : sp_check_free K vs H Q E) : vs.length = 1 := by
  obtain ⟨F, Ps, P, s, ha, hR, k⟩ := h
  rw [ha.len]
  clear ha k
  repeat (obtain ⟨x, hR⟩ := hR)
  subst_vars
  rfl
theorem len_check_deed (h : sp_check_deed K vs H Q E) : vs.length = 2 := by
  obtain ⟨F, Ps, P, s, ha, hR, k⟩ := h
  rw [ha.len]
  clear ha k
  repeat (obtain ⟨x, hR⟩ := hR)
  subst_vars
  rfl
theorem len_raw_standing (h : sp_raw_standing K vs H Q E) : vs.length = 3 := by
  obtain ⟨F, Ps, P, s, ha, hR, k⟩ := h
  rw [ha.len]
  clear ha k
  repeat (obtain ⟨x, hR⟩ := hR)
  subst_vars
  rfl
theorem len_renumbered (h : sp_renumbered K vs H Q E) : vs.length = 2 := by
  obtain ⟨F, Ps, P, s, ha, hR, k⟩ := h
  rw [ha.len]
  clear ha k
  repeat (obtain ⟨x, hR⟩ := hR)
  subst_vars
  rfl
theorem len_written_many (h : sp_written_many K vs H Q E) : vs.length = 1 := by
  obtain ⟨F, Ps, P, s, ha, hR, k⟩ := h
  rw [ha.len]
  clear ha k
  rcases hR with ⟨ds, hR, _⟩
  rcases hR with rfl | rfl <;> rfl
theorem len_carried_of (h : sp_carried_of K vs H Q E) : vs.length = 2 := by
  obtain ⟨F, Ps, P, s, ha, hR, k⟩ := h
  rw [ha.len]
  clear ha k
  repeat (obtain ⟨x, hR⟩ := hR)
  subst_vars
  rfl
theorem len_fits_with (h : sp_fits_with K vs H Q E) : vs.length = 2 := by
  obtain ⟨F, Ps, P, s, ha, hR, k⟩ := h
  rw [ha.len]
  clear ha k
  repeat (obtain ⟨x, hR⟩ := hR)
  subst_vars
  rfl
theorem len_law_told (h : sp_law_told K vs H Q E) : vs.length = 2 := by
  obtain ⟨F, Ps, P, s, ha, hR, k⟩ := h
  rw [ha.len]
  clear ha k
  repeat (obtain ⟨x, hR⟩ := hR)
  subst_vars
  rfl
theorem len_law_led_right (h : sp_law_led_right K vs H Q E) : vs.length = 4 := by
  obtain ⟨F, tp, Ps, P, ws, rfl, s, j, ha, hR, k⟩ := h
  rw [List.length_cons, ha.len]
  clear ha k
  repeat (obtain ⟨x, hR⟩ := hR)
  subst_vars
  rfl
theorem len_law_left (h : sp_law_left K vs H Q E) : vs.length = 4 := by
  obtain ⟨F, Ps, P, s, ha, hR, k⟩ := h
  rw [ha.len]
  clear ha k
  repeat (obtain ⟨x, hR⟩ := hR)
  subst_vars
  rfl
theorem len_waits_of (h : sp_waits_of K vs H Q E) : vs.length = 1 := by
  obtain ⟨F, Ps, P, s, ha, hR, k⟩ := h
  rw [ha.len]
  clear ha k
  repeat (obtain ⟨x, hR⟩ := hR)
  subst_vars
  rfl
theorem len_loads_of (h : sp_loads_of K vs H Q E) : vs.length = 1 := by
  obtain ⟨F, Ps, P, s, ha, hR, k⟩ := h
  rw [ha.len]
  clear ha k
  repeat (obtain ⟨x, hR⟩ := hR)
  subst_vars
  rfl
theorem len_too_heavy (h : sp_too_heavy K vs H Q E) : vs.length = 1 := by
  obtain ⟨F, Ps, P, s, ha, hR, k⟩ := h
  rw [ha.len]
  clear ha k
  repeat (obtain ⟨x, hR⟩ := hR)
  subst_vars
  rfl
theorem len_easy (h : sp_easy K vs H Q E) : vs.length = 1 := by
  obtain ⟨F, Ps, P, s, ha, hR, k⟩ := h
  rw [ha.len]
  clear ha k
  repeat (obtain ⟨x, hR⟩ := hR)
  subst_vars
  rfl
theorem len_check_easy (h : sp_check_easy K vs H Q E) : vs.length = 1 := by
  obtain ⟨F, Ps, P, s, ha, hR, k⟩ := h
  rw [ha.len]
  clear ha k
  repeat (obtain ⟨x, hR⟩ := hR)
  subst_vars
  rfl
theorem len_is_deed (h : sp_is_deed K vs H Q E) : vs.length = 2 := by
  obtain ⟨F, Ps, P, s, ha, hR, k⟩ := h
  rw [ha.len]
  clear ha k
  repeat (obtain ⟨x, hR⟩ := hR)
  subst_vars
  rfl
theorem len_is_row_wish (h : sp_is_row_wish K vs H Q E) : vs.length = 2 := by
  obtain ⟨F, Ps, P, s, ha, hR, k⟩ := h
  rw [ha.len]
  clear ha k
  repeat (obtain ⟨x, hR⟩ := hR)
  subst_vars
  rfl
theorem len_is_open_wish (h : sp_is_open_wish K vs H Q E) : vs.length = 2 := by
  obtain ⟨F, Ps, P, s, ha, hR, k⟩ := h
  rw [ha.len]
  clear ha k
  repeat (obtain ⟨x, hR⟩ := hR)
  subst_vars
  rfl
theorem len_is_wish (h : sp_is_wish K vs H Q E) : vs.length = 2 := by
  obtain ⟨F, Ps, P, s, ha, hR, k⟩ := h
  rw [ha.len]
  clear ha k
  repeat (obtain ⟨x, hR⟩ := hR)
  subst_vars
  rfl
theorem len_check_wish (h : sp_check_wish K vs H Q E) : vs.length = 2 := by
  obtain ⟨F, Ps, P, s, ha, hR, k⟩ := h
  rw [ha.len]
  clear ha k
  repeat (obtain ⟨x, hR⟩ := hR)
  subst_vars
  rfl
theorem len_check_asked (h : sp_check_asked K vs H Q E) : vs.length = 2 := by
  obtain ⟨F, Ps, P, s, ha, hR, k⟩ := h
  rw [ha.len]
  clear ha k
  repeat (obtain ⟨x, hR⟩ := hR)
  subst_vars
  rfl
theorem len_behind_row (h : sp_behind_row K vs H Q E) : vs.length = 4 := by
  obtain ⟨F, Ps, P, s, ha, hR, k⟩ := h
  rw [ha.len]
  clear ha k
  repeat (obtain ⟨x, hR⟩ := hR)
  subst_vars
  rfl
theorem len_behind_open (h : sp_behind_open K vs H Q E) : vs.length = 4 := by
  obtain ⟨F, Ps, P, s, ha, hR, k⟩ := h
  rw [ha.len]
  clear ha k
  repeat (obtain ⟨x, hR⟩ := hR)
  subst_vars
  rfl
theorem len_behind_of (h : sp_behind_of K vs H Q E) : vs.length = 2 := by
  obtain ⟨F, Ps, P, s, ha, hR, k⟩ := h
  rw [ha.len]
  clear ha k
  repeat (obtain ⟨x, hR⟩ := hR)
  subst_vars
  rfl
theorem len_wisher_behind (h : sp_wisher_behind K vs H Q E) : vs.length = 2 := by
  obtain ⟨F, Ps, P, s, ha, hR, k⟩ := h
  rw [ha.len]
  clear ha k
  repeat (obtain ⟨x, hR⟩ := hR)
  subst_vars
  rfl
theorem len_is_first_row (h : sp_is_first_row K vs H Q E) : vs.length = 2 := by
  obtain ⟨F, Ps, P, s, ha, hR, k⟩ := h
  rw [ha.len]
  clear ha k
  repeat (obtain ⟨x, hR⟩ := hR)
  subst_vars
  rfl
theorem len_own_sum (h : sp_own_sum K vs H Q E) : vs.length = 4 := by
  obtain ⟨F, Ps, P, s, ha, hR, k⟩ := h
  rw [ha.len]
  clear ha k
  repeat (obtain ⟨x, hR⟩ := hR)
  subst_vars
  rfl
theorem len_must_of (h : sp_must_of K vs H Q E) : vs.length = 2 := by
  obtain ⟨F, Ps, P, s, ha, hR, k⟩ := h
  rw [ha.len]
  clear ha k
  repeat (obtain ⟨x, hR⟩ := hR)
  subst_vars
  rfl
theorem len_left_order (h : sp_left_order K vs H Q E) : vs.length = 3 := by
  obtain ⟨F, Ps, P, s, ha, hR, k⟩ := h
  rw [ha.len]
  clear ha k
  repeat (obtain ⟨x, hR⟩ := hR)
  subst_vars
  rfl
theorem len_left_of (h : sp_left_of K vs H Q E) : vs.length = 3 := by
  obtain ⟨F, Ps, P, s, ha, hR, k⟩ := h
  rw [ha.len]
  clear ha k
  repeat (obtain ⟨x, hR⟩ := hR)
  subst_vars
  rfl
theorem len_left (h : sp_left K vs H Q E) : vs.length = 3 := by
  obtain ⟨F, Ps, P, s, ha, hR, k⟩ := h
  rw [ha.len]
  clear ha k
  repeat (obtain ⟨x, hR⟩ := hR)
  subst_vars
  rfl
theorem len_law_when_left (h : sp_law_when_left K vs H Q E) : vs.length = 4 := by
  obtain ⟨F, Ps, P, s, ha, hR, k⟩ := h
  rw [ha.len]
  clear ha k
  repeat (obtain ⟨x, hR⟩ := hR)
  subst_vars
  rfl
theorem len_law_can (h : sp_law_can K vs H Q E) : vs.length = 6 := by
  obtain ⟨F, Ps, P, s, ha, hR, k⟩ := h
  rw [ha.len]
  clear ha k
  repeat (obtain ⟨x, hR⟩ := hR)
  subst_vars
  rfl
theorem len_let_by (h : sp_let_by K vs H Q E) : vs.length = 2 := by
  obtain ⟨F, Ps, P, s, ha, hR, k⟩ := h
  rw [ha.len]
  clear ha k
  repeat (obtain ⟨x, hR⟩ := hR)
  subst_vars
  rfl
theorem len_wish_when_left (h : sp_wish_when_left K vs H Q E) : vs.length = 4 := by
  obtain ⟨F, Ps, P, s, ha, hR, k⟩ := h
  rw [ha.len]
  clear ha k
  repeat (obtain ⟨x, hR⟩ := hR)
  subst_vars
  rfl
theorem len_is_carrying (h : sp_is_carrying K vs H Q E) : vs.length = 3 := by
  obtain ⟨F, Ps, P, s, ha, hR, k⟩ := h
  rw [ha.len]
  clear ha k
  repeat (obtain ⟨x, hR⟩ := hR)
  subst_vars
  rfl
theorem len_law_sum (h : sp_law_sum K vs H Q E) : vs.length = 5 := by
  obtain ⟨F, Ps, P, s, ha, hR, k⟩ := h
  rw [ha.len]
  clear ha k
  repeat (obtain ⟨x, hR⟩ := hR)
  subst_vars
  rfl
theorem len_law_fits (h : sp_law_fits K vs H Q E) : vs.length = 5 := by
  obtain ⟨F, Ps, P, s, ha, hR, k⟩ := h
  rw [ha.len]
  clear ha k
  repeat (obtain ⟨x, hR⟩ := hR)
  subst_vars
  rfl
theorem len_need_behind (h : sp_need_behind K vs H Q E) : vs.length = 3 := by
  obtain ⟨F, Ps, P, s, ha, hR, k⟩ := h
  rw [ha.len]
  clear ha k
  repeat (obtain ⟨x, hR⟩ := hR)
  subst_vars
  rfl
theorem len_cells_of (h : sp_cells_of K vs H Q E) : vs.length = 1 := by
  obtain ⟨F, Ps, P, s, ha, hR, k⟩ := h
  rw [ha.len]
  clear ha k
  repeat (obtain ⟨x, hR⟩ := hR)
  subst_vars
  rfl
theorem len_sum_of (h : sp_sum_of K vs H Q E) : vs.length = 5 := by
  obtain ⟨F, Ps, P, s, ha, hR, k⟩ := h
  rw [ha.len]
  clear ha k
  repeat (obtain ⟨x, hR⟩ := hR)
  subst_vars
  rfl
theorem len_carry_sum (h : sp_carry_sum K vs H Q E) : vs.length = 4 := by
  obtain ⟨F, Ps, P, s, ha, hR, k⟩ := h
  rw [ha.len]
  clear ha k
  repeat (obtain ⟨x, hR⟩ := hR)
  subst_vars
  rfl
theorem len_law_own_sum (h : sp_law_own_sum K vs H Q E) : vs.length = 4 := by
  obtain ⟨F, Ps, P, s, ha, hR, k⟩ := h
  rw [ha.len]
  clear ha k
  repeat (obtain ⟨x, hR⟩ := hR)
  subst_vars
  rfl
end
end RC
end
section
set_option Elab.async false
set_option linter.all false
set_option maxRecDepth 100000
set_option maxHeartbeats 1000000
/-! RC, part 8: small rules, for the defs. -/
namespace RC
open PySem PySem.Spec PyProof.Rows L2
theorem eqv_int (a b : Int) : PyData.eqv (.int a) (.int b) = decide (a = b) := by
  by_cases e : a = b
  · subst e
    simp [PyData.eqv]
  · simp [PyData.eqv, e]
theorem eqv_str (a b : Str) : PyData.eqv (.str a) (.str b) = decide (a = b) := by
  by_cases e : a = b
  · subst e
    simp [PyData.eqv]
  · simp [PyData.eqv, e]
theorem dec_iff {p q : Prop} [Decidable p] [Decidable q] (h : p ↔ q) : decide p = decide q := by
  by_cases e : p
  · rw [decide_eq_true e, decide_eq_true (h.mp e)]
  · rw [decide_eq_false e, decide_eq_false fun z => e (h.mpr z)]
theorem kit_ii : kitB "int" "int" = some true := by decide +kernel
theorem kit_ib : kitB "int" "bool" = some false := by decide +kernel
theorem kit_tt : kitB "tuple" "tuple" = some true := by decide +kernel
theorem kit_ss : kitB "str" "str" = some true := by decide +kernel
theorem kit_bb : kitB "bool" "bool" = some true := by decide +kernel
/-! ### forgetting -/
theorem sub_nil : Sub [] [] := ⟨rfl, fun i P h => h⟩
theorem sub_cons {x : Option PV} {G G' : Gm} (h : Sub G G') : Sub (x :: G) (x :: G') := ⟨congrArg (· + 1) h.1, fun i P q => by
  cases i with
  | zero => exact q
  | succ i => exact h.2 i P q⟩
theorem sub_drop {x : Option PV} {G G' : Gm} (h : Sub G G') : Sub (x :: G) (none :: G') := ⟨congrArg (· + 1) h.1, fun i P q => by
  cases i with
  | zero =>
    rw [List.getElem?_cons_zero] at q
    cases q
  | succ i => exact h.2 i P q⟩
theorem sub_refl {G : Gm} : Sub G G := ⟨rfl, fun _ _ h => h⟩
/-! ### ends -/
section
variable {C : Ctx} {W W' : Cs} {G G' : Gm} {D : Ends} {t rest tb : TS} {K : PySem.W.Frag}
theorem ok_retE {te : TE} {P P' : PV} (hr : Rets C D P') (h : Ty (C.w W) G te P) (e : P = P') : Ok C W G (tRet te) D := ok_ret (h.to e) hr
theorem ok_retSE {te : TE} {P P' : PV} (hr : Rets C D P') (h : Ty (C.w W) G te P) (e : P = P') : Ok C W G (tSeq (tRet te) rest) D := ok_retS (h.to e) hr
theorem ok_passE {tt : TT} {b : Bool} {t1 : TS} (h : TyT (C.w W) G tt b) (e : b = false) (k : Ok C W G rest D) : Ok C W G (tSeq (tIfS tt t1 tNext) rest) D := ok_pass (h.is e) k
theorem ok_asgE {te : TE} {P : PV} {i : Nat} (P' : PV) (h : Ty (C.w W) G te P) (e : P = P') (k : Ok C W (G.set i (some P')) rest D) : Ok C W G (tSeq (tAsg te (gName i)) rest) D := ok_asg (h.to e) k
theorem ok_ifE {tt : TT} {b' : Bool} {t1 t2 : TS} (b : Bool) (h : TyT (C.w W) G tt b') (e : b' = b) (h1 : b = true → Ok C W G t1 D) (h2 : b = false → Ok C W G t2 D) : Ok C W G (tIfS tt t1 t2) D := ok_if (h.is e) h1 h2
theorem ok_ifSE {tt : TT} {b' : Bool} {t1 t2 : TS} (b : Bool) (h : TyT (C.w W) G tt b') (e : b' = b) (h1 : b = true → Ok C W G (tSeq t1 rest) D) (h2 : b = false → Ok C W G (tSeq t2 rest) D) : Ok C W G (tSeq (tIfS tt t1 t2) rest) D := ok_ifS (h.is e) h1 h2
theorem ok_dropE {te : TE} {P : PV} (h : Ty (C.w W) G te P) (k : Ok C W G rest D) : Ok C W G (tSeq (tDrop te) rest) D := ok_drop h k
theorem ok_tl (h : Ok C W G (tSeq t tNext) D) : Ok C W G t D := h
theorem ok_fin {p : Prop} (hp : p) (hW : W = W') (s : Sub G G') (hn : ∀ σ H, At C W' G' p σ H → D.nx σ H) : Ok C W G tNext D := fun σ F H r e => by
  subst hW
  exact hn σ H ⟨hp, F, r, e.sub s⟩
theorem ok_cont {p : Prop} (hp : p) (hW : W = W') (s : Sub G G') (hn : ∀ σ H, At C W' G' p σ H → D.ct σ H) : Ok C W G tCont D := fun σ F H r e => by
  subst hW
  exact hn σ H ⟨hp, F, r, e.sub s⟩
theorem ok_break (hn : ∀ σ F H, Run C W F H → Env G σ F → D.bk σ H) : Ok C W G tBreak D := fun σ F H r e => hn σ F H r e
theorem ok_W (hW : W = W') (h : Ok C W' G t D) : Ok C W G t D := by
  subst hW
  exact h
theorem ok_G (hG : G = G') (h : Ok C W G' t D) : Ok C W G t D := by
  subst hG
  exact h
/-- for over a range's numbers or other listed data, by their places -/
theorem ok_forL {α : Type} {wi : TI} {g : TG} (xs : List α) (enc : α → PyData) (Wi : Nat → Cs) (Gi : Nat → Gm) (φ : Nat → Prop) (hI : TyI (C.w W) G wi (xs.map enc)) (h0 : φ 0) (hW : Wi 0 = W) (hG : Sub G (Gi 0))
    (hs : ∀ L', Same C.L L' → ∀ i x, xs[i]? = some x → φ i → ∃ G', TyG g (enc x) (Gi i) G' ∧ Ok (C.up L') (Wi i) G' tb { D with nx := At (C.up L') (Wi (i + 1)) (Gi (i + 1)) (φ (i + 1)), ct := At (C.up L') (Wi (i + 1)) (Gi (i + 1)) (φ (i + 1)), bk := rest D })
    (hd : φ xs.length → Ok C (Wi xs.length) (Gi xs.length) rest D) : Ok C W G (tSeq (tFor wi g tb) rest) D :=
  ok_for Wi Gi φ hI h0 hW hG (fun L' hL i d hd' hp => by
    rw [List.getElem?_map] at hd'
    cases q : xs[i]? with
    | none =>
      rw [q] at hd'
      cases hd'
    | some x =>
      rw [q] at hd'
      have e : d = enc x := (Option.some.inj hd').symm
      subst e
      exact hs L' hL i x q hp) (by rw [List.length_map]; exact hd)
end
/-! ### places of listed data -/
theorem ixN_nat {n i : Nat} (h : i < n) : ixN n (i : Nat) = some i := by
  unfold ixN
  rw [if_pos (by omega), if_pos (by omega), Int.toNat_natCast]
theorem atI_nat {α : Type} {xs : List α} {i : Nat} {x : α} (h : xs[i]? = some x) : atI xs (i : Nat) = some x := by
  have hl := (List.getElem?_eq_some_iff.mp h).1
  unfold atI
  rw [ixN_nat hl]
  exact h
theorem atI_map_nat {α β : Type} (f : α → β) {xs : List α} {i : Nat} {x : α} (h : xs[i]? = some x) : atI (xs.map f) (i : Nat) = some (f x) := atI_nat (by rw [List.getElem?_map, h] <;> rfl)
theorem getD_of {α : Type} {xs : List α} {i : Nat} {x d : α} (h : xs[i]? = some x) : xs.getD i d = x := by
  rw [List.getD_eq_getElem?_getD, h] <;> rfl
theorem getD_lt {α : Type} {xs : List α} {i : Nat} {d : α} (h : i < xs.length) : xs[i]? = some (xs.getD i d) := by
  rw [List.getD_eq_getElem?_getD, List.getElem?_eq_getElem h] <;> rfl
theorem rgD_nat (n : Nat) : rgD 0 (n : Nat) = (List.range n).map nD := by
  unfold rgD
  have e : ((n : Int) - 0).toNat = n := by omega
  rw [e]
  apply List.map_congr_left
  intro i _
  show PyData.int (0 + (i : Nat)) = PyData.int (i : Nat)
  rw [Int.zero_add]
theorem rgD_nat2 (m n : Nat) : rgD (m : Nat) (n : Nat) = (List.range' m (n - m)).map nD := by
  unfold rgD
  have e : ((n : Int) - (m : Int)).toNat = n - m := by omega
  rw [e, List.range'_eq_map_range, List.map_map]
  apply List.map_congr_left
  intro i _
  show PyData.int ((m : Int) + (i : Nat)) = PyData.int ((m + i : Nat) : Int)
  rw [Int.natCast_add]
theorem map_nD (l : List Nat) : l.map nD = (l.map fun i => ((i : Nat) : Int)).map PyData.int := by
  rw [List.map_map] <;> rfl
theorem enD_map {α : Type} (f : α → PyData) (xs : List α) : enD (xs.map f) = (xs.zipIdx).map fun p => PyData.tuple [nD p.2, f p.1] := by
  apply List.ext_getElem?
  intro i
  cases h : xs[i]? with
  | none =>
    have h1 : xs.length ≤ i := List.getElem?_eq_none_iff.mp h
    rw [List.getElem?_eq_none (by rw [enD_len, List.length_map]; exact h1), List.getElem?_eq_none (by rw [List.length_map, List.length_zipIdx]; exact h1)]
  | some x =>
    rw [enD_get (d := f x) (by rw [List.getElem?_map, h] <;> rfl), List.getElem?_map, List.getElem?_zipIdx, h]
    simp [nD]
theorem mem_int {i : Nat} {l : List Nat} : ((i : Nat) : Int) ∈ (l.map fun i => ((i : Nat) : Int)) ↔ i ∈ l := by
  constructor
  · intro h
    obtain ⟨k, hk, e⟩ := List.mem_map.mp h
    have e2 : k = i := by omega
    subst e2
    exact hk
  · intro h
    exact List.mem_map.mpr ⟨i, h, rfl⟩
section
variable {W : Wd} {G : Gm} {ta tb te : TE} {K : PySem.W.Frag}
theorem ty_inTN {i : Nat} {l : List Nat} (ha : Ty W G ta (IV (i : Nat))) (hb : Ty W G tb (DV (.tuple (l.map nD)))) : Ty W G (tOp (rIn K false) ta tb) (BV (decide (i ∈ l))) :=
  (ty_inT (ns := l.map fun i => ((i : Nat) : Int)) ha (hb.is (by rw [map_nD]))).to (congrArg BV (dec_iff mem_int))
theorem ty_inLN {i : Nat} {l : List Nat} (ha : Ty W G ta (IV (i : Nat))) (hb : Ty W G tb (DV (.list (l.map nD)))) : Ty W G (tOp (rIn K false) ta tb) (BV (decide (i ∈ l))) :=
  (ty_inL (ns := l.map fun i => ((i : Nat) : Int)) ha (hb.is (by rw [map_nD]))).to (congrArg BV (dec_iff mem_int))
theorem ty_niTN {i : Nat} {l : List Nat} (ha : Ty W G ta (IV (i : Nat))) (hb : Ty W G tb (DV (.tuple (l.map nD)))) : Ty W G (tOp (rIn K true) ta tb) (BV (!decide (i ∈ l))) :=
  (ty_niT (ns := l.map fun i => ((i : Nat) : Int)) ha (hb.is (by rw [map_nD]))).to (congrArg (fun b => BV (!b)) (dec_iff mem_int))
theorem ty_niLN {i : Nat} {l : List Nat} (ha : Ty W G ta (IV (i : Nat))) (hb : Ty W G tb (DV (.list (l.map nD)))) : Ty W G (tOp (rIn K true) ta tb) (BV (!decide (i ∈ l))) :=
  (ty_niL (ns := l.map fun i => ((i : Nat) : Int)) ha (hb.is (by rw [map_nD]))).to (congrArg (fun b => BV (!b)) (dec_iff mem_int))
/-- == of ints, of strings -/
theorem ty_eqI {i j : Int} (ha : Ty W G ta (IV i)) (hb : Ty W G tb (IV j)) : Ty W G (tOp (rEqD K) ta tb) (BV (decide (i = j))) := (ty_eq ha hb rfl rfl).to (congrArg BV (eqv_int i j))
theorem ty_neI {i j : Int} (ha : Ty W G ta (IV i)) (hb : Ty W G tb (IV j)) : Ty W G (tOp (rNeD K) ta tb) (BV (!decide (i = j))) := (ty_ne ha hb rfl rfl).to (congrArg (fun b => BV (!b)) (eqv_int i j))
theorem ty_eqS {i j : Str} (ha : Ty W G ta (DV (.str i))) (hb : Ty W G tb (DV (.str j))) (h1 : SeqAt.shaped (.str i) = true := by decide +kernel) (h2 : SeqAt.shaped (.str j) = true := by decide +kernel) : Ty W G (tOp (rEqD K) ta tb) (BV (decide (i = j))) := (ty_eq ha hb h1 h2).to (congrArg BV (eqv_str i j))
/-- sum of numbers that a list holds -/
theorem ty_sumF {α : Type} {xs : List α} {f : α → Int} (h : Ty W G te (DV (.list (xs.map fun a => PyData.int (f a))))) : Ty W G (tCB (rSum K) (tCons te tNil)) (IV (xs.map f).sum) := ty_sum (h.is (by rw [List.map_map] <;> rfl))
theorem ty_allF {α : Type} {xs : List α} {f : α → Bool} (h : Ty W G te (DV (.list (xs.map fun a => PyData.bool (f a))))) : Ty W G (tCB (rAll K) (tCons te tNil)) (BV (xs.all f)) :=
  (ty_all (bs := xs.map f) (h.is (by rw [List.map_map] <;> rfl))).to (by rw [List.all_map] <;> rfl)
theorem ty_anyF {α : Type} {xs : List α} {f : α → Bool} (h : Ty W G te (DV (.list (xs.map fun a => PyData.bool (f a))))) : Ty W G (tCB (rAny K) (tCons te tNil)) (BV (xs.any f)) :=
  (ty_any (bs := xs.map f) (h.is (by rw [List.map_map] <;> rfl))).to (by rw [List.any_map] <;> rfl)
theorem ty_rg1 {n : Nat} (h : Ty W G te (IV (n : Nat))) (hn : n ≤ 100000) : TyI W G (iRng1 (tCons te tNil)) ((List.range n).map nD) := (ti_range1 h (by omega)).is (rgD_nat n)
theorem ty_rg2 {m n : Nat} (h : Ty W G te (IV (m : Nat))) (h2 : Ty W G tb (IV (n : Nat))) (hm : m ≤ 100000) (hn : n ≤ 100000) : TyI W G (iRng2 (tCons te (tCons tb tNil))) ((List.range' m (n - m)).map nD) := (ti_range2 h h2 (by omega)).is (rgD_nat2 m n)
theorem ti_enumTF {α : Type} {xs : List α} {f : α → PyData} (h : Ty W G te (DV (.tuple (xs.map f)))) : TyI W G (iEnT (tCons te tNil)) ((xs.zipIdx).map fun p => PyData.tuple [nD p.2, f p.1]) := (ti_enumT h).is (enD_map f xs)
theorem ti_enumLF {α : Type} {xs : List α} {f : α → PyData} (h : Ty W G te (DV (.list (xs.map f)))) : TyI W G (iEnum K (tCons te tNil)) ((xs.zipIdx).map fun p => PyData.tuple [nD p.2, f p.1]) := (ti_enumL h).is (enD_map f xs)
end
/-! ### the three parts of a deed -/
section
variable {K : PySem.W.Frag} {G : Gm} {a b c : Nat} {vs : List Nat}
theorem own2 (ha : a ∈ vs := by decide) (hb : b ∈ vs := by decide) : Own vs (gTup K 2 (gCons (gName a) (gCons (gName b) gNil))) := own_tup (owns_cons (own_name ha) mon_name (owns_cons (own_name hb) mon_name owns_nil mons_nil) (mons_cons mon_name mons_nil))
theorem mon2 : Mon (gTup K 2 (gCons (gName a) (gCons (gName b) gNil))) := mon_tup (mons_cons mon_name (mons_cons mon_name mons_nil))
theorem own3 (ha : a ∈ vs := by decide) (hb : b ∈ vs := by decide) (hc : c ∈ vs := by decide) : Own vs (gTup K 3 (gCons (gName a) (gCons (gName b) (gCons (gName c) gNil)))) :=
  own_tup (owns_cons (own_name ha) mon_name (owns_cons (own_name hb) mon_name (owns_cons (own_name hc) mon_name owns_nil mons_nil) (mons_cons mon_name mons_nil)) (mons_cons mon_name (mons_cons mon_name mons_nil)))
theorem mon3 : Mon (gTup K 3 (gCons (gName a) (gCons (gName b) (gCons (gName c) gNil)))) := mon_tup (mons_cons mon_name (mons_cons mon_name (mons_cons mon_name mons_nil)))
theorem tg2 {d e : PyData} : TyG (gTup K 2 (gCons (gName a) (gCons (gName b) gNil))) (.tuple [d, e]) G ((G.set a (some (DV d))).set b (some (DV e))) := tg_tup (tgs_cons tg_name (tgs_cons tg_name tgs_nil))
theorem tg3 {d : Dd} : TyG (gTup K 3 (gCons (gName a) (gCons (gName b) (gCons (gName c) gNil)))) (dD d) G (((G.set a (some (DV (oD d.1)))).set b (some (IV d.2))).set c (some (DV e0))) := tg_tup (tgs_cons tg_name (tgs_cons tg_name (tgs_cons tg_name tgs_nil)))
end
theorem isNo_oD (o : Option Int) : isNoD (oD o) = !o.isSome := by
  cases o <;> rfl
section
variable {W : Wd} {G : Gm} {ta tb te : TE} {K : PySem.W.Frag} {d : Dd}
/-- the parts of a deed, by their places -/
theorem ty_d0 (h : Ty W G ta (DV (dD d))) : Ty W G (tOp (rIxA K) ta (tC (.int 0))) (DV (oD d.1)) := ty_ixT (ds := [oD d.1, .int d.2, e0]) h ty_int rfl
theorem ty_d1 (h : Ty W G ta (DV (dD d))) : Ty W G (tOp (rIxA K) ta (tC (.int 1))) (IV d.2) := ty_ixT (ds := [oD d.1, .int d.2, e0]) h ty_int rfl
theorem ty_d2 (h : Ty W G ta (DV (dD d))) : Ty W G (tOp (rIxA K) ta (tC (.int 2))) (DV e0) := ty_ixT (ds := [oD d.1, .int d.2, e0]) h ty_int rfl
/-- deeds[i] -/
theorem ty_di {ds : List Dd} {i : Nat} (h : Ty W G ta (DV (dsD ds))) (hb : Ty W G tb (IV (i : Nat))) (hi : ds[i]? = some d) : Ty W G (tOp (rIxA K) ta tb) (DV (dD d)) := ty_ixT (ds := ds.map dD) h hb (atI_map_nat dD hi)
theorem ty_wrote (h : Ty W G ta (DV (oD d.1))) : Ty W G (tOp rNotNo ta (tC .non)) (BV (wrote d)) := (ty_notN h).to (by rw [isNo_oD, Bool.not_not] <;> rfl)
theorem ty_bare (h : Ty W G ta (DV (oD d.1))) : Ty W G (tOp rIsNo ta (tC .non)) (BV (!wrote d)) := (ty_isN h).to (by rw [isNo_oD] <;> rfl)
/-- i + 1, a number -/
theorem ty_succ {i : Nat} (h : Ty W G ta (IV (i : Nat))) : Ty W G (tOp (rAddA K) ta (tC (.int 1))) (IV ((i + 1 : Nat) : Int)) := (ty_add h ty_int).is (congrArg PyData.int (Int.natCast_succ i).symm)
/-- the word of a wish -/
def isOpn : Wi → Bool
  | .opn _ _ => true
  | .row _ _ _ => false
theorem ty_isOpen {w : Wi} (h : Ty W G ta (DV (wD w))) : Ty W G (tOp (rEqD K) (tOp (rIxA K) ta (tC (.int 0))) (tC (.str "open"))) (BV (isOpn w)) := by
  cases w with
  | opn a b => exact (ty_eqS (i := "open") (j := "open") (ty_ixT (ds := [.str "open", .int a, .int b, e0]) (i := 0) h ty_int rfl) ty_str).to (by rw [decide_eq_true rfl] <;> rfl)
  | row d a b => exact (ty_eqS (i := "row") (j := "open") (ty_ixT (ds := [.str "row", .int (d : Nat), .int a, .int b]) (i := 0) h ty_int rfl) ty_str).to (by rw [decide_eq_false (by decide +kernel)] <;> rfl)
theorem ty_isRow {w : Wi} (h : Ty W G ta (DV (wD w))) : Ty W G (tOp (rEqD K) (tOp (rIxA K) ta (tC (.int 0))) (tC (.str "row"))) (BV (!isOpn w)) := by
  cases w with
  | opn a b => exact (ty_eqS (i := "open") (j := "row") (ty_ixT (ds := [.str "open", .int a, .int b, e0]) (i := 0) h ty_int rfl) ty_str).to (by rw [decide_eq_false (by decide +kernel)] <;> rfl)
  | row d a b => exact (ty_eqS (i := "row") (j := "row") (ty_ixT (ds := [.str "row", .int (d : Nat), .int a, .int b]) (i := 0) h ty_int rfl) ty_str).to (by rw [decide_eq_true rfl] <;> rfl)
theorem ty_isWait {w : Wi} (h : Ty W G ta (DV (wD w))) : Ty W G (tOp (rEqD K) (tOp (rIxA K) ta (tC (.int 0))) (tC (.str "wait"))) (BV false) := by
  cases w with
  | opn a b => exact (ty_eqS (i := "open") (j := "wait") (ty_ixT (ds := [.str "open", .int a, .int b, e0]) (i := 0) h ty_int rfl) ty_str).to (by rw [decide_eq_false (by decide +kernel)] <;> rfl)
  | row d a b => exact (ty_eqS (i := "row") (j := "wait") (ty_ixT (ds := [.str "row", .int (d : Nat), .int a, .int b]) (i := 0) h ty_int rfl) ty_str).to (by rw [decide_eq_false (by decide +kernel)] <;> rfl)
theorem ty_o1 {a b : Int} (h : Ty W G ta (DV (wD (.opn a b)))) : Ty W G (tOp (rIxA K) ta (tC (.int 1))) (IV a) := ty_ixT (ds := [.str "open", .int a, .int b, e0]) (i := 1) h ty_int rfl
theorem ty_o2 {a b : Int} (h : Ty W G ta (DV (wD (.opn a b)))) : Ty W G (tOp (rIxA K) ta (tC (.int 2))) (IV b) := ty_ixT (ds := [.str "open", .int a, .int b, e0]) (i := 2) h ty_int rfl
theorem ty_o3 {a b : Int} (h : Ty W G ta (DV (wD (.opn a b)))) : Ty W G (tOp (rIxA K) ta (tC (.int 3))) (DV e0) := ty_ixT (ds := [.str "open", .int a, .int b, e0]) (i := 3) h ty_int rfl
theorem ty_r1 {d : Nat} {a b : Int} (h : Ty W G ta (DV (wD (.row d a b)))) : Ty W G (tOp (rIxA K) ta (tC (.int 1))) (IV (d : Nat)) := ty_ixT (ds := [.str "row", .int (d : Nat), .int a, .int b]) (i := 1) h ty_int rfl
theorem ty_r2 {d : Nat} {a b : Int} (h : Ty W G ta (DV (wD (.row d a b)))) : Ty W G (tOp (rIxA K) ta (tC (.int 2))) (IV a) := ty_ixT (ds := [.str "row", .int (d : Nat), .int a, .int b]) (i := 2) h ty_int rfl
theorem ty_r3 {d : Nat} {a b : Int} (h : Ty W G ta (DV (wD (.row d a b)))) : Ty W G (tOp (rIxA K) ta (tC (.int 3))) (IV b) := ty_ixT (ds := [.str "row", .int (d : Nat), .int a, .int b]) (i := 3) h ty_int rfl
/-- the lists of parts of deeds -/
theorem tn_needs {ds : List Dd} {wi : TI} {a b c : Nat} (hI : TyI W G wi (ds.map dD)) (hl : ds.length ≤ 100000)
    (hb : ∀ d : Dd, ((((wipeG G [a, b, c]).set a (some (DV (oD d.1)))).set b (some (IV d.2))).set c (some (DV e0)))[b]? = some (some (IV d.2)) := by intros; rfl) : TyN W G (tLc wi (gTup K 3 (gCons (gName a) (gCons (gName b) (gCons (gName c) gNil)))) tYes (tVar b) [a, b, c]) (ds.map fun d => PyData.int d.2) :=
  tn_lcm ds dD (fun d => PyData.int d.2) hI own3' mon3 hl fun d _ => ⟨_, tg3, ty_var (hb d)⟩
where own3' {a b c : Nat} {K : PySem.W.Frag} : Own [a, b, c] (gTup K 3 (gCons (gName a) (gCons (gName b) (gCons (gName c) gNil)))) := own3 (by simp) (by simp) (by simp)
end
/-! ### slices, by numbers -/
theorem cutD_to {α : Type} (f : α → PyData) (xs : List α) (k : Nat) : cutD (xs.map f) none (some (k : Nat)) = (xs.take k).map f := by
  unfold cutD
  rw [HT.sIx_none, HT.sIx_nat, List.drop_zero, Nat.sub_zero, List.length_map, ← List.map_take]
  congr 1
  rw [List.take_eq_take_iff]
  omega
theorem cutD_from {α : Type} (f : α → PyData) (xs : List α) (k : Nat) : cutD (xs.map f) (some (k : Nat)) none = (xs.drop k).map f := by
  unfold cutD
  rw [HT.sIx_none, HT.sIx_nat, List.length_map, ← List.map_drop, ← List.map_take]
  congr 1
  by_cases h : k ≤ xs.length
  · rw [Nat.min_eq_left h, List.take_of_length_le (by rw [List.length_drop]; omega)]
  · rw [Nat.min_eq_right (by omega), List.drop_eq_nil_of_le (by omega), List.drop_eq_nil_of_le (by omega), List.take_nil]
theorem cutD_mid {α : Type} (f : α → PyData) (xs : List α) (j k : Nat) : cutD (xs.map f) (some (j : Nat)) (some (k : Nat)) = ((xs.take k).drop j).map f := by
  unfold cutD
  rw [HT.sIx_nat, HT.sIx_nat, List.length_map, ← List.map_drop, ← List.map_take]
  congr 1
  apply List.ext_getElem?
  intro i
  simp only [List.getElem?_take, List.getElem?_drop]
  by_cases h1 : xs.length ≤ j
  · have e1 : xs[j + i]? = none := List.getElem?_eq_none (by omega)
    have e2 : xs[min j xs.length + i]? = none := List.getElem?_eq_none (by omega)
    simp [e1, e2]
  · have e3 : min j xs.length = j := Nat.min_eq_left (by omega)
    rw [e3]
    by_cases h3 : j + i < xs.length
    · by_cases h2 : j + i < k
      · rw [if_pos h2, if_pos (by omega)]
      · rw [if_neg h2, if_neg (by omega)]
    · have e1 : xs[j + i]? = none := List.getElem?_eq_none (by omega)
      simp [e1]
/-! ### data that == is asked for -/
structure Shp (k : Nat) (d : PyData) : Prop where
  l : d.canLay0 = true
  d : d.depth ≤ k
theorem Shp.ok {d : PyData} (h : Shp 20 d) : SeqAt.shaped d = true := by
  unfold SeqAt.shaped
  rw [h.l, Bool.true_and]
  exact decide_eq_true (Nat.le_trans h.d (by decide))
theorem Shp.int {k : Nat} (i : Int) : Shp k (.int i) := ⟨by simp [PyData.canLay0], by simp [PyData.depth]⟩
theorem Shp.non {k : Nat} : Shp k .none := ⟨by simp [PyData.canLay0], by simp [PyData.depth]⟩
theorem shp_all {k : Nat} : ∀ {ds : List PyData}, (∀ d ∈ ds, Shp k d) → PyData.canLayAll0 ds = true ∧ PyData.depthAll ds ≤ k
  | [], _ => ⟨by simp [PyData.canLayAll0], by simp [PyData.depthAll]⟩
  | d :: ds, h => by
    have h1 := h d List.mem_cons_self
    have h2 := shp_all fun e he => h e (List.mem_cons_of_mem _ he)
    exact ⟨by simp [PyData.canLayAll0, h1.l, h2.1], by simp only [PyData.depthAll]; exact Nat.max_le.mpr ⟨h1.d, h2.2⟩⟩
theorem Shp.tup {k : Nat} {ds : List PyData} (h : ∀ d ∈ ds, Shp k d) : Shp (k + 1) (.tuple ds) := ⟨by simp [PyData.canLay0, (shp_all h).1], by simp only [PyData.depth]; exact Nat.succ_le_succ (shp_all h).2⟩
theorem Shp.lst {k : Nat} {ds : List PyData} (h : ∀ d ∈ ds, Shp k d) : Shp (k + 1) (.list ds) := ⟨by simp [PyData.canLay0, (shp_all h).1], by simp only [PyData.depth]; exact Nat.succ_le_succ (shp_all h).2⟩
theorem Shp.le {k m : Nat} {d : PyData} (h : Shp k d) (hk : k ≤ m) : Shp m d := ⟨h.l, Nat.le_trans h.d hk⟩
theorem shp_dD (d : Dd) : Shp 2 (dD d) := Shp.tup fun e he => by
  rcases List.mem_cons.mp he with rfl | he
  · cases h : d.1 with
    | none => exact .non
    | some i => exact .int i
  · rcases List.mem_cons.mp he with rfl | he
    · exact .int _
    · rw [List.mem_singleton.mp he]
      exact Shp.tup fun _ z => nomatch z
theorem shp_dsD (ds : List Dd) : Shp 3 (dsD ds) := Shp.tup fun e he => by
  obtain ⟨d, _, rfl⟩ := List.mem_map.mp he
  exact shp_dD d
end RC

end
section
set_option Elab.async false
set_option linter.all false
set_option maxRecDepth 100000
set_option maxHeartbeats 1000000
/-! RC: what the words say, case by case. -/
namespace RC
open PySem L2
theorem insAt_len {α : Type} {k : Nat} {x : α} {l : List α} : (insAt k x l).length = l.length + 1 := by
  unfold insAt
  simp
  omega
abbrev at_ (ds : List Dd) (d : Nat) : Dd := ds.getD d (none, 0)
section
variable {h a b c n : Int} {ds : List Dd} {d i : Nat}
theorem behind_opn : behind h ds (.opn c n) = if 0 < c then (h + c, insAt (wm ds) (some h, n) ds) else (h + c, ds ++ [(none, n)]) := rfl
theorem behind_p (hc : 0 < c) : behind h ds (.opn c n) = (h + c, insAt (wm ds) (some h, n) ds) := by rw [behind_opn, if_pos hc]
theorem behind_0 (hc : ¬ 0 < c) : behind h ds (.opn c n) = (h + c, ds ++ [(none, n)]) := by rw [behind_opn, if_neg hc]
theorem behind_row : behind h ds (.row d c n) = match ds[d]? with
    | some (some f, _) => (h + c, ds.set d (some f, n))
    | _ => (h + c, insAt (wm (ds.eraseIdx d)) (some h, n) (ds.eraseIdx d)) := rfl
theorem behind_w (hd : d < ds.length) (hw : wrote (at_ ds d) = true) : behind h ds (.row d c n) = (h + c, ds.set d ((at_ ds d).1, n)) := by
  rw [behind_row, getD_lt hd]
  obtain ⟨f, k, e⟩ : ∃ f k, at_ ds d = (f, k) := ⟨_, _, rfl⟩
  unfold at_ at e hw
  rw [e] at hw ⊢
  cases f with
  | none => cases hw
  | some f =>
    show _ = (h + c, ds.set d ((at_ ds d).1, n))
    unfold at_
    rw [e]
theorem behind_b (hw : wrote (at_ ds d) = false) : behind h ds (.row d c n) = (h + c, insAt (wm (ds.eraseIdx d)) (some h, n) (ds.eraseIdx d)) := by
  rw [behind_row]
  unfold at_ at hw
  rw [List.getD_eq_getElem?_getD] at hw
  cases e : ds[d]? with
  | none => rfl
  | some p =>
    obtain ⟨f, k⟩ := p
    rw [e] at hw
    cases f with
    | none => rfl
    | some f => cases hw
theorem wisher_p (hc : 0 < c) : wisher ds (.opn c n) = wm ds := by
  show (if 0 < c then wm ds else ds.length) = _
  rw [if_pos hc]
theorem wisher_0 (hc : ¬ 0 < c) : wisher ds (.opn c n) = ds.length := by
  show (if 0 < c then wm ds else ds.length) = _
  rw [if_neg hc]
theorem wisher_row : wisher ds (.row d c n) = match ds[d]? with
    | some (some _, _) => d
    | _ => wm ds := rfl
theorem wisher_w (hd : d < ds.length) (hw : wrote (at_ ds d) = true) : wisher ds (.row d c n) = d := by
  rw [wisher_row, getD_lt hd]
  obtain ⟨f, k, e⟩ : ∃ f k, at_ ds d = (f, k) := ⟨_, _, rfl⟩
  unfold at_ at e hw
  rw [e] at hw ⊢
  cases f with
  | none => cases hw
  | some f => rfl
theorem wisher_b (hw : wrote (at_ ds d) = false) : wisher ds (.row d c n) = wm ds := by
  rw [wisher_row]
  unfold at_ at hw
  rw [List.getD_eq_getElem?_getD] at hw
  cases e : ds[d]? with
  | none => rfl
  | some p =>
    obtain ⟨f, k⟩ := p
    rw [e] at hw
    cases f with
    | none => rfl
    | some f => cases hw
theorem firstRow_opn : firstRow ds (.opn c n) = decide (0 < c) := rfl
theorem firstRow_row (hd : d < ds.length) : firstRow ds (.row d c n) = !wrote (at_ ds d) := by
  show (match ds[d]? with
    | some (some _, _) => false
    | _ => true) = _
  rw [getD_lt hd]
  unfold at_
  obtain ⟨f, k⟩ := ds.getD d (none, 0)
  cases f <;> rfl
theorem needB_row : needBehind ds (.row d c n) i = if d = i then n else (at_ ds i).2 := rfl
theorem needB_opn : needBehind ds (.opn c n) i = (at_ ds i).2 := rfl
end
theorem behind_len (h : Int) (ds : List Dd) (w : Wi) : (behind h ds w).2.length ≤ ds.length + 1 := by
  cases w with
  | opn c n =>
    by_cases hc : 0 < c
    · rw [behind_p hc]
      exact Nat.le_of_eq insAt_len
    · rw [behind_0 hc]
      simp
  | row d c n =>
    by_cases hd : d < ds.length
    · cases hw : wrote (at_ ds d) with
      | true =>
        rw [behind_w hd hw]
        simp
      | false =>
        rw [behind_b hw]
        have := List.length_eraseIdx_le ds d
        rw [insAt_len]
        omega
    · have hw : wrote (at_ ds d) = false := by
        unfold at_
        rw [List.getD_eq_getElem?_getD, List.getElem?_eq_none (by omega)] <;> rfl
      rw [behind_b hw]
      have := List.length_eraseIdx_le ds d
      rw [insAt_len]
      omega
theorem loads_len {h : Int} {ds : List Dd} : (loads h ds).length = ds.length := by
  unfold loads
  rw [List.length_mapIdx]
end RC

end
section
set_option Elab.async false
set_option linter.all false
set_option maxRecDepth 100000
set_option maxHeartbeats 1000000
/-! RC, part 9: dicts whose keys are ints. -/
namespace RC
open PySem PySem.Spec PyProof.Rows L2
/-- a dict that no more changes -/
def DKV (kvs : List (Key × V)) : PV := ⟨fun v F => ∃ a, v = .ref a ∧ F a = some (.dK kvs), fun e ⟨a, h1, h2⟩ => ⟨a, h1, e _ _ h2⟩⟩
theorem putK_len {kvs : List (Key × V)} {k : Key} {v : V} : (putK kvs k v).length ≤ kvs.length + 1 := by
  unfold putK
  split
  · rw [List.length_map]
    exact Nat.le_succ _
  · simp
theorem dc_it {J : It} {n : Nat} {Gd : Hp → Prop} {Y : Nat → Hp → V → Hp → Prop} (w : Walk J n Gd Y) {g : TG} {tt : TT} {tk tv : TE} {vs : List Nat} {σ : L2.St} {H1 : Hp} {D : Addr} {Qd : Hp → Prop} (Pv : Nat → Hp → Prop) (h0 : Pv 0 (upd H1 D (.dK []))) (hG : ∀ i H, i ≤ n → Pv i H → Gd H)
    (hs : ∀ i x H H', i < n → Pv i H → Y i H x H' → g x (wipe σ vs) H' fun σ2 H2 => wipe σ2 vs = wipe σ vs ∧ tt σ2 H2 fun b H3 =>
      if b = true then tk σ2 H3 fun y H4 => tv σ2 H4 fun z H5 => ∃ kvs k, y = kV k ∧ H5 D = some (.dK kvs) ∧ kvs.length < sizeLine ∧ Pv (i + 1) (upd H5 D (.dK (putK kvs k z))) else Pv (i + 1) H3) (hd : ∀ H, Pv n H → Qd H) :
    ∃ W : Nat → Nat → Hp → Prop, (∃ m, W 0 m (upd H1 D (.dK []))) ∧ ∀ i m H, W i m H →
      (J.stop i H ∧ Qd H) ∨ (J.go i H ∧ ∃ Nx : Hp → Prop, (∀ H', Nx H' → ∃ m', m' < m ∧ W (i + 1) m' H') ∧ ∀ x H', J.yld i H x H' → g x (wipe σ vs) H' fun σ2 H2 => wipe σ2 vs = wipe σ vs ∧ tt σ2 H2 fun b H3 =>
        if b = true then tk σ2 H3 fun y H4 => tv σ2 H4 fun z H5 => ∃ kvs k, y = kV k ∧ H5 D = some (.dK kvs) ∧ kvs.length < sizeLine ∧ Nx (upd H5 D (.dK (putK kvs k z))) else Nx H3) := by
  refine ⟨fun i m H => m = n - i ∧ i ≤ n ∧ Pv i H, ⟨n, by simp, Nat.zero_le _, h0⟩, ?_⟩
  rintro i m H ⟨rfl, hi, p⟩
  have q := hG i H hi p
  by_cases hlt : i < n
  · refine .inr ⟨w.goes i H hlt q, Pv (i + 1), fun H' p' => ⟨n - (i + 1), by omega, rfl, hlt, p'⟩, fun x H' y => hs i x H H' hlt p (w.yields i H x H' hlt q y)⟩
  · have e : i = n := by omega
    subst e
    exact .inl ⟨w.stops H q, hd H p⟩
section
variable {W : Wd} {G : Gm} {ta tb te tk tv : TE} {K : PySem.W.Frag}
/-- {k: v for ..}, the keys ints -/
theorem ty_dc {α : Type} {wi : TI} {g : TG} {vs : List Nat} (xs : List α) (enc : α → PyData) (f : α → Int) (val : α → V) (hI : TyI W G wi (xs.map enc)) (hO : Own vs g) (hm : Mon g) (hl : xs.length ≤ 100000)
    (hs : ∀ a ∈ xs, ∃ G', TyG g (enc a) (wipeG G vs) G' ∧ Ty W G' tk (IV (f a)) ∧ Ty W G' tv (XV (val a))) : Ty W G (tDc wi g tYes tk tv vs) (DKV (xs.foldl (fun acc a => putK acc (.inl (f a)) (val a)) [])) := fun σ F e H s j Q q =>
  hI σ F e H s j _ fun J F1 H1 g1 wd => by
    intro D hD
    obtain ⟨Gd, Y, w, hG, hY⟩ := wd
    have s1 := g1.sm s j
    have hFD : F1 D = none := Same.none_of s1 hD
    have hTD : ¬ W.T D := fun t => (W.there g1.j t).2 hD
    have hn : (xs.map enc).length = xs.length := List.length_map _
    rw [hn] at w
    refine dc_it w (fun i H' => ∃ F' acc, acc = (xs.take i).foldl (fun acc a => putK acc (Sum.inl (f a)) (val a)) [] ∧ H' D = some (.dK acc) ∧ Go W F1 H1 F' (del H' D) ∧ acc.length ≤ i) ⟨F1, [], rfl, upd_same, by rw [del_upd hD]; exact Go.refl s1 g1.j, Nat.le_refl _⟩
      (fun i H' _ ⟨F', acc, h0, h1, h2, _⟩ => hG H' fun a o q => ?_) (fun i x H' H'' hi ⟨F', acc, h0, h1, h2, h4⟩ hy => ?_) fun H' ⟨F', acc, h0, h1, h2, h4⟩ => ?_
    · have q2 := h2.sm s1 g1.j a o (h2.le s1 a o q)
      by_cases z : a = D
      · subst z
        rw [del_same] at q2
        cases q2
      · rwa [del_ne z] at q2
    · have s2 := h2.sm s1 g1.j
      have le2 := h2.le s1
      have sH : Same F' H' := fun a o q => by
        have q2 := s2 a o q
        by_cases z : a = D
        · subst z
          rw [del_same] at q2
          cases q2
        · rwa [del_ne z] at q2
      have hF'D : F' D = none := Same.none_of s2 del_same
      have jH : W.J F' H' := W.keep h2.j (fun _ _ h => h) (fun a ha => (W.there h2.j ha).1) fun a ha => (del_ne fun z => hTD (by rw [← z]; exact ha)).symm
      obtain ⟨F3, d, g3, hd, p3⟩ := hY W i F' H' x H'' (by rw [hn]; exact hi) le2 sH jH hy
      rw [List.getElem?_map] at hd
      cases hxi : xs[i]? with
      | none =>
        rw [hxi] at hd
        cases hd
      | some a =>
        rw [hxi] at hd
        have ed : enc a = d := Option.some.inj hd
        subst ed
        obtain ⟨G', hg, hk, hv⟩ := hs a (List.mem_of_getElem? hxi)
        have s3 := g3.sm sH jH
        have e3 : Env (wipeG G vs) (L2.wipe σ vs) F3 := ((e.wipe vs).mono (g1.le s)).mono (fun a o q => g3.le sH a o (le2 a o q))
        have hHD : H' D ≠ none := by rw [h1]; exact fun z => nomatch z
        have tk' := take_more hxi
        refine hm _ _ _ _ _ (fun σ2 H2 ⟨q2, w2⟩ => ⟨by rw [w2, ← tn_lc.wipe_wipe σ vs], q2⟩) (hO _ _ _ _ (hg _ F3 H'' x _ e3 s3 p3 fun σ' e' => ?_))
        show tk σ' H'' _
        refine hk σ' F3 e' H'' s3 g3.j _ fun y F4 H4 g4 p4 => ?_
        have s4 := g4.sm s3 g3.j
        have g34 := g3.trans jH g4
        refine hv σ' F4 (e'.mono (g4.le s3)) H4 s4 g4.j _ fun v F5 H5 g5 p5 => ?_
        have g35 := g34.trans jH g5
        have h5D : H5 D = some (.dK acc) := g35.st.kp D _ hTD h1
        have p5' : v = val a := p5
        subst p5'
        refine ⟨acc, .inl (f a), IV.v p4, h5D, szLt (by have := (List.getElem?_eq_some_iff.mp hxi).1; omega), F5, _, ?_, upd_same, ?_, Nat.le_trans putK_len (by omega)⟩
        · rw [tk', List.foldl_append, h0] <;> rfl
        · rw [del_upd2]
          exact h2.trans g1.j (g35.minus hF'D hHD hTD)
    · rw [List.take_length] at h0
      subst h0
      have s2 := h2.sm s1 g1.j
      have gn := Go.new (o := .dK (xs.foldl (fun acc a => putK acc (.inl (f a)) (val a)) [])) s2 h2.j (del_same (H := H') (D := D))
      have z := q (.ref D) _ _ ((g1.trans j h2).trans j gn) ⟨D, rfl, upd_same⟩
      rw [upd_del h1] at z
      exact z
/-- sorted(d) -/
theorem tn_sortD {kvs : List (Key × V)} {ks : List Int} (h : Ty W G te (DKV kvs)) (hk : kvs.map (·.1) = ks.map Sum.inl) (hl : ks.length < 64) (hs : ∀ ys : List Int, ys.Perm ks → ys.Pairwise (· ≤ ·) → ys = ks) : TyN W G (tCB rSortD (tCons te tNil)) (ks.map .int) := fun σ F e H s j Q q =>
  h σ F e H s j _ fun x F1 H1 g1 ⟨a, e1, h1⟩ => by
    subst e1
    refine ⟨a, kvs, ks, rfl, .inl (g1.sm s j _ _ h1), hk, hl, fun ys p hp hs2 hn => ?_⟩
    rw [hs ys hp hs2]
    exact q p _ F1 H1 g1 hn (rpAll_ints ks)
/-- x in d, x not in d -/
theorem tt_dni {kvs : List (Key × V)} {i : Int} (ha : Ty W G ta (IV i)) (hb : Ty W G tb (DKV kvs)) : Ty W G (tDNotIn ta tb) (BV (!(valV kvs (.inl i)).isSome)) := fun σ F e H s j Q q =>
  ha σ F e H s j _ fun x F1 H1 g1 p1 => hb σ F1 (e.mono (g1.le s)) H1 (g1.sm s j) g1.j _ fun y F2 H2 g2 ⟨a, e1, h1⟩ => by
    subst e1
    exact ⟨a, _, rfl, .inl ⟨kvs, .inl i, .inl (g2.sm (g1.sm s j) g1.j _ _ h1), IV.v p1, rfl⟩, q _ F2 H2 (g1.trans j g2) (.bl _)⟩
end
section
variable {C : Ctx} {W : Cs} {G : Gm} {D : Ends} {rest : TS} {te ta tb : TE} {K : PySem.W.Frag}
/-- x = {} -/
theorem ok_newD {i : Nat} (k : ∀ l, Ok C ((l, OC (.dK [])) :: W) (G.set i (some (XV (.ref l)))) rest D) : Ok C W G (tSeq (tAsg tDNewK (gName i)) rest) D := fun σ F H r e l hl => k l _ F _ (r.alloc hl rfl) (e.set i rfl)
theorem cell_o {k : Nat} {l : Addr} {o : HO} {F H : Hp} (hk : W[k]? = some (l, OC o)) (j : (C.w W).J F H) : H l = some o := by
  obtain ⟨_, _, o', h0, c0⟩ := j.2.2 _ (List.mem_of_getElem? hk)
  have e : o' = o := c0
  rw [← e]
  exact h0
/-- d[x] = y, the value flat -/
theorem ok_put {k i : Nat} {l : Addr} {kvs : List (Key × V)} {n : Int} {b : Bool} (hk : W[k]? = some (l, OC (.dK kvs))) (hi : G[i]? = some (some (XV (.ref l)))) (ha : Ty (C.w W) G ta (IV n)) (hz : kvs.length < 100000) (q : Ok C (W.set k (l, OC (.dK (putK kvs (.inl n) (.bl b))))) G rest D) :
    Ok C W G (tSeq (sDPut (tVar i) ta (tC (.bl b))) rest) D := fun σ F H r e => by
  obtain ⟨v, h1, h2⟩ := e.2 i _ hi
  have h2' : v = .ref l := h2
  subst h2'
  refine ⟨_, h1, ha σ F e H r.sm r.j _ fun x F1 H1 g p => ?_⟩
  have r1 := r.go g
  have hc := cell_o hk r1.j
  exact ⟨l, _, rfl, .inl ⟨kvs, .inl n, hc, IV.v p, szLt hz, rfl⟩, q σ F1 _ (r1.put hk rfl) (e.mono (g.le r.sm))⟩
theorem tyc_dni {k i : Nat} {l : Addr} {kvs : List (Key × V)} {n : Int} (hk : W[k]? = some (l, OC (.dK kvs))) (hi : G[i]? = some (some (XV (.ref l)))) (ha : Ty (C.w W) G ta (IV n)) : Ty (C.w W) G (tDNotIn ta (tVar i)) (BV (!(valV kvs (.inl n)).isSome)) := fun σ F e H s j Q q =>
  ha σ F e H s j _ fun x F1 H1 g p => by
    obtain ⟨v, h1, h2⟩ := e.2 i _ hi
    have h2' : v = .ref l := h2
    subst h2'
    exact ⟨_, h1, l, _, rfl, .inl ⟨kvs, .inl n, .inl (cell_o hk g.j), IV.v p, rfl⟩, q _ F1 H1 g (.bl _)⟩
/-- x.pop() -/
theorem Rets.same {P : PV} (h : Rets C D P) : Rets C D P := h
end
/-! ### listed with their numbers -/
theorem zipIdx_eq {α : Type} (d : α) (L : List α) : L.zipIdx = (List.range L.length).map fun i => (L.getD i d, i) := by
  apply List.ext_getElem?
  intro i
  rw [List.getElem?_zipIdx, List.getElem?_map]
  by_cases h : i < L.length
  · rw [List.getElem?_range h, getD_lt (d := d) h]
    simp
  · rw [List.getElem?_eq_none (by omega), List.getElem?_eq_none (by rw [List.length_range]; omega)] <;> rfl
theorem zipIdx_fil {α : Type} (d : α) (L : List α) (p : α → Bool) : ((L.zipIdx).filter fun q => p q.1).map (·.2) = (List.range L.length).filter fun i => p (L.getD i d) := by
  rw [zipIdx_eq d L, List.filter_map, List.map_map]
  rw [show (fun x : α × Nat => x.2) ∘ (fun i => (L.getD i d, i)) = id from rfl, List.map_id] <;> rfl
end RC

end
section
set_option Elab.async false
set_option linter.all false
set_option maxRecDepth 100000
set_option maxHeartbeats 1000000
/-! RC: orders of deeds. -/
namespace RC
open PySem L2
theorem pick_app {ds : List Dd} {a b : List Nat} : pick ds (a ++ b) = pick ds a ++ pick ds b := List.map_append
theorem pick_cons {ds : List Dd} {a : Nat} {b : List Nat} : pick ds (a :: b) = at_ ds a :: pick ds b := rfl
theorem pick_len {ds : List Dd} {a : List Nat} : (pick ds a).length = a.length := List.length_map _
theorem insAt_map {α β : Type} (f : α → β) (k : Nat) (x : α) (l : List α) : (insAt k x l).map f = insAt k (f x) (l.map f) := by
  unfold insAt
  simp [List.map_take, List.map_drop]
theorem pick_ins {ds : List Dd} {k x : Nat} {l : List Nat} : pick ds (insAt k x l) = insAt k (at_ ds x) (pick ds l) := insAt_map _ k x l
theorem insAt_end {α : Type} {x : α} {l : List α} : insAt l.length x l = l ++ [x] := by
  unfold insAt
  rw [List.take_length, List.drop_length, List.append_nil]
theorem pick_range {ds : List Dd} {n : Nat} (h : n ≤ ds.length) : pick ds (List.range n) = ds.take n := by
  apply List.ext_getElem?
  intro i
  unfold pick
  rw [List.getElem?_map, List.getElem?_take]
  by_cases hi : i < n
  · rw [List.getElem?_range hi, if_pos hi, getD_lt (d := (none, 0)) (by omega : i < ds.length)] <;> rfl
  · rw [List.getElem?_eq_none (by rw [List.length_range]; omega), if_neg hi] <;> rfl
theorem pick_all {ds : List Dd} : pick ds (List.range ds.length) = ds := by rw [pick_range (Nat.le_refl _), List.take_length]
theorem pick_congr {ds es : List Dd} {l : List Nat} (h : ∀ i ∈ l, at_ ds i = at_ es i) : pick ds l = pick es l := List.map_congr_left h
theorem at_app {ds : List Dd} {x : Dd} {i : Nat} (h : i < ds.length) : at_ (ds ++ [x]) i = at_ ds i := by
  unfold at_
  rw [List.getD_eq_getElem?_getD, List.getD_eq_getElem?_getD, List.getElem?_append_left h]
theorem at_new {ds : List Dd} {x : Dd} : at_ (ds ++ [x]) ds.length = x := by
  unfold at_
  rw [List.getD_eq_getElem?_getD]
  simp
theorem pick_open {ds : List Dd} {x : Dd} {k : Nat} : pick (ds ++ [x]) (insAt k ds.length (List.range ds.length)) = insAt k x ds := by
  rw [pick_ins, at_new, pick_congr (es := ds) (fun i hi => at_app (List.mem_range.mp hi)), pick_all]
theorem at_set {ds : List Dd} {d : Nat} {x : Dd} (h : d < ds.length) : at_ (ds.set d x) d = x := by
  unfold at_
  rw [List.getD_eq_getElem?_getD, List.getElem?_set_self h] <;> rfl
theorem at_set_ne {ds : List Dd} {d i : Nat} {x : Dd} (h : i ≠ d) : at_ (ds.set d x) i = at_ ds i := by
  unfold at_
  rw [List.getD_eq_getElem?_getD, List.getD_eq_getElem?_getD, List.getElem?_set_ne (Ne.symm h)]
theorem erase_filter : ∀ {l : List Nat} {d x : Nat}, l.Nodup → l[d]? = some x → l.eraseIdx d = l.filter fun i => decide (i ≠ x)
  | [], _, _, _, h => by simp at h
  | a :: l, 0, x, hn, h => by
    have e : a = x := by simpa using h
    subst e
    have hn' := List.nodup_cons.mp hn
    rw [List.eraseIdx_cons_zero, List.filter_cons, if_neg (by simp)]
    symm
    rw [List.filter_eq_self]
    intro b hb
    exact decide_eq_true fun z => hn'.1 (z ▸ hb)
  | a :: l, d + 1, x, hn, h => by
    have h' : l[d]? = some x := by simpa using h
    have hn' := List.nodup_cons.mp hn
    have ne : a ≠ x := fun z => hn'.1 (z ▸ List.mem_of_getElem? h')
    rw [List.eraseIdx_cons_succ, List.filter_cons, if_pos (decide_eq_true ne), erase_filter hn'.2 h']
theorem range_erase {n d : Nat} (h : d < n) : (List.range n).eraseIdx d = (List.range n).filter fun i => decide (i ≠ d) := erase_filter List.nodup_range (by rw [List.getElem?_range h])
theorem map_erase {α β : Type} (f : α → β) (l : List α) (d : Nat) : (l.map f).eraseIdx d = (l.eraseIdx d).map f := by
  apply List.ext_getElem?
  intro i
  rw [List.getElem?_map, List.getElem?_eraseIdx, List.getElem?_eraseIdx, List.getElem?_map, List.getElem?_map]
  split <;> rfl
theorem pick_eraseIdx {ds : List Dd} : ∀ {l : List Nat} {d : Nat}, pick ds (l.eraseIdx d) = (pick ds l).eraseIdx d := by
  intro l d
  unfold pick
  apply List.ext_getElem?
  intro i
  rw [List.getElem?_map, List.getElem?_eraseIdx, List.getElem?_eraseIdx, List.getElem?_map, List.getElem?_map]
  split <;> rfl
theorem pick_less {ds : List Dd} {d : Nat} {x : Dd} (h : d < ds.length) : pick (ds.set d x) ((List.range ds.length).eraseIdx d) = ds.eraseIdx d := by
  rw [pick_congr (es := ds) (fun i hi => ?_), pick_eraseIdx, pick_all]
  rw [range_erase h] at hi
  exact at_set_ne (of_decide_eq_true (List.mem_filter.mp hi).2)
theorem wm_erase : ∀ {ds : List Dd} {d : Nat}, d < ds.length → wm ds = wm (ds.eraseIdx d) + (if wrote (at_ ds d) then 1 else 0)
  | [], d, h => absurd h (Nat.not_lt_zero _)
  | x :: ds, 0, _ => by
    show wm (x :: ds) = wm ds + if wrote x = true then 1 else 0
    unfold wm
    rw [List.filter_cons]
    split <;> simp
  | x :: ds, d + 1, h => by
    have ih := wm_erase (ds := ds) (d := d) (by simpa using h)
    have e : at_ (x :: ds) (d + 1) = at_ ds d := rfl
    rw [e, List.eraseIdx_cons_succ]
    unfold wm at ih ⊢
    rw [List.filter_cons, List.filter_cons]
    split
    · rw [List.length_cons, List.length_cons, ih]
      omega
    · exact ih
theorem asc_ext : ∀ {l k : List Nat}, l.Pairwise (· < ·) → k.Pairwise (· < ·) → (∀ i, i ∈ l ↔ i ∈ k) → l = k
  | [], [], _, _, _ => rfl
  | [], b :: k, _, _, h => absurd ((h b).mpr List.mem_cons_self) (by simp)
  | a :: l, [], _, _, h => absurd ((h a).mp List.mem_cons_self) (by simp)
  | a :: l, b :: k, h1, h2, h => by
    have p1 := List.pairwise_cons.mp h1
    have p2 := List.pairwise_cons.mp h2
    have e : a = b := by
      rcases List.mem_cons.mp ((h a).mp List.mem_cons_self) with z | z
      · exact z
      · rcases List.mem_cons.mp ((h b).mpr List.mem_cons_self) with y | y
        · exact y.symm
        · have := p2.1 a z
          have := p1.1 b y
          omega
    subst e
    refine congrArg (a :: ·) (asc_ext p1.2 p2.2 fun i => ⟨fun hi => ?_, fun hi => ?_⟩)
    · rcases List.mem_cons.mp ((h i).mp (List.mem_cons_of_mem _ hi)) with z | z
      · have := p1.1 i hi
        omega
      · exact z
    · rcases List.mem_cons.mp ((h i).mpr (List.mem_cons_of_mem _ hi)) with z | z
      · have := p2.1 i hi
        omega
      · exact z
theorem asc_range {n : Nat} : (List.range n).Pairwise (· < ·) := by
  rw [List.pairwise_iff_getElem]
  intro i j hi hj h
  simpa using h
theorem lot_range {lot : List Nat} {m : Nat} (h : Lot lot m) : (List.range m).filter (fun i => decide (i ∈ lot)) = lot :=
  asc_ext (asc_range.filter _) h.1 fun i => by
    rw [List.mem_filter, List.mem_range, decide_eq_true_eq]
    exact ⟨fun z => z.2, fun z => ⟨h.2 i z, z⟩⟩
/-- a row that is carried: its first place and its need -/
def wF (h : Int) (ds : List Dd) (j : Nat) : Dd := (if 0 < (at_ ds j).2 then some (h + needs ds j) else none, (at_ ds j).2)
def setF (h : Int) (ds : List Dd) (i : Nat) : List Dd := (List.range ds.length).map fun j => if j < i then wF h ds j else at_ ds j
theorem setF_len {h : Int} {ds : List Dd} {i : Nat} : (setF h ds i).length = ds.length := by
  unfold setF
  rw [List.length_map, List.length_range]
theorem setF_get {h : Int} {ds : List Dd} {i j : Nat} (hj : j < ds.length) : (setF h ds i)[j]? = some (if j < i then wF h ds j else at_ ds j) := by
  unfold setF
  rw [List.getElem?_map, List.getElem?_range hj] <;> rfl
theorem setF_0 {h : Int} {ds : List Dd} : setF h ds 0 = ds := by
  apply List.ext_getElem?
  intro j
  by_cases hj : j < ds.length
  · rw [setF_get hj, if_neg (Nat.not_lt_zero _)]
    exact (getD_lt hj).symm
  · rw [List.getElem?_eq_none (by rw [setF_len]; omega), List.getElem?_eq_none (by omega)]
theorem setF_succ {h : Int} {ds : List Dd} {i : Nat} (hi : i < ds.length) : (setF h ds i).set i (wF h ds i) = setF h ds (i + 1) := by
  apply List.ext_getElem?
  intro j
  by_cases hj : j < ds.length
  · by_cases e : i = j
    · subst e
      rw [List.getElem?_set_self (by rw [setF_len]; exact hi), setF_get hi, if_pos (by omega)]
    · rw [List.getElem?_set_ne e, setF_get hj, setF_get hj]
      by_cases h2 : j < i
      · rw [if_pos h2, if_pos (by omega)]
      · rw [if_neg h2, if_neg (by omega)]
  · rw [List.getElem?_eq_none (by rw [List.length_set, setF_len]; omega), List.getElem?_eq_none (by rw [setF_len]; omega)]
theorem at_setF {h : Int} {ds : List Dd} {i j : Nat} (hj : j < ds.length) : at_ (setF h ds i) j = if j < i then wF h ds j else at_ ds j := getD_of (setF_get hj)
theorem drop_pick {ds : List Dd} {m : Nat} : ds.drop m = pick ds (List.range' m (ds.length - m)) := by
  apply List.ext_getElem?
  intro i
  unfold pick
  rw [List.getElem?_drop, List.getElem?_map]
  by_cases hi : m + i < ds.length
  · rw [List.getElem?_range' (by omega), getD_lt (d := (none, 0)) hi]
    simp
  · rw [List.getElem?_eq_none (by omega), List.getElem?_eq_none (by rw [List.length_range']; omega)] <;> rfl
theorem drop_fil {ds : List Dd} {m : Nat} {p : Dd → Bool} : (ds.drop m).filter p = pick ds ((List.range' m (ds.length - m)).filter fun i => p (at_ ds i)) := by
  rw [drop_pick]
  unfold pick
  rw [List.filter_map] <;> rfl
theorem againF_eq (lot : List Nat) : ∀ (es : List Dd) (h : Int) (i : Nat), againF h es i lot = ((List.range es.length).filter fun j => decide (i + j ∈ lot) && decide (0 < (at_ es j).2)).map fun j => (some (h + needs es j), (at_ es j).2)
  | [], h, i => rfl
  | d :: es, h, i => by
    have ih := againF_eq lot es (h + d.2) (i + 1)
    have e1 : (List.range (d :: es).length) = 0 :: (List.range es.length).map Nat.succ := by
      rw [List.length_cons, List.range_succ_eq_map]
    have tail : ((List.range es.length).map Nat.succ).filter (fun j => decide (i + j ∈ lot) && decide (0 < (at_ (d :: es) j).2)) = ((List.range es.length).filter fun j => decide (i + 1 + j ∈ lot) && decide (0 < (at_ es j).2)).map Nat.succ := by
      rw [List.filter_map]
      congr 1
      apply List.filter_congr
      intro j _
      show (decide (i + (j + 1) ∈ lot) && decide (0 < (at_ es j).2)) = _
      rw [show i + (j + 1) = i + 1 + j by omega]
    have map_tail : (((List.range es.length).filter fun j => decide (i + 1 + j ∈ lot) && decide (0 < (at_ es j).2)).map Nat.succ).map (fun j => ((some (h + needs (d :: es) j), (at_ (d :: es) j).2) : Dd)) = againF (h + d.2) es (i + 1) lot := by
      rw [ih, List.map_map]
      apply List.map_congr_left
      intro j _
      show ((some (h + needs (d :: es) (j + 1)), (at_ es j).2) : Dd) = _
      have e2 : needs (d :: es) (j + 1) = d.2 + needs es j := by
        unfold needs
        simp
      rw [e2, Int.add_assoc]
    rw [e1, List.filter_cons, tail]
    unfold againF
    have e3 : needs (d :: es) 0 = 0 := rfl
    by_cases hq : i ∈ lot ∧ 0 < d.2
    · rw [if_pos hq, if_pos (by
        show (decide (i + 0 ∈ lot) && decide (0 < d.2)) = true
        rw [Nat.add_zero, decide_eq_true hq.1, decide_eq_true hq.2] <;> rfl), List.map_cons, map_tail, e3, Int.add_zero] <;> rfl
    · rw [if_neg hq, if_neg (fun z => hq (by
        have z' : (decide (i + 0 ∈ lot) && decide (0 < d.2)) = true := z
        rw [Nat.add_zero, Bool.and_eq_true, decide_eq_true_eq, decide_eq_true_eq] at z'
        exact z')), map_tail]
theorem needs_take {ds : List Dd} {m j : Nat} (h : j ≤ m) : needs (ds.take m) j = needs ds j := by
  unfold needs
  rw [List.take_take, Nat.min_eq_left h]
theorem at_take {ds : List Dd} {m j : Nat} (h : j < m) : at_ (ds.take m) j = at_ ds j := by
  unfold at_
  rw [List.getD_eq_getElem?_getD, List.getD_eq_getElem?_getD, List.getElem?_take, if_pos h]
theorem again_pick {h : Int} {ds : List Dd} {m : Nat} {lot : List Nat} (hm : m ≤ ds.length) (hl : Lot lot m) : againF h (ds.take m) 0 lot = pick (setF h ds m) (lot.filter fun i => decide (0 < (at_ ds i).2)) := by
  rw [againF_eq, List.length_take, Nat.min_eq_left hm]
  have e : (List.range m).filter (fun j => decide (0 + j ∈ lot) && decide (0 < (at_ (ds.take m) j).2)) = lot.filter fun i => decide (0 < (at_ ds i).2) := by
    have z := lot_range hl
    have e2 : (List.range m).filter (fun j => decide (0 + j ∈ lot) && decide (0 < (at_ (ds.take m) j).2)) = ((List.range m).filter fun i => decide (i ∈ lot)).filter fun i => decide (0 < (at_ ds i).2) := by
      rw [List.filter_filter]
      apply List.filter_congr
      intro j hj
      rw [Nat.zero_add, at_take (List.mem_range.mp hj), Bool.and_comm]
    rw [e2, z]
  rw [e]
  unfold pick
  apply List.map_congr_left
  intro j hj
  have hj' := List.mem_filter.mp hj
  have hjm := hl.2 j hj'.1
  have hp := of_decide_eq_true hj'.2
  show _ = at_ (setF h ds m) j
  rw [at_setF (by omega), if_pos hjm, needs_take (by omega), at_take hjm]
  unfold wF
  rw [if_pos hp]
theorem left_pick {h : Int} {ds : List Dd} {m : Nat} {lot : List Nat} (hm : m ≤ ds.length) (hl : Lot lot m) (hn : ∀ d ∈ ds, 0 ≤ d.2) : pick (setF h ds m) (allF ds m lot) = (leftF h ds m lot).2 := by
  have hr : ∀ p : Nat → Bool, pick (setF h ds m) ((List.range' m (ds.length - m)).filter p) = pick ds ((List.range' m (ds.length - m)).filter p) := fun p => pick_congr fun i hi => by
    have z := List.mem_range'.mp (List.mem_filter.mp hi).1
    obtain ⟨k, hk, rfl⟩ := z
    rw [at_setF (by omega), if_neg (by omega)]
  unfold allF orderF leftF
  show pick (setF h ds m) (_ ++ _ ++ _ ++ _) = (ds.drop m).filter wrote ++ againF h (ds.take m) 0 lot ++ (ds.drop m).filter (fun d => !wrote d) ++ bareF ds lot
  rw [pick_app, pick_app, pick_app, hr, hr, drop_fil, drop_fil, again_pick hm hl]
  congr 1
  unfold bareF pick
  apply List.map_congr_left
  intro j hj
  have hj' := List.mem_filter.mp hj
  have hjm := hl.2 j hj'.1
  have hp := of_decide_eq_true hj'.2
  have h0 := hn _ (List.mem_of_getElem? (getD_lt (d := (none, 0)) (by omega : j < ds.length)))
  show at_ (setF h ds m) j = _
  rw [at_setF (by omega), if_pos hjm]
  unfold wF at_
  have e0 : (ds.getD j (none, 0)).2 = 0 := by omega
  rw [e0, if_neg (by omega)]
theorem needs_succ {ds : List Dd} {i : Nat} {d : Dd} (h : ds[i]? = some d) : needs ds (i + 1) = needs ds i + d.2 := by
  unfold needs
  rw [take_more h, List.map_append, List.sum_append]
  simp
theorem loads_get {hd : Int} {ds : List Dd} {i : Nat} {d : Dd} (h : ds[i]? = some d) : (loads hd ds)[i]? = some (load hd ds i d) := by
  unfold loads
  rw [List.getElem?_mapIdx, h] <;> rfl
theorem idx_first {d : Nat} : ∀ {l : List Nat} {k y : Nat}, k < l.idxOf d → l[k]? = some y → y ≠ d
  | [], k, y, _, h => by simp at h
  | a :: l, k, y, hk, h => by
    intro e
    subst e
    rw [List.idxOf_cons] at hk
    by_cases q : a = y
    · subst q
      simp at hk
    · have q' : (a == y) = false := by simpa using q
      rw [q'] at hk
      cases k with
      | zero => exact q (by simpa using h)
      | succ k => exact idx_first (d := y) (l := l) (k := k) (y := y) (by simpa using hk) (by simpa using h) rfl
theorem first_spec (p : Nat → Bool) : ∀ (m n : Nat), m ≤ firstFrom p m n ∧ firstFrom p m n ≤ m + n ∧ (∀ j, m ≤ j → j < firstFrom p m n → p j = false) ∧ (firstFrom p m n < m + n → p (firstFrom p m n) = true)
  | m, 0 => ⟨Nat.le_refl _, Nat.le_refl _, fun j h1 h2 => by
      have h2' : j < m := h2
      omega, fun h => by
      have h' : m < m + 0 := h
      omega⟩
  | m, n + 1 => by
    have ih := first_spec p (m + 1) n
    unfold firstFrom
    by_cases hp : p m = true
    · rw [if_pos hp]
      exact ⟨Nat.le_refl _, by omega, fun j h1 h2 => by omega, fun _ => hp⟩
    · rw [if_neg hp]
      refine ⟨by omega, by omega, fun j h1 h2 => ?_, fun h => ih.2.2.2 (by omega)⟩
      by_cases e : j = m
      · subst e
        simpa using hp
      · exact ih.2.2.1 j (by omega) h2
theorem idx_app {l k : List Nat} {d : Nat} (h : d ∈ l) : (l ++ k).idxOf d = l.idxOf d := by
  rw [List.idxOf_append, if_pos h]
theorem mem_order {ds : List Dd} {m d : Nat} {lot : List Nat} (h1 : m ≤ d) (h2 : d < ds.length) : d ∈ orderF ds m lot := by
  have hr : d ∈ List.range' m (ds.length - m) := List.mem_range'.mpr ⟨d - m, by omega, by omega⟩
  unfold orderF
  rw [List.mem_append, List.mem_append]
  cases q : wrote (ds.getD d (none, 0)) with
  | true => exact .inl (.inl (List.mem_filter.mpr ⟨hr, q⟩))
  | false => exact .inr (List.mem_filter.mpr ⟨hr, by rw [q] <;> rfl⟩)
end RC

end
section
set_option Elab.async false
set_option linter.all false
set_option maxRecDepth 100000
set_option maxHeartbeats 1000000
/-! RC: those without rows stand behind. -/
namespace RC
open PySem L2
theorem nl_of {A B : List Dd} (hA : ∀ a ∈ A, wrote a = true) (hB : ∀ b ∈ B, wrote b = false) : NL (A ++ B) := by
  refine ⟨A.length, by simp, fun i d h => ?_⟩
  by_cases hi : i < A.length
  · rw [List.getElem?_append_left hi] at h
    exact ⟨fun _ => hi, fun _ => hA d (List.mem_of_getElem? h)⟩
  · rw [List.getElem?_append_right (by omega)] at h
    have hb := hB d (List.mem_of_getElem? h)
    exact ⟨fun z => absurd (z.symm.trans hb) (by simp), fun z => absurd z hi⟩
theorem nl_split {ds : List Dd} (h : NL ds) : ∃ A B, ds = A ++ B ∧ (∀ a ∈ A, wrote a = true) ∧ (∀ b ∈ B, wrote b = false) := by
  obtain ⟨k, hk, hn⟩ := h
  refine ⟨ds.take k, ds.drop k, (List.take_append_drop k ds).symm, fun a ha => ?_, fun b hb => ?_⟩
  · obtain ⟨i, hi⟩ := List.getElem?_of_mem ha
    rw [List.getElem?_take] at hi
    by_cases q : i < k
    · rw [if_pos q] at hi
      exact (hn i a hi).mpr q
    · rw [if_neg q] at hi
      cases hi
  · obtain ⟨i, hi⟩ := List.getElem?_of_mem hb
    rw [List.getElem?_drop] at hi
    cases q : wrote b with
    | false => rfl
    | true =>
      have := (hn _ b hi).mp q
      omega
theorem fil_all {A : List Dd} (h : ∀ a ∈ A, wrote a = true) : A.filter wrote = A := List.filter_eq_self.mpr h
theorem fil_no {B : List Dd} (h : ∀ b ∈ B, wrote b = false) : B.filter wrote = [] := List.filter_eq_nil_iff.mpr fun b hb z => by
  rw [h b hb] at z
  cases z
theorem wm_split {A B : List Dd} (hA : ∀ a ∈ A, wrote a = true) (hB : ∀ b ∈ B, wrote b = false) : wm (A ++ B) = A.length := by
  unfold wm
  rw [List.filter_append, fil_all hA, fil_no hB, List.append_nil]
theorem ins_split {A B : List Dd} {x : Dd} (hA : ∀ a ∈ A, wrote a = true) (hB : ∀ b ∈ B, wrote b = false) : insAt (wm (A ++ B)) x (A ++ B) = A ++ (x :: B) := by
  rw [wm_split hA hB]
  unfold insAt
  rw [List.take_left, List.drop_left]
  simp
theorem nl_ins {ds : List Dd} {x : Dd} (h : NL ds) (hx : wrote x = true) : NL (insAt (wm ds) x ds) := by
  obtain ⟨A, B, rfl, hA, hB⟩ := nl_split h
  rw [ins_split hA hB, show A ++ x :: B = (A ++ [x]) ++ B by simp]
  exact nl_of (fun a ha => by
    rcases List.mem_append.mp ha with z | z
    · exact hA a z
    · rw [List.mem_singleton.mp z]
      exact hx) hB
theorem nl_snoc {ds : List Dd} {x : Dd} (h : NL ds) (hx : wrote x = false) : NL (ds ++ [x]) := by
  obtain ⟨A, B, rfl, hA, hB⟩ := nl_split h
  rw [List.append_assoc]
  exact nl_of hA fun b hb => by
    rcases List.mem_append.mp hb with z | z
    · exact hB b z
    · rw [List.mem_singleton.mp z]
      exact hx
theorem nl_erase {ds : List Dd} {d : Nat} (h : NL ds) : NL (ds.eraseIdx d) := by
  obtain ⟨A, B, rfl, hA, hB⟩ := nl_split h
  by_cases q : d < A.length
  · rw [List.eraseIdx_append_of_lt_length q]
    exact nl_of (fun a ha => hA a (List.mem_of_mem_eraseIdx ha)) hB
  · rw [List.eraseIdx_append_of_length_le (by omega)]
    exact nl_of hA fun b hb => hB b (List.mem_of_mem_eraseIdx hb)
theorem nl_set {ds : List Dd} {d : Nat} {x : Dd} (h : NL ds) (hx : wrote x = wrote (at_ ds d)) : NL (ds.set d x) := by
  obtain ⟨k, hk, hn⟩ := h
  refine ⟨k, by rw [List.length_set]; exact hk, fun i y hy => ?_⟩
  by_cases e : d = i
  · subst e
    have hl : d < ds.length := by
      have := (List.getElem?_eq_some_iff.mp hy).1
      rwa [List.length_set] at this
    rw [List.getElem?_set_self hl] at hy
    have ey := Option.some.inj hy
    subst ey
    rw [hx]
    exact hn d _ (getD_lt hl)
  · rw [List.getElem?_set_ne e] at hy
    exact hn i y hy
theorem nl_behind {h : Int} {ds : List Dd} {w : Wi} (hn : NL ds) (hw : WiIn ds w) : NL (behind h ds w).2 := by
  cases w with
  | opn c n =>
    by_cases hc : 0 < c
    · rw [behind_p hc]
      exact nl_ins hn rfl
    · rw [behind_0 hc]
      exact nl_snoc hn rfl
  | row d c n =>
    cases q : wrote (at_ ds d) with
    | true =>
      rw [behind_w hw q]
      exact nl_set hn rfl
    | false =>
      rw [behind_b q]
      exact nl_ins (nl_erase hn) rfl
theorem again_wrote {lot : List Nat} : ∀ {es : List Dd} {h : Int} {i : Nat}, ∀ a ∈ againF h es i lot, wrote a = true
  | [], _, _, a, ha => nomatch ha
  | d :: es, h, i, a, ha => by
    unfold againF at ha
    split at ha
    · rcases List.mem_cons.mp ha with z | z
      · rw [z] <;> rfl
      · exact again_wrote a z
    · exact again_wrote a ha
theorem nl_left {h : Int} {ds : List Dd} {m : Nat} {lot : List Nat} : NL (leftF h ds m lot).2 := by
  show NL ((ds.drop m).filter wrote ++ againF h (ds.take m) 0 lot ++ (ds.drop m).filter (fun d => !wrote d) ++ bareF ds lot)
  rw [List.append_assoc]
  refine nl_of (fun a ha => ?_) fun b hb => ?_
  · rcases List.mem_append.mp ha with z | z
    · exact (List.mem_filter.mp z).2
    · exact again_wrote a z
  · rcases List.mem_append.mp hb with z | z
    · simpa using (List.mem_filter.mp z).2
    · unfold bareF at z
      obtain ⟨_, _, rfl⟩ := List.mem_map.mp z
      rfl
theorem lot_len {lot : List Nat} {m : Nat} (h : Lot lot m) : lot.length ≤ m := by
  have hll := List.length_filter_le (fun i => decide (i ∈ lot)) (List.range m)
  rwa [lot_range h, List.length_range] at hll
theorem fil_two {α : Type} (p : α → Bool) : ∀ l : List α, (l.filter p).length + (l.filter fun x => !p x).length = l.length
  | [] => rfl
  | a :: l => by
    have ih := fil_two p l
    rw [List.filter_cons, List.filter_cons]
    cases p a <;> simp <;> omega
theorem left_len0 {h : Int} {ds : List Dd} {m : Nat} {lot : List Nat} (hm : m ≤ ds.length) (hl : Lot lot m) : (leftF h ds m lot).2.length = (ds.length - m) + lot.length := by
  show ((ds.drop m).filter wrote ++ againF h (ds.take m) 0 lot ++ (ds.drop m).filter (fun d => !wrote d) ++ bareF ds lot).length = _
  have h1 := fil_two wrote (ds.drop m)
  rw [List.length_drop] at h1
  have h2 := fil_two (fun i => decide (0 < (at_ ds i).2)) lot
  have h3 : (lot.filter fun x => !decide (0 < (at_ ds x).2)) = lot.filter fun i => decide ((ds.getD i (none, 0)).2 ≤ 0) := List.filter_congr fun i _ => by
    unfold at_
    by_cases q : 0 < (ds.getD i (none, 0)).2
    · rw [decide_eq_true q, decide_eq_false (by omega)] <;> rfl
    · rw [decide_eq_false q, decide_eq_true (by omega)] <;> rfl
  rw [h3] at h2
  rw [again_pick hm hl, List.length_append, List.length_append, List.length_append, pick_len]
  unfold bareF
  rw [List.length_map]
  omega
theorem leftF_len (h : Int) {ds : List Dd} {m : Nat} {lot : List Nat} (hm : m ≤ ds.length) (hl : Lot lot m) : (leftF h ds m lot).2.length ≤ ds.length := by
  have := lot_len hl
  rw [left_len0 hm hl]
  omega
theorem order_len {ds : List Dd} {m : Nat} {lot : List Nat} : (orderF ds m lot).length = (ds.length - m) + (lot.filter fun i => decide (0 < (at_ ds i).2)).length := by
  unfold orderF
  have h1 := fil_two (fun i => wrote (ds.getD i (none, 0))) (List.range' m (ds.length - m))
  rw [List.length_range'] at h1
  rw [List.length_append, List.length_append]
  show _ = _ + (lot.filter fun i => decide (0 < (ds.getD i (none, 0)).2)).length
  omega
theorem whenLeft_in {h : Int} {ds : List Dd} {m : Nat} {lot : List Nat} {w : Wi} (hm : m ≤ ds.length) (hl : Lot lot m) (hw : WiOk ds w) (hd : ∀ d a b, w = .row d a b → m ≤ d) : WiIn (leftF h ds m lot).2 (whenLeft ds m lot w) := by
  cases w with
  | opn a b => trivial
  | row d a b =>
    show (orderF ds m lot).idxOf d < _
    have hmo := mem_order (ds := ds) (m := m) (lot := lot) (hd d a b rfl) hw.1
    have h1 := List.idxOf_lt_length_of_mem hmo
    rw [order_len] at h1
    have h2 := List.length_filter_le (fun i => decide (0 < (at_ ds i).2)) lot
    rw [left_len0 hm hl]
    omega
theorem NL_behind_left {h : Int} {ds : List Dd} {m : Nat} {lot : List Nat} {w : Wi} (hm : m ≤ ds.length) (hl : Lot lot m) (hn : NL ds) (hw : WiOk ds w) (hd : ∀ d a b, w = .row d a b → m ≤ d) : NL (behind (leftF h ds m lot).1 (leftF h ds m lot).2 (whenLeft ds m lot w)).2 := nl_behind nl_left (whenLeft_in hm hl hw hd)
end RC

end
section
set_option Elab.async false
set_option linter.all false
set_option maxRecDepth 100000
set_option maxHeartbeats 1000000
/-! RC: pieces and sums. -/
namespace RC
open PySem L2
theorem ins_pieces {α β : Type} (f : α → β) (k : Nat) (x : α) (l : List α) : (l.take k).map f ++ [f x] ++ (l.drop k).map f = (insAt k x l).map f := by
  unfold insAt
  simp
theorem set_pieces {α β : Type} (f : α → β) {d : Nat} (x : α) {l : List α} (h : d < l.length) : (l.take d).map f ++ [f x] ++ (l.drop (d + 1)).map f = (l.set d x).map f := by
  rw [List.set_eq_take_append_cons_drop, if_pos h]
  simp
theorem erase_pieces {α β : Type} (f : α → β) (d : Nat) (l : List α) : (l.take d).map f ++ (l.drop (d + 1)).map f = (l.eraseIdx d).map f := by
  rw [List.eraseIdx_eq_take_drop_succ, List.map_append]
theorem min_ex : ∀ {ns : List Int}, ns ≠ [] → ∃ m ∈ ns, ∀ y ∈ ns, m ≤ y
  | [], h => absurd rfl h
  | [a], _ => ⟨a, List.mem_cons_self, fun y hy => by
    rw [List.mem_singleton.mp hy]
    exact Int.le_refl _⟩
  | a :: b :: l, _ => by
    obtain ⟨m, hm, hb⟩ := min_ex (ns := b :: l) (by simp)
    by_cases q : a ≤ m
    · exact ⟨a, List.mem_cons_self, fun y hy => by
        rcases List.mem_cons.mp hy with z | z
        · rw [z]
          exact Int.le_refl _
        · exact Int.le_trans q (hb y z)⟩
    · exact ⟨m, List.mem_cons_of_mem _ hm, fun y hy => by
        rcases List.mem_cons.mp hy with z | z
        · rw [z]
          omega
        · exact hb y z⟩
theorem max_ex {ns : List Int} (h : ns ≠ []) : ∃ m ∈ ns, ∀ y ∈ ns, y ≤ m := by
  obtain ⟨m, hm, hb⟩ := min_ex (ns := ns.map fun x => -x) (by simpa using h)
  obtain ⟨x, hx, rfl⟩ := List.mem_map.mp hm
  exact ⟨x, hx, fun y hy => by
    have := hb (-y) (List.mem_map.mpr ⟨y, hy, rfl⟩)
    omega⟩
theorem mem_insAt {α : Type} {k : Nat} {x y : α} {l : List α} (h : y ∈ insAt k x l) : y ∈ l ∨ y = x := by
  unfold insAt at h
  rcases List.mem_append.mp h with h | h
  · rcases List.mem_append.mp h with h | h
    · exact .inl (List.mem_of_mem_take h)
    · exact .inr (List.mem_singleton.mp h)
  · exact .inl (List.mem_of_mem_drop h)
theorem mem_behind {h : Int} {ds : List Dd} {w : Wi} {x : Dd} (hx : x ∈ (behind h ds w).2) : x ∈ ds ∨ x.2 = needOf w := by
  cases w with
  | opn c n =>
    by_cases hc : 0 < c
    · rw [behind_p hc] at hx
      rcases mem_insAt hx with z | z
      · exact .inl z
      · rw [z]
        exact .inr rfl
    · rw [behind_0 hc] at hx
      rcases List.mem_append.mp hx with z | z
      · exact .inl z
      · rw [List.mem_singleton.mp z]
        exact .inr rfl
  | row d c n =>
    cases q : wrote (at_ ds d) with
    | true =>
      by_cases hd : d < ds.length
      · rw [behind_w hd q] at hx
        rcases List.mem_or_eq_of_mem_set hx with z | z
        · exact .inl z
        · rw [z]
          exact .inr rfl
      · unfold at_ at q
        rw [List.getD_eq_getElem?_getD, List.getElem?_eq_none (by omega)] at q
        cases q
    | false =>
      rw [behind_b q] at hx
      rcases mem_insAt hx with z | z
      · exact .inl (List.mem_of_mem_eraseIdx z)
      · rw [z]
        exact .inr rfl
theorem needs_nonneg {ds : List Dd} (h : ∀ d ∈ ds, 0 ≤ d.2) (m : Nat) : 0 ≤ needs ds m := by
  unfold needs
  have key : ∀ l : List Dd, (∀ d ∈ l, 0 ≤ d.2) → 0 ≤ (l.map (·.2)).sum := fun l => by
    induction l with
    | nil => exact fun _ => Int.le_refl _
    | cons a l ih =>
      intro hl
      have h1 := ih fun d hd => hl d (List.mem_cons_of_mem _ hd)
      have h2 := hl a List.mem_cons_self
      rw [List.map_cons, List.sum_cons]
      omega
  exact key _ fun d hd => h d (List.mem_of_mem_take hd)
theorem easyB_iff {c h : Int} {ds : List Dd} : easyB c h ds = true ↔ ∀ i d, ds[i]? = some d → load h ds i d ≤ c := by
  unfold easyB
  rw [List.all_eq_true]
  constructor
  · intro hx i d hd
    exact of_decide_eq_true (hx _ (List.mem_of_getElem? (loads_get hd)))
  · intro hx l hl
    obtain ⟨i, hi⟩ := List.getElem?_of_mem hl
    unfold loads at hi
    rw [List.getElem?_mapIdx] at hi
    cases q : ds[i]? with
    | none =>
      rw [q] at hi
      cases hi
    | some d =>
      rw [q] at hi
      have e : load h ds i d = l := Option.some.inj hi
      rw [← e]
      exact decide_eq_true (hx i d q)
theorem load_w {h f n : Int} {ds : List Dd} {i : Nat} : load h ds i (some f, n) = h - f + needs ds (i + 1) := rfl
theorem load_b {h n : Int} {ds : List Dd} {i : Nat} : load h ds i (none, n) = n := rfl
/-- sums -/
theorem sum_fil {α : Type} (p : α → Bool) (f : α → Int) : ∀ l : List α, ((l.filter p).map f).sum = (l.map fun x => if p x then f x else 0).sum
  | [] => rfl
  | a :: l => by
    rw [List.filter_cons, List.map_cons, List.sum_cons, ← sum_fil p f l]
    cases q : p a with
    | true => simp
    | false => simp
theorem sum_two {α : Type} (f g : α → Int) : ∀ l : List α, (l.map fun x => f x + g x).sum = (l.map f).sum + (l.map g).sum
  | [] => rfl
  | a :: l => by
    rw [List.map_cons, List.sum_cons, List.map_cons, List.sum_cons, List.map_cons, List.sum_cons, sum_two f g l]
    omega
theorem sum_snoc {f : Nat → Int} {i : Nat} : ((List.range (i + 1)).map f).sum = ((List.range i).map f).sum + f i := by
  rw [List.range_succ, List.map_append, List.sum_append]
  simp
theorem asc_range' {m n : Nat} : (List.range' m n).Pairwise (· < ·) := by
  rw [List.pairwise_iff_getElem]
  intro i j hi hj h
  simp
  omega
theorem mem_rg {m n i : Nat} : i ∈ List.range' m n ↔ m ≤ i ∧ i < m + n := by
  rw [List.mem_range'_1]
theorem stay_eq {ds : List Dd} {m : Nat} : (List.range' m (ds.length - m)).filter (fun i => wrote (at_ ds i)) = (List.range ds.length).filter fun i => decide (m ≤ i) && wrote (at_ ds i) :=
  asc_ext (asc_range'.filter _) (asc_range.filter _) fun i => by
    rw [List.mem_filter, List.mem_filter, mem_rg, List.mem_range, Bool.and_eq_true, decide_eq_true_eq]
    constructor
    · rintro ⟨⟨h1, h2⟩, h3⟩
      exact ⟨by omega, h1, h3⟩
    · rintro ⟨h1, h2, h3⟩
      exact ⟨⟨h2, by omega⟩, h3⟩
theorem going_eq {lot : List Nat} {n m d : Nat} (hm : m ≤ n) : (List.range' (d + 1) (m - (d + 1))).filter (fun i => decide (i ∉ lot)) = (List.range n).filter fun i => decide (d < i) && decide (i < m) && decide (i ∉ lot) :=
  asc_ext (asc_range'.filter _) (asc_range.filter _) fun i => by
    rw [List.mem_filter, List.mem_filter, mem_rg, List.mem_range, Bool.and_eq_true, Bool.and_eq_true, decide_eq_true_eq, decide_eq_true_eq, decide_eq_true_eq]
    constructor
    · rintro ⟨⟨h1, h2⟩, h3⟩
      exact ⟨by omega, ⟨by omega, by omega⟩, h3⟩
    · rintro ⟨h1, ⟨h2, h4⟩, h3⟩
      exact ⟨⟨by omega, by omega⟩, h3⟩
theorem lot_range2 {lot : List Nat} {m n : Nat} (h : Lot lot m) (hm : m ≤ n) : (List.range n).filter (fun i => decide (i ∈ lot)) = lot := lot_range ⟨h.1, fun i hi => by have := h.2 i hi; omega⟩
/-- the deed that wishes is among those that are gone -/
def lowB (w : Wi) (m : Nat) : Bool := match w with
  | .opn _ _ => false
  | .row d _ _ => decide (d < m)
theorem must_step {c h : Int} {ds : List Dd} {w : Wi} {m n : Nat} : lMustFrom c h ds w m (n + 1) = if lowB w m then none else if okAt c h ds w m then some m else lMustFrom c h ds w (m + 1) n := by
  cases w with
  | opn a b =>
    show _ = if false = true then none else _
    rw [if_neg (by simp)] <;> rfl
  | row d a b =>
    show (if d < m then none else _) = if decide (d < m) = true then none else _
    by_cases q : d < m
    · rw [if_pos q, if_pos (decide_eq_true q)]
    · rw [if_neg q, if_neg (show ¬ decide (d < m) = true from fun z => q (of_decide_eq_true z))]
/-- what _law_sum adds at a deed -/
def sumG (ds : List Dd) (w : Wi) (m : Nat) (lot : List Nat) (d : Nat) (i : Nat) : Int :=
  (if (decide (i ∈ lot) || (decide (m ≤ i) && wrote (at_ ds i))) then needBehind ds w i else 0) + (if (decide (d < i) && decide (i < m) && decide (i ∉ lot)) then needBehind ds w i else 0)
theorem needB_low {ds : List Dd} {w : Wi} {m i : Nat} (hw : ∀ d a b, w = .row d a b → m ≤ d) (hi : i < m) : needBehind ds w i = (at_ ds i).2 := by
  cases w with
  | opn a b => rfl
  | row d a b =>
    have := hw d a b rfl
    rw [needB_row, if_neg (by omega)]
theorem sum_eq {ds : List Dd} {w : Wi} {m d : Nat} {lot : List Nat} (hm : m ≤ ds.length) (hl : Lot lot m) (hw : ∀ d a b, w = .row d a b → m ≤ d) : cellsOf w + (at_ ds d).2 + ((List.range ds.length).map (sumG ds w m lot d)).sum = sumF ds w m lot d := by
  have e : ((List.range ds.length).map (sumG ds w m lot d)).sum = ((((List.range ds.length).map fun i => if decide (i ∈ lot) then needBehind ds w i else 0).sum + ((List.range ds.length).map fun i => if decide (m ≤ i) && wrote (at_ ds i) then needBehind ds w i else 0).sum)) + ((List.range ds.length).map fun i => if decide (d < i) && decide (i < m) && decide (i ∉ lot) then (at_ ds i).2 else 0).sum := by
    rw [← sum_two, ← sum_two]
    congr 1
    apply List.map_congr_left
    intro i _
    unfold sumG
    congr 1
    · by_cases q : i ∈ lot
      · have := hl.2 i q
        rw [decide_eq_true q, decide_eq_false (by omega : ¬ m ≤ i)]
        simp
      · rw [decide_eq_false q]
        simp
    · by_cases q : i < m
      · rw [needB_low hw q]
      · rw [decide_eq_false q]
        simp
  rw [e, ← sum_fil, ← sum_fil, ← sum_fil, lot_range2 hl hm, ← stay_eq, ← going_eq hm]
  unfold sumF
  rw [List.map_append, List.sum_append]
  unfold at_
  omega
end RC

end
section
set_option Elab.async false
set_option linter.all false
set_option maxRecDepth 100000
set_option maxHeartbeats 1000000
/-! RC, part 10: two at once; the tape's world. -/
namespace RC
open PySem PySem.Spec PyProof.Rows L2
section
variable {C : Ctx} {W : Cs} {G : Gm} {D : Ends} {rest : TS} {te ta tb : TE} {K : PySem.W.Frag}
theorem ok_parNN {i j : Nat} {ds es : List PyData} (h1 : TyN (C.w W) G ta ds) (h2 : ∀ l, TyN (C.w ((l, LC ds) :: W)) G tb es) (k : ∀ l l2, Ok C ((l2, LC es) :: (l, LC ds) :: W) ((G.set i (some (XV (.ref l)))).set j (some (XV (.ref l2)))) rest D) :
    Ok C W G (tSeq (tPar i j (tCons ta (tCons tb tNil))) rest) D := fun σ F H r e => h1 σ F e H r.sm r.j _ fun l xs F1 H1 g n p => by
  have r1 := (r.go g).alloc (Cp := LC ds) n ⟨xs, rfl, p⟩
  have e1 := e.mono (g.le r.sm)
  refine h2 l σ F1 e1 _ r1.sm r1.j _ fun l2 ys F2 H2 g2 n2 p2 => ⟨_, _, rfl, k l l2 _ F2 _ ((r1.go g2).alloc n2 ⟨ys, rfl, p2⟩) ?_⟩
  exact (((e1.mono (g2.le r1.sm)).set (P := XV (.ref l)) i rfl).set (P := XV (.ref l2)) j rfl)
theorem ok_parNI {i j : Nat} {ds : List PyData} {φ : Int → Prop} (h1 : TyN (C.w W) G ta ds) (h2 : ∀ l, Ty (C.w ((l, LC ds) :: W)) G tb (IN φ)) (k : ∀ l a, φ a → Ok C ((l, LC ds) :: W) ((G.set i (some (XV (.ref l)))).set j (some (IV a))) rest D) :
    Ok C W G (tSeq (tPar i j (tCons ta (tCons tb tNil))) rest) D := fun σ F H r e => h1 σ F e H r.sm r.j _ fun l xs F1 H1 g n p => by
  have r1 := (r.go g).alloc (Cp := LC ds) n ⟨xs, rfl, p⟩
  have e1 := e.mono (g.le r.sm)
  refine h2 l σ F1 e1 _ r1.sm r1.j _ fun y F2 H2 g2 ⟨a, ea, ha⟩ => ⟨_, _, rfl, k l a ha _ F2 _ (r1.go g2) ?_⟩
  subst ea
  exact (((e1.mono (g2.le r1.sm)).set (P := XV (.ref l)) i rfl).set (P := IV a) j (.int a))
end
/-! ### a def that draws -/
theorem Go.adds {W : Wd} {cs : Cs} {F H F' H' : Hp} (g : Go W F H F' H') (s : Same F H) (j : (W.adds cs).J F H) : Go (W.adds cs) F H F' H' := by
  refine ⟨⟨fun a o n h => g.st.kp a o (fun t => n (.inl t)) h, g.st.th⟩, g.eq, g.j, j.2.1, fun q hq => ?_⟩
  obtain ⟨z1, z2, o, z3, z4⟩ := j.2.2 q hq
  have hne : H q.1 ≠ none := by rw [z3]; exact fun y => nomatch y
  exact ⟨z1, by rw [g.eq, fz_some hne]; exact z2, o, g.st.kp _ _ z1 z3, q.2.mono (g.le s) z4⟩
section
variable {C : Ctx} {W : Cs} {G : Gm} {ta : TA} {P : PV} {K : PySem.W.Frag}
theorem ty_callT {R : List PV → PV → Prop} {Ps : List PV} {E : XK} {tp : Addr} {i : Nat} (hC : C.W0 = tapeW tp) (hi : G[i]? = some (some (XV (.ref tp)))) (h : TyA (C.w W) G ta Ps) (hr : R Ps P) : Ty (C.w W) G (tCall (PrT R) [] E (tCons (tVar i) ta)) P := fun σ F e H s j Q q => by
  obtain ⟨v, h1, h2⟩ := e.2 i _ hi
  have h2' : v = .ref tp := h2
  subst h2'
  refine ⟨_, h1, h σ F e H s j _ fun vs F1 H1 g1 p1 => ?_⟩
  show PrT R ((V.ref tp :: vs) ++ []) H1 Q E
  rw [List.append_nil]
  have j1 : ((tapeW tp).adds W).J F1 H1 := by
    rw [← hC]
    exact g1.j
  refine ⟨F1, tp, Ps, P, vs, rfl, g1.sm s j, j1.1, p1, hr, fun w F2 H2 g2 p2 => q w F2 H2 (g1.trans j ?_) p2⟩
  have g3 := g2.adds (cs := W) (g1.sm s j) j1
  show Go (C.W0.adds W) F1 H1 F2 H2
  rw [hC]
  exact g3
end
/-- the entry of such a def -/
theorem enterT {R : List PV → PV → Prop} {H : Hp} {vs : List V} {Q : VK} {E : XK} {N : List Str} {t : TS} (h : PrT R vs H Q E)
    (b : ∀ tp Ps P, R Ps P → ∀ C : Ctx, C.W0 = tapeW tp → Rets C (endsOf Q) P → Fall C (endsOf Q) P → Ok C [] (some (XV (.ref tp)) :: (Ps.map some ++ List.replicate (N.length - (Ps.length + 1)) none)) t (endsOf Q)) : t (endsOf Q) (L2.start N vs) H := by
  obtain ⟨F, tp, Ps, P, ws, rfl, s, j, ha, hR, k⟩ := h
  exact enterW (Ps := XV (.ref tp) :: Ps) s j ⟨rfl, ha⟩ k rfl fun C h1 h2 h3 => b tp Ps P hR C h1 h2 h3
end RC

end
section
set_option Elab.async false
set_option linter.all false
set_option maxRecDepth 100000
set_option maxHeartbeats 1000000
/-! RC, part 11: states that are not known, calls whose arguments are not known, instances. -/
namespace RC
open PySem PySem.Spec PyProof.Rows L2
/-- in a world and slots of some state with φ -/
def AtX {S : Type} (C : Ctx) (Wi : S → Cs) (Gi : S → Gm) (φ : S → Prop) : L2.St → Hp → Prop := fun σ H => ∃ s, φ s ∧ ∃ F, Run C (Wi s) F H ∧ Env (Gi s) σ F
section
variable {C : Ctx} {W W' : Cs} {G G' : Gm} {D : Ends} {t rest tb t1 t2 : TS} {te ta : TE} {tt u : TT} {K : PySem.W.Frag} {P : PV}
theorem ok_forX {S α : Type} {wi : TI} {g : TG} (xs : List α) (enc : α → PyData) (Wi : Nat → S → Cs) (Gi : Nat → S → Gm) (φ : Nat → S → Prop) (s0 : S) (hI : TyI (C.w W) G wi (xs.map enc)) (h0 : φ 0 s0) (hW : Wi 0 s0 = W) (hG : Sub G (Gi 0 s0))
    (hs : ∀ L', Same C.L L' → ∀ i x s, xs[i]? = some x → φ i s → ∃ G', TyG g (enc x) (Gi i s) G' ∧ Ok (C.up L') (Wi i s) G' tb { D with nx := AtX (C.up L') (Wi (i + 1)) (Gi (i + 1)) (φ (i + 1)), ct := AtX (C.up L') (Wi (i + 1)) (Gi (i + 1)) (φ (i + 1)), bk := rest D })
    (hd : ∀ s, φ xs.length s → Ok C (Wi xs.length s) (Gi xs.length s) rest D) : Ok C W G (tSeq (tFor wi g tb) rest) D := fun σ F H r e => by
  subst hW
  refine hI σ F e H r.sm r.j _ fun J F1 H1 g1 wd => ?_
  have r1 := r.go g1
  obtain ⟨Gd, Y, w, hGd, hY⟩ := wd
  have hn : (xs.map enc).length = xs.length := List.length_map _
  rw [hn] at w
  have r1' : Run (C.up F1) (Wi 0 s0) F1 H1 := ⟨r1.st, r1.old, r1.sm, r1.j, Same.refl F1, r1.fresh⟩
  refine for_it w (D := { D with nx := rest D }) (fun i => AtX (C.up F1) (Wi i) (Gi i) (φ i)) ⟨s0, h0, F1, r1', (e.mono (g1.le r.sm)).sub hG⟩ (fun i σ' H' _ ⟨_, _, F', r', _⟩ => hGd H' fun a o q => r'.sm a o (r'.lo a o q)) (fun i x σ' H' H'' hi ⟨s, hp, F', r', e'⟩ hy => ?_) fun σ' H' ⟨s, hp, F', r', e'⟩ => hd s hp σ' F' H' (r'.lift r1.lo) e'
  obtain ⟨F2, d, g2, hdi, p2⟩ := hY (C.w (Wi i s)) i F' H' x H'' (by rw [hn]; exact hi) r'.lo r'.sm r'.j hy
  rw [List.getElem?_map] at hdi
  cases hxi : xs[i]? with
  | none =>
    rw [hxi] at hdi
    cases hdi
  | some a =>
    rw [hxi] at hdi
    have ed : enc a = d := Option.some.inj hdi
    subst ed
    obtain ⟨G', hg, k⟩ := hs F1 r1.lo i a s hxi hp
    have r2 := r'.go g2
    exact hg σ' F2 H'' x _ (e'.mono (g2.le r'.sm)) r2.sm p2 fun σ2 e2 => k σ2 F2 H'' r2 e2
theorem ok_finX {S : Type} {Wi : S → Cs} {Gi : S → Gm} {φ : S → Prop} (s : S) (hp : φ s) (hW : W = Wi s) (hs : Sub G (Gi s)) (hn : ∀ σ H, AtX C Wi Gi φ σ H → D.nx σ H) : Ok C W G tNext D := fun σ F H r e => by
  subst hW
  exact hn σ H ⟨s, hp, F, r, e.sub hs⟩
/-- out of a loop -/
theorem ok_brk {L' : Hp} {D' : Ends} (hL : Same C.L L') (h : Ok C W G rest D) (hb : D'.bk = rest D) : Ok (C.up L') W G tBreak D' := fun σ F H r e => by
  show D'.bk σ H
  rw [hb]
  exact h σ F H (r.lift hL) e
/-! ### tests that are not known -/
def TyTX (W : Wd) (G : Gm) (tt : TT) : Prop := ∀ σ F, Env G σ F → ∀ H, Same F H → W.J F H → ∀ Q : Bool → Hp → Prop, (∀ b F' H', Go W F H F' H' → Q b H') → tt σ H Q
theorem tx_test {W : Wd} (h : Ty W G te (ExV (fun _ : Bool => True) BV)) : TyTX W G (tTest te) := fun σ F e H s j Q q => h σ F e H s j _ fun v F1 H1 g ⟨b, _, p⟩ => ⟨b, BV.v p, q b F1 H1 g⟩
theorem tx_or {W : Wd} (h1 : TyT W G tt false) (h2 : TyTX W G u) : TyTX W G (tOr tt u) := fun σ F e H s j Q q => h1 σ F e H s j _ fun F1 H1 g1 => by
  show u σ H1 Q
  exact h2 σ F1 (e.mono (g1.le s)) H1 (g1.sm s j) g1.j Q fun b F2 H2 g2 => q b F2 H2 (g1.trans j g2)
theorem ok_ifSX (h : TyTX (C.w W) G tt) (h1 : Ok C W G (tSeq t1 rest) D) (h2 : Ok C W G (tSeq t2 rest) D) : Ok C W G (tSeq (tIfS tt t1 t2) rest) D := fun σ F H r e => h σ F e H r.sm r.j _ fun b F1 H1 g => by
  cases b with
  | true =>
    show t1 { D with nx := rest D } σ H1
    exact h1 σ F1 H1 (r.go g) (e.mono (g.le r.sm))
  | false =>
    show t2 { D with nx := rest D } σ H1
    exact h2 σ F1 H1 (r.go g) (e.mono (g.le r.sm))
theorem ty_eqN {W : Wd} {φ : Int → Prop} {tb : TE} {j : Int} (ha : Ty W G ta (IN φ)) (hb : Ty W G tb (IV j)) : Ty W G (tOp (rEqD K) ta tb) (ExV (fun _ : Bool => True) BV) :=
  ty_op ha hb fun x y F H s jj ⟨i, e1, _⟩ p2 Q q => ⟨.int i, .int j, by rw [e1]; exact Rp.dp (.int i), Rp.dp (Rp.mono s p2), rfl, rfl, q _ F H (Go.refl s jj) ⟨_, trivial, .bl _⟩⟩
/-! ### values that are not known -/
theorem ok_asgGX {α : Type} {φ : α → Prop} {d : α → PyData} {g : TG} {G' : α → Gm} (h : Ty (C.w W) G te (ExV φ fun a => DV (d a))) (hg : ∀ a, TyG g (d a) G (G' a)) (k : ∀ a, φ a → Ok C W (G' a) rest D) : Ok C W G (tSeq (tAsg te g) rest) D := fun σ F H r e =>
  h σ F e H r.sm r.j _ fun v F1 H1 g1 ⟨a, ha, p⟩ => hg a σ F1 H1 v _ (e.mono (g1.le r.sm)) (g1.sm r.sm r.j) p fun σ' e' => k a ha σ' F1 H1 (r.go g1) e'
theorem ok_retX {α : Type} {φ ψ : α → Prop} {Q : α → PV} (h : Ty (C.w W) G te (ExV φ Q)) (hk : ∀ a, φ a → ψ a) (hr : Rets C D (ExV ψ Q)) : Ok C W G (tRet te) D := ok_ret (h.weak (P1 := ExV ψ Q) fun v F ⟨a, ha, p⟩ => ⟨a, hk a ha, p⟩) hr
theorem ty_ex {W : Wd} {α : Type} {φ : α → Prop} {Q : α → PV} (a : α) (ha : φ a) (h : Ty W G te (Q a)) : Ty W G te (ExV φ Q) := h.weak (P1 := ExV φ Q) fun v F p => ⟨a, ha, p⟩
/-- a tuple of values that are not known -/
theorem ty_tupX {W : Wd} {tr : TA} {Ps : List PV} {α : Type} {φ : α → Prop} {d : α → List PyData} (h : TyA W G tr Ps) (hl : Ps.length ≤ 100000) (hk : ∀ vs F, ARGS Ps vs F → ∃ a, φ a ∧ RpAll F vs (d a)) : Ty W G (tTup tr) (ExV φ fun a => DV (.tuple (d a))) := fun σ F e H s j Q q =>
  h σ F e H s j _ fun vs F1 H1 g1 p1 => ⟨szOk (by rw [ARGS.len p1]; exact hl), fun p hp => by
    have n := Go.new (o := .tup vs) (g1.sm s j) g1.j hp
    obtain ⟨a, ha, hr⟩ := hk vs F1 p1
    exact q _ _ _ (g1.trans j n) ⟨a, ha, .tup upd_same (RpAll.mono (n.le (g1.sm s j)) hr)⟩⟩
/-- a call whose arguments are not known -/
theorem ty_callTX {R : List PV → PV → Prop} {Ps : List PV} {tr : TA} {E : XK} {tp : Addr} {i : Nat} (hC : C.W0 = tapeW tp) (hi : G[i]? = some (some (XV (.ref tp)))) (h : TyA (C.w W) G tr Ps) (hr : ∀ vs F, ARGS Ps vs F → ∃ Ps', ARGS Ps' vs F ∧ R Ps' P) : Ty (C.w W) G (tCall (PrT R) [] E (tCons (tVar i) tr)) P := fun σ F e H s j Q q => by
  obtain ⟨v, h1, h2⟩ := e.2 i _ hi
  have h2' : v = .ref tp := h2
  subst h2'
  refine ⟨_, h1, h σ F e H s j _ fun vs F1 H1 g1 p1 => ?_⟩
  show PrT R ((V.ref tp :: vs) ++ []) H1 Q E
  rw [List.append_nil]
  have j1 : ((tapeW tp).adds W).J F1 H1 := by
    rw [← hC]
    exact g1.j
  obtain ⟨Ps', hp', hR⟩ := hr vs F1 p1
  refine ⟨F1, tp, Ps', P, vs, rfl, g1.sm s j, j1.1, hp', hR, fun w F2 H2 g2 p2 => q w F2 H2 (g1.trans j ?_) p2⟩
  have g3 := g2.adds (cs := W) (g1.sm s j) j1
  show Go (C.W0.adds W) F1 H1 F2 H2
  rw [hC]
  exact g3
/-- Standing(c, h, ds) -/
theorem ty_make {W : Wd} {tr : TA} {c h : Int} {ds : List Dd} {E : XK} (ha : TyA W G tr [IV c, IV h, DV (dsD ds)]) (hg : Good c h ds) : Ty W G (tMake (SC K) (sp_Standing_init K) [] E tr) (SS K c h ds) := fun σ F e H s j Q q =>
  ha σ F e H s j _ fun vs F1 H1 g1 p1 => by
    intro x dx hx hdx hne
    have s1 := g1.sm s j
    match vs, p1 with
    | [a, b, t], ⟨pa, pb, pt, _⟩ =>
      have ea := IV.v pa
      have eb := IV.v pb
      subst ea
      subst eb
      have pt' : Rp F1 t (dsD ds) := pt
      obtain ⟨ta, et⟩ : ∃ ta, t = .ref ta := by
        cases pt' with
        | tup h hs => exact ⟨_, rfl⟩
      subst et
      have hF1x := Same.none_of s1 hx
      have hF1d := Same.none_of s1 hdx
      have hup : ∀ {a o}, a ≠ x → a ≠ dx → H1 a = some o → (upd (upd H1 dx (.own x)) x (.ins (SC K) dx [])) a = some o := fun h1 h2 h3 => by
        rw [upd_ne h1, upd_ne h2]
        exact h3
      refine ⟨F1, x, dx, ta, c, h, ds, rfl, upd_same, fun a o q => hup (ne_of_none q hF1x) (ne_of_none q hF1d) (s1 a o q), hF1x, pt', hg, fun H' k1 k2 => ⟨rfl, ?_⟩⟩
      have sH : Same H1 H' := fun a o q => k1 a o (ne_of_none q hx) (hup (ne_of_none q hx) (ne_of_none q hdx) q)
      have g2 := Go.same s1 g1.j sH
      refine q _ _ H' (g1.trans j g2) ⟨x, dx, ta, rfl, ?_, Rp.mono (g2.le s1) pt'⟩
      rw [fz_none hx]
      exact k2
end
end RC

end
section
set_option Elab.async false
set_option linter.all false
set_option maxRecDepth 100000
set_option maxHeartbeats 1000000
/-! RC, part 12: comprehensions over what is not known; sorted lots; zip. -/
namespace RC
open PySem PySem.Spec PyProof.Rows L2
theorem lc_core {W : Wd} {G : Gm} {te : TE} {α : Type} {g : TG} {tt : TT} {vs : List Nat} (xs : List α) (enc : α → PyData) (f : α → Option PyData) {σ : L2.St} {F H F1 H1 : Hp} {J : It} {Q : VK} (e : Env G σ F) (s : Same F H) (j : W.J F H) (g1 : Go W F H F1 H1) (wd : WalkD F1 J (xs.map enc)) (hO : Own vs g) (hm : Mon g) (hl : xs.length ≤ 100000)
    (hs : ∀ a ∈ xs, ∃ G' b, TyG g (enc a) (wipeG G vs) G' ∧ TyT W G' tt b ∧ (b = true → ∃ d, f a = some d ∧ Ty W G' te (DV d)) ∧ (b = false → f a = none))
    (q : ∀ l ys F2 H2, Go W F H F2 H2 → H2 l = none → RpAll F2 ys (xs.filterMap f) → Q (.ref l) (upd H2 l (.lst ys))) : tLc (fun _ _ R => R J H1) g tt te vs σ H Q := by
  intro D hD
  obtain ⟨Gd, Y, w, hG, hY⟩ := wd
  have s1 := g1.sm s j
  have hFD : F1 D = none := Same.none_of s1 hD
  have hTD : ¬ W.T D := fun t => (W.there g1.j t).2 hD
  have hn : (xs.map enc).length = xs.length := List.length_map _
  rw [hn] at w
  refine lc_it w (fun i H' => ∃ F' acc, H' D = some (.lst acc) ∧ Go W F1 H1 F' (del H' D) ∧ RpAll F' acc ((xs.take i).filterMap f) ∧ acc.length ≤ i) ⟨F1, [], upd_same, by rw [del_upd hD]; exact Go.refl s1 g1.j, .nil, Nat.le_refl _⟩
    (fun i H' _ ⟨F', acc, h1, h2, h3, _⟩ => hG H' fun a o q => ?_) (fun i x H' H'' hi ⟨F', acc, h1, h2, h3, h4⟩ hy => ?_) fun H' ⟨F', acc, h1, h2, h3, h4⟩ => ?_
  · have q2 := h2.sm s1 g1.j a o (h2.le s1 a o q)
    by_cases z : a = D
    · subst z
      rw [del_same] at q2
      cases q2
    · rwa [del_ne z] at q2
  · have s2 := h2.sm s1 g1.j
    have le2 := h2.le s1
    have sH : Same F' H' := fun a o q => by
      have q2 := s2 a o q
      by_cases z : a = D
      · subst z
        rw [del_same] at q2
        cases q2
      · rwa [del_ne z] at q2
    have hF'D : F' D = none := Same.none_of s2 del_same
    have jH : W.J F' H' := W.keep h2.j (fun _ _ h => h) (fun a ha => (W.there h2.j ha).1) fun a ha => (del_ne fun z => hTD (by rw [← z]; exact ha)).symm
    obtain ⟨F3, d, g3, hd, p3⟩ := hY W i F' H' x H'' (by rw [hn]; exact hi) le2 sH jH hy
    rw [List.getElem?_map] at hd
    cases hxi : xs[i]? with
    | none =>
      rw [hxi] at hd
      cases hd
    | some a =>
      rw [hxi] at hd
      have ed : enc a = d := Option.some.inj hd
      subst ed
      obtain ⟨G', b, hg, ht, hy1, hy0⟩ := hs a (List.mem_of_getElem? hxi)
      have s3 := g3.sm sH jH
      have e3 : Env (wipeG G vs) (L2.wipe σ vs) F3 := ((e.wipe vs).mono (g1.le s)).mono (fun a o q => g3.le sH a o (le2 a o q))
      have hHD : H' D ≠ none := by rw [h1]; exact fun z => nomatch z
      have tk := take_more hxi
      refine hm _ _ _ _ _ (fun σ2 H2 ⟨q2, w2⟩ => ⟨by rw [w2, ← tn_lc.wipe_wipe σ vs], q2⟩) (hO _ _ _ _ (hg _ F3 H'' x _ e3 s3 p3 fun σ' e' => ?_))
      refine ht σ' F3 e' H'' s3 g3.j _ fun F4 H4 g4 => ?_
      have s4 := g4.sm s3 g3.j
      have g34 := g3.trans jH g4
      cases b with
      | true =>
        show te σ' H4 _
        obtain ⟨d, hf, hte⟩ := hy1 rfl
        refine hte σ' F4 (e'.mono (g4.le s3)) H4 s4 g4.j _ fun v F5 H5 g5 p5 => ?_
        have g35 := g34.trans jH g5
        have h5D : H5 D = some (.lst acc) := g35.st.kp D _ hTD h1
        refine ⟨acc, h5D, szLt (by have := (List.getElem?_eq_some_iff.mp hxi).1; omega), F5, acc ++ [v], upd_same, ?_, ?_, by simp; omega⟩
        · rw [del_upd2]
          exact h2.trans g1.j (g35.minus hF'D hHD hTD)
        · rw [tk, List.filterMap_append]
          have z : List.filterMap f [a] = [d] := by simp [List.filterMap, hf]
          rw [z]
          exact (RpAll.mono (g35.le sH) h3).snoc p5
      | false =>
        show ∃ F' acc, H4 D = some (.lst acc) ∧ _
        refine ⟨F4, acc, g34.st.kp D _ hTD h1, h2.trans g1.j (g34.minus hF'D hHD hTD), ?_, by omega⟩
        rw [tk, List.filterMap_append]
        have z : List.filterMap f [a] = [] := by simp [List.filterMap, hy0 rfl]
        rw [z, List.append_nil]
        exact RpAll.mono (g34.le sH) h3
  · rw [List.take_length] at h3
    have z := q D acc F' (del H' D) (g1.trans j h2) del_same h3
    rw [upd_del h1] at z
    exact z

theorem RpAll.perm {F : Hp} {xs ys : List V} (h : ys.Perm xs) : ∀ {α : Type} {l : List α} {f : α → PyData}, RpAll F xs (l.map f) → ∃ l' : List α, l'.Perm l ∧ RpAll F ys (l'.map f) := by
  induction h with
  | nil =>
    intro α l f r
    cases l with
    | nil => exact ⟨[], .nil, .nil⟩
    | cons a l => cases r
  | cons x _ ih =>
    intro α l f r
    cases l with
    | nil => cases r
    | cons a l =>
      cases r with
      | cons h hs =>
        obtain ⟨l', p, r'⟩ := ih hs
        exact ⟨a :: l', p.cons a, .cons h r'⟩
  | swap x y l0 =>
    intro α l f r
    match l, r with
    | [], r => cases r
    | [a], .cons _ r => cases r
    | a :: b :: l, .cons h1 (.cons h2 hs) => exact ⟨b :: a :: l, .swap a b l, .cons h2 (.cons h1 hs)⟩
  | trans _ _ ih1 ih2 =>
    intro α l f r
    obtain ⟨l1, p1, r1⟩ := ih2 r
    obtain ⟨l2, p2, r2⟩ := ih1 r1
    exact ⟨l2, p2.trans p1, r2⟩
section
variable {W : Wd} {G : Gm} {te tl ta tb : TE} {K : PySem.W.Frag}
/-- a list that is not known, walked by a comprehension -/
theorem ty_lcX {α : Type} {φ : List α → Prop} {g : TG} {vs : List Nat} (enc : α → PyData) (f : α → PyData) (hl : Ty W G tl (ExV φ fun xs => DV (.list (xs.map enc)))) (hb : ∀ xs, φ xs → xs.length ≤ 100000) (hO : Own vs g) (hm : Mon g)
    (hs : ∀ a, ∃ G', TyG g (enc a) (wipeG G vs) G' ∧ Ty W G' te (DV (f a))) : Ty W G (tLc (iList K tl) g tYes te vs) (ExV φ fun xs => DV (.list (xs.map f))) := fun σ F e H s j Q q =>
  hl σ F e H s j _ fun v F1 H1 g1 ⟨xs, hx, p⟩ => by
    have p' : Rp F1 v (.list (xs.map enc)) := p
    cases p' with
    | @lst a ys _ h1 r1 =>
      refine ⟨a, rfl, ⟨ys, seqL h1 (g1.sm s j)⟩, ?_⟩
      refine lc_core xs enc (fun a => some (f a)) e s j g1 (wd_list (K := K) h1 r1) hO hm (hb xs hx) (fun a _ => let ⟨G', h1, h2⟩ := hs a; ⟨G', true, h1, tt_yes, fun _ => ⟨_, rfl, h2⟩, fun z => nomatch z⟩) fun l zs F2 H2 g2 n r => ?_
      have g3 := Go.new (o := .lst zs) (g2.sm s j) g2.j n
      refine q _ _ _ (g2.trans j g3) ⟨xs, hx, .lst upd_same (RpAll.mono (g3.le (g2.sm s j)) ?_)⟩
      have e2 : xs.filterMap (fun a => some (f a)) = xs.map f := by simp
      rw [← e2]
      exact r
/-- sorted of pairs of a number and a lot -/
theorem ty_sortLots {Ls : List (List Nat)} (h : Ty W G te (DV (.list (Ls.map fun L => PyData.tuple [nD L.length, lotD L])))) (hl : Ls.length < 64) : Ty W G (tCB (rSortLots K) (tCons te tNil)) (ExV (fun Ls' : List (List Nat) => Ls'.Perm Ls) fun Ls' => DV (.list (Ls'.map fun L => PyData.tuple [nD L.length, lotD L]))) := fun σ F e H s j Q q =>
  h σ F e H s j _ fun v F1 H1 g1 p => by
    have s1 := g1.sm s j
    have p' : Rp F1 v (.list (Ls.map fun L => PyData.tuple [nD L.length, lotD L])) := p
    cases p' with
    | @lst a xs _ h1 r1 =>
      refine ⟨a, xs, rfl, s1 _ _ h1, by rw [r1.length, List.length_map]; exact hl, fun x hx => ?_, fun ys p hp hn => ?_⟩
      · obtain ⟨i, hi⟩ := List.getElem?_of_mem hx
        obtain ⟨d, hd, hr⟩ := r1.getV hi
        rw [List.getElem?_map] at hd
        cases hL : Ls[i]? with
        | none =>
          rw [hL] at hd
          cases hd
        | some L =>
          rw [hL] at hd
          have ed : PyData.tuple [nD L.length, lotD L] = d := Option.some.inj hd
          subst ed
          cases hr with
          | @tup t us _ ht hrs =>
            cases hrs with
            | cons ha hb =>
              cases hb with
              | cons hb hc =>
                cases hc
                cases ha
                have hb' : Rp F1 _ (.tuple (L.map nD)) := hb
                cases hb' with
                | @tup u vs _ hu hvs =>
                  rw [map_nD] at hvs
                  have ev := hvs.ints
                  subst ev
                  exact ⟨t, u, _, _, rfl, s1 _ _ ht, s1 _ _ hu⟩
      · obtain ⟨l', pl, rl⟩ := r1.perm hp
        have g2 := Go.new (o := .lst ys) s1 g1.j hn
        exact q _ _ _ (g1.trans j g2) ⟨l', pl, .lst upd_same (RpAll.mono (g2.le s1) rl)⟩
/-- zip of a tuple and a list -/
theorem ti_zip {α : Type} {xs : List α} {f k : α → PyData} (ha : Ty W G ta (DV (.tuple (xs.map f)))) (hb : Ty W G tb (DV (.list (xs.map k)))) : TyI W G (iZipTL (tCons ta (tCons tb tNil))) (xs.map fun a => PyData.tuple [f a, k a]) := fun σ F e H s j R q =>
  (ta_cons ha (ta_cons hb ta_nil)) σ F e H s j _ fun vs F1 H1 g p => by
    obtain ⟨v, w, rfl, p1, p2⟩ := p.two
    have s1 := g.sm s j
    have p1' : Rp F1 v (.tuple (xs.map f)) := p1
    have p2' : Rp F1 w (.list (xs.map k)) := p2
    cases p1' with
    | @tup a us _ h1 r1 =>
      cases p2' with
      | @lst b ws _ h2 r2 =>
        have e1 := r1.length
        have e2 := r2.length
        rw [List.length_map] at e1 e2
        refine ⟨a, b, us, ws, rfl, s1 _ _ h1, s1 _ _ h2, e1.trans e2.symm, q _ F1 H1 g ⟨fun H => H a = some (.tup us) ∧ H b = some (.lst ws), fun i H v H' => ∃ T x y, v = .ref T ∧ H T = none ∧ H' = upd H T (.tup [x, y]) ∧ us[i]? = some x ∧ ws[i]? = some y, ⟨fun i H hi hg => ?_, fun H hg => ?_, fun i H x H' hi hg hy => ?_⟩, fun H sm => ⟨sm _ _ h1, sm _ _ h2⟩, fun W i F H x H' hi sm1 sm2 jj hy => ?_⟩⟩
        · rw [List.length_map] at hi
          exact ⟨us, ws, us[i], ws[i], hg.1, hg.2, List.getElem?_eq_getElem (by omega), List.getElem?_eq_getElem (by omega)⟩
        · rw [List.length_map]
          exact ⟨us, ws, hg.1, hg.2, e1, e2⟩
        · obtain ⟨T, u, y, q1, q2, q3, q4, q5⟩ := hy
          exact ⟨T, u, y, q1, q2, q3, q4 us hg.1, q5 ws hg.2⟩
        · obtain ⟨T, u, y, rfl, n, rfl, q4, q5⟩ := hy
          obtain ⟨d1, hd1, hr1⟩ := r1.getV q4
          obtain ⟨d2, hd2, hr2⟩ := r2.getV q5
          rw [List.getElem?_map] at hd1 hd2
          cases hx : xs[i]? with
          | none =>
            rw [hx] at hd1
            cases hd1
          | some z =>
            rw [hx] at hd1 hd2
            have ed1 : f z = d1 := Option.some.inj hd1
            have ed2 : k z = d2 := Option.some.inj hd2
            subst ed1
            subst ed2
            obtain ⟨F', g', p'⟩ := pair_new sm2 jj n (Rp.mono sm1 hr1) (Rp.mono sm1 hr2)
            exact ⟨F', _, g', by rw [List.getElem?_map, hx] <;> rfl, p'⟩
end
end RC

end
section
set_option Elab.async false
set_option linter.all false
set_option maxRecDepth 100000
set_option maxHeartbeats 1000000
/-! RC, part 13: zip of a tuple and a list; sorted of a dict. -/
namespace RC
open PySem PySem.Spec PyProof.Rows L2
theorem call_sortD {X : Cx} (hc : X.calm = true) : CallR X (.builtin "sorted") rSortD := call_sortedDI hc
abbrev zSt (a b z TI TO i1 i2 : Addr) : Nat → Heap → Prop := fun i h => IsZip h z TI TO .none ∧ IsTupOf2 h TI (.ref i1) (.ref i2) ∧ (∃ x y, IsTupOf2 h TO x y) ∧ h.IsTupleIter i1 a i ∧ h.IsListIter i2 b i
theorem turn_zp {P : Program} {w : World} {K : PySem.W.Frag} {elts : List Expr} {kk : Nat} {tpos : Pos} {a b z TI TO i1 i2 : Addr} (S : ZipSep2 z TI TO i1 i2 [i1, a] [i2, b]) (n1 : a ≠ i1) (n2 : b ≠ i2) :
    Turn P w K (.Tuple elts kk tpos) (Izp a b) [z, TI, TO, i1, i2] z (zSt a b z TI TO i1 i2) where
  mem := by simp
  obj := fun i h st c hc => by
    obtain ⟨hz, hTI, ⟨x, y, hTO⟩, ⟨o1, e1, _, d1⟩, ⟨o2, e2, _, d2⟩⟩ := st
    have e' : c = z ∨ c = TI ∨ c = TO ∨ c = i1 ∨ c = i2 := by simpa using hc
    rcases e' with q | q | q | q | q
    · rw [q]; exact ⟨_, hz, fun v q => nomatch q⟩
    · rw [q]; exact ⟨_, hTI, fun v q => nomatch q⟩
    · rw [q]; exact ⟨_, hTO, fun v q => nomatch q⟩
    · rw [q]; exact ⟨o1, e1, fun v q => by rw [d1] at q; cases q⟩
    · rw [q]; exact ⟨o2, e2, fun v q => by rw [d2] at q; cases q⟩
  keep := fun i h h' st k => by
    obtain ⟨hz, hTI, ⟨x, y, hTO⟩, h1, h2⟩ := st
    exact ⟨k z (by simp) _ hz, k TI (by simp) _ hTI, ⟨x, y, k TO (by simp) _ hTO⟩, h1.at fun o q => k i1 (by simp) o q, h2.at fun o q => k i2 (by simp) o q⟩
  item := by
    intro X hP hw hK hc i pins s σ H E I hf st hg
    subst hP hw hK
    obtain ⟨hz, hTI, ⟨x0, y0, hTO⟩, h1, h2⟩ := st
    obtain ⟨xs, ys, x, y, hqx, hqy, hx, hy⟩ := hg
    obtain ⟨its, rv, p, _⟩ := I.tuple (SqT.of hqx)
    obtain ⟨its2, rv2, p2, _⟩ := I.list (SqL.of hqy)
    obtain ⟨u, hu, ru⟩ := rv.get hx
    obtain ⟨u2, hu2, ru2⟩ := rv2.get hy
    have hzl : z < s.heap.objs.size := Heap.lt_size hz
    have pt : s.heap.IsTuple a its.toArray := p
    have hil : i < its.toArray.size := by
      have := (List.getElem?_eq_some_iff.mp hu).1
      simpa using this
    have hil2 : i < its2.toArray.size := by
      have := (List.getElem?_eq_some_iff.mp hu2).1
      simpa using this
    refine wpAny_pyNext_zipD2_item S (Draws.tuple (show X.A.in1.handled = none from I.ok.hd hc) i1 a n1 its.toArray) (Draws.list (show X.A.in1.handled = none from I.ok.hd hc) i2 b n2 its2.toArray) hz hTI hTO ⟨h1, pt⟩ ⟨h2, p2.isList⟩ hil hil2 fun x1 x2 h' tk hx1 hx2 z' TO' st1 st2 hT hsz hk => ?_
    have ex1 : x1 = u := by
      rw [List.getElem?_toArray, hu] at hx1
      exact (Option.some.inj hx1).symm
    have ex2 : x2 = u2 := by
      rw [List.getElem?_toArray, hu2] at hx2
      exact (Option.some.inj hx2).symm
    subst ex1
    subst ex2
    refine ⟨_, rfl, wpAny_letOwnedTupleGo_zip (s := { s with heap := h', toks := tk }) z' fun h'' z'' sb => ?_⟩
    have hT2 : h''.get? s.heap.objs.size = some { cls := .type "tuple", data := .seq #[x1, x2] } := (sb.2 _ (Nat.ne_of_gt hzl)).trans hT
    have new : ObjOk X.prog X.w (upd H s.heap.objs.size (.tup [x, y])) h'' s.heap.objs.size (.tup [x, y]) :=
      ⟨by show 2 ≤ sizeLine; decide, [x1, x2], .cons ru (.cons ru2 .nil), ⟨_, hT2, rfl, _, rfl⟩⟩
    have I1 : Inv X pins σ (upd H s.heap.objs.size (.tup [x, y])) { s with heap := h'', toks := tk } :=
      I.turnedNew (t' := tk) (ch := [z, TI, TO, i1, i2]) (fun c o hb q => (sb.2 c (fun q' => hb (by simp [q']))).trans (hk c o (fun q' => hb (by simp [q'])) (fun q' => hb (by simp [q'])) (fun q' => hb (by simp [q'])) (fun q' => hb (by simp [q'])) q)) hf (Nat.le_refl _) new
    refine ⟨.ref s.heap.objs.size, _, I1, rfl, ⟨_, x, y, rfl, I.hok.fresh (Nat.le_refl _), rfl, fun l hl => ?_, fun l hl => ?_⟩, ⟨z'', ?_, ⟨x1, x2, ?_⟩, ?_, ?_⟩, fun c hcm => ?_⟩
    · rw [hqx] at hl
      injection hl with hl
      injection hl with hl
      rw [← hl]
      exact hx
    · rw [hqy] at hl
      injection hl with hl
      injection hl with hl
      rw [← hl]
      exact hy
    · exact (sb.2 _ S.TIz).trans (hk _ _ S.TIz S.TITO S.TIi1 S.TIi2 hTI)
    · exact (sb.2 _ S.TOz).trans TO'
    · exact st1.1.at fun o q => (sb.2 _ (Ne.symm S.zi1)).trans q
    · exact st2.1.at fun o q => (sb.2 _ (Ne.symm S.zi2)).trans q
    · have hlt : c < s.heap.objs.size := by
        have e' : c = z ∨ c = TI ∨ c = TO ∨ c = i1 ∨ c = i2 := by simpa using hcm
        rcases e' with q | q | q | q | q
        · rw [q]; exact hzl
        · rw [q]; exact Heap.lt_size hTI
        · rw [q]; exact Heap.lt_size hTO
        · rw [q]; obtain ⟨_, e1, _⟩ := h1; exact Heap.lt_size e1
        · rw [q]; obtain ⟨_, e2, _⟩ := h2; exact Heap.lt_size e2
      rw [upd_ne (Nat.ne_of_lt hlt)]
      exact (hf c hcm).1
  done := by
    intro X hP hw hK hc i pins s σ H E I hf st hg
    subst hP hw hK
    obtain ⟨hz, hTI, ⟨x0, y0, hTO⟩, h1, h2⟩ := st
    obtain ⟨xs, ys, hqx, hqy, hex, hey⟩ := hg
    obtain ⟨its, rv, p, _⟩ := I.tuple (SqT.of hqx)
    obtain ⟨its2, rv2, p2, _⟩ := I.list (SqL.of hqy)
    have l1 := rv.length
    have l2 := rv2.length
    have pt : s.heap.IsTuple a its.toArray := p
    exact wpAny_pyNext_zipD2_end S (Draws.tuple (show X.A.in1.handled = none from I.ok.hd hc) i1 a n1 its.toArray) (Draws.list (show X.A.in1.handled = none from I.ok.hd hc) i2 b n2 its2.toArray) hz hTI hTO ⟨h1, pt⟩ ⟨h2, p2.isList⟩ (by simp; omega) (by simp; omega) (.inl (by simp; omega)) fun h' tk hk => ⟨rfl, I.turnedL (t' := tk) (ch := [z, TI, TO, i1, i2]) (fun c o hb q =>
      hk c o (fun q' => hb (by simp [q'])) (fun q' => hb (by simp [q'])) (fun q' => hb (by simp [q'])) (fun q' => hb (by simp [q'])) q) hf⟩
  self := fun A i s Q E st h => wpAny_pyIter_zip st.1 h
theorem nin2 (x y z : Nat) (h1 : x ≠ y) (h2 : x ≠ z) : x ∉ [y, z] := fun h => by
  rcases List.mem_cons.mp h with q | q
  · exact h1 q
  · exact h2 (List.mem_singleton.mp q)
theorem zsep (n a b : Nat) (ha : a < n) (hb : b < n) : ZipSep2 (n + 4) (n + 2) (n + 3) n (n + 1) [n, a] [n + 1, b] ∧ a ≠ n ∧ b ≠ n + 1 :=
  ⟨⟨Nat.ne_of_lt (by omega), Nat.ne_of_lt (by omega), Nat.ne_of_lt (by omega), Nat.ne_of_gt (by omega), List.mem_cons_self, nin2 _ _ _ (Nat.ne_of_gt (by omega)) (Nat.ne_of_gt (by omega)), nin2 _ _ _ (Nat.ne_of_gt (by omega)) (Nat.ne_of_gt (by omega)), Nat.ne_of_gt (by omega), List.mem_cons_self, nin2 _ _ _ (Nat.ne_of_gt (by omega)) (Nat.ne_of_gt (by omega)), nin2 _ _ _ (Nat.ne_of_gt (by omega)) (Nat.ne_of_gt (by omega)), nin2 _ _ _ (Nat.ne_of_lt (by omega)) (Nat.ne_of_gt (by omega)), nin2 _ _ _ (Nat.ne_of_gt (by omega)) (Nat.ne_of_gt (by omega))⟩, Nat.ne_of_lt ha, Nat.ne_of_lt (by omega)⟩
theorem pi_zipTL {X : Cx} {e e2 : Expr} {ta : TA} {p pos tpos : Pos} {elts : List Expr} {kk : Nat} (hg : Gl X "zip") (hm : X.mg "zip" = none) (ha : PA X [e, e2] ta)
    (hs : starEach [e, e2] X.env = (false, eval e X.env) :: starEach [e2] X.env := by rfl) (hpl : (backTo pos (starEach [e2] X.env)).any (·.1) = false := by rfl) :
    PI X (.Tuple elts kk tpos) (.Call (.Name "zip" p) [e, e2] [] pos) (iZipTL ta) := by
  refine ⟨fun pins s σ H R I h => ?_⟩
  refine Call_ (ld_blt I hg hm PyProof.Rows.boot_zip (PyProof.Rows.callWith_type1 (thn (ha.run pos pins s σ H _ I h) fun us s1 ⟨vs, H1, I1, r1, q1⟩ => ?_) hs hpl))
  obtain ⟨a, b, xs, ys, ex, hqx, hqy, hl, q⟩ := q1
  subst ex
  cases r1 with
  | cons r rr =>
    cases rr with
    | cons r' rr =>
      cases rr
      cases r
      cases r'
      have fresh5 : ∀ c, c ∈ [s1.heap.objs.size + 4, s1.heap.objs.size + 2, s1.heap.objs.size + 3, s1.heap.objs.size, s1.heap.objs.size + 1] → FpOk X pins H1 c := fun c hcm => by
        have e' : c = s1.heap.objs.size + 4 ∨ c = s1.heap.objs.size + 2 ∨ c = s1.heap.objs.size + 3 ∨ c = s1.heap.objs.size ∨ c = s1.heap.objs.size + 1 := by simpa using hcm
        have hle : s1.heap.objs.size ≤ c := by
          rcases e' with z | z | z | z | z
          · rw [z]; exact Nat.le_add_right _ _
          · rw [z]; exact Nat.le_add_right _ _
          · rw [z]; exact Nat.le_add_right _ _
          · rw [z]; exact Nat.le_refl _
          · rw [z]; exact Nat.le_add_right _ _
        exact I1.fpOk hle (I1.hok.fresh hle)
      obtain ⟨its, rv, p1, _⟩ := I1.tuple (SqT.of hqx)
      obtain ⟨its2, rv2, p2, _⟩ := I1.list (SqL.of hqy)
      have pt : s1.heap.IsTuple a its.toArray := p1
      obtain ⟨o1, ho1, _⟩ := id pt
      have hla : a < s1.heap.objs.size := Heap.lt_size ho1
      have hlb : b < s1.heap.objs.size := p2.lt
      refine zip_begins2 (begins_tuple a its.toArray) (begins_list b its2.toArray) pt p2.isList fun h' hz hTI hTO hb1 hb2 hsz hk => wpAny_pyIter_zip hz ?_
      have I2 : Inv X pins σ H1 { s1 with heap := h' } := I1.kept (t' := s1.toks) hk
      have h1 : h'.IsTupleIter s1.heap.objs.size a 0 := ⟨_, hb1, rfl, rfl⟩
      have h2 : h'.IsListIter (s1.heap.objs.size + 1) b 0 := ⟨_, hb2, rfl, rfl⟩
      obtain ⟨S1, S2, S3⟩ := zsep s1.heap.objs.size a b hla hlb
      exact ⟨s1.heap.objs.size + 4, [s1.heap.objs.size + 4, s1.heap.objs.size + 2, s1.heap.objs.size + 3, s1.heap.objs.size, s1.heap.objs.size + 1], _, _, H1, rfl, I2, turn_zp S1 S2 S3, ⟨hz, hTI, ⟨_, _, hTO⟩, h1, h2⟩, fresh5, q⟩
end RC

end
section
set_option Elab.async false
set_option linter.all false
set_option maxRecDepth 100000
set_option maxHeartbeats 1000000
/-! RC, part 14: x = {k: v for ..}, stored as it is made. -/
namespace RC
open PySem PySem.Spec PyProof.Rows L2
section
variable {X : Cx}
theorem ps_setDc {i : Nat} {y : Str} {py : Pos} {kx vx tg iter : Expr} {ifs : List Expr} {scope : Scope} {own : List (Str × Nat)} {pos spos : Pos} {wi : TI} {g : TG} {tt : TT} {tk tv : TE} (hc : X.calm = true) (hN : X.N.Nodup) (hy : X.N[i]? = some y) (hyl : X.env.scope.names.lookup y = some .local)
    (hsw : swapsWith (.DictComp kx vx [⟨tg, iter, ifs, 0⟩] scope pos) (some (.Name y py)) spos.line X.env = pure true) (hi : PI X tg iter wi) (ok : BlkOk X.N X.env.scope scope own)
    (hg : ∀ (s : Shared) (H : Hp) (C : Addr) (cl : List (Str × Addr)) (fp : List Addr), PG (X.blk s H scope (compEnvC scope cl C X.env) fp) tg g) (ht : ∀ (s : Shared) (H : Hp) (C : Addr) (cl : List (Str × Addr)) (fp : List Addr), PTs (X.blk s H scope (compEnvC scope cl C X.env) fp) ifs tt)
    (hk : ∀ (s : Shared) (H : Hp) (C : Addr) (cl : List (Str × Addr)) (fp : List Addr), PE (X.blk s H scope (compEnvC scope cl C X.env) fp) kx tk)
    (he : ∀ (s : Shared) (H : Hp) (C : Addr) (cl : List (Str × Addr)) (fp : List Addr), PE (X.blk s H scope (compEnvC scope cl C X.env) fp) vx tv) (hs : ∀ x, foldedSetIterable iter X.env x = pure x := by intro _; rfl) :
    PS X (.Assign [.Name y py] (.DictComp kx vx [⟨tg, iter, ifs, 0⟩] scope pos) spos) (tAsg (tDc wi g tt tk tv (own.map (·.2))) (gName i)) := by
  refine ⟨fun pins s σ H D I h => ?_⟩
  rw [exec_Assign_Name_used _ _ _ _ hsw]
  refine wpAny_bind (wpAny_standAt (wpAny_bind ?_))
  show wpAny _ X.A (do let _ ← comprehension (.DictComp kx vx [⟨tg, iter, ifs, 0⟩] scope pos) scope X.env (firstIterPos [⟨tg, iter, ifs, 0⟩] pos) newDict false (eval iter X.env) (some (assign (.Name y py) X.env))) _ _ s
  have h : tDc wi g tt tk tv (own.map (·.2)) σ H (fun x H1 => gName i x σ H1 D.nx) := h
  refine wpAny_bind (thn (dc_core (Qf := fun _ s' => SP X pins D .next s') hc hN I hi ok hg ht hk he hs h fun L C s' m H' I' q hn f => ?_) fun _ s' hq => wpAny_pure (wpAny_pure hq))
  show wpAny _ _ (assign (.Name y py) X.env (.ref L)) _ _ _
  refine wpAny_assign_Name (store_ok2 (v := V.ref L) I' hN hy (.inl hyl) rfl (fun s2 I2 ⟨a, sb, ha⟩ => ?_) (.inr hyl))
  obtain ⟨f0, f1, f2, f3, f4, f5⟩ := f
  have haC : C ≠ a := by
    rcases ha with z | z
    · rw [z]; exact f1
    · exact fun e => f4 y a z e.symm
  refine ⟨m, hn.sameBut sb haC, fun h3 sb3 => ?_⟩
  exact ⟨_, H', I2.turned (t' := s2.toks) (fun b o hb e => (sb3.2 b hb).trans e) f0 f1 f3 f4 f5, q⟩
theorem sw_trueD {kx vx : Expr} {gs : List Comprehension} {scope : Scope} {pos py : Pos} {y : Str} {l : Nat} {env : PySem.Env} (hk : env.scope.kind = .function) (hy : env.scope.names.lookup y = some .local) (hl : (py.line == pos.line) = true)
    (ha : (scope.names.any fun (n, k) => n == y && (k == .local || k == .cell)) = false) : swapsWith (.DictComp kx vx gs scope pos) (some (.Name y py)) l env = pure true := by
  have ky : env.kindOf y = some .local := hy
  have hb : env.blockKind = .function := by unfold Env.blockKind; rw [hk]; rfl
  unfold swapsWith
  simp only [hb, ky, ha, Expr.pos, hl]
  rfl
end
section
variable {K : PySem.W.Frag} {mg : Str → Option Value} {vs : List V} {H : Hp} {Q : VK} {E : XK}
theorem len_law_tape (h : sp_law_tape K vs H Q E) : vs.length = 1 := by
  obtain ⟨a, ns, rfl, _⟩ := h
  rfl
theorem len_law (h : sp_law K vs H Q E) : vs.length = 1 := by
  obtain ⟨a, ns, rfl, _⟩ := h
  rfl
theorem len_Standing_init (h : sp_Standing_init K vs H Q E) : vs.length = 4 := by
  obtain ⟨F, p, dx, t, c, h, ds, rfl, _⟩ := h
  rfl
end
end RC

end
section
set_option Elab.async false
set_option linter.all false
set_option maxRecDepth 100000
set_option maxHeartbeats 4000000
namespace RC
open PySem PySem.Spec PyProof.Rows L2
local macro_rules | `(tactic| walk_at "sub") => `(tactic| first | exact sub_nil | (apply sub_cons; walk_at "sub") | (apply sub_drop; walk_at "sub"))
local macro_rules | `(tactic| walk_at "hr") => `(tactic| (repeat apply Exists.intro) <;> (refine And.intro rfl ?_) <;> (repeat' apply And.intro) <;> (first | rfl | assumption | omega | skip))
local macro_rules | `(tactic| walk_at "ev") => `(tactic| first
  | exact ty_var rfl
  | exact ty_int
  | exact ty_bl
  | exact ty_non
  | exact ty_str
  | exact ta_nil
  | (apply ta_cons <;> walk_at "ev")
  | (apply tt_test <;> walk_at "ev")
  | (apply tt_B <;> walk_at "ev")
  | (apply tt_not <;> walk_at "ev")
  | (apply tt_and <;> (first | walk_at "ev" | (intro _; walk_at "ev")))
  | (apply tt_or <;> (first | walk_at "ev" | (intro _; walk_at "ev")))
  | (apply ty_and <;> (first | walk_at "ev" | (intro _; walk_at "ev")))
  | (apply ty_or <;> (first | walk_at "ev" | (intro _; walk_at "ev")))
  | (apply ty_not <;> walk_at "ev")
  | (apply ty_succ <;> walk_at "ev")
  | (apply ty_add <;> walk_at "ev")
  | (apply ty_sub <;> walk_at "ev")
  | (apply ty_lt <;> walk_at "ev")
  | (apply ty_le <;> walk_at "ev")
  | (apply ty_gt <;> walk_at "ev")
  | (apply ty_ge <;> walk_at "ev")
  | (apply ty_leleI <;> walk_at "ev")
  | (apply ty_ltltI <;> walk_at "ev")
  | (apply ty_isOpen <;> walk_at "ev")
  | (apply ty_isRow <;> walk_at "ev")
  | (apply ty_isWait <;> walk_at "ev")
  | (apply ty_o1 <;> walk_at "ev")
  | (apply ty_o2 <;> walk_at "ev")
  | (apply ty_o3 <;> walk_at "ev")
  | (apply ty_r1 <;> walk_at "ev")
  | (apply ty_r2 <;> walk_at "ev")
  | (apply ty_r3 <;> walk_at "ev")
  | (apply ty_eqI <;> walk_at "ev")
  | (apply ty_eqS <;> (first | walk_at "ev" | decide +kernel))
  | (apply ty_wrote <;> walk_at "ev")
  | (apply ty_bare <;> walk_at "ev")
  | (apply ty_isN <;> walk_at "ev")
  | (apply ty_notN <;> walk_at "ev")
  | (apply ty_neI <;> walk_at "ev")
  | (apply ty_neg <;> walk_at "ev")
  | (apply ty_inTN <;> walk_at "ev")
  | (apply ty_inLN <;> walk_at "ev")
  | (apply ty_niTN <;> walk_at "ev")
  | (apply ty_isi <;> (first | walk_at "ev" | exact kit_ii | exact kit_ib | exact kit_tt | exact kit_ss | exact kit_bb))
  | exact tyc_len (k := 0) rfl rfl
  | exact tyc_len (k := 1) rfl rfl
  | (apply ty_lenT <;> walk_at "ev")
  | (apply ty_lenL <;> walk_at "ev")
  | (apply ty_d0 <;> walk_at "ev")
  | (apply ty_d1 <;> walk_at "ev")
  | (apply ty_d2 <;> walk_at "ev")
  | (apply ty_di <;> (first | walk_at "ev" | assumption))
  | (apply ty_ixT <;> (first | walk_at "ev" | rfl | exact atI_map_nat _ (by assumption) | (show _ = _)))
  | (apply ty_ixL <;> (first | walk_at "ev" | rfl | exact atI_map_nat _ (by assumption) | (show _ = _)))
  | (apply ty_cells (by assumption) <;> walk_at "ev")
  | (apply ty_head (by assumption) <;> walk_at "ev")
  | (apply ty_deeds (by assumption) <;> walk_at "ev")
  | (apply ty_tupleL <;> walk_at "ev")
  | (apply ty_tupleT <;> walk_at "ev")
  | (apply ty_slT <;> walk_at "ev")
  | exact to_no
  | (apply to_some <;> walk_at "ev")
  | (apply ty_tup <;> (first | walk_at "ev" | decide | (simp; done)))
  | (apply ty_call <;> (first | walk_at "ev" | walk_at "hr")))
local macro_rules | `(tactic| walk_at "bv") => `(tactic| first | rfl | (refine congrArg BV ?_; simp; done) | (refine congrArg BV ?_; simp; omega) | (simp; done) | (simp; omega) | omega)
section
variable {K : PySem.W.Frag} {mg : Str → Option Value} {vs : List V} {H : Hp} {Q : VK} {E : XK}
section
variable {X : Cx}
theorem lots_mk {H : Hp} {s : Shared} (tp : ∀ t ys, H t = some (.tup ys) → ∃ its, Vals ys its ∧ s.heap.IsTuple t its.toArray) : ∀ (xs : List V) (its : List Value), Vals xs its → (∀ x ∈ xs, ∃ (t u : Addr) (n : Int) (ns : List Int), x = .ref t ∧ H t = some (.tup [.int n, .ref u]) ∧ H u = some (.tup (ns.map .int))) →
      ∃ bs : List (V × PyData), bs.map (·.1) = xs ∧ PySem.W.EachIs (fun v b => RelV b.1 v) its bs ∧ PySem.W.EachIs (fun v b => ∃ as, Reads s.heap v b.2 as) its bs ∧ ∀ b ∈ bs, ∃ (n : Int) (ns : List Int), b.2 = PyData.tuple [.int n, .tuple (ns.map PyData.int)]
  | [], _, .nil, _ => ⟨[], rfl, .nil, .nil, fun b hb => nomatch hb⟩
  | x :: xs, _, .cons rx r, hx => by
    obtain ⟨bs, e0, e1, e2, e3⟩ := lots_mk tp xs _ r fun y hy => hx y (List.mem_cons_of_mem _ hy)
    obtain ⟨t, u, n, ns, rfl, ht, hu⟩ := hx x (List.mem_cons_self ..)
    cases rx
    obtain ⟨its1, rv1, p1⟩ := tp t _ ht
    obtain ⟨its2, rv2, p2⟩ := tp u _ hu
    refine ⟨(.ref t, PyData.tuple [.int n, .tuple (ns.map PyData.int)]) :: bs, by rw [List.map_cons, e0], .cons rfl e1, .cons ?_ e2, fun b hb => ?_⟩
    · have hi : IntsAre its2 ns := Vals.ints rv2
      cases rv1 with
      | cons ra rb =>
        obtain ⟨k, rfl⟩ := ra
        cases rb with
        | cons rb rc =>
          cases rb
          cases rc
          obtain ⟨o1, a1, b1, m1, d1⟩ := p1
          obtain ⟨o2, a2, b2, m2, d2⟩ := p2
          exact ⟨_, Reads.tuple a1 b1 d1 (.cons (.int _ _) (.cons (Reads.tuple a2 b2 d2 (IntsAre.reads _ hi)) .nil))⟩
    · rcases List.mem_cons.mp hb with rfl | hb
      · exact ⟨n, ns, rfl⟩
      · exact e3 b hb
theorem lots_out : ∀ {its : List Value} {bs : List (V × PyData)}, PySem.W.EachIs (fun v b => RelV b.1 v) its bs → Vals (bs.map (·.1)) its
  | _, _, .nil => .nil
  | _, _, .cons h t => .cons h (lots_out t)
/-- sorted of pairs of a number and a tuple of numbers -/
theorem call_sortLots (hu : X.A.units + 64 < cLine) : CallR X (.builtin "sorted") (rSortLots X.K) := by
  intro pins s σ H vs us Q I r h
  obtain ⟨a, xs, rfl, hs, h64, hx, q⟩ := h
  obtain ⟨its, rv, hl, _⟩ := I.list (SqL.of hs)
  rw [Vals.ref1 r]
  obtain ⟨bs, e0, e1, e2, e3⟩ := lots_mk (s := s) (fun t ys ht => by
    obtain ⟨its, rv, p, _⟩ := I.tuple (SqT.of ht)
    exact ⟨its, rv, p⟩) xs its rv hx
  have hlen : bs.length < 64 := by rw [← e0, List.length_map] at h64; exact h64
  refine PySem.W.sorted_data (β := V × PyData) (enc := (·.2)) hl.isList e1 e2 ?_ ?_ (small64 hlen) ?_ fun out hol eo => ?_
  · intro d hd d' hd'
    obtain ⟨b, hb, rfl⟩ := List.mem_map.mp hd
    obtain ⟨b', hb', rfl⟩ := List.mem_map.mp hd'
    obtain ⟨n, ns, e⟩ := e3 b hb
    obtain ⟨n', ns', e'⟩ := e3 b' hb'
    rw [e, e']
    have k : ∀ (l m : List Int), PySem.W.alikeAll (l.map PyData.int) (m.map PyData.int) = true := fun l => by
      induction l with
      | nil => intro m; simp [PySem.W.alikeAll]
      | cons x l ih => intro m; cases m with
        | nil => simp [PySem.W.alikeAll]
        | cons y m => simp [PySem.W.alikeAll, PySem.W.alike, ih]
    simp [PySem.W.alike, PySem.W.alikeAll, k]
  · refine .inl fun d hd => ?_
    obtain ⟨b, hb, rfl⟩ := List.mem_map.mp hd
    obtain ⟨n, ns, e⟩ := e3 b hb
    exact ⟨_, _, e⟩
  · intro b hb
    obtain ⟨n, ns, e⟩ := e3 b hb
    rw [e]
    have k : ∀ (l : List Int), PyData.depthAll (l.map PyData.int) ≤ 1 := fun l => by
      induction l with
      | nil => simp [PyData.depthAll]
      | cons x l ih => simp [PyData.depthAll, PyData.depth]; try omega
    have := k ns
    simp [PyData.depth, PyData.depthAll]
    omega
  obtain ⟨ep, he'⟩ := PyProof.Rows.sortedAll_at s.heap its out.toArray
  have hp : (bs.mergeSort (PySem.W.dataLe false (·.2))).Perm bs := List.mergeSort_perm ..
  have hlen2 : ((bs.mergeSort (PySem.W.dataLe false (·.2))).map (·.1)).length ≤ sizeLine := by rw [List.length_map, hp.length_eq]; exact small64 hlen
  refine ⟨.ref _, upd H (s.heap.objs.size + 1) (.lst ((bs.mergeSort (PySem.W.dataLe false (·.2))).map (·.1))), I.laid (t' := s.toks) (fun _ _ => PyProof.Rows.sortedAll_old) (Nat.le_succ _) ⟨hlen2, out, ep, lots_out eo, he'⟩, rfl, q _ _ ?_ (I.hok.fresh (Nat.le_succ _))⟩
  rw [← e0]
  exact hp.map _
end
end
end RC

end
section
set_option Elab.async false
set_option linter.all false
set_option maxRecDepth 100000
set_option maxHeartbeats 4000000
namespace RC
open PySem PySem.Spec PyProof.Rows L2
local macro_rules | `(tactic| walk_at "sub") => `(tactic| first | exact sub_nil | (apply sub_cons; walk_at "sub") | (apply sub_drop; walk_at "sub"))
local macro_rules | `(tactic| walk_at "hr") => `(tactic| (repeat apply Exists.intro) <;> (refine And.intro rfl ?_) <;> (repeat' apply And.intro) <;> (first | rfl | assumption | omega | skip))
local macro_rules | `(tactic| walk_at "ev") => `(tactic| first
  | exact ty_var rfl
  | exact ty_int
  | exact ty_bl
  | exact ty_non
  | exact ty_str
  | exact ta_nil
  | (apply ta_cons <;> walk_at "ev")
  | (apply tt_test <;> walk_at "ev")
  | (apply tt_B <;> walk_at "ev")
  | (apply tt_not <;> walk_at "ev")
  | (apply tt_and <;> (first | walk_at "ev" | (intro _; walk_at "ev")))
  | (apply tt_or <;> (first | walk_at "ev" | (intro _; walk_at "ev")))
  | (apply ty_and <;> (first | walk_at "ev" | (intro _; walk_at "ev")))
  | (apply ty_or <;> (first | walk_at "ev" | (intro _; walk_at "ev")))
  | (apply ty_not <;> walk_at "ev")
  | (apply ty_succ <;> walk_at "ev")
  | (apply ty_add <;> walk_at "ev")
  | (apply ty_sub <;> walk_at "ev")
  | (apply ty_lt <;> walk_at "ev")
  | (apply ty_le <;> walk_at "ev")
  | (apply ty_gt <;> walk_at "ev")
  | (apply ty_ge <;> walk_at "ev")
  | (apply ty_leleI <;> walk_at "ev")
  | (apply ty_ltltI <;> walk_at "ev")
  | (apply ty_isOpen <;> walk_at "ev")
  | (apply ty_isRow <;> walk_at "ev")
  | (apply ty_isWait <;> walk_at "ev")
  | (apply ty_o1 <;> walk_at "ev")
  | (apply ty_o2 <;> walk_at "ev")
  | (apply ty_o3 <;> walk_at "ev")
  | (apply ty_r1 <;> walk_at "ev")
  | (apply ty_r2 <;> walk_at "ev")
  | (apply ty_r3 <;> walk_at "ev")
  | (apply ty_eqI <;> walk_at "ev")
  | (apply ty_eqS <;> (first | walk_at "ev" | decide +kernel))
  | (apply ty_wrote <;> walk_at "ev")
  | (apply ty_bare <;> walk_at "ev")
  | (apply ty_isN <;> walk_at "ev")
  | (apply ty_notN <;> walk_at "ev")
  | (apply ty_neI <;> walk_at "ev")
  | (apply ty_neg <;> walk_at "ev")
  | (apply ty_inTN <;> walk_at "ev")
  | (apply ty_inLN <;> walk_at "ev")
  | (apply ty_niTN <;> walk_at "ev")
  | (apply ty_isi <;> (first | walk_at "ev" | exact kit_ii | exact kit_ib | exact kit_tt | exact kit_ss | exact kit_bb))
  | exact tyc_len (k := 0) rfl rfl
  | exact tyc_len (k := 1) rfl rfl
  | (apply ty_lenT <;> walk_at "ev")
  | (apply ty_lenL <;> walk_at "ev")
  | (apply ty_d0 <;> walk_at "ev")
  | (apply ty_d1 <;> walk_at "ev")
  | (apply ty_d2 <;> walk_at "ev")
  | (apply ty_di <;> (first | walk_at "ev" | assumption))
  | (apply ty_ixT <;> (first | walk_at "ev" | rfl | exact atI_map_nat _ (by assumption) | (show _ = _)))
  | (apply ty_ixL <;> (first | walk_at "ev" | rfl | exact atI_map_nat _ (by assumption) | (show _ = _)))
  | (apply ty_cells (by assumption) <;> walk_at "ev")
  | (apply ty_head (by assumption) <;> walk_at "ev")
  | (apply ty_deeds (by assumption) <;> walk_at "ev")
  | (apply ty_tupleL <;> walk_at "ev")
  | (apply ty_tupleT <;> walk_at "ev")
  | (apply ty_slT <;> walk_at "ev")
  | exact to_no
  | (apply to_some <;> walk_at "ev")
  | (apply ty_tup <;> (first | walk_at "ev" | decide | (simp; done)))
  | (apply ty_call <;> (first | walk_at "ev" | walk_at "hr")))
local macro_rules | `(tactic| walk_at "bv") => `(tactic| first | rfl | (refine congrArg BV ?_; simp; done) | (refine congrArg BV ?_; simp; omega) | (simp; done) | (simp; omega) | omega)
section
variable {K : PySem.W.Frag} {mg : Str → Option Value} {vs : List V} {H : Hp} {Q : VK} {E : XK}
/-- what the clauses 'except x as n', then others, wish of an exception of the body -/
def wAsMany (K : PySem.W.Frag) (c : Value) (i : Nat) (ts : Addr → Value → Option Addr → TS) (Wout : WX) (l : List (Value × (Addr → Value → Option Addr → TS))) (D : Ends) : WX := wAs K c i ts (wMany K Wout D l) D
section
variable {X : Cx} {x n : Str} {c : Value} {i : Nat} {body suite : List Stmt} {b₀ : Stmt} {np pos pos' : Pos} {hds : List ExceptHandler} {l : List (Value × (Addr → Value → Option Addr → TS))} {tb : WX → TS} {ts : Addr → Value → Option Addr → TS} {Wout : WX}
/-- try, a clause that names its exception, then clauses that do not -/
theorem ps_try_asMany (hs : X.stack = X.env :: X.outer) (hf : X.env.frame = some X.env.locals) (hN : X.N.Nodup) (hi : X.N[i]? = some n) (hln : X.env.kindOf n = some .local) (hc : Names X x c) (tk : Takes X Wout)
    (hb : ∀ (W : WX) (pn : List (Addr × Obj)) (xe : Value → Shared → Prop), Takes (X.tr pn xe) W → PassesOwn (model X.prog X.w) X.A X.env xe → PSs (X.tr pn xe) body (tb W))
    (hsu : ∀ (a : Addr) (oe : Obj) (cls : Value) (d : Option Addr) (pn : List (Addr × Obj)), Zc cls d oe → (∃ vs, oe.data = .fields vs) → PSs (X.suite a ((a, oe) :: pn)) (b₀ :: suite) (ts a cls d))
    (hh : HdsOk X hds l) : PS X (.Try body (.ExceptHandler (some (.Name x np)) (some n) (b₀ :: suite) pos' :: hds) [] [] pos) (fun D σ H => tb (wAsMany X.K c i ts Wout l D) D σ H) := by
  refine ⟨fun pins s σ H D I h => ?_⟩
  have ok := I.ok
  have hfr : X.A.frames = some (X.env :: X.outer) := by rw [ok.frames, hs]
  refine wpAny_Try_except ?_
  refine wpAny_mono ((hb (wAsMany X.K c i ts Wout l D) (X.pn ++ pins) (fun e s₁ => wpAny (model X.prog X.w) X.A (noteFrame e X.env) (fun _ s₂ => wpAny (model X.prog X.w) X.A (setFlight e none) (fun _ s₃ =>
    wpAny (model X.prog X.w) X.A (handleBy e X.env (.ExceptHandler (some (.Name x np)) (some n) (b₀ :: suite) pos' :: hds)) (SP X pins D) X.xe s₃) X.xe s₂) X.xe s₁) (fun u s' xx => ?_) PassesOwn.looking).run [] s σ H D (I.toTry _) h) (fun f s1 hsp => ?_) (fun e s1 he => he)
  · obtain ⟨a, B, sI, pins', σ', H', cls, d, rfl, J', nb, up, sky, na, os, ag, w⟩ := xx
    have J : Inv X pins σ' H' sI := J'.ofTry ok
    have sky' : Sky B (X.env :: X.outer) a (Zc cls d) X.env.locals s'.heap := by rw [← hs]; exact sky
    show wpAny (model X.prog X.w) X.A (noteFrame (.ref a) X.env) _ _ _
    refine Sky.land Zc.steady hfr hf sky' fun h3 fl3 up3 => ?_
    have J3 : Inv X pins σ' H' { s' with heap := h3 } := J.landed nb fl3.1 (up.trans up3) os ag
    obtain ⟨oe3, vs3, he3, hz3, hd3⟩ := fl3.there
    have nfr : a ∉ frs (X.env :: X.outer) := fun hm => by
      obtain ⟨_, o', e', hnf⟩ := fl3.2.2.1.mem hm
      rw [he3] at e'; cases e'
      exact hnf _ hd3
    have nL : a ≠ X.env.locals := fun z => nfr (List.mem_filterMap.mpr ⟨X.env, List.mem_cons_self, by rw [hf, z]⟩)
    have nF : a ∉ X.fs := fun hm => by
      obtain ⟨e, he, q⟩ := List.mem_filterMap.mp hm
      exact nfr (List.mem_filterMap.mpr ⟨e, List.mem_cons_of_mem _ he, q⟩)
    have S3 := J3.suite he3 hd3 na nL nF
    have LT : PySem.W.Looks (model X.prog X.w) h3 (typeOf (.ref a)) cls := fun A Q E s k q => wpAny_typeOf_ref (k _ _ he3) (by rw [hz3.1]; exact q)
    have test : ∀ {y : Str} {c' : Value} {mp : Pos} {Q : Value → Shared → Prop} {E : Value → Shared → Prop}, Names X y c' → Q c' { s' with heap := h3 } → wpAny (model X.prog X.w) (X.A.mark (some (.ref a))) (eval (.Name y mp) X.env) Q E { s' with heap := h3 } := fun {y c' mp Q E} hc q => by
      obtain ⟨hg, hdbg, hm | ⟨hm, hv, hnn⟩⟩ := hc
      · exact ld_glob (X := X.suite a ((a, oe3) :: (X.pn ++ pins))) S3 hg hm q hdbg
      · exact ld_blt (X := X.suite a ((a, oe3) :: (X.pn ++ pins))) S3 hg hm hv q hnn hdbg
    have go : ∀ {hds' : List ExceptHandler} {l' : List (Value × (Addr → Value → Option Addr → TS))}, HdsOk X hds' l' → wMany X.K Wout D l' cls d σ' H' →
        wpAny (model X.prog X.w) X.A (handleBy (.ref a) X.env hds') (SP X pins D) X.xe { s' with heap := h3 } := by
      intro hds' l' hk
      induction hk with
      | nil =>
        intro w
        refine wpAny_handleBy_nil ?_
        obtain ⟨k1, k2, k3, oe, vs, T, oT, ts', he, hz, hd, h1, hr⟩ := id fl3
        unfold PySem.passOn
        refine wpAny_bind (wpAny_field he hd h1 ?_)
        rw [if_neg (show ¬ ((Value.ref T == Value.none) = true) from by simp)]
        have fin : wpAny (model X.prog X.w) X.A (setFlight (.ref a) X.env.frame) (fun _ s4 => wpAny (model X.prog X.w) X.A (throw (.ref a) : Sem Flow) (SP X pins D) X.xe s4) X.xe { s' with heap := h3 } := by
          rw [hf]
          refine HandSPX.setFlight_upZ fl3 fun h4 hh4 up4 => wpAny_throw (tk _ _ ?_)
          exact ⟨a, B, sI, pins, σ', H', cls, d, rfl, J, nb, (up.trans up3).trans up4, .inr (.inr (by rw [hs]; exact hh4)), na, os, ag, w⟩
        first
          | exact wpAny_bind (wpAny_pure (wpAny_bind fin))
          | exact wpAny_bind fin
      | @cons x c ts b₀ suite np pos' hds2 l2 hc hsu r ih =>
        intro w
        obtain ⟨b, hb1, hyes, hno⟩ := w
        refine wpAny_handleBy_cons (codeAny_handlers_test ?_) (by intro q; cases q)
        refine test hc ((PySem.W.exm_one (M := model X.prog X.w) (J3.kIn) LT hb1).here ?_)
        cases b with
        | true =>
          refine codeAny_handlers_suite ?_
          refine HandSPX.lands_againZ fl3 fun h4 fl4 up4 => ?_
          have J4 : Inv X pins σ' H' { s' with heap := h4 } := J.landed nb fl4.1 ((up.trans up3).trans up4) os ag
          obtain ⟨oe4, vs4, he4, hz4, hd4⟩ := fl4.there
          have S4 := J4.suite he4 hd4 na nL nF
          refine wpAny_mono ((hsu a oe4 cls d (X.pn ++ pins) hz4 ⟨_, hd4⟩).run [] _ _ H' _ S4 (hyes rfl a na)) (fun f s6 hsp => ?_) (fun _ _ z => False.elim z)
          cases f with
          | ret u =>
            obtain ⟨v6, σ6, H6, S6, r6, q6⟩ := hsp
            exact ⟨_, _, _, S6.unsuite ok, r6, q6⟩
          | next =>
            obtain ⟨σ6, H6, S6, q6⟩ := hsp
            exact ⟨_, _, S6.unsuite ok, q6⟩
          | brk =>
            obtain ⟨σ6, H6, S6, q6⟩ := hsp
            exact ⟨_, _, S6.unsuite ok, q6⟩
          | cont =>
            obtain ⟨σ6, H6, S6, q6⟩ := hsp
            exact ⟨_, _, S6.unsuite ok, q6⟩
        | false =>
          show wpAny _ X.A (handleBy (.ref a) X.env hds2) _ _ _
          exact ih (hno rfl)
    obtain ⟨b, hb1, hyes, hno⟩ := w
    refine wpAny_handleBy_cons (codeAny_handlers_test ?_) (by intro q; cases q)
    refine test hc ((PySem.W.exm_one (M := model X.prog X.w) (J3.kIn) LT hb1).here ?_)
    cases b with
    | true =>
      refine codeAny_handlers_suite_as ?_
      refine HandSPX.lands_againZ fl3 fun h4 fl4 up4 => ?_
      have J4 : Inv X pins σ' H' { s' with heap := h4 } := J.landed nb fl4.1 ((up.trans up3).trans up4) os ag
      obtain ⟨oe4, vs4, he4, hz4, hd4⟩ := fl4.there
      have S4 := J4.suite he4 hd4 na nL nF
      refine store_ok (X := X.suite a ((a, oe4) :: (X.pn ++ pins))) (v := .ref a) S4 hN hi (.inl hln) rfl (fun s5 S5 => ?_) (.inr hln)
      refine wpAny_mono ((hsu a oe4 cls d (X.pn ++ pins) hz4 ⟨_, hd4⟩).run [] s5 _ H' _ S5 (hyes rfl a na)) (fun f s6 hsp => ?_) (fun _ _ z => False.elim z)
      have end_ : ∀ {σ6 : L2.St} {H6 : Hp} {Q : Shared → Prop}, Inv (X.suite a ((a, oe4) :: (X.pn ++ pins))) [] σ6 H6 s6 → (∀ s7, Inv X pins (σ6.set i none) H6 s7 → Q s7) →
          wpAny (model X.prog X.w) X.A (do bindName X.env n .none; unbindBehindTheSuite X.env n pos') (fun _ s7 => Q s7) X.xe s6 := fun {σ6 H6 Q} S6 hq => gone_ok (S6.unsuite ok) hN hi hln hq
      cases f with
      | ret u =>
        obtain ⟨v6, σ6, H6, S6, r6, q6⟩ := hsp
        exact end_ S6 fun s7 J7 => ⟨_, _, _, J7, r6, q6⟩
      | next =>
        obtain ⟨σ6, H6, S6, q6⟩ := hsp
        exact end_ S6 fun s7 J7 => ⟨_, _, J7, q6⟩
      | brk =>
        obtain ⟨σ6, H6, S6, q6⟩ := hsp
        exact end_ S6 fun s7 J7 => ⟨_, _, J7, q6⟩
      | cont =>
        obtain ⟨σ6, H6, S6, q6⟩ := hsp
        exact end_ S6 fun s7 J7 => ⟨_, _, J7, q6⟩
    | false =>
      show wpAny _ X.A (handleBy (.ref a) X.env hds) _ _ _
      exact go hh (hno rfl)
  · cases f with
    | ret u =>
      obtain ⟨v, σ', H', J', r, q⟩ := hsp
      exact ⟨v, σ', H', J'.ofTry ok, r, q⟩
    | next =>
      obtain ⟨σ', H', J', q⟩ := hsp
      exact wpAny_execs_nil ⟨σ', H', J'.ofTry ok, q⟩
    | brk =>
      obtain ⟨σ', H', J', q⟩ := hsp
      exact ⟨σ', H', J'.ofTry ok, q⟩
    | cont =>
      obtain ⟨σ', H', J', q⟩ := hsp
      exact ⟨σ', H', J'.ofTry ok, q⟩
end
end
end RC

end
section
set_option Elab.async false
set_option linter.all false
set_option maxRecDepth 100000
set_option maxHeartbeats 4000000
namespace RC
open PySem PySem.Spec PyProof.Rows L2
local macro_rules | `(tactic| walk_at "sub") => `(tactic| first | exact sub_nil | (apply sub_cons; walk_at "sub") | (apply sub_drop; walk_at "sub"))
local macro_rules | `(tactic| walk_at "hr") => `(tactic| (repeat apply Exists.intro) <;> (refine And.intro rfl ?_) <;> (repeat' apply And.intro) <;> (first | rfl | assumption | omega | skip))
local macro_rules | `(tactic| walk_at "ev") => `(tactic| first
  | exact ty_var rfl
  | exact ty_int
  | exact ty_bl
  | exact ty_non
  | exact ty_str
  | exact ta_nil
  | (apply ta_cons <;> walk_at "ev")
  | (apply tt_test <;> walk_at "ev")
  | (apply tt_B <;> walk_at "ev")
  | (apply tt_not <;> walk_at "ev")
  | (apply tt_and <;> (first | walk_at "ev" | (intro _; walk_at "ev")))
  | (apply tt_or <;> (first | walk_at "ev" | (intro _; walk_at "ev")))
  | (apply ty_and <;> (first | walk_at "ev" | (intro _; walk_at "ev")))
  | (apply ty_or <;> (first | walk_at "ev" | (intro _; walk_at "ev")))
  | (apply ty_not <;> walk_at "ev")
  | (apply ty_succ <;> walk_at "ev")
  | (apply ty_add <;> walk_at "ev")
  | (apply ty_sub <;> walk_at "ev")
  | (apply ty_lt <;> walk_at "ev")
  | (apply ty_le <;> walk_at "ev")
  | (apply ty_gt <;> walk_at "ev")
  | (apply ty_ge <;> walk_at "ev")
  | (apply ty_leleI <;> walk_at "ev")
  | (apply ty_ltltI <;> walk_at "ev")
  | (apply ty_isOpen <;> walk_at "ev")
  | (apply ty_isRow <;> walk_at "ev")
  | (apply ty_isWait <;> walk_at "ev")
  | (apply ty_o1 <;> walk_at "ev")
  | (apply ty_o2 <;> walk_at "ev")
  | (apply ty_o3 <;> walk_at "ev")
  | (apply ty_r1 <;> walk_at "ev")
  | (apply ty_r2 <;> walk_at "ev")
  | (apply ty_r3 <;> walk_at "ev")
  | (apply ty_eqI <;> walk_at "ev")
  | (apply ty_eqS <;> (first | walk_at "ev" | decide +kernel))
  | (apply ty_wrote <;> walk_at "ev")
  | (apply ty_bare <;> walk_at "ev")
  | (apply ty_isN <;> walk_at "ev")
  | (apply ty_notN <;> walk_at "ev")
  | (apply ty_neI <;> walk_at "ev")
  | (apply ty_neg <;> walk_at "ev")
  | (apply ty_inTN <;> walk_at "ev")
  | (apply ty_inLN <;> walk_at "ev")
  | (apply ty_niTN <;> walk_at "ev")
  | (apply ty_isi <;> (first | walk_at "ev" | exact kit_ii | exact kit_ib | exact kit_tt | exact kit_ss | exact kit_bb))
  | exact tyc_len (k := 0) rfl rfl
  | exact tyc_len (k := 1) rfl rfl
  | (apply ty_lenT <;> walk_at "ev")
  | (apply ty_lenL <;> walk_at "ev")
  | (apply ty_d0 <;> walk_at "ev")
  | (apply ty_d1 <;> walk_at "ev")
  | (apply ty_d2 <;> walk_at "ev")
  | (apply ty_di <;> (first | walk_at "ev" | assumption))
  | (apply ty_ixT <;> (first | walk_at "ev" | rfl | exact atI_map_nat _ (by assumption) | (show _ = _)))
  | (apply ty_ixL <;> (first | walk_at "ev" | rfl | exact atI_map_nat _ (by assumption) | (show _ = _)))
  | (apply ty_cells (by assumption) <;> walk_at "ev")
  | (apply ty_head (by assumption) <;> walk_at "ev")
  | (apply ty_deeds (by assumption) <;> walk_at "ev")
  | (apply ty_tupleL <;> walk_at "ev")
  | (apply ty_tupleT <;> walk_at "ev")
  | (apply ty_slT <;> walk_at "ev")
  | exact to_no
  | (apply to_some <;> walk_at "ev")
  | (apply ty_tup <;> (first | walk_at "ev" | decide | (simp; done)))
  | (apply ty_call <;> (first | walk_at "ev" | walk_at "hr")))
local macro_rules | `(tactic| walk_at "bv") => `(tactic| first | rfl | (refine congrArg BV ?_; simp; done) | (refine congrArg BV ?_; simp; omega) | (simp; done) | (simp; omega) | omega)
section
variable {K : PySem.W.Frag} {mg : Str → Option Value} {vs : List V} {H : Hp} {Q : VK} {E : XK}
theorem pure_is_integer (T : Txt K mg) (h : sp_is_integer K vs H Q E) : t_is_integer K (endsOf Q) (L2.start N_is_integer vs) H := enter h fun Ps P hR C hW hr hf => by
  obtain ⟨i, rfl, rfl⟩ := hR
  apply ok_retE hr
  · walk_at "ev"
  · rfl
theorem pure_is_within (T : Txt K mg) (h : sp_is_within K vs H Q E) : t_is_within K (endsOf Q) (L2.start N_is_within vs) H := enter h fun Ps P hR C hW hr hf => by
  obtain ⟨i, a, b, rfl, rfl⟩ := hR
  apply ok_retE hr
  · walk_at "ev"
  · rfl
theorem pure_is_number (T : Txt K mg) (h : sp_is_number K vs H Q E) : t_is_number K (endsOf Q) (L2.start N_is_number vs) H := enter h fun Ps P hR C hW hr hf => by
  obtain ⟨i, b, rfl, rfl⟩ := hR
  apply ok_retE hr
  · walk_at "ev"
  · rfl
theorem pure_is_triple (T : Txt K mg) (h : sp_is_triple K vs H Q E) : t_is_triple K (endsOf Q) (L2.start N_is_triple vs) H := enter h fun Ps P hR C hW hr hf => by
  obtain ⟨ds, rfl, rfl⟩ := hR
  apply ok_retE hr
  · walk_at "ev"
  · rw [Bool.true_and]; exact congrArg BV (dec_iff (by omega))
theorem pure_is_lot (T : Txt K mg) (h : sp_is_lot K vs H Q E) : t_is_lot K (endsOf Q) (L2.start N_is_lot vs) H := enter h fun Ps P hR C hW hr hf => by
  obtain ⟨lot, m, rfl, ⟨hs, hm⟩, rfl⟩ := hR
  apply ok_passE
  · walk_at "ev"
  · rfl
  apply ok_asgE (IV (-1))
  · walk_at "ev"
  · rfl
  refine ok_forL lot nD (fun _ => []) (fun i => [some (DV (lotD lot)), some (IV (m : Nat)), some (IV (match i with | 0 => -1 | j + 1 => ((lot.getD j 0 : Nat) : Int))), none]) (fun _ => True) (ti_tup (ty_var rfl)) trivial rfl (by walk_at "sub") (fun L' hL i x hx _ => ?_) fun _ => ok_ret ty_bl hr
  refine ⟨_, tg_name, ?_⟩
  have hxm := hm x (List.mem_of_getElem? hx)
  apply ok_passE
  · walk_at "ev"
  · show (!(decide (_ ≤ ((x : Nat) : Int)) && decide (((x : Nat) : Int) ≤ (m : Nat) - 1))) = false
    simp only [Bool.not_eq_false', Bool.and_eq_true, decide_eq_true_eq]
    refine ⟨?_, by omega⟩
    cases i with
    | zero =>
      show (-1 : Int) + 1 ≤ (x : Nat)
      omega
    | succ j =>
      show ((lot.getD j 0 : Nat) : Int) + 1 ≤ (x : Nat)
      have hl := (List.getElem?_eq_some_iff.mp hx).1
      have hj : j < lot.length := by omega
      have := (List.pairwise_iff_getElem.mp hs) j (j + 1) hj hl (by omega)
      rw [(List.getElem?_eq_some_iff.mp hx).2] at this
      rw [getD_of (List.getElem?_eq_getElem hj)]
      omega
  · refine ok_tl (ok_asg (ty_var rfl) (ok_fin trivial rfl ?_ fun _ _ a => a))
    show Sub _ [_, _, some (IV ((lot.getD i 0 : Nat) : Int)), _]
    rw [getD_of hx]
    walk_at "sub"
end
end RC

end
section
set_option Elab.async false
set_option linter.all false
set_option maxRecDepth 100000
set_option maxHeartbeats 4000000
namespace RC
open PySem PySem.Spec PyProof.Rows L2
local macro_rules | `(tactic| walk_at "sub") => `(tactic| first | exact sub_nil | (apply sub_cons; walk_at "sub") | (apply sub_drop; walk_at "sub"))
local macro_rules | `(tactic| walk_at "hr") => `(tactic| (repeat apply Exists.intro) <;> (refine And.intro rfl ?_) <;> (repeat' apply And.intro) <;> (first | rfl | assumption | omega | skip))
local macro_rules | `(tactic| walk_at "ev") => `(tactic| first
  | exact ty_var rfl
  | exact ty_int
  | exact ty_bl
  | exact ty_non
  | exact ty_str
  | exact ta_nil
  | (apply ta_cons <;> walk_at "ev")
  | (apply tt_test <;> walk_at "ev")
  | (apply tt_B <;> walk_at "ev")
  | (apply tt_not <;> walk_at "ev")
  | (apply tt_and <;> (first | walk_at "ev" | (intro _; walk_at "ev")))
  | (apply tt_or <;> (first | walk_at "ev" | (intro _; walk_at "ev")))
  | (apply ty_and <;> (first | walk_at "ev" | (intro _; walk_at "ev")))
  | (apply ty_or <;> (first | walk_at "ev" | (intro _; walk_at "ev")))
  | (apply ty_not <;> walk_at "ev")
  | (apply ty_succ <;> walk_at "ev")
  | (apply ty_add <;> walk_at "ev")
  | (apply ty_sub <;> walk_at "ev")
  | (apply ty_lt <;> walk_at "ev")
  | (apply ty_le <;> walk_at "ev")
  | (apply ty_gt <;> walk_at "ev")
  | (apply ty_ge <;> walk_at "ev")
  | (apply ty_leleI <;> walk_at "ev")
  | (apply ty_ltltI <;> walk_at "ev")
  | (apply ty_isOpen <;> walk_at "ev")
  | (apply ty_isRow <;> walk_at "ev")
  | (apply ty_isWait <;> walk_at "ev")
  | (apply ty_o1 <;> walk_at "ev")
  | (apply ty_o2 <;> walk_at "ev")
  | (apply ty_o3 <;> walk_at "ev")
  | (apply ty_r1 <;> walk_at "ev")
  | (apply ty_r2 <;> walk_at "ev")
  | (apply ty_r3 <;> walk_at "ev")
  | (apply ty_eqI <;> walk_at "ev")
  | (apply ty_eqS <;> (first | walk_at "ev" | decide +kernel))
  | (apply ty_wrote <;> walk_at "ev")
  | (apply ty_bare <;> walk_at "ev")
  | (apply ty_isN <;> walk_at "ev")
  | (apply ty_notN <;> walk_at "ev")
  | (apply ty_neI <;> walk_at "ev")
  | (apply ty_neg <;> walk_at "ev")
  | (apply ty_inTN <;> walk_at "ev")
  | (apply ty_inLN <;> walk_at "ev")
  | (apply ty_niTN <;> walk_at "ev")
  | (apply ty_isi <;> (first | walk_at "ev" | exact kit_ii | exact kit_ib | exact kit_tt | exact kit_ss | exact kit_bb))
  | exact tyc_len (k := 0) rfl rfl
  | exact tyc_len (k := 1) rfl rfl
  | (apply ty_lenT <;> walk_at "ev")
  | (apply ty_lenL <;> walk_at "ev")
  | (apply ty_d0 <;> walk_at "ev")
  | (apply ty_d1 <;> walk_at "ev")
  | (apply ty_d2 <;> walk_at "ev")
  | (apply ty_di <;> (first | walk_at "ev" | assumption))
  | (apply ty_ixT <;> (first | walk_at "ev" | rfl | exact atI_map_nat _ (by assumption) | (show _ = _)))
  | (apply ty_ixL <;> (first | walk_at "ev" | rfl | exact atI_map_nat _ (by assumption) | (show _ = _)))
  | (apply ty_cells (by assumption) <;> walk_at "ev")
  | (apply ty_head (by assumption) <;> walk_at "ev")
  | (apply ty_deeds (by assumption) <;> walk_at "ev")
  | (apply ty_tupleL <;> walk_at "ev")
  | (apply ty_tupleT <;> walk_at "ev")
  | (apply ty_slT <;> walk_at "ev")
  | exact to_no
  | (apply to_some <;> walk_at "ev")
  | (apply ty_tup <;> (first | walk_at "ev" | decide | (simp; done)))
  | (apply ty_call <;> (first | walk_at "ev" | walk_at "hr")))
local macro_rules | `(tactic| walk_at "bv") => `(tactic| first | rfl | (refine congrArg BV ?_; simp; done) | (refine congrArg BV ?_; simp; omega) | (simp; done) | (simp; omega) | omega)
section
variable {K : PySem.W.Frag} {mg : Str → Option Value} {vs : List V} {H : Hp} {Q : VK} {E : XK}
def lastF (ds : List Dd) : Nat → Option Int
  | 0 => some (-1)
  | j + 1 => (ds.getD j (none, 0)).1
theorem pure_is_first_behind (T : Txt K mg) (h : sp_is_first_behind K vs H Q E) : t_is_first_behind K (endsOf Q) (L2.start N_is_first_behind vs) H := enter h fun Ps P hR C hW hr hf => by
  obtain ⟨hd, l, f, rfl, hg, rfl⟩ := hR
  cases f with
  | none =>
    refine ok_ret (P := BV true) ?_ hr
    exact (ty_or (a := true) (b := true) (ty_isN (d := .none) (ty_var rfl)) fun z => nomatch z)
  | some g =>
    obtain ⟨k, rfl, h1, h2⟩ := hg g rfl
    refine ok_ret (P := BV true) ?_ hr
    refine ty_or (a := false) (b := true) (ty_isN (d := .int g) (ty_var rfl)) fun _ => ?_
    refine ty_and (a := true) (b := true) (ty_notN (d := .int k) (ty_var rfl)) fun _ => ?_
    refine ty_call (ta_cons (ty_var rfl) (ta_cons (ty_add (ty_var (P := DV (.int k)) rfl) ty_int) (ta_cons (ty_sub (ty_var rfl) ty_int) ta_nil))) ⟨g, _, _, rfl, ?_⟩
    rw [decide_eq_true (by omega), decide_eq_true (by omega)] <;> rfl
theorem pure_is_waits (T : Txt K mg) (h : sp_is_waits K vs H Q E) : t_is_waits K (endsOf Q) (L2.start N_is_waits vs) H := enter h fun Ps P hR C hW hr hf => by
  obtain ⟨m, i, rfl, rfl⟩ := hR
  refine ok_ret (P := BV true) ?_ hr
  refine ty_and (a := true) (b := true) (ty_call (ta_cons (ty_var (P := DV (lotD [])) rfl) (ta_cons (ty_var rfl) ta_nil)) ⟨[], m, rfl, ⟨.nil, fun _ z => nomatch z⟩, rfl⟩) fun _ => ?_
  exact ty_niTN (l := []) (ty_var rfl) (ty_var rfl)
theorem pure_first_wrong (T : Txt K mg) (h : sp_first_wrong K vs H Q E) : t_first_wrong K (endsOf Q) (L2.start N_first_wrong vs) H := enter h fun Ps P hR C hW hr hf => by
  obtain ⟨c, hd, ds, rfl, ⟨⟨k, hk, hnl⟩, hnd, hasc, hfst, _⟩, rfl⟩ := hR
  apply ok_asgE (IV (-1))
  · walk_at "ev"
  · rfl
  refine ok_forL ds.zipIdx (fun p => PyData.tuple [nD p.2, dD p.1]) (fun _ => []) (fun i => [some (IV hd), some (DV (dsD ds)), some (DV (oD (lastF ds i))), none, none]) (fun _ => True) (ti_enumTF (ty_var rfl)) trivial rfl (by walk_at "sub") (fun L' hL i x hx _ => ?_) fun _ => ok_ret ty_non hr
  rw [List.getElem?_zipIdx] at hx
  cases hd0 : ds[i]? with
  | none =>
    rw [hd0] at hx
    cases hx
  | some d =>
    rw [hd0] at hx
    have ex : x = (d, 0 + i) := (Option.some.inj hx).symm
    subst ex
    rw [Nat.zero_add]
    have hm := List.mem_of_getElem? hd0
    obtain ⟨n1, n2⟩ := hnd d hm
    refine ⟨_, tg_tup (tgs_cons tg_name (tgs_cons tg_name tgs_nil)), ?_⟩
    apply ok_passE (b := false)
    · refine tt_or (a := false) (b := false) (tt_not (b := true) (tt_B (ty_call (ta_cons (ty_var rfl) ta_nil) ⟨[oD d.1, .int d.2, e0], rfl, rfl⟩))) fun _ => tt_not (b := true) (tt_B (ty_call (ta_cons (ty_var rfl) (ta_cons (ty_var rfl) (ta_cons (ty_ixT (ds := [oD d.1, .int d.2, e0]) (d := oD d.1) (ty_var rfl) ty_int rfl) ta_nil))) ⟨hd, lastF ds i, d.1, rfl, ?_, rfl⟩))
      · intro g hg
        have hdm : (some g, d.2) ∈ ds := by
          rw [← hg]
          exact hm
        obtain ⟨z1, z2⟩ := hfst g d.2 hdm
        cases i with
        | zero => exact ⟨-1, rfl, by omega, z2⟩
        | succ j =>
          have hl := (List.getElem?_eq_some_iff.mp hd0).1
          have hj : ds[j]? = some (ds.getD j (none, 0)) := getD_lt (by omega)
          have hw : wrote d = true := by
            unfold wrote
            rw [hg] <;> rfl
          have hik := (hnl _ _ hd0).mp hw
          have hjw := (hnl _ _ hj).mpr (by omega)
          obtain ⟨fj, nj, hq⟩ : ∃ a b, ds.getD j (none, 0) = (a, b) := ⟨_, _, rfl⟩
          rw [hq] at hj hjw
          cases fj with
          | none => cases hjw
          | some f => exact ⟨f, by show (ds.getD j (none, 0)).1 = some f; rw [hq], hasc j (j + 1) f g nj d.2 (by omega) hj (by rw [hd0, ← hg]), z2⟩
    · rfl
    apply ok_passE (b := false)
    · refine tt_or (a := false) (b := false) (tt_not (b := true) (tt_B (ty_call (ta_cons (ty_ixT (ds := [oD d.1, .int d.2, e0]) (d := .int d.2) (ty_var rfl) ty_int rfl) (ta_cons ty_int ta_nil)) ⟨d.2, _, rfl, ?_⟩))) fun _ => tt_not (b := true) (tt_B (ty_call (ta_cons (ty_lenT (ds := ds.map dD) (ty_var rfl)) (ta_cons (ty_var rfl) (ta_cons (ty_ixT (ds := [oD d.1, .int d.2, e0]) (d := e0) (ty_var rfl) ty_int rfl) ta_nil))) ⟨_, i, rfl, rfl⟩))
      rw [decide_eq_true n1, decide_eq_true n2] <;> rfl
    · rfl
    refine ok_tl (ok_asg (ty_ixT (ds := [oD d.1, .int d.2, e0]) (d := oD d.1) (ty_var rfl) ty_int rfl) (ok_fin trivial rfl ?_ fun _ _ a => a))
    show Sub _ [_, _, some (DV (oD (ds.getD i (none, 0)).1)), _, _]
    rw [getD_of hd0]
    walk_at "sub"
theorem pure_is_too_far (T : Txt K mg) (h : sp_is_too_far K vs H Q E) : t_is_too_far K (endsOf Q) (L2.start N_is_too_far vs) H := enter h fun Ps P hR C hW hr hf => by
  obtain ⟨c, hd, ds, rfl, hg, rfl⟩ := hR
  refine ok_ret (P := BV false) ?_ hr
  match ds, hg with
  | [], _ => exact ty_and (a := false) (b := false) (ty_gt (ty_lenT (ds := []) (ty_var rfl)) ty_int) fun z => nomatch z
  | (none, n) :: r, _ =>
    refine (ty_and (b := false) (ty_gt (ty_lenT (ds := ((none, n) :: r).map dD) (ty_var rfl)) ty_int) fun _ => ?_).to (by rw [Bool.and_false])
    exact ty_and (a := false) (b := false) (ty_notN (d := .none) (ty_d0 (d := (none, n)) (ty_di (i := 0) (ty_var rfl) ty_int rfl))) fun z => nomatch z
  | (some f, n) :: r, hg =>
    have hh := hg f n rfl
    have e1 : Ty (C.w []) (List.map some [IV c, IV hd, DV (dsD ((some f, n) :: r))] ++ List.replicate (N_is_too_far.length - 3) none) (tOp (rIxA K) (tOp (rIxA K) (tVar 2) (tC (.int 0))) (tC (.int 0))) (IV f) := ty_d0 (d := (some f, n)) (ty_di (i := 0) (ty_var rfl) ty_int rfl)
    refine (ty_and (b := false) (ty_gt (ty_lenT (ds := ((some f, n) :: r).map dD) (ty_var rfl)) ty_int) fun _ => ?_).to (by rw [Bool.and_false])
    refine ty_and (a := true) (b := false) (ty_notN (d := .int f) e1) fun _ => ?_
    exact (ty_gt (ty_sub (ty_var rfl) e1) (ty_var rfl)).to (by rw [decide_eq_false (by omega)])
theorem pure_first_in_ring (T : Txt K mg) (h : sp_first_in_ring K vs H Q E) : t_first_in_ring K (endsOf Q) (L2.start N_first_in_ring vs) H := enter h fun Ps P hR C hW hr hf => by
  obtain ⟨n, hn, rfl, rfl⟩ := hR
  refine ok_forL (List.zipIdx (List.replicate n e0)) (fun p => PyData.tuple [nD p.2, p.1]) (fun _ => []) (fun i => [some (LV (List.replicate n e0)), none, none]) (fun _ => True) ((ti_enumLF (f := fun x => x) (ty_var (P := LV ((List.replicate n e0).map fun x => x)) (by rw [List.map_id']; rfl)))) trivial rfl (by walk_at "sub") (fun L' hL i x hx _ => ?_) fun _ => ok_ret ty_non hr
  rw [List.getElem?_zipIdx, List.getElem?_replicate] at hx
  by_cases hi : i < n
  · rw [if_pos hi] at hx
    have ex : x = (e0, 0 + i) := (Option.some.inj hx).symm
    subst ex
    rw [Nat.zero_add]
    refine ⟨_, tg_tup (tgs_cons tg_name (tgs_cons tg_name tgs_nil)), ?_⟩
    refine ok_tl (ok_pass (tt_test (ty_inTN (l := []) (ty_var rfl) (ty_call (P := DV e0) (ta_cons (ty_var rfl) (ta_cons (ty_var rfl) ta_nil)) ⟨n, .inl ⟨rfl, rfl⟩⟩))) (ok_fin trivial rfl (by walk_at "sub") fun _ _ a => a))
  · rw [if_neg hi] at hx
    cases hx
theorem pure_waits_of (T : Txt K mg) (h : sp_waits_of K vs H Q E) : t_waits_of K (endsOf Q) (L2.start N_waits_of vs) H := enter h fun Ps P hR C hW hr hf => by
  obtain ⟨c, hd, ds, rfl, hl, rfl⟩ := hR
  have S := T.std
  refine ok_ret (TyN.ty (((tn_lcm (enc := dD) (f := fun _ => e0) ds (ti_tup (ty_deeds S (ty_var rfl))) (own3) mon3 (by omega) fun a _ => ⟨_, tg_tup (tgs_cons tg_name (tgs_cons tg_name (tgs_cons tg_name tgs_nil))), ty_var rfl⟩)).is (by rw [List.map_const']))) hr
end
end RC

end
section
set_option Elab.async false
set_option linter.all false
set_option maxRecDepth 100000
set_option maxHeartbeats 4000000
namespace RC
open PySem PySem.Spec PyProof.Rows L2
local macro_rules | `(tactic| walk_at "sub") => `(tactic| first | exact sub_nil | (apply sub_cons; walk_at "sub") | (apply sub_drop; walk_at "sub"))
local macro_rules | `(tactic| walk_at "hr") => `(tactic| (repeat apply Exists.intro) <;> (refine And.intro rfl ?_) <;> (repeat' apply And.intro) <;> (first | rfl | assumption | omega | skip))
local macro_rules | `(tactic| walk_at "ev") => `(tactic| first
  | exact ty_var rfl
  | exact ty_int
  | exact ty_bl
  | exact ty_non
  | exact ty_str
  | exact ta_nil
  | (apply ta_cons <;> walk_at "ev")
  | (apply tt_test <;> walk_at "ev")
  | (apply tt_B <;> walk_at "ev")
  | (apply tt_not <;> walk_at "ev")
  | (apply tt_and <;> (first | walk_at "ev" | (intro _; walk_at "ev")))
  | (apply tt_or <;> (first | walk_at "ev" | (intro _; walk_at "ev")))
  | (apply ty_and <;> (first | walk_at "ev" | (intro _; walk_at "ev")))
  | (apply ty_or <;> (first | walk_at "ev" | (intro _; walk_at "ev")))
  | (apply ty_not <;> walk_at "ev")
  | (apply ty_succ <;> walk_at "ev")
  | (apply ty_add <;> walk_at "ev")
  | (apply ty_sub <;> walk_at "ev")
  | (apply ty_lt <;> walk_at "ev")
  | (apply ty_le <;> walk_at "ev")
  | (apply ty_gt <;> walk_at "ev")
  | (apply ty_ge <;> walk_at "ev")
  | (apply ty_leleI <;> walk_at "ev")
  | (apply ty_ltltI <;> walk_at "ev")
  | (apply ty_isOpen <;> walk_at "ev")
  | (apply ty_isRow <;> walk_at "ev")
  | (apply ty_isWait <;> walk_at "ev")
  | (apply ty_o1 <;> walk_at "ev")
  | (apply ty_o2 <;> walk_at "ev")
  | (apply ty_o3 <;> walk_at "ev")
  | (apply ty_r1 <;> walk_at "ev")
  | (apply ty_r2 <;> walk_at "ev")
  | (apply ty_r3 <;> walk_at "ev")
  | (apply ty_eqI <;> walk_at "ev")
  | (apply ty_eqS <;> (first | walk_at "ev" | decide +kernel))
  | (apply ty_wrote <;> walk_at "ev")
  | (apply ty_bare <;> walk_at "ev")
  | (apply ty_isN <;> walk_at "ev")
  | (apply ty_notN <;> walk_at "ev")
  | (apply ty_neI <;> walk_at "ev")
  | (apply ty_neg <;> walk_at "ev")
  | (apply ty_inTN <;> walk_at "ev")
  | (apply ty_inLN <;> walk_at "ev")
  | (apply ty_niTN <;> walk_at "ev")
  | (apply ty_isi <;> (first | walk_at "ev" | exact kit_ii | exact kit_ib | exact kit_tt | exact kit_ss | exact kit_bb))
  | exact tyc_len (k := 0) rfl rfl
  | exact tyc_len (k := 1) rfl rfl
  | (apply ty_lenT <;> walk_at "ev")
  | (apply ty_lenL <;> walk_at "ev")
  | (apply ty_d0 <;> walk_at "ev")
  | (apply ty_d1 <;> walk_at "ev")
  | (apply ty_d2 <;> walk_at "ev")
  | (apply ty_di <;> (first | walk_at "ev" | assumption))
  | (apply ty_ixT <;> (first | walk_at "ev" | rfl | exact atI_map_nat _ (by assumption) | (show _ = _)))
  | (apply ty_ixL <;> (first | walk_at "ev" | rfl | exact atI_map_nat _ (by assumption) | (show _ = _)))
  | (apply ty_cells (by assumption) <;> walk_at "ev")
  | (apply ty_head (by assumption) <;> walk_at "ev")
  | (apply ty_deeds (by assumption) <;> walk_at "ev")
  | (apply ty_tupleL <;> walk_at "ev")
  | (apply ty_tupleT <;> walk_at "ev")
  | (apply ty_slT <;> walk_at "ev")
  | exact to_no
  | (apply to_some <;> walk_at "ev")
  | (apply ty_tup <;> (first | walk_at "ev" | decide | (simp; done)))
  | (apply ty_call <;> (first | walk_at "ev" | walk_at "hr")))
local macro_rules | `(tactic| walk_at "bv") => `(tactic| first | rfl | (refine congrArg BV ?_; simp; done) | (refine congrArg BV ?_; simp; omega) | (simp; done) | (simp; omega) | omega)
section
variable {K : PySem.W.Frag} {mg : Str → Option Value} {vs : List V} {H : Hp} {Q : VK} {E : XK}
theorem pure_is_deed (T : Txt K mg) (h : sp_is_deed K vs H Q E) : t_is_deed K (endsOf Q) (L2.start N_is_deed vs) H := enter h fun Ps P hR C hW hr hf => by
  obtain ⟨c, hd, ds, i, rfl, hi, rfl⟩ := hR
  have S := T.std
  apply ok_retE hr
  · walk_at "ev"
  · walk_at "bv"
theorem pure_check_deed (T : Txt K mg) (h : sp_check_deed K vs H Q E) : t_check_deed K (endsOf Q) (L2.start N_check_deed vs) H := enter h fun Ps P hR C hW hr hf => by
  obtain ⟨c, hd, ds, i, rfl, hi, rfl⟩ := hR
  have S := T.std
  refine ok_tl ?_
  apply ok_passE
  · walk_at "ev"
  · walk_at "bv"
  · exact ok_next hf fun _ => .non
theorem pure_is_row_wish (T : Txt K mg) (h : sp_is_row_wish K vs H Q E) : t_is_row_wish K (endsOf Q) (L2.start N_is_row_wish vs) H := enter h fun Ps P hR C hW hr hf => by
  obtain ⟨c, hd, ds, d, a, b, rfl, ⟨h1, h2, h3, h4, h5⟩, rfl⟩ := hR
  apply ok_retE hr
  · walk_at "ev"
  · rw [decide_eq_true h2, decide_eq_true h3, decide_eq_true h4, decide_eq_true h5] <;> rfl
theorem pure_is_open_wish (T : Txt K mg) (h : sp_is_open_wish K vs H Q E) : t_is_open_wish K (endsOf Q) (L2.start N_is_open_wish vs) H := enter h fun Ps P hR C hW hr hf => by
  obtain ⟨c, hd, ds, a, b, rfl, ⟨h1, h2, h3, h4⟩, hl, rfl⟩ := hR
  have S := T.std
  apply ok_passE
  · walk_at "ev"
  · rw [decide_eq_true h1, decide_eq_true h2, decide_eq_true h3, decide_eq_true h4, List.length_map, decide_eq_false (by omega)] <;> rfl
  · refine ok_ret (P := BV true) ?_ hr
    exact ty_call (ta_cons (ty_ixT (ds := [.str "open", .int a, .int b, e0]) (d := lotD []) (ty_var rfl) ty_int rfl) (ta_cons (ty_lenT (ds := ds.map dD) (ty_deeds S (ty_var rfl))) ta_nil)) ⟨[], (ds.map dD).length, rfl, ⟨.nil, fun _ z => nomatch z⟩, rfl⟩
theorem pure_check_wish (T : Txt K mg) (h : sp_check_wish K vs H Q E) : t_check_wish K (endsOf Q) (L2.start N_check_wish vs) H := enter h fun Ps P hR C hW hr hf => by
  obtain ⟨c, hd, ds, w, rfl, hw, hl, rfl⟩ := hR
  refine ok_tl ?_
  apply ok_passE (b := false)
  · exact tt_not (b := true) (tt_B (ty_call (ta_cons (ty_var rfl) (ta_cons (ty_var rfl) ta_nil)) ⟨c, hd, ds, w, rfl, hw, hl, rfl⟩))
  · rfl
  · exact ok_next hf fun _ => .non
theorem pure_written_many (T : Txt K mg) (h : sp_written_many K vs H Q E) : t_written_many K (endsOf Q) (L2.start N_written_many vs) H := enter h fun Ps P hR C hW hr hf => by
  obtain ⟨ds, ho, hl, rfl⟩ := hR
  have hq : ∀ G : Gm, TyI (C.w []) G (iSeq K (tVar 0)) (ds.map dD) → (wipeG G [1, 2, 3]).length = 4 → TyN (C.w []) G (tLc (iSeq K (tVar 0)) (gTup K 3 (gCons (gName 1) (gCons (gName 2) (gCons (gName 3) (gNil))))) (tTest (tOp rNotNo (tVar 1) (tC .non))) (tVar 1) [1, 2, 3]) ((ds.filter wrote).map fun d => oD d.1) := fun G hG hlen =>
    tn_lcf ds dD wrote (fun d => oD d.1) hG own3 mon3 (by omega) fun d _ => by
      have h1 : ((((wipeG G [1, 2, 3]).set 1 (some (DV (oD d.1)))).set 2 (some (IV d.2))).set 3 (some (DV e0)))[1]? = some (some (DV (oD d.1))) := by
        rw [List.getElem?_set_ne (by decide), List.getElem?_set_ne (by decide), List.getElem?_set_self (by omega)]
      exact ⟨_, tg3, tt_test (ty_wrote (ty_var h1)), fun _ => ty_var h1⟩
  rcases ho with rfl | rfl
  · exact ok_ret ((ty_lenL (hq _ (ti_seqT (ty_var rfl)) rfl).ty).to (by rw [List.length_map] <;> rfl)) hr
  · exact ok_ret ((ty_lenL (hq _ (ti_seqL (ty_var rfl)) rfl).ty).to (by rw [List.length_map] <;> rfl)) hr
theorem pure_is_first_row (T : Txt K mg) (h : sp_is_first_row K vs H Q E) : t_is_first_row K (endsOf Q) (L2.start N_is_first_row vs) H := enter h fun Ps P hR C hW hr hf => by
  obtain ⟨c, hd, ds, w, rfl, hw, rfl⟩ := hR
  have S := T.std
  cases w with
  | opn a b =>
    apply ok_ifSE true
    · walk_at "ev"
    · rfl
    · intro _
      apply ok_retSE hr
      · walk_at "ev"
      · rfl
    · intro z
      cases z
  | row d a b =>
    have hi : ds[d]? = some (ds.getD d (none, 0)) := getD_lt hw
    apply ok_passE
    · walk_at "ev"
    · rfl
    · apply ok_retE hr
      · walk_at "ev"
      · rw [firstRow_row hw]
        rfl
theorem pure_wisher_behind (T : Txt K mg) (h : sp_wisher_behind K vs H Q E) : t_wisher_behind K (endsOf Q) (L2.start N_wisher_behind vs) H := enter h fun Ps P hR C hW hr hf => by
  obtain ⟨c, hd, ds, w, rfl, hw, hl, rfl⟩ := hR
  have S := T.std
  cases w with
  | opn a b =>
    apply ok_ifSE true
    · walk_at "ev"
    · rfl
    · intro _
      refine ok_retS (P := IV (wisher ds (.opn a b) : Nat)) (ty_if (b := decide (0 < a)) ?_ (fun z => ?_) fun z => ?_) hr
      · walk_at "ev"
      · rw [wisher_p (of_decide_eq_true z)]
        exact ty_call (ta_cons (ty_deeds S (ty_var rfl)) ta_nil) ⟨ds, .inl rfl, by omega, rfl⟩
      · rw [wisher_0 (of_decide_eq_false z)]
        exact (ty_lenT (ds := ds.map dD) (ty_deeds S (ty_var rfl))).to (by rw [List.length_map])
    · intro z
      cases z
  | row d a b =>
    have hi : ds[d]? = some (ds.getD d (none, 0)) := getD_lt hw
    apply ok_passE
    · walk_at "ev"
    · rfl
    · apply ok_ifSE (wrote (ds.getD d (none, 0)))
      · walk_at "ev"
      · rfl
      · intro z
        apply ok_retSE hr
        · walk_at "ev"
        · rw [wisher_w hw z] <;> rfl
      · intro z
        refine ok_nextS (ok_ret ?_ hr)
        rw [wisher_b z]
        exact ty_call (ta_cons (ty_deeds S (ty_var rfl)) ta_nil) ⟨ds, .inl rfl, by omega, rfl⟩
theorem pure_behind_of (T : Txt K mg) (h : sp_behind_of K vs H Q E) : t_behind_of K (endsOf Q) (L2.start N_behind_of vs) H := enter h fun Ps P hR C hW hr hf => by
  obtain ⟨c, hd, ds, w, rfl, hw, hl, rfl⟩ := hR
  cases w with
  | opn a b =>
    apply ok_passE
    · walk_at "ev"
    · rfl
    · refine ok_tl ?_
      apply ok_ifSE true
      · walk_at "ev"
      · rfl
      · intro _
        apply ok_retSE hr
        · walk_at "ev"
        · rfl
      · intro z
        cases z
  | row d a b =>
    apply ok_ifSE true
    · walk_at "ev"
    · rfl
    · intro _
      apply ok_retSE hr
      · walk_at "ev"
      · rfl
    · intro z
      cases z
theorem pure_easy (T : Txt K mg) (h : sp_easy K vs H Q E) : t_easy K (endsOf Q) (L2.start N_easy vs) H := enter h fun Ps P hR C hW hr hf => by
  obtain ⟨c, hd, ds, rfl, hn, hl, rfl⟩ := hR
  apply ok_retE hr
  · walk_at "ev"
  · refine congrArg BV ?_
    rw [List.length_map]
    unfold easyB heavy
    have hlen : (loads hd ds).length = ds.length := by
      unfold loads
      rw [List.length_mapIdx]
    rw [← hlen]
    generalize loads hd ds = L
    rw [Bool.eq_iff_iff, List.all_eq_true, decide_eq_true_eq]
    constructor
    · intro z x hx
      have z0 : (List.filter (fun i => decide (c < L.getD i 0)) (List.range L.length)).length = 0 := by omega
      have z2 := List.eq_nil_of_length_eq_zero z0
      rw [List.filter_eq_nil_iff] at z2
      obtain ⟨i, hi, e⟩ := List.getElem_of_mem hx
      have z3 := z2 i (List.mem_range.mpr hi)
      rw [List.getD_eq_getElem?_getD, List.getElem?_eq_getElem hi, e] at z3
      simp at z3
      exact decide_eq_true z3
    · intro z
      have z2 : List.filter (fun i => decide (c < L.getD i 0)) (List.range L.length) = [] := by
        rw [List.filter_eq_nil_iff]
        intro i hi
        have hi := List.mem_range.mp hi
        have z3 := of_decide_eq_true (z _ (List.getElem_mem hi))
        rw [List.getD_eq_getElem?_getD, List.getElem?_eq_getElem hi]
        simp
        exact z3
      rw [z2] <;> rfl
theorem pure_check_easy (T : Txt K mg) (h : sp_check_easy K vs H Q E) : t_check_easy K (endsOf Q) (L2.start N_check_easy vs) H := enter h fun Ps P hR C hW hr hf => by
  obtain ⟨c, hd, ds, rfl, hn, hl, he, rfl⟩ := hR
  refine ok_tl ?_
  apply ok_passE (b := !easyB c hd ds)
  · walk_at "ev"
  · rw [he] <;> rfl
  · exact ok_next hf fun _ => .non
theorem pure_let_by (T : Txt K mg) (h : sp_let_by K vs H Q E) : t_let_by K (endsOf Q) (L2.start N_let_by vs) H := enter h fun Ps P hR C hW hr hf => by
  obtain ⟨c, hd, ds, w, rfl, hw, hl, hn, rfl⟩ := hR
  have hlen : (behind hd ds w).2.length ≤ 1000 := by
    have := behind_len hd ds w
    omega
  exact ok_ret (ty_call (ta_cons (ty_call (ta_cons (ty_var rfl) (ta_cons (ty_var rfl) ta_nil)) ⟨c, hd, ds, w, rfl, hw, hl, rfl⟩) ta_nil) ⟨c, _, _, rfl, hn, hlen, rfl⟩) hr
theorem pure_some_wait (T : Txt K mg) (h : sp_some_wait K vs H Q E) : t_some_wait K (endsOf Q) (L2.start N_some_wait vs) H := enter h fun Ps P hR C hW hr hf => by
  obtain ⟨c, hd, ds, rfl, hl, rfl⟩ := hR
  have S := T.std
  refine ok_ret ((ty_anyF (xs := ds) (f := fun _ => false) (TyN.ty (tn_lcm ds dD (fun _ => PyData.bool false) (ti_tup (ty_deeds S (ty_var rfl))) own3 mon3 (by omega) fun a _ => ⟨_, tg3, ?_⟩))).to (congrArg BV (by clear hl; induction ds <;> simp))) hr
  exact (ty_gt (ty_lenT (ds := []) (ty_var rfl)) ty_int).to rfl
theorem pure_check_free (T : Txt K mg) (h : sp_check_free K vs H Q E) : t_check_free K (endsOf Q) (L2.start N_check_free vs) H := enter h fun Ps P hR C hW hr hf => by
  obtain ⟨c, hd, ds, rfl, hl, rfl⟩ := hR
  refine ok_tl ?_
  apply ok_passE (b := false)
  · walk_at "ev"
  · rfl
  · exact ok_next hf fun _ => .non
theorem pure_check_asked (T : Txt K mg) (h : sp_check_asked K vs H Q E) : t_check_asked K (endsOf Q) (L2.start N_check_asked vs) H := enter h fun Ps P hR C hW hr hf => by
  obtain ⟨c, hd, ds, w, rfl, hw, hl, hn, he, rfl⟩ := hR
  have hl' : ds.length ≤ 1000 := by omega
  refine ok_drop (ty_call (P := NV) (ta_cons (ty_var rfl) ta_nil) ⟨c, hd, ds, rfl, hn, hl', he, rfl⟩) ?_
  refine ok_drop (ty_call (P := NV) (ta_cons (ty_var rfl) (ta_cons (ty_var rfl) ta_nil)) ⟨c, hd, ds, w, rfl, hw, hl, rfl⟩) ?_
  refine ok_drop (ty_call (P := NV) (ta_cons (ty_var rfl) ta_nil) ⟨c, hd, ds, rfl, hl', rfl⟩) ?_
  refine ok_tl ?_
  cases w with
  | opn a b =>
    apply ok_passE
    · walk_at "ev"
    · rfl
    · exact ok_next hf fun _ => .non
  | row d a b =>
    refine ok_pass (tt_or (a := false) (b := false) (tt_test (ty_isWait (ty_var rfl))) fun _ => tt_and (a := false) (b := false) (tt_test (ty_isOpen (w := .row d a b) (ty_var rfl))) fun z => nomatch z) ?_
    exact ok_next hf fun _ => .non
theorem pure_own_sum (T : Txt K mg) (h : sp_own_sum K vs H Q E) : t_own_sum K (endsOf Q) (L2.start N_own_sum vs) H := enter h fun Ps P hR C hW hr hf => by
  obtain ⟨c, hd, ds, wi, m, a, rfl, hl, rfl⟩ := hR
  have S := T.std
  refine ok_ret (ty_add (ty_var rfl) (ty_sumF (f := fun d : Dd => d.2) (TyN.ty (tn_needs (ds := (ds.take (wi + 1)).drop m) (ti_tup ((ty_slT (ty_deeds S (ty_var rfl)) (to_some (ty_var rfl)) (to_some (ty_succ (ty_var rfl)))).is (congrArg PyData.tuple (cutD_mid dD ds m (wi + 1))))) ?_)))) hr
  rw [List.length_drop, List.length_take]
  omega
theorem pure_need_behind (T : Txt K mg) (h : sp_need_behind K vs H Q E) : t_need_behind K (endsOf Q) (L2.start N_need_behind vs) H := enter h fun Ps P hR C hW hr hf => by
  obtain ⟨c, hd, ds, w, i, rfl, hi, rfl⟩ := hR
  have S := T.std
  have hi : ds[i]? = some (ds.getD i (none, 0)) := getD_lt hi
  cases w with
  | opn a b =>
    refine ok_ret (ty_if (b := false) (tt_and (a := false) (b := false) (tt_test (ty_isRow (w := .opn a b) (ty_var rfl))) fun z => nomatch z) (fun z => nomatch z) fun _ => ?_) hr
    exact ty_d1 (ty_di (ty_deeds S (ty_var rfl)) (ty_var rfl) hi)
  | row d a b =>
    refine ok_ret (P := IV (needBehind ds (.row d a b) i)) (ty_if (b := decide (d = i)) ((tt_and (a := true) (b := decide ((d : Int) = (i : Nat))) (tt_test (ty_isRow (w := .row d a b) (ty_var rfl))) fun _ => tt_test (ty_eqI (ty_ixT (ds := [.str "row", .int (d : Nat), .int a, .int b]) (ty_var rfl) ty_int rfl) (ty_var rfl))).is ?_) (fun z => ?_) fun z => ?_) hr
    · rw [Bool.true_and]
      exact dec_iff (by omega)
    · rw [needB_row, if_pos (of_decide_eq_true z)]
      exact ty_ixT (ds := [.str "row", .int (d : Nat), .int a, .int b]) (ty_var rfl) ty_int rfl
    · rw [needB_row, if_neg (of_decide_eq_false z)]
      exact ty_d1 (ty_di (ty_deeds S (ty_var rfl)) (ty_var rfl) hi)
theorem pure_cells_of (T : Txt K mg) (h : sp_cells_of K vs H Q E) : t_cells_of K (endsOf Q) (L2.start N_cells_of vs) H := enter h fun Ps P hR C hW hr hf => by
  obtain ⟨w, rfl, rfl⟩ := hR
  cases w with
  | opn a b =>
    refine ok_ret (ty_if (b := false) (tt_test (ty_isRow (w := .opn a b) (ty_var rfl))) (fun z => nomatch z) fun _ => ?_) hr
    exact ty_ixT (ds := [.str "open", .int a, .int b, e0]) (ty_var rfl) ty_int rfl
  | row d a b =>
    refine ok_ret (ty_if (b := true) (tt_test (ty_isRow (w := .row d a b) (ty_var rfl))) (fun _ => ?_) fun z => nomatch z) hr
    exact ty_ixT (ds := [.str "row", .int (d : Nat), .int a, .int b]) (ty_var rfl) ty_int rfl
theorem pure_fits_with (T : Txt K mg) (h : sp_fits_with K vs H Q E) : t_fits_with K (endsOf Q) (L2.start N_fits_with vs) H := enter h fun Ps P hR C hW hr hf => by
  obtain ⟨c, hd, ds, n, rfl, rfl⟩ := hR
  have S := T.std
  match ds with
  | [] =>
    refine ok_asg (P := NV) (ty_if (b := false) (tt_test (ty_gt (ty_lenT (ds := []) (ty_deeds S (ty_var rfl))) ty_int)) (fun z => nomatch z) fun _ => ty_non) ?_
    exact ok_ret (P := BV true) (ty_or (a := true) (b := true) (ty_isN (d := .none) (ty_var rfl)) fun z => nomatch z) hr
  | (f, k) :: r =>
    refine ok_asg (P := DV (oD f)) (ty_if (b := true) (tt_test ((ty_gt (ty_lenT (ds := ((f, k) :: r).map dD) (ty_deeds S (ty_var rfl))) ty_int).to (by simp))) (fun _ => ty_d0 (d := (f, k)) (ty_di (i := 0) (ty_deeds S (ty_var rfl)) ty_int rfl)) fun z => nomatch z) ?_
    cases f with
    | none => exact ok_ret (P := BV true) (ty_or (a := true) (b := true) (ty_isN (d := .none) (ty_var rfl)) fun z => nomatch z) hr
    | some f => exact ok_ret (P := BV (decide (hd + n - f ≤ c))) (ty_or (a := false) (ty_isN (d := .int f) (ty_var rfl)) fun _ => ty_le (ty_sub (ty_add (ty_head S (ty_var rfl)) (ty_var rfl)) (ty_var rfl)) (ty_cells S (ty_var rfl))) hr
end
end RC

end
section
set_option Elab.async false
set_option linter.all false
set_option maxRecDepth 100000
set_option maxHeartbeats 4000000
namespace RC
open PySem PySem.Spec PyProof.Rows L2
local macro_rules | `(tactic| walk_at "sub") => `(tactic| first | exact sub_nil | (apply sub_cons; walk_at "sub") | (apply sub_drop; walk_at "sub"))
local macro_rules | `(tactic| walk_at "hr") => `(tactic| (repeat apply Exists.intro) <;> (refine And.intro rfl ?_) <;> (repeat' apply And.intro) <;> (first | rfl | assumption | omega | skip))
local macro_rules | `(tactic| walk_at "ev") => `(tactic| first
  | exact ty_var rfl
  | exact ty_int
  | exact ty_bl
  | exact ty_non
  | exact ty_str
  | exact ta_nil
  | (apply ta_cons <;> walk_at "ev")
  | (apply tt_test <;> walk_at "ev")
  | (apply tt_B <;> walk_at "ev")
  | (apply tt_not <;> walk_at "ev")
  | (apply tt_and <;> (first | walk_at "ev" | (intro _; walk_at "ev")))
  | (apply tt_or <;> (first | walk_at "ev" | (intro _; walk_at "ev")))
  | (apply ty_and <;> (first | walk_at "ev" | (intro _; walk_at "ev")))
  | (apply ty_or <;> (first | walk_at "ev" | (intro _; walk_at "ev")))
  | (apply ty_not <;> walk_at "ev")
  | (apply ty_succ <;> walk_at "ev")
  | (apply ty_add <;> walk_at "ev")
  | (apply ty_sub <;> walk_at "ev")
  | (apply ty_lt <;> walk_at "ev")
  | (apply ty_le <;> walk_at "ev")
  | (apply ty_gt <;> walk_at "ev")
  | (apply ty_ge <;> walk_at "ev")
  | (apply ty_leleI <;> walk_at "ev")
  | (apply ty_ltltI <;> walk_at "ev")
  | (apply ty_isOpen <;> walk_at "ev")
  | (apply ty_isRow <;> walk_at "ev")
  | (apply ty_isWait <;> walk_at "ev")
  | (apply ty_o1 <;> walk_at "ev")
  | (apply ty_o2 <;> walk_at "ev")
  | (apply ty_o3 <;> walk_at "ev")
  | (apply ty_r1 <;> walk_at "ev")
  | (apply ty_r2 <;> walk_at "ev")
  | (apply ty_r3 <;> walk_at "ev")
  | (apply ty_eqI <;> walk_at "ev")
  | (apply ty_eqS <;> (first | walk_at "ev" | decide +kernel))
  | (apply ty_wrote <;> walk_at "ev")
  | (apply ty_bare <;> walk_at "ev")
  | (apply ty_isN <;> walk_at "ev")
  | (apply ty_notN <;> walk_at "ev")
  | (apply ty_neI <;> walk_at "ev")
  | (apply ty_neg <;> walk_at "ev")
  | (apply ty_inTN <;> walk_at "ev")
  | (apply ty_inLN <;> walk_at "ev")
  | (apply ty_niTN <;> walk_at "ev")
  | (apply ty_isi <;> (first | walk_at "ev" | exact kit_ii | exact kit_ib | exact kit_tt | exact kit_ss | exact kit_bb))
  | exact tyc_len (k := 0) rfl rfl
  | exact tyc_len (k := 1) rfl rfl
  | (apply ty_lenT <;> walk_at "ev")
  | (apply ty_lenL <;> walk_at "ev")
  | (apply ty_d0 <;> walk_at "ev")
  | (apply ty_d1 <;> walk_at "ev")
  | (apply ty_d2 <;> walk_at "ev")
  | (apply ty_di <;> (first | walk_at "ev" | assumption))
  | (apply ty_ixT <;> (first | walk_at "ev" | rfl | exact atI_map_nat _ (by assumption) | (show _ = _)))
  | (apply ty_ixL <;> (first | walk_at "ev" | rfl | exact atI_map_nat _ (by assumption) | (show _ = _)))
  | (apply ty_cells (by assumption) <;> walk_at "ev")
  | (apply ty_head (by assumption) <;> walk_at "ev")
  | (apply ty_deeds (by assumption) <;> walk_at "ev")
  | (apply ty_tupleL <;> walk_at "ev")
  | (apply ty_tupleT <;> walk_at "ev")
  | (apply ty_slT <;> walk_at "ev")
  | exact to_no
  | (apply to_some <;> walk_at "ev")
  | (apply ty_tup <;> (first | walk_at "ev" | decide | (simp; done)))
  | (apply ty_call <;> (first | walk_at "ev" | walk_at "hr")))
local macro_rules | `(tactic| walk_at "bv") => `(tactic| first | rfl | (refine congrArg BV ?_; simp; done) | (refine congrArg BV ?_; simp; omega) | (simp; done) | (simp; omega) | omega)
section
variable {K : PySem.W.Frag} {mg : Str → Option Value} {vs : List V} {H : Hp} {Q : VK} {E : XK}
theorem heavy_eq (c hd : Int) (ds : List Dd) : (((loads hd ds).zipIdx).filter fun q => decide (c < q.1)).map (·.2) = heavy c hd ds := by
  rw [zipIdx_fil 0 (loads hd ds) (fun l => decide (c < l)), loads_len] <;> rfl
theorem pure_too_heavy (T : Txt K mg) (h : sp_too_heavy K vs H Q E) : t_too_heavy K (endsOf Q) (L2.start N_too_heavy vs) H := enter h fun Ps P hR C hW hr hf => by
  obtain ⟨c, hd, ds, rfl, hn, hl, rfl⟩ := hR
  have S := T.std
  refine ok_ret (TyN.ty ((tn_lcf (loads hd ds).zipIdx (fun p => PyData.tuple [nD p.2, .int p.1]) (fun q => decide (c < q.1)) (fun q => nD q.2) (ti_enumTF (ty_call (P := TV ((loads hd ds).map .int)) (ta_cons (ty_var rfl) ta_nil) ⟨c, hd, ds, rfl, hn, hl, rfl⟩)) own2 mon2 (by rw [List.length_zipIdx, loads_len]; omega) fun q _ => ⟨_, tg2, ?_, fun _ => ty_var rfl⟩).is ?_)) hr
  · exact tt_test (ty_gt (ty_var rfl) (ty_cells S (ty_var rfl)))
  · rw [← heavy_eq, List.map_map] <;> rfl
def knownK (j : Nat) : List (Key × V) := (List.range j).map fun m => (Sum.inl ((m : Nat) : Int), V.bl true)
theorem known_none {j i : Nat} (h : j ≤ i) : valV (knownK j) (Sum.inl ((i : Nat) : Int)) = none := by
  unfold valV knownK
  rw [Option.map_eq_none_iff, List.find?_eq_none]
  intro p hp
  obtain ⟨m, hm, rfl⟩ := List.mem_map.mp hp
  have := List.mem_range.mp hm
  simp
  omega
theorem known_put {j : Nat} : putK (knownK j) (Sum.inl ((j : Nat) : Int)) (V.bl true) = knownK (j + 1) := by
  unfold putK
  rw [valV_any, known_none (Nat.le_refl j)]
  rw [if_neg (by simp)]
  unfold knownK
  rw [List.range_succ, List.map_append] <;> rfl
theorem pure_loads_of (T : Txt K mg) (h : sp_loads_of K vs H Q E) : t_loads_of K (endsOf Q) (L2.start N_loads_of vs) H := enter h fun Ps P hR C hW hr hf => by
  obtain ⟨c, hd, ds, rfl, ⟨k, hk, hnl⟩, hl, rfl⟩ := hR
  have S := T.std
  refine ok_asg (P := LV (List.replicate ds.length e0)) (ty_call (ta_cons (ty_var rfl) ta_nil) ⟨c, hd, ds, rfl, hl, rfl⟩) ?_
  refine ok_newD fun lk => ?_
  refine ok_asg ty_int ?_
  refine ok_new (tn_lst (ds := []) ta_nil) fun lf => ?_
  refine ok_forL ds.zipIdx (fun p => PyData.tuple [nD p.2, dD p.1]) (fun i => [(lf, LC (((loads hd ds).take i).map .int)), (lk, OC (.dK (knownK (min i k))))])
    (fun i => [some (SS K c hd ds), some (LV (List.replicate ds.length e0)), some (XV (.ref lk)), some (IV (needs ds (min i k))), some (XV (.ref lf)), none, none, none, none, none]) (fun _ => True) (ti_enumTF (ty_deeds S (ty_var rfl))) trivial (by rw [Nat.zero_min] <;> rfl) (by
      rw [Nat.zero_min]
      show Sub [_, _, _, some (IV 0), _, _, _, _, _, _] [_, _, _, some (IV 0), _, _, _, _, _, _]
      walk_at "sub") (fun L' hL i x hx _ => ?_) fun _ => ?_
  · rw [List.getElem?_zipIdx] at hx
    cases hd0 : ds[i]? with
    | none =>
      rw [hd0] at hx
      cases hx
    | some d =>
      rw [hd0] at hx
      have ex : x = (d, 0 + i) := (Option.some.inj hx).symm
      subst ex
      rw [Nat.zero_add]
      have hil := (List.getElem?_eq_some_iff.mp hd0).1
      refine ⟨_, tg_tup (tgs_cons tg_name (tgs_cons tg3 tgs_nil)), ?_⟩
      refine ok_if (b := !wrote d) (tt_test (ty_bare (ty_var rfl))) (fun z => ?_) fun z => ?_
      · have hik : ¬ i < k := fun y => by
          rw [(hnl i d hd0).mpr y] at z
          cases z
        refine ok_tl (ok_app (k := 0) rfl rfl (ty_var (P := IV d.2) rfl) (by rw [List.length_map, List.length_take]; omega) (ok_fin trivial ?_ ?_ fun _ _ a => a))
        · have e1 : min (i + 1) k = min i k := by omega
          rw [e1, take_more (loads_get hd0), List.map_append]
          have e2 : load hd ds i d = d.2 := by
            unfold load
            obtain ⟨f, n⟩ := d
            cases f with
            | none => rfl
            | some f => cases z
          rw [e2] <;> rfl
        · have e1 : min (i + 1) k = min i k := by omega
          rw [e1]
          walk_at "sub"
      · have hw : wrote d = true := by
          cases q : wrote d with
          | true => rfl
          | false =>
            rw [q] at z
            cases z
        have hik : i < k := (hnl i d hd0).mp hw
        have e0' : min i k = i := by omega
        have e1 : min (i + 1) k = i + 1 := by omega
        obtain ⟨f, n⟩ := d
        cases f with
        | none => cases hw
        | some f =>
          rw [e0']
          refine ok_forL [i] nD (fun j => [(lf, LC (((loads hd ds).take i).map .int)), (lk, OC (.dK (knownK (i + j))))])
            (fun j => [some (SS K c hd ds), some (LV (List.replicate ds.length e0)), some (XV (.ref lk)), some (IV (needs ds (i + j))), some (XV (.ref lf)), some (IV (i : Nat)), some (IV f), some (IV n), some (DV e0), none]) (fun _ => True) (ti_tup (ty_call (P := DV (.tuple ([i].map nD))) (ta_cons (ty_var rfl) (ta_cons (ty_tup (ds := [nD i]) (ta_cons (ty_var rfl) ta_nil) (by simp)) ta_nil)) ⟨ds.length, .inr ⟨i, hil, rfl, rfl⟩⟩)) trivial rfl (by walk_at "sub") (fun L2 hL2 j y hy _ => ?_) fun _ => ?_
          · cases j with
            | succ j => cases hy
            | zero =>
              have ey : y = i := (Option.some.inj hy).symm
              subst ey
              refine ⟨_, tg_name, ?_⟩
              refine ok_if (b := true) (tt_B ((tyc_dni (k := 1) rfl rfl (ty_var rfl)).to (by
                show BV (!(valV (knownK y) _).isSome) = BV true
                rw [known_none (Nat.le_refl _)] <;> rfl))) (fun _ => ?_) fun z => nomatch z
              refine ok_put (k := 1) rfl rfl (ty_var rfl) (by unfold knownK; rw [List.length_map, List.length_range]; omega) ?_
              refine ok_tl (ok_aug rfl (ty_d1 (ty_di (ty_deeds S (ty_var rfl)) (ty_var rfl) hd0)) (ok_fin trivial ?_ ?_ fun _ _ a => a))
              · have := @known_put y
                show [_, (lk, OC (.dK (putK (knownK y) _ _)))] = [_, (lk, OC (.dK (knownK (y + 1))))]
                rw [this]
              · show Sub _ [_, _, _, some (IV (needs ds (y + 1))), _, _, _, _, _, _]
                rw [needs_succ hd0]
                walk_at "sub"
          · refine ok_tl (ok_app (k := 0) rfl rfl (ty_add (ty_sub (ty_head S (ty_var rfl)) (ty_var (P := IV f) rfl)) (ty_var rfl)) (by rw [List.length_map, List.length_take]; omega) (ok_fin trivial ?_ ?_ fun _ _ a => a))
            · rw [e1, take_more (loads_get hd0), List.map_append] <;> rfl
            · rw [e1]
              walk_at "sub"
  · refine ok_freeze (i := 4) rfl (ok_ret ((ty_tupleL (ty_var rfl)).is ?_) hr)
    rw [List.length_zipIdx, ← loads_len (h := hd), List.take_length]
/-- for x in a[b.pop()], nothing in it -/
theorem ok_forPop {C : Ctx} {W : Cs} {G : Gm} {D : Ends} {rest tb : TS} {g : TG} {k a b : Nat} {l : Addr} {ds es : List PyData} {i : Nat} (hk : W[k]? = some (l, LC (ds ++ [nD i]))) (hb : G[b]? = some (some (XV (.ref l)))) (ha : G[a]? = some (some (LV es))) (he : es[i]? = some e0)
    (q : Ok C (W.set k (l, LC ds)) G rest D) : Ok C W G (tSeq (tFor (iTup K (tOp (rIxA K) (tVar a) (tBM0 K "list" rPop (tVar b)))) g tb) rest) D := fun σ F H r e => by
  obtain ⟨v, h1, h2⟩ := e.2 b _ hb
  have h2' : v = .ref l := h2
  subst h2'
  obtain ⟨w, h3, h4⟩ := e.2 a _ ha
  obtain ⟨xs, hc, hr⟩ := r.cell hk
  have hlen : xs.length = ds.length + 1 := by
    rw [hr.length]
    simp
  obtain ⟨y, hy1, hy2⟩ := hr.get (i := ds.length) (d := nD i) (by simp)
  have hdl : RpAll F xs.dropLast ds := by
    have z := hr.take ds.length
    rw [List.take_left] at z
    rw [List.dropLast_eq_take, hlen]
    exact z
  cases h4 with
  | @lst wa ws _ f1 r1 =>
    obtain ⟨u, hu1, hu2⟩ := r1.get he
    cases hu2 with
    | @tup ua us _ f2 r2 =>
      cases r2
      have r' : Run C (W.set k (l, LC ds)) F (upd H l (.lst xs.dropLast)) := r.put hk ⟨_, rfl, hdl⟩
      refine ⟨_, h3, _, h1, .inl ⟨rfl, xs, SqL.of hc⟩, l, xs, y, rfl, rfl, hc, by rw [hlen]; exact hy1, .inl ⟨wa, ws, (i : Nat), .ref ua, rfl, IV.v hy2, SqL.of (r'.sm _ _ f1), atI_nat hu1, ua, rfl, ⟨[], SqT.of (r'.sm _ _ f2)⟩, ?_⟩⟩
      refine for_it (walk_tup (K := K) (a := ua) (xs := [])) (D := { D with nx := rest D }) (fun _ σ' H' => σ' = σ ∧ H' = upd H l (.lst xs.dropLast)) ⟨rfl, rfl⟩ (fun _ σ' H' _ ⟨_, eH⟩ => ?_) (fun i' _ _ _ _ hi => absurd hi (Nat.not_lt_zero _)) fun σ' H' ⟨eσ, eH⟩ => ?_
      · subst eH
        exact SqT.of (r'.sm _ _ f2)
      · subst eσ
        subst eH
        exact q _ F _ r' e
theorem pure_waited_for (T : Txt K mg) (h : sp_waited_for K vs H Q E) : t_waited_for K (endsOf Q) (L2.start N_waited_for vs) H := enter h fun Ps P hR C hW hr hf => by
  obtain ⟨n, ho⟩ := hR
  have key : ∃ L : List Nat, (L = [] ∨ ∃ i, L = [i]) ∧ (∀ i ∈ L, i < n) ∧ Ps = [LV (List.replicate n e0), DV (lotD L)] ∧ P = DV (lotD L) := by
    rcases ho with ⟨rfl, rfl⟩ | ⟨i, hi, rfl, rfl⟩
    · exact ⟨[], .inl rfl, (fun _ z => nomatch z), rfl, rfl⟩
    · exact ⟨[i], .inr ⟨i, rfl⟩, (fun j hj => by rw [List.mem_singleton.mp hj]; exact hi), rfl, rfl⟩
  obtain ⟨L, hL, hLn, rfl, rfl⟩ := key
  have hLl : L.length ≤ 1 := by
    rcases hL with rfl | ⟨i, rfl⟩ <;> simp
  have hfold : (L.foldl (fun (acc : List (Key × V)) i => putK acc (Sum.inl ((i : Nat) : Int)) (V.bl true)) []).map (·.1) = (L.map fun i => ((i : Nat) : Int)).map Sum.inl := by
    rcases hL with rfl | ⟨i, rfl⟩ <;> rfl
  refine ok_asg (ty_dc L nD (fun i => ((i : Nat) : Int)) (fun _ => V.bl true) (ti_tup (ty_var rfl)) own_name mon_name (by omega) fun i _ => ⟨_, tg_name, ty_var rfl, ty_x⟩) ?_
  refine ok_new (tn_listT (ds := L.map nD) (ty_var rfl)) fun lw => ?_
  refine ok_while L.length (fun j => [(lw, LC ((L.drop j).map nD))]) (fun _ => [some (LV (List.replicate n e0)), some (DV (lotD L)), some (DKV (L.foldl (fun (acc : List (Key × V)) i => putK acc (Sum.inl ((i : Nat) : Int)) (V.bl true)) [])), some (XV (.ref lw)), none, none]) (fun _ => True) trivial rfl (by walk_at "sub") (fun j hj _ => ?_) (fun _ => ?_) (fun j hj _ => ?_) fun _ => ?_
  · exact tt_test ((ty_gt (tyc_len (k := 0) rfl rfl) ty_int).to (by rw [decide_eq_true]; rw [List.length_map, List.length_drop]; omega))
  · exact tt_test ((ty_gt (tyc_len (k := 0) rfl rfl) ty_int).to (by rw [decide_eq_false]; rw [List.length_map, List.length_drop]; omega))
  · rcases hL with rfl | ⟨i, rfl⟩
    · exact absurd hj (Nat.not_lt_zero _)
    · have ej : j = 0 := by
        simp at hj
        exact hj
      subst ej
      exact ok_tl (ok_forPop (k := 0) (ds := []) (i := i) (es := List.replicate n e0) rfl rfl rfl (by rw [List.getElem?_replicate, if_pos (hLn i List.mem_cons_self)]) (ok_fin trivial rfl sub_refl fun _ _ a => a))
  · refine ok_ret ((ty_tupleL (TyN.ty (tn_sortD (ks := L.map fun i => ((i : Nat) : Int)) (ty_var rfl) hfold (by rw [List.length_map]; omega) fun ys hp _ => ?_))).is ?_) hr
    · rcases hL with rfl | ⟨i, rfl⟩
      · exact List.perm_nil.mp hp
      · exact List.perm_singleton.mp hp
    · rw [← map_nD] <;> rfl
theorem tn_sort0 {W : Wd} {G : Gm} {te : TE} (h : TyN W G te []) : TyN W G (tCB (rSorted K) (tCons te tNil)) [] := tn_cb (ta_cons h.ty ta_nil) (rv1N fun x F H s j p Q q => by
  cases p with
  | @lst a xs _ h1 r1 =>
    cases r1
    exact ⟨a, [], rfl, SqL.of (s _ _ h1), by simp, fun ns' p' hp _ hn => by
      rw [List.perm_nil.mp hp]
      exact q p' [] F H (Go.refl s j) hn .nil⟩)
theorem pure_renumbered (T : Txt K mg) (h : sp_renumbered K vs H Q E) : t_renumbered K (endsOf Q) (L2.start N_renumbered vs) H := enter h fun Ps P hR C hW hr hf => by
  obtain ⟨ds, ix, rfl, hix, hl, hl2, rfl⟩ := hR
  refine ok_asg (ty_dc ix.zipIdx (fun p => PyData.tuple [nD p.2, nD p.1]) (fun p => ((p.1 : Nat) : Int)) (fun p => V.int ((p.2 : Nat) : Int)) (ti_enumLF (ty_var rfl)) own2 mon2 (by rw [List.length_zipIdx]; omega) fun p _ => ⟨_, tg2, ty_var rfl, (ty_var (P := IV (p.2 : Nat)) rfl).weak fun v F q => IV.v q⟩) ?_
  refine ok_new (tn_lst (ds := []) ta_nil) fun lf => ?_
  refine ok_forL ix nD (fun i => [(lf, LC ((pick ds (ix.take i)).map dD))]) (fun i => [some (LV (ds.map dD)), some (LV (ix.map nD)), none, some _, some (XV (.ref lf)), none, none, none, none, none]) (fun _ => True) (ti_list (ty_var rfl)) trivial rfl (by walk_at "sub") (fun L' hL i x hx _ => ?_) fun _ => ?_
  · refine ⟨_, tg_name, ?_⟩
    have hm := hix x (List.mem_of_getElem? hx)
    have hil := (List.getElem?_eq_some_iff.mp hx).1
    refine ok_asgG (d := dD (ds.getD x (none, 0))) (ty_ixL (ds := ds.map dD) (ty_var rfl) (ty_var rfl) (atI_map_nat dD (getD_lt hm))) tg3 ?_
    refine ok_tl (ok_app (k := 0) (d := dD (ds.getD x (none, 0))) rfl rfl (ty_tup (ds := [oD (ds.getD x (none, 0)).1, .int (ds.getD x (none, 0)).2, e0]) (ta_cons (ty_var rfl) (ta_cons (ty_var rfl) (ta_cons (ty_tupleL (ds := []) ?_) ta_nil))) (by simp)) (by unfold pick; rw [List.length_map, List.length_map, List.length_take]; omega) (ok_fin trivial ?_ (by walk_at "sub") fun _ _ a => a))
    · exact TyN.ty (tn_sort0 (tn_lc (α := Nat) [] nD (fun _ => none) (ti_tup (ds := []) (ty_var rfl)) own_name mon_name (by simp) (fun a ha => nomatch ha)))
    · show [(lf, LC ((pick ds (ix.take i)).map dD ++ [dD (ds.getD x (none, 0))]))] = [(lf, LC ((pick ds (ix.take (i + 1))).map dD))]
      rw [take_more hx]
      unfold pick
      rw [List.map_append, List.map_append] <;> rfl
  · refine ok_freeze (i := 4) rfl (ok_ret ((ty_tupleL (ty_var rfl)).is ?_) hr)
    rw [List.take_length] <;> rfl
end
end RC

end
section
set_option Elab.async false
set_option linter.all false
set_option maxRecDepth 100000
set_option maxHeartbeats 4000000
namespace RC
open PySem PySem.Spec PyProof.Rows L2
local macro_rules | `(tactic| walk_at "sub") => `(tactic| first | exact sub_nil | (apply sub_cons; walk_at "sub") | (apply sub_drop; walk_at "sub"))
local macro_rules | `(tactic| walk_at "hr") => `(tactic| (repeat apply Exists.intro) <;> (refine And.intro rfl ?_) <;> (repeat' apply And.intro) <;> (first | rfl | assumption | omega | skip))
local macro_rules | `(tactic| walk_at "ev") => `(tactic| first
  | exact ty_var rfl
  | exact ty_int
  | exact ty_bl
  | exact ty_non
  | exact ty_str
  | exact ta_nil
  | (apply ta_cons <;> walk_at "ev")
  | (apply tt_test <;> walk_at "ev")
  | (apply tt_B <;> walk_at "ev")
  | (apply tt_not <;> walk_at "ev")
  | (apply tt_and <;> (first | walk_at "ev" | (intro _; walk_at "ev")))
  | (apply tt_or <;> (first | walk_at "ev" | (intro _; walk_at "ev")))
  | (apply ty_and <;> (first | walk_at "ev" | (intro _; walk_at "ev")))
  | (apply ty_or <;> (first | walk_at "ev" | (intro _; walk_at "ev")))
  | (apply ty_not <;> walk_at "ev")
  | (apply ty_succ <;> walk_at "ev")
  | (apply ty_add <;> walk_at "ev")
  | (apply ty_sub <;> walk_at "ev")
  | (apply ty_lt <;> walk_at "ev")
  | (apply ty_le <;> walk_at "ev")
  | (apply ty_gt <;> walk_at "ev")
  | (apply ty_ge <;> walk_at "ev")
  | (apply ty_leleI <;> walk_at "ev")
  | (apply ty_ltltI <;> walk_at "ev")
  | (apply ty_isOpen <;> walk_at "ev")
  | (apply ty_isRow <;> walk_at "ev")
  | (apply ty_isWait <;> walk_at "ev")
  | (apply ty_o1 <;> walk_at "ev")
  | (apply ty_o2 <;> walk_at "ev")
  | (apply ty_o3 <;> walk_at "ev")
  | (apply ty_r1 <;> walk_at "ev")
  | (apply ty_r2 <;> walk_at "ev")
  | (apply ty_r3 <;> walk_at "ev")
  | (apply ty_eqI <;> walk_at "ev")
  | (apply ty_eqS <;> (first | walk_at "ev" | decide +kernel))
  | (apply ty_wrote <;> walk_at "ev")
  | (apply ty_bare <;> walk_at "ev")
  | (apply ty_isN <;> walk_at "ev")
  | (apply ty_notN <;> walk_at "ev")
  | (apply ty_neI <;> walk_at "ev")
  | (apply ty_neg <;> walk_at "ev")
  | (apply ty_inTN <;> walk_at "ev")
  | (apply ty_inLN <;> walk_at "ev")
  | (apply ty_niTN <;> walk_at "ev")
  | (apply ty_isi <;> (first | walk_at "ev" | exact kit_ii | exact kit_ib | exact kit_tt | exact kit_ss | exact kit_bb))
  | exact tyc_len (k := 0) rfl rfl
  | exact tyc_len (k := 1) rfl rfl
  | (apply ty_lenT <;> walk_at "ev")
  | (apply ty_lenL <;> walk_at "ev")
  | (apply ty_d0 <;> walk_at "ev")
  | (apply ty_d1 <;> walk_at "ev")
  | (apply ty_d2 <;> walk_at "ev")
  | (apply ty_di <;> (first | walk_at "ev" | assumption))
  | (apply ty_ixT <;> (first | walk_at "ev" | rfl | exact atI_map_nat _ (by assumption) | (show _ = _)))
  | (apply ty_ixL <;> (first | walk_at "ev" | rfl | exact atI_map_nat _ (by assumption) | (show _ = _)))
  | (apply ty_cells (by assumption) <;> walk_at "ev")
  | (apply ty_head (by assumption) <;> walk_at "ev")
  | (apply ty_deeds (by assumption) <;> walk_at "ev")
  | (apply ty_tupleL <;> walk_at "ev")
  | (apply ty_tupleT <;> walk_at "ev")
  | (apply ty_slT <;> walk_at "ev")
  | exact to_no
  | (apply to_some <;> walk_at "ev")
  | (apply ty_tup <;> (first | walk_at "ev" | decide | (simp; done)))
  | (apply ty_call <;> (first | walk_at "ev" | walk_at "hr")))
local macro_rules | `(tactic| walk_at "bv") => `(tactic| first | rfl | (refine congrArg BV ?_; simp; done) | (refine congrArg BV ?_; simp; omega) | (simp; done) | (simp; omega) | omega)
section
variable {K : PySem.W.Frag} {mg : Str → Option Value} {vs : List V} {H : Hp} {Q : VK} {E : XK}
theorem pure_behind_open (T : Txt K mg) (h : sp_behind_open K vs H Q E) : t_behind_open K (endsOf Q) (L2.start N_behind_open vs) H := enter h fun Ps P hR C hW hr hf => by
  obtain ⟨c, hd, ds, a, b, rfl, hl, rfl⟩ := hR
  have S := T.std
  obtain ⟨nw, hnw⟩ : ∃ nw : Dd, nw = (if 0 < a then some hd else none, b) := ⟨_, rfl⟩
  refine ok_asg (P := LV ((ds ++ [nw]).map dD)) ((TyN.ty (tn_cat (ds := ds.map dD) (es := [dD nw]) (TyN.ty (tn_listT (ty_deeds S (ty_var rfl)))) (TyN.ty (tn_lst (ta_cons (ty_tup (ds := [oD nw.1, .int nw.2, e0]) (ta_cons (ty_if (b := decide (0 < a)) (tt_test (ty_gt (ty_var rfl) ty_int)) (fun z => ?_) fun z => ?_) (ta_cons ?_ (ta_cons (ty_var rfl) ta_nil))) (by simp)) ta_nil) (by simp))) (by simp; omega))).is (by rw [List.map_append] <;> rfl)) ?_
  · rw [hnw, if_pos (of_decide_eq_true z)]
    exact ty_head S (ty_var rfl)
  · rw [hnw, if_neg (of_decide_eq_false z)]
    exact ty_non
  · rw [hnw]
    exact ty_var rfl
  refine ok_new ((tn_listR (tr_1 (ty_lenT (ds := ds.map dD) (ty_deeds S (ty_var rfl)))) ?_).is (by rw [List.length_map, rgD_nat])) fun lo => ?_
  · rw [List.length_map]
    exact RgOk.of_le (by omega) (by omega) (by omega) (by omega)
  obtain ⟨k, hk⟩ : ∃ k, k = (if 0 < a then wm ds else ds.length) := ⟨_, rfl⟩
  have hkl : k ≤ ds.length := by
    rw [hk]
    split
    · exact List.length_filter_le _ _
    · exact Nat.le_refl _
  refine ok_ins (k := 0) (j := k) (d := nD ds.length) rfl rfl (ty_if (b := decide (0 < a)) (tt_test (ty_gt (ty_var rfl) ty_int)) (fun z => ?_) fun z => ?_) ?_ (by rw [List.length_map, List.length_range]; omega) (by omega) ?_
  · rw [hk, if_pos (of_decide_eq_true z)]
    exact ty_call (ta_cons (ty_deeds S (ty_var rfl)) ta_nil) ⟨ds, .inl rfl, by omega, rfl⟩
  · rw [hk, if_neg (of_decide_eq_false z)]
    exact (tyc_len (k := 0) rfl rfl).to (by rw [List.length_map, List.length_range])
  · exact (tyc_len (k := 0) rfl rfl).to (by rw [List.length_map, List.length_range] <;> rfl)
  refine ok_freeze (i := 5) rfl ?_
  rw [← insAt_map]
  refine ok_ret ((ty_call (ta_cons (ty_cells S (ty_var rfl)) (ta_cons (ty_add (ty_head S (ty_var rfl)) (ty_var rfl)) (ta_cons (ty_call (ta_cons (ty_var rfl) (ta_cons (ty_var rfl) ta_nil)) ⟨ds ++ [nw], insAt k ds.length (List.range ds.length), rfl, ?_, ?_, ?_, rfl⟩) ta_nil))) ⟨c, hd + a, _, rfl, rfl⟩).to ?_) hr
  · rw [pick_open]
    by_cases hc : 0 < a
    · rw [behind_p hc, hk, if_pos hc, hnw, if_pos hc]
    · rw [behind_0 hc, hk, if_neg hc, hnw, if_neg hc, insAt_end]
  · intro i hi
    unfold insAt at hi
    rw [List.length_append]
    rcases List.mem_append.mp hi with hi | hi
    · rcases List.mem_append.mp hi with hi | hi
      · have := List.mem_range.mp (List.mem_of_mem_take hi)
        omega
      · rw [List.mem_singleton.mp hi]
        simp
    · have := List.mem_range.mp (List.mem_of_mem_drop hi)
      omega
  · simp
    omega
  · rw [insAt_len, List.length_range]
    omega
theorem pure_left_order (T : Txt K mg) (h : sp_left_order K vs H Q E) : t_left_order K (endsOf Q) (L2.start N_left_order vs) H := enter h fun Ps P hR C hW hr hf => by
  obtain ⟨c, hd, ds, m, lot, rfl, hm, hlot, hl, rfl⟩ := hR
  have S := T.std
  refine ok_asg (P := LV ((List.range' m (ds.length - m)).map nD)) (TyN.ty ((tn_listR (tr_2 (ty_var rfl) (ty_lenT (ds := ds.map dD) (ty_deeds S (ty_var rfl)))) ?_).is (by rw [List.length_map, rgD_nat2]))) ?_
  · rw [List.length_map]
    exact RgOk.of_le (by omega) (by omega) (by omega) (by omega)
  have hmem : ∀ i ∈ List.range' m (ds.length - m), ds[i]? = some (at_ ds i) := fun i hi => by
    obtain ⟨k, hk, rfl⟩ := List.mem_range'.mp hi
    exact getD_lt (by omega)
  have hlm : ∀ i ∈ lot, ds[i]? = some (at_ ds i) := fun i hi => getD_lt (by have := hlot.2 i hi; omega)
  have hll : lot.length ≤ 100 := by
    have z := lot_range hlot
    have := List.length_filter_le (fun i => decide (i ∈ lot)) (List.range m)
    rw [z, List.length_range] at this
    omega
  have hrl : (List.range' m (ds.length - m)).length ≤ 100 := by
    rw [List.length_range']
    omega
  refine ok_asg (P := LV (((List.range' m (ds.length - m)).filter fun i => wrote (at_ ds i)).map nD)) (TyN.ty (tn_lcf _ nD (fun i => wrote (at_ ds i)) nD (ti_list (ty_var rfl)) own_name mon_name (by omega) fun i hi => ⟨_, tg_name, tt_test (ty_wrote (ty_d0 (ty_di (ty_deeds S (ty_var rfl)) (ty_var rfl) (hmem i hi)))), fun _ => ty_var rfl⟩)) ?_
  refine ok_asg (P := LV (((List.range' m (ds.length - m)).filter fun i => !wrote (at_ ds i)).map nD)) (TyN.ty (tn_lcf _ nD (fun i => !wrote (at_ ds i)) nD (ti_list (ty_var rfl)) own_name mon_name (by omega) fun i hi => ⟨_, tg_name, tt_test (ty_bare (ty_d0 (ty_di (ty_deeds S (ty_var rfl)) (ty_var rfl) (hmem i hi)))), fun _ => ty_var rfl⟩)) ?_
  refine ok_asg (P := LV ((lot.filter fun i => decide (0 < (at_ ds i).2)).map nD)) (TyN.ty (tn_lcf lot nD (fun i => decide (0 < (at_ ds i).2)) nD (ti_tup (ty_var rfl)) own_name mon_name (by omega) fun i hi => ⟨_, tg_name, tt_test (ty_gt (ty_d1 (ty_di (ty_deeds S (ty_var rfl)) (ty_var rfl) (hlm i hi))) ty_int), fun _ => ty_var rfl⟩)) ?_
  have h1 := List.length_filter_le (fun i => wrote (at_ ds i)) (List.range' m (ds.length - m))
  have h2 := List.length_filter_le (fun i => !wrote (at_ ds i)) (List.range' m (ds.length - m))
  have h3 := List.length_filter_le (fun i => decide (0 < (at_ ds i).2)) lot
  have h4 := List.length_filter_le (fun i => !decide (i ∈ lot.filter fun i => decide (0 < (at_ ds i).2))) lot
  refine ok_ret ((TyN.ty (tn_cat (TyN.ty (tn_cat (TyN.ty (tn_cat (ty_var rfl) (ty_var rfl) (by rw [List.length_map, List.length_map]; omega))) (ty_var rfl) (by rw [List.length_append, List.length_map, List.length_map, List.length_map]; omega))) (TyN.ty (tn_lcf lot nD (fun i => !decide (i ∈ lot.filter fun i => decide (0 < (at_ ds i).2))) nD (ti_tup (ty_var rfl)) own_name mon_name (by omega) fun i hi => ⟨_, tg_name, tt_test (ty_niLN (ty_var rfl) (ty_var rfl)), fun _ => ty_var rfl⟩)) (by
    rw [List.length_append, List.length_append, List.length_map, List.length_map, List.length_map, List.length_map]; omega))).is ?_) hr
  rw [← List.map_append, ← List.map_append, ← List.map_append]
  unfold allF orderF
  congr 3
  apply List.filter_congr
  intro i hi
  have e : i ∈ (lot.filter fun i => decide (0 < (at_ ds i).2)) ↔ 0 < (at_ ds i).2 := by
    rw [List.mem_filter, decide_eq_true_eq]
    exact ⟨fun z => z.2, fun z => ⟨hi, z⟩⟩
  show (!decide (i ∈ lot.filter fun i => decide (0 < (at_ ds i).2))) = decide ((at_ ds i).2 ≤ 0)
  rw [dec_iff e]
  by_cases q : 0 < (at_ ds i).2
  · rw [decide_eq_true q, decide_eq_false (by omega)] <;> rfl
  · rw [decide_eq_false q, decide_eq_true (by omega)] <;> rfl
theorem pure_left_of (T : Txt K mg) (h : sp_left_of K vs H Q E) : t_left_of K (endsOf Q) (L2.start N_left_of vs) H := enter h fun Ps P hR C hW hr hf => by
  obtain ⟨c, hd, ds, m, lot, rfl, hm, hlot, hl, hn, rfl⟩ := hR
  have S := T.std
  refine ok_new (tn_listT (ds := ds.map dD) (ty_deeds S (ty_var rfl))) fun lf => ?_
  refine ok_asg (ty_head S (ty_var rfl)) ?_
  refine ok_forL (List.range m) nD (fun i => [(lf, LC ((setF hd ds i).map dD))]) (fun i => [some (SS K c hd ds), some (IV (m : Nat)), some (DV (lotD lot)), some (XV (.ref lf)), some (IV (hd + needs ds i)), none, none, none, none]) (fun _ => True) (ty_rg1 (ty_var rfl) (by omega)) trivial (by rw [setF_0]) (by
    show Sub [_, _, _, _, some (IV hd), _, _, _, _] [_, _, _, _, some (IV (hd + 0)), _, _, _, _]
    rw [Int.add_zero]
    walk_at "sub") (fun L' hL i x hx _ => ?_) fun _ => ?_
  · have hi : i < m := by
      have := (List.getElem?_eq_some_iff.mp hx).1
      rwa [List.length_range] at this
    rw [List.getElem?_range hi] at hx
    have ex : x = i := (Option.some.inj hx).symm
    subst ex
    have hxl : x < ds.length := by omega
    have hat : (setF hd ds x)[x]? = some (at_ ds x) := by rw [setF_get hxl, if_neg (by omega)]
    refine ⟨_, tg_name, ?_⟩
    refine ok_asgG (d := dD (at_ ds x)) (tyc_ix (k := 0) rfl rfl (ty_var (P := IV (x : Nat)) rfl) (atI_map_nat dD hat)) tg3 ?_
    refine ok_setL (k := 0) (d := dD (wF hd ds x)) (m := x) rfl rfl (ty_tup (ds := [oD (wF hd ds x).1, .int (wF hd ds x).2, e0]) (ta_cons (ty_if (b := decide (0 < (at_ ds x).2)) (tt_test (ty_gt (ty_var rfl) ty_int)) (fun z => ?_) fun z => ?_) (ta_cons (ty_var rfl) (ta_cons (ty_var rfl) ta_nil))) (by simp)) (ty_var (P := IV (x : Nat)) rfl) (ixN_nat (by rw [List.length_map, setF_len]; exact hxl)) ?_
    · unfold wF
      rw [if_pos (of_decide_eq_true z)]
      exact ty_var rfl
    · unfold wF
      rw [if_neg (of_decide_eq_false z)]
      exact ty_non
    · refine ok_tl (ok_aug rfl (ty_var rfl) (ok_fin trivial ?_ ?_ fun _ _ a => a))
      · show [(lf, LC (((setF hd ds x).map dD).set x (dD (wF hd ds x))))] = [(lf, LC ((setF hd ds (x + 1)).map dD))]
        rw [← List.map_set, setF_succ hxl]
      · show Sub _ [_, _, _, _, some (IV (hd + needs ds (x + 1))), _, _, _, _]
        rw [needs_succ (getD_lt (d := (none, 0)) hxl), ← Int.add_assoc]
        walk_at "sub"
  · rw [List.length_range]
    refine ok_freeze (i := 3) rfl ?_
    refine ok_ret ((ty_call (ta_cons (ty_cells S (ty_var rfl)) (ta_cons (ty_var rfl) (ta_cons (ty_call (ta_cons (ty_var rfl) (ta_cons (ty_call (P := LV ((allF ds m lot).map nD)) (ta_cons (ty_var rfl) (ta_cons (ty_var rfl) (ta_cons (ty_var rfl) ta_nil))) ⟨c, hd, ds, m, lot, rfl, hm, hlot, hl, rfl⟩) ta_nil)) ⟨setF hd ds m, allF ds m lot, rfl, ?_, ?_, ?_, rfl⟩) ta_nil))) ⟨c, hd + needs ds m, _, rfl, rfl⟩).to ?_) hr
    · rw [left_pick hm hlot hn] <;> rfl
    · intro i hi
      rw [setF_len]
      have hb : ∀ p : Nat → Bool, i ∈ (List.range' m (ds.length - m)).filter p → i < ds.length := fun p z => by
        obtain ⟨k, hk, rfl⟩ := List.mem_range'.mp (List.mem_filter.mp z).1
        omega
      have hb2 : ∀ p : Nat → Bool, i ∈ lot.filter p → i < ds.length := fun p z => by
        have := hlot.2 i (List.mem_filter.mp z).1
        omega
      unfold allF orderF at hi
      rcases List.mem_append.mp hi with hi | hi
      · rcases List.mem_append.mp hi with hi | hi
        · rcases List.mem_append.mp hi with hi | hi
          · exact hb _ hi
          · exact hb2 _ hi
        · exact hb _ hi
      · exact hb2 _ hi
    · rw [setF_len]
      omega
    · have h1 := List.length_filter_le (fun i => wrote (ds.getD i (none, 0))) (List.range' m (ds.length - m))
      have h2 := List.length_filter_le (fun i => !wrote (ds.getD i (none, 0))) (List.range' m (ds.length - m))
      have h3 := List.length_filter_le (fun i => decide (0 < (ds.getD i (none, 0)).2)) lot
      have h4 := List.length_filter_le (fun i => decide ((ds.getD i (none, 0)).2 ≤ 0)) lot
      have hll := List.length_filter_le (fun i => decide (i ∈ lot)) (List.range m)
      rw [lot_range hlot, List.length_range] at hll
      rw [List.length_range'] at h1 h2
      unfold allF orderF
      rw [List.length_append, List.length_append, List.length_append]
      omega
theorem pure_left (T : Txt K mg) (h : sp_left K vs H Q E) : t_left K (endsOf Q) (L2.start N_left vs) H := enter h fun Ps P hR C hW hr hf => by
  obtain ⟨c, hd, ds, w, m, lot, rfl, hw, hl, hnl, he, hnl2, hp, hm, hlot, hn, rfl⟩ := hR
  have hwi : WiIn ds w := by
    cases w with
    | opn a b => trivial
    | row d a b => exact hw.1
  refine ok_drop (ty_call (P := NV) (ta_cons (ty_var rfl) (ta_cons (ty_var rfl) ta_nil)) ⟨c, hd, ds, w, rfl, hw, hl, hnl, he, rfl⟩) ?_
  refine ok_asg (P := IV (m : Nat)) (ty_call (ta_cons (ty_var rfl) (ta_cons (ty_var rfl) ta_nil)) ⟨c, hd, ds, w, rfl, hwi, hl, hnl2, by rw [hp] <;> rfl⟩) ?_
  refine ok_pass (tt_or (a := false) (b := false) (tt_test (ty_isN (d := .int (m : Nat)) (ty_var rfl))) fun _ => tt_not (b := true) (tt_B (ty_call (ta_cons (ty_var rfl) (ta_cons (ty_var rfl) ta_nil)) ⟨lot, m, rfl, hlot, rfl⟩))) ?_
  exact ok_ret (ty_call (ta_cons (ty_var rfl) (ta_cons (ty_var rfl) (ta_cons (ty_var rfl) ta_nil))) ⟨c, hd, ds, m, lot, rfl, hm, hlot, hl, hn, rfl⟩) hr
theorem pure_wish_when_left (T : Txt K mg) (h : sp_wish_when_left K vs H Q E) : t_wish_when_left K (endsOf Q) (L2.start N_wish_when_left vs) H := enter h fun Ps P hR C hW hr hf => by
  obtain ⟨c, hd, ds, w, m, lot, rfl, hm, hlot, hl, hw, rfl⟩ := hR
  cases w with
  | opn a b => exact ok_ifS (b := true) (tt_test (ty_isOpen (w := .opn a b) (ty_var rfl))) (fun _ => ok_retS (ty_var rfl) hr) fun z => nomatch z
  | row d a b =>
    obtain ⟨h1, h2⟩ := hw d a b rfl
    have hmo := mem_order (ds := ds) (m := m) (lot := lot) h1 h2
    refine ok_pass (tt_test (ty_isOpen (w := .row d a b) (ty_var rfl))) ?_
    have hidx : (allF ds m lot).idxOf d = (orderF ds m lot).idxOf d := idx_app hmo
    have hma : d ∈ allF ds m lot := List.mem_append_left _ hmo
    refine ok_ret (ty_catT (ds := [.str "row", nD ((orderF ds m lot).idxOf d)]) (es := [.int a, .int b]) (ty_catT (ds := [.str "row"]) (es := [nD ((orderF ds m lot).idxOf d)]) (ty_slT (ds := [.str "row", .int (d : Nat), .int a, .int b]) (ty_var rfl) to_no (to_some ty_int)) (ty_tup (ds := [nD ((orderF ds m lot).idxOf d)]) (ta_cons ?_ ta_nil) (by simp)) (by simp)) (ty_slT (ds := [.str "row", .int (d : Nat), .int a, .int b]) (ty_var rfl) (to_some ty_int) to_no) (by simp)) hr
    rw [← hidx]
    refine ty_index (ns := (allF ds m lot).map fun i => ((i : Nat) : Int)) (j := (allF ds m lot).idxOf d) ((ty_call (ta_cons (ty_var rfl) (ta_cons (ty_var rfl) (ta_cons (ty_var rfl) ta_nil))) ⟨c, hd, ds, m, lot, rfl, hm, hlot, hl, rfl⟩).to (by rw [map_nD])) (ty_r1 (ty_var rfl)) ?_ ?_
    · rw [List.getElem?_map, List.getElem?_eq_getElem (List.idxOf_lt_length_of_mem hma)]
      simp
    · intro k z hk hz e
      subst e
      rw [List.getElem?_map] at hz
      cases q : (allF ds m lot)[k]? with
      | none =>
        rw [q] at hz
        cases hz
      | some y =>
        rw [q] at hz
        have ey : ((y : Nat) : Int) = (d : Nat) := Option.some.inj hz
        have ey' : y = d := by omega
        subst ey'
        exact idx_first hk q rfl
theorem pure_is_carrying (T : Txt K mg) (h : sp_is_carrying K vs H Q E) : t_is_carrying K (endsOf Q) (L2.start N_is_carrying vs) H := enter h fun Ps P hR C hW hr hf => by
  obtain ⟨c, hd, ds, w, lot, rfl, hw, hl, hnl, he, hnl2, hn, hm⟩ := hR
  have hwi : WiIn ds w := by
    cases w with
    | opn a b => trivial
    | row d a b => exact hw.1
  refine ok_drop (ty_call (P := NV) (ta_cons (ty_var rfl) (ta_cons (ty_var rfl) ta_nil)) ⟨c, hd, ds, w, rfl, hw, hl, hnl, he, rfl⟩) ?_
  refine ok_asg (P := DV (oN (pMust c hd ds w))) (ty_call (ta_cons (ty_var rfl) (ta_cons (ty_var rfl) ta_nil)) ⟨c, hd, ds, w, rfl, hwi, hl, hnl2, rfl⟩) ?_
  cases hp : pMust c hd ds w with
  | none =>
    rw [hp] at hm
    obtain ⟨rfl, rfl⟩ := hm
    exact ok_ifS (b := true) (tt_or (a := true) (b := true) (tt_test (ty_isN (d := .none) (ty_var rfl))) fun z => nomatch z) (fun _ => ok_retS ty_bl hr) fun z => nomatch z
  | some m =>
    rw [hp] at hm
    obtain ⟨hm1, hlot, hmd, rfl⟩ := hm
    refine ok_pass (tt_or (a := false) (b := false) (tt_test (ty_isN (d := .int (m : Nat)) (ty_var rfl))) fun _ => tt_not (b := true) (tt_B (ty_call (ta_cons (ty_var rfl) (ta_cons (ty_var (P := IV (m : Nat)) rfl) ta_nil)) ⟨lot, m, rfl, hlot, rfl⟩))) ?_
    have hleft : Ty (C.w []) ((((List.map some [SS K c hd ds, DV (wD w), DV (lotD lot)] ++ List.replicate (N_is_carrying.length - 3) none).set 3 (some (DV (oN (some m))))))) (tCall (sp_left_of K) [] L2.E0 (tCons (tVar 0) (tCons (tVar 3) (tCons (tVar 2) tNil)))) (SS K c (leftF hd ds m lot).1 (leftF hd ds m lot).2) := ty_call (ta_cons (ty_var rfl) (ta_cons (ty_var (P := IV (m : Nat)) rfl) (ta_cons (ty_var rfl) ta_nil))) ⟨c, hd, ds, m, lot, rfl, hm1, hlot, hl, hn, rfl⟩
    refine ok_ret (ty_call (ta_cons hleft (ta_cons (ty_call (P := DV (wD (whenLeft ds m lot w))) (ta_cons (ty_var rfl) (ta_cons (ty_var rfl) (ta_cons (ty_var (P := IV (m : Nat)) rfl) (ta_cons (ty_var rfl) ta_nil)))) ⟨c, hd, ds, w, m, lot, rfl, hm1, hlot, hl, fun d a b e => ⟨hmd d a b e, by subst e; exact hw.1⟩, rfl⟩) ta_nil)) ⟨c, _, _, _, rfl, whenLeft_in hm1 hlot hw hmd, ?_, ?_, rfl⟩) hr
    · have := leftF_len hd hm1 hlot
      omega
    · exact NL_behind_left hm1 hlot hnl hw hmd
end
end RC

end
section
set_option Elab.async false
set_option linter.all false
set_option maxRecDepth 100000
set_option maxHeartbeats 4000000
namespace RC
open PySem PySem.Spec PyProof.Rows L2
local macro_rules | `(tactic| walk_at "sub") => `(tactic| first | exact sub_nil | (apply sub_cons; walk_at "sub") | (apply sub_drop; walk_at "sub"))
local macro_rules | `(tactic| walk_at "hr") => `(tactic| (repeat apply Exists.intro) <;> (refine And.intro rfl ?_) <;> (repeat' apply And.intro) <;> (first | rfl | assumption | omega | skip))
local macro_rules | `(tactic| walk_at "ev") => `(tactic| first
  | exact ty_var rfl
  | exact ty_int
  | exact ty_bl
  | exact ty_non
  | exact ty_str
  | exact ta_nil
  | (apply ta_cons <;> walk_at "ev")
  | (apply tt_test <;> walk_at "ev")
  | (apply tt_B <;> walk_at "ev")
  | (apply tt_not <;> walk_at "ev")
  | (apply tt_and <;> (first | walk_at "ev" | (intro _; walk_at "ev")))
  | (apply tt_or <;> (first | walk_at "ev" | (intro _; walk_at "ev")))
  | (apply ty_and <;> (first | walk_at "ev" | (intro _; walk_at "ev")))
  | (apply ty_or <;> (first | walk_at "ev" | (intro _; walk_at "ev")))
  | (apply ty_not <;> walk_at "ev")
  | (apply ty_succ <;> walk_at "ev")
  | (apply ty_add <;> walk_at "ev")
  | (apply ty_sub <;> walk_at "ev")
  | (apply ty_lt <;> walk_at "ev")
  | (apply ty_le <;> walk_at "ev")
  | (apply ty_gt <;> walk_at "ev")
  | (apply ty_ge <;> walk_at "ev")
  | (apply ty_leleI <;> walk_at "ev")
  | (apply ty_ltltI <;> walk_at "ev")
  | (apply ty_isOpen <;> walk_at "ev")
  | (apply ty_isRow <;> walk_at "ev")
  | (apply ty_isWait <;> walk_at "ev")
  | (apply ty_o1 <;> walk_at "ev")
  | (apply ty_o2 <;> walk_at "ev")
  | (apply ty_o3 <;> walk_at "ev")
  | (apply ty_r1 <;> walk_at "ev")
  | (apply ty_r2 <;> walk_at "ev")
  | (apply ty_r3 <;> walk_at "ev")
  | (apply ty_eqI <;> walk_at "ev")
  | (apply ty_eqS <;> (first | walk_at "ev" | decide +kernel))
  | (apply ty_wrote <;> walk_at "ev")
  | (apply ty_bare <;> walk_at "ev")
  | (apply ty_isN <;> walk_at "ev")
  | (apply ty_notN <;> walk_at "ev")
  | (apply ty_neI <;> walk_at "ev")
  | (apply ty_neg <;> walk_at "ev")
  | (apply ty_inTN <;> walk_at "ev")
  | (apply ty_inLN <;> walk_at "ev")
  | (apply ty_niTN <;> walk_at "ev")
  | (apply ty_isi <;> (first | walk_at "ev" | exact kit_ii | exact kit_ib | exact kit_tt | exact kit_ss | exact kit_bb))
  | exact tyc_len (k := 0) rfl rfl
  | exact tyc_len (k := 1) rfl rfl
  | (apply ty_lenT <;> walk_at "ev")
  | (apply ty_lenL <;> walk_at "ev")
  | (apply ty_d0 <;> walk_at "ev")
  | (apply ty_d1 <;> walk_at "ev")
  | (apply ty_d2 <;> walk_at "ev")
  | (apply ty_di <;> (first | walk_at "ev" | assumption))
  | (apply ty_ixT <;> (first | walk_at "ev" | rfl | exact atI_map_nat _ (by assumption) | (show _ = _)))
  | (apply ty_ixL <;> (first | walk_at "ev" | rfl | exact atI_map_nat _ (by assumption) | (show _ = _)))
  | (apply ty_cells (by assumption) <;> walk_at "ev")
  | (apply ty_head (by assumption) <;> walk_at "ev")
  | (apply ty_deeds (by assumption) <;> walk_at "ev")
  | (apply ty_tupleL <;> walk_at "ev")
  | (apply ty_tupleT <;> walk_at "ev")
  | (apply ty_slT <;> walk_at "ev")
  | exact to_no
  | (apply to_some <;> walk_at "ev")
  | (apply ty_tup <;> (first | walk_at "ev" | decide | (simp; done)))
  | (apply ty_call <;> (first | walk_at "ev" | walk_at "hr")))
local macro_rules | `(tactic| walk_at "bv") => `(tactic| first | rfl | (refine congrArg BV ?_; simp; done) | (refine congrArg BV ?_; simp; omega) | (simp; done) | (simp; omega) | omega)
section
variable {K : PySem.W.Frag} {mg : Str → Option Value} {vs : List V} {H : Hp} {Q : VK} {E : XK}
theorem pure_must_of (T : Txt K mg) (h : sp_must_of K vs H Q E) : t_must_of K (endsOf Q) (L2.start N_must_of vs) H := enter h fun Ps P hR C hW hr hf => by
  obtain ⟨c, hd, ds, w, rfl, hw, hl, hn, rfl⟩ := hR
  have S := T.std
  have hbl := behind_len hd ds w
  obtain ⟨th, hth⟩ : ∃ th, th = behind hd ds w := ⟨_, rfl⟩
  obtain ⟨wi, hwi⟩ : ∃ wi, wi = wisher ds w := ⟨_, rfl⟩
  obtain ⟨hv, hhv⟩ : ∃ hv, hv = heavy c th.1 th.2 := ⟨_, rfl⟩
  obtain ⟨sm, hsm⟩ : ∃ sm, sm = hv.filter fun d => decide (d ≠ wi) := ⟨_, rfl⟩
  obtain ⟨m0, hm0⟩ : ∃ m0, m0 = (match sm.getLast? with | some d => d + 1 | none => 0) := ⟨_, rfl⟩
  have hp : pMust c hd ds w = if firstRow ds w then (if wi < firstFrom (fun m => decide (wi < m) || decide (ownSum th.2 wi (th.1 - hd) m ≤ c)) m0 (wi + 1 - m0) then none else some (firstFrom (fun m => decide (wi < m) || decide (ownSum th.2 wi (th.1 - hd) m ≤ c)) m0 (wi + 1 - m0)))
      else if wi ∈ hv then none else if wi < m0 then none else some m0 := by
    subst hm0 hsm hhv hwi hth
    rfl
  rw [← hth] at hn hbl
  have hvl : hv.length ≤ 1000 := by
    have := List.length_filter_le (fun i => decide (c < (loads th.1 th.2).getD i 0)) (List.range th.2.length)
    rw [List.length_range] at this
    rw [hhv]
    unfold heavy
    omega
  refine ok_asg (P := SS K c th.1 th.2) ((ty_call (ta_cons (ty_var rfl) (ta_cons (ty_var rfl) ta_nil)) ⟨c, hd, ds, w, rfl, hw, hl, rfl⟩).to (by rw [hth])) ?_
  refine ok_asg (P := IV (wi : Nat)) ((ty_call (ta_cons (ty_var rfl) (ta_cons (ty_var rfl) ta_nil)) ⟨c, hd, ds, w, rfl, hw, hl, rfl⟩).to (by rw [hwi])) ?_
  refine ok_asg (P := LV (hv.map nD)) ((ty_call (ta_cons (ty_var rfl) ta_nil) ⟨c, th.1, th.2, rfl, hn, by omega, rfl⟩).to (by rw [hhv])) ?_
  refine ok_asg (P := LV (sm.map nD)) ((TyN.ty (tn_lcf hv nD (fun d => decide (d ≠ wi)) nD (ti_list (ty_var rfl)) own_name mon_name (by omega) fun d _ => ⟨_, tg_name, (tt_test (ty_neI (ty_var (P := IV (d : Nat)) rfl) (ty_var rfl))).is ?_, fun _ => ty_var rfl⟩)).to (by rw [hsm])) ?_
  · by_cases e : d = wi
    · subst e
      simp
    · rw [decide_eq_false (by omega : ¬ (d : Int) = (wi : Nat)), decide_eq_true e] <;> rfl
  refine ok_asg (P := IV (m0 : Nat)) (ty_if (b := decide (0 < sm.length)) ((tt_test (ty_gt (ty_lenL (ds := sm.map nD) (ty_var rfl)) ty_int)).is (by rw [List.length_map]; exact dec_iff (by omega))) (fun z => ?_) fun z => ?_) ?_
  · have hpos := of_decide_eq_true z
    obtain ⟨d, hd'⟩ : ∃ d, sm.getLast? = some d := by
      cases q : sm.getLast? with
      | none =>
        rw [List.getLast?_eq_none_iff] at q
        rw [q] at hpos
        exact absurd hpos (by simp)
      | some d => exact ⟨d, rfl⟩
    rw [hm0, hd']
    refine ty_succ (ty_ixL (ds := sm.map nD) (i := -1) (ty_var rfl) (ty_neg ty_int) ?_)
    unfold atI ixN
    rw [List.length_map, if_neg (by omega), if_pos (by omega)]
    show (sm.map nD)[((-1 : Int) + sm.length).toNat]? = some (nD d)
    rw [List.getLast?_eq_getElem?] at hd'
    rw [show ((-1 : Int) + sm.length).toNat = sm.length - 1 by omega, List.getElem?_map, hd'] <;> rfl
  · have h0 : sm = [] := List.eq_nil_of_length_eq_zero (by have := of_decide_eq_false z; omega)
    rw [hm0, h0]
    exact ty_int
  have hfin : ∀ (G : Gm) (m : Nat), G[6]? = some (some (IV (m : Nat))) → G[3]? = some (some (IV (wi : Nat))) → pMust c hd ds w = (if wi < m then none else some m) → Ok C [] G (tRet (tIf (tTest (tOp rGtI (tVar 6) (tVar 3))) (tC .non) (tVar 6))) (endsOf Q) := fun G m g6 g3 e => by
    refine ok_ret (P := DV (oN (pMust c hd ds w))) (ty_if (b := decide (wi < m)) ((tt_test (ty_gt (ty_var g6) (ty_var g3))).is (dec_iff (by omega))) (fun z => ?_) fun z => ?_) hr
    · rw [e, if_pos (of_decide_eq_true z)]
      exact ty_non
    · rw [e, if_neg (of_decide_eq_false z)]
      exact ty_var g6
  refine ok_ifS (b := firstRow ds w) (tt_B (ty_call (ta_cons (ty_var rfl) (ta_cons (ty_var rfl) ta_nil)) ⟨c, hd, ds, w, rfl, hw, rfl⟩)) (fun z => ?_) fun z => ?_
  · rw [if_pos z] at hp
    refine ok_assoc ?_
    refine ok_asg (P := IV (th.1 - hd)) (ty_sub (ty_head S (ty_var (P := SS K c th.1 th.2) rfl)) (ty_head S (ty_var (P := SS K c hd ds) rfl))) ?_
    obtain ⟨p, hpp⟩ : ∃ p : Nat → Bool, p = fun m => decide (wi < m) || decide (ownSum th.2 wi (th.1 - hd) m ≤ c) := ⟨_, rfl⟩
    rw [← hpp] at hp
    obtain ⟨s1, s2, s3, s4⟩ := first_spec p m0 (wi + 1 - m0)
    obtain ⟨r, hrr⟩ : ∃ r, r = firstFrom p m0 (wi + 1 - m0) := ⟨_, rfl⟩
    rw [← hrr] at hp s1 s2 s3 s4
    have hpr : p r = true := by
      by_cases q : r < m0 + (wi + 1 - m0)
      · exact s4 q
      · rw [hpp]
        show (decide (wi < r) || _) = true
        rw [decide_eq_true (by omega), Bool.true_or]
    refine ok_while (r - m0) (fun _ => []) (fun j => [some (SS K c hd ds), some (DV (wD w)), some (SS K c th.1 th.2), some (IV (wi : Nat)), some (LV (hv.map nD)), some (LV (sm.map nD)), some (IV ((m0 + j : Nat) : Int)), some (IV (th.1 - hd)), none]) (fun _ => True) trivial rfl (by walk_at "sub") (fun j hj _ => ?_) (fun _ => ?_) (fun j hj _ => ?_) fun _ => ?_
    · have hpj := s3 (m0 + j) (by omega) (by omega)
      rw [hpp, Bool.or_eq_false_iff] at hpj
      have q1 := of_decide_eq_false hpj.1
      have q2 := of_decide_eq_false hpj.2
      exact tt_and (a := true) (b := true) (tt_test ((ty_le (ty_var rfl) (ty_var rfl)).to (by rw [decide_eq_true (by omega)]))) fun _ => tt_test ((ty_gt (ty_call (ta_cons (ty_var rfl) (ta_cons (ty_var rfl) (ta_cons (ty_var rfl) (ta_cons (ty_var rfl) ta_nil)))) ⟨c, th.1, th.2, wi, m0 + j, th.1 - hd, rfl, by omega, rfl⟩) (ty_cells S (ty_var (P := SS K c th.1 th.2) rfl))).to (by rw [decide_eq_true (by omega)]))
    · have er : m0 + (r - m0) = r := by omega
      rw [er]
      rw [hpp, Bool.or_eq_true] at hpr
      by_cases q : wi < r
      · exact tt_and (a := false) (b := false) (tt_test ((ty_le (ty_var (P := IV (r : Nat)) rfl) (ty_var rfl)).to (by rw [decide_eq_false (by omega)]))) fun z => nomatch z
      · have q2 : ownSum th.2 wi (th.1 - hd) r ≤ c := by
          rcases hpr with y | y
          · exact absurd (of_decide_eq_true y) q
          · exact of_decide_eq_true y
        exact tt_and (a := true) (b := false) (tt_test ((ty_le (ty_var (P := IV (r : Nat)) rfl) (ty_var rfl)).to (by rw [decide_eq_true (by omega)]))) fun _ => tt_test ((ty_gt (ty_call (ta_cons (ty_var rfl) (ta_cons (ty_var rfl) (ta_cons (ty_var rfl) (ta_cons (ty_var rfl) ta_nil)))) ⟨c, th.1, th.2, wi, r, th.1 - hd, rfl, by omega, rfl⟩) (ty_cells S (ty_var (P := SS K c th.1 th.2) rfl))).to (by rw [decide_eq_false (by omega)]))
    · refine ok_tl (ok_aug rfl ty_int (ok_fin trivial rfl ?_ fun _ _ a => a))
      show Sub _ [_, _, _, _, _, _, some (IV ((m0 + (j + 1) : Nat) : Int)), _, _]
      rw [show ((m0 + (j + 1) : Nat) : Int) = ((m0 + j : Nat) : Int) + 1 by omega]
      walk_at "sub"
    · have er : m0 + (r - m0) = r := by omega
      rw [er]
      exact hfin _ r rfl rfl hp
  · have z' : ¬ firstRow ds w = true := by
      rw [z]
      simp
    rw [if_neg z'] at hp
    refine ok_ifS (b := decide (wi ∈ hv)) (tt_test (ty_inLN (ty_var rfl) (ty_var rfl))) (fun y => ?_) fun y => ?_
    · refine ok_retS (P := DV (oN (pMust c hd ds w))) ?_ hr
      rw [hp, if_pos (of_decide_eq_true y)]
      exact ty_non
    · rw [if_neg (of_decide_eq_false y)] at hp
      exact ok_nextS (hfin _ m0 rfl rfl hp)
theorem pure_behind_row (T : Txt K mg) (h : sp_behind_row K vs H Q E) : t_behind_row K (endsOf Q) (L2.start N_behind_row vs) H := enter h fun Ps P hR C hW hr hf => by
  obtain ⟨c, hd, ds, d, a, b, rfl, hdl, hl, rfl⟩ := hR
  have S := T.std
  have hi : ds[d]? = some (at_ ds d) := getD_lt hdl
  refine ok_asgG (d := dD (at_ ds d)) (ty_di (ty_deeds S (ty_var rfl)) (ty_var rfl) hi) tg3 ?_
  refine ok_new (tn_listT (ds := ds.map dD) (ty_deeds S (ty_var rfl))) fun ld => ?_
  refine ok_new ((tn_listR (tr_1 (tyc_len (k := 0) (l := ld) (ds := ds.map dD) rfl rfl)) ?_).is (by rw [List.length_map, rgD_nat])) fun lo => ?_
  · rw [List.length_map]
    exact RgOk.of_le (by omega) (by omega) (by omega) (by omega)
  have hfin : ∀ (f : Option Int) (G : Gm) (ix : List Nat), G[0]? = some (some (SS K c hd ds)) → G[1]? = some (some (IV (d : Nat))) → G[2]? = some (some (IV a)) → G[3]? = some (some (IV b)) → G[4]? = some (some (DV (oD f))) → G[6]? = some (some (DV e0)) → G[7]? = some (some (XV (.ref ld))) → G[8]? = some (some (XV (.ref lo))) →
      (∀ i ∈ ix, i < ds.length) → ix.length ≤ 1000 → pick (ds.set d (f, b)) ix = (behind hd ds (.row d a b)).2 → (behind hd ds (.row d a b)).1 = hd + a →
      Ok C [(lo, LC (ix.map nD)), (ld, LC (ds.map dD))] G (tSeq (tAsg (tTup (tCons (tVar 4) (tCons (tVar 3) (tCons (tVar 6) (tNil))))) (gSub (tVar 7) (tVar 1) rSetL)) (tRet (tCall (sp_raw_standing K) [] L2.E0 (tCons (tFld K (tVar 0) "cells") (tCons (tOp (rAddA K) (tFld K (tVar 0) "head") (tVar 2)) (tCons (tCall (sp_renumbered K) [] L2.E0 (tCons (tVar 7) (tCons (tVar 8) (tNil)))) (tNil))))))) (endsOf Q) := by
    intro f G ix g0 g1 g2 g3 g4 g6 g7 g8 hix hixl e1 e2
    refine ok_setL (k := 1) (d := dD (f, b)) (m := d) rfl g7 (ty_tup (ds := [oD f, .int b, e0]) (ta_cons (ty_var g4) (ta_cons (ty_var g3) (ta_cons (ty_var g6) ta_nil))) (by simp)) (ty_var g1) (ixN_nat (by rw [List.length_map]; exact hdl)) ?_
    show Ok C [(lo, LC (ix.map nD)), (ld, LC ((ds.map dD).set d (dD (f, b))))] G _ _
    rw [← List.map_set]
    refine ok_freeze (i := 8) g8 ?_
    have n78 : (8 : Nat) ≠ 7 := by decide
    refine ok_freeze (i := 7) (by rw [List.getElem?_set_ne (by decide)]; exact g7) ?_
    have hl8 : 8 < G.length := (List.getElem?_eq_some_iff.mp g8).1
    have q7 : ((G.set 8 (some (LV (ix.map nD)))).set 7 (some (LV ((ds.set d (f, b)).map dD))))[7]? = some (some (LV ((ds.set d (f, b)).map dD))) := by
      rw [List.getElem?_set_self (by rw [List.length_set]; omega)]
    have q8 : ((G.set 8 (some (LV (ix.map nD)))).set 7 (some (LV ((ds.set d (f, b)).map dD))))[8]? = some (some (LV (ix.map nD))) := by
      rw [List.getElem?_set_ne (by decide), List.getElem?_set_self hl8]
    have q0 : ((G.set 8 (some (LV (ix.map nD)))).set 7 (some (LV ((ds.set d (f, b)).map dD))))[0]? = some (some (SS K c hd ds)) := by
      rw [List.getElem?_set_ne (by decide), List.getElem?_set_ne (by decide)]
      exact g0
    have q2 : ((G.set 8 (some (LV (ix.map nD)))).set 7 (some (LV ((ds.set d (f, b)).map dD))))[2]? = some (some (IV a)) := by
      rw [List.getElem?_set_ne (by decide), List.getElem?_set_ne (by decide)]
      exact g2
    refine ok_ret ((ty_call (ta_cons (ty_cells S (ty_var q0)) (ta_cons (ty_add (ty_head S (ty_var q0)) (ty_var q2)) (ta_cons (ty_call (ta_cons (ty_var q7) (ta_cons (ty_var q8) ta_nil)) ⟨ds.set d (f, b), ix, rfl, ?_, ?_, hixl, rfl⟩) ta_nil))) ⟨c, hd + a, _, rfl, rfl⟩).to ?_) hr
    · rw [e1, e2]
    · intro i hi'
      rw [List.length_set]
      exact hix i hi'
    · rw [List.length_set]
      omega
  refine ok_ifS (b := !wrote (at_ ds d)) (tt_test (ty_bare (ty_var rfl))) (fun z => ?_) fun z => ?_
  · have hw : wrote (at_ ds d) = false := by simpa using z
    have hwm := wm_erase hdl
    rw [hw] at hwm
    have hwm' : wm ds = wm (ds.eraseIdx d) := by simpa using hwm
    refine ok_assoc (ok_W (W' := [(lo, LC (((List.range ds.length).map fun i => ((i : Nat) : Int)).map .int)), (ld, LC (ds.map dD))]) (by rw [map_nD]) ?_)
    refine ok_rem (k := 0) (j := d) rfl rfl (ty_var rfl) (by rw [List.getElem?_map, List.getElem?_range hdl] <;> rfl) (fun m hm => ?_) ?_
    · rw [List.getElem?_map, List.getElem?_range (by omega)]
      intro e
      have e2 : ((m : Nat) : Int) = (d : Nat) := Option.some.inj e
      omega
    refine ok_W (W' := [(lo, LC (((List.range ds.length).eraseIdx d).map nD)), (ld, LC (ds.map dD))]) ?_ ?_
    · show [(lo, LC _), _] = _
      rw [map_nD, map_erase] <;> rfl
    have hel : ((List.range ds.length).eraseIdx d).length ≤ ds.length := by
      have := List.length_eraseIdx_le (List.range ds.length) d
      rwa [List.length_range] at this
    have hwl : wm ds ≤ ds.length := List.length_filter_le _ _
    refine ok_assoc (ok_ins (k := 0) (j := wm ds) (d := nD d) rfl rfl (tyc_call (k := 1) rfl rfl ⟨ds, .inr rfl, by omega, rfl⟩ fun v F F' p => by
      cases p
      exact .int _) (ty_var rfl) (by rw [List.length_map]; omega) (by omega) ?_)
    refine ok_W (W' := [(lo, LC ((insAt (wm ds) d ((List.range ds.length).eraseIdx d)).map nD)), (ld, LC (ds.map dD))]) (by rw [insAt_map] <;> rfl) ?_
    refine ok_asg (P := DV (oD (some hd))) (ty_head S (ty_var rfl)) ?_
    refine hfin (some hd) _ _ rfl rfl rfl rfl rfl rfl rfl rfl ?_ ?_ ?_ ?_
    · intro i hi'
      have hm := List.mem_append.mp hi'
      rcases hm with hm | hm
      · rcases List.mem_append.mp hm with hm | hm
        · exact List.mem_range.mp (List.mem_of_mem_eraseIdx (List.mem_of_mem_take hm))
        · rw [List.mem_singleton.mp hm]
          exact hdl
      · exact List.mem_range.mp (List.mem_of_mem_eraseIdx (List.mem_of_mem_drop hm))
    · rw [insAt_len]
      omega
    · rw [pick_ins, at_set hdl, pick_less hdl, behind_b hw, hwm']
    · rw [behind_b hw]
  · have hw : wrote (at_ ds d) = true := by simpa using z
    refine ok_nextS ?_
    refine hfin (at_ ds d).1 _ (List.range ds.length) rfl rfl rfl rfl rfl rfl rfl rfl (fun i hi' => List.mem_range.mp hi') (by rw [List.length_range]; omega) ?_ ?_
    · rw [behind_w hdl hw]
      have := @pick_all (ds.set d ((at_ ds d).1, b))
      rwa [List.length_set] at this
    · rw [behind_w hdl hw]
theorem pure_carried_of (T : Txt K mg) (h : sp_carried_of K vs H Q E) : t_carried_of K (endsOf Q) (L2.start N_carried_of vs) H := enter h fun Ps P hR C hW hr hf => by
  obtain ⟨c, hd, ds, d, rfl, hdl, hw, hl, rfl⟩ := hR
  have S := T.std
  have hi : ds[d]? = some (at_ ds d) := getD_lt hdl
  obtain ⟨n, hn⟩ : ∃ n, n = (at_ ds d).2 := ⟨_, rfl⟩
  refine ok_asgG (d := dD (at_ ds d)) (ty_di (ty_deeds S (ty_var rfl)) (ty_var rfl) hi) tg3 ?_
  rw [← hn]
  refine ok_new (tn_listT (ds := ds.map dD) (ty_deeds S (ty_var rfl))) fun ld => ?_
  obtain ⟨nw, hnw⟩ : ∃ nw : Dd, nw = (if 0 < n then some hd else none, n) := ⟨_, rfl⟩
  refine ok_setL (k := 0) (d := dD nw) (m := d) rfl rfl (ty_tup (ds := [oD nw.1, .int nw.2, e0]) (ta_cons (ty_if (b := decide (0 < n)) (tt_test (ty_gt (ty_var rfl) ty_int)) (fun z => ?_) fun z => ?_) (ta_cons ?_ (ta_cons (ty_var rfl) ta_nil))) (by simp)) (ty_var rfl) (ixN_nat (by rw [List.length_map]; exact hdl)) ?_
  · rw [hnw, if_pos (of_decide_eq_true z)]
    exact ty_head S (ty_var rfl)
  · rw [hnw, if_neg (of_decide_eq_false z)]
    exact ty_non
  · rw [hnw]
    exact ty_var rfl
  refine ok_W (W' := [(ld, LC ((ds.set d nw).map dD))]) (by rw [List.map_set] <;> rfl) ?_
  refine ok_new ((tn_lcf (List.range ds.length) nD (fun i => decide (i ≠ d)) nD (ty_rg1 ((tyc_len (k := 0) rfl rfl).to (by rw [List.length_map, List.length_set])) (by omega)) own_name mon_name (by rw [List.length_range]; omega) fun i _ => ⟨_, tg_name, (tt_test (ty_neI (ty_var (P := IV (i : Nat)) rfl) (ty_var rfl))).is ?_, fun _ => ty_var rfl⟩).is (by rw [← range_erase hdl])) fun lo => ?_
  · by_cases e : i = d
    · subst e
      simp
    · rw [decide_eq_false (by omega : ¬ (i : Int) = (d : Nat)), decide_eq_true e] <;> rfl
  have hwm := wm_erase hdl
  rw [show wrote (at_ ds d) = true from hw, if_pos rfl] at hwm
  have hel : ((List.range ds.length).eraseIdx d).length = (ds.eraseIdx d).length := by
    rw [List.length_eraseIdx, List.length_eraseIdx, List.length_range]
  have hel2 := List.length_eraseIdx_le ds d
  obtain ⟨k, hk⟩ : ∃ k, k = (if 0 < n then wm (ds.eraseIdx d) else (ds.eraseIdx d).length) := ⟨_, rfl⟩
  have hkl : k ≤ (ds.eraseIdx d).length := by
    rw [hk]
    split
    · exact List.length_filter_le _ _
    · exact Nat.le_refl _
  refine ok_ins (k := 0) (j := k) (d := nD d) rfl rfl (ty_if (b := decide (0 < n)) (tt_test (ty_gt (ty_var rfl) ty_int)) (fun z => ?_) fun z => ?_) (ty_var rfl) (by rw [List.length_map]; omega) (by omega) ?_
  · rw [hk, if_pos (of_decide_eq_true z)]
    refine (ty_sub (ty_call (P := IV (wm ds : Nat)) (ta_cons (ty_deeds S (ty_var rfl)) ta_nil) ⟨ds, .inl rfl, by omega, rfl⟩) ty_int).to ?_
    rw [hwm]
    exact congrArg IV (by omega)
  · rw [hk, if_neg (of_decide_eq_false z)]
    exact (tyc_len (k := 0) rfl rfl).to (by rw [List.length_map, hel])
  refine ok_W (W' := [(lo, LC ((insAt k d ((List.range ds.length).eraseIdx d)).map nD)), (ld, LC ((ds.set d nw).map dD))]) (by rw [insAt_map] <;> rfl) ?_
  refine ok_freeze (i := 6) rfl (ok_freeze (i := 5) rfl ?_)
  refine ok_ret ((ty_call (ta_cons (ty_cells S (ty_var rfl)) (ta_cons (ty_add (ty_head S (ty_var rfl)) (ty_var rfl)) (ta_cons (ty_call (ta_cons (ty_var rfl) (ta_cons (ty_var rfl) ta_nil)) ⟨ds.set d nw, insAt k d ((List.range ds.length).eraseIdx d), rfl, ?_, ?_, ?_, rfl⟩) ta_nil))) ⟨c, hd + n, _, rfl, rfl⟩).to ?_) hr
  · rw [pick_ins, at_set hdl, pick_less hdl]
    show SS K c (hd + n) _ = SS K c (hd + (at_ ds d).2) (if 0 < (at_ ds d).2 then insAt (wm (ds.eraseIdx d)) (some hd, (at_ ds d).2) (ds.eraseIdx d) else ds.eraseIdx d ++ [(none, (at_ ds d).2)])
    rw [← hn]
    by_cases q : 0 < n
    · rw [if_pos q, hk, if_pos q, hnw, if_pos q]
    · rw [if_neg q, hk, if_neg q, hnw, if_neg q, insAt_end]
  · intro i hi'
    rw [List.length_set]
    have hm := List.mem_append.mp hi'
    rcases hm with hm | hm
    · rcases List.mem_append.mp hm with hm | hm
      · exact List.mem_range.mp (List.mem_of_mem_eraseIdx (List.mem_of_mem_take hm))
      · rw [List.mem_singleton.mp hm]
        exact hdl
    · exact List.mem_range.mp (List.mem_of_mem_eraseIdx (List.mem_of_mem_drop hm))
  · rw [List.length_set]
    omega
  · rw [insAt_len]
    omega
theorem pure_sum_of (T : Txt K mg) (h : sp_sum_of K vs H Q E) : t_sum_of K (endsOf Q) (L2.start N_sum_of vs) H := enter h fun Ps P hR C hW hr hf => by
  obtain ⟨c, hd, ds, w, m, lot, d, rfl, hl, hm, hlot, hdl, rfl⟩ := hR
  have S := T.std
  have hmem : ∀ i ∈ List.range' m (ds.length - m), ds[i]? = some (at_ ds i) := fun i hi => by
    obtain ⟨k, hk, rfl⟩ := List.mem_range'.mp hi
    exact getD_lt (by omega)
  have hll := lot_len hlot
  have hrl : (List.range' m (ds.length - m)).length ≤ 100 := by
    rw [List.length_range']
    omega
  obtain ⟨stay, hst⟩ : ∃ stay, stay = (List.range' m (ds.length - m)).filter fun i => wrote (at_ ds i) := ⟨_, rfl⟩
  have hsl : stay.length ≤ 100 := by
    have := List.length_filter_le (fun i => wrote (at_ ds i)) (List.range' m (ds.length - m))
    rw [hst]
    omega
  refine ok_asg (P := LV (stay.map nD)) ((TyN.ty (tn_lcf _ nD (fun i => wrote (at_ ds i)) nD (ty_rg2 (n := ds.length) (ty_var rfl) ((ty_lenT (ds := ds.map dD) (ty_deeds S (ty_var rfl))).to (by rw [List.length_map])) (by omega) (by omega)) own_name mon_name (by omega) fun i hi => ⟨_, tg_name, tt_test (ty_wrote (ty_d0 (ty_di (ty_deeds S (ty_var rfl)) (ty_var rfl) (hmem i hi)))), fun _ => ty_var rfl⟩)).to (by rw [hst])) ?_
  have hall : ∀ i ∈ stay ++ lot, i < ds.length := fun i hi => by
    rcases List.mem_append.mp hi with z | z
    · rw [hst] at z
      obtain ⟨k, hk, rfl⟩ := List.mem_range'.mp (List.mem_filter.mp z).1
      omega
    · have := hlot.2 i z
      omega
  refine ok_asg (P := IV ((stay ++ lot).map (needBehind ds w)).sum) (ty_sumF (TyN.ty (tn_lcm (stay ++ lot) nD (fun i => PyData.int (needBehind ds w i)) (ti_list ((TyN.ty (tn_cat (ty_var (P := LV (stay.map nD)) rfl) (TyN.ty (tn_listT (ds := lot.map nD) (ty_var rfl))) (by rw [List.length_map, List.length_map]; omega))).to (by rw [List.map_append]))) own_name mon_name (by rw [List.length_append]; omega) fun i hi => ⟨_, tg_name, ty_call (ta_cons (ty_var rfl) (ta_cons (ty_var rfl) (ta_cons (ty_var rfl) ta_nil))) ⟨c, hd, ds, w, i, rfl, hall i hi, rfl⟩⟩))) ?_
  have hdm := hlot.2 d hdl
  obtain ⟨going, hgo⟩ : ∃ going, going = (List.range' (d + 1) (m - (d + 1))).filter fun i => decide (i ∉ lot) := ⟨_, rfl⟩
  have hgl : going.length ≤ 100 := by
    have := List.length_filter_le (fun i => decide (i ∉ lot)) (List.range' (d + 1) (m - (d + 1)))
    rw [List.length_range'] at this
    rw [hgo]
    omega
  have hgm : ∀ i ∈ going, ds[i]? = some (at_ ds i) := fun i hi => by
    rw [hgo] at hi
    obtain ⟨k, hk, rfl⟩ := List.mem_range'.mp (List.mem_filter.mp hi).1
    exact getD_lt (by omega)
  refine ok_asg (P := LV (going.map nD)) ((TyN.ty (tn_lcf _ nD (fun i => decide (i ∉ lot)) nD (ty_rg2 (m := d + 1) (n := m) (ty_succ (ty_var rfl)) (ty_var rfl) (by omega) (by omega)) own_name mon_name (by rw [List.length_range']; omega) fun i hi => ⟨_, tg_name, (tt_test (ty_niTN (ty_var rfl) (ty_var rfl))).is ?_, fun _ => ty_var rfl⟩)).to (by rw [hgo])) ?_
  · by_cases q : i ∈ lot
    · rw [decide_eq_true q, decide_eq_false (fun z => z q)] <;> rfl
    · rw [decide_eq_false q, decide_eq_true q] <;> rfl
  refine ok_ret ((ty_add (ty_add (ty_add (ty_call (ta_cons (ty_var rfl) ta_nil) ⟨w, rfl, rfl⟩) (ty_var rfl)) (ty_d1 (ty_di (ty_deeds S (ty_var rfl)) (ty_var rfl) (getD_lt (d := (none, 0)) (by omega : d < ds.length))))) (ty_sumF (TyN.ty (tn_lcm going nD (fun i => PyData.int (at_ ds i).2) (ti_list (ty_var rfl)) own_name mon_name (by omega) fun i hi => ⟨_, tg_name, ty_d1 (ty_di (ty_deeds S (ty_var rfl)) (ty_var rfl) (hgm i hi))⟩)))).to ?_) hr
  rw [hst, hgo] <;> rfl
theorem pure_carry_sum (T : Txt K mg) (h : sp_carry_sum K vs H Q E) : t_carry_sum K (endsOf Q) (L2.start N_carry_sum vs) H := enter h fun Ps P hR C hW hr hf => by
  obtain ⟨c, hd, ds, w, m, lot, d, rfl, hw, hl, hnl, he, hnl2, hp, hm, hlot, hn, hdl, rfl⟩ := hR
  have S := T.std
  have hdm := hlot.2 d hdl
  have hwi : WiIn ds w := by
    cases w with
    | opn a b => trivial
    | row d a b => exact hw.1
  refine ok_drop (ty_call (P := SS K c (leftF hd ds m lot).1 (leftF hd ds m lot).2) (ta_cons (ty_var rfl) (ta_cons (ty_var rfl) (ta_cons (ty_var rfl) ta_nil))) ⟨c, hd, ds, w, m, lot, rfl, hw, hl, hnl, he, hnl2, hp, hm, hlot, hn, rfl⟩) ?_
  refine ok_pass (tt_or (a := false) (b := false) (tt_not (b := true) (tt_B ((ty_call (ta_cons (ty_var rfl) (ta_cons (ty_lenT (ds := ds.map dD) (ty_deeds S (ty_var rfl))) ta_nil)) ⟨(d : Nat), _, rfl, rfl⟩).to ?_))) fun _ => tt_test ((ty_niTN (ty_var rfl) (ty_var rfl)).to (by rw [decide_eq_true hdl] <;> rfl))) ?_
  · rw [List.length_map, decide_eq_true (by omega), decide_eq_true (by omega)] <;> rfl
  · exact ok_ret (ty_call (ta_cons (ty_var rfl) (ta_cons (ty_var rfl) (ta_cons (ty_call (P := IV (m : Nat)) (ta_cons (ty_var rfl) (ta_cons (ty_var rfl) ta_nil)) ⟨c, hd, ds, w, rfl, hwi, hl, hnl2, by rw [hp] <;> rfl⟩) (ta_cons (ty_var rfl) (ta_cons (ty_var rfl) ta_nil))))) ⟨c, hd, ds, w, m, lot, d, rfl, hl, hm, hlot, hdl, rfl⟩) hr
end
end RC

end
section
set_option Elab.async false
set_option linter.all false
set_option maxRecDepth 100000
set_option maxHeartbeats 4000000
namespace RC
open PySem PySem.Spec PyProof.Rows L2
local macro_rules | `(tactic| walk_at "sub") => `(tactic| first | exact sub_nil | (apply sub_cons; walk_at "sub") | (apply sub_drop; walk_at "sub"))
local macro_rules | `(tactic| walk_at "hr") => `(tactic| (repeat apply Exists.intro) <;> (refine And.intro rfl ?_) <;> (repeat' apply And.intro) <;> (first | rfl | assumption | omega | skip))
local macro_rules | `(tactic| walk_at "ev") => `(tactic| first
  | exact ty_var rfl
  | exact ty_int
  | exact ty_bl
  | exact ty_non
  | exact ty_str
  | exact ta_nil
  | (apply ta_cons <;> walk_at "ev")
  | (apply tt_test <;> walk_at "ev")
  | (apply tt_B <;> walk_at "ev")
  | (apply tt_not <;> walk_at "ev")
  | (apply tt_and <;> (first | walk_at "ev" | (intro _; walk_at "ev")))
  | (apply tt_or <;> (first | walk_at "ev" | (intro _; walk_at "ev")))
  | (apply ty_and <;> (first | walk_at "ev" | (intro _; walk_at "ev")))
  | (apply ty_or <;> (first | walk_at "ev" | (intro _; walk_at "ev")))
  | (apply ty_not <;> walk_at "ev")
  | (apply ty_succ <;> walk_at "ev")
  | (apply ty_add <;> walk_at "ev")
  | (apply ty_sub <;> walk_at "ev")
  | (apply ty_lt <;> walk_at "ev")
  | (apply ty_le <;> walk_at "ev")
  | (apply ty_gt <;> walk_at "ev")
  | (apply ty_ge <;> walk_at "ev")
  | (apply ty_leleI <;> walk_at "ev")
  | (apply ty_ltltI <;> walk_at "ev")
  | (apply ty_isOpen <;> walk_at "ev")
  | (apply ty_isRow <;> walk_at "ev")
  | (apply ty_isWait <;> walk_at "ev")
  | (apply ty_o1 <;> walk_at "ev")
  | (apply ty_o2 <;> walk_at "ev")
  | (apply ty_o3 <;> walk_at "ev")
  | (apply ty_r1 <;> walk_at "ev")
  | (apply ty_r2 <;> walk_at "ev")
  | (apply ty_r3 <;> walk_at "ev")
  | (apply ty_eqI <;> walk_at "ev")
  | (apply ty_eqS <;> (first | walk_at "ev" | decide +kernel))
  | (apply ty_wrote <;> walk_at "ev")
  | (apply ty_bare <;> walk_at "ev")
  | (apply ty_isN <;> walk_at "ev")
  | (apply ty_notN <;> walk_at "ev")
  | (apply ty_neI <;> walk_at "ev")
  | (apply ty_neg <;> walk_at "ev")
  | (apply ty_inTN <;> walk_at "ev")
  | (apply ty_inLN <;> walk_at "ev")
  | (apply ty_niTN <;> walk_at "ev")
  | (apply ty_isi <;> (first | walk_at "ev" | exact kit_ii | exact kit_ib | exact kit_tt | exact kit_ss | exact kit_bb))
  | exact tyc_len (k := 0) rfl rfl
  | exact tyc_len (k := 1) rfl rfl
  | (apply ty_lenT <;> walk_at "ev")
  | (apply ty_lenL <;> walk_at "ev")
  | (apply ty_d0 <;> walk_at "ev")
  | (apply ty_d1 <;> walk_at "ev")
  | (apply ty_d2 <;> walk_at "ev")
  | (apply ty_di <;> (first | walk_at "ev" | assumption))
  | (apply ty_ixT <;> (first | walk_at "ev" | rfl | exact atI_map_nat _ (by assumption) | (show _ = _)))
  | (apply ty_ixL <;> (first | walk_at "ev" | rfl | exact atI_map_nat _ (by assumption) | (show _ = _)))
  | (apply ty_cells (by assumption) <;> walk_at "ev")
  | (apply ty_head (by assumption) <;> walk_at "ev")
  | (apply ty_deeds (by assumption) <;> walk_at "ev")
  | (apply ty_tupleL <;> walk_at "ev")
  | (apply ty_tupleT <;> walk_at "ev")
  | (apply ty_slT <;> walk_at "ev")
  | exact to_no
  | (apply to_some <;> walk_at "ev")
  | (apply ty_tup <;> (first | walk_at "ev" | decide | (simp; done)))
  | (apply ty_call <;> (first | walk_at "ev" | walk_at "hr")))
local macro_rules | `(tactic| walk_at "bv") => `(tactic| first | rfl | (refine congrArg BV ?_; simp; done) | (refine congrArg BV ?_; simp; omega) | (simp; done) | (simp; omega) | omega)
section
variable {K : PySem.W.Frag} {mg : Str → Option Value} {vs : List V} {H : Hp} {Q : VK} {E : XK}
theorem pure_law_needs (T : Txt K mg) (h : sp_law_needs K vs H Q E) : t_law_needs K (endsOf Q) (L2.start N_law_needs vs) H := enter h fun Ps P hR C hW hr hf => by
  obtain ⟨ds, m, rfl, hl, rfl⟩ := hR
  refine ok_ret (ty_sumF (f := fun d : Dd => d.2) (TyN.ty (tn_needs (ds := ds.take m) (ti_tup ((ty_slT (ty_var rfl) to_no (to_some (ty_var rfl))).is (congrArg PyData.tuple (cutD_to dD ds m)))) ?_))) hr
  rw [List.length_take]
  omega
theorem pure_law_loads (T : Txt K mg) (h : sp_law_loads K vs H Q E) : t_law_loads K (endsOf Q) (L2.start N_law_loads vs) H := enter h fun Ps P hR C hW hr hf => by
  obtain ⟨hd, ds, rfl, hl, rfl⟩ := hR
  refine ok_new (tn_lst (ds := []) ta_nil) fun lf => ?_
  refine ok_forL ds.zipIdx (fun p => PyData.tuple [nD p.2, dD p.1]) (fun i => [(lf, LC (((loads hd ds).take i).map .int))]) (fun i => [some (IV hd), some (DV (dsD ds)), some (XV (.ref lf)), none, none, none, none]) (fun _ => True) (ti_enumTF (ty_var rfl)) trivial rfl (by walk_at "sub") (fun L' hL i x hx _ => ?_) fun _ => ?_
  · rw [List.getElem?_zipIdx] at hx
    cases hd0 : ds[i]? with
    | none =>
      rw [hd0] at hx
      cases hx
    | some d =>
      rw [hd0] at hx
      have ex : x = (d, 0 + i) := (Option.some.inj hx).symm
      subst ex
      rw [Nat.zero_add]
      refine ⟨_, tg_tup (tgs_cons tg_name (tgs_cons tg3 tgs_nil)), ?_⟩
      refine ok_tl (ok_app (k := 0) (d := .int (load hd ds i d)) rfl rfl (ty_if (b := !wrote d) (tt_test (ty_bare (ty_var rfl))) (fun z => ?_) fun z => ?_) (by rw [List.length_map, List.length_take, loads_len]; omega) (ok_fin trivial ?_ (by walk_at "sub") fun _ _ a => a))
      · obtain ⟨f, n⟩ := d
        cases f with
        | none => exact ty_var rfl
        | some f => cases z
      · obtain ⟨f, n⟩ := d
        cases f with
        | none => cases z
        | some f => exact ty_add (ty_sub (ty_var rfl) (ty_var (P := IV f) rfl)) (ty_call (ta_cons (ty_var rfl) (ta_cons (ty_succ (ty_var rfl)) ta_nil)) ⟨ds, i + 1, rfl, hl, rfl⟩)
      · rw [take_more (loads_get hd0), List.map_append] <;> rfl
  · refine ok_freeze (i := 2) rfl (ok_ret ((ty_var rfl).to ?_) hr)
    rw [List.length_zipIdx, ← loads_len (h := hd), List.take_length]
theorem pure_law_easy (T : Txt K mg) (h : sp_law_easy K vs H Q E) : t_law_easy K (endsOf Q) (L2.start N_law_easy vs) H := enter h fun Ps P hR C hW hr hf => by
  obtain ⟨c, hd, ds, rfl, hl, hn, rfl⟩ := hR
  obtain ⟨fs, hfs⟩ : ∃ fs : List Int, fs = (ds.filter wrote).map fun d => d.1.getD 0 := ⟨_, rfl⟩
  refine ok_asg (P := LV (fs.map .int)) ((TyN.ty (tn_lcf ds dD wrote (fun d => oD d.1) (ti_tup (ty_var rfl)) own3 mon3 (by omega) fun d _ => ⟨_, tg3, tt_test (ty_wrote (ty_var rfl)), fun _ => ty_var rfl⟩)).is ?_) ?_
  · rw [hfs, List.map_map]
    congr 1
    apply List.map_congr_left
    intro d hd'
    have hw := (List.mem_filter.mp hd').2
    obtain ⟨f, n⟩ := d
    cases f with
    | none => cases hw
    | some f => rfl
  have hlen : fs.length ≤ 1000 := by
    have := List.length_filter_le wrote ds
    rw [hfs, List.length_map]
    omega
  have hrest : Ok C [] ((((List.map some [IV c, IV hd, DV (dsD ds)] ++ List.replicate (N_law_easy.length - 3) none).set 3 (some (LV (fs.map .int)))))) (tRet (tCB (rAll K) (tCons (tLc (iList K (tCall (sp_law_loads K) [] L2.E0 (tCons (tVar 1) (tCons (tVar 2) (tNil))))) (gName 7) (tYes) (tOp rLeI (tVar 7) (tVar 0)) [7]) (tNil)))) (endsOf Q) := by
    refine ok_ret (ty_allF (xs := loads hd ds) (f := fun l => decide (l ≤ c)) (TyN.ty (tn_lcm (loads hd ds) PyData.int (fun l => PyData.bool (decide (l ≤ c))) (ti_list (ty_call (P := LV ((loads hd ds).map .int)) (ta_cons (ty_var rfl) (ta_cons (ty_var rfl) ta_nil)) ⟨hd, ds, rfl, hl, rfl⟩)) own_name mon_name (by rw [loads_len]; omega) fun l _ => ⟨_, tg_name, ty_le (ty_var rfl) (ty_var rfl)⟩))) hr
  by_cases h0 : fs = []
  · subst h0
    exact ok_pass (tt_and (a := false) (b := false) (tt_test (ty_gt (ty_lenL (ds := []) (ty_var rfl)) ty_int)) fun z => nomatch z) hrest
  · obtain ⟨mn, hm1, hm2⟩ := min_ex h0
    have hpos := List.length_pos_iff.mpr h0
    refine ok_ifS (b := true && decide (c < hd - mn)) (tt_and (a := true) (tt_test ((ty_gt (ty_lenL (ds := fs.map .int) (ty_var rfl)) ty_int).to (by rw [List.length_map, decide_eq_true (by omega)]))) fun _ => tt_test (ty_gt (ty_sub (ty_var rfl) (ty_min (ty_var rfl) hm1 hm2)) (ty_var rfl))) (fun z => ?_) fun z => ok_nextS hrest
    · refine ok_retS (P := BV (easyB c hd ds)) ?_ hr
      have hfalse : easyB c hd ds = false := by
        cases q : easyB c hd ds with
        | false => rfl
        | true =>
          rw [easyB_iff] at q
          rw [hfs] at hm1
          obtain ⟨d, hd1, hd2⟩ := List.mem_map.mp hm1
          have hd3 := List.mem_filter.mp hd1
          obtain ⟨i, hi⟩ := List.getElem?_of_mem hd3.1
          have q2 := q i d hi
          obtain ⟨f, n⟩ := d
          cases f with
          | none => cases hd3.2
          | some f =>
            rw [load_w] at q2
            have hnn := needs_nonneg hn (i + 1)
            have z2 := of_decide_eq_true z
            have e : f = mn := hd2
            omega
      rw [hfalse]
      exact ty_bl
theorem pure_law_gone (T : Txt K mg) (h : sp_law_gone K vs H Q E) : t_law_gone K (endsOf Q) (L2.start N_law_gone vs) H := enter h fun Ps P hR C hW hr hf => by
  obtain ⟨hd, ds, m, rfl, hl, rfl⟩ := hR
  exact ok_ret (ty_tup (ds := [.int (hd + needs ds m), dsD (ds.drop m)]) (ta_cons (ty_add (ty_var rfl) (ty_call (ta_cons (ty_var rfl) (ta_cons (ty_var rfl) ta_nil)) ⟨ds, m, rfl, hl, rfl⟩)) (ta_cons ((ty_slT (ty_var rfl) (to_some (ty_var rfl)) to_no).is (congrArg PyData.tuple (cutD_from dD ds m))) ta_nil)) (by simp)) hr
theorem pure_law_told_later (T : Txt K mg) (h : sp_law_told_later K vs H Q E) : t_law_told_later K (endsOf Q) (L2.start N_law_told_later vs) H := enter h fun Ps P hR C hW hr hf => by
  obtain ⟨w, m, rfl, hw, rfl⟩ := hR
  cases w with
  | opn a b => exact ok_ret (ty_if (b := true) (tt_test (ty_isOpen (w := .opn a b) (ty_var rfl))) (fun _ => ty_var rfl) fun z => nomatch z) hr
  | row d a b =>
    have := hw d a b rfl
    refine ok_ret (ty_if (b := false) (tt_test (ty_isOpen (w := .row d a b) (ty_var rfl))) (fun z => nomatch z) fun _ => (ty_catT (ds := [.str "row", nD (d - m)]) (es := [.int a, .int b]) (ty_tup (ds := [.str "row", nD (d - m)]) (ta_cons ty_str (ta_cons ((ty_sub (ty_r1 (ty_var rfl)) (ty_var rfl)).is ?_) ta_nil)) (by simp)) (ty_slT (ds := [.str "row", .int (d : Nat), .int a, .int b]) (ty_var rfl) (to_some ty_int) to_no) (by simp))) hr
    exact congrArg PyData.int (by omega)
theorem ty_len3 {W : Wd} {G : Gm} {te : TE} {v : Nat} {ds : List Dd} (hG : (wipeG G [v])[v]? = some none) (h : Ty W G te (DV (dsD ds))) (hl : ds.length ≤ 100000) : Ty W G (tCB (rLen K) (tCons (tLc (iTup K te) (gName v) (tTest (tOp rNotNo (tOp (rIxA K) (tVar v) (tC (.int 0))) (tC .non))) (tVar v) [v]) tNil)) (IV (wm ds : Nat)) := by
  refine (ty_lenL (TyN.ty (tn_lcf ds dD wrote dD (ti_tup h) (own_name (by simp)) mon_name hl fun d _ => ⟨_, tg_name, tt_test (ty_wrote (ty_d0 (ty_var ?_))), fun _ => ty_var ?_⟩))).to (by rw [List.length_map] <;> rfl) <;>
    rw [List.getElem?_set_self (List.getElem?_eq_some_iff.mp hG).1]
theorem pure_law_behind (T : Txt K mg) (h : sp_law_behind K vs H Q E) : t_law_behind K (endsOf Q) (L2.start N_law_behind vs) H := enter h fun Ps P hR C hW hr hf => by
  obtain ⟨hd, ds, w, rfl, hw, hc, hl, rfl⟩ := hR
  cases w with
  | opn a b =>
    have hc' : 0 ≤ a := hc
    obtain ⟨nw, hnw⟩ : ∃ nw : Dd, nw = (if 0 < a then some hd else none, b) := ⟨_, rfl⟩
    obtain ⟨k, hk⟩ : ∃ k, k = (if 0 < a then wm ds else ds.length) := ⟨_, rfl⟩
    refine ok_ifS (b := true) (tt_test (ty_isOpen (w := .opn a b) (ty_var rfl))) (fun _ => ?_) fun z => nomatch z
    refine ok_assoc (ok_par (P1 := IV a) (P2 := DV (dD nw)) (ta_cons (ty_o1 (ty_var rfl)) (ta_cons (ty_tup (ds := [oD nw.1, .int nw.2, e0]) (ta_cons (ty_if (b := decide (0 < a)) (tt_test (ty_gt (ty_o1 (ty_var rfl)) ty_int)) (fun z => ?_) fun z => ?_) (ta_cons ?_ (ta_cons (ty_tup (ds := []) ta_nil) ta_nil))) (by simp)) ta_nil)) ?_)
    · rw [hnw, if_pos (of_decide_eq_true z)]
      exact ty_var rfl
    · rw [hnw, if_neg (of_decide_eq_false z)]
      exact ty_non
    · rw [hnw]
      exact ty_o2 (ty_var rfl)
    refine ok_assoc (ok_asg (P := IV (k : Nat)) (ty_if (b := decide (a = 0)) (tt_test (ty_eqI (ty_var rfl) ty_int)) (fun z => ?_) fun z => ?_) ?_)
    · have := of_decide_eq_true z
      rw [hk, if_neg (by omega)]
      exact (ty_lenT (ds := ds.map dD) (ty_var rfl)).to (by rw [List.length_map])
    · have := of_decide_eq_false z
      rw [hk, if_pos (by omega)]
      exact ty_len3 rfl (ty_var rfl) (by omega)
    refine ok_retS ((ty_tup (ds := [.int (hd + a), dsD (insAt k nw ds)]) (ta_cons (ty_add (ty_var rfl) (ty_var rfl)) (ta_cons ((ty_catT (ty_catT ((ty_slT (ty_var rfl) to_no (to_some (ty_var rfl))).is (congrArg PyData.tuple (cutD_to dD ds k))) (ty_tup (ds := [dD nw]) (ta_cons (ty_var rfl) ta_nil) (by simp)) ?_) ((ty_slT (ty_var rfl) (to_some (ty_var rfl)) to_no).is (congrArg PyData.tuple (cutD_from dD ds k))) ?_).is ?_) ta_nil)) (by simp)).is ?_) hr
    · rw [List.length_map, List.length_take]
      simp
      omega
    · rw [List.length_append, List.length_map, List.length_take, List.length_map, List.length_drop]
      simp
      omega
    · rw [ins_pieces] <;> rfl
    · by_cases q : 0 < a
      · rw [behind_p q, hk, if_pos q, hnw, if_pos q] <;> rfl
      · rw [behind_0 q, hk, if_neg q, hnw, if_neg q, insAt_end] <;> rfl
  | row d a b =>
    have hdl : d < ds.length := hw
    have hi : ds[d]? = some (at_ ds d) := getD_lt hdl
    refine ok_pass (tt_test (ty_isOpen (w := .row d a b) (ty_var rfl))) ?_
    refine ok_asgG (d := wD (.row d a b)) (ty_var rfl) (tg_tup (tgs_cons tg_name (tgs_cons tg_name (tgs_cons tg_name (tgs_cons tg_name tgs_nil))))) ?_
    refine ok_asg (P := DV (oD (at_ ds d).1)) (ty_d0 (ty_di (i := d) (ty_var rfl) (ty_var rfl) hi)) ?_
    refine ok_ifS (b := wrote (at_ ds d)) (tt_test (ty_wrote (ty_var rfl))) (fun z => ?_) fun z => ok_nextS ?_
    · refine ok_retS ((ty_tup (ds := [.int (hd + a), dsD (ds.set d ((at_ ds d).1, b))]) (ta_cons (ty_add (ty_var rfl) (ty_var rfl)) (ta_cons ((ty_catT (ty_catT ((ty_slT (ty_var rfl) to_no (to_some (i := ((d : Nat) : Int)) (ty_var rfl))).is (congrArg PyData.tuple (cutD_to dD ds d))) (ty_tup (ds := [dD ((at_ ds d).1, b)]) (ta_cons (ty_tup (ds := [oD (at_ ds d).1, .int b, e0]) (ta_cons (ty_var rfl) (ta_cons (ty_var rfl) (ta_cons (ty_tup (ds := []) ta_nil) ta_nil))) (by simp)) ta_nil) (by simp)) ?_) ((ty_slT (ty_var rfl) (to_some (ty_succ (ty_var rfl))) to_no).is (congrArg PyData.tuple (cutD_from dD ds (d + 1)))) ?_).is ?_) ta_nil)) (by simp)).is ?_) hr
      · rw [List.length_map, List.length_take]
        simp
        omega
      · rw [List.length_append, List.length_map, List.length_take, List.length_map, List.length_drop]
        simp
        omega
      · rw [set_pieces dD _ hdl] <;> rfl
      · rw [behind_w hdl z] <;> rfl
    · have hel := List.length_eraseIdx_le ds d
      refine ok_asg (P := DV (dsD (ds.eraseIdx d))) ((ty_catT ((ty_slT (ty_var rfl) to_no (to_some (i := ((d : Nat) : Int)) (ty_var rfl))).is (congrArg PyData.tuple (cutD_to dD ds d))) ((ty_slT (ty_var rfl) (to_some (ty_succ (ty_var rfl))) to_no).is (congrArg PyData.tuple (cutD_from dD ds (d + 1)))) ?_).is ?_) ?_
      · rw [List.length_map, List.length_take, List.length_map, List.length_drop]
        omega
      · rw [erase_pieces] <;> rfl
      refine ok_asg (P := IV (wm (ds.eraseIdx d) : Nat)) (ty_len3 rfl (ty_var rfl) (by omega)) ?_
      refine ok_ret ((ty_tup (ds := [.int (hd + a), dsD (insAt (wm (ds.eraseIdx d)) (some hd, b) (ds.eraseIdx d))]) (ta_cons (ty_add (ty_var rfl) (ty_var rfl)) (ta_cons ((ty_catT (ty_catT ((ty_slT (ty_var rfl) to_no (to_some (ty_var rfl))).is (congrArg PyData.tuple (cutD_to dD _ _))) (ty_tup (ds := [dD (some hd, b)]) (ta_cons (ty_tup (ds := [.int hd, .int b, e0]) (ta_cons (ty_var rfl) (ta_cons (ty_var rfl) (ta_cons (ty_tup (ds := []) ta_nil) ta_nil))) (by simp)) ta_nil) (by simp)) ?_) ((ty_slT (ty_var rfl) (to_some (ty_var rfl)) to_no).is (congrArg PyData.tuple (cutD_from dD _ _))) ?_).is ?_) ta_nil)) (by simp)).is ?_) hr
      · rw [List.length_map, List.length_take]
        simp
        omega
      · rw [List.length_append, List.length_map, List.length_take, List.length_map, List.length_drop]
        simp
        omega
      · rw [ins_pieces] <;> rfl
      · rw [behind_b z] <;> rfl
theorem later_in {ds : List Dd} {w : Wi} {m : Nat} (hw : WiIn ds w) (hm : ∀ d a b, w = .row d a b → m ≤ d) : WiIn (ds.drop m) (later w m) := by
  cases w with
  | opn a b => trivial
  | row d a b =>
    have := hm d a b rfl
    have hw' : d < ds.length := hw
    show d - m < (ds.drop m).length
    rw [List.length_drop]
    omega
theorem later_cells {w : Wi} {m : Nat} : cellsOf (later w m) = cellsOf w := by
  cases w <;> rfl
theorem later_need {w : Wi} {m : Nat} : needOf (later w m) = needOf w := by
  cases w <;> rfl
theorem pure_law_must (T : Txt K mg) (h : sp_law_must K vs H Q E) : t_law_must K (endsOf Q) (L2.start N_law_must vs) H := enter h fun Ps P hR C hW hr hf => by
  obtain ⟨c, hd, ds, w, rfl, hw, hc, hnw, hl, hn, rfl⟩ := hR
  refine ok_tl ?_
  refine ok_forL (List.range (ds.length + 1)) nD (fun _ => []) (fun i => [some (IV c), some (IV hd), some (DV (dsD ds)), some (DV (wD w)), none, none, none, none, none]) (fun i => lMust c hd ds w = lMustFrom c hd ds w i (ds.length + 1 - i)) (ty_rg1 ((ty_succ (i := ds.length) ((ty_lenT (ds := ds.map dD) (ty_var rfl)).to (by rw [List.length_map])))) (by omega)) rfl rfl (by walk_at "sub") (fun L' hL i x hx hp => ?_) fun hp => ?_
  · have hi : i < ds.length + 1 := by
      have := (List.getElem?_eq_some_iff.mp hx).1
      rwa [List.length_range] at this
    rw [List.getElem?_range hi] at hx
    have ex : x = i := (Option.some.inj hx).symm
    subst ex
    refine ⟨_, tg_name, ?_⟩
    have e1 : ds.length + 1 - x = (ds.length - x) + 1 := by omega
    rw [e1] at hp
    have hr' := hr.up hL
    rw [must_step] at hp
    refine ok_ifS (b := lowB w x) ?_ (fun z => ?_) fun z => ok_nextS ?_
    · cases w with
      | opn a b => exact tt_and (a := false) (b := false) (tt_test (ty_isRow (w := .opn a b) (ty_var rfl))) fun z => nomatch z
      | row d a b => exact (tt_and (a := true) (b := decide (d < x)) (tt_test (ty_isRow (w := .row d a b) (ty_var rfl))) fun _ => (tt_test (ty_gt (ty_var rfl) (ty_r1 (ty_var rfl)))).is (dec_iff (by omega))).is (by rw [Bool.true_and] <;> rfl)
    · refine ok_retS (P := DV (oN (lMust c hd ds w))) ?_ hr'
      rw [hp, if_pos z]
      exact ty_non
    · rw [if_neg (by rw [z]; simp)] at hp
      have hm : ∀ d a b, w = .row d a b → x ≤ d := fun d a b e => by
        subst e
        have := of_decide_eq_false z
        omega
      refine ok_asgG (d := hdD (goneF hd ds x)) (ty_call (ta_cons (ty_var rfl) (ta_cons (ty_var rfl) (ta_cons (ty_var rfl) ta_nil))) ⟨hd, ds, x, rfl, by omega, rfl⟩) tg2 ?_
      have hgl : (goneF hd ds x).2.length ≤ 1000 := by
        show (ds.drop x).length ≤ 1000
        rw [List.length_drop]
        omega
      refine ok_asgG (d := hdD (behind (goneF hd ds x).1 (goneF hd ds x).2 (later w x))) (ty_call (ta_cons (ty_var rfl) (ta_cons (ty_var rfl) (ta_cons (ty_call (ta_cons (ty_var rfl) (ta_cons (ty_var rfl) ta_nil)) ⟨w, x, rfl, hm, rfl⟩) ta_nil))) ⟨(goneF hd ds x).1, (goneF hd ds x).2, later w x, rfl, later_in hw hm, by rw [later_cells]; exact hc, hgl, rfl⟩) tg2 ?_
      have hbl := behind_len (goneF hd ds x).1 (goneF hd ds x).2 (later w x)
      have hgl2 : (goneF hd ds x).2.length ≤ ds.length := by
        show (ds.drop x).length ≤ ds.length
        rw [List.length_drop]
        omega
      refine ok_tl (ok_ifS (b := okAt c hd ds w x) (tt_B (ty_call (ta_cons (ty_var rfl) (ta_cons (ty_var rfl) (ta_cons (ty_var rfl) ta_nil))) ⟨c, _, _, rfl, by omega, fun y hy => ?_, rfl⟩)) (fun z => ?_) fun z => ?_)
      · rcases mem_behind hy with q | q
        · exact hn y (List.mem_of_mem_drop q)
        · rw [q, later_need]
          exact hnw
      · refine ok_retS (P := DV (oN (lMust c hd ds w))) ?_ hr'
        rw [hp, if_pos z]
        exact ty_var rfl
      · refine ok_nextS (ok_fin ?_ rfl (by walk_at "sub") fun _ _ a => a)
        rw [hp, if_neg (by rw [z]; simp)]
        exact congrArg _ (by omega)
  · refine ok_tl (ok_retS (P := DV (oN (lMust c hd ds w))) ?_ hr)
    rw [hp, List.length_range, Nat.sub_self]
    exact ty_non
end
end RC

end
section
set_option Elab.async false
set_option linter.all false
set_option maxRecDepth 100000
set_option maxHeartbeats 4000000
namespace RC
open PySem PySem.Spec PyProof.Rows L2
local macro_rules | `(tactic| walk_at "sub") => `(tactic| first | exact sub_nil | (apply sub_cons; walk_at "sub") | (apply sub_drop; walk_at "sub"))
local macro_rules | `(tactic| walk_at "hr") => `(tactic| (repeat apply Exists.intro) <;> (refine And.intro rfl ?_) <;> (repeat' apply And.intro) <;> (first | rfl | assumption | omega | skip))
local macro_rules | `(tactic| walk_at "ev") => `(tactic| first
  | exact ty_var rfl
  | exact ty_int
  | exact ty_bl
  | exact ty_non
  | exact ty_str
  | exact ta_nil
  | (apply ta_cons <;> walk_at "ev")
  | (apply tt_test <;> walk_at "ev")
  | (apply tt_B <;> walk_at "ev")
  | (apply tt_not <;> walk_at "ev")
  | (apply tt_and <;> (first | walk_at "ev" | (intro _; walk_at "ev")))
  | (apply tt_or <;> (first | walk_at "ev" | (intro _; walk_at "ev")))
  | (apply ty_and <;> (first | walk_at "ev" | (intro _; walk_at "ev")))
  | (apply ty_or <;> (first | walk_at "ev" | (intro _; walk_at "ev")))
  | (apply ty_not <;> walk_at "ev")
  | (apply ty_succ <;> walk_at "ev")
  | (apply ty_add <;> walk_at "ev")
  | (apply ty_sub <;> walk_at "ev")
  | (apply ty_lt <;> walk_at "ev")
  | (apply ty_le <;> walk_at "ev")
  | (apply ty_gt <;> walk_at "ev")
  | (apply ty_ge <;> walk_at "ev")
  | (apply ty_leleI <;> walk_at "ev")
  | (apply ty_ltltI <;> walk_at "ev")
  | (apply ty_isOpen <;> walk_at "ev")
  | (apply ty_isRow <;> walk_at "ev")
  | (apply ty_isWait <;> walk_at "ev")
  | (apply ty_o1 <;> walk_at "ev")
  | (apply ty_o2 <;> walk_at "ev")
  | (apply ty_o3 <;> walk_at "ev")
  | (apply ty_r1 <;> walk_at "ev")
  | (apply ty_r2 <;> walk_at "ev")
  | (apply ty_r3 <;> walk_at "ev")
  | (apply ty_eqI <;> walk_at "ev")
  | (apply ty_eqS <;> (first | walk_at "ev" | decide +kernel))
  | (apply ty_wrote <;> walk_at "ev")
  | (apply ty_bare <;> walk_at "ev")
  | (apply ty_isN <;> walk_at "ev")
  | (apply ty_notN <;> walk_at "ev")
  | (apply ty_neI <;> walk_at "ev")
  | (apply ty_neg <;> walk_at "ev")
  | (apply ty_inTN <;> walk_at "ev")
  | (apply ty_inLN <;> walk_at "ev")
  | (apply ty_niTN <;> walk_at "ev")
  | (apply ty_isi <;> (first | walk_at "ev" | exact kit_ii | exact kit_ib | exact kit_tt | exact kit_ss | exact kit_bb))
  | exact tyc_len (k := 0) rfl rfl
  | exact tyc_len (k := 1) rfl rfl
  | (apply ty_lenT <;> walk_at "ev")
  | (apply ty_lenL <;> walk_at "ev")
  | (apply ty_d0 <;> walk_at "ev")
  | (apply ty_d1 <;> walk_at "ev")
  | (apply ty_d2 <;> walk_at "ev")
  | (apply ty_di <;> (first | walk_at "ev" | assumption))
  | (apply ty_ixT <;> (first | walk_at "ev" | rfl | exact atI_map_nat _ (by assumption) | (show _ = _)))
  | (apply ty_ixL <;> (first | walk_at "ev" | rfl | exact atI_map_nat _ (by assumption) | (show _ = _)))
  | (apply ty_cells (by assumption) <;> walk_at "ev")
  | (apply ty_head (by assumption) <;> walk_at "ev")
  | (apply ty_deeds (by assumption) <;> walk_at "ev")
  | (apply ty_tupleL <;> walk_at "ev")
  | (apply ty_tupleT <;> walk_at "ev")
  | (apply ty_slT <;> walk_at "ev")
  | exact to_no
  | (apply to_some <;> walk_at "ev")
  | (apply ty_tup <;> (first | walk_at "ev" | decide | (simp; done)))
  | (apply ty_call <;> (first | walk_at "ev" | walk_at "hr")))
local macro_rules | `(tactic| walk_at "bv") => `(tactic| first | rfl | (refine congrArg BV ?_; simp; done) | (refine congrArg BV ?_; simp; omega) | (simp; done) | (simp; omega) | omega)
section
variable {K : PySem.W.Frag} {mg : Str → Option Value} {vs : List V} {H : Hp} {Q : VK} {E : XK}
theorem nl_first {ds : List Dd} {d : Nat} {f n : Int} (hn : NL ds) (h : ds[d]? = some (some f, n)) : ∃ g k, ds[0]? = some (some g, k) := by
  obtain ⟨k, hk, hw⟩ := hn
  have h1 := (hw d _ h).mp rfl
  have hd := (List.getElem?_eq_some_iff.mp h).1
  have h0 : ds[0]? = some (at_ ds 0) := getD_lt (by omega)
  have h2 := (hw 0 _ h0).mpr (by omega)
  obtain ⟨a, b, e⟩ : ∃ a b, at_ ds 0 = (a, b) := ⟨_, _, rfl⟩
  rw [e] at h0 h2
  cases a with
  | none => cases h2
  | some g => exact ⟨g, b, h0⟩
theorem pure_law_carried (T : Txt K mg) (h : sp_law_carried K vs H Q E) : t_law_carried K (endsOf Q) (L2.start N_law_carried vs) H := enter h fun Ps P hR C hW hr hf => by
  obtain ⟨c, hd, ds, d, rfl, hdl, hl, hn, rfl⟩ := hR
  have hi : ds[d]? = some (at_ ds d) := getD_lt hdl
  obtain ⟨f, n, hfn⟩ : ∃ f n, at_ ds d = (f, n) := ⟨_, _, rfl⟩
  refine ok_asgG (d := dD (at_ ds d)) (ty_di (ty_var rfl) (ty_var rfl) hi) tg3 ?_
  rw [hfn]
  cases f with
  | none =>
    refine ok_ifS (b := true) (tt_test (ty_isN (d := .none) (ty_var rfl))) (fun _ => ?_) fun z => nomatch z
    refine ok_retS (P := DV (carD (carF c hd ds d))) ?_ hr
    have e : carF c hd ds d = .rows := by
      unfold carF
      show (match (at_ ds d).1 with | none => Car.rows | some _ => _) = _
      rw [hfn]
    rw [e]
    exact ty_tup (ds := [.str "rows"]) (ta_cons ty_str ta_nil)
  | some f =>
    rw [hfn] at hi
    obtain ⟨g, k, h0⟩ := nl_first hn hi
    refine ok_pass (tt_test (ty_isN (d := .int f) (ty_var rfl))) ?_
    have e0' : ((ds.getD 0 (none, 0)).1.getD 0) = g := by rw [getD_of h0] <;> rfl
    have e : carF c hd ds d = if c < hd + n - g then .room d else .let_ (carTo hd ds d).1 (carTo hd ds d).2 := by
      unfold carF
      show (match (at_ ds d).1 with | none => Car.rows | some _ => if c < hd + (at_ ds d).2 - _ then _ else _) = _
      rw [hfn, e0']
    refine ok_ifS (b := decide (c < hd + n - g)) (tt_test (ty_gt (ty_sub (ty_add (ty_var rfl) (ty_var rfl)) (ty_d0 (d := (some g, k)) (ty_di (i := 0) (ty_var rfl) ty_int h0))) (ty_var rfl))) (fun z => ?_) fun z => ok_nextS ?_
    · refine ok_retS (P := DV (carD (carF c hd ds d))) ?_ hr
      rw [e, if_pos (of_decide_eq_true z)]
      exact ty_tup (ds := [.str "room", nD d]) (ta_cons ty_str (ta_cons (ty_var rfl) ta_nil)) (by simp)
    · have hel := List.length_eraseIdx_le ds d
      obtain ⟨r, hrr⟩ : ∃ r, r = ds.eraseIdx d := ⟨_, rfl⟩
      rw [← hrr] at hel
      refine ok_asg (P := DV (dsD r)) ((ty_catT ((ty_slT (ty_var rfl) to_no (to_some (i := ((d : Nat) : Int)) (ty_var rfl))).is (congrArg PyData.tuple (cutD_to dD ds d))) ((ty_slT (ty_var rfl) (to_some (ty_succ (ty_var rfl))) to_no).is (congrArg PyData.tuple (cutD_from dD ds (d + 1)))) ?_).is ?_) ?_
      · rw [List.length_map, List.length_take, List.length_map, List.length_drop]
        omega
      · rw [erase_pieces, hrr] <;> rfl
      obtain ⟨p, hp⟩ : ∃ p, p = (if 0 < n then wm r else r.length) := ⟨_, rfl⟩
      obtain ⟨nw, hnw⟩ : ∃ nw : Dd, nw = (if 0 < n then some hd else none, n) := ⟨_, rfl⟩
      refine ok_asg (P := IV (p : Nat)) (ty_if (b := decide (0 < n)) (tt_test (ty_gt (ty_var rfl) ty_int)) (fun y => ?_) fun y => ?_) ?_
      · rw [hp, if_pos (of_decide_eq_true y)]
        exact ty_len3 rfl (ty_var rfl) (by omega)
      · rw [hp, if_neg (of_decide_eq_false y)]
        exact (ty_lenT (ds := r.map dD) (ty_var rfl)).to (by rw [List.length_map])
      refine ok_ret ((ty_tup (ds := [.str "let", .int (hd + n), dsD (insAt p nw r)]) (ta_cons ty_str (ta_cons (ty_add (ty_var rfl) (ty_var rfl)) (ta_cons ((ty_catT (ty_catT ((ty_slT (ty_var rfl) to_no (to_some (ty_var rfl))).is (congrArg PyData.tuple (cutD_to dD _ _))) (ty_tup (ds := [dD nw]) (ta_cons (ty_tup (ds := [oD nw.1, .int nw.2, e0]) (ta_cons (ty_if (b := decide (0 < n)) (tt_test (ty_gt (ty_var rfl) ty_int)) (fun y => ?_) fun y => ?_) (ta_cons ?_ (ta_cons (ty_tup (ds := []) ta_nil) ta_nil))) (by simp)) ta_nil) (by simp)) ?_) ((ty_slT (ty_var rfl) (to_some (ty_var rfl)) to_no).is (congrArg PyData.tuple (cutD_from dD _ _))) ?_).is ?_) ta_nil))) (by simp)).is ?_) hr
      · rw [hnw, if_pos (of_decide_eq_true y)]
        exact ty_var rfl
      · rw [hnw, if_neg (of_decide_eq_false y)]
        exact ty_non
      · rw [hnw]
        exact ty_var rfl
      · rw [List.length_map, List.length_take]
        simp
        omega
      · rw [List.length_append, List.length_map, List.length_take, List.length_map, List.length_drop]
        simp
        omega
      · rw [ins_pieces] <;> rfl
      · rw [e, if_neg (of_decide_eq_false z)]
        have e3 : carTo hd ds d = (hd + n, insAt p nw r) := by
          show (hd + (at_ ds d).2, if 0 < (at_ ds d).2 then insAt (wm (ds.eraseIdx d)) (some hd, (at_ ds d).2) (ds.eraseIdx d) else ds.eraseIdx d ++ [(none, (at_ ds d).2)]) = _
          rw [hfn, ← hrr]
          by_cases q : 0 < n
          · rw [if_pos q, hp, if_pos q, hnw, if_pos q]
          · rw [if_neg q, hp, if_neg q, hnw, if_neg q, insAt_end]
        rw [e3] <;> rfl
def agA (hd : Int) (ds : List Dd) (lot : List Nat) (i : Nat) : List Dd := ((List.range i).filter fun j => decide (j ∈ lot) && decide (0 < (at_ ds j).2)).map fun j => (some (hd + needs ds j), (at_ ds j).2)
def baB (ds : List Dd) (lot : List Nat) (i : Nat) : List Dd := ((List.range i).filter fun j => decide (j ∈ lot) && !decide (0 < (at_ ds j).2)).map fun _ => (none, 0)
theorem fil_succ (p : Nat → Bool) (i : Nat) : (List.range (i + 1)).filter p = (List.range i).filter p ++ (if p i then [i] else []) := by
  rw [List.range_succ, List.filter_append]
  congr 1
  cases q : p i <;> simp [q]
theorem agA_eq {hd : Int} {ds : List Dd} {m : Nat} {lot : List Nat} (hm : m ≤ ds.length) : agA hd ds lot m = againF hd (ds.take m) 0 lot := by
  rw [againF_eq, List.length_take, Nat.min_eq_left hm]
  unfold agA
  have e : (List.range m).filter (fun j => decide (0 + j ∈ lot) && decide (0 < (at_ (ds.take m) j).2)) = (List.range m).filter fun j => decide (j ∈ lot) && decide (0 < (at_ ds j).2) := List.filter_congr fun j hj => by
    rw [Nat.zero_add, at_take (List.mem_range.mp hj)]
  rw [e]
  apply List.map_congr_left
  intro j hj
  have hjm := List.mem_range.mp (List.mem_filter.mp hj).1
  rw [needs_take (by omega), at_take hjm]
theorem baB_eq {ds : List Dd} {m : Nat} {lot : List Nat} (hl : Lot lot m) : baB ds lot m = bareF ds lot := by
  unfold baB bareF
  congr 1
  have z := lot_range hl
  rw [show ((List.range m).filter fun j => decide (j ∈ lot) && !decide (0 < (at_ ds j).2)) = ((List.range m).filter fun j => decide (j ∈ lot)).filter fun j => !decide (0 < (at_ ds j).2) by
    rw [List.filter_filter]
    exact List.filter_congr fun j _ => Bool.and_comm _ _, z]
  apply List.filter_congr
  intro i _
  unfold at_
  by_cases q : 0 < (ds.getD i (none, 0)).2
  · rw [decide_eq_true q, decide_eq_false (by omega)] <;> rfl
  · rw [decide_eq_false q, decide_eq_true (by omega)] <;> rfl
theorem pure_law_left (T : Txt K mg) (h : sp_law_left K vs H Q E) : t_law_left K (endsOf Q) (L2.start N_law_left vs) H := enter h fun Ps P hR C hW hr hf => by
  obtain ⟨hd, ds, m, lot, rfl, hm, hl, hlot, hn, rfl⟩ := hR
  refine ok_parNN (tn_lst (ds := []) ta_nil) (fun _ => tn_lst (ds := []) ta_nil) fun la lb => ?_
  have halen : ∀ i, (agA hd ds lot i).length ≤ i := fun i => by
    have := List.length_filter_le (fun j => decide (j ∈ lot) && decide (0 < (at_ ds j).2)) (List.range i)
    unfold agA
    rw [List.length_map]
    rwa [List.length_range] at this
  have hblen : ∀ i, (baB ds lot i).length ≤ i := fun i => by
    have := List.length_filter_le (fun j => decide (j ∈ lot) && !decide (0 < (at_ ds j).2)) (List.range i)
    unfold baB
    rw [List.length_map]
    rwa [List.length_range] at this
  refine ok_forL (List.range m) nD (fun i => [(lb, LC ((baB ds lot i).map dD)), (la, LC ((agA hd ds lot i).map dD))]) (fun i => [some (IV (hd + needs ds i)), some (DV (dsD ds)), some (IV (m : Nat)), some (DV (lotD lot)), some (XV (.ref la)), some (XV (.ref lb)), none, none, none, none]) (fun _ => True) (ty_rg1 (ty_var rfl) (by omega)) trivial rfl (by
    show Sub [some (IV hd), _, _, _, _, _, _, _, _, _] [some (IV (hd + 0)), _, _, _, _, _, _, _, _, _]
    rw [Int.add_zero]
    walk_at "sub") (fun L' hL i x hx _ => ?_) fun _ => ?_
  · have hi : i < m := by
      have := (List.getElem?_eq_some_iff.mp hx).1
      rwa [List.length_range] at this
    rw [List.getElem?_range hi] at hx
    have ex : x = i := (Option.some.inj hx).symm
    subst ex
    have hxd : ds[x]? = some (at_ ds x) := getD_lt (by omega)
    refine ⟨_, tg_name, ?_⟩
    refine ok_asg (P := IV (at_ ds x).2) (ty_d1 (ty_di (ty_var rfl) (ty_var rfl) hxd)) ?_
    have hend : ∀ G : Gm, Sub G [some (IV (hd + needs ds (x + 1))), some (DV (dsD ds)), some (IV (m : Nat)), some (DV (lotD lot)), some (XV (.ref la)), some (XV (.ref lb)), none, none, none, none] → Sub G [some (IV (hd + needs ds x + (at_ ds x).2)), some (DV (dsD ds)), some (IV (m : Nat)), some (DV (lotD lot)), some (XV (.ref la)), some (XV (.ref lb)), none, none, none, none] := fun G q => by
      have e := needs_succ hxd
      rw [e, ← Int.add_assoc] at q
      exact q
    have e1 := needs_succ hxd
    refine ok_ifS (b := decide (x ∈ lot) && decide (0 < (at_ ds x).2)) (tt_and (tt_test (ty_inTN (ty_var rfl) (ty_var rfl))) fun _ => tt_test (ty_gt (ty_var rfl) ty_int)) (fun z => ?_) fun z => ?_
    · have hq : (decide (x ∈ lot) && !decide (0 < (at_ ds x).2)) = false := by
        rw [Bool.and_eq_true] at z
        rw [z.2, Bool.not_true, Bool.and_false]
      refine ok_app (k := 1) (d := dD (some (hd + needs ds x), (at_ ds x).2)) rfl rfl (ty_tup (ds := [.int (hd + needs ds x), .int (at_ ds x).2, e0]) (ta_cons (ty_var rfl) (ta_cons (ty_var rfl) (ta_cons (ty_tup (ds := []) ta_nil) ta_nil))) (by simp)) (by rw [List.length_map]; have := halen x; omega) ?_
      refine ok_tl (ok_asg (P := IV (hd + needs ds x + (at_ ds x).2)) (ty_add (ty_var rfl) (ty_var rfl)) (ok_fin trivial ?_ ?_ fun _ _ a => a))
      · show [(lb, LC ((baB ds lot x).map dD)), (la, LC ((agA hd ds lot x).map dD ++ [dD (some (hd + needs ds x), (at_ ds x).2)]))] = [(lb, LC ((baB ds lot (x + 1)).map dD)), (la, LC ((agA hd ds lot (x + 1)).map dD))]
        unfold baB agA
        rw [fil_succ, fil_succ, if_pos z, if_neg (by rw [hq]; simp), List.append_nil, List.map_append, List.map_append] <;> rfl
      · rw [e1, ← Int.add_assoc]
        walk_at "sub"
    · refine ok_ifS (b := decide (x ∈ lot)) (tt_test (ty_inTN (ty_var rfl) (ty_var rfl))) (fun y => ?_) fun y => ok_nextS ?_
      · have hq : (decide (x ∈ lot) && !decide (0 < (at_ ds x).2)) = true := by
          rw [y, Bool.true_and] at z
          rw [y, z] <;> rfl
        refine ok_app (k := 0) (d := dD (none, 0)) rfl rfl (ty_tup (ds := [.none, .int 0, e0]) (ta_cons ty_non (ta_cons ty_int (ta_cons (ty_tup (ds := []) ta_nil) ta_nil))) (by simp)) (by rw [List.length_map]; have := hblen x; omega) ?_
        refine ok_tl (ok_asg (P := IV (hd + needs ds x + (at_ ds x).2)) (ty_add (ty_var rfl) (ty_var rfl)) (ok_fin trivial ?_ ?_ fun _ _ a => a))
        · show [(lb, LC ((baB ds lot x).map dD ++ [dD (none, 0)])), (la, LC ((agA hd ds lot x).map dD))] = [(lb, LC ((baB ds lot (x + 1)).map dD)), (la, LC ((agA hd ds lot (x + 1)).map dD))]
          unfold baB agA
          rw [fil_succ, fil_succ, if_pos hq, if_neg (by rw [z]; simp), List.append_nil, List.map_append, List.map_append] <;> rfl
        · rw [e1, ← Int.add_assoc]
          walk_at "sub"
      · have hq : (decide (x ∈ lot) && !decide (0 < (at_ ds x).2)) = false := by rw [y, Bool.false_and]
        refine ok_tl (ok_asg (P := IV (hd + needs ds x + (at_ ds x).2)) (ty_add (ty_var rfl) (ty_var rfl)) (ok_fin trivial ?_ ?_ fun _ _ a => a))
        · show [(lb, LC ((baB ds lot x).map dD)), (la, LC ((agA hd ds lot x).map dD))] = [(lb, LC ((baB ds lot (x + 1)).map dD)), (la, LC ((agA hd ds lot (x + 1)).map dD))]
          unfold baB agA
          rw [fil_succ, fil_succ, if_neg (by rw [hq]; simp), if_neg (by rw [z]; simp), List.append_nil, List.append_nil]
        · rw [e1, ← Int.add_assoc]
          walk_at "sub"
  · rw [List.length_range]
    refine ok_freeze (i := 5) rfl (ok_freeze (i := 4) rfl ?_)
    have hsl : ∀ G : Gm, G[1]? = some (some (DV (dsD ds))) → G[2]? = some (some (IV (m : Nat))) → Ty (C.w []) G (tSl (rSlB K) (tVar 1) (tPart (tVar 2)) tNoPart) (DV (.tuple ((ds.drop m).map dD))) := fun G g1 g2 => (ty_slT (ds := ds.map dD) (ty_var g1) (to_some (ty_var g2)) to_no).is (congrArg PyData.tuple (cutD_from dD ds m))
    have hdl : (ds.drop m).length ≤ 100000 := by
      rw [List.length_drop]
      omega
    refine ok_asg (P := LV (((ds.drop m).filter wrote).map dD)) (TyN.ty (tn_lcf (ds.drop m) dD wrote dD (ti_tup (hsl _ rfl rfl)) own_name mon_name hdl fun d _ => ⟨_, tg_name, tt_test (ty_wrote (ty_d0 (ty_var rfl))), fun _ => ty_var rfl⟩)) ?_
    refine ok_asg (P := LV (((ds.drop m).filter fun d => !wrote d).map dD)) (TyN.ty (tn_lcf (ds.drop m) dD (fun d => !wrote d) dD (ti_tup (hsl _ rfl rfl)) own_name mon_name hdl fun d _ => ⟨_, tg_name, tt_test (ty_bare (ty_d0 (ty_var rfl))), fun _ => ty_var rfl⟩)) ?_
    have h1 := List.length_filter_le wrote (ds.drop m)
    have h2 := List.length_filter_le (fun d => !wrote d) (ds.drop m)
    have h3 := halen m
    have h4 := hblen m
    rw [List.length_drop] at h1 h2
    refine ok_ret ((ty_tup (ds := [.int (hd + needs ds m), dsD (leftF hd ds m lot).2]) (ta_cons (ty_var rfl) (ta_cons ((ty_tupleL (TyN.ty (tn_cat (TyN.ty (tn_cat (TyN.ty (tn_cat (ty_var rfl) (ty_var rfl) ?_)) (ty_var rfl) ?_)) (ty_var rfl) ?_))).is ?_) ta_nil)) (by simp))) hr
    · rw [List.length_map, List.length_map]
      omega
    · rw [List.length_append, List.length_map, List.length_map, List.length_map]
      omega
    · rw [List.length_append, List.length_append, List.length_map, List.length_map, List.length_map, List.length_map]
      omega
    · rw [agA_eq hm, baB_eq hlot, ← List.map_append, ← List.map_append, ← List.map_append] <;> rfl
theorem pure_law_when_left (T : Txt K mg) (h : sp_law_when_left K vs H Q E) : t_law_when_left K (endsOf Q) (L2.start N_law_when_left vs) H := enter h fun Ps P hR C hW hr hf => by
  obtain ⟨ds, w, m, lot, rfl, hm, hlot, hl, hw, rfl⟩ := hR
  cases w with
  | opn a b => exact ok_ifS (b := true) (tt_test (ty_isOpen (w := .opn a b) (ty_var rfl))) (fun _ => ok_retS (ty_var rfl) hr) fun z => nomatch z
  | row d a b =>
    obtain ⟨h1, h2⟩ := hw d a b rfl
    have hmo := mem_order (ds := ds) (m := m) (lot := lot) h1 h2
    have hmem : ∀ i ∈ List.range' m (ds.length - m), ds[i]? = some (at_ ds i) := fun i hi => by
      obtain ⟨k, hk, rfl⟩ := List.mem_range'.mp hi
      exact getD_lt (by omega)
    have hlm : ∀ i ∈ lot, ds[i]? = some (at_ ds i) := fun i hi => getD_lt (by have := hlot.2 i hi; omega)
    have hll := lot_len hlot
    have hrl : (List.range' m (ds.length - m)).length ≤ 1000 := by
      rw [List.length_range']
      omega
    have hrg : ∀ G : Gm, G[0]? = some (some (DV (dsD ds))) → G[2]? = some (some (IV (m : Nat))) → TyI (C.w []) G (iRng2 (tCons (tVar 2) (tCons (tCB (rLen K) (tCons (tVar 0) tNil)) tNil))) ((List.range' m (ds.length - m)).map nD) := fun G g0 g2 =>
      ty_rg2 (n := ds.length) (ty_var g2) ((ty_lenT (ds := ds.map dD) (ty_var g0)).to (by rw [List.length_map])) (by omega) (by omega)
    refine ok_pass (tt_test (ty_isOpen (w := .row d a b) (ty_var rfl))) ?_
    refine ok_asg (P := LV (((List.range' m (ds.length - m)).filter fun i => wrote (at_ ds i)).map nD)) (TyN.ty (tn_lcf _ nD (fun i => wrote (at_ ds i)) nD (hrg _ rfl rfl) own_name mon_name (by omega) fun i hi => ⟨_, tg_name, tt_test (ty_wrote (ty_d0 (ty_di (ty_var rfl) (ty_var rfl) (hmem i hi)))), fun _ => ty_var rfl⟩)) ?_
    refine ok_asg (P := LV ((lot.filter fun i => decide (0 < (at_ ds i).2)).map nD)) (TyN.ty (tn_lcf lot nD (fun i => decide (0 < (at_ ds i).2)) nD (ti_tup (ty_var rfl)) own_name mon_name (by omega) fun i hi => ⟨_, tg_name, tt_test (ty_gt (ty_d1 (ty_di (ty_var rfl) (ty_var rfl) (hlm i hi))) ty_int), fun _ => ty_var rfl⟩)) ?_
    refine ok_asg (P := LV (((List.range' m (ds.length - m)).filter fun i => !wrote (at_ ds i)).map nD)) (TyN.ty (tn_lcf _ nD (fun i => !wrote (at_ ds i)) nD (hrg _ rfl rfl) own_name mon_name (by omega) fun i hi => ⟨_, tg_name, tt_test (ty_bare (ty_d0 (ty_di (ty_var rfl) (ty_var rfl) (hmem i hi)))), fun _ => ty_var rfl⟩)) ?_
    have h3 := List.length_filter_le (fun i => wrote (at_ ds i)) (List.range' m (ds.length - m))
    have h4 := List.length_filter_le (fun i => !wrote (at_ ds i)) (List.range' m (ds.length - m))
    have h5 := List.length_filter_le (fun i => decide (0 < (at_ ds i).2)) lot
    refine ok_ret (ty_catT (ds := [.str "row", nD ((orderF ds m lot).idxOf d)]) (es := [.int a, .int b]) (ty_tup (ds := [.str "row", nD ((orderF ds m lot).idxOf d)]) (ta_cons ty_str (ta_cons ?_ ta_nil)) (by simp)) (ty_slT (ds := [.str "row", .int (d : Nat), .int a, .int b]) (ty_var rfl) (to_some ty_int) to_no) (by simp)) hr
    refine ty_index (ns := (orderF ds m lot).map fun i => ((i : Nat) : Int)) (j := (orderF ds m lot).idxOf d) ((TyN.ty (tn_cat (TyN.ty (tn_cat (ty_var rfl) (ty_var rfl) ?_)) (ty_var rfl) ?_)).is ?_) (ty_r1 (ty_var rfl)) ?_ ?_
    · rw [List.length_map, List.length_map]
      omega
    · rw [List.length_append, List.length_map, List.length_map, List.length_map]
      omega
    · rw [← map_nD, ← List.map_append, ← List.map_append] <;> rfl
    · rw [List.getElem?_map, List.getElem?_eq_getElem (List.idxOf_lt_length_of_mem hmo)]
      simp
    · intro k z hk hz e
      subst e
      rw [List.getElem?_map] at hz
      cases q : (orderF ds m lot)[k]? with
      | none =>
        rw [q] at hz
        cases hz
      | some y =>
        rw [q] at hz
        have ey : ((y : Nat) : Int) = (d : Nat) := Option.some.inj hz
        have ey' : y = d := by omega
        subst ey'
        exact idx_first hk q rfl
theorem left_nn {hd : Int} {ds : List Dd} {m : Nat} {lot : List Nat} (hm : m ≤ ds.length) (hl : Lot lot m) (hn : ∀ d ∈ ds, 0 ≤ d.2) : ∀ d ∈ (leftF hd ds m lot).2, 0 ≤ d.2 := fun d hd' => by
  rw [← left_pick hm hl hn] at hd'
  obtain ⟨i, _, rfl⟩ := List.mem_map.mp hd'
  by_cases hi : i < ds.length
  · have h0 := hn _ (List.mem_of_getElem? (getD_lt (d := (none, 0)) hi))
    have e := @at_setF hd ds m i hi
    unfold at_ at e
    rw [e]
    split
    · exact h0
    · exact h0
  · rw [List.getD_eq_getElem?_getD, List.getElem?_eq_none (by rw [setF_len]; omega)]
    exact Int.le_refl _
theorem whenLeft_cells {ds : List Dd} {m : Nat} {lot : List Nat} {w : Wi} : cellsOf (whenLeft ds m lot w) = cellsOf w := by
  cases w <;> rfl
theorem whenLeft_need {ds : List Dd} {m : Nat} {lot : List Nat} {w : Wi} : needOf (whenLeft ds m lot w) = needOf w := by
  cases w <;> rfl
theorem wi_in {ds : List Dd} {w : Wi} (h : WiOk ds w) : WiIn ds w := by
  cases w with
  | opn a b => trivial
  | row d a b => exact h.1
theorem wi_cells {ds : List Dd} {w : Wi} (h : WiOk ds w) : 0 ≤ cellsOf w := by
  cases w with
  | opn a b => exact h.1
  | row d a b =>
    have := h.2.1
    show 0 ≤ a
    omega
theorem wi_need {ds : List Dd} {w : Wi} (h : WiOk ds w) : 0 ≤ needOf w := by
  cases w with
  | opn a b => exact h.2.2.1
  | row d a b => exact h.2.2.2.1
theorem pure_law_can (T : Txt K mg) (h : sp_law_can K vs H Q E) : t_law_can K (endsOf Q) (L2.start N_law_can vs) H := enter h fun Ps P hR C hW hr hf => by
  obtain ⟨c, hd, ds, w, m, lot, rfl, hm, hlot, hl, hw, hmd, hn, rfl⟩ := hR
  have hll := leftF_len hd hm hlot
  have hbl := behind_len (leftF hd ds m lot).1 (leftF hd ds m lot).2 (whenLeft ds m lot w)
  refine ok_asgG (d := hdD (leftF hd ds m lot)) (ty_call (ta_cons (ty_var rfl) (ta_cons (ty_var rfl) (ta_cons (ty_var rfl) (ta_cons (ty_var rfl) ta_nil)))) ⟨hd, ds, m, lot, rfl, hm, by omega, hlot, hn, rfl⟩) tg2 ?_
  refine ok_asgG (d := hdD (behind (leftF hd ds m lot).1 (leftF hd ds m lot).2 (whenLeft ds m lot w))) (ty_call (ta_cons (ty_var rfl) (ta_cons (ty_var rfl) (ta_cons (ty_call (ta_cons (ty_var rfl) (ta_cons (ty_var rfl) (ta_cons (ty_var rfl) (ta_cons (ty_var rfl) ta_nil)))) ⟨ds, w, m, lot, rfl, hm, hlot, by omega, fun d a b e => ⟨hmd d a b e, by subst e; exact hw.1⟩, rfl⟩) ta_nil))) ⟨_, _, _, rfl, whenLeft_in hm hlot hw hmd, by rw [whenLeft_cells]; exact wi_cells hw, by omega, rfl⟩) tg2 ?_
  refine ok_ret (ty_call (ta_cons (ty_var rfl) (ta_cons (ty_var rfl) (ta_cons (ty_var rfl) ta_nil))) ⟨c, _, _, rfl, by omega, fun y hy => ?_, rfl⟩) hr
  rcases mem_behind hy with q | q
  · exact left_nn hm hlot hn y q
  · rw [q, whenLeft_need]
    exact wi_need hw
theorem ty_wi2 {W : Wd} {G : Gm} {ta : TE} {w : Wi} (h : Ty W G ta (DV (wD w))) : Ty W G (tIf (tTest (tOp (rEqD K) (tOp (rIxA K) ta (tC (.int 0))) (tC (.str "row")))) (tOp (rIxA K) ta (tC (.int 2))) (tOp (rIxA K) ta (tC (.int 1)))) (IV (cellsOf w)) := by
  cases w with
  | opn a b => exact ty_if (b := false) (tt_test (ty_isRow h)) (fun z => nomatch z) fun _ => ty_o1 h
  | row d a b => exact ty_if (b := true) (tt_test (ty_isRow h)) (fun _ => ty_r2 h) fun z => nomatch z
theorem pure_law_sum (T : Txt K mg) (h : sp_law_sum K vs H Q E) : t_law_sum K (endsOf Q) (L2.start N_law_sum vs) H := enter h fun Ps P hR C hW hr hf => by
  obtain ⟨ds, w, m, lot, d, rfl, hm, hlot, hl, hdl, hmd, rfl⟩ := hR
  have hdm := hlot.2 d hdl
  refine ok_asg (P := IV (cellsOf w + (at_ ds d).2)) (ty_add (ty_wi2 (ty_var rfl)) (ty_d1 (ty_di (ty_var rfl) (ty_var rfl) (getD_lt (d := (none, 0)) (by omega : d < ds.length))))) ?_
  refine ok_forL (List.range ds.length) nD (fun _ => []) (fun i => [some (DV (dsD ds)), some (DV (wD w)), some (IV (m : Nat)), some (DV (lotD lot)), some (IV (d : Nat)), some (IV (cellsOf w + (at_ ds d).2 + ((List.range i).map (sumG ds w m lot d)).sum)), none, none]) (fun _ => True) (ty_rg1 ((ty_lenT (ds := ds.map dD) (ty_var rfl)).to (by rw [List.length_map])) (by omega)) trivial rfl (by
    show Sub [_, _, _, _, _, some (IV (cellsOf w + (at_ ds d).2)), _, _] [_, _, _, _, _, some (IV (cellsOf w + (at_ ds d).2 + 0)), _, _]
    rw [Int.add_zero]
    walk_at "sub") (fun L' hL i x hx _ => ?_) fun _ => ?_
  · have hi : i < ds.length := by
      have := (List.getElem?_eq_some_iff.mp hx).1
      rwa [List.length_range] at this
    rw [List.getElem?_range hi] at hx
    have ex : x = i := (Option.some.inj hx).symm
    subst ex
    have hxd : ds[x]? = some (at_ ds x) := getD_lt hi
    refine ⟨_, tg_name, ?_⟩
    refine ok_asg (P := IV (needBehind ds w x)) ?_ ?_
    · cases w with
      | opn a b => exact ty_if (b := false) (tt_and (a := false) (b := false) (tt_test (ty_isRow (w := .opn a b) (ty_var rfl))) fun z => nomatch z) (fun z => nomatch z) fun _ => ty_d1 (ty_di (ty_var rfl) (ty_var rfl) hxd)
      | row e a b =>
        refine ty_if (b := decide (e = x)) ((tt_and (a := true) (b := decide (e = x)) (tt_test (ty_isRow (w := .row e a b) (ty_var rfl))) fun _ => (tt_test (ty_eqI (ty_r1 (ty_var rfl)) (ty_var rfl))).is (dec_iff (by omega))).is (by rw [Bool.true_and])) (fun z => ?_) fun z => ?_
        · rw [needB_row, if_pos (of_decide_eq_true z)]
          exact ty_r3 (ty_var rfl)
        · rw [needB_row, if_neg (of_decide_eq_false z)]
          exact ty_d1 (ty_di (ty_var rfl) (ty_var rfl) hxd)
    obtain ⟨s, hs⟩ : ∃ s, s = cellsOf w + (at_ ds d).2 + ((List.range x).map (sumG ds w m lot d)).sum := ⟨_, rfl⟩
    rw [← hs]
    obtain ⟨A, hA⟩ : ∃ A, A = (decide (x ∈ lot) || (decide (m ≤ x) && wrote (at_ ds x))) := ⟨_, rfl⟩
    obtain ⟨B, hB⟩ : ∃ B, B = (decide (d < x) && decide (x < m) && decide (x ∉ lot)) := ⟨_, rfl⟩
    have hend : ∀ (s2 : Int) (G : Gm), s2 = s + (if A then needBehind ds w x else 0) → G = [some (DV (dsD ds)), some (DV (wD w)), some (IV (m : Nat)), some (DV (lotD lot)), some (IV (d : Nat)), some (IV s2), some (IV (x : Nat)), some (IV (needBehind ds w x))] → ∀ D : Ends, (∀ σ H, At (C.up L') [] [some (DV (dsD ds)), some (DV (wD w)), some (IV (m : Nat)), some (DV (lotD lot)), some (IV (d : Nat)), some (IV (cellsOf w + (at_ ds d).2 + ((List.range (x + 1)).map (sumG ds w m lot d)).sum)), none, none] True σ H → D.nx σ H) →
        Ok (C.up L') [] G (tIfS (tAnd (tTest (tChain rLtI rLtI (tVar 4) (tVar 6) (tVar 2))) (tTest (tOp (rIn K true) (tVar 6) (tVar 3)))) (tAsg (tOp (rAddA K) (tVar 5) (tVar 7)) (gName 5)) (tNext)) D := fun s2 G e1 eG D hD => by
      subst eG
      have e2 : cellsOf w + (at_ ds d).2 + ((List.range (x + 1)).map (sumG ds w m lot d)).sum = s2 + (if B then needBehind ds w x else 0) := by
        rw [sum_snoc, e1, hs]
        unfold sumG
        rw [← hA, ← hB]
        omega
      rw [e2] at hD
      refine ok_if (b := B) ((tt_and (a := decide (d < x) && decide (x < m)) (b := !decide (x ∈ lot)) (tt_test ((ty_ltltI (ty_var rfl) (ty_var rfl) (ty_var rfl)).to ?_)) fun _ => tt_test (ty_niTN (ty_var rfl) (ty_var rfl))).is ?_) (fun z => ?_) fun z => ?_
      · rw [dec_iff (p := (d : Int) < (x : Nat)) (q := d < x) (by omega), dec_iff (p := (x : Int) < (m : Nat)) (q := x < m) (by omega)]
      · rw [hB]
        congr 1
        by_cases q : x ∈ lot
        · rw [decide_eq_true q, decide_eq_false (fun y => y q)] <;> rfl
        · rw [decide_eq_false q, decide_eq_true q] <;> rfl
      · rw [z, if_pos rfl] at hD
        exact ok_tl (ok_asg (P := IV (s2 + needBehind ds w x)) (ty_add (ty_var rfl) (ty_var rfl)) (ok_fin trivial rfl (by walk_at "sub") hD))
      · rw [z, if_neg (by simp), Int.add_zero] at hD
        exact ok_fin trivial rfl (by walk_at "sub") hD
    refine ok_ifS (b := A) ((tt_or (a := decide (x ∈ lot)) (b := decide (m ≤ x) && wrote (at_ ds x)) (tt_test (ty_inTN (ty_var rfl) (ty_var rfl))) fun _ => tt_and (a := decide (m ≤ x)) (b := wrote (at_ ds x)) ((tt_test (ty_ge (ty_var rfl) (ty_var rfl))).is (dec_iff (by omega))) fun _ => tt_test (ty_wrote (ty_d0 (ty_di (ty_var rfl) (ty_var rfl) hxd)))).is hA.symm) (fun z => ?_) fun z => ?_
    · exact ok_asg (P := IV (s + needBehind ds w x)) (ty_add (ty_var rfl) (ty_var rfl)) (hend _ _ (by rw [z, if_pos rfl]) rfl _ fun _ _ a => a)
    · exact ok_nextS (hend _ _ (by rw [z, if_neg (by simp), Int.add_zero]) rfl _ fun _ _ a => a)
  · rw [List.length_range, sum_eq hm hlot hmd]
    exact ok_ret (ty_var rfl) hr
end
end RC

end
section
set_option Elab.async false
set_option linter.all false
set_option maxRecDepth 100000
set_option maxHeartbeats 4000000
namespace RC
open PySem PySem.Spec PyProof.Rows L2
local macro_rules | `(tactic| walk_at "sub") => `(tactic| first | exact sub_nil | (apply sub_cons; walk_at "sub") | (apply sub_drop; walk_at "sub"))
local macro_rules | `(tactic| walk_at "hr") => `(tactic| (repeat apply Exists.intro) <;> (refine And.intro rfl ?_) <;> (repeat' apply And.intro) <;> (first | rfl | assumption | omega | skip))
local macro_rules | `(tactic| walk_at "ev") => `(tactic| first
  | exact ty_var rfl
  | exact ty_int
  | exact ty_bl
  | exact ty_non
  | exact ty_str
  | exact ta_nil
  | (apply ta_cons <;> walk_at "ev")
  | (apply tt_test <;> walk_at "ev")
  | (apply tt_B <;> walk_at "ev")
  | (apply tt_not <;> walk_at "ev")
  | (apply tt_and <;> (first | walk_at "ev" | (intro _; walk_at "ev")))
  | (apply tt_or <;> (first | walk_at "ev" | (intro _; walk_at "ev")))
  | (apply ty_and <;> (first | walk_at "ev" | (intro _; walk_at "ev")))
  | (apply ty_or <;> (first | walk_at "ev" | (intro _; walk_at "ev")))
  | (apply ty_not <;> walk_at "ev")
  | (apply ty_succ <;> walk_at "ev")
  | (apply ty_add <;> walk_at "ev")
  | (apply ty_sub <;> walk_at "ev")
  | (apply ty_lt <;> walk_at "ev")
  | (apply ty_le <;> walk_at "ev")
  | (apply ty_gt <;> walk_at "ev")
  | (apply ty_ge <;> walk_at "ev")
  | (apply ty_leleI <;> walk_at "ev")
  | (apply ty_ltltI <;> walk_at "ev")
  | (apply ty_isOpen <;> walk_at "ev")
  | (apply ty_isRow <;> walk_at "ev")
  | (apply ty_isWait <;> walk_at "ev")
  | (apply ty_o1 <;> walk_at "ev")
  | (apply ty_o2 <;> walk_at "ev")
  | (apply ty_o3 <;> walk_at "ev")
  | (apply ty_r1 <;> walk_at "ev")
  | (apply ty_r2 <;> walk_at "ev")
  | (apply ty_r3 <;> walk_at "ev")
  | (apply ty_eqI <;> walk_at "ev")
  | (apply ty_eqS <;> (first | walk_at "ev" | decide +kernel))
  | (apply ty_wrote <;> walk_at "ev")
  | (apply ty_bare <;> walk_at "ev")
  | (apply ty_isN <;> walk_at "ev")
  | (apply ty_notN <;> walk_at "ev")
  | (apply ty_neI <;> walk_at "ev")
  | (apply ty_neg <;> walk_at "ev")
  | (apply ty_inTN <;> walk_at "ev")
  | (apply ty_inLN <;> walk_at "ev")
  | (apply ty_niTN <;> walk_at "ev")
  | (apply ty_isi <;> (first | walk_at "ev" | exact kit_ii | exact kit_ib | exact kit_tt | exact kit_ss | exact kit_bb))
  | exact tyc_len (k := 0) rfl rfl
  | exact tyc_len (k := 1) rfl rfl
  | (apply ty_lenT <;> walk_at "ev")
  | (apply ty_lenL <;> walk_at "ev")
  | (apply ty_d0 <;> walk_at "ev")
  | (apply ty_d1 <;> walk_at "ev")
  | (apply ty_d2 <;> walk_at "ev")
  | (apply ty_di <;> (first | walk_at "ev" | assumption))
  | (apply ty_ixT <;> (first | walk_at "ev" | rfl | exact atI_map_nat _ (by assumption) | (show _ = _)))
  | (apply ty_ixL <;> (first | walk_at "ev" | rfl | exact atI_map_nat _ (by assumption) | (show _ = _)))
  | (apply ty_cells (by assumption) <;> walk_at "ev")
  | (apply ty_head (by assumption) <;> walk_at "ev")
  | (apply ty_deeds (by assumption) <;> walk_at "ev")
  | (apply ty_tupleL <;> walk_at "ev")
  | (apply ty_tupleT <;> walk_at "ev")
  | (apply ty_slT <;> walk_at "ev")
  | exact to_no
  | (apply to_some <;> walk_at "ev")
  | (apply ty_tup <;> (first | walk_at "ev" | decide | (simp; done)))
  | (apply ty_call <;> (first | walk_at "ev" | walk_at "hr")))
local macro_rules | `(tactic| walk_at "bv") => `(tactic| first | rfl | (refine congrArg BV ?_; simp; done) | (refine congrArg BV ?_; simp; omega) | (simp; done) | (simp; omega) | omega)
section
variable {K : PySem.W.Frag} {mg : Str → Option Value} {vs : List V} {H : Hp} {Q : VK} {E : XK}
def Dt (te : TE) (σ : L2.St) (H : Hp) (v : V) : Prop := ∀ Q : VK, Q v H → te σ H Q
section
variable {te ta tb : TE} {σ : L2.St} {H : Hp} {v x y : V} {r : R2} {i : Nat} {rest t1 t2 : TS} {D : Ends}
theorem dt_var (h : σ[i]? = some (some v) := by rfl) : Dt (tVar i) σ H v := fun Q q => ⟨v, h, q⟩
theorem dt_c : Dt (tC v) σ H v := fun Q q => q
theorem dt_op (ha : Dt ta σ H x) (hb : Dt tb σ H y) (hr : ∀ Q : VK, Q v H → r x y H Q) : Dt (tOp r ta tb) σ H v := fun Q q => ha _ (hb _ (hr Q q))
theorem dt_ix {K : PySem.W.Frag} {a : Addr} {xs : List V} {k : Int} (ha : Dt ta σ H (.ref a)) (hb : Dt tb σ H (.int k)) (h : H a = some (.lst xs)) (hk : atI xs k = some v) : Dt (tOp (rIxA K) ta tb) σ H v := dt_op ha hb fun Q q => .inl ⟨a, xs, k, v, rfl, rfl, SqL.of h, hk, q⟩
theorem dt_cb1 {r : List V → Hp → VK → Prop} (ha : Dt ta σ H x) (hr : ∀ Q : VK, Q v H → r [x] H Q) : Dt (tCB r (tCons ta tNil)) σ H v := fun Q q => ha _ (hr Q q)
theorem dt_int {a : Int} (ha : Dt ta σ H (.int a)) : Dt (tCB rInt1 (tCons ta tNil)) σ H (.int a) := dt_cb1 ha fun Q q => .inl ⟨a, rfl, q⟩
theorem dt_add {K : PySem.W.Frag} {a b : Int} (ha : Dt ta σ H (.int a)) (hb : Dt tb σ H (.int b)) : Dt (tOp (rAddA K) ta tb) σ H (.int (a + b)) := dt_op ha hb fun Q q => .inl ⟨a, b, rfl, rfl, q⟩
theorem dt_mul {a b : Int} (ha : Dt ta σ H (.int a)) (hb : Dt tb σ H (.int b)) (hc : CMul a b) : Dt (tOp rMulI ta tb) σ H (.int (a * b)) := dt_op ha hb fun Q q => ⟨a, b, rfl, rfl, hc, q⟩
theorem dt_mod {a b : Int} (ha : Dt ta σ H (.int a)) (hb : Dt tb σ H (.int b)) (hc : 0 < b) : Dt (tOp rModI ta tb) σ H (.int (a % b)) := dt_op ha hb fun Q q => ⟨a, b, rfl, rfl, hc, q⟩
theorem dt_div {a b : Int} (ha : Dt ta σ H (.int a)) (hb : Dt tb σ H (.int b)) (hc : CDiv a b) : Dt (tOp rDivI ta tb) σ H (.int (a / b)) := dt_op ha hb fun Q q => ⟨a, b, rfl, rfl, hc, q⟩
theorem s_asg (h : Dt te σ H v) (k : rest D (σ.set i (some v)) H) : tSeq (tAsg te (gName i)) rest D σ H := h _ k
theorem s_set {a : Addr} {xs : List V} {k : Int} {j : Nat} (h : Dt te σ H v) (hi : σ[i]? = some (some (.ref a))) (hH : H a = some (.lst xs)) (hj : ixN xs.length k = some j) (q : rest D σ (upd H a (.lst (xs.set j v)))) : tSeq (tAsg te (gSub (tVar i) (tC (.int k)) rSetL)) rest D σ H :=
  h _ ⟨_, hi, a, xs, k, j, rfl, rfl, hH, hj, q⟩
theorem s_ret (h : Dt te σ H v) (q : D.rt v H) : tRet te D σ H := h _ q
theorem s_if {b : Bool} (h : Dt te σ H (.bl b)) (h1 : b = true → t1 { D with nx := rest D } σ H) (h2 : b = false → t2 { D with nx := rest D } σ H) : tSeq (tIfS (tTest te) t1 t2) rest D σ H := h _ ⟨b, rfl, by
  cases b with
  | true => exact h1 rfl
  | false => exact h2 rfl⟩
end
theorem upd_upd {H : Hp} {a : Addr} {x y : HO} : upd (upd H a x) a y = upd H a y := by
  funext b
  by_cases e : b = a
  · subst e
    rw [upd_same, upd_same]
  · rw [upd_ne e, upd_ne e, upd_ne e]
def tl (sc : Addr) (a b c d : Int) : List V := [.ref sc, .int a, .int b, .int c, .int d]
theorem tape_go {tp sc : Addr} {F H : Hp} {a b c d : Int} {ns : List Int} (s : Same F H) (hF : F tp = none) (hH : H tp ≠ none) (hs : F sc = some (.lst (ns.map V.int))) (ha : 0 ≤ a) : Go (tapeW tp) F H (fz F H (upd H tp (.lst (tl sc a b c d)))) (upd H tp (.lst (tl sc a b c d))) := by
  have le : Same F (fz F H (upd H tp (.lst (tl sc a b c d)))) := fz_le s
  refine ⟨⟨fun x o n h => ?_, fun x h => ?_⟩, rfl, ?_, sc, a, b, c, d, ns, upd_same, le _ _ hs, ha⟩
  · have ne : x ≠ tp := n
    rw [upd_ne ne]
    exact h
  · by_cases e : x = tp
    · subst e
      rw [upd_same]
      exact fun z => nomatch z
    · rw [upd_ne e]
      exact h
  · rw [fz_some hH]
    exact hF
theorem pure_law_pick (T : Txt K mg) (h : sp_law_pick K vs H Q E) : t_law_pick K (endsOf Q) (L2.start N_law_pick vs) H := by
  obtain ⟨F, tp, Ps, P, ws, rfl, s, ⟨hF, sc, i1, i2, i3, i4, ns, hH, hS, h1⟩, ha, ⟨m, rfl, hm, hm2, rfl⟩, k⟩ := h
  obtain ⟨w, rfl, pw⟩ := ha.one
  have ew := IV.v pw
  subst ew
  have hHn : H tp ≠ none := by
    rw [hH]
    exact fun z => nomatch z
  have hfin : ∀ (r a b c d : Int), 0 ≤ a → 0 ≤ r → r < m → Q (.int r) (upd H tp (.lst (tl sc a b c d))) := fun r a b c d h0 hr1 hr2 => k _ _ _ (tape_go s hF hHn hS h0) ⟨r, rfl, hr1, hr2⟩
  have hmod : ∀ a : Int, 0 ≤ a % m ∧ a % m < m := fun a => ⟨Int.emod_nonneg _ (by omega), Int.emod_lt_of_pos _ hm⟩
  have hsc : ∀ o, (upd H tp o) sc = some (.lst (ns.map V.int)) := fun o => by
    rw [upd_ne (by
      intro e
      rw [e, hF] at hS
      cases hS)]
    exact s _ _ hS
  have hH' : H tp = some (.lst (tl sc i1 i2 i3 i4)) := hH
  show tSeq _ _ (endsOf Q) [some (.ref tp), some (.int m), none, none, none] H
  refine s_if (b := decide (1 < i2)) (dt_op (dt_ix dt_var dt_c hH' rfl) dt_c fun Q q => ⟨_, _, rfl, rfl, q⟩) (fun _ => ?_) fun _ => ?_
  · refine s_asg (dt_mod (dt_int (dt_ix dt_var dt_c hH' rfl)) dt_var hm) ?_
    refine s_set (j := 2) (dt_div (dt_ix dt_var dt_c hH' rfl) dt_var ⟨hm, hm2⟩) rfl hH' rfl ?_
    exact s_ret dt_var (hfin _ _ _ _ _ h1 (hmod _).1 (hmod _).2)
  · show tSeq _ _ (endsOf Q) [some (.ref tp), some (.int m), none, none, none] H
    refine s_set (j := 4) (dt_add (dt_ix dt_var dt_c hH' rfl) dt_c) rfl hH' rfl ?_
    show tSeq _ _ (endsOf Q) [some (.ref tp), some (.int m), none, none, none] (upd H tp (.lst (tl sc i1 i2 i3 (i4 + 1))))
    refine s_asg dt_c ?_
    have hgo : ∀ cell a, 0 ≤ a → tSeq (tIfS (tTest (tOp rGeI (tVar 3) (tOp rPowI (tC (.int 10)) (tC (.int 18))))) (tSeq (tAsg (tOp rDivI (tVar 3) (tVar 1)) (gSub (tVar 0) (tC (.int 2)) rSetL)) (tRet (tOp rModI (tCB rInt1 (tCons (tVar 3) (tNil))) (tVar 1)))) (tNext)) (tSeq (tAsg (tOp rModI (tCB rInt1 (tCons (tOp (rAddA K) (tOp (rAddA K) (tOp rMulI (tOp (rIxA K) (tVar 0) (tC (.int 3))) (tC (.int 48271))) (tOp rModI (tCB rInt1 (tCons (tVar 3) (tNil))) (tC (.int 2147483629)))) (tOp rMulI (tOp (rIxA K) (tVar 0) (tC (.int 4))) (tC (.int 69621)))) (tNil))) (tC (.int 2147483647))) (gName 4)) (tSeq (tAsg (tOp rModI (tCB rInt1 (tCons (tOp rMulI (tVar 4) (tOp (rAddA K) (tOp rDivI (tVar 4) (tC (.int 1009))) (tC (.int 40692)))) (tNil))) (tC (.int 2147483399))) (gName 4)) (tSeq (tAsg (tVar 4) (gSub (tVar 0) (tC (.int 3)) rSetL)) (tRet (tOp rModI (tCB rInt1 (tCons (tOp rDivI (tVar 4) (tC (.int 16))) (tNil))) (tVar 1)))))) (endsOf Q) [some (.ref tp), some (.int m), none, some (.int cell), none] (upd H tp (.lst (tl sc a i2 i3 (i4 + 1)))) := by
      intro cell a h0
      have hT : (upd H tp (.lst (tl sc a i2 i3 (i4 + 1)))) tp = some (.lst (tl sc a i2 i3 (i4 + 1))) := upd_same
      refine s_if (b := decide ((10 : Int) ^ 18 ≤ cell)) (dt_op dt_var (dt_op (v := .int ((10 : Int) ^ 18)) dt_c dt_c fun Q q => ⟨10, 18, rfl, rfl, ⟨by omega, by omega, by decide⟩, q⟩) fun Q q => ⟨_, _, rfl, rfl, q⟩) (fun _ => ?_) fun _ => ?_
      · refine s_set (j := 2) (dt_div dt_var dt_var ⟨hm, hm2⟩) rfl hT rfl ?_
        refine s_ret (dt_mod (dt_int dt_var) dt_var hm) ?_
        rw [upd_upd]
        exact hfin _ _ _ _ _ h0 (hmod _).1 (hmod _).2
      · refine s_asg (dt_mod (dt_int (dt_add (dt_add (dt_mul (dt_ix dt_var dt_c hT rfl) dt_c (.inr (by omega))) (dt_mod (dt_int dt_var) dt_c (by omega))) (dt_mul (dt_ix dt_var dt_c hT rfl) dt_c (.inr (by omega))))) dt_c (by omega)) ?_
        generalize (i3 * 48271 + cell % 2147483629 + (i4 + 1) * 69621) = z
        have hz1 : 0 ≤ z % 2147483647 := Int.emod_nonneg _ (by omega)
        have hz2 : z % 2147483647 < 2147483647 := Int.emod_lt_of_pos _ (by omega)
        refine s_asg (dt_mod (dt_int (dt_mul dt_var (dt_add (dt_div dt_var dt_c ⟨by omega, by omega⟩) dt_c) (.inl (by omega)))) dt_c (by omega)) ?_
        generalize (z % 2147483647 * (z % 2147483647 / 1009 + 40692)) % 2147483399 = y
        refine s_set (j := 3) dt_var rfl hT rfl ?_
        refine s_ret (dt_mod (dt_int (dt_div dt_var dt_c ⟨by omega, by omega⟩)) dt_var hm) ?_
        rw [upd_upd]
        exact hfin _ _ _ _ _ h0 (hmod _).1 (hmod _).2
    have hT : (upd H tp (.lst (tl sc i1 i2 i3 (i4 + 1)))) tp = some (.lst (tl sc i1 i2 i3 (i4 + 1))) := upd_same
    refine s_if (b := decide (i1 < ((ns.map V.int).length : Nat))) (dt_op (dt_ix dt_var dt_c hT rfl) (dt_cb1 (dt_ix dt_var dt_c hT rfl) fun Q q => ⟨_, _, rfl, .inl ⟨_, SqL.of (hsc _), rfl⟩, q⟩) fun Q q => ⟨_, _, rfl, rfl, q⟩) (fun z => ?_) fun _ => hgo 0 i1 h1
    have hlt : i1 < ((ns.map V.int).length : Nat) := of_decide_eq_true z
    rw [List.length_map] at hlt
    have hg : ns[i1.toNat]? = some (ns.getD i1.toNat 0) := getD_lt (by omega)
    have hat : atI (ns.map V.int) i1 = some (.int (ns.getD i1.toNat 0)) := by
      have := atI_map_nat V.int hg
      rwa [show ((i1.toNat : Nat) : Int) = i1 by omega] at this
    refine s_asg (dt_cb1 (dt_int (dt_ix (dt_ix dt_var dt_c hT rfl) (dt_ix dt_var dt_c hT rfl) (hsc _) hat)) fun Q q => ⟨_, rfl, q⟩) ?_
    show tSeq (tAsg _ (gSub _ _ _)) _ (endsOf Q) _ _
    refine s_set (j := 1) (dt_add (dt_ix dt_var dt_c hT rfl) dt_c) rfl hT rfl ?_
    rw [upd_upd]
    exact hgo _ (i1 + 1) (by omega)
end
end RC

end
section
set_option Elab.async false
set_option linter.all false
set_option maxRecDepth 100000
set_option maxHeartbeats 4000000
namespace RC
open PySem PySem.Spec PyProof.Rows L2
local macro_rules | `(tactic| walk_at "sub") => `(tactic| first | exact sub_nil | (apply sub_cons; walk_at "sub") | (apply sub_drop; walk_at "sub"))
local macro_rules | `(tactic| walk_at "hr") => `(tactic| (repeat apply Exists.intro) <;> (refine And.intro rfl ?_) <;> (repeat' apply And.intro) <;> (first | rfl | assumption | omega | skip))
local macro_rules | `(tactic| walk_at "ev") => `(tactic| first
  | exact ty_var rfl
  | exact ty_int
  | exact ty_bl
  | exact ty_non
  | exact ty_str
  | exact ta_nil
  | (apply ta_cons <;> walk_at "ev")
  | (apply tt_test <;> walk_at "ev")
  | (apply tt_B <;> walk_at "ev")
  | (apply tt_not <;> walk_at "ev")
  | (apply tt_and <;> (first | walk_at "ev" | (intro _; walk_at "ev")))
  | (apply tt_or <;> (first | walk_at "ev" | (intro _; walk_at "ev")))
  | (apply ty_and <;> (first | walk_at "ev" | (intro _; walk_at "ev")))
  | (apply ty_or <;> (first | walk_at "ev" | (intro _; walk_at "ev")))
  | (apply ty_not <;> walk_at "ev")
  | (apply ty_succ <;> walk_at "ev")
  | (apply ty_add <;> walk_at "ev")
  | (apply ty_sub <;> walk_at "ev")
  | (apply ty_lt <;> walk_at "ev")
  | (apply ty_le <;> walk_at "ev")
  | (apply ty_gt <;> walk_at "ev")
  | (apply ty_ge <;> walk_at "ev")
  | (apply ty_leleI <;> walk_at "ev")
  | (apply ty_ltltI <;> walk_at "ev")
  | (apply ty_isOpen <;> walk_at "ev")
  | (apply ty_isRow <;> walk_at "ev")
  | (apply ty_isWait <;> walk_at "ev")
  | (apply ty_o1 <;> walk_at "ev")
  | (apply ty_o2 <;> walk_at "ev")
  | (apply ty_o3 <;> walk_at "ev")
  | (apply ty_r1 <;> walk_at "ev")
  | (apply ty_r2 <;> walk_at "ev")
  | (apply ty_r3 <;> walk_at "ev")
  | (apply ty_eqI <;> walk_at "ev")
  | (apply ty_eqS <;> (first | walk_at "ev" | decide +kernel))
  | (apply ty_wrote <;> walk_at "ev")
  | (apply ty_bare <;> walk_at "ev")
  | (apply ty_isN <;> walk_at "ev")
  | (apply ty_notN <;> walk_at "ev")
  | (apply ty_neI <;> walk_at "ev")
  | (apply ty_neg <;> walk_at "ev")
  | (apply ty_inTN <;> walk_at "ev")
  | (apply ty_inLN <;> walk_at "ev")
  | (apply ty_niTN <;> walk_at "ev")
  | (apply ty_isi <;> (first | walk_at "ev" | exact kit_ii | exact kit_ib | exact kit_tt | exact kit_ss | exact kit_bb))
  | exact tyc_len (k := 0) rfl rfl
  | exact tyc_len (k := 1) rfl rfl
  | (apply ty_lenT <;> walk_at "ev")
  | (apply ty_lenL <;> walk_at "ev")
  | (apply ty_d0 <;> walk_at "ev")
  | (apply ty_d1 <;> walk_at "ev")
  | (apply ty_d2 <;> walk_at "ev")
  | (apply ty_di <;> (first | walk_at "ev" | assumption))
  | (apply ty_ixT <;> (first | walk_at "ev" | rfl | exact atI_map_nat _ (by assumption) | (show _ = _)))
  | (apply ty_ixL <;> (first | walk_at "ev" | rfl | exact atI_map_nat _ (by assumption) | (show _ = _)))
  | (apply ty_cells (by assumption) <;> walk_at "ev")
  | (apply ty_head (by assumption) <;> walk_at "ev")
  | (apply ty_deeds (by assumption) <;> walk_at "ev")
  | (apply ty_tupleL <;> walk_at "ev")
  | (apply ty_tupleT <;> walk_at "ev")
  | (apply ty_slT <;> walk_at "ev")
  | exact to_no
  | (apply to_some <;> walk_at "ev")
  | (apply ty_tup <;> (first | walk_at "ev" | decide | (simp; done)))
  | (apply ty_call <;> (first | walk_at "ev" | walk_at "hr")))
local macro_rules | `(tactic| walk_at "bv") => `(tactic| first | rfl | (refine congrArg BV ?_; simp; done) | (refine congrArg BV ?_; simp; omega) | (simp; done) | (simp; omega) | omega)
section
variable {K : PySem.W.Frag} {mg : Str → Option Value} {vs : List V} {H : Hp} {Q : VK} {E : XK}
theorem pure_law_tape (T : Txt K mg) (h : sp_law_tape K vs H Q E) : t_law_tape K (endsOf Q) (L2.start N_law_tape vs) H := by
  obtain ⟨a, ns, rfl, hq, k⟩ := h
  show tRet _ (endsOf Q) [some (.ref a)] H
  refine ⟨_, rfl, a, ns.map V.int, rfl, .inl hq, fun sc hsc => ?_⟩
  refine ⟨szOk (n := 5) (by omega), fun tp htp => ?_⟩
  have ne : tp ≠ sc := fun e => by
    rw [e, upd_same] at htp
    cases htp
  have htp' : H tp = none := by
    rw [upd_ne ne] at htp
    exact htp
  refine k sc tp _ (fun x o hx => ?_) hsc htp' (Ne.symm ne) ?_ upd_same
  · rw [upd_ne (ne_of_none hx htp'), upd_ne (ne_of_none hx hsc)]
    exact hx
  · rw [upd_ne (Ne.symm ne), upd_same]
theorem pure_law_any (T : Txt K mg) (h : sp_law_any K vs H Q E) : t_law_any K (endsOf Q) (L2.start N_law_any vs) H := enterT h fun tp Ps P hR C hW hr hf => by
  obtain ⟨ns, rfl, h1, h2, rfl⟩ := hR
  refine ok_ret (ty_op (ty_var rfl) (ty_callT (P := IN fun r => 0 ≤ r ∧ r < (ns.length : Nat)) hW rfl (ta_cons (ty_lenL (ds := ns.map .int) (ty_var rfl)) ta_nil) ⟨(ns.length : Nat), by rw [List.length_map], by omega, by omega, rfl⟩) fun x y F H s j p1 ⟨r, e, hr1, hr2⟩ Q q => ?_) hr
  subst e
  cases p1 with
  | @lst a xs _ h3 r1 =>
    have ex := r1.ints
    subst ex
    have hg : ns[r.toNat]? = some (ns.getD r.toNat 0) := getD_lt (by omega)
    have hat := atI_map_nat V.int hg
    rw [show ((r.toNat : Nat) : Int) = r by omega] at hat
    exact .inl ⟨a, _, r, _, rfl, rfl, SqL.of (s _ _ h3), hat, q _ F H (Go.refl s j) ⟨_, rfl, List.mem_of_getElem? hg⟩⟩
theorem ty_pick {C : Ctx} {W : Cs} {G : Gm} {te : TE} {tp : Addr} {i : Nat} {m : Int} (hC : C.W0 = tapeW tp) (hi : G[i]? = some (some (XV (.ref tp)))) (h : Ty (C.w W) G te (IV m)) (h0 : 0 < m) (h1 : m < 1000) : Ty (C.w W) G (tCall (sp_law_pick K) [] L2.E0 (tCons (tVar i) (tCons te tNil))) (IN fun r => 0 ≤ r ∧ r < m) :=
  ty_callT hC hi (ta_cons h ta_nil) ⟨m, rfl, h0, by omega, rfl⟩
theorem ty_any_ {C : Ctx} {W : Cs} {G : Gm} {te : TE} {tp : Addr} {i : Nat} (ns : List Int) (hC : C.W0 = tapeW tp) (hi : G[i]? = some (some (XV (.ref tp)))) (h : TyN (C.w W) G te (ns.map .int)) (h0 : 0 < ns.length) (h1 : ns.length ≤ 1000) : Ty (C.w W) G (tCall (sp_law_any K) [] L2.E0 (tCons (tVar i) (tCons te tNil))) (IN fun r => r ∈ ns) :=
  ty_callT hC hi (ta_cons h.ty ta_nil) ⟨ns, rfl, h0, h1, rfl⟩
/-- the deeds as far as they are drawn; the place of the next -/
structure Far (m b : Int) (i : Nat) (s : Int × List Dd) : Prop where
  len : s.2.length = i
  cut : ∀ (j : Nat) (d : Dd), s.2[j]? = some d → (wrote d = true ↔ (j : Int) < m - b)
  nd : ∀ d ∈ s.2, 0 ≤ d.2 ∧ d.2 ≤ 9
  asc : ∀ (i j : Nat) (f g n m : Int), i < j → s.2[i]? = some (some f, n) → s.2[j]? = some (some g, m) → f < g
  fst : ∀ (f n : Int), (some f, n) ∈ s.2 → 0 ≤ f ∧ f < s.1
  lo : 0 ≤ s.1
  hi : s.1 ≤ 10 ^ 12 + 10 * (i : Nat)
theorem far_none {m b a n : Int} {i : Nat} {ds : List Dd} (h : Far m b i (a, ds)) (hi : ¬ (i : Int) < m - b) (h1 : 0 ≤ n) (h2 : n ≤ 9) : Far m b (i + 1) (a, ds ++ [(none, n)]) := by
  obtain ⟨hl, hc, hn, ha, hf, h3, h4⟩ := h
  have hl' : ds.length = i := hl
  refine ⟨by simp [hl'], fun j d hj => ?_, fun d hd => ?_, fun p q f g u v hpq hp hq => ?_, fun f u hm => ?_, h3, ?_⟩
  · have hj' : (ds ++ [((none, n) : Dd)])[j]? = some d := hj
    by_cases q : j < ds.length
    · rw [List.getElem?_append_left q] at hj'
      exact hc j d hj'
    · rw [List.getElem?_append_right (by omega)] at hj'
      have e : j = i := by
        have := (List.getElem?_eq_some_iff.mp hj').1
        simp at this
        omega
      subst e
      rw [hl', Nat.sub_self] at hj'
      have ed : d = (none, n) := (Option.some.inj hj').symm
      subst ed
      exact ⟨(fun z => nomatch z), fun z => absurd z hi⟩
  · rcases List.mem_append.mp hd with z | z
    · exact hn d z
    · rw [List.mem_singleton.mp z]
      exact ⟨h1, h2⟩
  · have hp' : (ds ++ [((none, n) : Dd)])[p]? = some (some f, u) := hp
    have hq' : (ds ++ [((none, n) : Dd)])[q]? = some (some g, v) := hq
    have hql : q < ds.length := by
      by_cases z : q < ds.length
      · exact z
      · rw [List.getElem?_append_right (by omega)] at hq'
        cases hqq : q - ds.length with
        | zero =>
          rw [hqq] at hq'
          cases hq'
        | succ k =>
          rw [hqq] at hq'
          cases hq'
    rw [List.getElem?_append_left hql] at hq'
    rw [List.getElem?_append_left (by omega)] at hp'
    exact ha p q f g u v hpq hp' hq'
  · rcases List.mem_append.mp hm with z | z
    · exact hf f u z
    · cases List.mem_singleton.mp z
  · show a ≤ 10 ^ 12 + 10 * ((i + 1 : Nat) : Int)
    have h4' : a ≤ 10 ^ 12 + 10 * (i : Nat) := h4
    omega
theorem far_some {m b a n r : Int} {i : Nat} {ds : List Dd} (h : Far m b i (a, ds)) (hi : (i : Int) < m - b) (h1 : 0 ≤ n) (h2 : n ≤ 9) (hr1 : 0 ≤ r) (hr2 : r < 9) : Far m b (i + 1) (a + 1 + r, ds ++ [(some a, n)]) := by
  obtain ⟨hl, hc, hn, ha, hf, h3, h4⟩ := h
  have hl' : ds.length = i := hl
  have h3' : 0 ≤ a := h3
  refine ⟨by simp [hl'], fun j d hj => ?_, fun d hd => ?_, fun p q f g u v hpq hp hq => ?_, fun f u hm => ?_, by show 0 ≤ a + 1 + r; omega, ?_⟩
  · have hj' : (ds ++ [((some a, n) : Dd)])[j]? = some d := hj
    by_cases q : j < ds.length
    · rw [List.getElem?_append_left q] at hj'
      exact hc j d hj'
    · rw [List.getElem?_append_right (by omega)] at hj'
      have e : j = i := by
        have := (List.getElem?_eq_some_iff.mp hj').1
        simp at this
        omega
      subst e
      rw [hl', Nat.sub_self] at hj'
      have ed : d = (some a, n) := (Option.some.inj hj').symm
      subst ed
      exact ⟨fun z => hi, fun z => rfl⟩
  · rcases List.mem_append.mp hd with z | z
    · exact hn d z
    · rw [List.mem_singleton.mp z]
      exact ⟨h1, h2⟩
  · have hp' : (ds ++ [((some a, n) : Dd)])[p]? = some (some f, u) := hp
    have hq' : (ds ++ [((some a, n) : Dd)])[q]? = some (some g, v) := hq
    have hpl : p < ds.length := by
      have := (List.getElem?_eq_some_iff.mp hq').1
      simp at this
      omega
    rw [List.getElem?_append_left hpl] at hp'
    by_cases z : q < ds.length
    · rw [List.getElem?_append_left z] at hq'
      exact ha p q f g u v hpq hp' hq'
    · rw [List.getElem?_append_right (by omega)] at hq'
      have e : q = ds.length := by
        have := (List.getElem?_eq_some_iff.mp hq').1
        simp at this
        omega
      subst e
      rw [Nat.sub_self] at hq'
      cases hq'
      exact (hf f u (List.mem_of_getElem? hp')).2
  · show 0 ≤ f ∧ f < a + 1 + r
    rcases List.mem_append.mp hm with z | z
    · have z2 : 0 ≤ f ∧ f < a := hf f u z
      exact ⟨z2.1, by omega⟩
    · cases List.mem_singleton.mp z
      exact ⟨h3', by omega⟩
  · show a + 1 + r ≤ 10 ^ 12 + 10 * ((i + 1 : Nat) : Int)
    have h4' : a ≤ 10 ^ 12 + 10 * (i : Nat) := h4
    omega
theorem pure_law_deeds (T : Txt K mg) (h : sp_law_deeds K vs H Q E) : t_law_deeds K (endsOf Q) (L2.start N_law_deeds vs) H := enterT h fun tp Ps P hR C hW hr hf => by
  obtain ⟨m, g, rfl, hm1, hm2, hg1, hg2, rfl⟩ := hR
  refine ok_asgI (φ := fun r => r ∈ [(0 : Int), 0, 7, 10 ^ 12]) (ty_any_ [0, 0, 7, 10 ^ 12] hW rfl (tn_lst (ds := [.int 0, .int 0, .int 7, .int (10 ^ 12)]) (ta_cons ty_int (ta_cons ty_int (ta_cons ty_int (ta_cons (ty_pow ty_int ty_int ⟨by omega, by omega, by decide⟩) ta_nil)))) (by simp)) (by simp) (by simp)) fun a ha => ?_
  have ha1 : 0 ≤ a ∧ a ≤ 10 ^ 12 := by
    simp at ha
    omega
  refine ok_parNI (φ := fun r => r ∈ [(0 : Int), 0, 1, 2]) (tn_lst (ds := []) ta_nil) (fun l => ty_any_ [0, 0, 1, 2] hW rfl (tn_lst (ds := [.int 0, .int 0, .int 1, .int 2]) (ta_cons ty_int (ta_cons ty_int (ta_cons ty_int (ta_cons ty_int ta_nil)))) (by simp)) (by simp) (by simp)) fun ld b hb => ?_
  have hb1 : 0 ≤ b ∧ b ≤ 2 := by
    simp at hb
    omega
  refine ok_forX (S := Int × List Dd) (List.range m) nD (fun i s => [(ld, LC (s.2.map dD))]) (fun i s => [some (XV (.ref tp)), some (IV (m : Nat)), some (IV (g : Nat)), some (IV s.1), some (XV (.ref ld)), some (IV b), none, none]) (fun i s => Far (m : Nat) b i s) (a, []) (ty_rg1 (ty_var rfl) (by omega)) ⟨rfl, (fun j d hj => by simp at hj), (fun d hd => by simp at hd), (fun i j f g n m _ hi => by simp at hi), (fun f n hm => by simp at hm), ha1.1, by show a ≤ 10 ^ 12 + 10 * ((0 : Nat) : Int); omega⟩ rfl (by walk_at "sub") (fun L' hL i x s hx hs => ?_) fun s hs => ?_
  · have hi : i < m := by
      have := (List.getElem?_eq_some_iff.mp hx).1
      rwa [List.length_range] at this
    rw [List.getElem?_range hi] at hx
    have ex : x = i := (Option.some.inj hx).symm
    subst ex
    obtain ⟨a, ds⟩ := s
    have hlen : ds.length = x := hs.len
    refine ⟨_, tg_name, ?_⟩
    have hW' : (C.up L').W0 = tapeW tp := hW
    refine ok_asgI (φ := fun r => 0 ≤ r ∧ r ≤ 9) (ty_if (b := decide (b = 0)) (tt_test (ty_eqI (ty_var rfl) ty_int)) (fun z => ?_) fun z => ?_) fun n hn => ?_
    · exact (ty_pick hW' rfl (ty_add (ty_var (P := IV (g : Nat)) rfl) ty_int) (by omega) (by omega)).weak fun v F ⟨r, e, h1, h2⟩ => ⟨r, e, h1, by omega⟩
    · exact ty_addN (φ := fun r => r = 1) (ψ := fun r => 0 ≤ r ∧ r < (g : Nat)) (ty_IN ty_int rfl) (ty_pick hW' rfl (ty_var (P := IV (g : Nat)) rfl) (by omega) (by omega)) fun i j h1 h2 => by omega
    refine ok_tl (ok_ifS (b := decide ((m : Int) - b ≤ (x : Nat))) (tt_test (ty_ge (ty_var (P := IV (x : Nat)) rfl) (ty_sub (ty_var (P := IV (m : Nat)) rfl) (ty_var rfl)))) (fun z => ?_) fun z => ?_)
    · have hz := of_decide_eq_true z
      refine ok_app (k := 0) (d := dD (none, n)) rfl rfl (ty_tup (ds := [.none, .int n, e0]) (ta_cons ty_non (ta_cons (ty_var rfl) (ta_cons (ty_tup (ds := []) ta_nil) ta_nil))) (by simp)) (by rw [List.length_map]; show ds.length < 100000; omega) ?_
      refine ok_finX (S := Int × List Dd) (a, ds ++ [(none, n)]) (far_none hs (by omega) hn.1 hn.2) ?_ (by walk_at "sub") fun _ _ a => a
      show [(ld, LC (ds.map dD ++ [dD (none, n)]))] = [(ld, LC ((ds ++ [(none, n)]).map dD))]
      rw [List.map_append] <;> rfl
    · have hz := of_decide_eq_false z
      refine ok_assoc (ok_app (k := 0) (d := dD (some a, n)) rfl rfl (ty_tup (ds := [.int a, .int n, e0]) (ta_cons (ty_var rfl) (ta_cons (ty_var rfl) (ta_cons (ty_tup (ds := []) ta_nil) ta_nil))) (by simp)) (by rw [List.length_map]; show ds.length < 100000; omega) ?_)
      refine ok_asgI (φ := fun y => ∃ r, y = a + 1 + r ∧ 0 ≤ r ∧ r < (g : Nat)) (ty_addN (φ := fun y => y = a + 1) (ψ := fun r => 0 ≤ r ∧ r < (g : Nat)) (ty_IN (ty_add (ty_var (P := IV a) rfl) ty_int) rfl) (ty_pick hW' rfl (ty_var (P := IV (g : Nat)) rfl) (by omega) (by omega)) fun i j h1 h2 => ⟨j, by rw [h1], h2⟩) fun y ⟨r, ey, hr1, hr2⟩ => ?_
      subst ey
      refine ok_finX (S := Int × List Dd) (a + 1 + r, ds ++ [(some a, n)]) (far_some hs (by omega) hn.1 hn.2 hr1 (by omega)) ?_ (by walk_at "sub") fun _ _ a => a
      show [(ld, LC (ds.map dD ++ [dD (some a, n)]))] = [(ld, LC ((ds ++ [(some a, n)]).map dD))]
      rw [List.map_append] <;> rfl
  · rw [List.length_range] at hs
    obtain ⟨a, ds⟩ := s
    refine ok_freeze (i := 4) rfl ?_
    refine ok_ret (ty_tupX (Ps := [IN fun y => ∃ r, y = a + r ∧ 0 ≤ r ∧ r < 3, DV (dsD ds)]) (d := fun p : Int × List Dd => [.int p.1, dsD p.2]) (ta_cons (ty_addN (φ := fun y => y = a) (ψ := fun r => 0 ≤ r ∧ r < 3) (ty_IN (ty_var (P := IV a) rfl) rfl) (ty_pick hW rfl ty_int (by omega) (by omega)) fun i j h1 h2 => ⟨j, by rw [h1], h2⟩) (ta_cons (ty_tupleL (ty_var rfl)) ta_nil)) (by simp) fun vs F hA => ?_) hr
    obtain ⟨v, w, rfl, ⟨y, ev, r, ey, h1, h2⟩, pw⟩ := hA.two
    subst ev
    subst ey
    have h3 : 0 ≤ a := hs.lo
    have h4 : a ≤ 10 ^ 12 + 10 * (m : Nat) := hs.hi
    have hlen : ds.length = m := hs.len
    refine ⟨(a + r, ds), ⟨⟨min ds.length (((m : Nat) : Int) - b).toNat, Nat.min_le_left _ _, fun i d hd => ?_⟩, hs.nd, hs.asc, fun f n hf => ?_, by show 0 ≤ a + r; omega, by show a + r ≤ 2 * 10 ^ 12; omega, by show 1 ≤ ds.length; omega, by show ds.length ≤ 7; omega⟩, .cons (.int _) (.cons pw .nil)⟩
    · have := hs.cut i d hd
      have hl := (List.getElem?_eq_some_iff.mp hd).1
      have hl' : i < ds.length := hl
      rw [this]
      omega
    · have z : 0 ≤ f ∧ f < a := hs.fst f n hf
      exact ⟨z.1, by show f < a + r; omega⟩
end
end RC

end
section
set_option Elab.async false
set_option linter.all false
set_option maxRecDepth 100000
set_option maxHeartbeats 4000000
namespace RC
open PySem PySem.Spec PyProof.Rows L2
local macro_rules | `(tactic| walk_at "sub") => `(tactic| first | exact sub_nil | (apply sub_cons; walk_at "sub") | (apply sub_drop; walk_at "sub"))
local macro_rules | `(tactic| walk_at "hr") => `(tactic| (repeat apply Exists.intro) <;> (refine And.intro rfl ?_) <;> (repeat' apply And.intro) <;> (first | rfl | assumption | omega | skip))
local macro_rules | `(tactic| walk_at "ev") => `(tactic| first
  | exact ty_var rfl
  | exact ty_int
  | exact ty_bl
  | exact ty_non
  | exact ty_str
  | exact ta_nil
  | (apply ta_cons <;> walk_at "ev")
  | (apply tt_test <;> walk_at "ev")
  | (apply tt_B <;> walk_at "ev")
  | (apply tt_not <;> walk_at "ev")
  | (apply tt_and <;> (first | walk_at "ev" | (intro _; walk_at "ev")))
  | (apply tt_or <;> (first | walk_at "ev" | (intro _; walk_at "ev")))
  | (apply ty_and <;> (first | walk_at "ev" | (intro _; walk_at "ev")))
  | (apply ty_or <;> (first | walk_at "ev" | (intro _; walk_at "ev")))
  | (apply ty_not <;> walk_at "ev")
  | (apply ty_succ <;> walk_at "ev")
  | (apply ty_add <;> walk_at "ev")
  | (apply ty_sub <;> walk_at "ev")
  | (apply ty_lt <;> walk_at "ev")
  | (apply ty_le <;> walk_at "ev")
  | (apply ty_gt <;> walk_at "ev")
  | (apply ty_ge <;> walk_at "ev")
  | (apply ty_leleI <;> walk_at "ev")
  | (apply ty_ltltI <;> walk_at "ev")
  | (apply ty_isOpen <;> walk_at "ev")
  | (apply ty_isRow <;> walk_at "ev")
  | (apply ty_isWait <;> walk_at "ev")
  | (apply ty_o1 <;> walk_at "ev")
  | (apply ty_o2 <;> walk_at "ev")
  | (apply ty_o3 <;> walk_at "ev")
  | (apply ty_r1 <;> walk_at "ev")
  | (apply ty_r2 <;> walk_at "ev")
  | (apply ty_r3 <;> walk_at "ev")
  | (apply ty_eqI <;> walk_at "ev")
  | (apply ty_eqS <;> (first | walk_at "ev" | decide +kernel))
  | (apply ty_wrote <;> walk_at "ev")
  | (apply ty_bare <;> walk_at "ev")
  | (apply ty_isN <;> walk_at "ev")
  | (apply ty_notN <;> walk_at "ev")
  | (apply ty_neI <;> walk_at "ev")
  | (apply ty_neg <;> walk_at "ev")
  | (apply ty_inTN <;> walk_at "ev")
  | (apply ty_inLN <;> walk_at "ev")
  | (apply ty_niTN <;> walk_at "ev")
  | (apply ty_isi <;> (first | walk_at "ev" | exact kit_ii | exact kit_ib | exact kit_tt | exact kit_ss | exact kit_bb))
  | exact tyc_len (k := 0) rfl rfl
  | exact tyc_len (k := 1) rfl rfl
  | (apply ty_lenT <;> walk_at "ev")
  | (apply ty_lenL <;> walk_at "ev")
  | (apply ty_d0 <;> walk_at "ev")
  | (apply ty_d1 <;> walk_at "ev")
  | (apply ty_d2 <;> walk_at "ev")
  | (apply ty_di <;> (first | walk_at "ev" | assumption))
  | (apply ty_ixT <;> (first | walk_at "ev" | rfl | exact atI_map_nat _ (by assumption) | (show _ = _)))
  | (apply ty_ixL <;> (first | walk_at "ev" | rfl | exact atI_map_nat _ (by assumption) | (show _ = _)))
  | (apply ty_cells (by assumption) <;> walk_at "ev")
  | (apply ty_head (by assumption) <;> walk_at "ev")
  | (apply ty_deeds (by assumption) <;> walk_at "ev")
  | (apply ty_tupleL <;> walk_at "ev")
  | (apply ty_tupleT <;> walk_at "ev")
  | (apply ty_slT <;> walk_at "ev")
  | exact to_no
  | (apply to_some <;> walk_at "ev")
  | (apply ty_tup <;> (first | walk_at "ev" | decide | (simp; done)))
  | (apply ty_call <;> (first | walk_at "ev" | walk_at "hr")))
local macro_rules | `(tactic| walk_at "bv") => `(tactic| first | rfl | (refine congrArg BV ?_; simp; done) | (refine congrArg BV ?_; simp; omega) | (simp; done) | (simp; omega) | omega)
section
variable {K : PySem.W.Frag} {mg : Str → Option Value} {vs : List V} {H : Hp} {Q : VK} {E : XK}
theorem nl_wrote0 {ds : List Dd} (h : NL ds) : NL ds := h
theorem good_of {c h : Int} {ds : List Dd} (hd : Drawn h ds) (hc1 : 1 ≤ c) (hc2 : c ≤ 10 ^ 30) (he : easyB c h ds = true) : Good c h ds := by
  refine ⟨hd.nl, fun d hm => ⟨(hd.nd d hm).1, ?_⟩, hd.asc, hd.fst, hc1, hc2, hd.lo, ?_, ?_, fun f n h0 => ?_⟩
  · have := (hd.nd d hm).2
    omega
  · have := hd.hi
    omega
  · have := hd.len.2
    omega
  · have z := easyB_iff.mp he 0 _ h0
    rw [load_w] at z
    have := needs_nonneg (fun d hm => (hd.nd d hm).1) (0 + 1) (ds := ds)
    omega
theorem needs_le {ds : List Dd} {b : Int} (hb : 0 ≤ b) (h : ∀ d ∈ ds, d.2 ≤ b) (m : Nat) : needs ds m ≤ b * (ds.length : Nat) := by
  unfold needs
  have key : ∀ l : List Dd, (∀ d ∈ l, d.2 ≤ b) → (l.map (·.2)).sum ≤ b * (l.length : Nat) := fun l => by
    induction l with
    | nil =>
      intro _
      simp
    | cons a l ih =>
      intro hl
      have h1 := ih fun d hd => hl d (List.mem_cons_of_mem _ hd)
      have h2 := hl a List.mem_cons_self
      rw [List.map_cons, List.sum_cons, List.length_cons, Int.natCast_succ, Int.mul_add]
      omega
  have h1 := key (ds.take m) fun d hd => h d (List.mem_of_mem_take hd)
  have h2 : (ds.take m).length ≤ ds.length := by
    rw [List.length_take]
    omega
  have h3 : b * ((ds.take m).length : Nat) ≤ b * (ds.length : Nat) := Int.mul_le_mul_of_nonneg_left (by omega) hb
  omega
theorem drawn_load {h l : Int} {ds : List Dd} (hd : Drawn h ds) (hl : l ∈ loads h ds) : l ≤ 3 * 10 ^ 12 := by
  obtain ⟨i, hi⟩ := List.getElem?_of_mem hl
  have hil := (List.getElem?_eq_some_iff.mp hi).1
  rw [loads_len] at hil
  have h0 : ds[i]? = some (at_ ds i) := getD_lt hil
  have h1 := loads_get (hd := h) h0
  rw [h1] at hi
  have e : load h ds i (at_ ds i) = l := Option.some.inj hi
  have hm := List.mem_of_getElem? h0
  have hn := needs_le (b := 9) (by omega) (fun d hm => (hd.nd d hm).2) (i + 1)
  have hlen := hd.len.2
  have hhi := hd.hi
  have hnd := (hd.nd _ hm).2
  obtain ⟨f, n, hfn⟩ : ∃ f n, at_ ds i = (f, n) := ⟨_, _, rfl⟩
  rw [hfn] at e hm hnd
  cases f with
  | none =>
    rw [load_b] at e
    have : n ≤ 9 := hnd
    omega
  | some f =>
    rw [load_w] at e
    have := (hd.fst f n hm).1
    omega
theorem pure_law_standing (T : Txt K mg) (h : sp_law_standing K vs H Q E) : t_law_standing K (endsOf Q) (L2.start N_law_standing vs) H := enterT h fun tp Ps P hR C hW hr hf => by
  obtain ⟨m, g, rfl, hm1, hm2, hg1, hg2, rfl⟩ := hR
  refine ok_asgGX (φ := fun p : Int × List Dd => Drawn p.1 p.2) (d := hdD) (ty_callT hW rfl (ta_cons (ty_var rfl) (ta_cons (ty_var rfl) ta_nil)) ⟨m, g, rfl, hm1, hm2, hg1, hg2, rfl⟩) (fun a => tg2) fun p hp => ?_
  obtain ⟨hd, ds⟩ := p
  have hp' : Drawn hd ds := hp
  have hlen := hp'.len
  have hlen2 : ds.length ≤ 7 := hlen.2
  obtain ⟨mx, hx1, hx2⟩ := max_ex (ns := 1 :: loads hd ds) (by simp)
  have hmx1 : 1 ≤ mx := hx2 1 List.mem_cons_self
  have hmx2 : mx ≤ 3 * 10 ^ 12 := by
    rcases List.mem_cons.mp hx1 with z | z
    · omega
    · exact drawn_load hp' z
  refine ok_asgI (φ := fun y => ∃ r, y = mx + r ∧ 0 ≤ r ∧ r ≤ 9) (ty_addN (φ := fun y => y = mx) (ψ := fun r => r ∈ [(0 : Int), 0, 1, 3, 9]) (ty_IN (ty_max (ns := 1 :: loads hd ds) ((TyN.ty (tn_cat (ds := [.int 1]) (es := (loads hd ds).map .int) (TyN.ty (tn_lst (ta_cons ty_int ta_nil))) (ty_call (P := LV ((loads hd ds).map .int)) (ta_cons (ty_var (P := IV hd) rfl) (ta_cons (ty_var (P := DV (dsD ds)) rfl) ta_nil)) ⟨hd, ds, rfl, by omega, rfl⟩) (by rw [List.length_map, loads_len]; simp; omega)))) hx1 hx2) rfl) (ty_any_ [0, 0, 1, 3, 9] hW rfl (tn_lst (ds := [.int 0, .int 0, .int 1, .int 3, .int 9]) (ta_cons ty_int (ta_cons ty_int (ta_cons ty_int (ta_cons ty_int (ta_cons ty_int ta_nil))))) (by simp)) (by simp) (by simp)) fun i j h1 h2 => ⟨j, by rw [h1], by
      simp at h2
      omega⟩) fun y ⟨r, ey, hr1, hr2⟩ => ?_
  subst ey
  have he : easyB (mx + r) hd ds = true := by
    unfold easyB
    rw [List.all_eq_true]
    intro l hl
    have := hx2 l (List.mem_cons_of_mem _ hl)
    exact decide_eq_true (by omega)
  exact ok_ret (ty_ex (mx + r, hd, ds) ⟨hp', good_of hp' (by omega) (by omega) he, he⟩ (ty_tup (ds := [.int (mx + r), .int hd, dsD ds]) (ta_cons (ty_var rfl) (ta_cons (ty_var rfl) (ta_cons (ty_var rfl) ta_nil))) (by simp))) hr
theorem pure_law_wish (T : Txt K mg) (h : sp_law_wish K vs H Q E) : t_law_wish K (endsOf Q) (L2.start N_law_wish vs) H := enterT h fun tp Ps P hR C hW hr hf => by
  obtain ⟨ds, g, rfl, hg1, hg2, hl, rfl⟩ := hR
  have hopen : Ok C [] (some (XV (.ref tp)) :: (List.map some [DV (dsD ds), IV (g : Nat)] ++ List.replicate (N_law_wish.length - 3) none)) (tRet (tTup (tCons (tC (.str "open")) (tCons (tCall (sp_law_pick K) [] L2.E0 (tCons (tVar 0) (tCons (tOp (rAddA K) (tOp rMulI (tC (.int 2)) (tVar 2)) (tC (.int 1))) (tNil)))) (tCons (tCall (sp_law_pick K) [] L2.E0 (tCons (tVar 0) (tCons (tOp (rAddA K) (tVar 2) (tC (.int 1))) (tNil)))) (tCons (tTup (tNil)) (tNil))))))) (endsOf Q) := by
    refine ok_ret (Ty.weak (P1 := ExV (fun w : Wi => WiOk ds w) fun w => DV (wD w)) (P := ExV (fun p : Int × Int => 0 ≤ p.1 ∧ p.1 ≤ 18 ∧ 0 ≤ p.2 ∧ p.2 ≤ 9) fun p => DV (wD (.opn p.1 p.2))) (ty_tupX (Ps := [DV (.str "open"), IN fun r => 0 ≤ r ∧ r < 2 * (g : Nat) + 1, IN fun r => 0 ≤ r ∧ r < (g : Nat) + 1, DV e0]) (d := fun p : Int × Int => [.str "open", .int p.1, .int p.2, e0]) (ta_cons ty_str (ta_cons (ty_pick hW rfl (ty_add (ty_mul ty_int (ty_var (P := IV (g : Nat)) rfl) (.inl ⟨by omega, by omega⟩)) ty_int) (by omega) (by omega)) (ta_cons (ty_pick hW rfl (ty_add (ty_var (P := IV (g : Nat)) rfl) ty_int) (by omega) (by omega)) (ta_cons (ty_tup (ds := []) ta_nil) ta_nil)))) (by simp) fun vs F hA => ?_) fun v F ⟨p, hp, pv⟩ => ⟨.opn p.1 p.2, ⟨hp.1, by omega, hp.2.2.1, by omega⟩, pv⟩) hr
    match vs, hA with
    | [a, b, c, d], ⟨pa, ⟨x, ex, hx⟩, ⟨y, ey, hy⟩, pd, _⟩ =>
      subst ex
      subst ey
      exact ⟨(x, y), ⟨hx.1, by show x ≤ 18; omega, hy.1, by show y ≤ 9; omega⟩, .cons pa (.cons (.int _) (.cons (.int _) (.cons pd .nil)))⟩
  by_cases h0 : ds = []
  · subst h0
    exact ok_ifS (b := true) (tt_or (a := true) (b := true) (tt_test (ty_eqI (i := 0) (ty_lenT (ds := []) (ty_var rfl)) ty_int)) fun z => nomatch z) (fun _ => hopen) fun z => nomatch z
  · have hpos := List.length_pos_iff.mpr h0
    refine ok_ifSX (tx_or (tt_test ((ty_eqI (ty_lenT (ds := ds.map dD) (ty_var rfl)) ty_int).to (by rw [List.length_map, decide_eq_false (by omega)]))) (tx_test (ty_eqN (ty_pick hW rfl ty_int (by omega) (by omega)) ty_int))) hopen (ok_nextS ?_)
    refine ok_ret (Ty.weak (P1 := ExV (fun w : Wi => WiOk ds w) fun w => DV (wD w)) (P := ExV (fun p : Nat × Int × Int => p.1 < ds.length ∧ 1 ≤ p.2.1 ∧ p.2.1 ≤ 18 ∧ 0 ≤ p.2.2 ∧ p.2.2 ≤ 9) fun p => DV (wD (.row p.1 p.2.1 p.2.2))) (ty_tupX (Ps := [DV (.str "row"), IN fun r => 0 ≤ r ∧ r < ((ds.map dD).length : Nat), IN fun r => 1 ≤ r ∧ r < 1 + 2 * (g : Nat), IN fun r => 0 ≤ r ∧ r < (g : Nat) + 1]) (d := fun p : Nat × Int × Int => [.str "row", .int (p.1 : Nat), .int p.2.1, .int p.2.2]) (ta_cons ty_str (ta_cons (ty_pick hW rfl (ty_lenT (ds := ds.map dD) (ty_var rfl)) (by rw [List.length_map]; omega) (by rw [List.length_map]; omega)) (ta_cons (ty_addN (φ := fun y => y = 1) (ψ := fun r => 0 ≤ r ∧ r < 2 * (g : Nat)) (ty_IN ty_int rfl) (ty_pick hW rfl (ty_mul ty_int (ty_var (P := IV (g : Nat)) rfl) (.inl ⟨by omega, by omega⟩)) (by omega) (by omega)) fun i j h1 h2 => by omega) (ta_cons (ty_pick hW rfl (ty_add (ty_var (P := IV (g : Nat)) rfl) ty_int) (by omega) (by omega)) ta_nil)))) (by simp) fun vs F hA => ?_) fun v F ⟨p, hp, pv⟩ => ⟨.row p.1 p.2.1 p.2.2, ⟨hp.1, hp.2.1, by omega, hp.2.2.2.1, by omega⟩, pv⟩) hr
    match vs, hA with
    | [a, b, c, d], ⟨pa, ⟨x, ex, hx⟩, ⟨y, ey, hy⟩, ⟨z, ez, hz⟩, _⟩ =>
      subst ex
      subst ey
      subst ez
      rw [List.length_map] at hx
      refine ⟨(x.toNat, y, z), ⟨by show x.toNat < ds.length; omega, hy.1, by show y ≤ 18; omega, hz.1, by show z ≤ 9; omega⟩, ?_⟩
      have e : x = ((x.toNat : Nat) : Int) := by omega
      show RpAll F _ [.str "row", .int ((x.toNat : Nat) : Int), .int y, .int z]
      rw [← e]
      exact .cons pa (.cons (.int _) (.cons (.int _) (.cons (.int _) .nil)))
theorem pure_law_pressed (T : Txt K mg) (h : sp_law_pressed K vs H Q E) : t_law_pressed K (endsOf Q) (L2.start N_law_pressed vs) H := enterT h fun tp Ps P hR C hW hr hf => by
  obtain ⟨m, g, rfl, hm1, hm2, hg1, hg2, rfl⟩ := hR
  have hret : ∀ (p : Pressed) (x : Option PV), (Drawn p.h p.ds ∧ Good p.c p.h p.ds ∧ easyB p.c p.h p.ds = true ∧ WiOk p.ds p.w) → Ok C [] [some (XV (.ref tp)), some (IV (m : Nat)), some (IV (g : Nat)), x, some (IV p.c), some (IV p.h), some (DV (dsD p.ds)), some (DV (wD p.w)), some (DV (oN (lMust p.c p.h p.ds p.w)))] (tRet (tTup (tCons (tVar 4) (tCons (tVar 5) (tCons (tVar 6) (tCons (tVar 7) (tCons (tVar 8) (tNil)))))))) (endsOf Q) := fun p x hp =>
    ok_ret (ty_ex p hp (ty_tup (ds := [.int p.c, .int p.h, dsD p.ds, wD p.w, oN (lMust p.c p.h p.ds p.w)]) (ta_cons (ty_var rfl) (ta_cons (ty_var rfl) (ta_cons (ty_var rfl) (ta_cons (ty_var rfl) (ta_cons (ty_var rfl) ta_nil))))) (by simp))) hr
  refine ok_forX (S := Option Pressed) (List.range 12) nD (fun i s => []) (fun i s => match s with
    | none => [some (XV (.ref tp)), some (IV (m : Nat)), some (IV (g : Nat)), none, none, none, none, none, none]
    | some p => [some (XV (.ref tp)), some (IV (m : Nat)), some (IV (g : Nat)), none, some (IV p.c), some (IV p.h), some (DV (dsD p.ds)), some (DV (wD p.w)), some (DV (oN (lMust p.c p.h p.ds p.w)))]) (fun i s => match s with
    | none => i = 0
    | some p => Drawn p.h p.ds ∧ Good p.c p.h p.ds ∧ easyB p.c p.h p.ds = true ∧ WiOk p.ds p.w) none (ty_rg1 (n := 12) ty_int (by omega)) rfl rfl (by walk_at "sub") (fun L' hL i x s hx hs => ?_) fun s hs => ?_
  · have hW' : (C.up L').W0 = tapeW tp := hW
    refine ⟨[some (XV (.ref tp)), some (IV (m : Nat)), some (IV (g : Nat)), none, none, none, none, none, none].set 3 (some (DV (nD x))), fun σ F H v Q e sm p q => ?_, ?_⟩
    · refine tg_name (G := [some (XV (.ref tp)), some (IV (m : Nat)), some (IV (g : Nat)), none, none, none, none, none, none]) σ F H v Q (e.sub ?_) sm p q
      cases s with
      | none => exact sub_refl
      | some p => walk_at "sub"
    refine ok_asgGX (φ := fun p : Int × Int × List Dd => Drawn p.2.1 p.2.2 ∧ Good p.1 p.2.1 p.2.2 ∧ easyB p.1 p.2.1 p.2.2 = true) (d := fun p => .tuple [.int p.1, .int p.2.1, dsD p.2.2]) (ty_callT hW' rfl (ta_cons (ty_var (P := IV (m : Nat)) rfl) (ta_cons (ty_var (P := IV (g : Nat)) rfl) ta_nil)) ⟨m, g, rfl, hm1, hm2, hg1, hg2, rfl⟩) (fun a => tg_tup (tgs_cons tg_name (tgs_cons tg_name (tgs_cons tg_name tgs_nil)))) fun p hp => ?_
    obtain ⟨c, hd, ds⟩ := p
    obtain ⟨hp1, hp2, hp3⟩ := hp
    have hlen : ds.length ≤ 7 := hp1.len.2
    refine ok_asgX (φ := fun w : Wi => WiOk ds w) (Q := fun w => DV (wD w)) (ty_callT hW' rfl (ta_cons (ty_var (P := DV (dsD ds)) rfl) (ta_cons (ty_var (P := IV (g : Nat)) rfl) ta_nil)) ⟨ds, g, rfl, hg1, hg2, hlen, rfl⟩) fun w hw => ?_
    refine ok_asg (P := DV (oN (lMust c hd ds w))) (ty_call (ta_cons (ty_var (P := IV c) rfl) (ta_cons (ty_var (P := IV hd) rfl) (ta_cons (ty_var (P := DV (dsD ds)) rfl) (ta_cons (ty_var rfl) ta_nil)))) ⟨c, hd, ds, w, rfl, wi_in hw, wi_cells hw, wi_need hw, by omega, fun d hm => (hp1.nd d hm).1, rfl⟩) ?_
    obtain ⟨o, ho⟩ : ∃ o, o = lMust c hd ds w := ⟨_, rfl⟩
    rw [← ho]
    refine ok_tl (ok_ifS (b := match o with | none => false | some k => decide (0 < k)) ?_ (fun _ => ?_) fun _ => ok_nextS ?_)
    · cases o with
      | none => exact tt_and (a := false) (b := false) (tt_test (ty_notN (d := .none) (ty_var rfl))) fun z => nomatch z
      | some k => exact (tt_and (a := true) (b := decide (0 < k)) (tt_test (ty_notN (d := .int (k : Nat)) (ty_var rfl))) fun _ => (tt_test (ty_gt (ty_var (P := IV (k : Nat)) rfl) ty_int)).is (dec_iff (by omega))).is (by rw [Bool.true_and] <;> rfl)
    · have hb : Ok C [] [some (XV (.ref tp)), some (IV (m : Nat)), some (IV (g : Nat)), some (DV (nD x)), some (IV c), some (IV hd), some (DV (dsD ds)), some (DV (wD w)), some (DV (oN o))] (tRet (tTup (tCons (tVar 4) (tCons (tVar 5) (tCons (tVar 6) (tCons (tVar 7) (tCons (tVar 8) (tNil)))))))) (endsOf Q) := by
        rw [ho]
        exact hret ⟨c, hd, ds, w⟩ _ ⟨hp1, hp2, hp3, hw⟩
      exact ok_brk hL hb rfl
    · refine ok_finX (S := Option Pressed) (some ⟨c, hd, ds, w⟩) ⟨hp1, hp2, hp3, hw⟩ rfl ?_ fun _ _ a => a
      rw [ho]
      walk_at "sub"
  · cases s with
    | none => exact absurd hs (by rw [List.length_range]; omega)
    | some p => exact hret p none hs
end
end RC

end
section
set_option Elab.async false
set_option linter.all false
set_option maxRecDepth 100000
set_option maxHeartbeats 4000000
namespace RC
open PySem PySem.Spec PyProof.Rows L2
local macro_rules | `(tactic| walk_at "sub") => `(tactic| first | exact sub_nil | (apply sub_cons; walk_at "sub") | (apply sub_drop; walk_at "sub"))
local macro_rules | `(tactic| walk_at "hr") => `(tactic| (repeat apply Exists.intro) <;> (refine And.intro rfl ?_) <;> (repeat' apply And.intro) <;> (first | rfl | assumption | omega | skip))
local macro_rules | `(tactic| walk_at "ev") => `(tactic| first
  | exact ty_var rfl
  | exact ty_int
  | exact ty_bl
  | exact ty_non
  | exact ty_str
  | exact ta_nil
  | (apply ta_cons <;> walk_at "ev")
  | (apply tt_test <;> walk_at "ev")
  | (apply tt_B <;> walk_at "ev")
  | (apply tt_not <;> walk_at "ev")
  | (apply tt_and <;> (first | walk_at "ev" | (intro _; walk_at "ev")))
  | (apply tt_or <;> (first | walk_at "ev" | (intro _; walk_at "ev")))
  | (apply ty_and <;> (first | walk_at "ev" | (intro _; walk_at "ev")))
  | (apply ty_or <;> (first | walk_at "ev" | (intro _; walk_at "ev")))
  | (apply ty_not <;> walk_at "ev")
  | (apply ty_succ <;> walk_at "ev")
  | (apply ty_add <;> walk_at "ev")
  | (apply ty_sub <;> walk_at "ev")
  | (apply ty_lt <;> walk_at "ev")
  | (apply ty_le <;> walk_at "ev")
  | (apply ty_gt <;> walk_at "ev")
  | (apply ty_ge <;> walk_at "ev")
  | (apply ty_leleI <;> walk_at "ev")
  | (apply ty_ltltI <;> walk_at "ev")
  | (apply ty_isOpen <;> walk_at "ev")
  | (apply ty_isRow <;> walk_at "ev")
  | (apply ty_isWait <;> walk_at "ev")
  | (apply ty_o1 <;> walk_at "ev")
  | (apply ty_o2 <;> walk_at "ev")
  | (apply ty_o3 <;> walk_at "ev")
  | (apply ty_r1 <;> walk_at "ev")
  | (apply ty_r2 <;> walk_at "ev")
  | (apply ty_r3 <;> walk_at "ev")
  | (apply ty_eqI <;> walk_at "ev")
  | (apply ty_eqS <;> (first | walk_at "ev" | decide +kernel))
  | (apply ty_wrote <;> walk_at "ev")
  | (apply ty_bare <;> walk_at "ev")
  | (apply ty_isN <;> walk_at "ev")
  | (apply ty_notN <;> walk_at "ev")
  | (apply ty_neI <;> walk_at "ev")
  | (apply ty_neg <;> walk_at "ev")
  | (apply ty_inTN <;> walk_at "ev")
  | (apply ty_inLN <;> walk_at "ev")
  | (apply ty_niTN <;> walk_at "ev")
  | (apply ty_isi <;> (first | walk_at "ev" | exact kit_ii | exact kit_ib | exact kit_tt | exact kit_ss | exact kit_bb))
  | exact tyc_len (k := 0) rfl rfl
  | exact tyc_len (k := 1) rfl rfl
  | (apply ty_lenT <;> walk_at "ev")
  | (apply ty_lenL <;> walk_at "ev")
  | (apply ty_d0 <;> walk_at "ev")
  | (apply ty_d1 <;> walk_at "ev")
  | (apply ty_d2 <;> walk_at "ev")
  | (apply ty_di <;> (first | walk_at "ev" | assumption))
  | (apply ty_ixT <;> (first | walk_at "ev" | rfl | exact atI_map_nat _ (by assumption) | (show _ = _)))
  | (apply ty_ixL <;> (first | walk_at "ev" | rfl | exact atI_map_nat _ (by assumption) | (show _ = _)))
  | (apply ty_cells (by assumption) <;> walk_at "ev")
  | (apply ty_head (by assumption) <;> walk_at "ev")
  | (apply ty_deeds (by assumption) <;> walk_at "ev")
  | (apply ty_tupleL <;> walk_at "ev")
  | (apply ty_tupleT <;> walk_at "ev")
  | (apply ty_slT <;> walk_at "ev")
  | exact to_no
  | (apply to_some <;> walk_at "ev")
  | (apply ty_tup <;> (first | walk_at "ev" | decide | (simp; done)))
  | (apply ty_call <;> (first | walk_at "ev" | walk_at "hr")))
local macro_rules | `(tactic| walk_at "bv") => `(tactic| first | rfl | (refine congrArg BV ?_; simp; done) | (refine congrArg BV ?_; simp; omega) | (simp; done) | (simp; omega) | omega)
section
variable {K : PySem.W.Frag} {mg : Str → Option Value} {vs : List V} {H : Hp} {Q : VK} {E : XK}
def neB (w : Wi) (x : Nat) : Bool := match w with
  | .opn _ _ => true
  | .row d _ _ => !decide (x = d)
theorem pure_law_own_sum (T : Txt K mg) (h : sp_law_own_sum K vs H Q E) : t_law_own_sum K (endsOf Q) (L2.start N_law_own_sum vs) H := enter h fun Ps P hR C hW hr hf => by
  obtain ⟨ds, w, m, lot, rfl, hm, hlot, hl, hw, hmd, rfl⟩ := hR
  refine ok_ifS (b := !firstRow ds w) ?_ (fun z => ?_) fun z => ok_nextS ?_
  · cases w with
    | opn a b =>
      have ha : 0 ≤ a := hw.1
      exact (tt_or (a := false) (b := decide (a = 0)) (tt_and (a := false) (b := false) (tt_test (ty_isRow (w := .opn a b) (ty_var rfl))) fun z => nomatch z) fun _ => (tt_and (a := true) (b := decide (a = 0)) (tt_test (ty_isOpen (w := .opn a b) (ty_var rfl))) fun _ => tt_test (ty_eqI (ty_o1 (ty_var rfl)) ty_int)).is (by rw [Bool.true_and])).is (by
        rw [firstRow_opn, Bool.false_or]
        by_cases q : a = 0
        · rw [decide_eq_true q, decide_eq_false (by omega)] <;> rfl
        · rw [decide_eq_false q, decide_eq_true (by omega)] <;> rfl)
    | row d a b =>
      have hdl : d < ds.length := hw.1
      exact (tt_or (a := wrote (at_ ds d)) (b := false) ((tt_and (a := true) (b := wrote (at_ ds d)) (tt_test (ty_isRow (w := .row d a b) (ty_var rfl))) fun _ => tt_test (ty_wrote (ty_d0 (ty_di (ty_var rfl) (ty_r1 (ty_var rfl)) (getD_lt hdl))))).is (by rw [Bool.true_and])) fun _ => tt_and (a := false) (b := false) (tt_test (ty_isOpen (w := .row d a b) (ty_var rfl))) fun z => nomatch z).is (by
        rw [firstRow_row hdl, Bool.or_false, Bool.not_not])
  · refine ok_retS (P := IV (ownF ds w m lot)) ?_ hr
    have e : ownF ds w m lot = 0 := by
      unfold ownF
      rw [if_neg (by rw [Bool.not_eq_true'] at z; rw [z]; simp)]
    rw [e]
    exact ty_int
  · have hfr : firstRow ds w = true := by simpa using z
    refine ok_asg (P := DV (match w with | .opn _ _ => .none | .row d _ _ => nD d)) ?_ ?_
    · cases w with
      | opn a b => exact ty_if (b := false) (tt_test (ty_isRow (w := .opn a b) (ty_var rfl))) (fun z => nomatch z) fun _ => ty_non
      | row d a b => exact ty_if (b := true) (tt_test (ty_isRow (w := .row d a b) (ty_var rfl))) (fun _ => ty_r1 (ty_var rfl)) fun z => nomatch z
    refine ok_asg (P := IV (cellsOf w + needOf w)) ?_ ?_
    · cases w with
      | opn a b => exact ty_if (b := false) (tt_test (ty_isRow (w := .opn a b) (ty_var rfl))) (fun z => nomatch z) fun _ => ty_add (ty_o1 (ty_var rfl)) (ty_o2 (ty_var rfl))
      | row d a b => exact ty_if (b := true) (tt_test (ty_isRow (w := .row d a b) (ty_var rfl))) (fun _ => ty_add (ty_r2 (ty_var rfl)) (ty_r3 (ty_var rfl))) fun z => nomatch z
    obtain ⟨od, hod⟩ : ∃ od : PyData, od = (match w with | .opn _ _ => .none | .row d _ _ => nD d) := ⟨_, rfl⟩
    rw [← hod]
    obtain ⟨p, hp⟩ : ∃ p : Nat → Bool, p = fun i => decide (i ∈ lot) || decide (m ≤ i) && wrote (at_ ds i) := ⟨_, rfl⟩
    refine ok_forL (List.range ds.length) nD (fun _ => []) (fun i => [some (DV (dsD ds)), some (DV (wD w)), some (IV (m : Nat)), some (DV (lotD lot)), some (DV od), some (IV (cellsOf w + needOf w + (((List.range i).filter p).map fun i => (at_ ds i).2).sum)), none]) (fun _ => True) (ty_rg1 ((ty_lenT (ds := ds.map dD) (ty_var rfl)).to (by rw [List.length_map])) (by omega)) trivial rfl (by
      show Sub [_, _, _, _, _, some (IV (cellsOf w + needOf w)), _] [_, _, _, _, _, some (IV (cellsOf w + needOf w + 0)), _]
      rw [Int.add_zero]
      walk_at "sub") (fun L' hL i x hx _ => ?_) fun _ => ?_
    · have hi : i < ds.length := by
        have := (List.getElem?_eq_some_iff.mp hx).1
        rwa [List.length_range] at this
      rw [List.getElem?_range hi] at hx
      have ex : x = i := (Option.some.inj hx).symm
      subst ex
      have hxd : ds[x]? = some (at_ ds x) := getD_lt hi
      refine ⟨_, tg_name, ?_⟩
      have hne : Ty ((C.up L').w []) [some (DV (dsD ds)), some (DV (wD w)), some (IV (m : Nat)), some (DV (lotD lot)), some (DV od), some (IV (cellsOf w + needOf w + (((List.range x).filter p).map fun i => (at_ ds i).2).sum)), some (DV (nD x))] (tOp (rNeD K) (tVar 6) (tVar 4)) (BV (neB w x)) := by
        cases w with
        | opn a b =>
          subst hod
          exact (ty_ne (d := nD x) (e := .none) (ty_var rfl) (ty_var rfl) rfl rfl).to (by simp [PyData.eqv, nD, neB])
        | row d a b =>
          subst hod
          exact (ty_neI (i := (x : Nat)) (j := (d : Nat)) (ty_var rfl) (ty_var rfl)).to (congrArg (fun b => BV (!b)) (dec_iff (by omega)))
      have hcond : (neB w x && (decide (x ∈ lot) || (decide (m ≤ x) && wrote (at_ ds x)))) = p x := by
        rw [hp]
        cases w with
        | opn a b => exact Bool.true_and _
        | row d a b =>
          show ((!decide (x = d)) && (decide (x ∈ lot) || (decide (m ≤ x) && wrote (at_ ds x)))) = (decide (x ∈ lot) || (decide (m ≤ x) && wrote (at_ ds x)))
          by_cases q : x = d
          · subst q
            have h1 := hmd x a b rfl
            have h2 : x ∉ lot := fun z => by
              have := hlot.2 x z
              omega
            rw [firstRow_row hi] at hfr
            have h3 : wrote (at_ ds x) = false := by simpa using hfr
            rw [decide_eq_false h2, h3, Bool.and_false, Bool.or_false, Bool.and_false]
          · rw [decide_eq_false q] <;> rfl
      have hnext : ∀ s2 : Int, s2 = cellsOf w + needOf w + (((List.range x).filter p).map fun i => (at_ ds i).2).sum + (if p x then (at_ ds x).2 else 0) → cellsOf w + needOf w + (((List.range (x + 1)).filter p).map fun i => (at_ ds i).2).sum = s2 := fun s2 e => by
        rw [e, fil_succ, List.map_append, List.sum_append]
        cases q : p x <;> simp <;> omega
      refine ok_tl (ok_ifS (b := p x) ((tt_and (a := neB w x) (b := decide (x ∈ lot) || (decide (m ≤ x) && wrote (at_ ds x))) (tt_test hne) fun _ => tt_or (a := decide (x ∈ lot)) (tt_test (ty_inTN (ty_var rfl) (ty_var rfl))) fun _ => tt_and (a := decide (m ≤ x)) (b := wrote (at_ ds x)) ((tt_test (ty_ge (ty_var (P := IV (x : Nat)) rfl) (ty_var rfl))).is (dec_iff (by omega))) fun _ => tt_test (ty_wrote (ty_d0 (ty_di (ty_var rfl) (ty_var rfl) hxd)))).is hcond) (fun y => ?_) fun y => ok_nextS ?_)
      · refine ok_asg (P := IV (cellsOf w + needOf w + (((List.range x).filter p).map fun i => (at_ ds i).2).sum + (at_ ds x).2)) (ty_add (ty_var rfl) (ty_d1 (ty_di (ty_var rfl) (ty_var rfl) hxd))) (ok_fin trivial rfl ?_ fun _ _ a => a)
        rw [hnext _ (by rw [y, if_pos rfl])]
        walk_at "sub"
      · refine ok_fin trivial rfl ?_ fun _ _ a => a
        rw [hnext _ (by rw [y, if_neg (by simp), Int.add_zero])]
        walk_at "sub"
    · rw [List.length_range]
      refine ok_ret ((ty_var rfl).to ?_) hr
      unfold ownF
      rw [if_pos hfr, hp] <;> rfl
/-! ### instances that change -/
def IC (K : PySem.W.Frag) (c h : Int) (ds : List PyData) : CP := ⟨fun o F => ∃ dx t, o = .ins (SC K) dx [("cells", .int c), ("head", .int h), ("deeds", .ref t)] ∧ Rp F (.ref t) (.tuple ds), fun e ⟨dx, t, h1, h2⟩ => ⟨dx, t, h1, Rp.mono e h2⟩⟩
section
variable {C : Ctx} {W : Cs} {F H : Hp} {G : Gm} {D : Ends} {t rest : TS} {ta te : TE}
theorem Run.freezeO {l : Addr} {Cp : CP} (r : Run C ((l, Cp) :: W) F H) : ∃ o, H l = some o ∧ Cp.c o F ∧ Run C W (upd F l o) H ∧ Same F (upd F l o) := by
  obtain ⟨j1, j2, j3⟩ := id r.j
  obtain ⟨nT, hF, o, h0, c0⟩ := j3 _ List.mem_cons_self
  have hl : C.H0 l = none := r.fresh _ List.mem_cons_self
  have le : Same F (upd F l o) := fun a u q => by
    rw [upd_ne (ne_of_none q hF)]
    exact q
  have nd := List.nodup_cons.mp j2
  refine ⟨o, h0, c0, ⟨r.st, fun a q => ?_, fun a u q => ?_, ⟨C.W0.keep j1 le (fun a ha => ?_) (fun _ _ => rfl), nd.2, fun q hq => ?_⟩, fun a u q => le a u (r.lo a u q), fun q hq => r.fresh q (List.mem_cons_of_mem _ hq)⟩, le⟩
  · rw [upd_ne fun z => q (by rw [z]; exact hl)]
    exact r.old a q
  · by_cases e : a = l
    · subst e
      rw [upd_same] at q
      rw [← q]
      exact h0
    · rw [upd_ne e] at q
      exact r.sm a u q
  · rw [upd_ne fun z => nT (by rw [← z]; exact ha)]
    exact (C.W0.there j1 ha).1
  · obtain ⟨z1, z2, u, z3, z4⟩ := j3 q (List.mem_cons_of_mem _ hq)
    have ne : q.1 ≠ l := fun z => nd.1 (by
      show l ∈ W.map (·.1)
      rw [← z]
      exact List.mem_map.mpr ⟨q, hq, rfl⟩)
    exact ⟨z1, by rw [upd_ne ne]; exact z2, u, z3, q.2.mono le z4⟩
theorem ok_freezeI {i : Nat} {l : Addr} {c h : Int} {ds : List Dd} (hi : G[i]? = some (some (XV (.ref l)))) (q : Ok C W (G.set i (some (SS K c h ds))) t D) : Ok C ((l, IC K c h (ds.map dD)) :: W) G t D := fun σ F H r e => by
  obtain ⟨o, h0, ⟨dx, ta, eo, hrp⟩, r', le⟩ := r.freezeO
  obtain ⟨v, h1, h2⟩ := e.2 i _ hi
  have h2' : v = .ref l := h2
  subst h2'
  subst eo
  refine q σ _ H r' ?_
  have e' := (e.mono le).set (P := SS K c h ds) i ⟨l, dx, ta, rfl, upd_same, Rp.mono le hrp⟩
  have hs : σ.set i (some (.ref l)) = σ := by
    apply List.ext_getElem?
    intro j
    by_cases z : i = j
    · subst z
      rw [List.getElem?_set, if_pos rfl, if_pos (List.getElem?_eq_some_iff.mp h1).1, h1]
    · rw [List.getElem?_set_ne z]
  rw [hs] at e'
  exact e'
theorem ok_makeC {i : Nat} {tr : TA} {c h : Int} {ds : List Dd} {E : XK} (ha : TyA (C.w W) G tr [IV c, IV h, DV (dsD ds)]) (hg : Good c h ds) (k : ∀ l, Ok C ((l, IC K c h (ds.map dD)) :: W) (G.set i (some (XV (.ref l)))) rest D) : Ok C W G (tSeq (tAsg (tMake (SC K) (sp_Standing_init K) [] E tr) (gName i)) rest) D := fun σ F H r e =>
  ha σ F e H r.sm r.j _ fun vs F1 H1 g1 p1 => by
    intro x dx hx hdx hne
    have r1 := r.go g1
    have s1 := r1.sm
    match vs, p1 with
    | [a, b, t], ⟨pa, pb, pt, _⟩ =>
      have ea := IV.v pa
      have eb := IV.v pb
      subst ea
      subst eb
      have pt' : Rp F1 t (dsD ds) := pt
      obtain ⟨ta, et⟩ : ∃ ta, t = .ref ta := by
        cases pt' with
        | tup h hs => exact ⟨_, rfl⟩
      subst et
      have hF1x := Same.none_of s1 hx
      have hF1d := Same.none_of s1 hdx
      have hup : ∀ {a o}, a ≠ x → a ≠ dx → H1 a = some o → (upd (upd H1 dx (.own x)) x (.ins (SC K) dx [])) a = some o := fun h1 h2 h3 => by
        rw [upd_ne h1, upd_ne h2]
        exact h3
      refine ⟨F1, x, dx, ta, c, h, ds, rfl, upd_same, fun a o q => hup (ne_of_none q hF1x) (ne_of_none q hF1d) (s1 a o q), hF1x, pt', hg, fun H' k1 k2 => ⟨rfl, ?_⟩⟩
      have sH : Same H1 (del H' x) := fun a o q => by
        rw [del_ne (ne_of_none q hx)]
        exact k1 a o (ne_of_none q hx) (hup (ne_of_none q hx) (ne_of_none q hdx) q)
      have g2 := Go.same s1 r1.j sH
      have r2 := r1.go g2
      have r3 := r2.alloc (l := x) (o := .ins (SC K) dx [("cells", .int c), ("head", .int h), ("deeds", .ref ta)]) (Cp := IC K c h (ds.map dD)) del_same ⟨dx, ta, rfl, Rp.mono (g2.le s1) pt'⟩
      rw [upd_del k2] at r3
      exact k x _ _ H' r3 (((e.mono (g1.le r.sm)).mono (g2.le s1)).set (P := XV (.ref x)) i rfl)
/-- x.cells = e, x.head = e, x.deeds = e -/
theorem ok_cells {k i : Nat} {l : Addr} {c c' h : Int} {ds : List PyData} (S : StdC K (SC K)) (hk : W[k]? = some (l, IC K c h ds)) (hi : G[i]? = some (some (XV (.ref l)))) (ha : Ty (C.w W) G te (IV c')) (q : Ok C (W.set k (l, IC K c' h ds)) G rest D) : Ok C W G (tSeq (sFld K (tVar i) te "cells") rest) D := fun σ F H r e => by
  obtain ⟨v, h1, h2⟩ := e.2 i _ hi
  have h2' : v = .ref l := h2
  subst h2'
  refine ha σ F e H r.sm r.j _ fun y F1 H1 g p => ⟨_, h1, ?_⟩
  have r1 := r.go g
  obtain ⟨_, _, o, ho, dx, t, eo, hrp⟩ := r1.j.2.2 _ (List.mem_of_getElem? hk)
  subst eo
  have ey := IV.v p
  subst ey
  exact ⟨l, _, dx, _, rfl, ho, S.cl, S.n1, by simp, q σ F1 _ (r1.put hk ⟨dx, t, rfl, hrp⟩) (e.mono (g.le r.sm))⟩
theorem ok_head {k i : Nat} {l : Addr} {c h h' : Int} {ds : List PyData} (S : StdC K (SC K)) (hk : W[k]? = some (l, IC K c h ds)) (hi : G[i]? = some (some (XV (.ref l)))) (ha : Ty (C.w W) G te (IV h')) (q : Ok C (W.set k (l, IC K c h' ds)) G rest D) : Ok C W G (tSeq (sFld K (tVar i) te "head") rest) D := fun σ F H r e => by
  obtain ⟨v, h1, h2⟩ := e.2 i _ hi
  have h2' : v = .ref l := h2
  subst h2'
  refine ha σ F e H r.sm r.j _ fun y F1 H1 g p => ⟨_, h1, ?_⟩
  have r1 := r.go g
  obtain ⟨_, _, o, ho, dx, t, eo, hrp⟩ := r1.j.2.2 _ (List.mem_of_getElem? hk)
  subst eo
  have ey := IV.v p
  subst ey
  exact ⟨l, _, dx, _, rfl, ho, S.cl, S.n2, by simp, q σ F1 _ (r1.put hk ⟨dx, t, rfl, hrp⟩) (e.mono (g.le r.sm))⟩
theorem ok_deeds {k i : Nat} {l : Addr} {c h : Int} {ds ds' : List PyData} (S : StdC K (SC K)) (hk : W[k]? = some (l, IC K c h ds)) (hi : G[i]? = some (some (XV (.ref l)))) (ha : Ty (C.w W) G te (DV (.tuple ds'))) (q : Ok C (W.set k (l, IC K c h ds')) G rest D) : Ok C W G (tSeq (sFld K (tVar i) te "deeds") rest) D := fun σ F H r e => by
  obtain ⟨v, h1, h2⟩ := e.2 i _ hi
  have h2' : v = .ref l := h2
  subst h2'
  refine ha σ F e H r.sm r.j _ fun y F1 H1 g p => ⟨_, h1, ?_⟩
  have r1 := r.go g
  obtain ⟨_, _, o, ho, dx, t, eo, hrp⟩ := r1.j.2.2 _ (List.mem_of_getElem? hk)
  subst eo
  obtain ⟨ta, et⟩ : ∃ ta, y = .ref ta := by
    have p' : Rp F1 y (.tuple ds') := p
    cases p' with
    | tup h hs => exact ⟨_, rfl⟩
  subst et
  exact ⟨l, _, dx, _, rfl, ho, S.cl, S.n3, by simp, q σ F1 _ (r1.put hk ⟨dx, ta, rfl, p⟩) (e.mono (g.le r.sm))⟩
end
theorem good_0 : Good 1 0 [] := ⟨⟨0, Nat.le_refl _, fun i d h => by simp at h⟩, fun d hd => by simp at hd, fun i j f g n m _ h => by simp at h, fun f n h => by simp at h, by omega, by omega, by omega, by omega, by simp, fun f n h => by simp at h⟩
/-- deeds that are data but not of a Dd list are set at the end -/
theorem pure_raw_standing (T : Txt K mg) (h : sp_raw_standing K vs H Q E) : t_raw_standing K (endsOf Q) (L2.start N_raw_standing vs) H := enter h fun Ps P hR C hW hr hf => by
  obtain ⟨c, hd, ds, rfl, rfl⟩ := hR
  have S := T.std
  refine ok_makeC (c := 1) (h := 0) (ds := []) (ta_cons ty_int (ta_cons ty_int (ta_cons (ty_tup (ds := []) ta_nil) ta_nil))) good_0 fun l => ?_
  refine ok_cells (k := 0) S rfl rfl (ty_var (P := IV c) rfl) ?_
  refine ok_head (k := 0) S rfl rfl (ty_var (P := IV hd) rfl) ?_
  refine ok_deeds (k := 0) S rfl rfl (ty_tupleT (ty_var (P := TV ds) rfl)) ?_
  intro σ F H r e
  obtain ⟨o, h0, ⟨dx, ta, eo, hrp⟩, r', le⟩ := r.freezeO
  obtain ⟨v, h1, h2⟩ := e.2 3 _ rfl
  have h2' : v = .ref l := h2
  subst h2'
  subst eo
  exact ⟨_, h1, hr _ _ _ _ r' ⟨l, dx, ta, rfl, upd_same, Rp.mono le hrp⟩⟩
theorem putF_len {f : Str} {v : V} : ∀ {fs : List (Str × V)}, (putF f v fs).length ≤ fs.length + 1
  | [] => Nat.le_refl _
  | (g, x) :: r => by
    unfold putF
    split
    · exact Nat.le_succ _
    · exact Nat.succ_le_succ putF_len
theorem putF3 {a b c : V} : putF "deeds" c (putF "head" b (putF "cells" a [])) = ([("cells", a), ("head", b), ("deeds", c)] : List (Str × V)) := by
  have e1 : ¬ (("cells" : Str) = ("head" : Str)) := by decide +kernel
  have e2 : ¬ (("cells" : Str) = ("deeds" : Str)) := by decide +kernel
  have e3 : ¬ (("head" : Str) = ("deeds" : Str)) := by decide +kernel
  simp only [putF]
  rw [if_neg e1]
  simp only [putF]
  rw [if_neg e2, if_neg e3]
def iW (K : PySem.W.Frag) (p dx : Addr) : Wd where
  T := fun a => a = p
  J := fun F H => F p = none ∧ H p = some (.ins (SC K) dx [])
  there := fun {F H a} ⟨h1, h2⟩ ht => by
    subst ht
    exact ⟨h1, by rw [h2]; exact fun z => nomatch z⟩
  keep := fun {F F' H H'} ⟨h1, h2⟩ e n k => ⟨n _ rfl, by rw [k _ rfl]; exact h2⟩
def BothV (x : V) (d : PyData) : PV := ⟨fun v F => v = x ∧ Rp F v d, fun e ⟨h1, h2⟩ => ⟨h1, Rp.mono e h2⟩⟩
theorem pure_Standing_init (T : Txt K mg) (h : sp_Standing_init K vs H Q E) : t_Standing_init K (endsOf Q) (L2.start N_Standing_init vs) H := by
  obtain ⟨F, p, dx, t, c, hd, ds, rfl, hp, s, hFp, hrp, hg, k⟩ := h
  obtain ⟨hnl, hnd, hasc, hfst, hc1, hc2, hh1, hh2, hlen, hroom⟩ := id hg
  have S := T.std
  have key : Ok ⟨iW K p dx, F, H, F⟩ [] [some (XV (.ref p)), some (IV c), some (IV hd), some (BothV (.ref t) (dsD ds)), none, none, none, none] (t_Standing_init K) (endsOf Q) := by
    have hds : ∀ {G : Gm}, G[3]? = some (some (BothV (.ref t) (dsD ds))) → Ty (Ctx.w ⟨iW K p dx, F, H, F⟩ []) G (tVar 3) (DV (dsD ds)) := fun g => (ty_var g).weak fun v F p => p.2
    refine ok_pass (tt_not (b := true) (tt_B ((ty_call (ta_cons (ty_var rfl) (ta_cons ty_int (ta_cons ty_int ta_nil))) ⟨c, 1, _, rfl, rfl⟩).to (by rw [decide_eq_true hc1, decide_eq_true hc2] <;> rfl)))) ?_
    refine ok_pass (tt_not (b := true) (tt_B ((ty_call (ta_cons (ty_var rfl) (ta_cons ty_int ta_nil)) ⟨hd, _, rfl, rfl⟩).to (by rw [decide_eq_true hh1, decide_eq_true hh2] <;> rfl)))) ?_
    refine ok_pass (tt_or (a := false) (b := false) (tt_not (b := true) (tt_B (ty_isi (d := dsD ds) (hds rfl) kit_tt))) fun _ => tt_test ((ty_gt (ty_lenT (ds := ds.map dD) (hds rfl)) ty_int).to (by rw [List.length_map, decide_eq_false (by omega)]))) ?_
    refine ok_asg (P := NV) (ty_call (ta_cons (ty_var rfl) (ta_cons (hds rfl) ta_nil)) ⟨c, hd, ds, rfl, hg, rfl⟩) ?_
    refine ok_pass (tt_test (ty_notN (d := .none) (ty_var rfl))) ?_
    refine ok_pass (tt_B (ty_call (P := BV false) (ta_cons (ty_var rfl) (ta_cons (ty_var rfl) (ta_cons (hds rfl) ta_nil))) ⟨c, hd, ds, rfl, hroom, rfl⟩)) ?_
    refine ok_asg (P := NV) (ty_call (ta_cons (TyN.ty ((tn_lcm (enc := dD) (f := fun _ => e0) ds (ti_tup (hds rfl)) own3 mon3 (by omega) fun a _ => ⟨_, tg3, ty_var rfl⟩).is (by rw [List.map_const']))) ta_nil) ⟨ds.length, by omega, rfl, rfl⟩) ?_
    refine ok_pass (tt_test (ty_notN (d := .none) (ty_var rfl))) ?_
    intro σ F1 H1 r e
    obtain ⟨v0, a0, b0⟩ := e.2 0 _ rfl
    obtain ⟨v1, a1, b1⟩ := e.2 1 _ rfl
    obtain ⟨v2, a2, b2⟩ := e.2 2 _ rfl
    obtain ⟨v3, a3, b3⟩ := e.2 3 _ rfl
    have b0' : v0 = .ref p := b0
    have b1' := IV.v b1
    have b2' := IV.v b2
    have b3' : v3 = .ref t := b3.1
    subst b0' b1' b2' b3'
    have hj : H1 p = some (.ins (SC K) dx []) := r.j.1.2
    refine ⟨_, a1, _, a0, p, _, dx, _, rfl, hj, S.cl, S.n1, by simp, _, a2, _, a0, p, _, dx, _, rfl, upd_same, S.cl, S.n2, Nat.lt_of_le_of_lt putF_len (by simp), _, a3, _, a0, p, _, dx, _, rfl, upd_same, S.cl, S.n3, Nat.lt_of_le_of_lt putF_len (Nat.lt_of_le_of_lt (Nat.succ_le_succ putF_len) (by simp)), ?_⟩
    refine k _ (fun b o hb hq => ?_) (upd_same.trans (by rw [putF3]))
    rw [upd_ne hb, upd_ne hb, upd_ne hb]
    exact r.st.kp b o hb hq
  refine key _ F H ⟨Stp.refl, fun _ _ => rfl, s, adds_nil.mpr ⟨hFp, hp⟩, Same.refl F, fun _ z => nomatch z⟩ ⟨rfl, fun i P hP => ?_⟩
  match i, hP with
  | 0, hP =>
    have e := Option.some.inj (Option.some.inj hP)
    subst e
    exact ⟨_, rfl, rfl⟩
  | 1, hP =>
    have e := Option.some.inj (Option.some.inj hP)
    subst e
    exact ⟨_, rfl, .int _⟩
  | 2, hP =>
    have e := Option.some.inj (Option.some.inj hP)
    subst e
    exact ⟨_, rfl, .int _⟩
  | 3, hP =>
    have e := Option.some.inj (Option.some.inj hP)
    subst e
    exact ⟨_, rfl, rfl, hrp⟩
  | 4, hP => exact nomatch hP
  | 5, hP => exact nomatch hP
  | 6, hP => exact nomatch hP
  | 7, hP => exact nomatch hP
  | n + 8, hP => exact nomatch hP
end
end RC

end
section
set_option Elab.async false
set_option linter.all false
set_option maxRecDepth 100000
set_option maxHeartbeats 1000000
/-! RC: who must go. -/
namespace RC
open PySem L2
def okL (c h : Int) : Int → List Dd → Prop
  | _, [] => True
  | s, d :: r => (match d.1 with
    | none => d.2 ≤ c
    | some f => h - f + (s + d.2) ≤ c) ∧ okL c h (s + d.2) r
def sumD (l : List Dd) : Int := (l.map (·.2)).sum
theorem sumD_cons {d : Dd} {l : List Dd} : sumD (d :: l) = d.2 + sumD l := by
  unfold sumD
  rw [List.map_cons, List.sum_cons]
theorem sumD_app {a b : List Dd} : sumD (a ++ b) = sumD a + sumD b := by
  unfold sumD
  rw [List.map_append, List.sum_append]
theorem needs_sumD {ds : List Dd} {m : Nat} : needs ds m = sumD (ds.take m) := rfl
section
variable {c h x : Int}
theorem okL_app : ∀ {A B : List Dd} {s : Int}, okL c h s (A ++ B) ↔ okL c h s A ∧ okL c h (s + sumD A) B
  | [], B, s => by
    show okL c h s B ↔ True ∧ okL c h (s + 0) B
    rw [Int.add_zero, true_and]
  | d :: A, B, s => by
    show _ ∧ okL c h (s + d.2) (A ++ B) ↔ (_ ∧ okL c h (s + d.2) A) ∧ okL c h (s + sumD (d :: A)) B
    rw [okL_app, sumD_cons, and_assoc, Int.add_assoc]
theorem okL_shift : ∀ {L : List Dd} {s : Int}, okL c (h + x) s L ↔ okL c h (s + x) L
  | [], s => Iff.rfl
  | d :: L, s => by
    have ih := @okL_shift L (s + d.2)
    show _ ∧ okL c (h + x) (s + d.2) L ↔ _ ∧ okL c h (s + x + d.2) L
    rw [ih, show s + d.2 + x = s + x + d.2 by omega]
    obtain ⟨f, n⟩ := d
    cases f with
    | none => exact Iff.rfl
    | some f =>
      show (h + x - f + (s + n) ≤ c) ∧ _ ↔ (h - f + (s + x + n) ≤ c) ∧ _
      rw [show h + x - f + (s + n) = h - f + (s + x + n) by omega]
theorem okL_bare : ∀ {B : List Dd} {s : Int}, (∀ b ∈ B, wrote b = false) → (okL c h s B ↔ ∀ b ∈ B, b.2 ≤ c)
  | [], s, _ => ⟨fun _ b hb => (by simp at hb), fun _ => trivial⟩
  | d :: B, s, hB => by
    have ih := @okL_bare B (s + d.2) fun b hb => hB b (List.mem_cons_of_mem _ hb)
    have hd := hB d List.mem_cons_self
    obtain ⟨f, n⟩ := d
    cases f with
    | some f => cases hd
    | none =>
      show n ≤ c ∧ okL c h (s + n) B ↔ _
      rw [ih]
      constructor
      · rintro ⟨h1, h2⟩ b hb
        rcases List.mem_cons.mp hb with z | z
        · rw [z]
          exact h1
        · exact h2 b z
      · intro h1
        exact ⟨h1 _ List.mem_cons_self, fun b hb => h1 b (List.mem_cons_of_mem _ hb)⟩
/-- a load, so much before it -/
def loadS (h s : Int) (ds : List Dd) (i : Nat) (d : Dd) : Int := match d.1 with
  | none => d.2
  | some f => h - f + (s + needs ds (i + 1))
theorem loadS_0 {ds : List Dd} {i : Nat} {d : Dd} : loadS h 0 ds i d = load h ds i d := by
  obtain ⟨f, n⟩ := d
  cases f with
  | none => rfl
  | some f =>
    show h - f + (0 + needs ds (i + 1)) = h - f + needs ds (i + 1)
    rw [Int.zero_add]
theorem needs_cons {d : Dd} {ds : List Dd} {i : Nat} : needs (d :: ds) (i + 1) = d.2 + needs ds i := by
  unfold needs
  rw [List.take_succ_cons, List.map_cons, List.sum_cons]
theorem okL_get : ∀ {ds : List Dd} {s : Int}, okL c h s ds ↔ ∀ i d, ds[i]? = some d → loadS h s ds i d ≤ c
  | [], s => ⟨fun _ i d hd => (by simp at hd), fun _ => trivial⟩
  | e :: ds, s => by
    have ih := @okL_get ds (s + e.2)
    show _ ∧ okL c h (s + e.2) ds ↔ _
    rw [ih]
    have hl : ∀ i d, loadS h s (e :: ds) (i + 1) d = loadS h (s + e.2) ds i d := fun i d => by
      obtain ⟨f, n⟩ := d
      cases f with
      | none => rfl
      | some f =>
        show h - f + (s + needs (e :: ds) (i + 1 + 1)) = h - f + (s + e.2 + needs ds (i + 1))
        rw [needs_cons]
        omega
    have h0 : (match e.1 with
      | none => e.2 ≤ c
      | some f => h - f + (s + e.2) ≤ c) ↔ loadS h s (e :: ds) 0 e ≤ c := by
      obtain ⟨f, n⟩ := e
      cases f with
      | none => exact Iff.rfl
      | some f =>
        show h - f + (s + n) ≤ c ↔ h - f + (s + needs ((some f, n) :: ds) (0 + 1)) ≤ c
        rw [needs_cons]
        show h - f + (s + n) ≤ c ↔ h - f + (s + (n + 0)) ≤ c
        rw [Int.add_zero]
    rw [h0]
    constructor
    · rintro ⟨h1, h2⟩ i d hd
      cases i with
      | zero =>
        have ed : e = d := by simpa using hd
        subst ed
        exact h1
      | succ i =>
        rw [hl]
        exact h2 i d (by simpa using hd)
    · intro h1
      exact ⟨h1 0 e rfl, fun i d hd => by
        rw [← hl]
        exact h1 (i + 1) d (by simpa using hd)⟩
theorem easy_okL {ds : List Dd} : easyB c h ds = true ↔ okL c h 0 ds := by
  rw [easyB_iff, okL_get]
  exact ⟨fun z i d hd => by rw [loadS_0]; exact z i d hd, fun z i d hd => by rw [← loadS_0]; exact z i d hd⟩
theorem mem_heavy {D : List Dd} {i : Nat} : i ∈ heavy c h D ↔ ∃ d, D[i]? = some d ∧ c < load h D i d := by
  unfold heavy
  rw [List.mem_filter, List.mem_range, decide_eq_true_eq]
  constructor
  · rintro ⟨h1, h2⟩
    have h0 : D[i]? = some (at_ D i) := getD_lt h1
    rw [getD_of (loads_get h0)] at h2
    exact ⟨_, h0, h2⟩
  · rintro ⟨d, h1, h2⟩
    rw [getD_of (loads_get h1)]
    exact ⟨(List.getElem?_eq_some_iff.mp h1).1, h2⟩
theorem needs_add {D : List Dd} {m i : Nat} : needs D m + needs (D.drop m) i = needs D (m + i) := by
  rw [needs_sumD, needs_sumD, needs_sumD, ← sumD_app, ← List.take_add]
theorem okL_from {D : List Dd} {m : Nat} : okL c h (needs D m) (D.drop m) ↔ ∀ i ∈ heavy c h D, i < m := by
  rw [okL_get]
  have hl : ∀ i d, loadS h (needs D m) (D.drop m) i d = load h D (m + i) d := fun i d => by
    obtain ⟨f, n⟩ := d
    cases f with
    | none => rfl
    | some f =>
      show h - f + (needs D m + needs (D.drop m) (i + 1)) = h - f + needs D (m + i + 1)
      rw [needs_add, Nat.add_assoc]
  constructor
  · intro z i hi
    obtain ⟨d, h1, h2⟩ := mem_heavy.mp hi
    by_cases q : i < m
    · exact q
    · have := z (i - m) d (by rw [List.getElem?_drop, show m + (i - m) = i by omega]; exact h1)
      rw [hl, show m + (i - m) = i by omega] at this
      omega
  · intro z i d hd
    rw [hl]
    rw [List.getElem?_drop] at hd
    by_cases q : load h D (m + i) d ≤ c
    · exact q
    · have := z (m + i) (mem_heavy.mpr ⟨d, hd, by omega⟩)
      omega
end
theorem last_spec : ∀ {l : List Nat} {m : Nat}, l.Pairwise (· < ·) → ((match l.getLast? with | some d => d + 1 | none => 0) ≤ m ↔ ∀ i ∈ l, i < m) := by
  intro l m hl
  cases q : l.getLast? with
  | none =>
    rw [List.getLast?_eq_none_iff] at q
    subst q
    exact ⟨fun _ i hi => by simp at hi, fun _ => Nat.zero_le _⟩
  | some d =>
    show d + 1 ≤ m ↔ _
    have hd := List.mem_of_getLast? q
    constructor
    · intro z i hi
      have hle : i ≤ d := by
        rw [List.getLast?_eq_getElem?] at q
        obtain ⟨k, hk, e⟩ := List.getElem_of_mem hi
        obtain ⟨q1, q2⟩ := List.getElem?_eq_some_iff.mp q
        by_cases z2 : k = l.length - 1
        · subst z2
          omega
        · have := (List.pairwise_iff_getElem.mp hl) k (l.length - 1) hk q1 (by omega)
          omega
      omega
    · intro z
      have := z d hd
      omega
theorem heavy_asc {c h : Int} {D : List Dd} : (heavy c h D).Pairwise (· < ·) := asc_range.filter _
theorem lm_some {c h : Int} {ds : List Dd} {w : Wi} {m : Nat} : ∀ {n k : Nat}, k ≤ m → m < k + n → (∀ j, k ≤ j → j < m → lowB w j = false ∧ okAt c h ds w j = false) → lowB w m = false → okAt c h ds w m = true → lMustFrom c h ds w k n = some m
  | 0, k, h1, h2, _, _, _ => by omega
  | n + 1, k, h1, h2, h3, h4, h5 => by
    rw [must_step]
    by_cases e : k = m
    · subst e
      rw [h4, if_neg (by simp), if_pos h5]
    · obtain ⟨q1, q2⟩ := h3 k (Nat.le_refl _) (by omega)
      rw [q1, if_neg (by simp), q2, if_neg (by simp)]
      exact lm_some (by omega) (by omega) (fun j a b => h3 j (by omega) b) h4 h5
theorem lm_none {c h : Int} {ds : List Dd} {w : Wi} : ∀ {n k : Nat}, (∀ j, k ≤ j → j < k + n → lowB w j = true ∨ okAt c h ds w j = false) → lMustFrom c h ds w k n = none
  | 0, k, _ => by
    cases w <;> rfl
  | n + 1, k, h1 => by
    rw [must_step]
    by_cases q : lowB w k = true
    · rw [if_pos q]
    · rw [if_neg q]
      rcases h1 k (Nat.le_refl _) (by omega) with z | z
      · exact absurd z q
      · rw [z, if_neg (by simp)]
        exact lm_none fun j a b => h1 j (by omega) (by omega)
/-- the first from m0 on, or none, is the law's -/
theorem must_gen {c h : Int} {ds : List Dd} {w : Wi} {wi m0 : Nat} {own : Nat → Bool} (hwi : wi ≤ ds.length) (hlow : ∀ j, j ≤ wi → lowB w j = false) (hok : ∀ m, m ≤ wi → okAt c h ds w m = (decide (m0 ≤ m) && own m)) (hbig : ∀ m, wi < m → lowB w m = false → okAt c h ds w m = true → okAt c h ds w wi = true) :
    lMust c h ds w = (if wi < firstFrom (fun m => decide (wi < m) || own m) m0 (wi + 1 - m0) then none else some (firstFrom (fun m => decide (wi < m) || own m) m0 (wi + 1 - m0))) := by
  obtain ⟨s1, s2, s3, s4⟩ := first_spec (fun m => decide (wi < m) || own m) m0 (wi + 1 - m0)
  obtain ⟨r, hr⟩ : ∃ r, r = firstFrom (fun m => decide (wi < m) || own m) m0 (wi + 1 - m0) := ⟨_, rfl⟩
  rw [← hr] at s1 s2 s3 s4 ⊢
  have hno : ∀ j, j < r → j ≤ wi → okAt c h ds w j = false := fun j hj hjw => by
    rw [hok j hjw]
    by_cases q : m0 ≤ j
    · have := s3 j q hj
      rw [Bool.or_eq_false_iff] at this
      rw [this.2, Bool.and_false]
    · rw [decide_eq_false q, Bool.false_and]
  unfold lMust
  by_cases q : wi < r
  · rw [if_pos q]
    refine lm_none fun j _ hj => ?_
    by_cases z : j ≤ wi
    · exact .inr (hno j (by omega) z)
    · cases q1 : lowB w j with
      | true => exact .inl rfl
      | false =>
        refine .inr ?_
        cases q2 : okAt c h ds w j with
        | false => rfl
        | true =>
          have := hbig j (by omega) q1 q2
          rw [hno wi q (Nat.le_refl _)] at this
          cases this
  · rw [if_neg q]
    refine lm_some (Nat.zero_le _) (by omega) (fun j _ hj => ⟨hlow j (by omega), hno j hj (by omega)⟩) (hlow r (by omega)) ?_
    rw [hok r (by omega), decide_eq_true s1, Bool.true_and]
    have := s4 (by omega)
    rw [Bool.or_eq_true] at this
    rcases this with z | z
    · exact absurd (of_decide_eq_true z) q
    · exact z
end RC

end
section
set_option Elab.async false
set_option linter.all false
set_option maxRecDepth 100000
set_option maxHeartbeats 1000000
/-! RC: the program's must is the law's. -/
namespace RC
open PySem L2
theorem lm_ok {c h : Int} {ds : List Dd} {w : Wi} {m : Nat} : ∀ {n k : Nat}, lMustFrom c h ds w k n = some m → okAt c h ds w m = true ∧ lowB w m = false ∧ m < k + n
  | 0, k, e => by
    cases w <;> cases e
  | n + 1, k, e => by
    rw [must_step] at e
    by_cases q : lowB w k = true
    · rw [if_pos q] at e
      cases e
    · rw [if_neg q] at e
      by_cases z : okAt c h ds w k = true
      · rw [if_pos z] at e
        cases e
        exact ⟨z, by simpa using q, by omega⟩
      · rw [if_neg z] at e
        obtain ⟨h1, h2, h3⟩ := lm_ok e
        exact ⟨h1, h2, by omega⟩
theorem own_eq {U V : List Dd} {x : Dd} {a : Int} {m : Nat} (hm : m ≤ U.length) : ownSum (U ++ x :: V) U.length a m = a + (sumD (U.drop m) + x.2) := by
  show a + sumD (((U ++ x :: V).take (U.length + 1)).drop m) = _
  have e : (U ++ x :: V).take (U.length + 1) = U ++ [x] := by
    rw [List.take_append, List.take_of_length_le (by omega)]
    simp
  rw [e, List.drop_append_of_le_length hm, sumD_app]
  unfold sumD
  simp
theorem pMust_eq (c h : Int) (ds : List Dd) (w : Wi) : ∀ {hv sm : List Nat} {m0 wi : Nat} {D : List Dd} {h' : Int}, behind h ds w = (h', D) → wi = wisher ds w → hv = heavy c h' D → sm = hv.filter (fun d => decide (d ≠ wi)) → m0 = (match sm.getLast? with | some d => d + 1 | none => 0) →
    pMust c h ds w = if firstRow ds w then (if wi < firstFrom (fun m => decide (wi < m) || decide (ownSum D wi (h' - h) m ≤ c)) m0 (wi + 1 - m0) then none else some (firstFrom (fun m => decide (wi < m) || decide (ownSum D wi (h' - h) m ≤ c)) m0 (wi + 1 - m0)))
      else if wi ∈ hv then none else if wi < m0 then none else some m0 := by
  intro hv sm m0 wi D h' e1 e2 e3 e4 e5
  subst e5 e4 e3 e2
  have e6 : (behind h ds w).1 = h' := by rw [e1]
  have e7 : (behind h ds w).2 = D := by rw [e1]
  subst e6 e7
  rfl
theorem okAt_def {c h : Int} {ds : List Dd} {w : Wi} {m : Nat} {h' : Int} {B : List Dd} (e : behind (h + needs ds m) (ds.drop m) (later w m) = (h', B)) : okAt c h ds w m = true ↔ okL c h' 0 B := by
  rw [← easy_okL]
  show easyB c (behind (h + needs ds m) (ds.drop m) (later w m)).1 (behind (h + needs ds m) (ds.drop m) (later w m)).2 = true ↔ _
  rw [e]
theorem bool_iff {a b : Bool} (h : a = true ↔ b = true) : a = b := by
  cases a <;> cases b <;> simp_all
theorem first_case {c h a n : Int} {ds U V : List Dd} {w : Wi} (hD : behind h ds w = (h + a, U ++ (some h, n) :: V)) (hwi : wisher ds w = U.length) (hfr : firstRow ds w = true) (hV : ∀ b ∈ V, wrote b = false ∧ b.2 ≤ c) (hl : U.length ≤ ds.length)
    (hB : ∀ m, m ≤ U.length → behind (h + needs ds m) (ds.drop m) (later w m) = (h + needs ds m + a, U.drop m ++ (some (h + needs ds m), n) :: V)) (hnd : ∀ m, m ≤ U.length → needs ds m = needs U m)
    (hbig : ∀ m, U.length < m → lowB w m = false → okAt c h ds w m = true → a + n ≤ c) (hlow : ∀ j, j ≤ U.length → lowB w j = false) : pMust c h ds w = lMust c h ds w ∧ ∀ m, lMust c h ds w = some m → m ≤ U.length := by
  obtain ⟨hv, e3⟩ : ∃ hv, hv = heavy c (h + a) (U ++ (some h, n) :: V) := ⟨_, rfl⟩
  obtain ⟨sm, e4⟩ : ∃ sm, sm = hv.filter (fun d => decide (d ≠ U.length)) := ⟨_, rfl⟩
  obtain ⟨m0, e5⟩ : ∃ m0, m0 = (match sm.getLast? with | some d => d + 1 | none => 0) := ⟨_, rfl⟩
  have hp := pMust_eq c h ds w hD hwi.symm e3 e4 e5
  rw [if_pos hfr] at hp
  have hsm : ∀ i, i ∈ sm ↔ i ∈ heavy c (h + a) U := fun i => by
    rw [e4, List.mem_filter, e3, decide_eq_true_eq, mem_heavy, mem_heavy]
    constructor
    · rintro ⟨⟨d, h1, h2⟩, h3⟩
      by_cases q : i < U.length
      · rw [List.getElem?_append_left q] at h1
        refine ⟨d, h1, ?_⟩
        obtain ⟨f, k⟩ := d
        cases f with
        | none => exact h2
        | some f =>
          rw [load_w] at h2 ⊢
          have e : needs (U ++ (some h, n) :: V) (i + 1) = needs U (i + 1) := by
            rw [needs_sumD, needs_sumD, List.take_append_of_le_length (by omega)]
          rw [e] at h2
          exact h2
      · rw [List.getElem?_append_right (by omega)] at h1
        cases z : i - U.length with
        | zero => omega
        | succ k =>
          rw [z] at h1
          have hm : d ∈ V := List.mem_of_getElem? (by simpa using h1)
          obtain ⟨f, k⟩ := d
          obtain ⟨q1, q2⟩ := hV _ hm
          cases f with
          | some f => cases q1
          | none =>
            rw [load_b] at h2
            have q2' : k ≤ c := q2
            omega
    · rintro ⟨d, h1, h2⟩
      have q := (List.getElem?_eq_some_iff.mp h1).1
      refine ⟨⟨d, by rw [List.getElem?_append_left q]; exact h1, ?_⟩, by omega⟩
      obtain ⟨f, k⟩ := d
      cases f with
      | none => exact h2
      | some f =>
        rw [load_w] at h2 ⊢
        have e : needs (U ++ (some h, n) :: V) (i + 1) = needs U (i + 1) := by
          rw [needs_sumD, needs_sumD, List.take_append_of_le_length (by omega)]
        rw [e]
        exact h2
  have hm0 : ∀ m, m0 ≤ m ↔ ∀ i ∈ heavy c (h + a) U, i < m := fun m => by
    have hasc : sm.Pairwise (· < ·) := by
      rw [e4, e3]
      exact heavy_asc.filter _
    have hls := @last_spec sm m hasc
    rw [e5]
    exact hls.trans ⟨fun z i hi => z i ((hsm i).mpr hi), fun z i hi => z i ((hsm i).mp hi)⟩
  have hok : ∀ m, m ≤ U.length → okAt c h ds w m = (decide (m0 ≤ m) && decide (ownSum (U ++ (some h, n) :: V) U.length (h + a - h) m ≤ c)) := fun m hm => by
    apply bool_iff
    rw [okAt_def (hB m hm), okL_app, Bool.and_eq_true, decide_eq_true_eq, decide_eq_true_eq, hm0, own_eq hm]
    rw [show h + needs ds m + a = h + a + needs U m by rw [hnd m hm]; omega, okL_shift, Int.zero_add, okL_from]
    have e2 : okL c (h + a + needs U m) (0 + sumD (U.drop m)) ((some (h + needs ds m), n) :: V) ↔ h + a - h + (sumD (U.drop m) + n) ≤ c := by
      show (h + a + needs U m - (h + needs ds m) + (0 + sumD (U.drop m) + n) ≤ c) ∧ okL _ _ _ V ↔ _
      rw [okL_bare fun b hb => (hV b hb).1, hnd m hm]
      constructor
      · rintro ⟨q, _⟩
        omega
      · intro q
        exact ⟨by omega, fun b hb => (hV b hb).2⟩
    rw [e2]
  have hg := must_gen (c := c) (h := h) (ds := ds) (w := w) (wi := U.length) (m0 := m0) (own := fun m => decide (ownSum (U ++ (some h, n) :: V) U.length (h + a - h) m ≤ c)) hl hlow hok (fun m h1 h2 h3 => by
    have q := hbig m h1 h2 h3
    rw [hok _ (Nat.le_refl _), Bool.and_eq_true, decide_eq_true_eq, decide_eq_true_eq, hm0, own_eq (Nat.le_refl _)]
    refine ⟨fun i hi => ?_, ?_⟩
    · obtain ⟨d, h1, _⟩ := mem_heavy.mp hi
      exact (List.getElem?_eq_some_iff.mp h1).1
    · rw [List.drop_length]
      show h + a - h + (0 + n) ≤ c
      omega)
  refine ⟨hp.trans hg.symm, fun m hm => ?_⟩
  rw [hg] at hm
  split at hm
  · cases hm
  · rename_i q
    cases hm
    omega
theorem bare_le {c h : Int} {ds : List Dd} {b : Dd} (he : easyB c h ds = true) (hb : b ∈ ds) (hw : wrote b = false) : b.2 ≤ c := by
  obtain ⟨i, hi⟩ := List.getElem?_of_mem hb
  have := easyB_iff.mp he i b hi
  obtain ⟨f, n⟩ := b
  cases f with
  | none => exact this
  | some f => cases hw
theorem needs_left {U V : List Dd} {m : Nat} (hm : m ≤ U.length) : needs (U ++ V) m = needs U m := by
  rw [needs_sumD, needs_sumD, List.take_append_of_le_length hm]
theorem ins_bare {B : List Dd} {x : Dd} (hB : ∀ b ∈ B, wrote b = false) : insAt (wm B) x B = x :: B := ins_split (A := []) (B := B) (x := x) (fun a ha => by simp at ha) hB
theorem must_eq {c h : Int} {ds : List Dd} {w : Wi} (hn : NL ds) (he : easyB c h ds = true) (hw : WiOk ds w) : pMust c h ds w = lMust c h ds w ∧ ∀ m, lMust c h ds w = some m → m ≤ wm ds := by
  obtain ⟨U, V, rfl, hU, hV⟩ := nl_split hn
  have hwm := wm_split hU hV
  have hVc : ∀ b ∈ V, b.2 ≤ c := fun b hb => bare_le he (List.mem_append_right _ hb) (hV b hb)
  have hUd : ∀ m, ∀ a ∈ U.drop m, wrote a = true := fun m a ha => hU a (List.mem_of_mem_drop ha)
  cases w with
  | opn a n =>
    have ha : 0 ≤ a := hw.1
    by_cases hc : 0 < a
    · have key := first_case (c := c) (h := h) (a := a) (n := n) (ds := U ++ V) (U := U) (V := V) (w := .opn a n) (by rw [behind_p hc, ins_split hU hV]) (by rw [wisher_p hc, hwm]) (by rw [firstRow_opn, decide_eq_true hc]) (fun b hb => ⟨hV b hb, hVc b hb⟩) (by simp)
        (fun m hm => by
          show behind _ _ (.opn a n) = _
          rw [behind_p hc, List.drop_append_of_le_length hm, ins_split (hUd m) hV]) (fun m hm => needs_left hm)
        (fun m hm _ hok => by
          have e : behind (h + needs (U ++ V) m) ((U ++ V).drop m) (later (.opn a n) m) = (h + needs (U ++ V) m + a, (some (h + needs (U ++ V) m), n) :: V.drop (m - U.length)) := by
            show behind _ _ (.opn a n) = _
            rw [behind_p hc, List.drop_append, List.drop_eq_nil_of_le (by omega), List.nil_append, ins_bare fun b hb => hV b (List.mem_of_mem_drop hb)]
          have z := ((okAt_def e).mp hok).1
          have z' : h + needs (U ++ V) m + a - (h + needs (U ++ V) m) + (0 + n) ≤ c := z
          omega) (fun j _ => rfl)
      exact ⟨key.1, fun m hm => by rw [hwm]; exact key.2 m hm⟩
    · have e0 : a = 0 := by omega
      subst e0
      have hD : behind h (U ++ V) (.opn 0 n) = (h, (U ++ V) ++ [(none, n)]) := by
        rw [behind_0 (by omega), Int.add_zero]
      obtain ⟨hv, e3⟩ : ∃ hv, hv = heavy c h ((U ++ V) ++ [(none, n)]) := ⟨_, rfl⟩
      obtain ⟨sm, e4⟩ : ∃ sm, sm = hv.filter (fun d => decide (d ≠ (U ++ V).length)) := ⟨_, rfl⟩
      obtain ⟨m0, e5⟩ : ∃ m0, m0 = (match sm.getLast? with | some d => d + 1 | none => 0) := ⟨_, rfl⟩
      have hp := pMust_eq c h (U ++ V) (.opn 0 n) hD (wisher_0 (by omega)).symm e3 e4 e5
      rw [if_neg (by rw [firstRow_opn]; simp)] at hp
      have hhv : ∀ i, i ∈ hv ↔ i = (U ++ V).length ∧ c < n := fun i => by
        rw [e3, mem_heavy]
        constructor
        · rintro ⟨d, h1, h2⟩
          by_cases q : i < (U ++ V).length
          · rw [List.getElem?_append_left q] at h1
            have z := easyB_iff.mp he i d h1
            obtain ⟨f, k⟩ := d
            cases f with
            | none =>
              rw [load_b] at h2 z
              omega
            | some f =>
              rw [load_w] at h2 z
              rw [needs_left (U := U ++ V) (by omega)] at h2
              omega
          · rw [List.getElem?_append_right (by omega)] at h1
            have hlt := (List.getElem?_eq_some_iff.mp h1).1
            have e : i = (U ++ V).length := by
              simp only [List.length_cons, List.length_nil] at hlt
              omega
            subst e
            rw [Nat.sub_self] at h1
            have ed : d = (none, n) := (Option.some.inj h1).symm
            subst ed
            exact ⟨rfl, h2⟩
        · rintro ⟨rfl, h2⟩
          exact ⟨(none, n), by rw [List.getElem?_append_right (Nat.le_refl _), Nat.sub_self] <;> rfl, h2⟩
      have hsm : sm = [] := by
        rw [e4, List.filter_eq_nil_iff]
        intro i hi z
        exact (of_decide_eq_true z) ((hhv i).mp hi).1
      have hm0 : m0 = 0 := by rw [e5, hsm] <;> rfl
      have hokAt : ∀ m, okAt c h (U ++ V) (.opn 0 n) m = true → n ≤ c := fun m hok => by
        have e : behind (h + needs (U ++ V) m) ((U ++ V).drop m) (later (.opn 0 n) m) = (h + needs (U ++ V) m + 0, (U ++ V).drop m ++ [(none, n)]) := by
          show behind _ _ (.opn 0 n) = _
          rw [behind_0 (by omega)]
        have z := (okL_app.mp ((okAt_def e).mp hok)).2
        exact z.1
      by_cases q : c < n
      · have hin : (U ++ V).length ∈ hv := (hhv _).mpr ⟨rfl, q⟩
        rw [if_pos hin] at hp
        have hl : lMust c h (U ++ V) (.opn 0 n) = none := lm_none fun j _ _ => .inr (by
          cases z : okAt c h (U ++ V) (.opn 0 n) j with
          | false => rfl
          | true =>
            have := hokAt j z
            omega)
        rw [hp, hl]
        exact ⟨rfl, fun m hm => nomatch hm⟩
      · have hnin : (U ++ V).length ∉ hv := fun z => q ((hhv _).mp z).2
        rw [if_neg hnin, hm0, if_neg (by omega)] at hp
        have hl : lMust c h (U ++ V) (.opn 0 n) = some 0 := lm_some (Nat.le_refl _) (by omega) (fun j _ z => by omega) rfl (by
          have e : behind (h + needs (U ++ V) 0) ((U ++ V).drop 0) (later (.opn 0 n) 0) = (h, (U ++ V) ++ [(none, n)]) := by
            show behind (h + 0) (U ++ V) (.opn 0 n) = _
            rw [Int.add_zero]
            exact hD
          rw [okAt_def e, okL_app]
          exact ⟨easy_okL.mp he, by show n ≤ c; omega, trivial⟩)
        rw [hp, hl]
        exact ⟨rfl, fun m hm => by cases hm; exact Nat.zero_le _⟩
  | row d a n =>
    obtain ⟨hdl, ha1, _, hn0, _⟩ := hw
    have hdl' : d < U.length + V.length := by simpa using hdl
    cases hwd : wrote (at_ (U ++ V) d) with
    | false =>
      have hdU : U.length ≤ d := by
        by_cases q : U.length ≤ d
        · exact q
        · have hm : at_ (U ++ V) d ∈ U := by
            have h0 : (U ++ V)[d]? = some (at_ (U ++ V) d) := getD_lt hdl
            rw [List.getElem?_append_left (by omega)] at h0
            exact List.mem_of_getElem? h0
          rw [hU _ hm] at hwd
          cases hwd
      obtain ⟨V1, hV1⟩ : ∃ V1, V1 = V.eraseIdx (d - U.length) := ⟨_, rfl⟩
      have hV1b : ∀ b ∈ V1, wrote b = false ∧ b.2 ≤ c := fun b hb => by
        rw [hV1] at hb
        have := List.mem_of_mem_eraseIdx hb
        exact ⟨hV b this, hVc b this⟩
      have herase : ∀ m, m ≤ U.length → ((U ++ V).drop m).eraseIdx (d - m) = U.drop m ++ V1 := fun m hm => by
        rw [List.drop_append_of_le_length hm, List.eraseIdx_append_of_length_le (by rw [List.length_drop]; omega), List.length_drop, show d - m - (U.length - m) = d - U.length by omega, hV1]
      have hat : ∀ m, m ≤ d → at_ ((U ++ V).drop m) (d - m) = at_ (U ++ V) d := fun m hm => by
        unfold at_
        rw [List.getD_eq_getElem?_getD, List.getD_eq_getElem?_getD, List.getElem?_drop, show m + (d - m) = d by omega]
      have key := first_case (c := c) (h := h) (a := a) (n := n) (ds := U ++ V) (U := U) (V := V1) (w := .row d a n) (by
          rw [behind_b hwd]
          have e := herase 0 (Nat.zero_le _)
          rw [List.drop_zero, Nat.sub_zero, List.drop_zero] at e
          rw [e, ins_split hU fun b hb => (hV1b b hb).1]) (by rw [wisher_b hwd, hwm]) (by rw [firstRow_row hdl, hwd] <;> rfl) hV1b (by simp)
        (fun m hm => by
          show behind _ _ (.row (d - m) a n) = _
          rw [behind_b (by rw [hat m (by omega)]; exact hwd), herase m hm, ins_split (hUd m) fun b hb => (hV1b b hb).1]) (fun m hm => needs_left hm)
        (fun m hm hlow hok => by
          have hmd : m ≤ d := by
            have := of_decide_eq_false hlow
            omega
          obtain ⟨B, hB⟩ : ∃ B, B = ((U ++ V).drop m).eraseIdx (d - m) := ⟨_, rfl⟩
          have hBb : ∀ b ∈ B, wrote b = false := fun b hb => by
            rw [hB] at hb
            have := List.mem_of_mem_eraseIdx hb
            rw [List.drop_append, List.drop_eq_nil_of_le (by omega), List.nil_append] at this
            exact hV b (List.mem_of_mem_drop this)
          have e : behind (h + needs (U ++ V) m) ((U ++ V).drop m) (later (.row d a n) m) = (h + needs (U ++ V) m + a, (some (h + needs (U ++ V) m), n) :: B) := by
            show behind _ _ (.row (d - m) a n) = _
            rw [behind_b (by rw [hat m hmd]; exact hwd), ← hB, ins_bare hBb]
          have z := ((okAt_def e).mp hok).1
          have z' : h + needs (U ++ V) m + a - (h + needs (U ++ V) m) + (0 + n) ≤ c := z
          omega) (fun j hj => by
            show decide (d < j) = false
            exact decide_eq_false (by omega))
      exact ⟨key.1, fun m hm => by rw [hwm]; exact key.2 m hm⟩
    | true =>
      obtain ⟨D, hDd⟩ : ∃ D, D = (U ++ V).set d ((at_ (U ++ V) d).1, n) := ⟨_, rfl⟩
      have hD : behind h (U ++ V) (.row d a n) = (h + a, D) := by rw [behind_w hdl hwd, hDd]
      obtain ⟨hv, e3⟩ : ∃ hv, hv = heavy c (h + a) D := ⟨_, rfl⟩
      obtain ⟨sm, e4⟩ : ∃ sm, sm = hv.filter (fun i => decide (i ≠ d)) := ⟨_, rfl⟩
      obtain ⟨m0, e5⟩ : ∃ m0, m0 = (match sm.getLast? with | some d => d + 1 | none => 0) := ⟨_, rfl⟩
      have hp := pMust_eq c h (U ++ V) (.row d a n) hD (wisher_w hdl hwd).symm e3 e4 e5
      rw [if_neg (by rw [firstRow_row hdl, hwd]; simp)] at hp
      have hasc : sm.Pairwise (· < ·) := by
        rw [e4, e3]
        exact heavy_asc.filter _
      have hm0 : ∀ m, m0 ≤ m ↔ ∀ i ∈ sm, i < m := fun m => by
        have hls := @last_spec sm m hasc
        rw [e5]
        exact hls
      have hneeds : ∀ m, m ≤ d → needs (U ++ V) m = needs D m := fun m hm => by
        rw [needs_sumD, needs_sumD, hDd, List.take_set_of_le hm]
      have hB : ∀ m, m ≤ d → behind (h + needs (U ++ V) m) ((U ++ V).drop m) (later (.row d a n) m) = (h + a + needs D m, D.drop m) := fun m hm => by
        have hat : at_ ((U ++ V).drop m) (d - m) = at_ (U ++ V) d := by
          unfold at_
          rw [List.getD_eq_getElem?_getD, List.getD_eq_getElem?_getD, List.getElem?_drop, show m + (d - m) = d by omega]
        show behind _ _ (.row (d - m) a n) = _
        rw [behind_w (by rw [List.length_drop]; omega) (by rw [hat]; exact hwd), hat, hneeds m hm, hDd, List.drop_set, if_neg (by omega)]
        congr 1
        omega
      have hok : ∀ m, m ≤ d → okAt c h (U ++ V) (.row d a n) m = (decide (m0 ≤ m) && decide (d ∉ hv)) := fun m hm => by
        apply bool_iff
        rw [okAt_def (hB m hm), okL_shift, Int.zero_add, okL_from, ← e3, Bool.and_eq_true, decide_eq_true_eq, decide_eq_true_eq, hm0]
        constructor
        · intro z
          refine ⟨fun i hi => ?_, fun hd => ?_⟩
          · rw [e4] at hi
            exact z i (List.mem_filter.mp hi).1
          · have := z d hd
            omega
        · rintro ⟨z1, z2⟩ i hi
          by_cases q : i = d
          · subst q
            exact absurd hi z2
          · exact z1 i (by rw [e4]; exact List.mem_filter.mpr ⟨hi, decide_eq_true q⟩)
      have hlow : ∀ j, j ≤ d → lowB (.row d a n) j = false := fun j hj => by
        show decide (d < j) = false
        exact decide_eq_false (by omega)
      have hg := must_gen (c := c) (h := h) (ds := U ++ V) (w := .row d a n) (wi := d) (m0 := m0) (own := fun _ => decide (d ∉ hv)) (by omega) hlow hok (fun m h1 h2 _ => by
        have := of_decide_eq_false h2
        omega)
      have hsw : ∀ i ∈ sm, i < wm (U ++ V) := fun i hi => by
        rw [e4, List.mem_filter, decide_eq_true_eq] at hi
        rw [e3, mem_heavy] at hi
        obtain ⟨⟨x, h1, h2⟩, h3⟩ := hi
        rw [hDd, List.getElem?_set_ne (Ne.symm h3)] at h1
        rw [hwm]
        by_cases q : i < U.length
        · exact q
        · rw [List.getElem?_append_right (by omega)] at h1
          have hm := List.mem_of_getElem? h1
          obtain ⟨f, k⟩ := x
          have z1 := hV _ hm
          have z2 := hVc _ hm
          cases f with
          | some f => cases z1
          | none =>
            rw [load_b] at h2
            have z2' : k ≤ c := z2
            omega
      have hm0w : m0 ≤ wm (U ++ V) := (hm0 _).mpr hsw
      by_cases q : d ∈ hv
      · rw [if_pos q] at hp
        have hnone : lMust c h (U ++ V) (.row d a n) = none := lm_none fun j _ _ => by
          by_cases z : j ≤ d
          · refine .inr ?_
            rw [hok j z, show decide (d ∉ hv) = false from decide_eq_false (fun y => y q), Bool.and_false]
          · refine .inl ?_
            show decide (d < j) = true
            exact decide_eq_true (by omega)
        rw [hp, hnone]
        exact ⟨rfl, fun m hm => nomatch hm⟩
      · rw [if_neg q] at hp
        have hr : firstFrom (fun m => decide (d < m) || decide (d ∉ hv)) m0 (d + 1 - m0) = m0 := by
          have hpt : ∀ m, (decide (d < m) || decide (d ∉ hv)) = true := fun m => by rw [decide_eq_true q, Bool.or_true]
          cases d + 1 - m0 with
          | zero => rfl
          | succ k =>
            unfold firstFrom
            rw [if_pos (hpt m0)]
        rw [hr] at hg
        refine ⟨hp.trans hg.symm, fun m hm => ?_⟩
        rw [hg] at hm
        split at hm
        · cases hm
        · cases hm
          exact hm0w
end RC

end
section
set_option Elab.async false
set_option linter.all false
set_option maxRecDepth 100000
set_option maxHeartbeats 1000000
/-! RC: one carried after the other fits; what is let by when many have left. -/
namespace RC
open PySem L2
theorem wrote_lt {ds : List Dd} {i : Nat} (hn : NL ds) (hi : i < wm ds) : wrote (at_ ds i) = true := by
  obtain ⟨U, V, rfl, hU, hV⟩ := nl_split hn
  rw [wm_split hU hV] at hi
  have h0 : (U ++ V)[i]? = some (at_ (U ++ V) i) := getD_lt (by rw [List.length_append]; omega)
  rw [List.getElem?_append_left hi] at h0
  exact hU _ (List.mem_of_getElem? h0)
theorem wm_le {ds : List Dd} : wm ds ≤ ds.length := List.length_filter_le _ _
/-- the firsts as they stand when i of the eldest have left -/
def fF (h : Int) (ds : List Dd) (lot : List Nat) (i : Nat) : List (Option Int) := (List.range ds.length).map fun j => if j < i then (if j ∈ lot ∧ 0 < (at_ ds j).2 then some (h + needs ds j) else none) else (at_ ds j).1
section
variable {h c : Int} {ds : List Dd} {lot : List Nat} {i : Nat}
theorem fF_len : (fF h ds lot i).length = ds.length := by
  unfold fF
  rw [List.length_map, List.length_range]
theorem fF_get {j : Nat} (hj : j < ds.length) : (fF h ds lot i)[j]? = some (if j < i then (if j ∈ lot ∧ 0 < (at_ ds j).2 then some (h + needs ds j) else none) else (at_ ds j).1) := by
  unfold fF
  rw [List.getElem?_map, List.getElem?_range hj] <;> rfl
theorem fF_0 : fF h ds lot 0 = ds.map (·.1) := by
  apply List.ext_getElem?
  intro j
  by_cases hj : j < ds.length
  · rw [fF_get hj, if_neg (Nat.not_lt_zero _), List.getElem?_map, getD_lt (d := (none, 0)) hj] <;> rfl
  · rw [List.getElem?_eq_none (by rw [fF_len]; omega), List.getElem?_eq_none (by rw [List.length_map]; omega)]
theorem fF_set (hi : i < ds.length) : (fF h ds lot i).set i (if i ∈ lot ∧ 0 < (at_ ds i).2 then some (h + needs ds i) else none) = fF h ds lot (i + 1) := by
  apply List.ext_getElem?
  intro j
  by_cases hj : j < ds.length
  · by_cases e : i = j
    · subst e
      rw [List.getElem?_set_self (by rw [fF_len]; exact hi), fF_get hi, if_pos (show i < i + 1 by omega)]
    · rw [List.getElem?_set_ne e, fF_get hj, fF_get hj]
      by_cases h2 : j < i
      · rw [if_pos h2, if_pos (show j < i + 1 by omega)]
      · rw [if_neg h2, if_neg (show ¬ j < i + 1 by omega)]
  · rw [List.getElem?_eq_none (by rw [List.length_set, fF_len]; omega), List.getElem?_eq_none (by rw [fF_len]; omega)]
theorem fits_min (hg : Good c h ds) (he : easyB c h ds = true) (hi : i < wm ds) : ∃ f n, ds[i]? = some (some f, n) ∧ some f ∈ fF h ds lot i ∧ (∀ y, some y ∈ fF h ds lot i → f ≤ y) ∧ h + needs ds i + n - f ≤ c := by
  obtain ⟨hnl, hnd, hasc, hfst, _⟩ := hg
  have hw := wrote_lt hnl hi
  have hil : i < ds.length := Nat.lt_of_lt_of_le hi wm_le
  have h0 : ds[i]? = some (at_ ds i) := getD_lt hil
  obtain ⟨f, n, hfn⟩ : ∃ f n, at_ ds i = (f, n) := ⟨_, _, rfl⟩
  rw [hfn] at h0 hw
  cases f with
  | none => cases hw
  | some f =>
    have hf := hfst f n (List.mem_of_getElem? h0)
    refine ⟨f, n, h0, ?_, fun y hy => ?_, ?_⟩
    · refine List.mem_of_getElem? (i := i) ?_
      rw [fF_get hil, if_neg (by omega), hfn]
    · obtain ⟨j, hj⟩ := List.getElem?_of_mem hy
      have hjl : j < ds.length := by
        have := (List.getElem?_eq_some_iff.mp hj).1
        rwa [fF_len] at this
      rw [fF_get hjl] at hj
      by_cases q : j < i
      · rw [if_pos q] at hj
        by_cases z : j ∈ lot ∧ 0 < (at_ ds j).2
        · rw [if_pos z] at hj
          have e : h + needs ds j = y := Option.some.inj (Option.some.inj hj)
          have := needs_nonneg (fun d hd => (hnd d hd).1) j (ds := ds)
          omega
        · rw [if_neg z] at hj
          cases Option.some.inj hj
      · rw [if_neg q] at hj
        have e : (at_ ds j).1 = some y := Option.some.inj hj
        have hj0 : ds[j]? = some (at_ ds j) := getD_lt hjl
        obtain ⟨g, k, hgk⟩ : ∃ g k, at_ ds j = (g, k) := ⟨_, _, rfl⟩
        rw [hgk] at hj0 e
        have e' : g = some y := e
        subst e'
        by_cases z : i = j
        · subst z
          rw [h0] at hj0
          cases hj0
          exact Int.le_refl _
        · have := hasc i j f y n k (by omega) h0 hj0
          omega
    · have z := easyB_iff.mp he i _ h0
      rw [load_w, needs_succ h0] at z
      have z' : h - f + (needs ds i + n) ≤ c := z
      omega
end
/-! ### what is let by -/
/-- the sum of the lot's needs up to d, and of all behind it -/
theorem lot_cut {ds : List Dd} : ∀ {lot : List Nat} {d : Nat}, lot.Pairwise (· < ·) → d ∈ lot → ∃ l1 l2, lot = l1 ++ d :: l2 ∧ (∀ i ∈ l1, i < d) ∧ (∀ i ∈ l2, d < i)
  | [], d, _, h => by simp at h
  | a :: lot, d, hp, hd => by
    have hp' := List.pairwise_cons.mp hp
    rcases List.mem_cons.mp hd with z | z
    · subst z
      exact ⟨[], lot, rfl, fun i hi => by simp at hi, fun i hi => hp'.1 i hi⟩
    · obtain ⟨l1, l2, e, h1, h2⟩ := lot_cut (ds := ds) hp'.2 z
      refine ⟨a :: l1, l2, by rw [e] <;> rfl, fun i hi => ?_, h2⟩
      rcases List.mem_cons.mp hi with y | y
      · rw [y]
        exact hp'.1 d z
      · exact h1 i y
abbrev nd (ds : List Dd) (i : Nat) : Int := (at_ ds i).2
def sumN (ds : List Dd) (l : List Nat) : Int := (l.map (nd ds)).sum
theorem sumN_app {ds : List Dd} {a b : List Nat} : sumN ds (a ++ b) = sumN ds a + sumN ds b := by
  unfold sumN
  rw [List.map_append, List.sum_append]
theorem sumN_cons {ds : List Dd} {a : Nat} {b : List Nat} : sumN ds (a :: b) = nd ds a + sumN ds b := by
  unfold sumN
  rw [List.map_cons, List.sum_cons]
theorem needs_range {ds : List Dd} {m : Nat} (hm : m ≤ ds.length) : needs ds m = sumN ds (List.range m) := by
  rw [needs_sumD, ← pick_range hm]
  unfold sumD sumN pick
  rw [List.map_map] <;> rfl
theorem needs_rest {ds : List Dd} {m d : Nat} (hm : m ≤ ds.length) (hd : d < m) : needs ds m - needs ds d = nd ds d + sumN ds (List.range' (d + 1) (m - (d + 1))) := by
  have e : List.range m = List.range d ++ d :: List.range' (d + 1) (m - (d + 1)) := by
    rw [List.range_eq_range', List.range_eq_range', show d :: List.range' (d + 1) (m - (d + 1)) = List.range' d (m - d) by
      rw [show m - d = (m - (d + 1)) + 1 by omega, List.range'_succ]]
    have := @List.range'_append 0 d (m - d) 1
    rw [show d + (m - d) = m by omega] at this
    simpa using this.symm
  rw [needs_range hm, needs_range (by omega : d ≤ ds.length), e, sumN_app, sumN_cons]
  omega
/-- those between: those of the lot and the others -/
theorem between {ds : List Dd} {lot : List Nat} {m d : Nat} {l1 l2 : List Nat} (hl : Lot lot m) (e : lot = l1 ++ d :: l2) (h1 : ∀ i ∈ l1, i < d) (h2 : ∀ i ∈ l2, d < i) : sumN ds (List.range' (d + 1) (m - (d + 1))) = sumN ds l2 + sumN ds ((List.range' (d + 1) (m - (d + 1))).filter fun i => decide (i ∉ lot)) := by
  have e2 : (List.range' (d + 1) (m - (d + 1))).filter (fun i => decide (i ∈ lot)) = l2 := by
    have hp : l2.Pairwise (· < ·) := by
      have := hl.1
      rw [e] at this
      exact (List.pairwise_cons.mp (List.pairwise_append.mp this).2.1).2
    refine asc_ext (asc_range'.filter _) hp fun i => ?_
    rw [List.mem_filter, mem_rg, decide_eq_true_eq]
    constructor
    · rintro ⟨⟨q1, q2⟩, q3⟩
      rw [e] at q3
      rcases List.mem_append.mp q3 with z | z
      · have := h1 i z
        omega
      · rcases List.mem_cons.mp z with y | y
        · omega
        · exact y
    · intro z
      have q1 := h2 i z
      have q3 : i ∈ lot := by
        rw [e]
        exact List.mem_append_right _ (List.mem_cons_of_mem _ z)
      have q2 := hl.2 i q3
      exact ⟨⟨by omega, by omega⟩, q3⟩
  have key : ∀ l : List Nat, sumN ds l = sumN ds (l.filter fun i => decide (i ∈ lot)) + sumN ds (l.filter fun i => decide (i ∉ lot)) := fun l => by
    induction l with
    | nil => rfl
    | cons a l ih =>
      rw [List.filter_cons, List.filter_cons, sumN_cons, ih]
      by_cases q : a ∈ lot
      · rw [if_pos (decide_eq_true q), if_neg (by simpa using q), sumN_cons]
        omega
      · rw [if_neg (by simpa using q), if_pos (decide_eq_true q), sumN_cons]
        omega
  rw [key (List.range' (d + 1) (m - (d + 1))), e2]
/-- the carried ones' rows, in the lot's order -/
def agL (h : Int) (ds : List Dd) (l : List Nat) : List Dd := (l.filter fun i => decide (0 < nd ds i)).map fun j => (some (h + needs ds j), nd ds j)
theorem agL_sum {h : Int} {ds : List Dd} (hn : ∀ d ∈ ds, 0 ≤ d.2) : ∀ {l : List Nat}, sumD (agL h ds l) = sumN ds l
  | [] => rfl
  | a :: l => by
    have ih := @agL_sum h ds hn l
    have h0 : 0 ≤ nd ds a := by
      unfold nd at_
      rw [List.getD_eq_getElem?_getD]
      cases q : ds[a]? with
      | none => exact Int.le_refl _
      | some d => exact hn d (List.mem_of_getElem? q)
    unfold agL at ih ⊢
    rw [List.filter_cons, sumN_cons]
    by_cases q : 0 < nd ds a
    · rw [if_pos (decide_eq_true q), List.map_cons, sumD_cons, ih]
    · rw [if_neg (by simpa using q), ih]
      omega
theorem agL_ok {c hB h : Int} {ds : List Dd} (hn : ∀ d ∈ ds, 0 ≤ d.2) : ∀ {l : List Nat} {s : Int}, okL c hB s (agL h ds l) ↔ ∀ l1 d l2, l = l1 ++ d :: l2 → 0 < nd ds d → hB - (h + needs ds d) + (s + sumN ds l1 + nd ds d) ≤ c
  | [], s => ⟨fun _ l1 d l2 e => by simp at e, fun _ => trivial⟩
  | a :: l, s => by
    have h0 : 0 ≤ nd ds a := by
      unfold nd at_
      rw [List.getD_eq_getElem?_getD]
      cases q : ds[a]? with
      | none => exact Int.le_refl _
      | some d => exact hn d (List.mem_of_getElem? q)
    have step : (∀ l1 d l2, a :: l = l1 ++ d :: l2 → 0 < nd ds d → hB - (h + needs ds d) + (s + sumN ds l1 + nd ds d) ≤ c) ↔ (0 < nd ds a → hB - (h + needs ds a) + (s + nd ds a) ≤ c) ∧ ∀ l1 d l2, l = l1 ++ d :: l2 → 0 < nd ds d → hB - (h + needs ds d) + (s + nd ds a + sumN ds l1 + nd ds d) ≤ c := by
      constructor
      · intro z
        refine ⟨fun q => ?_, fun l1 d l2 e q => ?_⟩
        · have := z [] a l rfl q
          have e : sumN ds [] = 0 := rfl
          omega
        · have := z (a :: l1) d l2 (by rw [e] <;> rfl) q
          rw [sumN_cons] at this
          omega
      · rintro ⟨z1, z2⟩ l1 d l2 e q
        cases l1 with
        | nil =>
          have e1 : a = d ∧ l = l2 := by simpa using e
          obtain ⟨rfl, rfl⟩ := e1
          have := z1 q
          have e : sumN ds [] = 0 := rfl
          omega
        | cons b l1 =>
          have e1 : a = b ∧ l = l1 ++ d :: l2 := by simpa using e
          obtain ⟨rfl, e2⟩ := e1
          have := z2 l1 d l2 e2 q
          rw [sumN_cons]
          omega
    rw [step]
    unfold agL
    rw [List.filter_cons]
    by_cases q : 0 < nd ds a
    · rw [if_pos (decide_eq_true q), List.map_cons]
      have ih := @agL_ok c hB h ds hn l (s + nd ds a)
      unfold agL at ih
      show (hB - (h + needs ds a) + (s + nd ds a) ≤ c) ∧ okL c hB (s + nd ds a) _ ↔ _
      rw [ih]
      exact ⟨fun ⟨z1, z2⟩ => ⟨fun _ => z1, z2⟩, fun ⟨z1, z2⟩ => ⟨z1 q, z2⟩⟩
    · rw [if_neg (by simpa using q)]
      have ih := @agL_ok c hB h ds hn l s
      unfold agL at ih
      rw [ih]
      have e0 : nd ds a = 0 := by omega
      rw [e0]
      exact ⟨fun z => ⟨fun y => absurd y (by omega), fun l1 d l2 e q => by have := z l1 d l2 e q; omega⟩, fun ⟨_, z2⟩ l1 d l2 e q => by have := z2 l1 d l2 e q; omega⟩
end RC

end
section
set_option Elab.async false
set_option linter.all false
set_option maxRecDepth 100000
set_option maxHeartbeats 1000000
/-! RC: the sums tell whether a wish is let by. -/
namespace RC
open PySem L2
theorem agL_eq {h : Int} {ds : List Dd} {m : Nat} {lot : List Nat} (hm : m ≤ ds.length) (hl : Lot lot m) : againF h (ds.take m) 0 lot = agL h ds lot := by
  rw [again_pick hm hl]
  unfold pick agL
  apply List.map_congr_left
  intro j hj
  have hj' := List.mem_filter.mp hj
  have hjm := hl.2 j hj'.1
  have hp := of_decide_eq_true hj'.2
  show at_ (setF h ds m) j = _
  rw [at_setF (by omega), if_pos hjm]
  unfold wF
  rw [if_pos hp]
theorem idx_asc {l : List Nat} {k d : Nat} (hl : l.Pairwise (· < ·)) (h : l[k]? = some d) : l.idxOf d = k := by
  have hd := List.mem_of_getElem? h
  have h1 := List.idxOf_lt_length_of_mem hd
  obtain ⟨h2, h3⟩ := List.getElem?_eq_some_iff.mp h
  have h4 : l[l.idxOf d] = d := List.getElem_idxOf h1
  rw [List.pairwise_iff_getElem] at hl
  by_cases a : l.idxOf d < k
  · have := hl _ _ h1 h2 a
    omega
  · by_cases b : k < l.idxOf d
    · have := hl _ _ h2 h1 b
      omega
    · omega
theorem stay_rg {U V : List Dd} {m : Nat} (hU : ∀ a ∈ U, wrote a = true) (hV : ∀ b ∈ V, wrote b = false) (hm : m ≤ U.length) : (List.range' m ((U ++ V).length - m)).filter (fun i => wrote ((U ++ V).getD i (none, 0))) = List.range' m (U.length - m) :=
  asc_ext (asc_range'.filter _) asc_range' fun i => by
    rw [List.mem_filter, mem_rg, mem_rg]
    constructor
    · rintro ⟨⟨h1, h2⟩, h3⟩
      refine ⟨h1, ?_⟩
      by_cases q : i < U.length
      · omega
      · have h0 : (U ++ V)[i]? = some ((U ++ V).getD i (none, 0)) := getD_lt (by omega)
        rw [List.getElem?_append_right (by omega)] at h0
        rw [hV _ (List.mem_of_getElem? h0)] at h3
        cases h3
    · rintro ⟨h1, h2⟩
      have hl : (U ++ V).length = U.length + V.length := List.length_append
      refine ⟨⟨h1, by omega⟩, ?_⟩
      have h0 : (U ++ V)[i]? = some ((U ++ V).getD i (none, 0)) := getD_lt (by omega)
      rw [List.getElem?_append_left (by omega)] at h0
      exact hU _ (List.mem_of_getElem? h0)
theorem bare_rg {U V : List Dd} {m : Nat} (hU : ∀ a ∈ U, wrote a = true) (hV : ∀ b ∈ V, wrote b = false) (hm : m ≤ U.length) : (List.range' m ((U ++ V).length - m)).filter (fun i => !wrote ((U ++ V).getD i (none, 0))) = List.range' U.length V.length :=
  asc_ext (asc_range'.filter _) asc_range' fun i => by
    have hl : (U ++ V).length = U.length + V.length := List.length_append
    rw [List.mem_filter, mem_rg, mem_rg]
    constructor
    · rintro ⟨⟨h1, h2⟩, h3⟩
      refine ⟨?_, by omega⟩
      by_cases q : i < U.length
      · have h0 : (U ++ V)[i]? = some ((U ++ V).getD i (none, 0)) := getD_lt (by omega)
        rw [List.getElem?_append_left q] at h0
        rw [hU _ (List.mem_of_getElem? h0)] at h3
        cases h3
      · omega
    · rintro ⟨h1, h2⟩
      refine ⟨⟨by omega, by omega⟩, ?_⟩
      have h0 : (U ++ V)[i]? = some ((U ++ V).getD i (none, 0)) := getD_lt (by omega)
      rw [List.getElem?_append_right (by omega)] at h0
      rw [hV _ (List.mem_of_getElem? h0)] <;> rfl
theorem sumN_stay {ds : List Dd} {m : Nat} : sumD ((ds.drop m).filter wrote) = sumN ds ((List.range' m (ds.length - m)).filter fun i => wrote (ds.getD i (none, 0))) := by
  rw [drop_fil]
  unfold sumD sumN pick
  rw [List.map_map] <;> rfl
theorem ag_sum {c h : Int} {ds : List Dd} {w : Wi} {m : Nat} {lot : List Nat} {s : Int} (hm : m ≤ ds.length) (hl : Lot lot m) (hn : ∀ d ∈ ds, 0 ≤ d.2) (hw : ∀ d a b, w = .row d a b → m ≤ d)
    (hs : s = (((List.range' m (ds.length - m)).filter fun i => wrote (ds.getD i (none, 0))).map (needBehind ds w)).sum) :
    okL c (h + needs ds m + cellsOf w) s (agL h ds lot) ↔ ∀ d ∈ lot, 0 < nd ds d → sumF ds w m lot d ≤ c := by
  rw [agL_ok hn]
  have hlow : (lot.map (needBehind ds w)).sum = sumN ds lot := by
    unfold sumN
    congr 1
    exact List.map_congr_left fun i hi => needB_low hw (hl.2 i hi)
  have key : ∀ l1 d l2, lot = l1 ++ d :: l2 → h + needs ds m + cellsOf w - (h + needs ds d) + (s + sumN ds l1 + nd ds d) = sumF ds w m lot d := fun l1 d l2 e => by
    have hd : d ∈ lot := by
      rw [e]
      exact List.mem_append_right _ List.mem_cons_self
    have hp := hl.1
    rw [e] at hp
    have hp2 := List.pairwise_append.mp hp
    have h1 : ∀ i ∈ l1, i < d := fun i hi => hp2.2.2 i hi d List.mem_cons_self
    have h2 : ∀ i ∈ l2, d < i := (List.pairwise_cons.mp hp2.2.1).1
    have hr := needs_rest hm (hl.2 d hd)
    have hb := between (ds := ds) hl e h1 h2
    have hlot : sumN ds lot = sumN ds l1 + (nd ds d + sumN ds l2) := by
      rw [e, sumN_app, sumN_cons]
    have hF : sumF ds w m lot d = cellsOf w + (s + sumN ds lot) + nd ds d + sumN ds ((List.range' (d + 1) (m - (d + 1))).filter fun i => decide (i ∉ lot)) := by
      unfold sumF
      rw [List.map_append, List.sum_append, ← hs, hlow] <;> rfl
    rw [hF]
    omega
  constructor
  · intro z d hd hp
    obtain ⟨l1, l2, e, _, _⟩ := lot_cut (ds := ds) hl.1 hd
    rw [← key l1 d l2 e]
    exact z l1 d l2 e hp
  · intro z l1 d l2 e hp
    rw [key l1 d l2 e]
    exact z d (by rw [e]; exact List.mem_append_right _ List.mem_cons_self) hp
theorem own_sum_eq {ds : List Dd} {w : Wi} {m : Nat} {lot : List Nat} (hm : m ≤ ds.length) (hl : Lot lot m) (hf : firstRow ds w = true) : ownF ds w m lot = cellsOf w + needOf w + (sumN ds lot + sumN ds ((List.range' m (ds.length - m)).filter fun i => wrote (ds.getD i (none, 0)))) := by
  unfold ownF
  rw [if_pos hf, sum_fil]
  have e : ((List.range ds.length).map fun i => if (decide (i ∈ lot) || decide (m ≤ i) && wrote (ds.getD i (none, 0))) then (ds.getD i (none, 0)).2 else 0).sum = (((List.range ds.length).map fun i => if decide (i ∈ lot) then nd ds i else 0).sum + ((List.range ds.length).map fun i => if decide (m ≤ i) && wrote (at_ ds i) then nd ds i else 0).sum) := by
    rw [← sum_two]
    congr 1
    apply List.map_congr_left
    intro i _
    unfold nd at_
    by_cases q : i ∈ lot
    · have := hl.2 i q
      rw [decide_eq_true q, decide_eq_false (by omega : ¬ m ≤ i)]
      simp
    · rw [decide_eq_false q]
      simp
  rw [e, ← sum_fil, ← sum_fil, lot_range2 hl hm, ← stay_eq] <;> rfl
theorem can_core {c h a : Int} {ds : List Dd} {w : Wi} {m : Nat} {lot : List Nat} {Uw R : List Dd} (hm : m ≤ ds.length) (hl : Lot lot m) (hn : ∀ d ∈ ds, 0 ≤ d.2) (hw : ∀ d a b, w = .row d a b → m ≤ d) (ha : cellsOf w = a)
    (hB : behind (leftF h ds m lot).1 (leftF h ds m lot).2 (whenLeft ds m lot w) = (h + needs ds m + a, Uw ++ (agL h ds lot ++ R))) (hU : okL c (h + needs ds m + a) 0 Uw)
    (hs : sumD Uw = (((List.range' m (ds.length - m)).filter fun i => wrote (ds.getD i (none, 0))).map (needBehind ds w)).sum) (hR : okL c (h + needs ds m + a) (sumD Uw + sumN ds lot) R ↔ ownF ds w m lot ≤ c) :
    canF c h ds w m lot = true ↔ (∀ d ∈ lot, 0 < nd ds d → sumF ds w m lot d ≤ c) ∧ ownF ds w m lot ≤ c := by
  show easyB c (behind (leftF h ds m lot).1 (leftF h ds m lot).2 (whenLeft ds m lot w)).1 (behind (leftF h ds m lot).1 (leftF h ds m lot).2 (whenLeft ds m lot w)).2 = true ↔ _
  rw [hB, easy_okL, okL_app, okL_app, Int.zero_add, agL_sum hn, hR]
  have := ag_sum (c := c) (h := h) (s := sumD Uw) hm hl hn hw hs
  rw [ha] at this
  rw [this]
  exact ⟨fun z => z.2, fun z => ⟨hU, z⟩⟩
theorem bareF_b {ds : List Dd} {lot : List Nat} : ∀ b ∈ bareF ds lot, wrote b = false ∧ b.2 = 0 := fun b hb => by
  unfold bareF at hb
  obtain ⟨_, _, rfl⟩ := List.mem_map.mp hb
  exact ⟨rfl, rfl⟩
theorem agL_w {h : Int} {ds : List Dd} {l : List Nat} : ∀ a ∈ agL h ds l, wrote a = true := fun a ha => by
  unfold agL at ha
  obtain ⟨_, _, rfl⟩ := List.mem_map.mp ha
  rfl
theorem can_eq {c h : Int} {ds : List Dd} {w : Wi} {m : Nat} {lot : List Nat} (hg : Good c h ds) (hw : WiOk ds w) (hok : okAt c h ds w m = true) (hmw : m ≤ wm ds) (hl : Lot lot m) (hwd : ∀ d a b, w = .row d a b → m ≤ d) :
    canF c h ds w m lot = true ↔ (∀ d ∈ lot, 0 < nd ds d → sumF ds w m lot d ≤ c) ∧ ownF ds w m lot ≤ c := by
  obtain ⟨hnl, hnd, _, _, hc1, _⟩ := hg
  have hn : ∀ d ∈ ds, 0 ≤ d.2 := fun d hd => (hnd d hd).1
  have hm : m ≤ ds.length := Nat.le_trans hmw wm_le
  obtain ⟨U, V, rfl, hU, hV⟩ := nl_split hnl
  rw [wm_split hU hV] at hmw
  have hUd : ∀ a ∈ U.drop m, wrote a = true := fun a ha => hU a (List.mem_of_mem_drop ha)
  have hdrop : (U ++ V).drop m = U.drop m ++ V := List.drop_append_of_le_length hmw
  have hf1 : ((U ++ V).drop m).filter wrote = U.drop m := by rw [hdrop, List.filter_append, fil_all hUd, fil_no hV, List.append_nil]
  have hf2 : ((U ++ V).drop m).filter (fun d => !wrote d) = V := by
    rw [hdrop, List.filter_append, List.filter_eq_nil_iff.mpr (fun a ha => by rw [hUd a ha]; simp), List.filter_eq_self.mpr (fun b hb => by rw [hV b hb] <;> rfl), List.nil_append]
  obtain ⟨Bb, hBb⟩ : ∃ Bb, Bb = bareF (U ++ V) lot := ⟨_, rfl⟩
  have hBb0 : ∀ b ∈ Bb, wrote b = false ∧ b.2 = 0 := by
    rw [hBb]
    exact bareF_b
  have hleft : leftF h (U ++ V) m lot = (h + needs (U ++ V) m, (U.drop m ++ agL h (U ++ V) lot) ++ (V ++ Bb)) := by
    show (h + needs (U ++ V) m, ((U ++ V).drop m).filter wrote ++ againF h ((U ++ V).take m) 0 lot ++ ((U ++ V).drop m).filter (fun d => !wrote d) ++ bareF (U ++ V) lot) = _
    rw [hf1, hf2, agL_eq hm hl, hBb, List.append_assoc]
  have hUA : ∀ a ∈ U.drop m ++ agL h (U ++ V) lot, wrote a = true := fun a ha => by
    rcases List.mem_append.mp ha with z | z
    · exact hUd a z
    · exact agL_w a z
  have hVB : ∀ b ∈ V ++ Bb, wrote b = false := fun b hb => by
    rcases List.mem_append.mp hb with z | z
    · exact hV b z
    · exact (hBb0 b z).1
  have hss : sumD (U.drop m) = sumN (U ++ V) ((List.range' m ((U ++ V).length - m)).filter fun i => wrote ((U ++ V).getD i (none, 0))) := by
    rw [← sumN_stay, hf1]
  have hVB0 : ∀ {V' : List Dd}, (∀ b ∈ V', b.2 ≤ c) → ∀ b ∈ V' ++ Bb, b.2 ≤ c := fun hV' b hb => by
    rcases List.mem_append.mp hb with z | z
    · exact hV' b z
    · rw [(hBb0 b z).2]
      omega
  cases w with
  | opn a n =>
    have ha : 0 ≤ a := hw.1
    have hnb : (((List.range' m ((U ++ V).length - m)).filter fun i => wrote ((U ++ V).getD i (none, 0))).map (needBehind (U ++ V) (.opn a n))).sum = sumD (U.drop m) := by
      rw [hss] <;> rfl
    by_cases hc : 0 < a
    · have e : behind (h + needs (U ++ V) m) ((U ++ V).drop m) (later (.opn a n) m) = (h + needs (U ++ V) m + a, U.drop m ++ (some (h + needs (U ++ V) m), n) :: V) := by
        show behind _ _ (.opn a n) = _
        rw [behind_p hc, hdrop, ins_split hUd hV]
      have z := (okAt_def e).mp hok
      rw [okL_app] at z
      have z2 : (h + needs (U ++ V) m + a - (h + needs (U ++ V) m) + (0 + sumD (U.drop m) + n) ≤ c) ∧ okL c (h + needs (U ++ V) m + a) (0 + sumD (U.drop m) + n) V := z.2
      have hVc := (okL_bare hV).mp z2.2
      refine can_core (a := a) (Uw := U.drop m) (R := (some (h + needs (U ++ V) m), n) :: (V ++ Bb)) hm hl hn hwd rfl ?_ z.1 hnb.symm ?_
      · rw [hleft]
        show behind _ _ (.opn a n) = _
        rw [behind_p hc, ins_split hUA hVB]
        show ((h + needs (U ++ V) m + a, (U.drop m ++ agL h (U ++ V) lot) ++ (some (h + needs (U ++ V) m), n) :: (V ++ Bb)) : Int × List Dd) = _
        rw [List.append_assoc]
      · rw [own_sum_eq hm hl (by rw [firstRow_opn, decide_eq_true hc]), ← hss]
        show (h + needs (U ++ V) m + a - (h + needs (U ++ V) m) + (sumD (U.drop m) + sumN (U ++ V) lot + n) ≤ c) ∧ okL _ _ _ (V ++ Bb) ↔ a + n + (sumN (U ++ V) lot + sumD (U.drop m)) ≤ c
        rw [okL_bare hVB]
        exact ⟨fun q => by have := q.1; omega, fun q => ⟨by omega, hVB0 hVc⟩⟩
    · have e0 : a = 0 := by omega
      subst e0
      have e : behind (h + needs (U ++ V) m) ((U ++ V).drop m) (later (.opn 0 n) m) = (h + needs (U ++ V) m + 0, U.drop m ++ (V ++ [(none, n)])) := by
        show behind _ _ (.opn 0 n) = _
        rw [behind_0 (by omega), hdrop, List.append_assoc]
      have z := (okAt_def e).mp hok
      rw [okL_app, okL_app] at z
      have hVc := (okL_bare hV).mp z.2.1
      have hnc : n ≤ c := z.2.2.1
      refine can_core (a := 0) (Uw := U.drop m) (R := (V ++ Bb) ++ [(none, n)]) hm hl hn hwd rfl ?_ z.1 hnb.symm ?_
      · rw [hleft]
        show behind _ _ (.opn 0 n) = _
        rw [behind_0 (by omega)]
        simp
      · have eo : ownF (U ++ V) (.opn 0 n) m lot = 0 := by
          unfold ownF
          rw [if_neg (by rw [firstRow_opn]; simp)]
        rw [eo, okL_bare (fun b hb => by
          rcases List.mem_append.mp hb with y | y
          · exact hVB b y
          · rw [List.mem_singleton.mp y] <;> rfl)]
        exact ⟨fun _ => by omega, fun _ b hb => by
          rcases List.mem_append.mp hb with y | y
          · exact hVB0 hVc b y
          · rw [List.mem_singleton.mp y]
            exact hnc⟩
  | row d a n =>
    obtain ⟨hdl, ha1, _, hn0, _⟩ := hw
    have hmd := hwd d a n rfl
    have hdl' : d < U.length + V.length := by simpa using hdl
    have hlenA : (agL h (U ++ V) lot).length = (lot.filter fun i => decide (0 < ((U ++ V).getD i (none, 0)).2)).length := List.length_map _
    cases hwr : wrote (at_ (U ++ V) d) with
    | true =>
      have hdU : d < U.length := by
        by_cases q : d < U.length
        · exact q
        · have h0 : (U ++ V)[d]? = some (at_ (U ++ V) d) := getD_lt hdl
          rw [List.getElem?_append_right (by omega)] at h0
          rw [hV _ (List.mem_of_getElem? h0)] at hwr
          cases hwr
      have hidx : (orderF (U ++ V) m lot).idxOf d = d - m := by
        unfold orderF
        rw [stay_rg hU hV hmw, List.append_assoc, idx_app (mem_rg.mpr ⟨hmd, by omega⟩)]
        refine idx_asc asc_range' ?_
        rw [List.getElem?_range' (by omega)]
        exact congrArg some (by omega)
      obtain ⟨f, hf⟩ : ∃ f, f = (at_ (U ++ V) d).1 := ⟨_, rfl⟩
      have hatL : at_ ((U.drop m ++ agL h (U ++ V) lot) ++ (V ++ Bb)) (d - m) = at_ (U ++ V) d := by
        unfold at_
        rw [List.getD_eq_getElem?_getD, List.getD_eq_getElem?_getD, List.append_assoc, List.getElem?_append_left (by rw [List.length_drop]; omega), List.getElem?_drop, show m + (d - m) = d by omega, List.getElem?_append_left hdU]
      have hatm : at_ ((U ++ V).drop m) (d - m) = at_ (U ++ V) d := by
        unfold at_
        rw [List.getD_eq_getElem?_getD, List.getD_eq_getElem?_getD, List.getElem?_drop, show m + (d - m) = d by omega]
      have e : behind (h + needs (U ++ V) m) ((U ++ V).drop m) (later (.row d a n) m) = (h + needs (U ++ V) m + a, (U.drop m).set (d - m) (f, n) ++ V) := by
        show behind _ _ (.row (d - m) a n) = _
        rw [behind_w (by rw [List.length_drop]; omega) (by rw [hatm]; exact hwr), hatm, ← hf, hdrop, List.set_append_left _ _ (by rw [List.length_drop]; omega)]
      have z := (okAt_def e).mp hok
      rw [okL_app] at z
      have hVc := (okL_bare hV).mp z.2
      refine can_core (a := a) (Uw := (U.drop m).set (d - m) (f, n)) (R := V ++ Bb) hm hl hn hwd rfl ?_ z.1 ?_ ?_
      · rw [hleft]
        show behind _ _ (.row ((orderF (U ++ V) m lot).idxOf d) a n) = _
        rw [hidx, behind_w (by simp; omega) (by rw [hatL]; exact hwr), hatL, ← hf, List.append_assoc, List.set_append_left _ _ (by rw [List.length_drop]; omega)]
      · rw [stay_rg hU hV hmw]
        unfold sumD
        congr 1
        apply List.ext_getElem?
        intro i
        rw [List.getElem?_map, List.getElem?_map]
        by_cases hi : i < U.length - m
        · rw [List.getElem?_range' hi]
          by_cases q : d - m = i
          · subst q
            rw [List.getElem?_set_self (by rw [List.length_drop]; omega)]
            show some n = some (needBehind (U ++ V) (.row d a n) (m + 1 * (d - m)))
            rw [needB_row, if_pos (by omega)]
          · rw [List.getElem?_set_ne q, List.getElem?_drop]
            have h0 : (U ++ V)[m + i]? = some (at_ (U ++ V) (m + i)) := getD_lt (by rw [List.length_append]; omega)
            rw [List.getElem?_append_left (by omega)] at h0
            rw [h0]
            show some (at_ (U ++ V) (m + i)).2 = some (needBehind (U ++ V) (.row d a n) (m + 1 * i))
            rw [needB_row, if_neg (by omega), Nat.one_mul]
        · rw [List.getElem?_eq_none (by rw [List.length_set, List.length_drop]; omega), List.getElem?_eq_none (by rw [List.length_range']; omega)] <;> rfl
      · have eo : ownF (U ++ V) (.row d a n) m lot = 0 := by
          unfold ownF
          rw [if_neg (by rw [firstRow_row hdl, hwr]; simp)]
        rw [eo, okL_bare hVB]
        exact ⟨fun _ => by omega, fun _ => hVB0 hVc⟩
    | false =>
      have hdU : U.length ≤ d := by
        by_cases q : U.length ≤ d
        · exact q
        · have h0 : (U ++ V)[d]? = some (at_ (U ++ V) d) := getD_lt hdl
          rw [List.getElem?_append_left (by omega)] at h0
          rw [hU _ (List.mem_of_getElem? h0)] at hwr
          cases hwr
      obtain ⟨V1, hV1⟩ : ∃ V1, V1 = V.eraseIdx (d - U.length) := ⟨_, rfl⟩
      have hV1b : ∀ b ∈ V1, wrote b = false := fun b hb => by
        rw [hV1] at hb
        exact hV b (List.mem_of_mem_eraseIdx hb)
      have hV1B : ∀ b ∈ V1 ++ Bb, wrote b = false := fun b hb => by
        rcases List.mem_append.mp hb with y | y
        · exact hV1b b y
        · exact (hBb0 b y).1
      have hlenU : (U.drop m).length = U.length - m := List.length_drop
      have hidx : (orderF (U ++ V) m lot).idxOf d = (U.drop m ++ agL h (U ++ V) lot).length + (d - U.length) := by
        unfold orderF
        rw [stay_rg hU hV hmw, bare_rg hU hV hmw, List.idxOf_append, if_neg ?_, List.length_append, List.length_append, List.length_range', hlenA, hlenU, idx_asc (k := d - U.length) asc_range' ?_]
        · omega
        · rw [List.getElem?_range' (by omega)]
          exact congrArg some (by omega)
        · intro y
          rcases List.mem_append.mp y with y | y
          · have := mem_rg.mp y
            omega
          · have := hl.2 d (List.mem_filter.mp y).1
            omega
      have hatL : at_ ((U.drop m ++ agL h (U ++ V) lot) ++ (V ++ Bb)) ((U.drop m ++ agL h (U ++ V) lot).length + (d - U.length)) = at_ (U ++ V) d := by
        unfold at_
        rw [List.getD_eq_getElem?_getD, List.getD_eq_getElem?_getD, List.getElem?_append_right (by omega), List.getElem?_append_left (by omega), List.getElem?_append_right hdU, show (U.drop m ++ agL h (U ++ V) lot).length + (d - U.length) - (U.drop m ++ agL h (U ++ V) lot).length = d - U.length by omega]
      have hatm : at_ ((U ++ V).drop m) (d - m) = at_ (U ++ V) d := by
        unfold at_
        rw [List.getD_eq_getElem?_getD, List.getD_eq_getElem?_getD, List.getElem?_drop, show m + (d - m) = d by omega]
      have e : behind (h + needs (U ++ V) m) ((U ++ V).drop m) (later (.row d a n) m) = (h + needs (U ++ V) m + a, U.drop m ++ (some (h + needs (U ++ V) m), n) :: V1) := by
        show behind _ _ (.row (d - m) a n) = _
        rw [behind_b (by rw [hatm]; exact hwr), hdrop, List.eraseIdx_append_of_length_le (by omega), hlenU, show d - m - (U.length - m) = d - U.length by omega, ← hV1, ins_split hUd hV1b]
      have z := (okAt_def e).mp hok
      rw [okL_app] at z
      have z2 : (h + needs (U ++ V) m + a - (h + needs (U ++ V) m) + (0 + sumD (U.drop m) + n) ≤ c) ∧ okL c (h + needs (U ++ V) m + a) (0 + sumD (U.drop m) + n) V1 := z.2
      have hVc := (okL_bare hV1b).mp z2.2
      have hnb : (((List.range' m ((U ++ V).length - m)).filter fun i => wrote ((U ++ V).getD i (none, 0))).map (needBehind (U ++ V) (.row d a n))).sum = sumD (U.drop m) := by
        rw [hss]
        unfold sumN
        congr 1
        apply List.map_congr_left
        intro i hi
        rw [stay_rg hU hV hmw] at hi
        have := mem_rg.mp hi
        rw [needB_row, if_neg (by omega)]
      refine can_core (a := a) (Uw := U.drop m) (R := (some (h + needs (U ++ V) m), n) :: (V1 ++ Bb)) hm hl hn hwd rfl ?_ z.1 hnb.symm ?_
      · rw [hleft]
        show behind _ _ (.row ((orderF (U ++ V) m lot).idxOf d) a n) = _
        rw [hidx, behind_b (by rw [hatL]; exact hwr), List.eraseIdx_append_of_length_le (by omega), show (U.drop m ++ agL h (U ++ V) lot).length + (d - U.length) - (U.drop m ++ agL h (U ++ V) lot).length = d - U.length by omega, List.eraseIdx_append_of_lt_length (by omega), ← hV1, ins_split hUA hV1B]
        show ((h + needs (U ++ V) m + a, (U.drop m ++ agL h (U ++ V) lot) ++ (some (h + needs (U ++ V) m), n) :: (V1 ++ Bb)) : Int × List Dd) = _
        rw [List.append_assoc]
      · rw [own_sum_eq hm hl (by rw [firstRow_row hdl, hwr] <;> rfl), ← hss]
        show (h + needs (U ++ V) m + a - (h + needs (U ++ V) m) + (sumD (U.drop m) + sumN (U ++ V) lot + n) ≤ c) ∧ okL _ _ _ (V1 ++ Bb) ↔ a + n + (sumN (U ++ V) lot + sumD (U.drop m)) ≤ c
        rw [okL_bare hV1B]
        exact ⟨fun q => by have := q.1; omega, fun q => ⟨by omega, hVB0 hVc⟩⟩
end RC

end
section
set_option Elab.async false
set_option linter.all false
set_option maxRecDepth 100000
set_option maxHeartbeats 4000000
namespace RC
open PySem PySem.Spec PyProof.Rows L2
local macro_rules | `(tactic| walk_at "sub") => `(tactic| first | exact sub_nil | (apply sub_cons; walk_at "sub") | (apply sub_drop; walk_at "sub"))
local macro_rules | `(tactic| walk_at "hr") => `(tactic| (repeat apply Exists.intro) <;> (refine And.intro rfl ?_) <;> (repeat' apply And.intro) <;> (first | rfl | assumption | omega | skip))
local macro_rules | `(tactic| walk_at "ev") => `(tactic| first
  | exact ty_var rfl
  | exact ty_int
  | exact ty_bl
  | exact ty_non
  | exact ty_str
  | exact ta_nil
  | (apply ta_cons <;> walk_at "ev")
  | (apply tt_test <;> walk_at "ev")
  | (apply tt_B <;> walk_at "ev")
  | (apply tt_not <;> walk_at "ev")
  | (apply tt_and <;> (first | walk_at "ev" | (intro _; walk_at "ev")))
  | (apply tt_or <;> (first | walk_at "ev" | (intro _; walk_at "ev")))
  | (apply ty_and <;> (first | walk_at "ev" | (intro _; walk_at "ev")))
  | (apply ty_or <;> (first | walk_at "ev" | (intro _; walk_at "ev")))
  | (apply ty_not <;> walk_at "ev")
  | (apply ty_succ <;> walk_at "ev")
  | (apply ty_add <;> walk_at "ev")
  | (apply ty_sub <;> walk_at "ev")
  | (apply ty_lt <;> walk_at "ev")
  | (apply ty_le <;> walk_at "ev")
  | (apply ty_gt <;> walk_at "ev")
  | (apply ty_ge <;> walk_at "ev")
  | (apply ty_leleI <;> walk_at "ev")
  | (apply ty_ltltI <;> walk_at "ev")
  | (apply ty_isOpen <;> walk_at "ev")
  | (apply ty_isRow <;> walk_at "ev")
  | (apply ty_isWait <;> walk_at "ev")
  | (apply ty_o1 <;> walk_at "ev")
  | (apply ty_o2 <;> walk_at "ev")
  | (apply ty_o3 <;> walk_at "ev")
  | (apply ty_r1 <;> walk_at "ev")
  | (apply ty_r2 <;> walk_at "ev")
  | (apply ty_r3 <;> walk_at "ev")
  | (apply ty_eqI <;> walk_at "ev")
  | (apply ty_eqS <;> (first | walk_at "ev" | decide +kernel))
  | (apply ty_wrote <;> walk_at "ev")
  | (apply ty_bare <;> walk_at "ev")
  | (apply ty_isN <;> walk_at "ev")
  | (apply ty_notN <;> walk_at "ev")
  | (apply ty_neI <;> walk_at "ev")
  | (apply ty_neg <;> walk_at "ev")
  | (apply ty_inTN <;> walk_at "ev")
  | (apply ty_inLN <;> walk_at "ev")
  | (apply ty_niTN <;> walk_at "ev")
  | (apply ty_isi <;> (first | walk_at "ev" | exact kit_ii | exact kit_ib | exact kit_tt | exact kit_ss | exact kit_bb))
  | exact tyc_len (k := 0) rfl rfl
  | exact tyc_len (k := 1) rfl rfl
  | (apply ty_lenT <;> walk_at "ev")
  | (apply ty_lenL <;> walk_at "ev")
  | (apply ty_d0 <;> walk_at "ev")
  | (apply ty_d1 <;> walk_at "ev")
  | (apply ty_d2 <;> walk_at "ev")
  | (apply ty_di <;> (first | walk_at "ev" | assumption))
  | (apply ty_ixT <;> (first | walk_at "ev" | rfl | exact atI_map_nat _ (by assumption) | (show _ = _)))
  | (apply ty_ixL <;> (first | walk_at "ev" | rfl | exact atI_map_nat _ (by assumption) | (show _ = _)))
  | (apply ty_cells (by assumption) <;> walk_at "ev")
  | (apply ty_head (by assumption) <;> walk_at "ev")
  | (apply ty_deeds (by assumption) <;> walk_at "ev")
  | (apply ty_tupleL <;> walk_at "ev")
  | (apply ty_tupleT <;> walk_at "ev")
  | (apply ty_slT <;> walk_at "ev")
  | exact to_no
  | (apply to_some <;> walk_at "ev")
  | (apply ty_tup <;> (first | walk_at "ev" | decide | (simp; done)))
  | (apply ty_call <;> (first | walk_at "ev" | walk_at "hr")))
local macro_rules | `(tactic| walk_at "bv") => `(tactic| first | rfl | (refine congrArg BV ?_; simp; done) | (refine congrArg BV ?_; simp; omega) | (simp; done) | (simp; omega) | omega)
section
variable {K : PySem.W.Frag} {mg : Str → Option Value} {vs : List V} {H : Hp} {Q : VK} {E : XK}
/-- an expression over a cell's list, read as data; the value a new list of ints -/
theorem tnc_flat {C : Ctx} {G : Gm} {te : TE} {i : Nat} {l : Addr} {ds : List PyData} {ns : List Int} (hC : C.W0 = W0) (hi : G[i]? = some (some (XV (.ref l)))) (h : TyN (C.w []) (G.set i (some (DV (.list ds)))) te (ns.map .int)) : TyN (C.w [(l, LC ds)]) G te (ns.map .int) := fun σ F e H s j Q q => by
  obtain ⟨j1, j2, j3⟩ := id j
  obtain ⟨nT, hF, o, h0, xs, eo, c0⟩ := j3 _ List.mem_cons_self
  subst eo
  obtain ⟨v, h1, h2⟩ := e.2 i _ hi
  have h2' : v = .ref l := h2
  subst h2'
  have le : Same F (upd F l (.lst xs)) := fun a u q => by
    rw [upd_ne (ne_of_none q hF)]
    exact q
  have nd' := List.nodup_cons.mp j2
  have sF : Same (upd F l (.lst xs)) H := fun a u q => by
    by_cases z : a = l
    · subst z
      rw [upd_same] at q
      rw [← q]
      exact h0
    · rw [upd_ne z] at q
      exact s a u q
  have jW : (C.w []).J (upd F l (.lst xs)) H := adds_nil.mpr (by rw [hC]; trivial)
  have e' : Env (G.set i (some (DV (.list ds)))) σ (upd F l (.lst xs)) := by
    have z := (e.mono le).set (P := DV (.list ds)) i (.lst upd_same (RpAll.mono le c0))
    have hs : σ.set i (some (.ref l)) = σ := by
      apply List.ext_getElem?
      intro k
      by_cases y : i = k
      · subst y
        rw [List.getElem?_set, if_pos rfl, if_pos (List.getElem?_eq_some_iff.mp h1).1, h1]
      · rw [List.getElem?_set_ne y]
    rw [hs] at z
    exact z
  refine h σ _ e' H sF jW _ fun l2 ys F1 H1 g n p => ?_
  have hHl : H l ≠ none := by
    rw [h0]
    exact fun z => nomatch z
  have ey := p.ints
  subst ey
  have hTl : ¬ (C.w []).T l := fun z => by
    rcases z with z | z
    · exact nT z
    · exact nomatch z
  have g' : Go (C.w [(l, LC ds)]) F H (fz F H H1) H1 := by
    refine ⟨⟨fun a o n' q => g.st.kp a o (fun z => n' ?_) q, g.st.th⟩, rfl, by rw [hC]; trivial, j2, fun q hq => ?_⟩
    · rcases z with z | z
      · exact .inl z
      · exact nomatch z
    · have eq := List.mem_singleton.mp hq
      subst eq
      exact ⟨nT, by rw [fz_some hHl]; exact hF, .lst xs, g.st.kp _ _ hTl h0, xs, rfl, RpAll.mono (fz_le s) c0⟩
  exact q l2 _ _ H1 g' n (rpAll_ints ns)
theorem pure_law_fits (T : Txt K mg) (h : sp_law_fits K vs H Q E) : t_law_fits K (endsOf Q) (L2.start N_law_fits vs) H := enter h fun Ps P hR C hW hr hf => by
  obtain ⟨c, hd, ds, m, lot, rfl, hm, hlot, hg, he, rfl⟩ := hR
  have hlen : ds.length ≤ 8 := hg.2.2.2.2.2.2.2.2.1
  have hwl := @wm_le ds
  refine ok_new ((tn_lcm ds dD (fun d => oD d.1) (ti_tup (ty_var rfl)) own3 mon3 (by omega) fun d _ => ⟨_, tg3, ty_var rfl⟩).is (show ds.map (fun d => oD d.1) = (fF hd ds lot 0).map oD by rw [fF_0, List.map_map] <;> rfl)) fun lf => ?_
  refine ok_forL (List.range m) nD (fun i => [(lf, LC ((fF hd ds lot i).map oD))]) (fun i => [some (IV c), some (IV (hd + needs ds i)), some (DV (dsD ds)), some (IV (m : Nat)), some (DV (lotD lot)), none, some (XV (.ref lf)), none, none, none, none]) (fun _ => True) (ty_rg1 (ty_var rfl) (by omega)) trivial rfl (by
    show Sub [_, some (IV hd), _, _, _, _, _, _, _, _, _] [_, some (IV (hd + 0)), _, _, _, _, _, _, _, _, _]
    rw [Int.add_zero]
    walk_at "sub") (fun L' hL i x hx _ => ?_) fun _ => ok_ret ty_bl hr
  have hi : i < m := by
    have := (List.getElem?_eq_some_iff.mp hx).1
    rwa [List.length_range] at this
  rw [List.getElem?_range hi] at hx
  have ex : x = i := (Option.some.inj hx).symm
  subst ex
  have hxl : x < ds.length := by omega
  obtain ⟨f, n, h0, hmem, hmin, hfit⟩ := fits_min (lot := lot) hg he (by omega : x < wm ds)
  have hat : at_ ds x = (some f, n) := getD_of h0
  refine ⟨_, tg_name, ?_⟩
  refine ok_asg (P := IV n) (ty_d1 (d := (some f, n)) (ty_di (ty_var rfl) (ty_var rfl) h0)) ?_
  obtain ⟨hs, hhs⟩ : ∃ hs : List Int, hs = ((fF hd ds lot x).filter fun o => o.isSome).map fun o => o.getD 0 := ⟨_, rfl⟩
  have hCW : (C.up L').W0 = W0 := hW
  refine ok_asg (P := LV (hs.map .int)) (TyN.ty (tnc_flat (i := 6) hCW rfl ((tn_lcf (fF hd ds lot x) oD (fun o => o.isSome) oD (ti_list (ty_var rfl)) own_name mon_name (by rw [fF_len]; omega) fun o _ => ⟨_, tg_name, tt_test ((ty_notN (ty_var rfl)).to (by rw [isNo_oD, Bool.not_not])), fun _ => ty_var rfl⟩).is ?_))) ?_
  · rw [hhs, List.map_map]
    apply List.map_congr_left
    intro o ho
    have := (List.mem_filter.mp ho).2
    cases o with
    | none => cases this
    | some y => rfl
  have hfm : f ∈ hs := by
    rw [hhs]
    exact List.mem_map.mpr ⟨some f, List.mem_filter.mpr ⟨hmem, rfl⟩, rfl⟩
  have hfl : ∀ y ∈ hs, f ≤ y := fun y hy => by
    rw [hhs] at hy
    obtain ⟨o, ho, rfl⟩ := List.mem_map.mp hy
    have ho' := List.mem_filter.mp ho
    cases o with
    | none => cases ho'.2
    | some y => exact hmin y ho'.1
  have hpos := List.length_pos_of_mem hfm
  refine ok_pass (tt_and (a := true) (b := false) (tt_test ((ty_gt (ty_lenL (ds := hs.map .int) (ty_var rfl)) ty_int).to (by rw [List.length_map, decide_eq_true (by omega)]))) fun _ => tt_test ((ty_gt (ty_sub (ty_add (ty_var rfl) (ty_var (P := IV n) rfl)) (ty_min (ty_var (P := LV (hs.map .int)) rfl) hfm hfl)) (ty_var rfl)).to (by rw [decide_eq_false (by omega)]))) ?_
  obtain ⟨o, ho⟩ : ∃ o : Option Int, o = (if x ∈ lot ∧ 0 < (at_ ds x).2 then some (hd + needs ds x) else none) := ⟨_, rfl⟩
  refine ok_setL (k := 0) (d := oD o) (m := x) rfl rfl (ty_if (b := decide (x ∈ lot) && decide (0 < n)) (tt_and (a := decide (x ∈ lot)) (b := decide (0 < n)) (tt_test (ty_inTN (ty_var (P := IV (x : Nat)) rfl) (ty_var rfl))) fun _ => tt_test (ty_gt (ty_var rfl) ty_int)) (fun z => ?_) fun z => ?_) (ty_var (P := IV (x : Nat)) rfl) (ixN_nat (by rw [List.length_map, fF_len]; exact hxl)) ?_
  · rw [Bool.and_eq_true, decide_eq_true_eq, decide_eq_true_eq] at z
    rw [ho, hat, if_pos z]
    exact ty_var rfl
  · rw [ho, hat, if_neg (fun y => by
      rw [decide_eq_true y.1, decide_eq_true y.2] at z
      cases z)]
    exact ty_non
  · refine ok_tl (ok_asg (P := IV (hd + needs ds x + n)) (ty_add (ty_var rfl) (ty_var (P := IV n) rfl)) (ok_fin trivial ?_ ?_ fun _ _ a => a))
    · show [(lf, LC (((fF hd ds lot x).map oD).set x (oD o)))] = [(lf, LC ((fF hd ds lot (x + 1)).map oD))]
      rw [← List.map_set, ho, fF_set hxl]
    · have e1 := needs_succ h0
      have e2 : hd + needs ds (x + 1) = hd + needs ds x + n := by
        rw [e1, Int.add_assoc]
      rw [e2]
      walk_at "sub"
end
end RC

end
section
set_option Elab.async false
set_option linter.all false
set_option maxRecDepth 100000
set_option maxHeartbeats 4000000
namespace RC
open PySem PySem.Spec PyProof.Rows L2
local macro_rules | `(tactic| walk_at "sub") => `(tactic| first | exact sub_nil | (apply sub_cons; walk_at "sub") | (apply sub_drop; walk_at "sub"))
local macro_rules | `(tactic| walk_at "hr") => `(tactic| (repeat apply Exists.intro) <;> (refine And.intro rfl ?_) <;> (repeat' apply And.intro) <;> (first | rfl | assumption | omega | skip))
local macro_rules | `(tactic| walk_at "ev") => `(tactic| first
  | exact ty_var rfl
  | exact ty_int
  | exact ty_bl
  | exact ty_non
  | exact ty_str
  | exact ta_nil
  | (apply ta_cons <;> walk_at "ev")
  | (apply tt_test <;> walk_at "ev")
  | (apply tt_B <;> walk_at "ev")
  | (apply tt_not <;> walk_at "ev")
  | (apply tt_and <;> (first | walk_at "ev" | (intro _; walk_at "ev")))
  | (apply tt_or <;> (first | walk_at "ev" | (intro _; walk_at "ev")))
  | (apply ty_and <;> (first | walk_at "ev" | (intro _; walk_at "ev")))
  | (apply ty_or <;> (first | walk_at "ev" | (intro _; walk_at "ev")))
  | (apply ty_not <;> walk_at "ev")
  | (apply ty_succ <;> walk_at "ev")
  | (apply ty_add <;> walk_at "ev")
  | (apply ty_sub <;> walk_at "ev")
  | (apply ty_lt <;> walk_at "ev")
  | (apply ty_le <;> walk_at "ev")
  | (apply ty_gt <;> walk_at "ev")
  | (apply ty_ge <;> walk_at "ev")
  | (apply ty_leleI <;> walk_at "ev")
  | (apply ty_ltltI <;> walk_at "ev")
  | (apply ty_isOpen <;> walk_at "ev")
  | (apply ty_isRow <;> walk_at "ev")
  | (apply ty_isWait <;> walk_at "ev")
  | (apply ty_o1 <;> walk_at "ev")
  | (apply ty_o2 <;> walk_at "ev")
  | (apply ty_o3 <;> walk_at "ev")
  | (apply ty_r1 <;> walk_at "ev")
  | (apply ty_r2 <;> walk_at "ev")
  | (apply ty_r3 <;> walk_at "ev")
  | (apply ty_eqI <;> walk_at "ev")
  | (apply ty_eqS <;> (first | walk_at "ev" | decide +kernel))
  | (apply ty_wrote <;> walk_at "ev")
  | (apply ty_bare <;> walk_at "ev")
  | (apply ty_isN <;> walk_at "ev")
  | (apply ty_notN <;> walk_at "ev")
  | (apply ty_neI <;> walk_at "ev")
  | (apply ty_neg <;> walk_at "ev")
  | (apply ty_inTN <;> walk_at "ev")
  | (apply ty_inLN <;> walk_at "ev")
  | (apply ty_niTN <;> walk_at "ev")
  | (apply ty_isi <;> (first | walk_at "ev" | exact kit_ii | exact kit_ib | exact kit_tt | exact kit_ss | exact kit_bb))
  | exact tyc_len (k := 0) rfl rfl
  | exact tyc_len (k := 1) rfl rfl
  | (apply ty_lenT <;> walk_at "ev")
  | (apply ty_lenL <;> walk_at "ev")
  | (apply ty_d0 <;> walk_at "ev")
  | (apply ty_d1 <;> walk_at "ev")
  | (apply ty_d2 <;> walk_at "ev")
  | (apply ty_di <;> (first | walk_at "ev" | assumption))
  | (apply ty_ixT <;> (first | walk_at "ev" | rfl | exact atI_map_nat _ (by assumption) | (show _ = _)))
  | (apply ty_ixL <;> (first | walk_at "ev" | rfl | exact atI_map_nat _ (by assumption) | (show _ = _)))
  | (apply ty_cells (by assumption) <;> walk_at "ev")
  | (apply ty_head (by assumption) <;> walk_at "ev")
  | (apply ty_deeds (by assumption) <;> walk_at "ev")
  | (apply ty_tupleL <;> walk_at "ev")
  | (apply ty_tupleT <;> walk_at "ev")
  | (apply ty_slT <;> walk_at "ev")
  | exact to_no
  | (apply to_some <;> walk_at "ev")
  | (apply ty_tup <;> (first | walk_at "ev" | decide | (simp; done)))
  | (apply ty_call <;> (first | walk_at "ev" | walk_at "hr")))
local macro_rules | `(tactic| walk_at "bv") => `(tactic| first | rfl | (refine congrArg BV ?_; simp; done) | (refine congrArg BV ?_; simp; omega) | (simp; done) | (simp; omega) | omega)
section
variable {K : PySem.W.Frag} {mg : Str → Option Value} {vs : List V} {H : Hp} {Q : VK} {E : XK}
def lotsF : Nat → List (List Nat)
  | 0 => [[]]
  | i + 1 => lotsF i ++ (lotsF i).map fun L => L ++ [i]
theorem lotsF_len : ∀ i, (lotsF i).length = 2 ^ i
  | 0 => rfl
  | i + 1 => by
    show (lotsF i ++ _).length = _
    rw [List.length_append, List.length_map, lotsF_len i, Nat.pow_succ]
    omega
theorem lotsF_lot : ∀ i, ∀ L ∈ lotsF i, Lot L i
  | 0, L, h => by
    rw [List.mem_singleton.mp h]
    exact ⟨.nil, fun _ z => by simp at z⟩
  | i + 1, L, h => by
    rcases List.mem_append.mp h with z | z
    · obtain ⟨h1, h2⟩ := lotsF_lot i L z
      exact ⟨h1, fun k hk => Nat.lt_succ_of_lt (h2 k hk)⟩
    · obtain ⟨L', hL, rfl⟩ := List.mem_map.mp z
      obtain ⟨h1, h2⟩ := lotsF_lot i L' hL
      refine ⟨List.pairwise_append.mpr ⟨h1, List.pairwise_singleton _ _, fun a ha b hb => ?_⟩, fun k hk => ?_⟩
      · rw [List.mem_singleton.mp hb]
        exact h2 a ha
      · rcases List.mem_append.mp hk with y | y
        · exact Nat.lt_succ_of_lt (h2 k y)
        · rw [List.mem_singleton.mp y]
          exact Nat.lt_succ_self i
theorem two_le {i : Nat} (h : i ≤ 5) : 2 ^ i ≤ 32 := by
  have : 2 ^ i ≤ 2 ^ 5 := Nat.pow_le_pow_right (by omega) h
  simpa using this
theorem pure_law_lots (T : Txt K mg) (h : sp_law_lots K vs H Q E) : t_law_lots K (endsOf Q) (L2.start N_law_lots vs) H := enter h fun Ps P hR C hW hr hf => by
  obtain ⟨m, hm, rfl, rfl⟩ := hR
  refine ok_asg (P := LV ((lotsF 0).map lotD)) (TyN.ty (tn_lst (ds := [lotD []]) (ta_cons (ty_tup (ds := []) ta_nil) ta_nil))) ?_
  refine ok_forL (List.range m) nD (fun _ => []) (fun i => [some (IV (m : Nat)), some (LV ((lotsF i).map lotD)), none, none, none]) (fun _ => True) (ty_rg1 (ty_var rfl) (by omega)) trivial rfl (by walk_at "sub") (fun L' hL i x hx _ => ?_) fun _ => ?_
  · have hi : i < m := by
      have := (List.getElem?_eq_some_iff.mp hx).1
      rwa [List.length_range] at this
    rw [List.getElem?_range hi] at hx
    have ex : x = i := (Option.some.inj hx).symm
    subst ex
    have hlen := lotsF_len x
    have h32 := two_le (i := x) (by omega)
    refine ⟨_, tg_name, ?_⟩
    refine ok_tl (ok_asg (P := LV ((lotsF (x + 1)).map lotD)) ((TyN.ty (tn_cat (ds := (lotsF x).map lotD) (es := (lotsF x).map fun L => lotD (L ++ [x])) (ty_var rfl) (TyN.ty (tn_lcm (lotsF x) lotD (fun L => lotD (L ++ [x])) (ti_list (ty_var rfl)) own_name mon_name (by omega) fun L hL => ⟨_, tg_name, ?_⟩)) ?_)).is ?_) (ok_fin trivial rfl (by walk_at "sub") fun _ _ a => a))
    · have hll := lot_len (lotsF_lot x L hL)
      exact (ty_catT (ds := L.map nD) (es := [nD x]) (ty_var rfl) (ty_tup (ds := [nD x]) (ta_cons (ty_var rfl) ta_nil) (by simp)) (by rw [List.length_map]; simp; omega)).is (by
        show PyData.tuple _ = PyData.tuple ((L ++ [x]).map nD)
        rw [List.map_append] <;> rfl)
    · rw [List.length_map, List.length_map]
      omega
    · show PyData.list _ = PyData.list ((lotsF x ++ (lotsF x).map fun L => L ++ [x]).map lotD)
      rw [List.map_append, List.map_map] <;> rfl
  · rw [List.length_range]
    have hlen := lotsF_len m
    have h32 := two_le hm
    refine ok_ret (Ty.weak (P1 := ExV (fun Ls : List (List Nat) => (∀ L ∈ Ls, Lot L m) ∧ Ls.length ≤ 32) fun Ls => LV (Ls.map lotD)) (ty_lcX (φ := fun Ls => Ls.Perm (lotsF m)) (fun L => PyData.tuple [nD L.length, lotD L]) lotD (ty_sortLots (TyN.ty (tn_lcm (lotsF m) lotD (fun L => PyData.tuple [nD L.length, lotD L]) (ti_list (ty_var rfl)) own_name mon_name (by omega) fun L hL => ⟨_, tg_name, ty_tup (ds := [nD L.length, lotD L]) (ta_cons ((ty_lenT (ds := L.map nD) (ty_var rfl)).to (by rw [List.length_map] <;> rfl)) (ta_cons (ty_var rfl) ta_nil)) (by simp)⟩)) (by omega)) (fun Ls hp => by rw [hp.length_eq]; omega) own2 mon2 fun L => ⟨_, tg2, ty_var rfl⟩) fun v F ⟨Ls, hp, pv⟩ => ⟨Ls, ⟨fun L hL => lotsF_lot m L (hp.mem_iff.mp hL), by rw [hp.length_eq]; omega⟩, pv⟩) hr
theorem shp_str {k : Nat} {x : Str} (h : (PyData.str x).canLay0 = true) : Shp k (.str x) := ⟨h, by simp [PyData.depth]⟩
theorem shp_car (x : Car) : Shp 20 (carD x) := by
  cases x with
  | rows => exact (Shp.tup (k := 1) fun d hd => by
      rw [List.mem_singleton.mp hd]
      exact shp_str (by decide +kernel)).le (by omega)
  | room d => exact (Shp.tup (k := 1) fun e he => by
      rcases List.mem_cons.mp he with z | z
      · rw [z]
        exact shp_str (by decide +kernel)
      · rw [List.mem_singleton.mp z]
        exact .int _).le (by omega)
  | let_ h ds => exact (Shp.tup (k := 4) fun e he => by
      rcases List.mem_cons.mp he with z | z
      · rw [z]
        exact shp_str (by decide +kernel)
      · rcases List.mem_cons.mp z with y | y
        · rw [y]
          exact .int _
        · rw [List.mem_singleton.mp y]
          exact (shp_dsD ds).le (by omega)).le (by omega)
theorem eqv_self {d : PyData} (h : Shp 20 d) : PyData.eqv d d = true := PySem.SeqAt.eqv_refl d h.l
theorem good_carTo {c h : Int} {ds : List Dd} {d : Nat} {f n g k : Int} (hg : Good c h ds) (hd : ds[d]? = some (some f, n)) (h0 : ds[0]? = some (some g, k)) (hr : h + n - g ≤ c) (hh : h ≤ 10 ^ 39) : Good c (carTo h ds d).1 (carTo h ds d).2 ∧ (carTo h ds d).2.length = ds.length := by
  obtain ⟨hnl, hnd, hasc, hfst, hc1, hc2, hh1, hh2, hlen, hroom⟩ := hg
  have hdl := (List.getElem?_eq_some_iff.mp hd).1
  have hat : at_ ds d = (some f, n) := getD_of hd
  obtain ⟨hn1, hn2⟩ := hnd _ (List.mem_of_getElem? hd)
  have hn1' : 0 ≤ n := hn1
  have hn2' : n ≤ 10 ^ 30 := hn2
  obtain ⟨r, hrr⟩ : ∃ r, r = ds.eraseIdx d := ⟨_, rfl⟩
  have hrl : r.length = ds.length - 1 := by rw [hrr, List.length_eraseIdx_of_lt hdl]
  have hrm : ∀ x ∈ r, x ∈ ds := fun x hx => by
    rw [hrr] at hx
    exact List.mem_of_mem_eraseIdx hx
  have hrnl : NL r := by
    rw [hrr]
    exact nl_erase hnl
  obtain ⟨U, V, e, hU, hV⟩ := nl_split hrnl
  have hUasc : ∀ (i j : Nat) (f g n m : Int), i < j → r[i]? = some (some f, n) → r[j]? = some (some g, m) → f < g := fun i j f g n m hij hi hj => by
    rw [hrr, List.getElem?_eraseIdx] at hi hj
    split at hi
    · split at hj
      · exact hasc i j f g n m hij hi hj
      · exact hasc i (j + 1) f g n m (by omega) hi hj
    · split at hj
      · omega
      · exact hasc (i + 1) (j + 1) f g n m (by omega) hi hj
  have hfirst : ∀ f' n', (some f', n') ∈ ds → g ≤ f' := fun f' n' hm => by
    obtain ⟨i, hi⟩ := List.getElem?_of_mem hm
    by_cases z : i = 0
    · subst z
      rw [h0] at hi
      cases hi
      exact Int.le_refl _
    · exact Int.le_of_lt (hasc 0 i g f' k n' (by omega) h0 hi)
  have e1 : carTo h ds d = (h + n, if 0 < n then insAt (wm r) (some h, n) r else r ++ [(none, n)]) := by
    show (h + (at_ ds d).2, if 0 < (at_ ds d).2 then insAt (wm (ds.eraseIdx d)) (some h, (at_ ds d).2) (ds.eraseIdx d) else ds.eraseIdx d ++ [(none, (at_ ds d).2)]) = _
    rw [hat, ← hrr]
  rw [e1]
  by_cases q : 0 < n
  · rw [if_pos q]
    subst e
    rw [ins_split hU hV]
    have hmem : ∀ x ∈ U ++ (some h, n) :: V, x ∈ ds ∨ x = (some h, n) := fun x hx => by
      rcases List.mem_append.mp hx with z | z
      · exact .inl (hrm x (List.mem_append_left _ z))
      · rcases List.mem_cons.mp z with y | y
        · exact .inr y
        · exact .inl (hrm x (List.mem_append_right _ y))
    have hUi : ∀ i x, i < U.length → (U ++ (some h, n) :: V)[i]? = some x → (U ++ V)[i]? = some x := fun i x hi hx => by
      rw [List.getElem?_append_left hi] at hx ⊢
      exact hx
    have hno : ∀ i (f' n' : Int), U.length < i → (U ++ (some h, n) :: V)[i]? ≠ some (some f', n') := fun i f' n' hi hx => by
      rw [List.getElem?_append_right (by omega)] at hx
      cases z : i - U.length with
      | zero => omega
      | succ j =>
        rw [z] at hx
        have := hV _ (List.mem_of_getElem? (by simpa using hx))
        cases this
    have hat2 : ∀ (f' n' : Int), (U ++ (some h, n) :: V)[U.length]? = some (some f', n') → f' = h := fun f' n' hx => by
      rw [List.getElem?_append_right (Nat.le_refl _), Nat.sub_self] at hx
      cases hx
      rfl
    refine ⟨⟨?_, fun x hx => ?_, fun i j f' g' n' m' hij hi hj => ?_, fun f' n' hx => ?_, hc1, hc2, by show 0 ≤ h + n; omega, by show h + n ≤ 10 ^ 40; omega, ?_, fun f' n' hx => ?_⟩, ?_⟩
    · rw [show U ++ (some h, n) :: V = (U ++ [(some h, n)]) ++ V by simp]
      exact nl_of (fun a ha => by
        rcases List.mem_append.mp ha with z | z
        · exact hU a z
        · rw [List.mem_singleton.mp z] <;> rfl) hV
    · rcases hmem x hx with z | z
      · exact hnd x z
      · rw [z]
        exact ⟨hn1, hn2⟩
    · by_cases z : j < U.length
      · exact hUasc i j f' g' n' m' hij (hUi i _ (by omega) hi) (hUi j _ z hj)
      · by_cases y : j = U.length
        · subst y
          rw [hat2 _ _ hj]
          exact (hfst f' n' (hrm _ (List.mem_of_getElem? (hUi i _ hij hi)))).2
        · exact absurd hj (hno j g' m' (by omega))
    · show 0 ≤ f' ∧ f' < h + n
      rcases hmem _ hx with z | z
      · have := hfst f' n' z
        exact ⟨this.1, by omega⟩
      · cases z
        exact ⟨hh1, by omega⟩
    · have : (U ++ (some h, n) :: V).length = (U ++ V).length + 1 := by simp; omega
      rw [this]
      omega
    · show h + n - f' ≤ c
      rcases hmem _ (List.mem_of_getElem? hx) with z | z
      · have := hfirst f' n' z
        omega
      · cases z
        have := (hfst g k (List.mem_of_getElem? h0)).2
        omega
    · have : (U ++ (some h, n) :: V).length = (U ++ V).length + 1 := by simp; omega
      rw [this]
      omega
  · rw [if_neg q]
    have e0 : n = 0 := by omega
    subst e0
    have hmem : ∀ x ∈ r ++ [((none, 0) : Dd)], x ∈ ds ∨ x = (none, 0) := fun x hx => by
      rcases List.mem_append.mp hx with z | z
      · exact .inl (hrm x z)
      · exact .inr (List.mem_singleton.mp z)
    have hi' : ∀ i (f' n' : Int), (r ++ [((none, 0) : Dd)])[i]? = some (some f', n') → r[i]? = some (some f', n') := fun i f' n' hx => by
      by_cases z : i < r.length
      · rw [List.getElem?_append_left z] at hx
        exact hx
      · rw [List.getElem?_append_right (by omega)] at hx
        cases y : i - r.length with
        | zero =>
          rw [y] at hx
          cases hx
        | succ j =>
          rw [y] at hx
          cases hx
    refine ⟨⟨nl_snoc hrnl rfl, fun x hx => ?_, fun i j f' g' n' m' hij hi hj => hUasc i j f' g' n' m' hij (hi' _ _ _ hi) (hi' _ _ _ hj), fun f' n' hx => ?_, hc1, hc2, by show 0 ≤ h + 0; omega, by show h + 0 ≤ 10 ^ 40; omega, ?_, fun f' n' hx => ?_⟩, ?_⟩
    · rcases hmem x hx with z | z
      · exact hnd x z
      · rw [z]
        exact ⟨by show (0 : Int) ≤ 0; omega, by show (0 : Int) ≤ 10 ^ 30; omega⟩
    · show 0 ≤ f' ∧ f' < h + 0
      rcases hmem _ hx with z | z
      · have := hfst f' n' z
        exact ⟨this.1, by omega⟩
      · cases z
    · rw [List.length_append, hrl]
      simp
      omega
    · show h + 0 - f' ≤ c
      have := hfirst f' n' (hrm _ (List.mem_of_getElem? (hi' _ _ _ hx)))
      omega
    · rw [List.length_append, hrl]
      simp
      omega
theorem pure_law_led_right (T : Txt K mg) (h : sp_law_led_right K vs H Q E) : t_law_led_right K (endsOf Q) (L2.start N_law_led_right vs) H := enterT h fun tp Ps P hR C hW hr hf => by
  obtain ⟨c, hd, ds, rfl, hg, hh, hl1, hl2, rfl⟩ := hR
  refine ok_forX (S := Int × List Dd) (List.range 8) nD (fun _ _ => []) (fun i s => [some (XV (.ref tp)), some (IV c), some (IV s.1), some (DV (dsD s.2)), none, none, none, none, none, none, none]) (fun i s => Good c s.1 s.2 ∧ s.1 ≤ 10 ^ 39 ∧ 1 ≤ s.2.length ∧ s.2.length ≤ 7) (hd, ds) (ty_rg1 (n := 8) ty_int (by omega)) ⟨hg, hh, hl1, hl2⟩ rfl (by walk_at "sub") (fun L' hL i x s hx hs => ?_) fun s hs => ok_ret ty_bl hr
  obtain ⟨hd, ds⟩ := s
  obtain ⟨hg, hh, hl1, hl2⟩ := hs
  have hh' : hd ≤ 10 ^ 39 := hh
  have hl1' : 1 ≤ ds.length := hl1
  have hl2' : ds.length ≤ 7 := hl2
  have hW' : (C.up L').W0 = tapeW tp := hW
  have hr' := hr.up hL
  refine ⟨_, tg_name, ?_⟩
  refine ok_asgI (φ := fun r => 0 ≤ r ∧ r < ((ds.map dD).length : Nat)) (ty_pick hW' rfl (ty_lenT (ds := ds.map dD) (ty_var (P := DV (dsD ds)) rfl)) (by rw [List.length_map]; omega) (by rw [List.length_map]; omega)) fun a ha => ?_
  obtain ⟨d, hd'⟩ : ∃ d : Nat, a = (d : Nat) := ⟨a.toNat, by omega⟩
  subst hd'
  rw [List.length_map] at ha
  have hdl : d < ds.length := by omega
  obtain ⟨x0, hx0⟩ : ∃ x0, x0 = carF c hd ds d := ⟨_, rfl⟩
  refine ok_asg (P := DV (carD x0)) ((ty_call (ta_cons (ty_var (P := IV c) rfl) (ta_cons (ty_var (P := IV hd) rfl) (ta_cons (ty_var (P := DV (dsD ds)) rfl) (ta_cons (ty_var rfl) ta_nil)))) ⟨c, hd, ds, d, rfl, hdl, by omega, hg.1, rfl⟩).to (by rw [hx0])) ?_
  refine ok_asg (P := DV (carD x0)) ((ty_call (ta_cons (ty_make (ta_cons (ty_var (P := IV c) rfl) (ta_cons (ty_var (P := IV hd) rfl) (ta_cons (ty_var (P := DV (dsD ds)) rfl) ta_nil))) hg) (ta_cons (ty_var (P := IV (d : Nat)) rfl) ta_nil)) ⟨c, hd, ds, d, rfl, hdl, by omega, hg.1, rfl⟩).to (by rw [hx0])) ?_
  refine ok_pass (tt_test ((ty_ne (ty_var (P := DV (carD x0)) rfl) (ty_var (P := DV (carD x0)) rfl) (shp_car x0).ok (shp_car x0).ok).to (by rw [eqv_self (shp_car x0)] <;> rfl))) ?_
  have hst : Good c hd ds ∧ hd ≤ 10 ^ 39 ∧ 1 ≤ ds.length ∧ ds.length ≤ 7 := ⟨hg, hh', hl1', hl2'⟩
  cases x0 with
  | rows => exact ok_tl (ok_pass (tt_test ((ty_eqS (i := "rows") (j := "let") (ty_ixT (ds := [.str "rows"]) (i := 0) (ty_var rfl) ty_int rfl) ty_str).to (by rw [decide_eq_false (by decide +kernel)]))) (ok_finX (S := Int × List Dd) (hd, ds) hst rfl (by walk_at "sub") fun _ _ a => a))
  | room k => exact ok_tl (ok_pass (tt_test ((ty_eqS (i := "room") (j := "let") (ty_ixT (ds := [.str "room", nD k]) (i := 0) (ty_var rfl) ty_int rfl) ty_str).to (by rw [decide_eq_false (by decide +kernel)]))) (ok_finX (S := Int × List Dd) (hd, ds) hst rfl (by walk_at "sub") fun _ _ a => a))
  | let_ h2 ds2 =>
    have hgo : Good c h2 ds2 ∧ ds2.length = ds.length := by
      have hi : ds[d]? = some (at_ ds d) := getD_lt hdl
      obtain ⟨f, n, hfn⟩ : ∃ f n, at_ ds d = (f, n) := ⟨_, _, rfl⟩
      unfold carF at hx0
      change Car.let_ h2 ds2 = (match (at_ ds d).1 with | none => Car.rows | some _ => if c < hd + (at_ ds d).2 - ((ds.getD 0 (none, 0)).1.getD 0) then Car.room d else Car.let_ (carTo hd ds d).1 (carTo hd ds d).2) at hx0
      rw [hfn] at hx0 hi
      cases f with
      | none => cases hx0
      | some f =>
        obtain ⟨g, k, h0⟩ := nl_first hg.1 hi
        rw [getD_of h0] at hx0
        change Car.let_ h2 ds2 = (if c < hd + n - g then Car.room d else Car.let_ (carTo hd ds d).1 (carTo hd ds d).2) at hx0
        by_cases q : c < hd + n - g
        · rw [if_pos q] at hx0
          cases hx0
        · rw [if_neg q] at hx0
          injection hx0 with e1 e2
          rw [e1, e2]
          exact good_carTo hg hi h0 (by omega) hh'
    obtain ⟨hg2, hlen2⟩ := hgo
    refine ok_tl (ok_ifS (b := true) (tt_test ((ty_eqS (i := "let") (j := "let") (ty_ixT (ds := [.str "let", .int h2, dsD ds2]) (i := 0) (ty_var rfl) ty_int rfl) ty_str).to (by rw [decide_eq_true rfl]))) (fun _ => ?_) fun z => nomatch z)
    refine ok_assoc (ok_par (P1 := IV h2) (P2 := DV (dsD ds2)) (ta_cons (ty_ixT (ds := [.str "let", .int h2, dsD ds2]) (i := 1) (ty_var rfl) ty_int rfl) (ta_cons (ty_ixT (ds := [.str "let", .int h2, dsD ds2]) (i := 2) (ty_var rfl) ty_int rfl) ta_nil)) ?_)
    refine ok_ifS (b := decide ((10 : Int) ^ 39 < h2) || !ds2.any wrote) (tt_or (a := decide ((10 : Int) ^ 39 < h2)) (b := !ds2.any wrote) (tt_test (ty_gt (ty_var rfl) (ty_pow ty_int ty_int ⟨by omega, by omega, by decide⟩))) fun _ => tt_not (tt_B (ty_anyF (xs := ds2) (f := wrote) (TyN.ty (tn_lcm ds2 dD (fun d => PyData.bool (wrote d)) (ti_tup (ty_var rfl)) own3 mon3 (by omega) fun d _ => ⟨_, tg3, ty_wrote (ty_var rfl)⟩))))) (fun _ => ok_retS ty_bl hr') fun z => ok_nextS ?_
    rw [Bool.or_eq_false_iff] at z
    have := of_decide_eq_false z.1
    exact ok_finX (S := Int × List Dd) (h2, ds2) ⟨hg2, by show h2 ≤ 10 ^ 39; omega, by show 1 ≤ ds2.length; omega, by show ds2.length ≤ 7; omega⟩ rfl (by walk_at "sub") fun _ _ a => a
def wordZ : Wi → Str
  | .opn _ _ => "open"
  | .row _ _ _ => "row"
theorem judge_open : judgeOf K "open" = some (He.ga K "is_open_wish") := by
  unfold judgeOf
  rw [if_neg (by decide +kernel), if_pos rfl]
theorem judge_row : judgeOf K "row" = some (He.ga K "is_row_wish") := by
  unfold judgeOf
  rw [if_pos rfl]
theorem judge_val_row {a b c : V} : valV (mergeK [] [((.inr "row" : Key), a), (.inr "open", b), (.inr "wait", c)]) (.inr "row") = some a := rfl
theorem judge_val_open {a b c : V} : valV (mergeK [] [((.inr "row" : Key), a), (.inr "open", b), (.inr "wait", c)]) (.inr "open") = some b := rfl
theorem row_ne_open (T : Txt K mg) : He.ga K "is_row_wish" ≠ He.ga K "is_open_wish" := fun e => by
  obtain ⟨fd1, F1⟩ := T.fn_is_row_wish
  obtain ⟨fd2, F2⟩ := T.fn_is_open_wish
  obtain ⟨oc, od, dV, kV, doc, pm, an, cdv, ct, osl, e1, l1, _⟩ := F1.ex
  obtain ⟨oc', od', dV', kV', doc', pm', an', cdv', ct', osl', e2, l2, _⟩ := F2.ex
  have l3 : K.lookup (He.ga K "is_row_wish") = some _ := l1
  have l4 : K.lookup (He.ga K "is_open_wish") = some _ := l2
  rw [e, l4] at l3
  have h : fd2 = fd1 := by
    injection l3 with l3
    injection l3 with _ _ l3
    injection l3
  have h2 : fd2.name = fd1.name := by rw [h]
  rw [e1, e2] at h2
  have h3 : ("is_open_wish" : Str) = "is_row_wish" := h2
  exact absurd h3 (by decide +kernel)
theorem pure_is_wish (T : Txt K mg) (h : sp_is_wish K vs H Q E) : t_is_wish K (endsOf Q) (L2.start N_is_wish vs) H := enter h fun Ps P hR C hW hr hf => by
  obtain ⟨c, hd, ds, w, rfl, hw, hl, rfl⟩ := hR
  obtain ⟨z, hz⟩ : ∃ z : Str, z = wordZ w := ⟨_, rfl⟩
  obtain ⟨L, hL⟩ : ∃ L : List PyData, wD w = .tuple L := by cases w <;> exact ⟨_, rfl⟩
  have hL4 : L.length = 4 := by
    cases w <;> (have e := PyData.tuple.inj hL; rw [← e] <;> rfl)
  have h0 : ∀ {G : Gm} {W : Wd}, G[1]? = some (some (DV (wD w))) → Ty W G (tOp (rIxA K) (tVar 1) (tC (.int 0))) (DV (.str z)) := fun {G W} g => by
    cases w with
    | opn a b =>
      rw [hz]
      exact ty_ixT (ds := [.str "open", .int a, .int b, e0]) (i := 0) (ty_var g) ty_int rfl
    | row d a b =>
      rw [hz]
      exact ty_ixT (ds := [.str "row", .int (d : Nat), .int a, .int b]) (i := 0) (ty_var g) ty_int rfl
  have hT : ∀ {G : Gm} {W : Wd}, G[1]? = some (some (DV (wD w))) → Ty W G (tVar 1) (DV (.tuple L)) := fun g => (ty_var g).is hL
  refine ok_pass (tt_or (a := false) (b := false) (tt_not (b := true) (tt_B (ty_isi (d := .tuple L) (hT rfl) kit_tt))) fun _ => tt_or (a := false) (b := false) (tt_test ((ty_lt (ty_lenT (hT rfl)) ty_int).to (by rw [hL4] <;> rfl))) fun _ => tt_not (b := true) (tt_B (ty_isi (d := .str z) (h0 rfl) kit_ss))) ?_
  have hzz : z = "row" ∨ z = "open" := by
    cases w with
    | opn a b => exact .inr hz
    | row d a b => exact .inl hz
  have hsize : ∀ {G : Gm} {W : Wd}, G[1]? = some (some (DV (wD w))) → Ty W G (tSizes K (tCons (tOp (rIxA K) (tVar 1) (tC (.int 0))) (tCons (tC (.int 0)) tNil))) (IV 4) := fun {G W} g σ F e H s j Q q => (ta_cons (h0 g) (ta_cons ty_int ta_nil)) σ F e H s j _ fun vs F1 H1 g1 p => by
    obtain ⟨v, u, rfl, p1, p2⟩ := p.two
    have p1' : Rp F1 v (.str z) := p1
    cases p1'
    have e2 := IV.v p2
    subst e2
    exact ⟨z, hzz, rfl, q _ F1 H1 g1 (.int _)⟩
  refine ok_pass (tt_test ((ty_neI (hsize rfl) (ty_lenT (hT rfl))).to (by rw [hL4] <;> rfl))) ?_
  obtain ⟨fa, hfa⟩ : ∃ fa : Addr, judgeOf K z = some fa ∧ ((fa = He.ga K "is_row_wish" ∧ isOpn w = false) ∨ (fa = He.ga K "is_open_wish" ∧ isOpn w = true)) := by
    cases w with
    | opn a b =>
      refine ⟨He.ga K "is_open_wish", ?_, .inr ⟨rfl, rfl⟩⟩
      rw [hz]
      exact judge_open
    | row d a b =>
      refine ⟨He.ga K "is_row_wish", ?_, .inl ⟨rfl, rfl⟩⟩
      rw [hz]
      exact judge_row
  obtain ⟨kv, hkv⟩ : ∃ kv : List (Key × V), kv = mergeK [] [(.inr "row", .ref (He.ga K "is_row_wish")), (.inr "open", .ref (He.ga K "is_open_wish")), (.inr "wait", .ref (He.ga K "is_wait_wish"))] := ⟨_, rfl⟩
  have hval : valV kv (.inr z) = some (.ref fa) := by
    rw [hkv]
    rcases hfa.2 with ⟨e, ho⟩ | ⟨e, ho⟩
    · cases w with
      | opn a b => cases ho
      | row d a b =>
        rw [hz, e]
        exact judge_val_row
    · cases w with
      | opn a b =>
        rw [hz, e]
        exact judge_val_open
      | row d a b => cases ho
  refine ok_asg (P := XV (.ref fa)) (fun σ F e H s j Q q p hp => ?_) ?_
  · have n1 := Go.new (o := .dK kv) s j hp
    have s1 := n1.sm s j
    have hup : upd (upd H p (.dK [])) p (.dK kv) = upd H p (.dK kv) := upd_upd
    refine ⟨upd_same, [(.inr "row", .ref (He.ga K "is_row_wish")), (.inr "open", .ref (He.ga K "is_open_wish")), (.inr "wait", .ref (He.ga K "is_wait_wish"))], rfl, by simp, ?_⟩
    rw [← hkv, hup]
    refine h0 rfl σ _ (e.mono (n1.le s)) _ s1 n1.j _ fun v F1 H1 g1 pv => ?_
    have pv' : Rp F1 v (.str z) := pv
    cases pv'
    exact ⟨p, _, rfl, .inl ⟨kv, .inr z, .inl (g1.sm s1 n1.j _ _ (g1.le s1 _ _ upd_same)), rfl, hval.symm⟩, q _ _ H1 (n1.trans j g1) rfl⟩
  have hjs : ∃ R : List PV → PV → Prop, judgeSp K fa = some (Pr R) ∧ R [SS K c hd ds, DV (wD w)] (BV true) := by
    rcases hfa.2 with ⟨e, ho⟩ | ⟨e, ho⟩
    · cases w with
      | opn a b => cases ho
      | row d a b => exact ⟨fun Ps P => ∃ (c h : Int) (ds : List Dd) (d : Nat) (a b : Int), Ps = [SS K c h ds, DV (wD (.row d a b))] ∧ WiOk ds (.row d a b) ∧ P = BV true, (by unfold judgeSp; rw [if_pos e] <;> rfl), c, hd, ds, d, a, b, rfl, hw, rfl⟩
    · cases w with
      | opn a b =>
        have e2 : ¬ fa = He.ga K "is_row_wish" := fun z => row_ne_open T (z.symm.trans e)
        exact ⟨fun Ps P => ∃ (c h : Int) (ds : List Dd) (a b : Int), Ps = [SS K c h ds, DV (wD (.opn a b))] ∧ WiOk ds (.opn a b) ∧ ds.length ≤ 100 ∧ P = BV true, (by unfold judgeSp; rw [if_neg e2, if_pos e] <;> rfl), c, hd, ds, a, b, rfl, hw, hl, rfl⟩
      | row d a b => cases ho
  obtain ⟨R, hR1, hR2⟩ := hjs
  refine ok_ret (fun σ F e H s j Q q => ?_) hr
  obtain ⟨v, h1, h2⟩ := e.2 2 _ rfl
  have h2' : v = .ref fa := h2
  subst h2'
  refine ⟨fa, Pr R, h1, hR1, (ta_cons (ty_var rfl) (ta_cons (ty_var rfl) ta_nil)) σ F e H s j _ fun vs F1 H1 g1 p1 => ?_⟩
  exact ⟨F1, _, _, g1.sm s j, p1, hR2, fun u H2 s2 p2 => q u _ H2 (g1.trans j (Go.same (g1.sm s j) g1.j s2)) p2⟩
end
end RC

end
section
set_option Elab.async false
set_option linter.all false
set_option maxRecDepth 100000
set_option maxHeartbeats 4000000
namespace RC
open PySem PySem.Spec PyProof.Rows L2
local macro_rules | `(tactic| walk_at "sub") => `(tactic| first | exact sub_nil | (apply sub_cons; walk_at "sub") | (apply sub_drop; walk_at "sub"))
local macro_rules | `(tactic| walk_at "hr") => `(tactic| (repeat apply Exists.intro) <;> (refine And.intro rfl ?_) <;> (repeat' apply And.intro) <;> (first | rfl | assumption | omega | skip))
local macro_rules | `(tactic| walk_at "ev") => `(tactic| first
  | exact ty_var rfl
  | exact ty_int
  | exact ty_bl
  | exact ty_non
  | exact ty_str
  | exact ta_nil
  | (apply ta_cons <;> walk_at "ev")
  | (apply tt_test <;> walk_at "ev")
  | (apply tt_B <;> walk_at "ev")
  | (apply tt_not <;> walk_at "ev")
  | (apply tt_and <;> (first | walk_at "ev" | (intro _; walk_at "ev")))
  | (apply tt_or <;> (first | walk_at "ev" | (intro _; walk_at "ev")))
  | (apply ty_and <;> (first | walk_at "ev" | (intro _; walk_at "ev")))
  | (apply ty_or <;> (first | walk_at "ev" | (intro _; walk_at "ev")))
  | (apply ty_not <;> walk_at "ev")
  | (apply ty_succ <;> walk_at "ev")
  | (apply ty_add <;> walk_at "ev")
  | (apply ty_sub <;> walk_at "ev")
  | (apply ty_lt <;> walk_at "ev")
  | (apply ty_le <;> walk_at "ev")
  | (apply ty_gt <;> walk_at "ev")
  | (apply ty_ge <;> walk_at "ev")
  | (apply ty_leleI <;> walk_at "ev")
  | (apply ty_ltltI <;> walk_at "ev")
  | (apply ty_isOpen <;> walk_at "ev")
  | (apply ty_isRow <;> walk_at "ev")
  | (apply ty_isWait <;> walk_at "ev")
  | (apply ty_o1 <;> walk_at "ev")
  | (apply ty_o2 <;> walk_at "ev")
  | (apply ty_o3 <;> walk_at "ev")
  | (apply ty_r1 <;> walk_at "ev")
  | (apply ty_r2 <;> walk_at "ev")
  | (apply ty_r3 <;> walk_at "ev")
  | (apply ty_eqI <;> walk_at "ev")
  | (apply ty_eqS <;> (first | walk_at "ev" | decide +kernel))
  | (apply ty_wrote <;> walk_at "ev")
  | (apply ty_bare <;> walk_at "ev")
  | (apply ty_isN <;> walk_at "ev")
  | (apply ty_notN <;> walk_at "ev")
  | (apply ty_neI <;> walk_at "ev")
  | (apply ty_neg <;> walk_at "ev")
  | (apply ty_inTN <;> walk_at "ev")
  | (apply ty_inLN <;> walk_at "ev")
  | (apply ty_niTN <;> walk_at "ev")
  | (apply ty_isi <;> (first | walk_at "ev" | exact kit_ii | exact kit_ib | exact kit_tt | exact kit_ss | exact kit_bb))
  | exact tyc_len (k := 0) rfl rfl
  | exact tyc_len (k := 1) rfl rfl
  | (apply ty_lenT <;> walk_at "ev")
  | (apply ty_lenL <;> walk_at "ev")
  | (apply ty_d0 <;> walk_at "ev")
  | (apply ty_d1 <;> walk_at "ev")
  | (apply ty_d2 <;> walk_at "ev")
  | (apply ty_di <;> (first | walk_at "ev" | assumption))
  | (apply ty_ixT <;> (first | walk_at "ev" | rfl | exact atI_map_nat _ (by assumption) | (show _ = _)))
  | (apply ty_ixL <;> (first | walk_at "ev" | rfl | exact atI_map_nat _ (by assumption) | (show _ = _)))
  | (apply ty_cells (by assumption) <;> walk_at "ev")
  | (apply ty_head (by assumption) <;> walk_at "ev")
  | (apply ty_deeds (by assumption) <;> walk_at "ev")
  | (apply ty_tupleL <;> walk_at "ev")
  | (apply ty_tupleT <;> walk_at "ev")
  | (apply ty_slT <;> walk_at "ev")
  | exact to_no
  | (apply to_some <;> walk_at "ev")
  | (apply ty_tup <;> (first | walk_at "ev" | decide | (simp; done)))
  | (apply ty_call <;> (first | walk_at "ev" | walk_at "hr")))
local macro_rules | `(tactic| walk_at "bv") => `(tactic| first | rfl | (refine congrArg BV ?_; simp; done) | (refine congrArg BV ?_; simp; omega) | (simp; done) | (simp; omega) | omega)
section
variable {K : PySem.W.Frag} {mg : Str → Option Value} {vs : List V} {H : Hp} {Q : VK} {E : XK}
theorem ok_forE {C : Ctx} {W : Cs} {G G0 : Gm} {D : Ends} {tl : TE} {g : TG} {tb rest : TS} {α : Type} {φ : List α → Prop} (enc : α → PyData) (hl : Ty (C.w W) G tl (ExV φ fun xs => DV (.list (xs.map enc)))) (hG : Sub G G0)
    (hs : ∀ L', Same C.L L' → ∀ xs, φ xs → ∀ x ∈ xs, ∃ G', TyG g (enc x) G0 G' ∧ Ok (C.up L') W G' tb { D with nx := At (C.up L') W G0 True, ct := At (C.up L') W G0 True, bk := rest D }) (hd : Ok C W G0 rest D) : Ok C W G (tSeq (tFor (iList K tl) g tb) rest) D := fun σ F H r e => by
  refine hl σ F e H r.sm r.j _ fun v F1 H1 g1 ⟨xs, hx, p⟩ => ?_
  have r1 := r.go g1
  have p' : Rp F1 v (.list (xs.map enc)) := p
  cases p' with
  | @lst a ys _ h1 rr =>
    refine ⟨a, rfl, ⟨ys, seqL h1 r1.sm⟩, ?_⟩
    obtain ⟨Gd, Y, w, hGd, hY⟩ := wd_list (K := K) h1 rr
    have hn : (xs.map enc).length = xs.length := List.length_map _
    have r1' : Run (C.up F1) W F1 H1 := ⟨r1.st, r1.old, r1.sm, r1.j, Same.refl F1, r1.fresh⟩
    refine for_it w (D := { D with nx := rest D }) (fun i => At (C.up F1) W G0 True) ⟨trivial, F1, r1', (e.mono (g1.le r.sm)).sub hG⟩ (fun i σ' H' _ ⟨_, F', r', _⟩ => hGd H' fun a o q => r'.sm a o (r'.lo a o q)) (fun i x σ' H' H'' hi ⟨_, F', r', e'⟩ hy => ?_) fun σ' H' ⟨_, F', r', e'⟩ => hd σ' F' H' (r'.lift r1.lo) e'
    obtain ⟨F2, d, g2, hdi, p2⟩ := hY (C.w W) i F' H' x H'' hi r'.lo r'.sm r'.j hy
    rw [List.getElem?_map] at hdi
    cases hxi : xs[i]? with
    | none =>
      rw [hxi] at hdi
      cases hdi
    | some a =>
      rw [hxi] at hdi
      have ed : enc a = d := Option.some.inj hdi
      subst ed
      obtain ⟨G', hg, k⟩ := hs F1 r1.lo xs hx a (List.mem_of_getElem? hxi)
      have r2 := r'.go g2
      exact hg σ' F2 H'' x _ (e'.mono (g2.le r'.sm)) r2.sm p2 fun σ2 e2 => k σ2 F2 H'' r2 e2
theorem shp_bool {k : Nat} (b : Bool) : Shp k (.bool b) := ⟨by simp [PyData.canLay0], by simp [PyData.depth]⟩
theorem ty_sameN {W : Wd} {G : Gm} {ta tb : TE} {d : PyData} (ha : Ty W G ta (DV d)) (hb : Ty W G tb (DV d)) (h : Shp 20 d) : Ty W G (tOp (rNeD K) ta tb) (BV false) := (ty_ne ha hb h.ok h.ok).to (by rw [eqv_self h] <;> rfl)
theorem ty_notB {W : Wd} {G : Gm} {ta : TE} {a : Bool} (ha : Ty W G ta (BV a)) : Ty W G (tOp rNotB ta (tC (.bl a))) (BV false) := ty_op ha ty_bl fun x y F H s j p1 p2 Q q => ⟨a, a, BV.v p1, BV.v p2, by
  rw [decide_eq_true rfl]
  exact q _ F H (Go.refl s j) (.bl _)⟩
theorem ok_go {C : Ctx} {W : Cs} {G : Gm} {t u : TS} {D : Ends} {σ : L2.St} {F H : Hp} (h : Ok C W G (tSeq t u) D) (r : Run C W F H) (e : Env G σ F) : tSeq t u D σ H := h σ F H r e
theorem s_asgP {te : TE} {rest : TS} {D : Ends} {σ : L2.St} {H : Hp} {i : Nat} (h : te σ H fun v H1 => rest D (σ.set i (some v)) H1) : tSeq (tAsg te (gName i)) rest D σ H := h
theorem great_nil {ds : List Dd} {lot : List Nat} {f : Nat → Int} {c : Int} : ((lot.filter fun d => decide (0 < nd ds d) && decide (c < f d)).length = 0) ↔ ∀ d ∈ lot, 0 < nd ds d → f d ≤ c := by
  rw [List.length_eq_zero_iff, List.filter_eq_nil_iff]
  constructor
  · intro z d hd hp
    have := z d hd
    rw [Bool.and_eq_true, decide_eq_true_eq, decide_eq_true_eq] at this
    by_cases q : f d ≤ c
    · exact q
    · exact absurd ⟨hp, by omega⟩ this
  · intro z d hd y
    rw [Bool.and_eq_true, decide_eq_true_eq, decide_eq_true_eq] at y
    have := z d hd y.1
    omega
theorem pure_law (T : Txt K mg) (h : sp_law K vs H Q E) : t_law K (endsOf Q) (L2.start N_law vs) H := by
  obtain ⟨a, ns, rfl, hsq, hns, k⟩ := h
  show tSeq _ _ (endsOf Q) [some (.ref a), none, none, none, none, none, none, none, none, none, none, none, none, none, none, none, none, none, none] H
  refine s_asgP ⟨_, rfl, a, ns, rfl, hsq, fun sc tp H' sm hsc htp hne h1 h2 => ?_⟩
  have S := T.std
  obtain ⟨F, hFd⟩ : ∃ F : Hp, F = upd (fun _ => none) sc (.lst (ns.map V.int)) := ⟨_, rfl⟩
  have hFsc : F sc = some (.lst (ns.map V.int)) := by rw [hFd, upd_same]
  have hFo : ∀ b, b ≠ sc → F b = none := fun b hb => by rw [hFd, upd_ne hb]
  have hsame : Same F H' := fun b o hb => by
    by_cases e : b = sc
    · subst e
      rw [hFsc] at hb
      rw [← hb]
      exact h1
    · rw [hFo b e] at hb
      cases hb
  obtain ⟨C, hC⟩ : ∃ C : Ctx, C = ⟨tapeW tp, F, H', F⟩ := ⟨_, rfl⟩
  have hW : C.W0 = tapeW tp := by rw [hC]
  have hr : Rets C (endsOf Q) (BV true) := fun W v F1 H1 r p => by
    have e := BV.v p
    subst e
    exact k H1
  refine ok_go (C := C) (W := []) (F := F) (G := [none, some (XV (.ref tp)), none, none, none, none, none, none, none, none, none, none, none, none, none, none, none, none, none]) ?_ ⟨?_, ?_, ?_, ?_, ?_, fun _ z => nomatch z⟩ ⟨rfl, fun i P hP => ?_⟩
  · skip
    refine ok_forL (List.range 2) nD (fun _ => []) (fun _ => [none, some (XV (.ref tp)), none, none, none, none, none, none, none, none, none, none, none, none, none, none, none, none, none]) (fun _ => True) (ty_rg1 (n := 2) ty_int (by omega)) trivial rfl sub_refl (fun L' hL i x hx _ => ?_) fun _ => ok_ret ty_bl hr
    have hW' : (C.up L').W0 = tapeW tp := hW
    have hr' := hr.up hL
    refine ⟨_, tg_name, ?_⟩
    refine ok_asgGX (φ := fun p : Pressed => Drawn p.h p.ds ∧ Good p.c p.h p.ds ∧ easyB p.c p.h p.ds = true ∧ WiOk p.ds p.w) (d := fun p => .tuple [.int p.c, .int p.h, dsD p.ds, wD p.w, oN (lMust p.c p.h p.ds p.w)])
      (ty_callTX (Ps := [IN fun r => 1 ≤ r ∧ r ≤ 7, IN fun r => r ∈ [(2 : Int), 5, 9]]) hW' rfl (ta_cons (ty_addN (φ := fun y => y = 1) (ψ := fun r => 0 ≤ r ∧ r < 7) (ty_IN ty_int rfl) (ty_pick hW' rfl ty_int (by omega) (by omega)) fun i j h1 h2 => by omega) (ta_cons (ty_any_ [2, 5, 9] hW' rfl (tn_lst (ds := [.int 2, .int 5, .int 9]) (ta_cons ty_int (ta_cons ty_int (ta_cons ty_int ta_nil))) (by simp)) (by simp) (by simp)) ta_nil)) fun vs F hA => ?_)
      (fun p => tg_tup (tgs_cons tg_name (tgs_cons tg_name (tgs_cons tg_name (tgs_cons tg_name (tgs_cons tg_name tgs_nil)))))) fun p hp => ?_
    · obtain ⟨v, w, rfl, ⟨y, ev, hy⟩, z, ew, hz⟩ := hA.two
      subst ev
      subst ew
      have hz' : z = 2 ∨ z = 5 ∨ z = 9 := by simpa using hz
      have e1 : y = ((y.toNat : Nat) : Int) := by omega
      have e2 : z = ((z.toNat : Nat) : Int) := by omega
      refine ⟨[IV ((y.toNat : Nat) : Int), IV ((z.toNat : Nat) : Int)], ⟨?_, ?_, trivial⟩, y.toNat, z.toNat, rfl, by omega, by omega, by omega, by omega, rfl⟩
      · show Rp F (.int y) (.int ((y.toNat : Nat) : Int))
        rw [← e1]
        exact .int _
      · show Rp F (.int z) (.int ((z.toNat : Nat) : Int))
        rw [← e2]
        exact .int _
    obtain ⟨c, hd, ds, w⟩ := p
    obtain ⟨hdr, hg, he, hw⟩ := hp
    have hdr' : Drawn hd ds := hdr
    have hg' : Good c hd ds := hg
    have he' : easyB c hd ds = true := he
    have hw' : WiOk ds w := hw
    have hlen : ds.length ≤ 7 := hdr'.len.2
    have hlen1 : 1 ≤ ds.length := hdr'.len.1
    have hnn : ∀ d ∈ ds, 0 ≤ d.2 := fun d hm => (hdr'.nd d hm).1
    have hnl := hdr'.nl
    have hnb : NL (behind hd ds w).2 := nl_behind hnl (wi_in hw')
    obtain ⟨hmq, hmw⟩ := must_eq (h := hd) hnl he' hw'
    refine ok_asg (P := SS K c hd ds) (ty_make (ta_cons (ty_var (P := IV c) rfl) (ta_cons (ty_var (P := IV hd) rfl) (ta_cons (ty_var (P := DV (dsD ds)) rfl) ta_nil))) hg') ?_
    obtain ⟨o, ho⟩ : ∃ o, o = lMust c hd ds w := ⟨_, rfl⟩
    have hfin : ∀ {D : Ends}, Rets (C.up L') D (BV true) → (∀ σ H, At (C.up L') [] [none, some (XV (.ref tp)), none, none, none, none, none, none, none, none, none, none, none, none, none, none, none, none, none] True σ H → D.nx σ H) → Ok (C.up L') [] [none, some (XV (.ref tp)), none, some (IV c), some (IV hd), some (DV (dsD ds)), some (DV (wD w)), some (DV (oN o)), some (SS K c hd ds), none, none, none, none, none, none, none, none, none, none] (tIfS (tNot (tB (tCall (sp_law_led_right K) [] L2.E0 (tCons (tVar 1) (tCons (tVar 3) (tCons (tVar 4) (tCons (tVar 5) (tNil)))))))) (tRet (tC (.bl false))) (tNext)) D := fun hrD hn =>
      ok_tl (ok_pass (tt_not (b := true) (tt_B (ty_callT (P := BV true) hW' rfl (ta_cons (ty_var (P := IV c) rfl) (ta_cons (ty_var (P := IV hd) rfl) (ta_cons (ty_var (P := DV (dsD ds)) rfl) ta_nil))) ⟨c, hd, ds, rfl, hg', by have := hdr'.hi; omega, hlen1, hlen, rfl⟩))) (ok_fin trivial rfl (by walk_at "sub") hn))
    obtain ⟨mm, hmm⟩ : ∃ mm : Nat, mm = (match o with | none => 0 | some m => min m 5) := ⟨_, rfl⟩
    have hmm5 : mm ≤ 5 := by
      rw [hmm]
      cases o with
      | none => exact Nat.zero_le _
      | some m => exact Nat.min_le_right _ _
    rw [show (lMust (Pressed.mk c hd ds w).c (Pressed.mk c hd ds w).h (Pressed.mk c hd ds w).ds (Pressed.mk c hd ds w).w) = o from ho.symm]
    refine ok_forE (φ := fun Ls : List (List Nat) => (∀ L ∈ Ls, Lot L mm) ∧ Ls.length ≤ 32) (G0 := [none, some (XV (.ref tp)), none, some (IV c), some (IV hd), some (DV (dsD ds)), some (DV (wD w)), some (DV (oN o)), some (SS K c hd ds), none, none, none, none, none, none, none, none, none, none]) lotD (ty_call (Ps := [IV (mm : Nat)]) (ta_cons ?_ ta_nil) ⟨mm, hmm5, rfl, rfl⟩) (by walk_at "sub") (fun L2 hL2 Ls hLs lot hlot => ?_) (hfin hr' fun _ _ a => a)
    · cases o with
      | none =>
        rw [hmm]
        exact ty_if (b := false) (tt_test (ty_notN (d := .none) (ty_var rfl))) (fun z => nomatch z) fun _ => ty_int
      | some m =>
        refine (ty_if (b := true) (tt_test (ty_notN (d := .int (m : Nat)) (ty_var rfl))) (fun _ => ty_min2 (i := (m : Nat)) (j := 5) (ty_var rfl) ty_int) fun z => nomatch z).to ?_
        rw [hmm]
        show IV (if (5 : Int) < (m : Nat) then 5 else (m : Nat)) = IV ((min m 5 : Nat) : Int)
        by_cases q : (5 : Int) < (m : Nat)
        · rw [if_pos q, Nat.min_eq_right (by omega)] <;> rfl
        · rw [if_neg q, Nat.min_eq_left (by omega)]
    have hlot0 := hLs.1 lot hlot
    have hr2 := hr'.up hL2
    refine ⟨_, tg_name, ?_⟩
    cases o with
    | none =>
      have hl0 : lot = [] := by
        cases lot with
        | nil => rfl
        | cons b l =>
          have := hlot0.2 b List.mem_cons_self
          rw [hmm] at this
          exact absurd this (Nat.not_lt_zero _)
      subst hl0
      have hpn : pMust c hd ds w = none := hmq.trans ho.symm
      refine ok_if (b := true) (tt_test (ty_isN (d := .none) (ty_var rfl))) (fun _ => ?_) fun z => nomatch z
      refine ok_tl (ok_pass (tt_test (ty_notB (ty_call (P := BV false) (ta_cons (ty_var rfl) (ta_cons (ty_var rfl) (ta_cons (ty_var rfl) ta_nil))) ⟨c, hd, ds, w, [], rfl, hw', by omega, hnl, he', hnb, hnn, by rw [hpn]; exact ⟨rfl, rfl⟩⟩))) (ok_fin trivial rfl (by walk_at "sub") fun _ _ a => a))
    | some m =>
      have hpm : pMust c hd ds w = some m := hmq.trans ho.symm
      obtain ⟨hok, hlow, _⟩ := lm_ok (n := ds.length + 1) (k := 0) ho.symm
      have hmwm := hmw m ho.symm
      have hml : m ≤ ds.length := Nat.le_trans hmwm wm_le
      have hwd : ∀ d a b, w = .row d a b → m ≤ d := fun d a b e => by
        subst e
        have := of_decide_eq_false hlow
        omega
      have hlot' : Lot lot m := ⟨hlot0.1, fun i hi => by
        have := hlot0.2 i hi
        rw [hmm] at this
        have h3 : min m 5 ≤ m := Nat.min_le_left _ _
        exact Nat.lt_of_lt_of_le this h3⟩
      have hll := lot_len hlot'
      refine ok_if (b := false) (tt_test (ty_isN (d := .int (m : Nat)) (ty_var rfl))) (fun z => nomatch z) fun _ => ?_
      refine ok_asgG (d := hdD (leftF hd ds m lot)) (ty_call (ta_cons (ty_var (P := IV hd) rfl) (ta_cons (ty_var (P := DV (dsD ds)) rfl) (ta_cons (ty_var (P := IV (m : Nat)) rfl) (ta_cons (ty_var (P := DV (lotD lot)) rfl) ta_nil)))) ⟨hd, ds, m, lot, rfl, hml, by omega, hlot', hnn, rfl⟩) tg2 ?_
      refine ok_asg (P := SS K c (leftF hd ds m lot).1 (leftF hd ds m lot).2) (ty_call (ta_cons (ty_var rfl) (ta_cons (ty_var rfl) (ta_cons (ty_var (P := DV (lotD lot)) rfl) ta_nil))) ⟨c, hd, ds, w, m, lot, rfl, hw', by omega, hnl, he', hnb, hpm, hml, hlot', hnn, rfl⟩) ?_
      refine ok_pass (tt_test (ty_sameN (d := .tuple [.int c, .int (leftF hd ds m lot).1, dsD (leftF hd ds m lot).2]) (ty_tup (ds := [.int c, .int (leftF hd ds m lot).1, dsD (leftF hd ds m lot).2]) (ta_cons (ty_cells S (ty_var (P := SS K c (leftF hd ds m lot).1 (leftF hd ds m lot).2) rfl)) (ta_cons (ty_head S (ty_var (P := SS K c (leftF hd ds m lot).1 (leftF hd ds m lot).2) rfl)) (ta_cons (ty_deeds S (ty_var (P := SS K c (leftF hd ds m lot).1 (leftF hd ds m lot).2) rfl)) ta_nil))) (by simp)) (ty_tup (ds := [.int c, .int (leftF hd ds m lot).1, dsD (leftF hd ds m lot).2]) (ta_cons (ty_var rfl) (ta_cons (ty_var rfl) (ta_cons (ty_var rfl) ta_nil))) (by simp)) ?_)) ?_
      · exact (Shp.tup (k := 3) fun e he => by
          rcases List.mem_cons.mp he with z | z
          · rw [z]
            exact .int _
          · rcases List.mem_cons.mp z with y | y
            · rw [y]
              exact .int _
            · rw [List.mem_singleton.mp y]
              exact shp_dsD _).le (by omega)
      obtain ⟨due, hdue⟩ : ∃ due, due = canF c hd ds w m lot := ⟨_, rfl⟩
      refine ok_asg (P := BV due) ((ty_call (ta_cons (ty_var (P := IV c) rfl) (ta_cons (ty_var (P := IV hd) rfl) (ta_cons (ty_var (P := DV (dsD ds)) rfl) (ta_cons (ty_var (P := DV (wD w)) rfl) (ta_cons (ty_var (P := IV (m : Nat)) rfl) (ta_cons (ty_var (P := DV (lotD lot)) rfl) ta_nil)))))) ⟨c, hd, ds, w, m, lot, rfl, hml, hlot', by omega, hw', hwd, hnn, rfl⟩).to (by rw [hdue])) ?_
      refine ok_asg (P := BV due) ((ty_call (P := BV (canF c hd ds w m lot)) (ta_cons (ty_var (P := SS K c hd ds) rfl) (ta_cons (ty_var (P := DV (wD w)) rfl) (ta_cons (ty_var (P := DV (lotD lot)) rfl) ta_nil))) ⟨c, hd, ds, w, lot, rfl, hw', by omega, hnl, he', hnb, hnn, by rw [hpm]; exact ⟨hml, hlot', hwd, rfl⟩⟩).to (by rw [hdue])) ?_
      refine ok_pass (tt_or (a := false) (b := false) (tt_not (b := true) (tt_B (ty_call (ta_cons (ty_var (P := IV c) rfl) (ta_cons (ty_var (P := IV hd) rfl) (ta_cons (ty_var (P := DV (dsD ds)) rfl) (ta_cons (ty_var (P := IV (m : Nat)) rfl) (ta_cons (ty_var (P := DV (lotD lot)) rfl) ta_nil))))) ⟨c, hd, ds, m, lot, rfl, hmwm, hlot', hg', he', rfl⟩))) fun _ => tt_or (a := false) (b := false) (tt_not (b := true) (tt_B (ty_isi (d := .bool due) (ty_var rfl) kit_bb))) fun _ => tt_test (ty_sameN (d := .bool due) (ty_var rfl) (ty_var rfl) (shp_bool due))) ?_
      refine ok_asg (P := LV (lot.map fun d => PyData.int (sumF ds w m lot d))) (TyN.ty (tn_lcm lot nD (fun d => PyData.int (sumF ds w m lot d)) (ti_tup (ty_var (P := DV (lotD lot)) rfl)) own_name mon_name (by omega) fun d hd' => ⟨_, tg_name, ty_call (ta_cons (ty_var (P := DV (dsD ds)) rfl) (ta_cons (ty_var (P := DV (wD w)) rfl) (ta_cons (ty_var (P := IV (m : Nat)) rfl) (ta_cons (ty_var (P := DV (lotD lot)) rfl) (ta_cons (ty_var (P := IV (d : Nat)) rfl) ta_nil))))) ⟨ds, w, m, lot, d, rfl, hml, hlot', by omega, hd', hwd, rfl⟩⟩)) ?_
      refine ok_pass (tt_test (ty_sameN (d := .list (lot.map fun d => PyData.int (sumF ds w m lot d))) (TyN.ty (tn_lcm lot nD (fun d => PyData.int (sumF ds w m lot d)) (ti_tup (ty_var (P := DV (lotD lot)) rfl)) own_name mon_name (by omega) fun d hd' => ⟨_, tg_name, ty_call (ta_cons (ty_var (P := SS K c hd ds) rfl) (ta_cons (ty_var (P := DV (wD w)) rfl) (ta_cons (ty_var (P := DV (lotD lot)) rfl) (ta_cons (ty_var (P := IV (d : Nat)) rfl) ta_nil)))) ⟨c, hd, ds, w, m, lot, d, rfl, hw', by omega, hnl, he', hnb, hpm, hml, hlot', hnn, hd', rfl⟩⟩)) (ty_var rfl) ?_)) ?_
      · exact (Shp.lst (k := 1) fun e he => by
          obtain ⟨d, _, rfl⟩ := List.mem_map.mp he
          exact .int _).le (by omega)
      refine ok_asg (P := LV ((lot.filter fun d => decide (0 < nd ds d) && decide (c < sumF ds w m lot d)).map fun d => PyData.int (sumF ds w m lot d))) (TyN.ty (tn_lcf lot (fun d => PyData.tuple [nD d, .int (sumF ds w m lot d)]) (fun d => decide (0 < nd ds d) && decide (c < sumF ds w m lot d)) (fun d => PyData.int (sumF ds w m lot d)) (ti_zip (xs := lot) (f := nD) (k := fun d => PyData.int (sumF ds w m lot d)) (ty_var (P := DV (lotD lot)) rfl) (ty_var rfl)) own2 mon2 (by omega) fun d hd' => ⟨_, tg2, tt_and (a := decide (0 < nd ds d)) (tt_test (ty_gt (ty_d1 (ty_di (ty_var (P := DV (dsD ds)) rfl) (ty_var (P := IV (d : Nat)) rfl) (getD_lt (d := (none, 0)) (by have := hlot'.2 d hd'; omega)))) ty_int)) fun _ => tt_test (ty_gt (ty_var rfl) (ty_var (P := IV c) rfl)), fun _ => ty_var rfl⟩)) ?_
      have hcan := can_eq hg' hw' hok hmwm hlot' hwd
      have hb : due = (decide (((((lot.filter fun d => decide (0 < nd ds d) && decide (c < sumF ds w m lot d)).map fun d => PyData.int (sumF ds w m lot d)).length : Nat) : Int) = 0) && decide (ownF ds w m lot ≤ c)) := by
        rw [hdue]
        apply bool_iff
        rw [hcan, Bool.and_eq_true, decide_eq_true_eq, decide_eq_true_eq, List.length_map, ← great_nil]
        exact ⟨fun z => ⟨by have := z.1; omega, z.2⟩, fun z => ⟨by have := z.1; omega, z.2⟩⟩
      refine ok_tl (ok_pass (tt_test (ty_sameN (d := .bool due) (ty_var rfl) ((ty_and (ty_eqI (ty_lenL (ty_var rfl)) ty_int) fun _ => ty_le (ty_call (ta_cons (ty_var (P := DV (dsD ds)) rfl) (ta_cons (ty_var (P := DV (wD w)) rfl) (ta_cons (ty_var (P := IV (m : Nat)) rfl) (ta_cons (ty_var (P := DV (lotD lot)) rfl) ta_nil)))) ⟨ds, w, m, lot, rfl, hml, hlot', by omega, hw', hwd, rfl⟩) (ty_var (P := IV c) rfl)).to (congrArg BV hb.symm)) (shp_bool due))) (ok_fin trivial rfl (by walk_at "sub") fun _ _ a => a))
  · rw [hC]
    exact Stp.refl
  · rw [hC]
    exact fun _ _ => rfl
  · exact hsame
  · rw [hC]
    exact adds_nil.mpr ⟨hFo tp (Ne.symm hne), sc, 0, 0, 1, 0, ns, h2, hFsc, by omega⟩
  · rw [hC]
    exact Same.refl F
  · match i, hP with
    | 1, hP =>
      have e := Option.some.inj (Option.some.inj hP)
      subst e
      exact ⟨_, rfl, rfl⟩
    | 0, hP => exact nomatch hP
    | 2, hP => exact nomatch hP
    | 3, hP => exact nomatch hP
    | 4, hP => exact nomatch hP
    | 5, hP => exact nomatch hP
    | 6, hP => exact nomatch hP
    | 7, hP => exact nomatch hP
    | 8, hP => exact nomatch hP
    | 9, hP => exact nomatch hP
    | 10, hP => exact nomatch hP
    | 11, hP => exact nomatch hP
    | 12, hP => exact nomatch hP
    | 13, hP => exact nomatch hP
    | 14, hP => exact nomatch hP
    | 15, hP => exact nomatch hP
    | 16, hP => exact nomatch hP
    | 17, hP => exact nomatch hP
    | 18, hP => exact nomatch hP
    | n + 19, hP => exact nomatch hP
end
end RC

end
section
set_option Elab.async false
set_option linter.all false
set_option maxRecDepth 100000
set_option maxHeartbeats 2000000
/-! RC: what the derivations of single places need. -/
namespace RC
open PySem PySem.Spec PyProof.Rows L2
/-- what the top has left, the dict SIZES too -/
structure TxtW (w : World) (K : PySem.W.Frag) (mg : Str → Option Value) : Prop extends Txt K mg where
  sz : ∃ es n, KDict K w (He.ga K "SIZES") es n
  szr : ∃ t, PySem.W.nsIn K (He.ga K "SIZES") "row" = some (some (.int 4 t))
  szo : ∃ t, PySem.W.nsIn K (He.ga K "SIZES") "open" = some (some (.int 4 t))
  szg : mg "SIZES" = some (.ref (He.ga K "SIZES"))
section
variable {P : Program} {w : World} {K : PySem.W.Frag} {mg : Str → Option Value} {base : Heap}
theorem pe_sizes {X : Cx} {e f : Expr} {ty tx : TE} {p apos cpos : Pos} (T : TxtW X.w X.K X.mg) {j : Nat} (hr : Room j X.A) (he : PE X e ty) (hf : PE X f tx) (hg : Gl X "SIZES" := by rfl) (m : M2 X (.Name "SIZES" p) "get" apos e f cpos := by exact ⟨rfl, rfl, rfl, rfl⟩) :
    PE X (.Call (.Attribute (.Name "SIZES" p) "get" apos) [e, f] [] cpos) (tSizes X.K (tCons ty (tCons tx tNil))) := by
  obtain ⟨es, n, D⟩ := T.sz
  obtain ⟨t4, h4⟩ := T.szr
  obtain ⟨t5, h5⟩ := T.szo
  refine ⟨fun pins s σ H Q I h => ?_⟩
  refine wpAny_Call_method m.base m.few m.line PySem.F.plainAttrs_dict PySem.F.slot_dict_get PySem.F.type_dict_get (thn ((pe_glob (v := .ref (He.ga X.K "SIZES")) hg T.szg rfl).run pins s σ H (fun x H1 => x = .ref (He.ga X.K "SIZES") ∧ ty σ H1 fun y H2 => tx σ H2 fun z H3 => ∃ u : Str, (u = "row" ∨ u = "open") ∧ [y, z] = [.str u, .int 0] ∧ Q (.int 4) H3) I ⟨rfl, h⟩) fun u s1 ⟨x, H1, I1, rx, ex, q1⟩ => ?_)
  subst ex
  obtain rfl : u = Value.ref (He.ga X.K "SIZES") := rx
  have hm1 := PySem.W.mapOf_K (prog := X.prog) (w := X.w) I1.kIn D.at_ D.lit
  refine ⟨hm1.typeIs, fun b q => ?_, ?_⟩
  · cases q
    exact ⟨_, I1.kIn _ _ D.at_, rfl⟩
  rw [m.trees]
  refine Calls.callWith_builtin rfl (Calls.evalArgs_plain (Calls.spliced_cons (thn (he.run pins s1 σ H1 _ I1 q1) fun iv s2 ⟨y, H2, I2, ry, q2⟩ =>
    Calls.spliced_cons (thn (hf.run pins s2 σ H2 _ I2 q2) fun fv s3 ⟨z, H3, I3, rz, u, hu, ev, q3⟩ => Calls.spliced_nil ?_))))
  injection ev with ey ez
  injection ez with ez _
  subst ey
  subst ez
  obtain ⟨ty', rfl⟩ := ry
  have hm3 := PySem.W.mapOf_K (prog := X.prog) (w := X.w) I3.kIn D.at_ D.lit
  refine call_meetsIn PySem.F.slot_dict_get hm3.typeIs PySem.F.entry_dict_get (PySem.F.args_dict_get_3 _ _ _) (meets_dict_get_default (PySem.strKind X.prog X.w) (He.ga X.K "SIZES") (PySem.strKind_is X.prog X.w u ty') D.low _) ⟨_, hm3, ?_⟩
  have hv : ∃ t, PySem.W.nsIn X.K (He.ga X.K "SIZES") u = some (some (.int 4 t)) := by
    rcases hu with e | e
    · rw [e]
      exact ⟨t4, h4⟩
    · rw [e]
      exact ⟨t5, h5⟩
  obtain ⟨t, hv⟩ := hv
  rw [PySem.W.find_K D.at_ hv]
  exact ⟨.int 4, H3, I3.tok _, ⟨t, rfl⟩, q3⟩
theorem pe_judges {X : Cx} {i : Expr} {t : TE} {p1 p2 p3 p4 p5 p6 dpos pos : Pos} (T : TxtW X.w X.K X.mg) {j : Nat} (hr : Room j X.A) (hi : PE X i t) (g1 : Gl X "ROW" := by rfl) (g2 : Gl X "OPEN" := by rfl) (g3 : Gl X "WAIT" := by rfl) (g4 : Gl X "is_row_wish" := by rfl) (g5 : Gl X "is_open_wish" := by rfl) (g6 : Gl X "is_wait_wish" := by rfl) (hs : NoSl i := by exact fun _ _ => rfl) :
    PE X (.Subscript (.Dict [some (.Name "ROW" p1), some (.Name "OPEN" p2), some (.Name "WAIT" p3)] [.Name "is_row_wish" p4, .Name "is_open_wish" p5, .Name "is_wait_wish" p6] dpos) i pos) (tJudges X.K t) :=
  pe_dget (hu_of hr) (pe_disp (pps_cons (pe_globS g1 T.c_ROW) (pe_glob g4 T.g_is_row_wish rfl) (pps_cons (pe_globS g2 T.c_OPEN) (pe_glob g5 T.g_is_open_wish rfl) (pps_cons (pe_globS g3 T.c_WAIT) (pe_glob g6 T.g_is_wait_wish rfl) pps_nil))) rfl rfl (by simp) (by simp)) hi hs
end
end RC

end
section
set_option Elab.async false
set_option linter.all false
set_option maxRecDepth 100000
set_option maxHeartbeats 2000000
namespace RC
open PySem PySem.Spec PyProof.Rows L2
section
variable {P : Program} {w : World} {K : PySem.W.Frag} {mg : Str → Option Value} {base : Heap}
theorem der_law_tape (T : TxtW w K mg) {cdv : Value} {A : Around} {outer : List PySem.Env} {s : Shared} {H : Hp} {E : XK} {f : Addr} (hr : Room 0 (A.deeper (envOfC "_law_tape" (defScope s_law_tape) s.heap.objs.size f cdv))) :
    PSs (cxOf L2.CX0 P w K mg base N_law_tape "_law_tape" (defScope s_law_tape) f cdv A outer s H E).nox (defBody s_law_tape) (t_law_tape K) :=
  pss_one (ps_ret (pe_lst (pa_cons (pe_callTy call_listS rfl T.b_list boot_list (pa_cons (pv 0) (pa_nil))) (pa_cons (pe_int) (pa_cons (pe_int) (pa_cons (pe_int) (pa_cons (pe_int) (pa_nil))))))))
theorem cal_law_tape (T : TxtW w K mg) : Cal P w K mg base 1 "_law_tape" (sp_law_tape K) := by
  obtain ⟨fd, F⟩ := T.fn_law_tape
  exact ⟨_, fd, ["_law_script"], F.ok sc_law_tape (fun vs H Q E h => len_law_tape h) (fun cdv A outer s H vs Q E hr h => ⟨t_law_tape K, PSs.nox (der_law_tape T hr), pure_law_tape T.toTxt h⟩), T.g__law_tape, F.kp, F.bindsN fun _ _ _ _ _ _ us hl => match us, hl with | [_], _ => rfl⟩
theorem der_law_pick (T : TxtW w K mg) {cdv : Value} {A : Around} {outer : List PySem.Env} {s : Shared} {H : Hp} {E : XK} {f : Addr} (hr : Room 0 (A.deeper (envOfC "_law_pick" (defScope s_law_pick) s.heap.objs.size f cdv))) :
    PSs (cxOf L2.CX0 P w K mg base N_law_pick "_law_pick" (defScope s_law_pick) f cdv A outer s H E).nox (defBody s_law_pick) (t_law_pick K) :=
  pss_cons (ps_if (pt_cmpR op_gtI (pe_ix ix_any (pv 0) (pe_int) (fun _ _ => rfl)) (pe_int) (nomark _)) (pss_cons (ps_set (i := 2) sc_law_pick.nd rfl (Or.inl rfl) (pe_op op_modI (pe_callTy call_intA rfl T.b_int boot_int (pa_cons (pe_ix ix_any (pv 0) (pe_int) (fun _ _ => rfl)) (pa_nil))) (pv 1))) (pss_cons (ps_asg (pe_op op_divI (pe_ix ix_any (pv 0) (pe_int) (fun _ _ => rfl)) (pv 1)) (pg_sub (pv 0) (pe_int) set_list)) (pss_one (ps_ret (pv 2))))) (pss_nil)) (pss_cons (ps_asg (pe_op op_addA (pe_ix ix_any (pv 0) (pe_int) (fun _ _ => rfl)) (pe_int)) (pg_sub (pv 0) (pe_int) set_list)) (pss_cons (ps_set (i := 3) sc_law_pick.nd rfl (Or.inl rfl) (pe_int)) (pss_cons (ps_if (pt_cmpR op_ltI (pe_ix ix_any (pv 0) (pe_int) (fun _ _ => rfl)) (pe_callB call_lenA rfl T.b_len boot_len (pa_cons (pe_ix ix_any (pv 0) (pe_int) (fun _ _ => rfl)) (pa_nil))) (nomark _)) (pss_cons (ps_set (i := 3) sc_law_pick.nd rfl (Or.inl rfl) (pe_callB call_absA rfl T.b_abs boot_abs (pa_cons (pe_callTy call_intA rfl T.b_int boot_int (pa_cons (pe_ix ix_any (pe_ix ix_any (pv 0) (pe_int) (fun _ _ => rfl)) (pe_ix ix_any (pv 0) (pe_int) (fun _ _ => rfl)) (fun _ _ => rfl)) (pa_nil))) (pa_nil)))) (pss_one (ps_asg (pe_op op_addA (pe_ix ix_any (pv 0) (pe_int) (fun _ _ => rfl)) (pe_int)) (pg_sub (pv 0) (pe_int) set_list)))) (pss_nil)) (pss_cons (ps_if (pt_cmpR op_geI (pv 3) (pe_op op_powI (pe_int) (pe_int)) (nomark _)) (pss_cons (ps_asg (pe_op op_divI (pv 3) (pv 1)) (pg_sub (pv 0) (pe_int) set_list)) (pss_one (ps_ret (pe_op op_modI (pe_callTy call_intA rfl T.b_int boot_int (pa_cons (pv 3) (pa_nil))) (pv 1))))) (pss_nil)) (pss_cons (ps_set (i := 4) sc_law_pick.nd rfl (Or.inl rfl) (pe_op op_modI (pe_callTy call_intA rfl T.b_int boot_int (pa_cons (pe_op op_addA (pe_op op_addA (pe_op op_mulI (pe_ix ix_any (pv 0) (pe_int) (fun _ _ => rfl)) (pe_int)) (pe_op op_modI (pe_callTy call_intA rfl T.b_int boot_int (pa_cons (pv 3) (pa_nil))) (pe_int))) (pe_op op_mulI (pe_ix ix_any (pv 0) (pe_int) (fun _ _ => rfl)) (pe_int))) (pa_nil))) (pe_int))) (pss_cons (ps_set (i := 4) sc_law_pick.nd rfl (Or.inl rfl) (pe_op op_modI (pe_callTy call_intA rfl T.b_int boot_int (pa_cons (pe_op op_mulI (pv 4) (pe_op op_addA (pe_op op_divI (pv 4) (pe_int)) (pe_int))) (pa_nil))) (pe_int))) (pss_cons (ps_asg (pv 4) (pg_sub (pv 0) (pe_int) set_list)) (pss_one (ps_ret (pe_op op_modI (pe_callTy call_intA rfl T.b_int boot_int (pa_cons (pe_op op_divI (pv 4) (pe_int)) (pa_nil))) (pv 1)))))))))))
theorem cal_law_pick (T : TxtW w K mg) : Cal P w K mg base 1 "_law_pick" (sp_law_pick K) := by
  obtain ⟨fd, F⟩ := T.fn_law_pick
  exact ⟨_, fd, ["_law_tape_here", "_law_many"], F.ok sc_law_pick (fun vs H Q E h => len_law_pick h) (fun cdv A outer s H vs Q E hr h => ⟨t_law_pick K, PSs.nox (der_law_pick T hr), pure_law_pick T.toTxt h⟩), T.g__law_pick, F.kp, F.bindsN fun _ _ _ _ _ _ us hl => match us, hl with | [_, _], _ => rfl⟩
theorem der_law_any (T : TxtW w K mg) {cdv : Value} {A : Around} {outer : List PySem.Env} {s : Shared} {H : Hp} {E : XK} {f : Addr} (hr : Room 1 (A.deeper (envOfC "_law_any" (defScope s_law_any) s.heap.objs.size f cdv))) :
    PSs (cxOf L2.CX0 P w K mg base N_law_any "_law_any" (defScope s_law_any) f cdv A outer s H E).nox (defBody s_law_any) (t_law_any K) :=
  pss_one (ps_ret (pe_ix ix_any (pv 1) (pe_cal (cal_law_pick T) hr (by decide) rfl (pa_cons (pv 0) (pa_cons (pe_callB call_lenA rfl T.b_len boot_len (pa_cons (pv 1) (pa_nil))) (pa_nil)))) (fun _ _ => rfl)))
theorem cal_law_any (T : TxtW w K mg) : Cal P w K mg base 2 "_law_any" (sp_law_any K) := by
  obtain ⟨fd, F⟩ := T.fn_law_any
  exact ⟨_, fd, ["_law_tape_here", "_law_things"], F.ok sc_law_any (fun vs H Q E h => len_law_any h) (fun cdv A outer s H vs Q E hr h => ⟨t_law_any K, PSs.nox (der_law_any T hr), pure_law_any T.toTxt h⟩), T.g__law_any, F.kp, F.bindsN fun _ _ _ _ _ _ us hl => match us, hl with | [_, _], _ => rfl⟩
theorem der_law_deeds (T : TxtW w K mg) {cdv : Value} {A : Around} {outer : List PySem.Env} {s : Shared} {H : Hp} {E : XK} {f : Addr} (hr : Room 2 (A.deeper (envOfC "_law_deeds" (defScope s_law_deeds) s.heap.objs.size f cdv))) :
    PSs (cxOf L2.CX0 P w K mg base N_law_deeds "_law_deeds" (defScope s_law_deeds) f cdv A outer s H E).nox (defBody s_law_deeds) (t_law_deeds K) :=
  pss_cons (ps_set (i := 3) sc_law_deeds.nd rfl (Or.inl rfl) (pe_cal (cal_law_any T) hr (by decide) rfl (pa_cons (pv 0) (pa_cons (pe_lst (pa_cons (pe_int) (pa_cons (pe_int) (pa_cons (pe_int) (pa_cons (pe_op op_powI (pe_int) (pe_int)) (pa_nil)))))) (pa_nil))))) (pss_cons (ps_par (i := 4) (j := 5) rfl sc_law_deeds.nd rfl rfl (by decide) rfl rfl (pa_cons (pe_lst (pa_nil)) (pa_cons (pe_cal (cal_law_any T) hr (by decide) rfl (pa_cons (pv 0) (pa_cons (pe_lst (pa_cons (pe_int) (pa_cons (pe_int) (pa_cons (pe_int) (pa_cons (pe_int) (pa_nil)))))) (pa_nil)))) (pa_nil))) rfl) (pss_cons (ps_for PassesOwn.never rfl (pi_range1 rfl T.b_range (pa_cons (pv 1) (pa_nil))) (pg_name (i := 6) sc_law_deeds.nd rfl (Or.inl rfl)) (pss_cons (ps_set (i := 7) sc_law_deeds.nd rfl (Or.inl rfl) (pe_ifExp (pt_cmpR (op_eqD hr.units) (pv 5) (pe_int) (nomark _)) (pe_cal (cal_law_pick T) hr (by decide) rfl (pa_cons (pv 0) (pa_cons (pe_op op_addA (pv 2) (pe_int)) (pa_nil)))) (pe_op op_addA (pe_int) (pe_cal (cal_law_pick T) hr (by decide) rfl (pa_cons (pv 0) (pa_cons (pv 2) (pa_nil))))))) (pss_one (ps_if (pt_cmpR op_geI (pv 6) (pe_op op_subI (pv 1) (pv 5)) (nomark _)) (pss_one (ps_expr (pe_bm PySem.F.plainAttrs_list PySem.F.slot_list_append PySem.F.type_list_append mt_append (pv 4) (pa_cons (pe_tup (pa_cons (pe_non) (pa_cons (pv 7) (pa_cons (pe_tup (pa_nil)) (pa_nil))))) (pa_nil))))) (pss_cons (ps_expr (pe_bm PySem.F.plainAttrs_list PySem.F.slot_list_append PySem.F.type_list_append mt_append (pv 4) (pa_cons (pe_tup (pa_cons (pv 3) (pa_cons (pv 7) (pa_cons (pe_tup (pa_nil)) (pa_nil))))) (pa_nil)))) (pss_one (ps_set (i := 3) sc_law_deeds.nd rfl (Or.inl rfl) (pe_op op_addA (pe_op op_addA (pv 3) (pe_int)) (pe_cal (cal_law_pick T) hr (by decide) rfl (pa_cons (pv 0) (pa_cons (pv 2) (pa_nil)))))))))))) (pss_one (ps_ret (pe_tup (pa_cons (pe_op op_addA (pv 3) (pe_cal (cal_law_pick T) hr (by decide) rfl (pa_cons (pv 0) (pa_cons (pe_int) (pa_nil))))) (pa_cons (pe_tupleOf rfl T.b_tuple (pv 4)) (pa_nil))))))))
theorem cal_law_deeds (T : TxtW w K mg) : Cal P w K mg base 3 "_law_deeds" (sp_law_deeds K) := by
  obtain ⟨fd, F⟩ := T.fn_law_deeds
  exact ⟨_, fd, ["_law_tape_here", "_law_many", "_law_great"], F.ok sc_law_deeds (fun vs H Q E h => len_law_deeds h) (fun cdv A outer s H vs Q E hr h => ⟨t_law_deeds K, PSs.nox (der_law_deeds T hr), pure_law_deeds T.toTxt h⟩), T.g__law_deeds, F.kp, F.bindsN fun _ _ _ _ _ _ us hl => match us, hl with | [_, _, _], _ => rfl⟩
theorem der_law_needs (T : TxtW w K mg) {cdv : Value} {A : Around} {outer : List PySem.Env} {s : Shared} {H : Hp} {E : XK} {f : Addr} (hr : Room 0 (A.deeper (envOfC "_law_needs" (defScope s_law_needs) s.heap.objs.size f cdv))) :
    PSs (cxOf L2.CX0 P w K mg base N_law_needs "_law_needs" (defScope s_law_needs) f cdv A outer s H E).nox (defBody s_law_needs) (t_law_needs K) :=
  pss_one (ps_ret (pe_callB (cr_sum rfl) rfl T.b_sum boot_sum (pa_cons (pe_lc (own := [("_law_first", 2), ("_law_need", 3), ("_law_waits", 4)]) (g := gTup K 3 (gCons (gName 2) (gCons (gName 3) (gCons (gName 4) (gNil))))) (tt := tYes) rfl sc_law_needs.nd (pi_tup (pe_slice sl_any (pv 0) (po_none) (po_some (pv 1)))) (blkOk_by (N := N_law_needs) (sc := defScope s_law_needs) (by decide +kernel)) (fun _ _ _ _ _ => pg_tup rfl (pgs_cons (pg_name (i := 2) sc_law_needs.nd rfl (Or.inl rfl)) (pgs_cons (pg_name (i := 3) sc_law_needs.nd rfl (Or.inl rfl)) (pgs_cons (pg_name (i := 4) sc_law_needs.nd rfl (Or.inl rfl)) (pgs_nil))))) (fun _ _ _ _ _ => pts_nil) (fun _ _ _ _ _ => pv 3)) (pa_nil))))
theorem cal_law_needs (T : TxtW w K mg) : Cal P w K mg base 1 "_law_needs" (sp_law_needs K) := by
  obtain ⟨fd, F⟩ := T.fn_law_needs
  exact ⟨_, fd, ["_law_deeds_here", "_law_many"], F.ok sc_law_needs (fun vs H Q E h => len_law_needs h) (fun cdv A outer s H vs Q E hr h => ⟨t_law_needs K, PSs.nox (der_law_needs T hr), pure_law_needs T.toTxt h⟩), T.g__law_needs, F.kp, F.bindsN fun _ _ _ _ _ _ us hl => match us, hl with | [_, _], _ => rfl⟩
theorem der_law_loads (T : TxtW w K mg) {cdv : Value} {A : Around} {outer : List PySem.Env} {s : Shared} {H : Hp} {E : XK} {f : Addr} (hr : Room 1 (A.deeper (envOfC "_law_loads" (defScope s_law_loads) s.heap.objs.size f cdv))) :
    PSs (cxOf L2.CX0 P w K mg base N_law_loads "_law_loads" (defScope s_law_loads) f cdv A outer s H E).nox (defBody s_law_loads) (t_law_loads K) :=
  pss_cons (ps_set (i := 2) sc_law_loads.nd rfl (Or.inl rfl) (pe_lst (pa_nil))) (pss_cons (ps_for PassesOwn.never rfl (pi_enT rfl T.b_enumerate (pa_cons (pv 1) (pa_nil))) (pg_tup rfl (pgs_cons (pg_name (i := 3) sc_law_loads.nd rfl (Or.inl rfl)) (pgs_cons (pg_tup rfl (pgs_cons (pg_name (i := 4) sc_law_loads.nd rfl (Or.inl rfl)) (pgs_cons (pg_name (i := 5) sc_law_loads.nd rfl (Or.inl rfl)) (pgs_cons (pg_name (i := 6) sc_law_loads.nd rfl (Or.inl rfl)) (pgs_nil))))) (pgs_nil)))) (pss_one (ps_expr (pe_bm PySem.F.plainAttrs_list PySem.F.slot_list_append PySem.F.type_list_append mt_append (pv 2) (pa_cons (pe_ifExp (pt_cmpR op_isNo (pv 4) (pe_non) (nomark _)) (pv 5) (pe_op op_addA (pe_op op_subI (pv 0) (pv 4)) (pe_cal (cal_law_needs T) hr (by decide) rfl (pa_cons (pv 1) (pa_cons (pe_op op_addA (pv 3) (pe_int)) (pa_nil)))))) (pa_nil)))))) (pss_one (ps_ret (pv 2))))
theorem cal_law_loads (T : TxtW w K mg) : Cal P w K mg base 2 "_law_loads" (sp_law_loads K) := by
  obtain ⟨fd, F⟩ := T.fn_law_loads
  exact ⟨_, fd, ["_law_head", "_law_deeds_here"], F.ok sc_law_loads (fun vs H Q E h => len_law_loads h) (fun cdv A outer s H vs Q E hr h => ⟨t_law_loads K, PSs.nox (der_law_loads T hr), pure_law_loads T.toTxt h⟩), T.g__law_loads, F.kp, F.bindsN fun _ _ _ _ _ _ us hl => match us, hl with | [_, _], _ => rfl⟩
theorem der_law_standing (T : TxtW w K mg) {cdv : Value} {A : Around} {outer : List PySem.Env} {s : Shared} {H : Hp} {E : XK} {f : Addr} (hr : Room 3 (A.deeper (envOfC "_law_standing" (defScope s_law_standing) s.heap.objs.size f cdv))) :
    PSs (cxOf L2.CX0 P w K mg base N_law_standing "_law_standing" (defScope s_law_standing) f cdv A outer s H E).nox (defBody s_law_standing) (t_law_standing K) :=
  pss_cons (ps_asg (pe_cal (cal_law_deeds T) hr (by decide) rfl (pa_cons (pv 0) (pa_cons (pv 1) (pa_cons (pv 2) (pa_nil))))) (pg_tup rfl (pgs_cons (pg_name (i := 3) sc_law_standing.nd rfl (Or.inl rfl)) (pgs_cons (pg_name (i := 4) sc_law_standing.nd rfl (Or.inl rfl)) (pgs_nil))))) (pss_cons (ps_set (i := 5) sc_law_standing.nd rfl (Or.inl rfl) (pe_op op_addA (pe_callB (cr_max rfl) rfl T.b_max boot_max (pa_cons (pe_op op_addA (pe_lst (pa_cons (pe_int) (pa_nil))) (pe_cal (cal_law_loads T) hr (by decide) rfl (pa_cons (pv 3) (pa_cons (pv 4) (pa_nil))))) (pa_nil))) (pe_cal (cal_law_any T) hr (by decide) rfl (pa_cons (pv 0) (pa_cons (pe_lst (pa_cons (pe_int) (pa_cons (pe_int) (pa_cons (pe_int) (pa_cons (pe_int) (pa_cons (pe_int) (pa_nil))))))) (pa_nil)))))) (pss_one (ps_ret (pe_tup (pa_cons (pv 5) (pa_cons (pv 3) (pa_cons (pv 4) (pa_nil))))))))
theorem cal_law_standing (T : TxtW w K mg) : Cal P w K mg base 4 "_law_standing" (sp_law_standing K) := by
  obtain ⟨fd, F⟩ := T.fn_law_standing
  exact ⟨_, fd, ["_law_tape_here", "_law_many", "_law_great"], F.ok sc_law_standing (fun vs H Q E h => len_law_standing h) (fun cdv A outer s H vs Q E hr h => ⟨t_law_standing K, PSs.nox (der_law_standing T hr), pure_law_standing T.toTxt h⟩), T.g__law_standing, F.kp, F.bindsN fun _ _ _ _ _ _ us hl => match us, hl with | [_, _, _], _ => rfl⟩
theorem der_law_wish (T : TxtW w K mg) {cdv : Value} {A : Around} {outer : List PySem.Env} {s : Shared} {H : Hp} {E : XK} {f : Addr} (hr : Room 1 (A.deeper (envOfC "_law_wish" (defScope s_law_wish) s.heap.objs.size f cdv))) :
    PSs (cxOf L2.CX0 P w K mg base N_law_wish "_law_wish" (defScope s_law_wish) f cdv A outer s H E).nox (defBody s_law_wish) (t_law_wish K) :=
  pss_cons (ps_if (PW.pt (pw_or (pt_cmpR (op_eqD hr.units) (pe_callB call_lenA rfl T.b_len boot_len (pa_cons (pv 1) (pa_nil))) (pe_int) (nomark _)) (pw_or1 (pt_cmpR (op_eqD hr.units) (pe_cal (cal_law_pick T) hr (by decide) rfl (pa_cons (pv 0) (pa_cons (pe_int) (pa_nil)))) (pe_int) (nomark _))))) (pss_one (ps_ret (pe_tup (pa_cons (pe_str) (pa_cons (pe_cal (cal_law_pick T) hr (by decide) rfl (pa_cons (pv 0) (pa_cons (pe_op op_addA (pe_op op_mulI (pe_int) (pv 2)) (pe_int)) (pa_nil)))) (pa_cons (pe_cal (cal_law_pick T) hr (by decide) rfl (pa_cons (pv 0) (pa_cons (pe_op op_addA (pv 2) (pe_int)) (pa_nil)))) (pa_cons (pe_tup (pa_nil)) (pa_nil)))))))) (pss_nil)) (pss_one (ps_ret (pe_tup (pa_cons (pe_str) (pa_cons (pe_cal (cal_law_pick T) hr (by decide) rfl (pa_cons (pv 0) (pa_cons (pe_callB call_lenA rfl T.b_len boot_len (pa_cons (pv 1) (pa_nil))) (pa_nil)))) (pa_cons (pe_op op_addA (pe_int) (pe_cal (cal_law_pick T) hr (by decide) rfl (pa_cons (pv 0) (pa_cons (pe_op op_mulI (pe_int) (pv 2)) (pa_nil))))) (pa_cons (pe_cal (cal_law_pick T) hr (by decide) rfl (pa_cons (pv 0) (pa_cons (pe_op op_addA (pv 2) (pe_int)) (pa_nil)))) (pa_nil))))))))
theorem cal_law_wish (T : TxtW w K mg) : Cal P w K mg base 2 "_law_wish" (sp_law_wish K) := by
  obtain ⟨fd, F⟩ := T.fn_law_wish
  exact ⟨_, fd, ["_law_tape_here", "_law_deeds_here", "_law_great"], F.ok sc_law_wish (fun vs H Q E h => len_law_wish h) (fun cdv A outer s H vs Q E hr h => ⟨t_law_wish K, PSs.nox (der_law_wish T hr), pure_law_wish T.toTxt h⟩), T.g__law_wish, F.kp, F.bindsN fun _ _ _ _ _ _ us hl => match us, hl with | [_, _, _], _ => rfl⟩
theorem der_law_gone (T : TxtW w K mg) {cdv : Value} {A : Around} {outer : List PySem.Env} {s : Shared} {H : Hp} {E : XK} {f : Addr} (hr : Room 1 (A.deeper (envOfC "_law_gone" (defScope s_law_gone) s.heap.objs.size f cdv))) :
    PSs (cxOf L2.CX0 P w K mg base N_law_gone "_law_gone" (defScope s_law_gone) f cdv A outer s H E).nox (defBody s_law_gone) (t_law_gone K) :=
  pss_one (ps_ret (pe_tup (pa_cons (pe_op op_addA (pv 0) (pe_cal (cal_law_needs T) hr (by decide) rfl (pa_cons (pv 1) (pa_cons (pv 2) (pa_nil))))) (pa_cons (pe_slice sl_any (pv 1) (po_some (pv 2)) (po_none)) (pa_nil)))))
theorem cal_law_gone (T : TxtW w K mg) : Cal P w K mg base 2 "_law_gone" (sp_law_gone K) := by
  obtain ⟨fd, F⟩ := T.fn_law_gone
  exact ⟨_, fd, ["_law_head", "_law_deeds_here", "_law_many"], F.ok sc_law_gone (fun vs H Q E h => len_law_gone h) (fun cdv A outer s H vs Q E hr h => ⟨t_law_gone K, PSs.nox (der_law_gone T hr), pure_law_gone T.toTxt h⟩), T.g__law_gone, F.kp, F.bindsN fun _ _ _ _ _ _ us hl => match us, hl with | [_, _, _], _ => rfl⟩
theorem der_law_behind (T : TxtW w K mg) {cdv : Value} {A : Around} {outer : List PySem.Env} {s : Shared} {H : Hp} {E : XK} {f : Addr} (hr : Room 0 (A.deeper (envOfC "_law_behind" (defScope s_law_behind) s.heap.objs.size f cdv))) :
    PSs (cxOf L2.CX0 P w K mg base N_law_behind "_law_behind" (defScope s_law_behind) f cdv A outer s H E).nox (defBody s_law_behind) (t_law_behind K) :=
  pss_cons (ps_if (pt_cmpR (op_eqD hr.units) (pe_ix ix_any (pv 2) (pe_int) (fun _ _ => rfl)) (pe_str) (nomark _)) (pss_cons (ps_par (i := 3) (j := 4) rfl sc_law_behind.nd rfl rfl (by decide) rfl rfl (pa_cons (pe_ix ix_any (pv 2) (pe_int) (fun _ _ => rfl)) (pa_cons (pe_tup (pa_cons (pe_ifExp (pt_cmpR op_gtI (pe_ix ix_any (pv 2) (pe_int) (fun _ _ => rfl)) (pe_int) (nomark _)) (pv 0) (pe_non)) (pa_cons (pe_ix ix_any (pv 2) (pe_int) (fun _ _ => rfl)) (pa_cons (pe_tup (pa_nil)) (pa_nil))))) (pa_nil))) rfl) (pss_cons (ps_set (i := 6) sc_law_behind.nd rfl (Or.inl rfl) (pe_ifExp (pt_cmpR (op_eqD hr.units) (pv 3) (pe_int) (nomark _)) (pe_callB call_lenA rfl T.b_len boot_len (pa_cons (pv 1) (pa_nil))) (pe_callB call_lenA rfl T.b_len boot_len (pa_cons (pe_lc (own := [("_law_deed", 5)]) (g := gName 5) (tt := tTest (tOp rNotNo (tOp (rIxA K) (tVar 5) (tC (.int 0))) (tC .non))) rfl sc_law_behind.nd (pi_tup (pv 1)) (blkOk_by (N := N_law_behind) (sc := defScope s_law_behind) (by decide +kernel)) (fun _ _ _ _ _ => pg_name (i := 5) sc_law_behind.nd rfl (Or.inl rfl)) (fun _ _ _ _ _ => pts_one (pt_cmpR op_notNo (pe_ix ix_any (pv 5) (pe_int) (fun _ _ => rfl)) (pe_non) (nomark _))) (fun _ _ _ _ _ => pv 5)) (pa_nil))))) (pss_one (ps_ret (pe_tup (pa_cons (pe_op op_addA (pv 0) (pv 3)) (pa_cons (pe_op op_addA (pe_op op_addA (pe_slice sl_any (pv 1) (po_none) (po_some (pv 6))) (pe_tup (pa_cons (pv 4) (pa_nil)))) (pe_slice sl_any (pv 1) (po_some (pv 6)) (po_none))) (pa_nil)))))))) (pss_nil)) (pss_cons (ps_asg (pv 2) (pg_tup rfl (pgs_cons (pg_name (i := 7) sc_law_behind.nd rfl (Or.inl rfl)) (pgs_cons (pg_name (i := 5) sc_law_behind.nd rfl (Or.inl rfl)) (pgs_cons (pg_name (i := 3) sc_law_behind.nd rfl (Or.inl rfl)) (pgs_cons (pg_name (i := 8) sc_law_behind.nd rfl (Or.inl rfl)) (pgs_nil))))))) (pss_cons (ps_set (i := 9) sc_law_behind.nd rfl (Or.inl rfl) (pe_ix ix_any (pe_ix ix_any (pv 1) (pv 5) (fun _ _ => rfl)) (pe_int) (fun _ _ => rfl))) (pss_cons (ps_if (pt_cmpR op_notNo (pv 9) (pe_non) (nomark _)) (pss_one (ps_ret (pe_tup (pa_cons (pe_op op_addA (pv 0) (pv 3)) (pa_cons (pe_op op_addA (pe_op op_addA (pe_slice sl_any (pv 1) (po_none) (po_some (pv 5))) (pe_tup (pa_cons (pe_tup (pa_cons (pv 9) (pa_cons (pv 8) (pa_cons (pe_tup (pa_nil)) (pa_nil))))) (pa_nil)))) (pe_slice sl_any (pv 1) (po_some (pe_op op_addA (pv 5) (pe_int))) (po_none))) (pa_nil)))))) (pss_nil)) (pss_cons (ps_set (i := 10) sc_law_behind.nd rfl (Or.inl rfl) (pe_op op_addA (pe_slice sl_any (pv 1) (po_none) (po_some (pv 5))) (pe_slice sl_any (pv 1) (po_some (pe_op op_addA (pv 5) (pe_int))) (po_none)))) (pss_cons (ps_set (i := 6) sc_law_behind.nd rfl (Or.inl rfl) (pe_callB call_lenA rfl T.b_len boot_len (pa_cons (pe_lc (own := [("_law_one", 11)]) (g := gName 11) (tt := tTest (tOp rNotNo (tOp (rIxA K) (tVar 11) (tC (.int 0))) (tC .non))) rfl sc_law_behind.nd (pi_tup (pv 10)) (blkOk_by (N := N_law_behind) (sc := defScope s_law_behind) (by decide +kernel)) (fun _ _ _ _ _ => pg_name (i := 11) sc_law_behind.nd rfl (Or.inl rfl)) (fun _ _ _ _ _ => pts_one (pt_cmpR op_notNo (pe_ix ix_any (pv 11) (pe_int) (fun _ _ => rfl)) (pe_non) (nomark _))) (fun _ _ _ _ _ => pv 11)) (pa_nil)))) (pss_one (ps_ret (pe_tup (pa_cons (pe_op op_addA (pv 0) (pv 3)) (pa_cons (pe_op op_addA (pe_op op_addA (pe_slice sl_any (pv 10) (po_none) (po_some (pv 6))) (pe_tup (pa_cons (pe_tup (pa_cons (pv 0) (pa_cons (pv 8) (pa_cons (pe_tup (pa_nil)) (pa_nil))))) (pa_nil)))) (pe_slice sl_any (pv 10) (po_some (pv 6)) (po_none))) (pa_nil)))))))))))
theorem cal_law_behind (T : TxtW w K mg) : Cal P w K mg base 1 "_law_behind" (sp_law_behind K) := by
  obtain ⟨fd, F⟩ := T.fn_law_behind
  exact ⟨_, fd, ["_law_head", "_law_deeds_here", "_law_wish_here"], F.ok sc_law_behind (fun vs H Q E h => len_law_behind h) (fun cdv A outer s H vs Q E hr h => ⟨t_law_behind K, PSs.nox (der_law_behind T hr), pure_law_behind T.toTxt h⟩), T.g__law_behind, F.kp, F.bindsN fun _ _ _ _ _ _ us hl => match us, hl with | [_, _, _], _ => rfl⟩
theorem der_law_easy (T : TxtW w K mg) {cdv : Value} {A : Around} {outer : List PySem.Env} {s : Shared} {H : Hp} {E : XK} {f : Addr} (hr : Room 2 (A.deeper (envOfC "_law_easy" (defScope s_law_easy) s.heap.objs.size f cdv))) :
    PSs (cxOf L2.CX0 P w K mg base N_law_easy "_law_easy" (defScope s_law_easy) f cdv A outer s H E).nox (defBody s_law_easy) (t_law_easy K) :=
  pss_cons (ps_setLc (i := 3) (own := [("_law_first", 4), ("_law_need", 5), ("_law_waits", 6)]) (g := gTup K 3 (gCons (gName 4) (gCons (gName 5) (gCons (gName 6) (gNil))))) (tt := tTest (tOp rNotNo (tVar 4) (tC .non))) rfl sc_law_easy.nd rfl rfl (sw_true rfl rfl rfl (by decide +kernel)) (pi_tup (pv 2)) (blkOk_by (N := N_law_easy) (sc := defScope s_law_easy) (by decide +kernel)) (fun _ _ _ _ _ => pg_tup rfl (pgs_cons (pg_name (i := 4) sc_law_easy.nd rfl (Or.inl rfl)) (pgs_cons (pg_name (i := 5) sc_law_easy.nd rfl (Or.inl rfl)) (pgs_cons (pg_name (i := 6) sc_law_easy.nd rfl (Or.inl rfl)) (pgs_nil))))) (fun _ _ _ _ _ => pts_one (pt_cmpR op_notNo (pv 4) (pe_non) (nomark _))) (fun _ _ _ _ _ => pv 4)) (pss_cons (ps_if (PW.pt (pw_and (pt_cmpR op_gtI (pe_callB call_lenA rfl T.b_len boot_len (pa_cons (pv 3) (pa_nil))) (pe_int) (nomark _)) (pw_and1 (pt_cmpR op_gtI (pe_op op_subI (pv 1) (pe_callB (cr_min rfl) rfl T.b_min boot_min (pa_cons (pv 3) (pa_nil)))) (pv 0) (nomark _))))) (pss_one (ps_ret (pe_bl))) (pss_nil)) (pss_one (ps_ret (pe_callB (cr_all rfl) rfl T.b_all boot_all (pa_cons (pe_lc (own := [("_law_load", 7)]) (g := gName 7) (tt := tYes) rfl sc_law_easy.nd (pi_list (pe_cal (cal_law_loads T) hr (by decide) rfl (pa_cons (pv 1) (pa_cons (pv 2) (pa_nil))))) (blkOk_by (N := N_law_easy) (sc := defScope s_law_easy) (by decide +kernel)) (fun _ _ _ _ _ => pg_name (i := 7) sc_law_easy.nd rfl (Or.inl rfl)) (fun _ _ _ _ _ => pts_nil) (fun _ _ _ _ _ => pe_cmpR op_leI (pv 7) (pv 0) (nomark _))) (pa_nil))))))
theorem cal_law_easy (T : TxtW w K mg) : Cal P w K mg base 3 "_law_easy" (sp_law_easy K) := by
  obtain ⟨fd, F⟩ := T.fn_law_easy
  exact ⟨_, fd, ["_law_cells", "_law_head", "_law_deeds_here"], F.ok sc_law_easy (fun vs H Q E h => len_law_easy h) (fun cdv A outer s H vs Q E hr h => ⟨t_law_easy K, PSs.nox (der_law_easy T hr), pure_law_easy T.toTxt h⟩), T.g__law_easy, F.kp, F.bindsN fun _ _ _ _ _ _ us hl => match us, hl with | [_, _, _], _ => rfl⟩
theorem der_law_told_later (T : TxtW w K mg) {cdv : Value} {A : Around} {outer : List PySem.Env} {s : Shared} {H : Hp} {E : XK} {f : Addr} (hr : Room 0 (A.deeper (envOfC "_law_told_later" (defScope s_law_told_later) s.heap.objs.size f cdv))) :
    PSs (cxOf L2.CX0 P w K mg base N_law_told_later "_law_told_later" (defScope s_law_told_later) f cdv A outer s H E).nox (defBody s_law_told_later) (t_law_told_later K) :=
  pss_one (ps_ret (pe_ifExp (pt_cmpR (op_eqD hr.units) (pe_ix ix_any (pv 0) (pe_int) (fun _ _ => rfl)) (pe_str) (nomark _)) (pv 0) (pe_op op_addA (pe_tup (pa_cons (pe_str) (pa_cons (pe_op op_subI (pe_ix ix_any (pv 0) (pe_int) (fun _ _ => rfl)) (pv 1)) (pa_nil)))) (pe_slice sl_any (pv 0) (po_some (pe_int)) (po_none)))))
theorem cal_law_told_later (T : TxtW w K mg) : Cal P w K mg base 1 "_law_told_later" (sp_law_told_later K) := by
  obtain ⟨fd, F⟩ := T.fn_law_told_later
  exact ⟨_, fd, ["_law_wish_here", "_law_many"], F.ok sc_law_told_later (fun vs H Q E h => len_law_told_later h) (fun cdv A outer s H vs Q E hr h => ⟨t_law_told_later K, PSs.nox (der_law_told_later T hr), pure_law_told_later T.toTxt h⟩), T.g__law_told_later, F.kp, F.bindsN fun _ _ _ _ _ _ us hl => match us, hl with | [_, _], _ => rfl⟩
theorem der_law_must (T : TxtW w K mg) {cdv : Value} {A : Around} {outer : List PySem.Env} {s : Shared} {H : Hp} {E : XK} {f : Addr} (hr : Room 3 (A.deeper (envOfC "_law_must" (defScope s_law_must) s.heap.objs.size f cdv))) :
    PSs (cxOf L2.CX0 P w K mg base N_law_must "_law_must" (defScope s_law_must) f cdv A outer s H E).nox (defBody s_law_must) (t_law_must K) :=
  pss_cons (ps_for PassesOwn.never rfl (pi_range1 rfl T.b_range (pa_cons (pe_op op_addA (pe_callB call_lenA rfl T.b_len boot_len (pa_cons (pv 2) (pa_nil))) (pe_int)) (pa_nil))) (pg_name (i := 4) sc_law_must.nd rfl (Or.inl rfl)) (pss_cons (ps_if (PW.pt (pw_and (pt_cmpR (op_eqD hr.units) (pe_ix ix_any (pv 3) (pe_int) (fun _ _ => rfl)) (pe_str) (nomark _)) (pw_and1 (pt_cmpR op_gtI (pv 4) (pe_ix ix_any (pv 3) (pe_int) (fun _ _ => rfl)) (nomark _))))) (pss_one (ps_ret (pe_non))) (pss_nil)) (pss_cons (ps_asg (pe_cal (cal_law_gone T) hr (by decide) rfl (pa_cons (pv 1) (pa_cons (pv 2) (pa_cons (pv 4) (pa_nil))))) (pg_tup rfl (pgs_cons (pg_name (i := 5) sc_law_must.nd rfl (Or.inl rfl)) (pgs_cons (pg_name (i := 6) sc_law_must.nd rfl (Or.inl rfl)) (pgs_nil))))) (pss_cons (ps_asg (pe_cal (cal_law_behind T) hr (by decide) rfl (pa_cons (pv 5) (pa_cons (pv 6) (pa_cons (pe_cal (cal_law_told_later T) hr (by decide) rfl (pa_cons (pv 3) (pa_cons (pv 4) (pa_nil)))) (pa_nil))))) (pg_tup rfl (pgs_cons (pg_name (i := 7) sc_law_must.nd rfl (Or.inl rfl)) (pgs_cons (pg_name (i := 8) sc_law_must.nd rfl (Or.inl rfl)) (pgs_nil))))) (pss_one (ps_if (pt_val (pe_cal (cal_law_easy T) hr (by decide) rfl (pa_cons (pv 0) (pa_cons (pv 7) (pa_cons (pv 8) (pa_nil)))))) (pss_one (ps_ret (pv 4))) (pss_nil))))))) (pss_one (ps_ret (pe_non)))
theorem cal_law_must (T : TxtW w K mg) : Cal P w K mg base 4 "_law_must" (sp_law_must K) := by
  obtain ⟨fd, F⟩ := T.fn_law_must
  exact ⟨_, fd, ["_law_cells", "_law_head", "_law_deeds_here", "_law_wish_here"], F.ok sc_law_must (fun vs H Q E h => len_law_must h) (fun cdv A outer s H vs Q E hr h => ⟨t_law_must K, PSs.nox (der_law_must T hr), pure_law_must T.toTxt h⟩), T.g__law_must, F.kp, F.bindsN fun _ _ _ _ _ _ us hl => match us, hl with | [_, _, _, _], _ => rfl⟩
theorem der_law_pressed (T : TxtW w K mg) {cdv : Value} {A : Around} {outer : List PySem.Env} {s : Shared} {H : Hp} {E : XK} {f : Addr} (hr : Room 4 (A.deeper (envOfC "_law_pressed" (defScope s_law_pressed) s.heap.objs.size f cdv))) :
    PSs (cxOf L2.CX0 P w K mg base N_law_pressed "_law_pressed" (defScope s_law_pressed) f cdv A outer s H E).nox (defBody s_law_pressed) (t_law_pressed K) :=
  pss_cons (ps_for PassesOwn.never rfl (pi_range1 rfl T.b_range (pa_cons (pe_int) (pa_nil))) (pg_name (i := 3) sc_law_pressed.nd rfl (Or.inl rfl)) (pss_cons (ps_asg (pe_cal (cal_law_standing T) hr (by decide) rfl (pa_cons (pv 0) (pa_cons (pv 1) (pa_cons (pv 2) (pa_nil))))) (pg_tup rfl (pgs_cons (pg_name (i := 4) sc_law_pressed.nd rfl (Or.inl rfl)) (pgs_cons (pg_name (i := 5) sc_law_pressed.nd rfl (Or.inl rfl)) (pgs_cons (pg_name (i := 6) sc_law_pressed.nd rfl (Or.inl rfl)) (pgs_nil)))))) (pss_cons (ps_set (i := 7) sc_law_pressed.nd rfl (Or.inl rfl) (pe_cal (cal_law_wish T) hr (by decide) rfl (pa_cons (pv 0) (pa_cons (pv 6) (pa_cons (pv 2) (pa_nil)))))) (pss_cons (ps_set (i := 8) sc_law_pressed.nd rfl (Or.inl rfl) (pe_cal (cal_law_must T) hr (by decide) rfl (pa_cons (pv 4) (pa_cons (pv 5) (pa_cons (pv 6) (pa_cons (pv 7) (pa_nil))))))) (pss_one (ps_if (PW.pt (pw_and (pt_cmpR op_notNo (pv 8) (pe_non) (nomark _)) (pw_and1 (pt_cmpR op_gtI (pv 8) (pe_int) (nomark _))))) (pss_one (ps_break)) (pss_nil))))))) (pss_one (ps_ret (pe_tup (pa_cons (pv 4) (pa_cons (pv 5) (pa_cons (pv 6) (pa_cons (pv 7) (pa_cons (pv 8) (pa_nil)))))))))
theorem cal_law_pressed (T : TxtW w K mg) : Cal P w K mg base 5 "_law_pressed" (sp_law_pressed K) := by
  obtain ⟨fd, F⟩ := T.fn_law_pressed
  exact ⟨_, fd, ["_law_tape_here", "_law_many", "_law_great"], F.ok sc_law_pressed (fun vs H Q E h => len_law_pressed h) (fun cdv A outer s H vs Q E hr h => ⟨t_law_pressed K, PSs.nox (der_law_pressed T hr), pure_law_pressed T.toTxt h⟩), T.g__law_pressed, F.kp, F.bindsN fun _ _ _ _ _ _ us hl => match us, hl with | [_, _, _], _ => rfl⟩
theorem der_is_triple (T : TxtW w K mg) {cdv : Value} {A : Around} {outer : List PySem.Env} {s : Shared} {H : Hp} {E : XK} {f : Addr} (hr : Room 0 (A.deeper (envOfC "is_triple" (defScope s_is_triple) s.heap.objs.size f cdv))) :
    PSs (cxOf L2.CX0 P w K mg base N_is_triple "is_triple" (defScope s_is_triple) f cdv A outer s H E).nox (defBody s_is_triple) (t_is_triple K) :=
  pss_one (ps_ret (pe_and (pe_callB call_isT rfl T.b_isinstance boot_isinstance (pa_cons (pv 0) (pa_cons (pe_bltn (v := .ty "tuple") rfl T.b_tuple boot_tuple rfl) (pa_nil)))) (pe_one (pe_cmpR (op_eqD hr.units) (pe_callB call_lenA rfl T.b_len boot_len (pa_cons (pv 0) (pa_nil))) (pe_int) (nomark _)))))
theorem cal_is_triple (T : TxtW w K mg) : Cal P w K mg base 1 "is_triple" (sp_is_triple K) := by
  obtain ⟨fd, F⟩ := T.fn_is_triple
  exact ⟨_, fd, ["thing"], F.ok sc_is_triple (fun vs H Q E h => len_is_triple h) (fun cdv A outer s H vs Q E hr h => ⟨t_is_triple K, PSs.nox (der_is_triple T hr), pure_is_triple T.toTxt h⟩), T.g_is_triple, F.kp, F.bindsN fun _ _ _ _ _ _ us hl => match us, hl with | [_], _ => rfl⟩
theorem der_is_integer (T : TxtW w K mg) {cdv : Value} {A : Around} {outer : List PySem.Env} {s : Shared} {H : Hp} {E : XK} {f : Addr} (hr : Room 0 (A.deeper (envOfC "is_integer" (defScope s_is_integer) s.heap.objs.size f cdv))) :
    PSs (cxOf L2.CX0 P w K mg base N_is_integer "is_integer" (defScope s_is_integer) f cdv A outer s H E).nox (defBody s_is_integer) (t_is_integer K) :=
  pss_one (ps_ret (pe_and (pe_callB call_isT rfl T.b_isinstance boot_isinstance (pa_cons (pv 0) (pa_cons (pe_bltn (v := .ty "int") rfl T.b_int boot_int rfl) (pa_nil)))) (pe_one (pe_not (pe_callB call_isT rfl T.b_isinstance boot_isinstance (pa_cons (pv 0) (pa_cons (pe_bltn (v := .ty "bool") rfl T.b_bool boot_bool rfl) (pa_nil))))))))
theorem cal_is_integer (T : TxtW w K mg) : Cal P w K mg base 1 "is_integer" (sp_is_integer K) := by
  obtain ⟨fd, F⟩ := T.fn_is_integer
  exact ⟨_, fd, ["thing"], F.ok sc_is_integer (fun vs H Q E h => len_is_integer h) (fun cdv A outer s H vs Q E hr h => ⟨t_is_integer K, PSs.nox (der_is_integer T hr), pure_is_integer T.toTxt h⟩), T.g_is_integer, F.kp, F.bindsN fun _ _ _ _ _ _ us hl => match us, hl with | [_], _ => rfl⟩
theorem der_is_within (T : TxtW w K mg) {cdv : Value} {A : Around} {outer : List PySem.Env} {s : Shared} {H : Hp} {E : XK} {f : Addr} (hr : Room 1 (A.deeper (envOfC "is_within" (defScope s_is_within) s.heap.objs.size f cdv))) :
    PSs (cxOf L2.CX0 P w K mg base N_is_within "is_within" (defScope s_is_within) f cdv A outer s H E).nox (defBody s_is_within) (t_is_within K) :=
  pss_one (ps_ret (pe_and (pe_cal (cal_is_integer T) hr (by decide) rfl (pa_cons (pv 0) (pa_nil))) (pe_one (pe_chain op_leI op_leI (pv 1) (pv 0) (pv 2)))))
theorem cal_is_within (T : TxtW w K mg) : Cal P w K mg base 2 "is_within" (sp_is_within K) := by
  obtain ⟨fd, F⟩ := T.fn_is_within
  exact ⟨_, fd, ["thing", "least", "most"], F.ok sc_is_within (fun vs H Q E h => len_is_within h) (fun cdv A outer s H vs Q E hr h => ⟨t_is_within K, PSs.nox (der_is_within T hr), pure_is_within T.toTxt h⟩), T.g_is_within, F.kp, F.bindsN fun _ _ _ _ _ _ us hl => match us, hl with | [_, _, _], _ => rfl⟩
theorem der_is_first_behind (T : TxtW w K mg) {cdv : Value} {A : Around} {outer : List PySem.Env} {s : Shared} {H : Hp} {E : XK} {f : Addr} (hr : Room 2 (A.deeper (envOfC "is_first_behind" (defScope s_is_first_behind) s.heap.objs.size f cdv))) :
    PSs (cxOf L2.CX0 P w K mg base N_is_first_behind "is_first_behind" (defScope s_is_first_behind) f cdv A outer s H E).nox (defBody s_is_first_behind) (t_is_first_behind K) :=
  pss_one (ps_ret (pe_or (pe_cmpR op_isNo (pv 2) (pe_non) (nomark _)) (pe_one (pe_and (pe_cmpR op_notNo (pv 1) (pe_non) (nomark _)) (pe_one (pe_cal (cal_is_within T) hr (by decide) rfl (pa_cons (pv 2) (pa_cons (pe_op op_addA (pv 1) (pe_int)) (pa_cons (pe_op op_subI (pv 0) (pe_int)) (pa_nil))))))))))
theorem cal_is_first_behind (T : TxtW w K mg) : Cal P w K mg base 3 "is_first_behind" (sp_is_first_behind K) := by
  obtain ⟨fd, F⟩ := T.fn_is_first_behind
  exact ⟨_, fd, ["head", "last", "thing"], F.ok sc_is_first_behind (fun vs H Q E h => len_is_first_behind h) (fun cdv A outer s H vs Q E hr h => ⟨t_is_first_behind K, PSs.nox (der_is_first_behind T hr), pure_is_first_behind T.toTxt h⟩), T.g_is_first_behind, F.kp, F.bindsN fun _ _ _ _ _ _ us hl => match us, hl with | [_, _, _], _ => rfl⟩
theorem der_is_number (T : TxtW w K mg) {cdv : Value} {A : Around} {outer : List PySem.Env} {s : Shared} {H : Hp} {E : XK} {f : Addr} (hr : Room 2 (A.deeper (envOfC "is_number" (defScope s_is_number) s.heap.objs.size f cdv))) :
    PSs (cxOf L2.CX0 P w K mg base N_is_number "is_number" (defScope s_is_number) f cdv A outer s H E).nox (defBody s_is_number) (t_is_number K) :=
  pss_one (ps_ret (pe_cal (cal_is_within T) hr (by decide) rfl (pa_cons (pv 0) (pa_cons (pe_int) (pa_cons (pv 1) (pa_nil))))))
theorem cal_is_number (T : TxtW w K mg) : Cal P w K mg base 3 "is_number" (sp_is_number K) := by
  obtain ⟨fd, F⟩ := T.fn_is_number
  exact ⟨_, fd, ["thing", "most"], F.ok sc_is_number (fun vs H Q E h => len_is_number h) (fun cdv A outer s H vs Q E hr h => ⟨t_is_number K, PSs.nox (der_is_number T hr), pure_is_number T.toTxt h⟩), T.g_is_number, F.kp, F.bindsN fun _ _ _ _ _ _ us hl => match us, hl with | [_, _], _ => rfl⟩
theorem der_is_lot (T : TxtW w K mg) {cdv : Value} {A : Around} {outer : List PySem.Env} {s : Shared} {H : Hp} {E : XK} {f : Addr} (hr : Room 2 (A.deeper (envOfC "is_lot" (defScope s_is_lot) s.heap.objs.size f cdv))) :
    PSs (cxOf L2.CX0 P w K mg base N_is_lot "is_lot" (defScope s_is_lot) f cdv A outer s H E).nox (defBody s_is_lot) (t_is_lot K) :=
  pss_cons (ps_if (pt_not (pt_val (pe_callB call_isT rfl T.b_isinstance boot_isinstance (pa_cons (pv 0) (pa_cons (pe_bltn (v := .ty "tuple") rfl T.b_tuple boot_tuple rfl) (pa_nil)))))) (pss_one (ps_ret (pe_bl))) (pss_nil)) (pss_cons (ps_set (i := 2) sc_is_lot.nd rfl (Or.inl rfl) (pe_un un_negI (pe_int))) (pss_cons (ps_for PassesOwn.never rfl (pi_tup (pv 0)) (pg_name (i := 3) sc_is_lot.nd rfl (Or.inl rfl)) (pss_cons (ps_if (pt_not (pt_val (pe_cal (cal_is_within T) hr (by decide) rfl (pa_cons (pv 3) (pa_cons (pe_op op_addA (pv 2) (pe_int)) (pa_cons (pe_op op_subI (pv 1) (pe_int)) (pa_nil))))))) (pss_one (ps_ret (pe_bl))) (pss_nil)) (pss_one (ps_set (i := 2) sc_is_lot.nd rfl (Or.inl rfl) (pv 3))))) (pss_one (ps_ret (pe_bl)))))
theorem cal_is_lot (T : TxtW w K mg) : Cal P w K mg base 3 "is_lot" (sp_is_lot K) := by
  obtain ⟨fd, F⟩ := T.fn_is_lot
  exact ⟨_, fd, ["thing", "many"], F.ok sc_is_lot (fun vs H Q E h => len_is_lot h) (fun cdv A outer s H vs Q E hr h => ⟨t_is_lot K, PSs.nox (der_is_lot T hr), pure_is_lot T.toTxt h⟩), T.g_is_lot, F.kp, F.bindsN fun _ _ _ _ _ _ us hl => match us, hl with | [_, _], _ => rfl⟩
theorem der_is_waits (T : TxtW w K mg) {cdv : Value} {A : Around} {outer : List PySem.Env} {s : Shared} {H : Hp} {E : XK} {f : Addr} (hr : Room 3 (A.deeper (envOfC "is_waits" (defScope s_is_waits) s.heap.objs.size f cdv))) :
    PSs (cxOf L2.CX0 P w K mg base N_is_waits "is_waits" (defScope s_is_waits) f cdv A outer s H E).nox (defBody s_is_waits) (t_is_waits K) :=
  pss_one (ps_ret (pe_and (pe_cal (cal_is_lot T) hr (by decide) rfl (pa_cons (pv 2) (pa_cons (pv 0) (pa_nil)))) (pe_one (pe_cmpR op_notIn_seq (pv 1) (pv 2) rfl))))
theorem cal_is_waits (T : TxtW w K mg) : Cal P w K mg base 4 "is_waits" (sp_is_waits K) := by
  obtain ⟨fd, F⟩ := T.fn_is_waits
  exact ⟨_, fd, ["many", "deed", "thing"], F.ok sc_is_waits (fun vs H Q E h => len_is_waits h) (fun cdv A outer s H vs Q E hr h => ⟨t_is_waits K, PSs.nox (der_is_waits T hr), pure_is_waits T.toTxt h⟩), T.g_is_waits, F.kp, F.bindsN fun _ _ _ _ _ _ us hl => match us, hl with | [_, _, _], _ => rfl⟩
theorem der_first_wrong (T : TxtW w K mg) {cdv : Value} {A : Around} {outer : List PySem.Env} {s : Shared} {H : Hp} {E : XK} {f : Addr} (hr : Room 4 (A.deeper (envOfC "first_wrong" (defScope s_first_wrong) s.heap.objs.size f cdv))) :
    PSs (cxOf L2.CX0 P w K mg base N_first_wrong "first_wrong" (defScope s_first_wrong) f cdv A outer s H E).nox (defBody s_first_wrong) (t_first_wrong K) :=
  pss_cons (ps_set (i := 2) sc_first_wrong.nd rfl (Or.inl rfl) (pe_un un_negI (pe_int))) (pss_cons (ps_for PassesOwn.never rfl (pi_enT rfl T.b_enumerate (pa_cons (pv 1) (pa_nil))) (pg_tup rfl (pgs_cons (pg_name (i := 3) sc_first_wrong.nd rfl (Or.inl rfl)) (pgs_cons (pg_name (i := 4) sc_first_wrong.nd rfl (Or.inl rfl)) (pgs_nil)))) (pss_cons (ps_if (PW.pt (pw_or (pt_not (pt_val (pe_cal (cal_is_triple T) hr (by decide) rfl (pa_cons (pv 4) (pa_nil))))) (pw_or1 (pt_not (pt_val (pe_cal (cal_is_first_behind T) hr (by decide) rfl (pa_cons (pv 0) (pa_cons (pv 2) (pa_cons (pe_ix ix_any (pv 4) (pe_int) (fun _ _ => rfl)) (pa_nil)))))))))) (pss_one (ps_ret (pv 3))) (pss_nil)) (pss_cons (ps_if (PW.pt (pw_or (pt_not (pt_val (pe_cal (cal_is_number T) hr (by decide) rfl (pa_cons (pe_ix ix_any (pv 4) (pe_int) (fun _ _ => rfl)) (pa_cons (pe_globI rfl T.c_MOST_CELLS) (pa_nil)))))) (pw_or1 (pt_not (pt_val (pe_cal (cal_is_waits T) hr (by decide) rfl (pa_cons (pe_callB call_lenA rfl T.b_len boot_len (pa_cons (pv 1) (pa_nil))) (pa_cons (pv 3) (pa_cons (pe_ix ix_any (pv 4) (pe_int) (fun _ _ => rfl)) (pa_nil)))))))))) (pss_one (ps_ret (pv 3))) (pss_nil)) (pss_one (ps_set (i := 2) sc_first_wrong.nd rfl (Or.inl rfl) (pe_ix ix_any (pv 4) (pe_int) (fun _ _ => rfl))))))) (pss_one (ps_ret (pe_non))))
theorem cal_first_wrong (T : TxtW w K mg) : Cal P w K mg base 5 "first_wrong" (sp_first_wrong K) := by
  obtain ⟨fd, F⟩ := T.fn_first_wrong
  exact ⟨_, fd, ["head", "deeds"], F.ok sc_first_wrong (fun vs H Q E h => len_first_wrong h) (fun cdv A outer s H vs Q E hr h => ⟨t_first_wrong K, PSs.nox (der_first_wrong T hr), pure_first_wrong T.toTxt h⟩), T.g_first_wrong, F.kp, F.bindsN fun _ _ _ _ _ _ us hl => match us, hl with | [_, _], _ => rfl⟩
theorem der_is_too_far (T : TxtW w K mg) {cdv : Value} {A : Around} {outer : List PySem.Env} {s : Shared} {H : Hp} {E : XK} {f : Addr} (hr : Room 0 (A.deeper (envOfC "is_too_far" (defScope s_is_too_far) s.heap.objs.size f cdv))) :
    PSs (cxOf L2.CX0 P w K mg base N_is_too_far "is_too_far" (defScope s_is_too_far) f cdv A outer s H E).nox (defBody s_is_too_far) (t_is_too_far K) :=
  pss_one (ps_ret (pe_and (pe_cmpR op_gtI (pe_callB call_lenA rfl T.b_len boot_len (pa_cons (pv 2) (pa_nil))) (pe_int) (nomark _)) (pe_and (pe_cmpR op_notNo (pe_ix ix_any (pe_ix ix_any (pv 2) (pe_int) (fun _ _ => rfl)) (pe_int) (fun _ _ => rfl)) (pe_non) (nomark _)) (pe_one (pe_cmpR op_gtI (pe_op op_subI (pv 1) (pe_ix ix_any (pe_ix ix_any (pv 2) (pe_int) (fun _ _ => rfl)) (pe_int) (fun _ _ => rfl))) (pv 0) (nomark _))))))
theorem cal_is_too_far (T : TxtW w K mg) : Cal P w K mg base 1 "is_too_far" (sp_is_too_far K) := by
  obtain ⟨fd, F⟩ := T.fn_is_too_far
  exact ⟨_, fd, ["cells", "head", "deeds"], F.ok sc_is_too_far (fun vs H Q E h => len_is_too_far h) (fun cdv A outer s H vs Q E hr h => ⟨t_is_too_far K, PSs.nox (der_is_too_far T hr), pure_is_too_far T.toTxt h⟩), T.g_is_too_far, F.kp, F.bindsN fun _ _ _ _ _ _ us hl => match us, hl with | [_, _, _], _ => rfl⟩
theorem der_waited_for (T : TxtW w K mg) {cdv : Value} {A : Around} {outer : List PySem.Env} {s : Shared} {H : Hp} {E : XK} {f : Addr} (hr : Room 0 (A.deeper (envOfC "waited_for" (defScope s_waited_for) s.heap.objs.size f cdv))) :
    PSs (cxOf L2.CX0 P w K mg base N_waited_for "waited_for" (defScope s_waited_for) f cdv A outer s H E).nox (defBody s_waited_for) (t_waited_for K) :=
  pss_cons (ps_setDc (i := 2) (own := [("deed", 5)]) (g := gName 5) (tt := tYes) rfl sc_waited_for.nd rfl rfl (sw_trueD rfl rfl rfl (by decide +kernel)) (pi_tup (pv 1)) (blkOk_by (N := N_waited_for) (sc := defScope s_waited_for) (by decide +kernel)) (fun _ _ _ _ _ => pg_name (i := 5) sc_waited_for.nd rfl (Or.inl rfl)) (fun _ _ _ _ _ => pts_nil) (fun _ _ _ _ _ => pv 5) (fun _ _ _ _ _ => pe_bl)) (pss_cons (ps_set (i := 3) sc_waited_for.nd rfl (Or.inl rfl) (pe_callTy call_listS rfl T.b_list boot_list (pa_cons (pv 1) (pa_nil)))) (pss_cons (ps_while PassesOwn.never (pt_cmpR op_gtI (pe_callB call_lenA rfl T.b_len boot_len (pa_cons (pv 3) (pa_nil))) (pe_int) (nomark _)) (pss_one (ps_for PassesOwn.never rfl (pi_tup (pe_ix ix_any (pv 0) (pe_bm0 PySem.F.plainAttrs_list PySem.F.slot_list_pop PySem.F.type_list_pop mt_pop (pv 3)) (fun _ _ => rfl))) (pg_name (i := 4) sc_waited_for.nd rfl (Or.inl rfl)) (pss_one (ps_if (pt_cmp (pc_dnotin (hu_of hr) (pv 4) (pv 2)) rfl) (pss_cons (ps_dput (hu_of hr) (pv 2) (pv 4) (pe_bl) rfl) (pss_one (ps_expr (pe_bm PySem.F.plainAttrs_list PySem.F.slot_list_append PySem.F.type_list_append mt_append (pv 3) (pa_cons (pv 4) (pa_nil)))))) (pss_nil)))))) (pss_one (ps_ret (pe_tupleOf rfl T.b_tuple (pe_callB (call_sortD rfl) rfl T.b_sorted boot_sorted (pa_cons (pv 2) (pa_nil))))))))
theorem cal_waited_for (T : TxtW w K mg) : Cal P w K mg base 1 "waited_for" (sp_waited_for K) := by
  obtain ⟨fd, F⟩ := T.fn_waited_for
  exact ⟨_, fd, ["waits", "lot"], F.ok sc_waited_for (fun vs H Q E h => len_waited_for h) (fun cdv A outer s H vs Q E hr h => ⟨t_waited_for K, PSs.nox (der_waited_for T hr), pure_waited_for T.toTxt h⟩), T.g_waited_for, F.kp, F.bindsN fun _ _ _ _ _ _ us hl => match us, hl with | [_, _], _ => rfl⟩
theorem der_first_in_ring (T : TxtW w K mg) {cdv : Value} {A : Around} {outer : List PySem.Env} {s : Shared} {H : Hp} {E : XK} {f : Addr} (hr : Room 1 (A.deeper (envOfC "first_in_ring" (defScope s_first_in_ring) s.heap.objs.size f cdv))) :
    PSs (cxOf L2.CX0 P w K mg base N_first_in_ring "first_in_ring" (defScope s_first_in_ring) f cdv A outer s H E).nox (defBody s_first_in_ring) (t_first_in_ring K) :=
  pss_cons (ps_for PassesOwn.never rfl (pi_enum rfl T.b_enumerate (pa_cons (pv 0) (pa_nil))) (pg_tup rfl (pgs_cons (pg_name (i := 1) sc_first_in_ring.nd rfl (Or.inl rfl)) (pgs_cons (pg_name (i := 2) sc_first_in_ring.nd rfl (Or.inl rfl)) (pgs_nil)))) (pss_one (ps_if (pt_cmpR op_in_seq (pv 1) (pe_cal (cal_waited_for T) hr (by decide) rfl (pa_cons (pv 0) (pa_cons (pv 2) (pa_nil)))) rfl) (pss_one (ps_ret (pv 1))) (pss_nil)))) (pss_one (ps_ret (pe_non)))
theorem cal_first_in_ring (T : TxtW w K mg) : Cal P w K mg base 2 "first_in_ring" (sp_first_in_ring K) := by
  obtain ⟨fd, F⟩ := T.fn_first_in_ring
  exact ⟨_, fd, ["waits"], F.ok sc_first_in_ring (fun vs H Q E h => len_first_in_ring h) (fun cdv A outer s H vs Q E hr h => ⟨t_first_in_ring K, PSs.nox (der_first_in_ring T hr), pure_first_in_ring T.toTxt h⟩), T.g_first_in_ring, F.kp, F.bindsN fun _ _ _ _ _ _ us hl => match us, hl with | [_], _ => rfl⟩
end
end RC
end
section
set_option Elab.async false
set_option linter.all false
set_option maxRecDepth 100000
set_option maxHeartbeats 4000000
namespace RC
open PySem PySem.Spec PyProof.Rows L2
local macro_rules | `(tactic| walk_at "sub") => `(tactic| first | exact sub_nil | (apply sub_cons; walk_at "sub") | (apply sub_drop; walk_at "sub"))
local macro_rules | `(tactic| walk_at "hr") => `(tactic| (repeat apply Exists.intro) <;> (refine And.intro rfl ?_) <;> (repeat' apply And.intro) <;> (first | rfl | assumption | omega | skip))
local macro_rules | `(tactic| walk_at "ev") => `(tactic| first
  | exact ty_var rfl
  | exact ty_int
  | exact ty_bl
  | exact ty_non
  | exact ty_str
  | exact ta_nil
  | (apply ta_cons <;> walk_at "ev")
  | (apply tt_test <;> walk_at "ev")
  | (apply tt_B <;> walk_at "ev")
  | (apply tt_not <;> walk_at "ev")
  | (apply tt_and <;> (first | walk_at "ev" | (intro _; walk_at "ev")))
  | (apply tt_or <;> (first | walk_at "ev" | (intro _; walk_at "ev")))
  | (apply ty_and <;> (first | walk_at "ev" | (intro _; walk_at "ev")))
  | (apply ty_or <;> (first | walk_at "ev" | (intro _; walk_at "ev")))
  | (apply ty_not <;> walk_at "ev")
  | (apply ty_succ <;> walk_at "ev")
  | (apply ty_add <;> walk_at "ev")
  | (apply ty_sub <;> walk_at "ev")
  | (apply ty_lt <;> walk_at "ev")
  | (apply ty_le <;> walk_at "ev")
  | (apply ty_gt <;> walk_at "ev")
  | (apply ty_ge <;> walk_at "ev")
  | (apply ty_leleI <;> walk_at "ev")
  | (apply ty_ltltI <;> walk_at "ev")
  | (apply ty_isOpen <;> walk_at "ev")
  | (apply ty_isRow <;> walk_at "ev")
  | (apply ty_isWait <;> walk_at "ev")
  | (apply ty_o1 <;> walk_at "ev")
  | (apply ty_o2 <;> walk_at "ev")
  | (apply ty_o3 <;> walk_at "ev")
  | (apply ty_r1 <;> walk_at "ev")
  | (apply ty_r2 <;> walk_at "ev")
  | (apply ty_r3 <;> walk_at "ev")
  | (apply ty_eqI <;> walk_at "ev")
  | (apply ty_eqS <;> (first | walk_at "ev" | decide +kernel))
  | (apply ty_wrote <;> walk_at "ev")
  | (apply ty_bare <;> walk_at "ev")
  | (apply ty_isN <;> walk_at "ev")
  | (apply ty_notN <;> walk_at "ev")
  | (apply ty_neI <;> walk_at "ev")
  | (apply ty_neg <;> walk_at "ev")
  | (apply ty_inTN <;> walk_at "ev")
  | (apply ty_inLN <;> walk_at "ev")
  | (apply ty_niTN <;> walk_at "ev")
  | (apply ty_isi <;> (first | walk_at "ev" | exact kit_ii | exact kit_ib | exact kit_tt | exact kit_ss | exact kit_bb))
  | exact tyc_len (k := 0) rfl rfl
  | exact tyc_len (k := 1) rfl rfl
  | (apply ty_lenT <;> walk_at "ev")
  | (apply ty_lenL <;> walk_at "ev")
  | (apply ty_d0 <;> walk_at "ev")
  | (apply ty_d1 <;> walk_at "ev")
  | (apply ty_d2 <;> walk_at "ev")
  | (apply ty_di <;> (first | walk_at "ev" | assumption))
  | (apply ty_ixT <;> (first | walk_at "ev" | rfl | exact atI_map_nat _ (by assumption) | (show _ = _)))
  | (apply ty_ixL <;> (first | walk_at "ev" | rfl | exact atI_map_nat _ (by assumption) | (show _ = _)))
  | (apply ty_cells (by assumption) <;> walk_at "ev")
  | (apply ty_head (by assumption) <;> walk_at "ev")
  | (apply ty_deeds (by assumption) <;> walk_at "ev")
  | (apply ty_tupleL <;> walk_at "ev")
  | (apply ty_tupleT <;> walk_at "ev")
  | (apply ty_slT <;> walk_at "ev")
  | exact to_no
  | (apply to_some <;> walk_at "ev")
  | (apply ty_tup <;> (first | walk_at "ev" | decide | (simp; done)))
  | (apply ty_call <;> (first | walk_at "ev" | walk_at "hr")))
local macro_rules | `(tactic| walk_at "bv") => `(tactic| first | rfl | (refine congrArg BV ?_; simp; done) | (refine congrArg BV ?_; simp; omega) | (simp; done) | (simp; omega) | omega)
section
variable {K : PySem.W.Frag} {mg : Str → Option Value} {vs : List V} {H : Hp} {Q : VK} {E : XK}
abbrev nrNF (cc cda : Addr) : NdefX.NF := ⟨"__init__", "NoRoom.__init__", defArgs s_NoRoom_init, defBody s_NoRoom_init, defScope s_NoRoom_init, [("__class__", cc)], cda⟩
/-- what the written part says of NoRoom and its __init__ -/
structure NrF (K : PySem.W.Frag) (C fI cc cda : Addr) : Prop where
  oex : OexC K C
  lk : ∃ oc od osl doc pm an ct, K.lookup fI = some (⟨oc, od, .func (PySem.W.ksFn "__init__" "NoRoom.__init__" (defArgs s_NoRoom_init) (defBody s_NoRoom_init) (defScope s_NoRoom_init) .none .none doc pm an (.ref cda) ct cc), osl⟩ : Obj)
  code : PySem.W.codeIn K (.ref cda) "NoRoom.__init__" = true
  cdo : ∃ ccl cdd vs ccs file tf, K.lookup cda = some (⟨ccl, cdd, .fields vs, ccs⟩ : Obj) ∧ vs[2]? = some (.str file tf) ∧ ((PySem.Challenge.pw_ringclaims_k13_whole_leaving_and_carryin.main.file : Str) == file) = true
  cell : ∃ cl cld csl, K.lookup cc = some (⟨cl, cld, .cell (some (.ref C)), csl⟩ : Obj)
  cls : ∃ cd, PySem.W.clsIn K C = some cd
  sub : PySem.W.mroIn K C (.ref C) = some true
  sup : PySem.W.ks_superIn K C C "__init__" = some (some (.builtin "ValueError.__init__"))
  subV : PySem.W.subIn K (.ref C) (.type "ValueError") = some true
  opq : PySem.W.nsIn K PySem.cStatics "thirdparty.any" = some none
  nod : PySem.W.findIn K (.ref C) "deed" = some none
def sp_NoRoom (C : Addr) : Sp := fun vs H Q _ => ∃ a i, vs = [.ref a, .int i] ∧ H a = some (exo a C none) ∧ ∀ dx, H dx = none → dx ≠ a → Q .non (upd (upd H dx (exd dx [("deed", .int i)])) a (exo a C (some dx)))
def N_NoRoom_init : List Str := ["self", "deed", "__class__"]
theorem nr_scope : NdefX.NScope N_NoRoom_init ["self", "deed"] ["__class__"] (defScope s_NoRoom_init) := NdefX.nscope_by (by decide +kernel)
theorem nr_sup : (defScope s_NoRoom_init).names.lookup ("super" : Str) = some .globalImplicit := by decide +kernel
theorem nr_cls : (defScope s_NoRoom_init).names.lookup ("__class__" : Str) = some .free := by decide +kernel
theorem nr_self : (defScope s_NoRoom_init).names.lookup ("self" : Str) = some .local := by decide +kernel
theorem nr_nocell : ∀ x ∈ (defScope s_NoRoom_init).names, x.2 ≠ .cell := nr_scope.nocell
section
open PySem.W PySem.Calls
variable {prog : Program} {w : World} {A : Around} {E : Value → Shared → Prop} {h : Heap} {g : Array GenState} {d : PySem.Drawn} {t : Nat} {os : OsState}
variable {nm q : Str} {C N : Addr} {bs bm : List Value} {hdct : Bool} {sn : List Str} {sub : List Value} {ab : Bool} {col : Option Bool} {dd : Option Addr} {k0 k1 k2 k3 k5 : Option Value}
theorem nr_mwcall {u a t0 : Addr} {rest : List Value} {Q : Value → Shared → Prop} (hC : h.get? C = some (excClassObj nm q C N bs bm hdct sn sub ab col dd k0 k1 k2 k3 k5 "ValueError.__new__"))
    (he : h.get? a = some ({ cls := .ref C, dict := none, data := .fields #[.ref t0, .none, .none, .none, .bool false, .none] } : Obj)) (hu : h.get? u = some (kxs_mw "ValueError.__init__" a)) (hz : rest.length ≤ sizeLine)
    (fin : ∀ h', (∀ b o, b ≠ a → h.get? b = some o → h'.get? b = some o) → h'.get? a = some ({ cls := .ref C, dict := none, data := .fields #[.ref h.objs.size, .none, .none, .none, .bool false, .none] } : Obj) → Q .none ⟨h', g, d, t, os⟩) :
    wpAny (model prog w) A (call (.ref u) rest) Q E ⟨h, g, d, t, os⟩ := by
  refine wpAny_call (codeAny_of_tree ?_)
  show wpAny _ A.in1 (callAny (.ref u) ⟨rest, []⟩) _ _ _
  simp only [callAny]
  refine wpAny_bind (wpAny_load hu ?_)
  simp only [kxs_mw, show (Value.type "method-wrapper" == Value.type "method" || Value.type "method-wrapper" == Value.type "builtin_function_or_method" || Value.type "method-wrapper" == Value.type "method-wrapper") = true by decide, if_true]
  refine KFB.if_so (by decide) ?_
  refine wpAny_bind (check_bound_init F.excBase_ValueError.toExcCallFacts hC he rfl ?_)
  refine wpAny_bind (wpAny_pure (wpAny_pure ?_))
  refine ⟨plainId_quiet F.excBase_ValueError.init.plain _, codeAny_builtin F.excBase_ValueError.initEntry ?_⟩
  exact exc_init_tree (cls := .ref C) (t0 := t0) (dv := none) (c2 := .none) (c3 := .none) (b4 := .bool false) he hz fun h' k1 k2 _ => fin h' k1 k2
end
/-- NoRoom.__init__ binds -/
theorem nr_binds {doc pm ct : Value} {an : Option Addr} {cc cda : Addr} : Binds K (PySem.W.ksFn "__init__" "NoRoom.__init__" (defArgs s_NoRoom_init) (defBody s_NoRoom_init) (defScope s_NoRoom_init) .none .none doc pm an (.ref cda) ct cc) ["self", "deed"] [] :=
  Binds.all fun us hl => match us, hl with | [_, _], _ => rfl
section
variable {w : World} {base : Heap} {C fI cc cda : Addr} {P : Program}
theorem nr_fn (hP : P = PySem.Challenge.pw_ringclaims_k13_whole_leaving_and_carryin) (N : NrF K C fI cc cda) (hsup : mg "super" = none) : ∃ fd, FnOk P w K mg base L2.CX0 3 fI fd ["self", "deed"] (sp_NoRoom C) ∧ Binds K fd ["self", "deed"] [] := by
  obtain ⟨oc, od, osl, doc, pm, an, ct, lk⟩ := N.lk
  refine ⟨PySem.W.ksFn "__init__" "NoRoom.__init__" (defArgs s_NoRoom_init) (defBody s_NoRoom_init) (defScope s_NoRoom_init) .none .none doc pm an (.ref cda) ct cc, ⟨fun vs H Q E h => ?_, fun A outer s H args us vs Q E hr e0 hb r hsp => ?_⟩, nr_binds⟩
  · obtain ⟨a, i, rfl, _⟩ := h
    rfl
  have hl : vs.length = 2 := by
    obtain ⟨a, i, rfl, _⟩ := hsp
    rfl
  have KX : K.In s.heap := e0.mod.kin.keeps fun b o e => (e0.bs b o e).1
  have lim : s.heap.NoLimit := e0.mod.nolimit.keeps fun b o e => (e0.bs b o e).1
  refine ks_codeAny_call_defAt hr.depth (KX _ _ lk) rfl lim (PySem.W.codeRec_of KX N.code) rfl hb nr_nocell (fun x hx => nr_scope.par x.1 (List.of_mem_zip hx).1) (fun h₀ hns kp => ?_)
  obtain ⟨cl, cld, csl, hcell⟩ := N.cell
  have CA : NdefX.CellsAt [("__class__", cc)] ["__class__"] [some (.ref C)] s.heap H := by
    refine ⟨rfl, ?_, ?_, ?_⟩
    · intro y c e
      have hc : c = cc := by
        simp only [List.lookup] at e
        split at e
        · exact (Option.some.inj e).symm
        · cases e
      subst hc
      exact ⟨(e0.bs _ _ (e0.mod.kin _ _ hcell)).2, _, _, KX _ _ hcell, rfl⟩
    · intro x y c e1 e2
      simp only [List.lookup] at e1 e2
      split at e1
      · rename_i h1
        split at e2
        · rename_i h2
          exact (eq_of_beq h1).trans (eq_of_beq h2).symm
        · cases e2
      · cases e1
    intro i y e
    match i, e with
    | 0, e =>
      have e' : y = "__class__" := (Option.some.inj e).symm
      subst e'
      refine ⟨cc, rfl, fun v hv => ?_⟩
      have hv' : v = .ref C := (Option.some.inj (Option.some.inj hv)).symm
      subst hv'
      exact ⟨_, rfl, _, KX _ _ hcell, rfl⟩
    | i + 1, e => simp at e
  have I : Inv (NdefX.ncx L2.CX0 P w K mg base N_NoRoom_init (nrNF cc cda) fI A outer s H E) [] (NdefX.startF N_NoRoom_init vs [some (.ref C)]) H { s with heap := h₀, toks := s.toks + (["self", "deed"].zip us).length } := NdefX.inv_startN nr_scope hr.hd e0 hl r CA hns kp
  obtain ⟨a, i, rfl, ha, q⟩ := hsp
  have fin : ∀ s', Inv (NdefX.ncx L2.CX0 P w K mg base N_NoRoom_init (nrNF cc cda) fI A outer s H E) [] (NdefX.startF N_NoRoom_init [.ref a, .int i] [some (.ref C)]) H s' →
      wpAny (model P w) (A.deeper (NdefX.envF (nrNF cc cda) fI s.heap.objs.size)) (execs ((defBody s_NoRoom_init).drop 1) (NdefX.envF (nrNF cc cda) fI s.heap.objs.size)) (fun f s' => CR L2.CX0 outer P w H s Q E (.ok (.ret (match f with | .ret v => v | _ => .none))) s')
        (fun e s' => wpAny (model P w) (A.deeper (NdefX.envF (nrNF cc cda) fI s.heap.objs.size)) (leaving (NdefX.envF (nrNF cc cda) fI s.heap.objs.size) e) (fun _ s'' => CR L2.CX0 outer P w H s Q E (.error e) s'') (fun e' s'' => CR L2.CX0 outer P w H s Q E (.error e') s'') s') s' := by
    intro s' J
    have d : PSs (NdefX.ncx L2.CX0 P w K mg base N_NoRoom_init (nrNF cc cda) fI A outer s H E) ((defBody s_NoRoom_init).drop 1) (tOst K "deed" (tVar 0) (tVar 1)) := pss_one (ps_ost (pv 0) (pv 1))
    have h : tOst K "deed" (tVar 0) (tVar 1) { nx := fun _ H' => Q .non H', rt := Q } (NdefX.startF N_NoRoom_init [.ref a, .int i] [some (.ref C)]) H :=
      ⟨_, rfl, _, rfl, a, C, rfl, N.oex, N.nod, .inl ⟨ha, fun dx h1 h2 => q dx h1 h2⟩⟩
    refine wpAny_mono (d.run [] s' _ H _ J h) (fun fl s2 hs => ?_) fun e s2 hs => hs
    cases fl with
    | ret u =>
      obtain ⟨v, σ', H', J', rv, q⟩ := hs
      exact ⟨v, H', J'.os, J'.bare, J'.base, J'.hok, rv, q⟩
    | next =>
      obtain ⟨σ', H', J', q⟩ := hs
      exact ⟨.non, H', J'.os, J'.bare, J'.base, J'.hok, rfl, q⟩
    | brk =>
      obtain ⟨_, _, _, q⟩ := hs
      exact False.elim q
    | cont =>
      obtain ⟨_, _, _, q⟩ := hs
      exact False.elim q
  obtain ⟨ccl, cdd, vs', ccs, file, tf, hcda, hvs, hfile⟩ := N.cdo
  obtain ⟨cd, hcls⟩ := N.cls
  have X1 : K.In h₀ := fun b o e => kp _ _ (KX b o e)
  refine ks_wpAt_execs_cons (ks_wpAt_Expr_any (ks_wpAt_MethodCall (ks_wpAt_super_base (env := NdefX.envF (nrNF cc cda) fI s.heap.objs.size) (of := _) (fd := PySem.W.ksFn "__init__" "NoRoom.__init__" (defArgs s_NoRoom_init) (defBody s_NoRoom_init) (defScope s_NoRoom_init) .none .none doc pm an (.ref cda) ct cc) (vs := vs') (file := file) (tf := tf)
    nr_sup nr_cls (by decide) rfl (X1 _ _ lk) rfl rfl rfl (X1 _ _ hcda) rfl hvs (by rw [hP]; exact hfile) (by rw [hP]; decide +kernel) ?_)))
  obtain ⟨mb, b1, b2⟩ := e0.mod.blt
  have kb : ∀ b o, base.get? b = some o → h₀.get? b = some o := fun b o e => kp _ _ (e0.bs b o e).1
  refine PySem.W.ks_loadName_global rfl nr_sup (Calls.loadGlobal_builtin (e0.mod.glob.keeps kb) hsup (b1.keeps kb) ((b2 _ (by decide)).trans (show bootBuiltins "super" = some (.type "super") from by first | boot_by_name | rfl | kernel_rfl)) ⟨rfl, ?_⟩)
  refine wpAny_loadName_free rfl nr_cls rfl ⟨_, X1 _ _ hcell, rfl⟩ ?_
  obtain ⟨ku, rfl⟩ : ∃ ku, us = [.ref a, .int i ku] := by
    cases r with
    | cons r1 r2 =>
      cases r2 with
      | cons r2 r3 =>
        cases r3
        obtain ⟨k, rfl⟩ := r2
        exact ⟨k, by rw [r1]⟩
  refine wpAny_loadName_local rfl nr_self hns (v := .ref a) (by rfl) ?_
  obtain ⟨oD, hD1, hD2⟩ : ∃ oD, h₀.get? C = some oD ∧ oD.data = .cls cd := by
    unfold PySem.W.clsIn at hcls
    split at hcls
    · rename_i c d cd' sl ho
      cases hcls
      exact ⟨_, X1 _ _ ho, rfl⟩
    · cases hcls
  refine ks_wpAny_isType_cls hD1 hD2 ⟨rfl, ?_⟩
  obtain ⟨t1, hoa⟩ := exo_at I.hok ha
  refine ks_wpAny_call_super hD1 hD2 hoa rfl (fun c e => by cases e) (PySem.W.looks_mroIn X1 N.sub) (fun h1 e1 k1 => ?_)
  have X2 : K.In h1 := fun b o e => k1 _ _ (X1 b o e)
  have hI : PySem.W.Looks (model P w) h1 (isInstance (.ref a) (.type "ValueError")) true := (show PySem.W.InstAt h1 a _ C none from ⟨k1 _ _ hoa, rfl, rfl, trivial⟩).type.andThen (PySem.W.looks_subIn X2 N.subV)
  have hal := N.sup
  unfold PySem.W.ks_superIn at hal
  rw [hcls] at hal
  have haC : a ≠ C := fun z => by
    have e := k1 _ _ hoa
    rw [z, k1 _ _ hD1] at e
    cases e
    cases hD2
  refine PySem.W.kxs_getMethod PySem.W.kxs_ValueError e1 (PySem.W.looks_opaque X2 N.opq) (l₀ := cd.mro) (fun A Q E s k q => wpAny_bind ((PySem.W.looks_clsIn X2 hcls) A _ E s k (wpAny_pure q))) rfl X2 hal hI haC (by decide) ?_
  show wpAny _ _ (callWith _ (.ref h1.objs.size) [] (backTo _ (starEach _ _)) []) _ _ _
  refine PySem.W.kxs_callWith (i := "ValueError.__init__") (x := a) rfl (Calls.evalArgs_plain (spliced_more (Calls.Constant_str (spliced_none ⟨Heap.get?_push_at rfl rfl, ?_⟩)) rfl))
  obtain ⟨nm, qn, N', bs, bm, sn, sub, ab, col, dd, k0, k1', k2, k3, k5, hC, hbm⟩ := N.oex.cls
  have kk : ∀ b o, h₀.get? b = some o → (h1.push (PySem.W.kxs_mw "ValueError.__init__" a)).get? b = some o := fun b o e => Heap.get?_push_of_some _ (k1 _ _ e)
  refine nr_mwcall (kk _ _ (X1 _ _ hC)) (kk _ _ hoa) (Heap.get?_push_at rfl rfl) (by rw [PySem.sizeLine_eq]; simp) (fun h' k2 hx => ?_)
  have J := I.write (t' := s.toks + 2 + 1 + 1) (x := a) (e := a) (o := exo a C none) (h' := h') (by rw [ha]; exact True.intro) (.inl rfl) (fun b o hb e => k2 b o hb (kk _ _ e)) ⟨_, hx⟩ (exo_ok hx)
  have eu : upd H a (exo a C none) = H := by
    funext b
    by_cases hb : b = a
    · rw [hb, upd_same, ha]
    · rw [upd_ne hb]
  rw [eu] at J
  exact wpAt_of_wpAny (fin _ J)
end
end
end RC

end
section
set_option Elab.async false
set_option linter.all false
set_option maxRecDepth 100000
set_option maxHeartbeats 4000000
namespace RC
open PySem PySem.Spec PyProof.Rows L2
local macro_rules | `(tactic| walk_at "sub") => `(tactic| first | exact sub_nil | (apply sub_cons; walk_at "sub") | (apply sub_drop; walk_at "sub"))
local macro_rules | `(tactic| walk_at "hr") => `(tactic| (repeat apply Exists.intro) <;> (refine And.intro rfl ?_) <;> (repeat' apply And.intro) <;> (first | rfl | assumption | omega | skip))
local macro_rules | `(tactic| walk_at "ev") => `(tactic| first
  | exact ty_var rfl
  | exact ty_int
  | exact ty_bl
  | exact ty_non
  | exact ty_str
  | exact ta_nil
  | (apply ta_cons <;> walk_at "ev")
  | (apply tt_test <;> walk_at "ev")
  | (apply tt_B <;> walk_at "ev")
  | (apply tt_not <;> walk_at "ev")
  | (apply tt_and <;> (first | walk_at "ev" | (intro _; walk_at "ev")))
  | (apply tt_or <;> (first | walk_at "ev" | (intro _; walk_at "ev")))
  | (apply ty_and <;> (first | walk_at "ev" | (intro _; walk_at "ev")))
  | (apply ty_or <;> (first | walk_at "ev" | (intro _; walk_at "ev")))
  | (apply ty_not <;> walk_at "ev")
  | (apply ty_succ <;> walk_at "ev")
  | (apply ty_add <;> walk_at "ev")
  | (apply ty_sub <;> walk_at "ev")
  | (apply ty_lt <;> walk_at "ev")
  | (apply ty_le <;> walk_at "ev")
  | (apply ty_gt <;> walk_at "ev")
  | (apply ty_ge <;> walk_at "ev")
  | (apply ty_leleI <;> walk_at "ev")
  | (apply ty_ltltI <;> walk_at "ev")
  | (apply ty_isOpen <;> walk_at "ev")
  | (apply ty_isRow <;> walk_at "ev")
  | (apply ty_isWait <;> walk_at "ev")
  | (apply ty_o1 <;> walk_at "ev")
  | (apply ty_o2 <;> walk_at "ev")
  | (apply ty_o3 <;> walk_at "ev")
  | (apply ty_r1 <;> walk_at "ev")
  | (apply ty_r2 <;> walk_at "ev")
  | (apply ty_r3 <;> walk_at "ev")
  | (apply ty_eqI <;> walk_at "ev")
  | (apply ty_eqS <;> (first | walk_at "ev" | decide +kernel))
  | (apply ty_wrote <;> walk_at "ev")
  | (apply ty_bare <;> walk_at "ev")
  | (apply ty_isN <;> walk_at "ev")
  | (apply ty_notN <;> walk_at "ev")
  | (apply ty_neI <;> walk_at "ev")
  | (apply ty_neg <;> walk_at "ev")
  | (apply ty_inTN <;> walk_at "ev")
  | (apply ty_inLN <;> walk_at "ev")
  | (apply ty_niTN <;> walk_at "ev")
  | (apply ty_isi <;> (first | walk_at "ev" | exact kit_ii | exact kit_ib | exact kit_tt | exact kit_ss | exact kit_bb))
  | exact tyc_len (k := 0) rfl rfl
  | exact tyc_len (k := 1) rfl rfl
  | (apply ty_lenT <;> walk_at "ev")
  | (apply ty_lenL <;> walk_at "ev")
  | (apply ty_d0 <;> walk_at "ev")
  | (apply ty_d1 <;> walk_at "ev")
  | (apply ty_d2 <;> walk_at "ev")
  | (apply ty_di <;> (first | walk_at "ev" | assumption))
  | (apply ty_ixT <;> (first | walk_at "ev" | rfl | exact atI_map_nat _ (by assumption) | (show _ = _)))
  | (apply ty_ixL <;> (first | walk_at "ev" | rfl | exact atI_map_nat _ (by assumption) | (show _ = _)))
  | (apply ty_cells (by assumption) <;> walk_at "ev")
  | (apply ty_head (by assumption) <;> walk_at "ev")
  | (apply ty_deeds (by assumption) <;> walk_at "ev")
  | (apply ty_tupleL <;> walk_at "ev")
  | (apply ty_tupleT <;> walk_at "ev")
  | (apply ty_slT <;> walk_at "ev")
  | exact to_no
  | (apply to_some <;> walk_at "ev")
  | (apply ty_tup <;> (first | walk_at "ev" | decide | (simp; done)))
  | (apply ty_call <;> (first | walk_at "ev" | walk_at "hr")))
local macro_rules | `(tactic| walk_at "bv") => `(tactic| first | rfl | (refine congrArg BV ?_; simp; done) | (refine congrArg BV ?_; simp; omega) | (simp; done) | (simp; omega) | omega)
section
variable {K : PySem.W.Frag} {mg : Str → Option Value} {vs : List V} {H : Hp} {Q : VK} {E : XK}
theorem nr_lk {K : PySem.W.Frag} {C : Addr} (e : nrObs K = nrVal) (b : nrB K C = true) : ∃ cc cda, (∃ oc od osl doc pm an ct, K.lookup (nrAt K) = some (⟨oc, od, .func (PySem.W.ksFn "__init__" "NoRoom.__init__" (defArgs s_NoRoom_init) (defBody s_NoRoom_init) (defScope s_NoRoom_init) .none .none doc pm an (.ref cda) ct cc), osl⟩ : Obj)) ∧
    PySem.W.codeIn K (.ref cda) "NoRoom.__init__" = true ∧ (∃ ccl cdd vs ccs file tf, K.lookup cda = some (⟨ccl, cdd, .fields vs, ccs⟩ : Obj) ∧ vs[2]? = some (.str file tf) ∧ ((PySem.Challenge.pw_ringclaims_k13_whole_leaving_and_carryin.main.file : Str) == file) = true) ∧
    ∃ cl cld csl, K.lookup cc = some (⟨cl, cld, .cell (some (.ref C)), csl⟩ : Obj) := by
  unfold nrObs at e
  unfold nrB at b
  split at e
  · rename_i oc od fd osl ho
    rw [ho] at b ⊢
    dsimp only at b
    split at b
    · rename_i cda n cc hcode hclo
      obtain ⟨b1, b⟩ := Bool.and_eq_true_iff.mp b
      obtain ⟨b2, b3⟩ := Bool.and_eq_true_iff.mp b
      refine ⟨cc, cda, ?_, b1, ?_, ?_⟩
      · obtain ⟨name, qual, params, fbody, scope, globals, closure, dV, kV, doc, pm, an, code, ct, blt⟩ := fd
        dsimp only at hcode hclo
        subst hcode hclo
        have e1 := Option.some.inj e
        simp only [List.map_cons, List.map_nil, Prod.mk.injEq, List.cons.injEq] at e1
        obtain ⟨h1, h2, h3, h4, h5, h6, ⟨h7, _⟩, h8, h9, h10⟩ := e1
        subst h1 h2 h3 h4 h5 h6 h7 h8 h9 h10
        exact ⟨_, _, _, _, _, _, _, rfl⟩
      · split at b2
        · rename_i h1
          split at b2
          · rename_i h2
            exact ⟨_, _, _, _, _, _, h1, h2, b2⟩
          · cases b2
        · cases b2
      · split at b3
        · rename_i h1
          have := of_decide_eq_true b3
          subst this
          exact ⟨_, _, _, h1⟩
        · cases b3
    · cases b
  · exact nomatch e
theorem oexB_ok {K : PySem.W.Frag} {C : Addr} (b : oexB K C = true) : OexC K C := by
  obtain ⟨q, b⟩ := Bool.and_eq_true_iff.mp b
  obtain ⟨b1, b⟩ := Bool.and_eq_true_iff.mp b
  obtain ⟨b2, b⟩ := Bool.and_eq_true_iff.mp b
  obtain ⟨b3, b4⟩ := Bool.and_eq_true_iff.mp b
  refine ⟨?_, of_decide_eq_true b1, of_decide_eq_true b2, of_decide_eq_true b3, b4⟩
  split at q
  · rename_i dd cd sl ho
    split at q
    · rename_i C' bm k0 k1 k2 k3 n k5 hm hs
      simp only [Bool.and_eq_true, beq_iff_eq, Bool.not_eq_true'] at q
      obtain ⟨rfl, rfl, hdel, hdict, ht⟩ := q
      obtain ⟨nm, bs, mro, ns, qn, hd, sn, sub, ab, col, del⟩ := cd
      dsimp only at hm hdel hdict
      subst hm hdel hdict
      have hsl : sl = #[k0, k1, k2, k3, some (.builtin "ValueError.__new__"), k5] := by
        obtain ⟨l⟩ := sl
        simp only at hs
        rw [hs]
      subst hsl
      exact ⟨nm, qn, ns, bs, bm, sn, sub, ab, col, dd, k0, k1, k2, k3, k5, ho, ht⟩
    · cases q
  · cases q
theorem nrAll_ok {K : PySem.W.Frag} (e : nrObs K = nrVal) (b : nrAll K = true) : (∃ fI cc cda, NrF K (He.ga K "NoRoom") fI cc cda ∧ PySem.W.findIn K (.ref (He.ga K "NoRoom")) "__init__" = some (some (.ref fI)) ∧ PySem.W.typeIn K (.ref fI) = some (.type "function")) ∧ XfC K (He.ga K "NoRoom") := by
  obtain ⟨b1, b⟩ := Bool.and_eq_true_iff.mp b
  obtain ⟨b2, b⟩ := Bool.and_eq_true_iff.mp b
  obtain ⟨b3, b⟩ := Bool.and_eq_true_iff.mp b
  obtain ⟨b4, b⟩ := Bool.and_eq_true_iff.mp b
  obtain ⟨b5, b⟩ := Bool.and_eq_true_iff.mp b
  obtain ⟨b6, b⟩ := Bool.and_eq_true_iff.mp b
  obtain ⟨b7, b⟩ := Bool.and_eq_true_iff.mp b
  obtain ⟨b8, b⟩ := Bool.and_eq_true_iff.mp b
  obtain ⟨b9, b⟩ := Bool.and_eq_true_iff.mp b
  obtain ⟨b10, b11⟩ := Bool.and_eq_true_iff.mp b
  obtain ⟨cc, cda, l1, l2, l3, l4⟩ := nr_lk e b1
  exact ⟨⟨nrAt K, cc, cda, ⟨oexB_ok b2, l1, l2, l3, l4, Option.isSome_iff_exists.mp b3, of_decide_eq_true b4, of_decide_eq_true b5, of_decide_eq_true b6, of_decide_eq_true b7, of_decide_eq_true b8⟩, of_decide_eq_true b9, of_decide_eq_true b10⟩, xfB_ok b11⟩
end
end RC

end
section
set_option Elab.async false
set_option linter.all false
set_option maxRecDepth 100000
set_option maxHeartbeats 2000000
namespace RC
open PySem PySem.Spec PyProof.Rows L2
section
variable {P : Program} {w : World} {K : PySem.W.Frag} {mg : Str → Option Value} {base : Heap}
theorem der_Standing_init (T : TxtW w K mg) {cdv : Value} {A : Around} {outer : List PySem.Env} {s : Shared} {H : Hp} {E : XK} {f : Addr} (hr : Room 5 (A.deeper (envOfC "Standing.__init__" (defScope s_Standing_init) s.heap.objs.size f cdv))) :
    PSs (cxOf L2.CX0 P w K mg base N_Standing_init "Standing.__init__" (defScope s_Standing_init) f cdv A outer s H E).nox (defBody s_Standing_init) (t_Standing_init K) :=
  pss_cons (ps_if (pt_not (pt_val (pe_cal (cal_is_within T) hr (by decide) rfl (pa_cons (pv 1) (pa_cons (pe_int) (pa_cons (pe_globI rfl T.c_MOST_CELLS) (pa_nil))))))) (pss_never) (pss_nil)) (pss_cons (ps_if (pt_not (pt_val (pe_cal (cal_is_number T) hr (by decide) rfl (pa_cons (pv 2) (pa_cons (pe_globI rfl T.c_MOST_HEAD) (pa_nil)))))) (pss_never) (pss_nil)) (pss_cons (ps_if (PW.pt (pw_or (pt_not (pt_val (pe_callB call_isT rfl T.b_isinstance boot_isinstance (pa_cons (pv 3) (pa_cons (pe_bltn (v := .ty "tuple") rfl T.b_tuple boot_tuple rfl) (pa_nil)))))) (pw_or1 (pt_cmpR op_gtI (pe_callB call_lenA rfl T.b_len boot_len (pa_cons (pv 3) (pa_nil))) (pe_globI rfl T.c_MOST_DEEDS) (nomark _))))) (pss_never) (pss_nil)) (pss_cons (ps_set (i := 4) sc_Standing_init.nd rfl (Or.inl rfl) (pe_cal (cal_first_wrong T) hr (by decide) rfl (pa_cons (pv 2) (pa_cons (pv 3) (pa_nil))))) (pss_cons (ps_if (pt_cmpR op_notNo (pv 4) (pe_non) (nomark _)) (pss_never) (pss_nil)) (pss_cons (ps_if (pt_val (pe_cal (cal_is_too_far T) hr (by decide) rfl (pa_cons (pv 1) (pa_cons (pv 2) (pa_cons (pv 3) (pa_nil)))))) (pss_never) (pss_nil)) (pss_cons (ps_set (i := 4) sc_Standing_init.nd rfl (Or.inl rfl) (pe_cal (cal_first_in_ring T) hr (by decide) rfl (pa_cons (pe_lc (own := [("first", 5), ("need", 6), ("waits", 7)]) (g := gTup K 3 (gCons (gName 5) (gCons (gName 6) (gCons (gName 7) (gNil))))) (tt := tYes) rfl sc_Standing_init.nd (pi_tup (pv 3)) (blkOk_by (N := N_Standing_init) (sc := defScope s_Standing_init) (by decide +kernel)) (fun _ _ _ _ _ => pg_tup rfl (pgs_cons (pg_name (i := 5) sc_Standing_init.nd rfl (Or.inl rfl)) (pgs_cons (pg_name (i := 6) sc_Standing_init.nd rfl (Or.inl rfl)) (pgs_cons (pg_name (i := 7) sc_Standing_init.nd rfl (Or.inl rfl)) (pgs_nil))))) (fun _ _ _ _ _ => pts_nil) (fun _ _ _ _ _ => pv 7)) (pa_nil)))) (pss_cons (ps_if (pt_cmpR op_notNo (pv 4) (pe_non) (nomark _)) (pss_never) (pss_nil)) (pss_cons (ps_fld (pv 0) (pv 1) rfl) (pss_cons (ps_fld (pv 0) (pv 2) rfl) (pss_one (ps_fld (pv 0) (pv 3) rfl)))))))))))
theorem ok_Standing_init (T : TxtW w K mg) : ∃ fd, L2.FnOk P w K mg base L2.CX0 6 (He.fAd K ("Standing", some "__init__")) fd ["self", "cells", "head", "deeds"] (sp_Standing_init K) ∧ L2.Binds K fd ["self", "cells", "head", "deeds"] [] := by
  obtain ⟨fd, F⟩ := T.fn_Standing_init
  exact ⟨fd, F.ok sc_Standing_init (fun vs H Q E h => len_Standing_init h) (fun cdv A outer s H vs Q E hr h => ⟨t_Standing_init K, PSs.nox (der_Standing_init T hr), pure_Standing_init T.toTxt h⟩), F.bindsN fun _ _ _ _ _ _ us hl => match us, hl with | [_, _, _, _], _ => rfl⟩
theorem pe_makeStanding {X : Cx} {e : Expr} {es : List Expr} {t : TA} {p pos : Pos} {j : Nat} (T : TxtW X.w X.K X.mg) (hr : Room j X.A) (ha : PA X (e :: es) t) (hj : 7 ≤ j := by decide) (hg : Gl X "Standing" := by rfl)
    (he : starEach (e :: es) X.env = (false, eval e X.env) :: starEach es X.env := by rfl) (hpl : (backTo pos (starEach es X.env)).any (·.1) = false := by rfl) : PE X (.Call (.Name "Standing" p) (e :: es) [] pos) (tMake (He.ga X.K "Standing") (sp_Standing_init X.K) [] L2.E0 t) := by
  obtain ⟨fd, F, hb⟩ := ok_Standing_init (P := X.prog) (w := X.w) (base := X.base) T
  exact pe_make T.mks F (hr.mono hj) hg T.g_Standing hb .nil L2.pass0 ha (by decide) he hpl
end
end RC
end
section
set_option Elab.async false
set_option linter.all false
set_option maxRecDepth 100000
set_option maxHeartbeats 2000000
namespace RC
open PySem PySem.Spec PyProof.Rows L2
section
variable {P : Program} {w : World} {K : PySem.W.Frag} {mg : Str → Option Value} {base : Heap}
theorem der_law_lots (T : TxtW w K mg) {cdv : Value} {A : Around} {outer : List PySem.Env} {s : Shared} {H : Hp} {E : XK} {f : Addr} (hr : Room 0 (A.deeper (envOfC "_law_lots" (defScope s_law_lots) s.heap.objs.size f cdv))) :
    PSs (cxOf L2.CX0 P w K mg base N_law_lots "_law_lots" (defScope s_law_lots) f cdv A outer s H E).nox (defBody s_law_lots) (t_law_lots K) :=
  pss_cons (ps_set (i := 1) sc_law_lots.nd rfl (Or.inl rfl) (pe_lst (pa_cons (pe_tup (pa_nil)) (pa_nil)))) (pss_cons (ps_for PassesOwn.never rfl (pi_range1 rfl T.b_range (pa_cons (pv 0) (pa_nil))) (pg_name (i := 2) sc_law_lots.nd rfl (Or.inr rfl)) (pss_one (ps_set (i := 1) sc_law_lots.nd rfl (Or.inl rfl) (pe_op op_addA (pv 1) (pe_lc (own := [("_law_lot", 4)]) (g := gName 4) (tt := tYes) rfl sc_law_lots.nd (pi_list (pv 1)) (blkOk_by (N := N_law_lots) (sc := defScope s_law_lots) (by decide +kernel)) (fun _ _ _ _ _ => pg_name (i := 4) sc_law_lots.nd rfl (Or.inl rfl)) (fun _ _ _ _ _ => pts_nil) (fun _ _ _ _ _ => pe_op op_addA (pv 4) (pe_tup (pa_cons (pv 2) (pa_nil))))))))) (pss_one (ps_ret (pe_lc (own := [("_law_size", 3), ("_law_lot", 4)]) (g := gTup K 2 (gCons (gName 3) (gCons (gName 4) (gNil)))) (tt := tYes) rfl sc_law_lots.nd (pi_list (pe_callB (call_sortLots hr.units) rfl T.b_sorted boot_sorted (pa_cons (pe_lc (own := [("_law_lot", 4)]) (g := gName 4) (tt := tYes) rfl sc_law_lots.nd (pi_list (pv 1)) (blkOk_by (N := N_law_lots) (sc := defScope s_law_lots) (by decide +kernel)) (fun _ _ _ _ _ => pg_name (i := 4) sc_law_lots.nd rfl (Or.inl rfl)) (fun _ _ _ _ _ => pts_nil) (fun _ _ _ _ _ => pe_tup (pa_cons (pe_callB call_lenA rfl T.b_len boot_len (pa_cons (pv 4) (pa_nil))) (pa_cons (pv 4) (pa_nil))))) (pa_nil)))) (blkOk_by (N := N_law_lots) (sc := defScope s_law_lots) (by decide +kernel)) (fun _ _ _ _ _ => pg_tup rfl (pgs_cons (pg_name (i := 3) sc_law_lots.nd rfl (Or.inl rfl)) (pgs_cons (pg_name (i := 4) sc_law_lots.nd rfl (Or.inl rfl)) (pgs_nil)))) (fun _ _ _ _ _ => pts_nil) (fun _ _ _ _ _ => pv 4)))))
theorem cal_law_lots (T : TxtW w K mg) : Cal P w K mg base 1 "_law_lots" (sp_law_lots K) := by
  obtain ⟨fd, F⟩ := T.fn_law_lots
  exact ⟨_, fd, ["_law_many"], F.ok sc_law_lots (fun vs H Q E h => len_law_lots h) (fun cdv A outer s H vs Q E hr h => ⟨t_law_lots K, PSs.nox (der_law_lots T hr), pure_law_lots T.toTxt h⟩), T.g__law_lots, F.kp, F.bindsN fun _ _ _ _ _ _ us hl => match us, hl with | [_], _ => rfl⟩
theorem der_law_carried (T : TxtW w K mg) {cdv : Value} {A : Around} {outer : List PySem.Env} {s : Shared} {H : Hp} {E : XK} {f : Addr} (hr : Room 0 (A.deeper (envOfC "_law_carried" (defScope s_law_carried) s.heap.objs.size f cdv))) :
    PSs (cxOf L2.CX0 P w K mg base N_law_carried "_law_carried" (defScope s_law_carried) f cdv A outer s H E).nox (defBody s_law_carried) (t_law_carried K) :=
  pss_cons (ps_asg (pe_ix ix_any (pv 2) (pv 3) (fun _ _ => rfl)) (pg_tup rfl (pgs_cons (pg_name (i := 4) sc_law_carried.nd rfl (Or.inl rfl)) (pgs_cons (pg_name (i := 5) sc_law_carried.nd rfl (Or.inl rfl)) (pgs_cons (pg_name (i := 6) sc_law_carried.nd rfl (Or.inl rfl)) (pgs_nil)))))) (pss_cons (ps_if (pt_cmpR op_isNo (pv 4) (pe_non) (nomark _)) (pss_one (ps_ret (pe_tup (pa_cons (pe_str) (pa_nil))))) (pss_nil)) (pss_cons (ps_if (pt_cmpR op_gtI (pe_op op_subI (pe_op op_addA (pv 1) (pv 5)) (pe_ix ix_any (pe_ix ix_any (pv 2) (pe_int) (fun _ _ => rfl)) (pe_int) (fun _ _ => rfl))) (pv 0) (nomark _)) (pss_one (ps_ret (pe_tup (pa_cons (pe_str) (pa_cons (pv 3) (pa_nil)))))) (pss_nil)) (pss_cons (ps_set (i := 7) sc_law_carried.nd rfl (Or.inl rfl) (pe_op op_addA (pe_slice sl_any (pv 2) (po_none) (po_some (pv 3))) (pe_slice sl_any (pv 2) (po_some (pe_op op_addA (pv 3) (pe_int))) (po_none)))) (pss_cons (ps_set (i := 8) sc_law_carried.nd rfl (Or.inl rfl) (pe_ifExp (pt_cmpR op_gtI (pv 5) (pe_int) (nomark _)) (pe_callB call_lenA rfl T.b_len boot_len (pa_cons (pe_lc (own := [("_law_one", 9)]) (g := gName 9) (tt := tTest (tOp rNotNo (tOp (rIxA K) (tVar 9) (tC (.int 0))) (tC .non))) rfl sc_law_carried.nd (pi_tup (pv 7)) (blkOk_by (N := N_law_carried) (sc := defScope s_law_carried) (by decide +kernel)) (fun _ _ _ _ _ => pg_name (i := 9) sc_law_carried.nd rfl (Or.inl rfl)) (fun _ _ _ _ _ => pts_one (pt_cmpR op_notNo (pe_ix ix_any (pv 9) (pe_int) (fun _ _ => rfl)) (pe_non) (nomark _))) (fun _ _ _ _ _ => pv 9)) (pa_nil))) (pe_callB call_lenA rfl T.b_len boot_len (pa_cons (pv 7) (pa_nil))))) (pss_one (ps_ret (pe_tup (pa_cons (pe_str) (pa_cons (pe_op op_addA (pv 1) (pv 5)) (pa_cons (pe_op op_addA (pe_op op_addA (pe_slice sl_any (pv 7) (po_none) (po_some (pv 8))) (pe_tup (pa_cons (pe_tup (pa_cons (pe_ifExp (pt_cmpR op_gtI (pv 5) (pe_int) (nomark _)) (pv 1) (pe_non)) (pa_cons (pv 5) (pa_cons (pe_tup (pa_nil)) (pa_nil))))) (pa_nil)))) (pe_slice sl_any (pv 7) (po_some (pv 8)) (po_none))) (pa_nil)))))))))))
theorem cal_law_carried (T : TxtW w K mg) : Cal P w K mg base 1 "_law_carried" (sp_law_carried K) := by
  obtain ⟨fd, F⟩ := T.fn_law_carried
  exact ⟨_, fd, ["_law_cells", "_law_head", "_law_deeds_here", "_law_deed"], F.ok sc_law_carried (fun vs H Q E h => len_law_carried h) (fun cdv A outer s H vs Q E hr h => ⟨t_law_carried K, PSs.nox (der_law_carried T hr), pure_law_carried T.toTxt h⟩), T.g__law_carried, F.kp, F.bindsN fun _ _ _ _ _ _ us hl => match us, hl with | [_, _, _, _], _ => rfl⟩
theorem der_some_wait (T : TxtW w K mg) {cdv : Value} {A : Around} {outer : List PySem.Env} {s : Shared} {H : Hp} {E : XK} {f : Addr} (hr : Room 0 (A.deeper (envOfC "some_wait" (defScope s_some_wait) s.heap.objs.size f cdv))) :
    PSs (cxOf L2.CX0 P w K mg base N_some_wait "some_wait" (defScope s_some_wait) f cdv A outer s H E).nox (defBody s_some_wait) (t_some_wait K) :=
  pss_one (ps_ret (pe_callB (cr_any rfl) rfl T.b_any boot_any (pa_cons (pe_lc (own := [("first", 1), ("need", 2), ("waits", 3)]) (g := gTup K 3 (gCons (gName 1) (gCons (gName 2) (gCons (gName 3) (gNil))))) (tt := tYes) rfl sc_some_wait.nd (pi_tup (pe_fld (pv 0) rfl)) (blkOk_by (N := N_some_wait) (sc := defScope s_some_wait) (by decide +kernel)) (fun _ _ _ _ _ => pg_tup rfl (pgs_cons (pg_name (i := 1) sc_some_wait.nd rfl (Or.inl rfl)) (pgs_cons (pg_name (i := 2) sc_some_wait.nd rfl (Or.inl rfl)) (pgs_cons (pg_name (i := 3) sc_some_wait.nd rfl (Or.inl rfl)) (pgs_nil))))) (fun _ _ _ _ _ => pts_nil) (fun _ _ _ _ _ => pe_cmpR op_gtI (pe_callB call_lenA rfl T.b_len boot_len (pa_cons (pv 3) (pa_nil))) (pe_int) (nomark _))) (pa_nil))))
theorem cal_some_wait (T : TxtW w K mg) : Cal P w K mg base 1 "some_wait" (sp_some_wait K) := by
  obtain ⟨fd, F⟩ := T.fn_some_wait
  exact ⟨_, fd, ["standing"], F.ok sc_some_wait (fun vs H Q E h => len_some_wait h) (fun cdv A outer s H vs Q E hr h => ⟨t_some_wait K, PSs.nox (der_some_wait T hr), pure_some_wait T.toTxt h⟩), T.g_some_wait, F.kp, F.bindsN fun _ _ _ _ _ _ us hl => match us, hl with | [_], _ => rfl⟩
theorem der_check_free (T : TxtW w K mg) {cdv : Value} {A : Around} {outer : List PySem.Env} {s : Shared} {H : Hp} {E : XK} {f : Addr} (hr : Room 1 (A.deeper (envOfC "check_free" (defScope s_check_free) s.heap.objs.size f cdv))) :
    PSs (cxOf L2.CX0 P w K mg base N_check_free "check_free" (defScope s_check_free) f cdv A outer s H E).nox (defBody s_check_free) (t_check_free K) :=
  pss_one (ps_if (pt_val (pe_cal (cal_some_wait T) hr (by decide) rfl (pa_cons (pv 0) (pa_nil)))) (pss_never) (pss_nil))
theorem cal_check_free (T : TxtW w K mg) : Cal P w K mg base 2 "check_free" (sp_check_free K) := by
  obtain ⟨fd, F⟩ := T.fn_check_free
  exact ⟨_, fd, ["standing"], F.ok sc_check_free (fun vs H Q E h => len_check_free h) (fun cdv A outer s H vs Q E hr h => ⟨t_check_free K, PSs.nox (der_check_free T hr), pure_check_free T.toTxt h⟩), T.g_check_free, F.kp, F.bindsN fun _ _ _ _ _ _ us hl => match us, hl with | [_], _ => rfl⟩
theorem der_check_deed (T : TxtW w K mg) {cdv : Value} {A : Around} {outer : List PySem.Env} {s : Shared} {H : Hp} {E : XK} {f : Addr} (hr : Room 2 (A.deeper (envOfC "check_deed" (defScope s_check_deed) s.heap.objs.size f cdv))) :
    PSs (cxOf L2.CX0 P w K mg base N_check_deed "check_deed" (defScope s_check_deed) f cdv A outer s H E).nox (defBody s_check_deed) (t_check_deed K) :=
  pss_one (ps_if (pt_not (pt_val (pe_cal (cal_is_within T) hr (by decide) rfl (pa_cons (pv 1) (pa_cons (pe_int) (pa_cons (pe_op op_subI (pe_callB call_lenA rfl T.b_len boot_len (pa_cons (pe_fld (pv 0) rfl) (pa_nil))) (pe_int)) (pa_nil))))))) (pss_never) (pss_nil))
theorem cal_check_deed (T : TxtW w K mg) : Cal P w K mg base 3 "check_deed" (sp_check_deed K) := by
  obtain ⟨fd, F⟩ := T.fn_check_deed
  exact ⟨_, fd, ["standing", "thing"], F.ok sc_check_deed (fun vs H Q E h => len_check_deed h) (fun cdv A outer s H vs Q E hr h => ⟨t_check_deed K, PSs.nox (der_check_deed T hr), pure_check_deed T.toTxt h⟩), T.g_check_deed, F.kp, F.bindsN fun _ _ _ _ _ _ us hl => match us, hl with | [_, _], _ => rfl⟩
theorem der_raw_standing (T : TxtW w K mg) {cdv : Value} {A : Around} {outer : List PySem.Env} {s : Shared} {H : Hp} {E : XK} {f : Addr} (hr : Room 7 (A.deeper (envOfC "raw_standing" (defScope s_raw_standing) s.heap.objs.size f cdv))) :
    PSs (cxOf L2.CX0 P w K mg base N_raw_standing "raw_standing" (defScope s_raw_standing) f cdv A outer s H E).nox (defBody s_raw_standing) (t_raw_standing K) :=
  pss_cons (ps_set (i := 3) sc_raw_standing.nd rfl (Or.inl rfl) (pe_makeStanding T hr (pa_cons (pe_int) (pa_cons (pe_int) (pa_cons (pe_tup (pa_nil)) (pa_nil)))))) (pss_cons (ps_fld (pv 3) (pv 0) rfl) (pss_cons (ps_fld (pv 3) (pv 1) rfl) (pss_cons (ps_fld (pv 3) (pe_tupleOf rfl T.b_tuple (pv 2)) rfl) (pss_one (ps_ret (pv 3))))))
theorem cal_raw_standing (T : TxtW w K mg) : Cal P w K mg base 8 "raw_standing" (sp_raw_standing K) := by
  obtain ⟨fd, F⟩ := T.fn_raw_standing
  exact ⟨_, fd, ["cells", "head", "deeds"], F.ok sc_raw_standing (fun vs H Q E h => len_raw_standing h) (fun cdv A outer s H vs Q E hr h => ⟨t_raw_standing K, PSs.nox (der_raw_standing T hr), pure_raw_standing T.toTxt h⟩), T.g_raw_standing, F.kp, F.bindsN fun _ _ _ _ _ _ us hl => match us, hl with | [_, _, _], _ => rfl⟩
theorem der_renumbered (T : TxtW w K mg) {cdv : Value} {A : Around} {outer : List PySem.Env} {s : Shared} {H : Hp} {E : XK} {f : Addr} (hr : Room 0 (A.deeper (envOfC "renumbered" (defScope s_renumbered) s.heap.objs.size f cdv))) :
    PSs (cxOf L2.CX0 P w K mg base N_renumbered "renumbered" (defScope s_renumbered) f cdv A outer s H E).nox (defBody s_renumbered) (t_renumbered K) :=
  pss_cons (ps_set (i := 3) sc_renumbered.nd rfl (Or.inr rfl) (pe_dc (own := [("at", 8), ("deed", 2)]) (g := gTup K 2 (gCons (gName 8) (gCons (gName 2) (gNil)))) (tt := tYes) rfl sc_renumbered.nd (pi_enum rfl T.b_enumerate (pa_cons (pv 1) (pa_nil))) (blkOk_by (N := N_renumbered) (sc := defScope s_renumbered) (by decide +kernel)) (fun _ _ _ _ _ => pg_tup rfl (pgs_cons (pg_name (i := 8) sc_renumbered.nd rfl (Or.inl rfl)) (pgs_cons (pg_name (i := 2) sc_renumbered.nd rfl (Or.inl rfl)) (pgs_nil)))) (fun _ _ _ _ _ => pts_nil) (fun _ _ _ _ _ => pv 2) (fun _ _ _ _ _ => pv 8))) (pss_cons (ps_set (i := 4) sc_renumbered.nd rfl (Or.inl rfl) (pe_lst (pa_nil))) (pss_cons (ps_for PassesOwn.never rfl (pi_list (pv 1)) (pg_name (i := 2) sc_renumbered.nd rfl (Or.inl rfl)) (pss_cons (ps_asg (pe_ix ix_any (pv 0) (pv 2) (fun _ _ => rfl)) (pg_tup rfl (pgs_cons (pg_name (i := 5) sc_renumbered.nd rfl (Or.inl rfl)) (pgs_cons (pg_name (i := 6) sc_renumbered.nd rfl (Or.inl rfl)) (pgs_cons (pg_name (i := 7) sc_renumbered.nd rfl (Or.inl rfl)) (pgs_nil)))))) (pss_one (ps_expr (pe_bm PySem.F.plainAttrs_list PySem.F.slot_list_append PySem.F.type_list_append mt_append (pv 4) (pa_cons (pe_tup (pa_cons (pv 5) (pa_cons (pv 6) (pa_cons (pe_tupleOf rfl T.b_tuple (pe_callB cr_sorted rfl T.b_sorted boot_sorted (pa_cons (pe_lc (own := [("other", 9)]) (g := gName 9) (tt := tB (tDIn (tVar 9) (tVar 3))) rfl sc_renumbered.nd (pi_tup (pv 7)) (blkOk_by (N := N_renumbered) (sc := defScope s_renumbered) (by decide +kernel)) (fun _ _ _ _ _ => pg_name (i := 9) sc_renumbered.nd rfl (Or.inl rfl)) (fun _ _ _ _ _ => pts_one (pt_cmp (pc_din (hu_of hr) (pv 9) (pv 3)) rfl)) (fun _ _ _ _ _ => pe_dget (hu_of hr) (pv 3) (pv 9) (fun _ _ => rfl))) (pa_nil)))) (pa_nil))))) (pa_nil))))))) (pss_one (ps_ret (pe_tupleOf rfl T.b_tuple (pv 4))))))
theorem cal_renumbered (T : TxtW w K mg) : Cal P w K mg base 1 "renumbered" (sp_renumbered K) := by
  obtain ⟨fd, F⟩ := T.fn_renumbered
  exact ⟨_, fd, ["deeds", "order"], F.ok sc_renumbered (fun vs H Q E h => len_renumbered h) (fun cdv A outer s H vs Q E hr h => ⟨t_renumbered K, PSs.nox (der_renumbered T hr), pure_renumbered T.toTxt h⟩), T.g_renumbered, F.kp, F.bindsN fun _ _ _ _ _ _ us hl => match us, hl with | [_, _], _ => rfl⟩
theorem der_written_many (T : TxtW w K mg) {cdv : Value} {A : Around} {outer : List PySem.Env} {s : Shared} {H : Hp} {E : XK} {f : Addr} (hr : Room 0 (A.deeper (envOfC "written_many" (defScope s_written_many) s.heap.objs.size f cdv))) :
    PSs (cxOf L2.CX0 P w K mg base N_written_many "written_many" (defScope s_written_many) f cdv A outer s H E).nox (defBody s_written_many) (t_written_many K) :=
  pss_one (ps_ret (pe_callB call_lenA rfl T.b_len boot_len (pa_cons (pe_lc (own := [("first", 1), ("need", 2), ("waits", 3)]) (g := gTup K 3 (gCons (gName 1) (gCons (gName 2) (gCons (gName 3) (gNil))))) (tt := tTest (tOp rNotNo (tVar 1) (tC .non))) rfl sc_written_many.nd (pi_seq (pv 0)) (blkOk_by (N := N_written_many) (sc := defScope s_written_many) (by decide +kernel)) (fun _ _ _ _ _ => pg_tup rfl (pgs_cons (pg_name (i := 1) sc_written_many.nd rfl (Or.inl rfl)) (pgs_cons (pg_name (i := 2) sc_written_many.nd rfl (Or.inl rfl)) (pgs_cons (pg_name (i := 3) sc_written_many.nd rfl (Or.inl rfl)) (pgs_nil))))) (fun _ _ _ _ _ => pts_one (pt_cmpR op_notNo (pv 1) (pe_non) (nomark _))) (fun _ _ _ _ _ => pv 1)) (pa_nil))))
theorem cal_written_many (T : TxtW w K mg) : Cal P w K mg base 1 "written_many" (sp_written_many K) := by
  obtain ⟨fd, F⟩ := T.fn_written_many
  exact ⟨_, fd, ["deeds"], F.ok sc_written_many (fun vs H Q E h => len_written_many h) (fun cdv A outer s H vs Q E hr h => ⟨t_written_many K, PSs.nox (der_written_many T hr), pure_written_many T.toTxt h⟩), T.g_written_many, F.kp, F.bindsN fun _ _ _ _ _ _ us hl => match us, hl with | [_], _ => rfl⟩
theorem der_carried_of (T : TxtW w K mg) {cdv : Value} {A : Around} {outer : List PySem.Env} {s : Shared} {H : Hp} {E : XK} {f : Addr} (hr : Room 8 (A.deeper (envOfC "carried_of" (defScope s_carried_of) s.heap.objs.size f cdv))) :
    PSs (cxOf L2.CX0 P w K mg base N_carried_of "carried_of" (defScope s_carried_of) f cdv A outer s H E).nox (defBody s_carried_of) (t_carried_of K) :=
  pss_cons (ps_asg (pe_ix ix_any (pe_fld (pv 0) rfl) (pv 1) (fun _ _ => rfl)) (pg_tup rfl (pgs_cons (pg_name (i := 2) sc_carried_of.nd rfl (Or.inl rfl)) (pgs_cons (pg_name (i := 3) sc_carried_of.nd rfl (Or.inl rfl)) (pgs_cons (pg_name (i := 4) sc_carried_of.nd rfl (Or.inl rfl)) (pgs_nil)))))) (pss_cons (ps_set (i := 5) sc_carried_of.nd rfl (Or.inl rfl) (pe_callTy call_listS rfl T.b_list boot_list (pa_cons (pe_fld (pv 0) rfl) (pa_nil)))) (pss_cons (ps_asg (pe_tup (pa_cons (pe_ifExp (pt_cmpR op_gtI (pv 3) (pe_int) (nomark _)) (pe_fld (pv 0) rfl) (pe_non)) (pa_cons (pv 3) (pa_cons (pv 4) (pa_nil))))) (pg_sub (pv 5) (pv 1) set_list)) (pss_cons (ps_setLc (i := 6) (own := [("other", 7)]) (g := gName 7) (tt := tTest (tOp (rNeD K) (tVar 7) (tVar 1))) rfl sc_carried_of.nd rfl rfl (sw_true rfl rfl rfl (by decide +kernel)) (pi_range1 rfl T.b_range (pa_cons (pe_callB call_lenA rfl T.b_len boot_len (pa_cons (pv 5) (pa_nil))) (pa_nil))) (blkOk_by (N := N_carried_of) (sc := defScope s_carried_of) (by decide +kernel)) (fun _ _ _ _ _ => pg_name (i := 7) sc_carried_of.nd rfl (Or.inl rfl)) (fun _ _ _ _ _ => pts_one (pt_cmpR (op_neD hr.units) (pv 7) (pv 1) (nomark _))) (fun _ _ _ _ _ => pv 7)) (pss_cons (ps_expr (pe_bm PySem.F.plainAttrs_list PySem.F.slot_list_insert PySem.F.type_list_insert mt_ins (pv 6) (pa_cons (pe_ifExp (pt_cmpR op_gtI (pv 3) (pe_int) (nomark _)) (pe_op op_subI (pe_cal (cal_written_many T) hr (by decide) rfl (pa_cons (pe_fld (pv 0) rfl) (pa_nil))) (pe_int)) (pe_callB call_lenA rfl T.b_len boot_len (pa_cons (pv 6) (pa_nil)))) (pa_cons (pv 1) (pa_nil))))) (pss_one (ps_ret (pe_cal (cal_raw_standing T) hr (by decide) rfl (pa_cons (pe_fld (pv 0) rfl) (pa_cons (pe_op op_addA (pe_fld (pv 0) rfl) (pv 3)) (pa_cons (pe_cal (cal_renumbered T) hr (by decide) rfl (pa_cons (pv 5) (pa_cons (pv 6) (pa_nil)))) (pa_nil)))))))))))
theorem cal_carried_of (T : TxtW w K mg) : Cal P w K mg base 9 "carried_of" (sp_carried_of K) := by
  obtain ⟨fd, F⟩ := T.fn_carried_of
  exact ⟨_, fd, ["standing", "deed"], F.ok sc_carried_of (fun vs H Q E h => len_carried_of h) (fun cdv A outer s H vs Q E hr h => ⟨t_carried_of K, PSs.nox (der_carried_of T hr), pure_carried_of T.toTxt h⟩), T.g_carried_of, F.kp, F.bindsN fun _ _ _ _ _ _ us hl => match us, hl with | [_, _], _ => rfl⟩
theorem der_fits_with (T : TxtW w K mg) {cdv : Value} {A : Around} {outer : List PySem.Env} {s : Shared} {H : Hp} {E : XK} {f : Addr} (hr : Room 0 (A.deeper (envOfC "fits_with" (defScope s_fits_with) s.heap.objs.size f cdv))) :
    PSs (cxOf L2.CX0 P w K mg base N_fits_with "fits_with" (defScope s_fits_with) f cdv A outer s H E).nox (defBody s_fits_with) (t_fits_with K) :=
  pss_cons (ps_set (i := 2) sc_fits_with.nd rfl (Or.inl rfl) (pe_ifExp (pt_cmpR op_gtI (pe_callB call_lenA rfl T.b_len boot_len (pa_cons (pe_fld (pv 0) rfl) (pa_nil))) (pe_int) (nomark _)) (pe_ix ix_any (pe_ix ix_any (pe_fld (pv 0) rfl) (pe_int) (fun _ _ => rfl)) (pe_int) (fun _ _ => rfl)) (pe_non))) (pss_one (ps_ret (pe_or (pe_cmpR op_isNo (pv 2) (pe_non) (nomark _)) (pe_one (pe_cmpR op_leI (pe_op op_subI (pe_op op_addA (pe_fld (pv 0) rfl) (pv 1)) (pv 2)) (pe_fld (pv 0) rfl) (nomark _))))))
theorem cal_fits_with (T : TxtW w K mg) : Cal P w K mg base 1 "fits_with" (sp_fits_with K) := by
  obtain ⟨fd, F⟩ := T.fn_fits_with
  exact ⟨_, fd, ["standing", "cells"], F.ok sc_fits_with (fun vs H Q E h => len_fits_with h) (fun cdv A outer s H vs Q E hr h => ⟨t_fits_with K, PSs.nox (der_fits_with T hr), pure_fits_with T.toTxt h⟩), T.g_fits_with, F.kp, F.bindsN fun _ _ _ _ _ _ us hl => match us, hl with | [_, _], _ => rfl⟩
end
end RC
end
section
set_option Elab.async false
set_option linter.all false
set_option maxRecDepth 100000
set_option maxHeartbeats 2000000
namespace RC
open PySem PySem.Spec PyProof.Rows L2
section
variable {P : Program} {w : World} {K : PySem.W.Frag} {mg : Str → Option Value} {base : Heap}
theorem der_law_left (T : TxtW w K mg) {cdv : Value} {A : Around} {outer : List PySem.Env} {s : Shared} {H : Hp} {E : XK} {f : Addr} (hr : Room 0 (A.deeper (envOfC "_law_left" (defScope s_law_left) s.heap.objs.size f cdv))) :
    PSs (cxOf L2.CX0 P w K mg base N_law_left "_law_left" (defScope s_law_left) f cdv A outer s H E).nox (defBody s_law_left) (t_law_left K) :=
  pss_cons (ps_par (i := 4) (j := 5) rfl sc_law_left.nd rfl rfl (by decide) rfl rfl (pa_cons (pe_lst (pa_nil)) (pa_cons (pe_lst (pa_nil)) (pa_nil))) rfl) (pss_cons (ps_for PassesOwn.never rfl (pi_range1 rfl T.b_range (pa_cons (pv 2) (pa_nil))) (pg_name (i := 6) sc_law_left.nd rfl (Or.inl rfl)) (pss_cons (ps_set (i := 7) sc_law_left.nd rfl (Or.inl rfl) (pe_ix ix_any (pe_ix ix_any (pv 1) (pv 6) (fun _ _ => rfl)) (pe_int) (fun _ _ => rfl))) (pss_cons (ps_if (PW.pt (pw_and (pt_cmpR op_in_seq (pv 6) (pv 3) rfl) (pw_and1 (pt_cmpR op_gtI (pv 7) (pe_int) (nomark _))))) (pss_one (ps_expr (pe_bm PySem.F.plainAttrs_list PySem.F.slot_list_append PySem.F.type_list_append mt_append (pv 4) (pa_cons (pe_tup (pa_cons (pv 0) (pa_cons (pv 7) (pa_cons (pe_tup (pa_nil)) (pa_nil))))) (pa_nil))))) (pss_one (ps_if (pt_cmpR op_in_seq (pv 6) (pv 3) rfl) (pss_one (ps_expr (pe_bm PySem.F.plainAttrs_list PySem.F.slot_list_append PySem.F.type_list_append mt_append (pv 5) (pa_cons (pe_tup (pa_cons (pe_non) (pa_cons (pe_int) (pa_cons (pe_tup (pa_nil)) (pa_nil))))) (pa_nil))))) (pss_nil)))) (pss_one (ps_set (i := 0) sc_law_left.nd rfl (Or.inl rfl) (pe_op op_addA (pv 0) (pv 7))))))) (pss_cons (ps_setLc (i := 8) (own := [("_law_deed", 6)]) (g := gName 6) (tt := tTest (tOp rNotNo (tOp (rIxA K) (tVar 6) (tC (.int 0))) (tC .non))) rfl sc_law_left.nd rfl rfl (sw_true rfl rfl rfl (by decide +kernel)) (pi_tup (pe_slice sl_any (pv 1) (po_some (pv 2)) (po_none))) (blkOk_by (N := N_law_left) (sc := defScope s_law_left) (by decide +kernel)) (fun _ _ _ _ _ => pg_name (i := 6) sc_law_left.nd rfl (Or.inl rfl)) (fun _ _ _ _ _ => pts_one (pt_cmpR op_notNo (pe_ix ix_any (pv 6) (pe_int) (fun _ _ => rfl)) (pe_non) (nomark _))) (fun _ _ _ _ _ => pv 6)) (pss_cons (ps_setLc (i := 9) (own := [("_law_deed", 6)]) (g := gName 6) (tt := tTest (tOp rIsNo (tOp (rIxA K) (tVar 6) (tC (.int 0))) (tC .non))) rfl sc_law_left.nd rfl rfl (sw_true rfl rfl rfl (by decide +kernel)) (pi_tup (pe_slice sl_any (pv 1) (po_some (pv 2)) (po_none))) (blkOk_by (N := N_law_left) (sc := defScope s_law_left) (by decide +kernel)) (fun _ _ _ _ _ => pg_name (i := 6) sc_law_left.nd rfl (Or.inl rfl)) (fun _ _ _ _ _ => pts_one (pt_cmpR op_isNo (pe_ix ix_any (pv 6) (pe_int) (fun _ _ => rfl)) (pe_non) (nomark _))) (fun _ _ _ _ _ => pv 6)) (pss_one (ps_ret (pe_tup (pa_cons (pv 0) (pa_cons (pe_tupleOf rfl T.b_tuple (pe_op op_addA (pe_op op_addA (pe_op op_addA (pv 8) (pv 4)) (pv 9)) (pv 5))) (pa_nil)))))))))
theorem cal_law_left (T : TxtW w K mg) : Cal P w K mg base 1 "_law_left" (sp_law_left K) := by
  obtain ⟨fd, F⟩ := T.fn_law_left
  exact ⟨_, fd, ["_law_head", "_law_deeds_here", "_law_many", "_law_lot"], F.ok sc_law_left (fun vs H Q E h => len_law_left h) (fun cdv A outer s H vs Q E hr h => ⟨t_law_left K, PSs.nox (der_law_left T hr), pure_law_left T.toTxt h⟩), T.g__law_left, F.kp, F.bindsN fun _ _ _ _ _ _ us hl => match us, hl with | [_, _, _, _], _ => rfl⟩
theorem der_waits_of (T : TxtW w K mg) {cdv : Value} {A : Around} {outer : List PySem.Env} {s : Shared} {H : Hp} {E : XK} {f : Addr} (hr : Room 0 (A.deeper (envOfC "waits_of" (defScope s_waits_of) s.heap.objs.size f cdv))) :
    PSs (cxOf L2.CX0 P w K mg base N_waits_of "waits_of" (defScope s_waits_of) f cdv A outer s H E).nox (defBody s_waits_of) (t_waits_of K) :=
  pss_one (ps_ret (pe_lc (own := [("first", 1), ("need", 2), ("waits", 3)]) (g := gTup K 3 (gCons (gName 1) (gCons (gName 2) (gCons (gName 3) (gNil))))) (tt := tYes) rfl sc_waits_of.nd (pi_tup (pe_fld (pv 0) rfl)) (blkOk_by (N := N_waits_of) (sc := defScope s_waits_of) (by decide +kernel)) (fun _ _ _ _ _ => pg_tup rfl (pgs_cons (pg_name (i := 1) sc_waits_of.nd rfl (Or.inl rfl)) (pgs_cons (pg_name (i := 2) sc_waits_of.nd rfl (Or.inl rfl)) (pgs_cons (pg_name (i := 3) sc_waits_of.nd rfl (Or.inl rfl)) (pgs_nil))))) (fun _ _ _ _ _ => pts_nil) (fun _ _ _ _ _ => pv 3)))
theorem cal_waits_of (T : TxtW w K mg) : Cal P w K mg base 1 "waits_of" (sp_waits_of K) := by
  obtain ⟨fd, F⟩ := T.fn_waits_of
  exact ⟨_, fd, ["standing"], F.ok sc_waits_of (fun vs H Q E h => len_waits_of h) (fun cdv A outer s H vs Q E hr h => ⟨t_waits_of K, PSs.nox (der_waits_of T hr), pure_waits_of T.toTxt h⟩), T.g_waits_of, F.kp, F.bindsN fun _ _ _ _ _ _ us hl => match us, hl with | [_], _ => rfl⟩
theorem der_loads_of (T : TxtW w K mg) {cdv : Value} {A : Around} {outer : List PySem.Env} {s : Shared} {H : Hp} {E : XK} {f : Addr} (hr : Room 1 (A.deeper (envOfC "loads_of" (defScope s_loads_of) s.heap.objs.size f cdv))) :
    PSs (cxOf L2.CX0 P w K mg base N_loads_of "loads_of" (defScope s_loads_of) f cdv A outer s H E).nox (defBody s_loads_of) (t_loads_of K) :=
  pss_cons (ps_set (i := 1) sc_loads_of.nd rfl (Or.inl rfl) (pe_cal (cal_waits_of T) hr (by decide) rfl (pa_cons (pv 0) (pa_nil)))) (pss_cons (ps_set (i := 2) sc_loads_of.nd rfl (Or.inl rfl) pe_dnewK) (pss_cons (ps_set (i := 3) sc_loads_of.nd rfl (Or.inl rfl) (pe_int)) (pss_cons (ps_set (i := 4) sc_loads_of.nd rfl (Or.inl rfl) (pe_lst (pa_nil))) (pss_cons (ps_for PassesOwn.never rfl (pi_enT rfl T.b_enumerate (pa_cons (pe_fld (pv 0) rfl) (pa_nil))) (pg_tup rfl (pgs_cons (pg_name (i := 5) sc_loads_of.nd rfl (Or.inl rfl)) (pgs_cons (pg_tup rfl (pgs_cons (pg_name (i := 6) sc_loads_of.nd rfl (Or.inl rfl)) (pgs_cons (pg_name (i := 7) sc_loads_of.nd rfl (Or.inl rfl)) (pgs_cons (pg_name (i := 8) sc_loads_of.nd rfl (Or.inl rfl)) (pgs_nil))))) (pgs_nil)))) (pss_one (ps_if (pt_cmpR op_isNo (pv 6) (pe_non) (nomark _)) (pss_one (ps_expr (pe_bm PySem.F.plainAttrs_list PySem.F.slot_list_append PySem.F.type_list_append mt_append (pv 4) (pa_cons (pv 7) (pa_nil))))) (pss_cons (ps_for PassesOwn.never rfl (pi_tup (pe_cal (cal_waited_for T) hr (by decide) rfl (pa_cons (pv 1) (pa_cons (pe_tup (pa_cons (pv 5) (pa_nil))) (pa_nil))))) (pg_name (i := 9) sc_loads_of.nd rfl (Or.inl rfl)) (pss_one (ps_if (pt_cmp (pc_dnotin (hu_of hr) (pv 9) (pv 2)) rfl) (pss_cons (ps_dput (hu_of hr) (pv 2) (pv 9) (pe_bl) rfl) (pss_one (ps_aug (i := 3) sc_loads_of.nd rfl (Or.inl rfl) (pe_ix ix_any (pe_ix ix_any (pe_fld (pv 0) rfl) (pv 9) (fun _ _ => rfl)) (pe_int) (fun _ _ => rfl)) ip_add))) (pss_nil)))) (pss_one (ps_expr (pe_bm PySem.F.plainAttrs_list PySem.F.slot_list_append PySem.F.type_list_append mt_append (pv 4) (pa_cons (pe_op op_addA (pe_op op_subI (pe_fld (pv 0) rfl) (pv 6)) (pv 3)) (pa_nil))))))))) (pss_one (ps_ret (pe_tupleOf rfl T.b_tuple (pv 4))))))))
theorem cal_loads_of (T : TxtW w K mg) : Cal P w K mg base 2 "loads_of" (sp_loads_of K) := by
  obtain ⟨fd, F⟩ := T.fn_loads_of
  exact ⟨_, fd, ["standing"], F.ok sc_loads_of (fun vs H Q E h => len_loads_of h) (fun cdv A outer s H vs Q E hr h => ⟨t_loads_of K, PSs.nox (der_loads_of T hr), pure_loads_of T.toTxt h⟩), T.g_loads_of, F.kp, F.bindsN fun _ _ _ _ _ _ us hl => match us, hl with | [_], _ => rfl⟩
theorem der_too_heavy (T : TxtW w K mg) {cdv : Value} {A : Around} {outer : List PySem.Env} {s : Shared} {H : Hp} {E : XK} {f : Addr} (hr : Room 2 (A.deeper (envOfC "too_heavy" (defScope s_too_heavy) s.heap.objs.size f cdv))) :
    PSs (cxOf L2.CX0 P w K mg base N_too_heavy "too_heavy" (defScope s_too_heavy) f cdv A outer s H E).nox (defBody s_too_heavy) (t_too_heavy K) :=
  pss_one (ps_ret (pe_lc (own := [("deed", 1), ("load", 2)]) (g := gTup K 2 (gCons (gName 1) (gCons (gName 2) (gNil)))) (tt := tTest (tOp rGtI (tVar 2) (tFld K (tVar 0) "cells"))) rfl sc_too_heavy.nd (pi_enT rfl T.b_enumerate (pa_cons (pe_cal (cal_loads_of T) hr (by decide) rfl (pa_cons (pv 0) (pa_nil))) (pa_nil))) (blkOk_by (N := N_too_heavy) (sc := defScope s_too_heavy) (by decide +kernel)) (fun _ _ _ _ _ => pg_tup rfl (pgs_cons (pg_name (i := 1) sc_too_heavy.nd rfl (Or.inl rfl)) (pgs_cons (pg_name (i := 2) sc_too_heavy.nd rfl (Or.inl rfl)) (pgs_nil)))) (fun _ _ _ _ _ => pts_one (pt_cmpR op_gtI (pv 2) (pe_fld (pv 0) rfl) (nomark _))) (fun _ _ _ _ _ => pv 1)))
theorem cal_too_heavy (T : TxtW w K mg) : Cal P w K mg base 3 "too_heavy" (sp_too_heavy K) := by
  obtain ⟨fd, F⟩ := T.fn_too_heavy
  exact ⟨_, fd, ["standing"], F.ok sc_too_heavy (fun vs H Q E h => len_too_heavy h) (fun cdv A outer s H vs Q E hr h => ⟨t_too_heavy K, PSs.nox (der_too_heavy T hr), pure_too_heavy T.toTxt h⟩), T.g_too_heavy, F.kp, F.bindsN fun _ _ _ _ _ _ us hl => match us, hl with | [_], _ => rfl⟩
theorem der_easy (T : TxtW w K mg) {cdv : Value} {A : Around} {outer : List PySem.Env} {s : Shared} {H : Hp} {E : XK} {f : Addr} (hr : Room 3 (A.deeper (envOfC "easy" (defScope s_easy) s.heap.objs.size f cdv))) :
    PSs (cxOf L2.CX0 P w K mg base N_easy "easy" (defScope s_easy) f cdv A outer s H E).nox (defBody s_easy) (t_easy K) :=
  pss_one (ps_ret (pe_cmpR (op_eqD hr.units) (pe_callB call_lenA rfl T.b_len boot_len (pa_cons (pe_cal (cal_too_heavy T) hr (by decide) rfl (pa_cons (pv 0) (pa_nil))) (pa_nil))) (pe_int) (nomark _)))
theorem cal_easy (T : TxtW w K mg) : Cal P w K mg base 4 "easy" (sp_easy K) := by
  obtain ⟨fd, F⟩ := T.fn_easy
  exact ⟨_, fd, ["standing"], F.ok sc_easy (fun vs H Q E h => len_easy h) (fun cdv A outer s H vs Q E hr h => ⟨t_easy K, PSs.nox (der_easy T hr), pure_easy T.toTxt h⟩), T.g_easy, F.kp, F.bindsN fun _ _ _ _ _ _ us hl => match us, hl with | [_], _ => rfl⟩
theorem der_check_easy (T : TxtW w K mg) {cdv : Value} {A : Around} {outer : List PySem.Env} {s : Shared} {H : Hp} {E : XK} {f : Addr} (hr : Room 4 (A.deeper (envOfC "check_easy" (defScope s_check_easy) s.heap.objs.size f cdv))) :
    PSs (cxOf L2.CX0 P w K mg base N_check_easy "check_easy" (defScope s_check_easy) f cdv A outer s H E).nox (defBody s_check_easy) (t_check_easy K) :=
  pss_one (ps_if (pt_not (pt_val (pe_cal (cal_easy T) hr (by decide) rfl (pa_cons (pv 0) (pa_nil))))) (pss_never) (pss_nil))
theorem cal_check_easy (T : TxtW w K mg) : Cal P w K mg base 5 "check_easy" (sp_check_easy K) := by
  obtain ⟨fd, F⟩ := T.fn_check_easy
  exact ⟨_, fd, ["standing"], F.ok sc_check_easy (fun vs H Q E h => len_check_easy h) (fun cdv A outer s H vs Q E hr h => ⟨t_check_easy K, PSs.nox (der_check_easy T hr), pure_check_easy T.toTxt h⟩), T.g_check_easy, F.kp, F.bindsN fun _ _ _ _ _ _ us hl => match us, hl with | [_], _ => rfl⟩
theorem der_is_deed (T : TxtW w K mg) {cdv : Value} {A : Around} {outer : List PySem.Env} {s : Shared} {H : Hp} {E : XK} {f : Addr} (hr : Room 2 (A.deeper (envOfC "is_deed" (defScope s_is_deed) s.heap.objs.size f cdv))) :
    PSs (cxOf L2.CX0 P w K mg base N_is_deed "is_deed" (defScope s_is_deed) f cdv A outer s H E).nox (defBody s_is_deed) (t_is_deed K) :=
  pss_one (ps_ret (pe_cal (cal_is_within T) hr (by decide) rfl (pa_cons (pv 1) (pa_cons (pe_int) (pa_cons (pe_op op_subI (pe_callB call_lenA rfl T.b_len boot_len (pa_cons (pe_fld (pv 0) rfl) (pa_nil))) (pe_int)) (pa_nil))))))
theorem cal_is_deed (T : TxtW w K mg) : Cal P w K mg base 3 "is_deed" (sp_is_deed K) := by
  obtain ⟨fd, F⟩ := T.fn_is_deed
  exact ⟨_, fd, ["standing", "thing"], F.ok sc_is_deed (fun vs H Q E h => len_is_deed h) (fun cdv A outer s H vs Q E hr h => ⟨t_is_deed K, PSs.nox (der_is_deed T hr), pure_is_deed T.toTxt h⟩), T.g_is_deed, F.kp, F.bindsN fun _ _ _ _ _ _ us hl => match us, hl with | [_, _], _ => rfl⟩
theorem der_is_row_wish (T : TxtW w K mg) {cdv : Value} {A : Around} {outer : List PySem.Env} {s : Shared} {H : Hp} {E : XK} {f : Addr} (hr : Room 3 (A.deeper (envOfC "is_row_wish" (defScope s_is_row_wish) s.heap.objs.size f cdv))) :
    PSs (cxOf L2.CX0 P w K mg base N_is_row_wish "is_row_wish" (defScope s_is_row_wish) f cdv A outer s H E).nox (defBody s_is_row_wish) (t_is_row_wish K) :=
  pss_one (ps_ret (pe_and (pe_cal (cal_is_deed T) hr (by decide) rfl (pa_cons (pv 0) (pa_cons (pe_ix ix_any (pv 1) (pe_int) (fun _ _ => rfl)) (pa_nil)))) (pe_and (pe_cal (cal_is_within T) hr (by decide) rfl (pa_cons (pe_ix ix_any (pv 1) (pe_int) (fun _ _ => rfl)) (pa_cons (pe_int) (pa_cons (pe_globI rfl T.c_MOST_CELLS) (pa_nil))))) (pe_one (pe_cal (cal_is_number T) hr (by decide) rfl (pa_cons (pe_ix ix_any (pv 1) (pe_int) (fun _ _ => rfl)) (pa_cons (pe_globI rfl T.c_MOST_CELLS) (pa_nil))))))))
theorem cal_is_row_wish (T : TxtW w K mg) : Cal P w K mg base 4 "is_row_wish" (sp_is_row_wish K) := by
  obtain ⟨fd, F⟩ := T.fn_is_row_wish
  exact ⟨_, fd, ["standing", "thing"], F.ok sc_is_row_wish (fun vs H Q E h => len_is_row_wish h) (fun cdv A outer s H vs Q E hr h => ⟨t_is_row_wish K, PSs.nox (der_is_row_wish T hr), pure_is_row_wish T.toTxt h⟩), T.g_is_row_wish, F.kp, F.bindsN fun _ _ _ _ _ _ us hl => match us, hl with | [_, _], _ => rfl⟩
theorem der_is_open_wish (T : TxtW w K mg) {cdv : Value} {A : Around} {outer : List PySem.Env} {s : Shared} {H : Hp} {E : XK} {f : Addr} (hr : Room 3 (A.deeper (envOfC "is_open_wish" (defScope s_is_open_wish) s.heap.objs.size f cdv))) :
    PSs (cxOf L2.CX0 P w K mg base N_is_open_wish "is_open_wish" (defScope s_is_open_wish) f cdv A outer s H E).nox (defBody s_is_open_wish) (t_is_open_wish K) :=
  pss_cons (ps_if (PW.pt (pw_or (pt_cmpR op_geI (pe_callB call_lenA rfl T.b_len boot_len (pa_cons (pe_fld (pv 0) rfl) (pa_nil))) (pe_globI rfl T.c_MOST_DEEDS) (nomark _)) (pw_or (pt_not (pt_val (pe_cal (cal_is_number T) hr (by decide) rfl (pa_cons (pe_ix ix_any (pv 1) (pe_int) (fun _ _ => rfl)) (pa_cons (pe_globI rfl T.c_MOST_CELLS) (pa_nil)))))) (pw_or1 (pt_not (pt_val (pe_cal (cal_is_number T) hr (by decide) rfl (pa_cons (pe_ix ix_any (pv 1) (pe_int) (fun _ _ => rfl)) (pa_cons (pe_globI rfl T.c_MOST_CELLS) (pa_nil)))))))))) (pss_one (ps_ret (pe_bl))) (pss_nil)) (pss_one (ps_ret (pe_cal (cal_is_lot T) hr (by decide) rfl (pa_cons (pe_ix ix_any (pv 1) (pe_int) (fun _ _ => rfl)) (pa_cons (pe_callB call_lenA rfl T.b_len boot_len (pa_cons (pe_fld (pv 0) rfl) (pa_nil))) (pa_nil))))))
theorem cal_is_open_wish (T : TxtW w K mg) : Cal P w K mg base 4 "is_open_wish" (sp_is_open_wish K) := by
  obtain ⟨fd, F⟩ := T.fn_is_open_wish
  exact ⟨_, fd, ["standing", "thing"], F.ok sc_is_open_wish (fun vs H Q E h => len_is_open_wish h) (fun cdv A outer s H vs Q E hr h => ⟨t_is_open_wish K, PSs.nox (der_is_open_wish T hr), pure_is_open_wish T.toTxt h⟩), T.g_is_open_wish, F.kp, F.bindsN fun _ _ _ _ _ _ us hl => match us, hl with | [_, _], _ => rfl⟩
end
end RC
end
section
set_option Elab.async false
set_option linter.all false
set_option maxRecDepth 100000
set_option maxHeartbeats 2000000
namespace RC
open PySem PySem.Spec PyProof.Rows L2
section
variable {P : Program} {w : World} {K : PySem.W.Frag} {mg : Str → Option Value} {base : Heap}
theorem held_of {k : Nat} {x : Str} {f : Addr} {sp : Sp} (c : Cal P w K mg base k x sp) (hm : mg x = some (.ref f)) : L2.Held P w K mg base k f sp := by
  obtain ⟨f', fd, ps, F, h1, h2, h3⟩ := c.ex
  rw [hm] at h1
  cases h1
  exact ⟨fd, ps, F, h2, h3⟩
theorem pe_judge {X : Cx} {e : Expr} {es : List Expr} {t : TA} {p pos : Pos} {j : Nat} (T : TxtW X.w X.K X.mg) (hr : Room j X.A) (ha : PA X (e :: es) t) (hj : 4 ≤ j := by decide) (hN : X.N[2]? = some ("judge" : Str) := by rfl) (hv : Vis X.env.scope "judge" := by first | exact Or.inl rfl | exact Or.inr rfl)
    (he : starEach (e :: es) X.env = (false, eval e X.env) :: starEach es X.env := by rfl) (hpl : (backTo pos (starEach es X.env)).any (·.1) = false := by rfl) : PE X (.Call (.Name "judge" p) (e :: es) [] pos) (tJudge X.K 2 t) := by
  refine pe_callA (k := 4) (fun f sp h => ?_) (hr.mono hj) hN hv ha (by decide) (by decide) he hpl
  unfold judgeSp at h
  split at h
  · rename_i e
    cases h
    exact held_of (cal_is_row_wish T) (by rw [e]; exact T.g_is_row_wish)
  · split at h
    · rename_i e
      cases h
      exact held_of (cal_is_open_wish T) (by rw [e]; exact T.g_is_open_wish)
    · cases h
theorem der_is_wish (T : TxtW w K mg) {cdv : Value} {A : Around} {outer : List PySem.Env} {s : Shared} {H : Hp} {E : XK} {f : Addr} (hr : Room 4 (A.deeper (envOfC "is_wish" (defScope s_is_wish) s.heap.objs.size f cdv))) :
    PSs (cxOf L2.CX0 P w K mg base N_is_wish "is_wish" (defScope s_is_wish) f cdv A outer s H E).nox (defBody s_is_wish) (t_is_wish K) :=
  pss_cons (ps_if (PW.pt (pw_or (pt_not (pt_val (pe_callB call_isT rfl T.b_isinstance boot_isinstance (pa_cons (pv 1) (pa_cons (pe_bltn (v := .ty "tuple") rfl T.b_tuple boot_tuple rfl) (pa_nil)))))) (pw_or (pt_cmpR op_ltI (pe_callB call_lenA rfl T.b_len boot_len (pa_cons (pv 1) (pa_nil))) (pe_int) (nomark _)) (pw_or1 (pt_not (pt_val (pe_callB call_isT rfl T.b_isinstance boot_isinstance (pa_cons (pe_ix ix_any (pv 1) (pe_int) (fun _ _ => rfl)) (pa_cons (pe_bltn (v := .ty "str") rfl T.b_str boot_str rfl) (pa_nil)))))))))) (pss_one (ps_ret (pe_bl))) (pss_nil)) (pss_cons (ps_if (pt_cmpR (op_neD hr.units) (pe_sizes T hr (pe_ix ix_any (pv 1) (pe_int) (fun _ _ => rfl)) (pe_int)) (pe_callB call_lenA rfl T.b_len boot_len (pa_cons (pv 1) (pa_nil))) (nomark _)) (pss_one (ps_ret (pe_bl))) (pss_nil)) (pss_cons (ps_set (i := 2) sc_is_wish.nd rfl (Or.inl rfl) (pe_judges T hr (pe_ix ix_any (pv 1) (pe_int) (fun _ _ => rfl)))) (pss_one (ps_ret (pe_judge T hr (pa_cons (pv 0) (pa_cons (pv 1) (pa_nil))))))))
theorem cal_is_wish (T : TxtW w K mg) : Cal P w K mg base 5 "is_wish" (sp_is_wish K) := by
  obtain ⟨fd, F⟩ := T.fn_is_wish
  exact ⟨_, fd, ["standing", "thing"], F.ok sc_is_wish (fun vs H Q E h => len_is_wish h) (fun cdv A outer s H vs Q E hr h => ⟨t_is_wish K, PSs.nox (der_is_wish T hr), pure_is_wish T.toTxt h⟩), T.g_is_wish, F.kp, F.bindsN fun _ _ _ _ _ _ us hl => match us, hl with | [_, _], _ => rfl⟩
theorem der_check_wish (T : TxtW w K mg) {cdv : Value} {A : Around} {outer : List PySem.Env} {s : Shared} {H : Hp} {E : XK} {f : Addr} (hr : Room 5 (A.deeper (envOfC "check_wish" (defScope s_check_wish) s.heap.objs.size f cdv))) :
    PSs (cxOf L2.CX0 P w K mg base N_check_wish "check_wish" (defScope s_check_wish) f cdv A outer s H E).nox (defBody s_check_wish) (t_check_wish K) :=
  pss_one (ps_if (pt_not (pt_val (pe_cal (cal_is_wish T) hr (by decide) rfl (pa_cons (pv 0) (pa_cons (pv 1) (pa_nil)))))) (pss_never) (pss_nil))
theorem cal_check_wish (T : TxtW w K mg) : Cal P w K mg base 6 "check_wish" (sp_check_wish K) := by
  obtain ⟨fd, F⟩ := T.fn_check_wish
  exact ⟨_, fd, ["standing", "thing"], F.ok sc_check_wish (fun vs H Q E h => len_check_wish h) (fun cdv A outer s H vs Q E hr h => ⟨t_check_wish K, PSs.nox (der_check_wish T hr), pure_check_wish T.toTxt h⟩), T.g_check_wish, F.kp, F.bindsN fun _ _ _ _ _ _ us hl => match us, hl with | [_, _], _ => rfl⟩
theorem der_check_asked (T : TxtW w K mg) {cdv : Value} {A : Around} {outer : List PySem.Env} {s : Shared} {H : Hp} {E : XK} {f : Addr} (hr : Room 6 (A.deeper (envOfC "check_asked" (defScope s_check_asked) s.heap.objs.size f cdv))) :
    PSs (cxOf L2.CX0 P w K mg base N_check_asked "check_asked" (defScope s_check_asked) f cdv A outer s H E).nox (defBody s_check_asked) (t_check_asked K) :=
  pss_cons (ps_expr (pe_cal (cal_check_easy T) hr (by decide) rfl (pa_cons (pv 0) (pa_nil)))) (pss_cons (ps_expr (pe_cal (cal_check_wish T) hr (by decide) rfl (pa_cons (pv 0) (pa_cons (pv 1) (pa_nil))))) (pss_cons (ps_expr (pe_cal (cal_check_free T) hr (by decide) rfl (pa_cons (pv 0) (pa_nil)))) (pss_one (ps_if (PW.pt (pw_or (pt_cmpR (op_eqD hr.units) (pe_ix ix_any (pv 1) (pe_int) (fun _ _ => rfl)) (pe_globS rfl T.c_WAIT) (nomark _)) (pw_or1 (PW.pt (pw_and (pt_cmpR (op_eqD hr.units) (pe_ix ix_any (pv 1) (pe_int) (fun _ _ => rfl)) (pe_globS rfl T.c_OPEN) (nomark _)) (pw_and1 (pt_cmpR op_gtI (pe_callB call_lenA rfl T.b_len boot_len (pa_cons (pe_ix ix_any (pv 1) (pe_int) (fun _ _ => rfl)) (pa_nil))) (pe_int) (nomark _)))))))) (pss_never) (pss_nil)))))
theorem cal_check_asked (T : TxtW w K mg) : Cal P w K mg base 7 "check_asked" (sp_check_asked K) := by
  obtain ⟨fd, F⟩ := T.fn_check_asked
  exact ⟨_, fd, ["standing", "wish"], F.ok sc_check_asked (fun vs H Q E h => len_check_asked h) (fun cdv A outer s H vs Q E hr h => ⟨t_check_asked K, PSs.nox (der_check_asked T hr), pure_check_asked T.toTxt h⟩), T.g_check_asked, F.kp, F.bindsN fun _ _ _ _ _ _ us hl => match us, hl with | [_, _], _ => rfl⟩
theorem der_behind_row (T : TxtW w K mg) {cdv : Value} {A : Around} {outer : List PySem.Env} {s : Shared} {H : Hp} {E : XK} {f : Addr} (hr : Room 8 (A.deeper (envOfC "behind_row" (defScope s_behind_row) s.heap.objs.size f cdv))) :
    PSs (cxOf L2.CX0 P w K mg base N_behind_row "behind_row" (defScope s_behind_row) f cdv A outer s H E).nox (defBody s_behind_row) (t_behind_row K) :=
  pss_cons (ps_asg (pe_ix ix_any (pe_fld (pv 0) rfl) (pv 1) (fun _ _ => rfl)) (pg_tup rfl (pgs_cons (pg_name (i := 4) sc_behind_row.nd rfl (Or.inl rfl)) (pgs_cons (pg_name (i := 5) sc_behind_row.nd rfl (Or.inl rfl)) (pgs_cons (pg_name (i := 6) sc_behind_row.nd rfl (Or.inl rfl)) (pgs_nil)))))) (pss_cons (ps_set (i := 7) sc_behind_row.nd rfl (Or.inl rfl) (pe_callTy call_listS rfl T.b_list boot_list (pa_cons (pe_fld (pv 0) rfl) (pa_nil)))) (pss_cons (ps_set (i := 8) sc_behind_row.nd rfl (Or.inl rfl) (pe_listRg rfl rfl T.b_list (prg_1 rfl T.b_range (pe_callB call_lenA rfl T.b_len boot_len (pa_cons (pv 7) (pa_nil)))))) (pss_cons (ps_if (pt_cmpR op_isNo (pv 4) (pe_non) (nomark _)) (pss_cons (ps_expr (pe_bm PySem.F.plainAttrs_list PySem.F.slot_list_remove PySem.F.type_list_remove mt_remove (pv 8) (pa_cons (pv 1) (pa_nil)))) (pss_cons (ps_expr (pe_bm PySem.F.plainAttrs_list PySem.F.slot_list_insert PySem.F.type_list_insert mt_ins (pv 8) (pa_cons (pe_cal (cal_written_many T) hr (by decide) rfl (pa_cons (pv 7) (pa_nil))) (pa_cons (pv 1) (pa_nil))))) (pss_one (ps_set (i := 4) sc_behind_row.nd rfl (Or.inl rfl) (pe_fld (pv 0) rfl))))) (pss_nil)) (pss_cons (ps_asg (pe_tup (pa_cons (pv 4) (pa_cons (pv 3) (pa_cons (pv 6) (pa_nil))))) (pg_sub (pv 7) (pv 1) set_list)) (pss_one (ps_ret (pe_cal (cal_raw_standing T) hr (by decide) rfl (pa_cons (pe_fld (pv 0) rfl) (pa_cons (pe_op op_addA (pe_fld (pv 0) rfl) (pv 2)) (pa_cons (pe_cal (cal_renumbered T) hr (by decide) rfl (pa_cons (pv 7) (pa_cons (pv 8) (pa_nil)))) (pa_nil)))))))))))
theorem cal_behind_row (T : TxtW w K mg) : Cal P w K mg base 9 "behind_row" (sp_behind_row K) := by
  obtain ⟨fd, F⟩ := T.fn_behind_row
  exact ⟨_, fd, ["standing", "deed", "cells", "need"], F.ok sc_behind_row (fun vs H Q E h => len_behind_row h) (fun cdv A outer s H vs Q E hr h => ⟨t_behind_row K, PSs.nox (der_behind_row T hr), pure_behind_row T.toTxt h⟩), T.g_behind_row, F.kp, F.bindsN fun _ _ _ _ _ _ us hl => match us, hl with | [_, _, _, _], _ => rfl⟩
theorem der_behind_open (T : TxtW w K mg) {cdv : Value} {A : Around} {outer : List PySem.Env} {s : Shared} {H : Hp} {E : XK} {f : Addr} (hr : Room 8 (A.deeper (envOfC "behind_open" (defScope s_behind_open) s.heap.objs.size f cdv))) :
    PSs (cxOf L2.CX0 P w K mg base N_behind_open "behind_open" (defScope s_behind_open) f cdv A outer s H E).nox (defBody s_behind_open) (t_behind_open K) :=
  pss_cons (ps_set (i := 4) sc_behind_open.nd rfl (Or.inl rfl) (pe_op op_addA (pe_callTy call_listS rfl T.b_list boot_list (pa_cons (pe_fld (pv 0) rfl) (pa_nil))) (pe_lst (pa_cons (pe_tup (pa_cons (pe_ifExp (pt_cmpR op_gtI (pv 1) (pe_int) (nomark _)) (pe_fld (pv 0) rfl) (pe_non)) (pa_cons (pv 2) (pa_cons (pv 3) (pa_nil))))) (pa_nil))))) (pss_cons (ps_set (i := 5) sc_behind_open.nd rfl (Or.inl rfl) (pe_listRg rfl rfl T.b_list (prg_1 rfl T.b_range (pe_callB call_lenA rfl T.b_len boot_len (pa_cons (pe_fld (pv 0) rfl) (pa_nil)))))) (pss_cons (ps_expr (pe_bm PySem.F.plainAttrs_list PySem.F.slot_list_insert PySem.F.type_list_insert mt_ins (pv 5) (pa_cons (pe_ifExp (pt_cmpR op_gtI (pv 1) (pe_int) (nomark _)) (pe_cal (cal_written_many T) hr (by decide) rfl (pa_cons (pe_fld (pv 0) rfl) (pa_nil))) (pe_callB call_lenA rfl T.b_len boot_len (pa_cons (pv 5) (pa_nil)))) (pa_cons (pe_callB call_lenA rfl T.b_len boot_len (pa_cons (pv 5) (pa_nil))) (pa_nil))))) (pss_one (ps_ret (pe_cal (cal_raw_standing T) hr (by decide) rfl (pa_cons (pe_fld (pv 0) rfl) (pa_cons (pe_op op_addA (pe_fld (pv 0) rfl) (pv 1)) (pa_cons (pe_cal (cal_renumbered T) hr (by decide) rfl (pa_cons (pv 4) (pa_cons (pv 5) (pa_nil)))) (pa_nil)))))))))
theorem cal_behind_open (T : TxtW w K mg) : Cal P w K mg base 9 "behind_open" (sp_behind_open K) := by
  obtain ⟨fd, F⟩ := T.fn_behind_open
  exact ⟨_, fd, ["standing", "cells", "need", "waits"], F.ok sc_behind_open (fun vs H Q E h => len_behind_open h) (fun cdv A outer s H vs Q E hr h => ⟨t_behind_open K, PSs.nox (der_behind_open T hr), pure_behind_open T.toTxt h⟩), T.g_behind_open, F.kp, F.bindsN fun _ _ _ _ _ _ us hl => match us, hl with | [_, _, _, _], _ => rfl⟩
theorem der_behind_of (T : TxtW w K mg) {cdv : Value} {A : Around} {outer : List PySem.Env} {s : Shared} {H : Hp} {E : XK} {f : Addr} (hr : Room 9 (A.deeper (envOfC "behind_of" (defScope s_behind_of) s.heap.objs.size f cdv))) :
    PSs (cxOf L2.CX0 P w K mg base N_behind_of "behind_of" (defScope s_behind_of) f cdv A outer s H E).nox (defBody s_behind_of) (t_behind_of K) :=
  pss_cons (ps_if (pt_cmpR (op_eqD hr.units) (pe_ix ix_any (pv 1) (pe_int) (fun _ _ => rfl)) (pe_globS rfl T.c_ROW) (nomark _)) (pss_one (ps_ret (pe_cal (cal_behind_row T) hr (by decide) rfl (pa_cons (pv 0) (pa_cons (pe_ix ix_any (pv 1) (pe_int) (fun _ _ => rfl)) (pa_cons (pe_ix ix_any (pv 1) (pe_int) (fun _ _ => rfl)) (pa_cons (pe_ix ix_any (pv 1) (pe_int) (fun _ _ => rfl)) (pa_nil)))))))) (pss_nil)) (pss_cons (ps_if (pt_cmpR (op_eqD hr.units) (pe_ix ix_any (pv 1) (pe_int) (fun _ _ => rfl)) (pe_globS rfl T.c_OPEN) (nomark _)) (pss_one (ps_ret (pe_cal (cal_behind_open T) hr (by decide) rfl (pa_cons (pv 0) (pa_cons (pe_ix ix_any (pv 1) (pe_int) (fun _ _ => rfl)) (pa_cons (pe_ix ix_any (pv 1) (pe_int) (fun _ _ => rfl)) (pa_cons (pe_ix ix_any (pv 1) (pe_int) (fun _ _ => rfl)) (pa_nil)))))))) (pss_nil)) (pss_one (ps_never)))
theorem cal_behind_of (T : TxtW w K mg) : Cal P w K mg base 10 "behind_of" (sp_behind_of K) := by
  obtain ⟨fd, F⟩ := T.fn_behind_of
  exact ⟨_, fd, ["standing", "wish"], F.ok sc_behind_of (fun vs H Q E h => len_behind_of h) (fun cdv A outer s H vs Q E hr h => ⟨t_behind_of K, PSs.nox (der_behind_of T hr), pure_behind_of T.toTxt h⟩), T.g_behind_of, F.kp, F.bindsN fun _ _ _ _ _ _ us hl => match us, hl with | [_, _], _ => rfl⟩
theorem der_wisher_behind (T : TxtW w K mg) {cdv : Value} {A : Around} {outer : List PySem.Env} {s : Shared} {H : Hp} {E : XK} {f : Addr} (hr : Room 1 (A.deeper (envOfC "wisher_behind" (defScope s_wisher_behind) s.heap.objs.size f cdv))) :
    PSs (cxOf L2.CX0 P w K mg base N_wisher_behind "wisher_behind" (defScope s_wisher_behind) f cdv A outer s H E).nox (defBody s_wisher_behind) (t_wisher_behind K) :=
  pss_cons (ps_if (pt_cmpR (op_eqD hr.units) (pe_ix ix_any (pv 1) (pe_int) (fun _ _ => rfl)) (pe_globS rfl T.c_OPEN) (nomark _)) (pss_one (ps_ret (pe_ifExp (pt_cmpR op_gtI (pe_ix ix_any (pv 1) (pe_int) (fun _ _ => rfl)) (pe_int) (nomark _)) (pe_cal (cal_written_many T) hr (by decide) rfl (pa_cons (pe_fld (pv 0) rfl) (pa_nil))) (pe_callB call_lenA rfl T.b_len boot_len (pa_cons (pe_fld (pv 0) rfl) (pa_nil)))))) (pss_nil)) (pss_cons (ps_if (PW.pt (pw_or (pt_cmpR (op_eqD hr.units) (pe_ix ix_any (pv 1) (pe_int) (fun _ _ => rfl)) (pe_globS rfl T.c_WAIT) (nomark _)) (pw_or1 (pt_cmpR op_notNo (pe_ix ix_any (pe_ix ix_any (pe_fld (pv 0) rfl) (pe_ix ix_any (pv 1) (pe_int) (fun _ _ => rfl)) (fun _ _ => rfl)) (pe_int) (fun _ _ => rfl)) (pe_non) (nomark _))))) (pss_one (ps_ret (pe_ix ix_any (pv 1) (pe_int) (fun _ _ => rfl)))) (pss_nil)) (pss_one (ps_ret (pe_cal (cal_written_many T) hr (by decide) rfl (pa_cons (pe_fld (pv 0) rfl) (pa_nil))))))
theorem cal_wisher_behind (T : TxtW w K mg) : Cal P w K mg base 2 "wisher_behind" (sp_wisher_behind K) := by
  obtain ⟨fd, F⟩ := T.fn_wisher_behind
  exact ⟨_, fd, ["standing", "wish"], F.ok sc_wisher_behind (fun vs H Q E h => len_wisher_behind h) (fun cdv A outer s H vs Q E hr h => ⟨t_wisher_behind K, PSs.nox (der_wisher_behind T hr), pure_wisher_behind T.toTxt h⟩), T.g_wisher_behind, F.kp, F.bindsN fun _ _ _ _ _ _ us hl => match us, hl with | [_, _], _ => rfl⟩
theorem der_is_first_row (T : TxtW w K mg) {cdv : Value} {A : Around} {outer : List PySem.Env} {s : Shared} {H : Hp} {E : XK} {f : Addr} (hr : Room 0 (A.deeper (envOfC "is_first_row" (defScope s_is_first_row) s.heap.objs.size f cdv))) :
    PSs (cxOf L2.CX0 P w K mg base N_is_first_row "is_first_row" (defScope s_is_first_row) f cdv A outer s H E).nox (defBody s_is_first_row) (t_is_first_row K) :=
  pss_cons (ps_if (pt_cmpR (op_eqD hr.units) (pe_ix ix_any (pv 1) (pe_int) (fun _ _ => rfl)) (pe_globS rfl T.c_OPEN) (nomark _)) (pss_one (ps_ret (pe_cmpR op_gtI (pe_ix ix_any (pv 1) (pe_int) (fun _ _ => rfl)) (pe_int) (nomark _)))) (pss_nil)) (pss_one (ps_ret (pe_and (pe_cmpR (op_eqD hr.units) (pe_ix ix_any (pv 1) (pe_int) (fun _ _ => rfl)) (pe_globS rfl T.c_ROW) (nomark _)) (pe_one (pe_cmpR op_isNo (pe_ix ix_any (pe_ix ix_any (pe_fld (pv 0) rfl) (pe_ix ix_any (pv 1) (pe_int) (fun _ _ => rfl)) (fun _ _ => rfl)) (pe_int) (fun _ _ => rfl)) (pe_non) (nomark _))))))
theorem cal_is_first_row (T : TxtW w K mg) : Cal P w K mg base 1 "is_first_row" (sp_is_first_row K) := by
  obtain ⟨fd, F⟩ := T.fn_is_first_row
  exact ⟨_, fd, ["standing", "wish"], F.ok sc_is_first_row (fun vs H Q E h => len_is_first_row h) (fun cdv A outer s H vs Q E hr h => ⟨t_is_first_row K, PSs.nox (der_is_first_row T hr), pure_is_first_row T.toTxt h⟩), T.g_is_first_row, F.kp, F.bindsN fun _ _ _ _ _ _ us hl => match us, hl with | [_, _], _ => rfl⟩
theorem der_own_sum (T : TxtW w K mg) {cdv : Value} {A : Around} {outer : List PySem.Env} {s : Shared} {H : Hp} {E : XK} {f : Addr} (hr : Room 0 (A.deeper (envOfC "own_sum" (defScope s_own_sum) s.heap.objs.size f cdv))) :
    PSs (cxOf L2.CX0 P w K mg base N_own_sum "own_sum" (defScope s_own_sum) f cdv A outer s H E).nox (defBody s_own_sum) (t_own_sum K) :=
  pss_one (ps_ret (pe_op op_addA (pv 2) (pe_callB (cr_sum rfl) rfl T.b_sum boot_sum (pa_cons (pe_lc (own := [("first", 4), ("need", 5), ("waits", 6)]) (g := gTup K 3 (gCons (gName 4) (gCons (gName 5) (gCons (gName 6) (gNil))))) (tt := tYes) rfl sc_own_sum.nd (pi_tup (pe_slice sl_any (pe_fld (pv 0) rfl) (po_some (pv 3)) (po_some (pe_op op_addA (pv 1) (pe_int))))) (blkOk_by (N := N_own_sum) (sc := defScope s_own_sum) (by decide +kernel)) (fun _ _ _ _ _ => pg_tup rfl (pgs_cons (pg_name (i := 4) sc_own_sum.nd rfl (Or.inl rfl)) (pgs_cons (pg_name (i := 5) sc_own_sum.nd rfl (Or.inl rfl)) (pgs_cons (pg_name (i := 6) sc_own_sum.nd rfl (Or.inl rfl)) (pgs_nil))))) (fun _ _ _ _ _ => pts_nil) (fun _ _ _ _ _ => pv 5)) (pa_nil)))))
theorem cal_own_sum (T : TxtW w K mg) : Cal P w K mg base 1 "own_sum" (sp_own_sum K) := by
  obtain ⟨fd, F⟩ := T.fn_own_sum
  exact ⟨_, fd, ["there", "wisher", "cells", "many"], F.ok sc_own_sum (fun vs H Q E h => len_own_sum h) (fun cdv A outer s H vs Q E hr h => ⟨t_own_sum K, PSs.nox (der_own_sum T hr), pure_own_sum T.toTxt h⟩), T.g_own_sum, F.kp, F.bindsN fun _ _ _ _ _ _ us hl => match us, hl with | [_, _, _, _], _ => rfl⟩
theorem der_must_of (T : TxtW w K mg) {cdv : Value} {A : Around} {outer : List PySem.Env} {s : Shared} {H : Hp} {E : XK} {f : Addr} (hr : Room 10 (A.deeper (envOfC "must_of" (defScope s_must_of) s.heap.objs.size f cdv))) :
    PSs (cxOf L2.CX0 P w K mg base N_must_of "must_of" (defScope s_must_of) f cdv A outer s H E).nox (defBody s_must_of) (t_must_of K) :=
  pss_cons (ps_set (i := 2) sc_must_of.nd rfl (Or.inl rfl) (pe_cal (cal_behind_of T) hr (by decide) rfl (pa_cons (pv 0) (pa_cons (pv 1) (pa_nil))))) (pss_cons (ps_set (i := 3) sc_must_of.nd rfl (Or.inr rfl) (pe_cal (cal_wisher_behind T) hr (by decide) rfl (pa_cons (pv 0) (pa_cons (pv 1) (pa_nil))))) (pss_cons (ps_set (i := 4) sc_must_of.nd rfl (Or.inl rfl) (pe_cal (cal_too_heavy T) hr (by decide) rfl (pa_cons (pv 2) (pa_nil)))) (pss_cons (ps_setLc (i := 5) (own := [("deed", 8)]) (g := gName 8) (tt := tTest (tOp (rNeD K) (tVar 8) (tVar 3))) rfl sc_must_of.nd rfl rfl (sw_true rfl rfl rfl (by decide +kernel)) (pi_list (pv 4)) (blkOk_by (N := N_must_of) (sc := defScope s_must_of) (by decide +kernel)) (fun _ _ _ _ _ => pg_name (i := 8) sc_must_of.nd rfl (Or.inl rfl)) (fun _ _ _ _ _ => pts_one (pt_cmpR (op_neD hr.units) (pv 8) (pv 3) (nomark _))) (fun _ _ _ _ _ => pv 8)) (pss_cons (ps_set (i := 6) sc_must_of.nd rfl (Or.inl rfl) (pe_ifExp (pt_cmpR op_gtI (pe_callB call_lenA rfl T.b_len boot_len (pa_cons (pv 5) (pa_nil))) (pe_int) (nomark _)) (pe_op op_addA (pe_ix ix_any (pv 5) (pe_un un_negI (pe_int)) (fun _ _ => rfl)) (pe_int)) (pe_int))) (pss_cons (ps_if (pt_val (pe_cal (cal_is_first_row T) hr (by decide) rfl (pa_cons (pv 0) (pa_cons (pv 1) (pa_nil))))) (pss_cons (ps_set (i := 7) sc_must_of.nd rfl (Or.inl rfl) (pe_op op_subI (pe_fld (pv 2) rfl) (pe_fld (pv 0) rfl))) (pss_one (ps_while PassesOwn.never (PW.pt (pw_and (pt_cmpR op_leI (pv 6) (pv 3) (nomark _)) (pw_and1 (pt_cmpR op_gtI (pe_cal (cal_own_sum T) hr (by decide) rfl (pa_cons (pv 2) (pa_cons (pv 3) (pa_cons (pv 7) (pa_cons (pv 6) (pa_nil)))))) (pe_fld (pv 2) rfl) (nomark _))))) (pss_one (ps_aug (i := 6) sc_must_of.nd rfl (Or.inl rfl) (pe_int) ip_add))))) (pss_one (ps_if (pt_cmpR op_in_seq (pv 3) (pv 4) rfl) (pss_one (ps_ret (pe_non))) (pss_nil)))) (pss_one (ps_ret (pe_ifExp (pt_cmpR op_gtI (pv 6) (pv 3) (nomark _)) (pe_non) (pv 6)))))))))
theorem cal_must_of (T : TxtW w K mg) : Cal P w K mg base 11 "must_of" (sp_must_of K) := by
  obtain ⟨fd, F⟩ := T.fn_must_of
  exact ⟨_, fd, ["standing", "wish"], F.ok sc_must_of (fun vs H Q E h => len_must_of h) (fun cdv A outer s H vs Q E hr h => ⟨t_must_of K, PSs.nox (der_must_of T hr), pure_must_of T.toTxt h⟩), T.g_must_of, F.kp, F.bindsN fun _ _ _ _ _ _ us hl => match us, hl with | [_, _], _ => rfl⟩
theorem der_left_order (T : TxtW w K mg) {cdv : Value} {A : Around} {outer : List PySem.Env} {s : Shared} {H : Hp} {E : XK} {f : Addr} (hr : Room 0 (A.deeper (envOfC "left_order" (defScope s_left_order) s.heap.objs.size f cdv))) :
    PSs (cxOf L2.CX0 P w K mg base N_left_order "left_order" (defScope s_left_order) f cdv A outer s H E).nox (defBody s_left_order) (t_left_order K) :=
  pss_cons (ps_set (i := 3) sc_left_order.nd rfl (Or.inl rfl) (pe_listRg rfl rfl T.b_list (prg_2 rfl T.b_range (pv 1) (pe_callB call_lenA rfl T.b_len boot_len (pa_cons (pe_fld (pv 0) rfl) (pa_nil)))))) (pss_cons (ps_setLc (i := 4) (own := [("deed", 7)]) (g := gName 7) (tt := tTest (tOp rNotNo (tOp (rIxA K) (tOp (rIxA K) (tFld K (tVar 0) "deeds") (tVar 7)) (tC (.int 0))) (tC .non))) rfl sc_left_order.nd rfl rfl (sw_true rfl rfl rfl (by decide +kernel)) (pi_list (pv 3)) (blkOk_by (N := N_left_order) (sc := defScope s_left_order) (by decide +kernel)) (fun _ _ _ _ _ => pg_name (i := 7) sc_left_order.nd rfl (Or.inl rfl)) (fun _ _ _ _ _ => pts_one (pt_cmpR op_notNo (pe_ix ix_any (pe_ix ix_any (pe_fld (pv 0) rfl) (pv 7) (fun _ _ => rfl)) (pe_int) (fun _ _ => rfl)) (pe_non) (nomark _))) (fun _ _ _ _ _ => pv 7)) (pss_cons (ps_setLc (i := 5) (own := [("deed", 7)]) (g := gName 7) (tt := tTest (tOp rIsNo (tOp (rIxA K) (tOp (rIxA K) (tFld K (tVar 0) "deeds") (tVar 7)) (tC (.int 0))) (tC .non))) rfl sc_left_order.nd rfl rfl (sw_true rfl rfl rfl (by decide +kernel)) (pi_list (pv 3)) (blkOk_by (N := N_left_order) (sc := defScope s_left_order) (by decide +kernel)) (fun _ _ _ _ _ => pg_name (i := 7) sc_left_order.nd rfl (Or.inl rfl)) (fun _ _ _ _ _ => pts_one (pt_cmpR op_isNo (pe_ix ix_any (pe_ix ix_any (pe_fld (pv 0) rfl) (pv 7) (fun _ _ => rfl)) (pe_int) (fun _ _ => rfl)) (pe_non) (nomark _))) (fun _ _ _ _ _ => pv 7)) (pss_cons (ps_set (i := 6) sc_left_order.nd rfl (Or.inr rfl) (pe_lc (own := [("deed", 7)]) (g := gName 7) (tt := tTest (tOp rGtI (tOp (rIxA K) (tOp (rIxA K) (tFld K (tVar 0) "deeds") (tVar 7)) (tC (.int 1))) (tC (.int 0)))) rfl sc_left_order.nd (pi_tup (pv 2)) (blkOk_by (N := N_left_order) (sc := defScope s_left_order) (by decide +kernel)) (fun _ _ _ _ _ => pg_name (i := 7) sc_left_order.nd rfl (Or.inl rfl)) (fun _ _ _ _ _ => pts_one (pt_cmpR op_gtI (pe_ix ix_any (pe_ix ix_any (pe_fld (pv 0) rfl) (pv 7) (fun _ _ => rfl)) (pe_int) (fun _ _ => rfl)) (pe_int) (nomark _))) (fun _ _ _ _ _ => pv 7))) (pss_one (ps_ret (pe_op op_addA (pe_op op_addA (pe_op op_addA (pv 4) (pv 6)) (pv 5)) (pe_lc (own := [("deed", 7)]) (g := gName 7) (tt := tTest (tOp (rIn K true) (tVar 7) (tVar 6))) rfl sc_left_order.nd (pi_tup (pv 2)) (blkOk_by (N := N_left_order) (sc := defScope s_left_order) (by decide +kernel)) (fun _ _ _ _ _ => pg_name (i := 7) sc_left_order.nd rfl (Or.inl rfl)) (fun _ _ _ _ _ => pts_one (pt_cmpR op_notIn_seq (pv 7) (pv 6) rfl)) (fun _ _ _ _ _ => pv 7))))))))
theorem cal_left_order (T : TxtW w K mg) : Cal P w K mg base 1 "left_order" (sp_left_order K) := by
  obtain ⟨fd, F⟩ := T.fn_left_order
  exact ⟨_, fd, ["standing", "many", "lot"], F.ok sc_left_order (fun vs H Q E h => len_left_order h) (fun cdv A outer s H vs Q E hr h => ⟨t_left_order K, PSs.nox (der_left_order T hr), pure_left_order T.toTxt h⟩), T.g_left_order, F.kp, F.bindsN fun _ _ _ _ _ _ us hl => match us, hl with | [_, _, _], _ => rfl⟩
theorem der_left_of (T : TxtW w K mg) {cdv : Value} {A : Around} {outer : List PySem.Env} {s : Shared} {H : Hp} {E : XK} {f : Addr} (hr : Room 8 (A.deeper (envOfC "left_of" (defScope s_left_of) s.heap.objs.size f cdv))) :
    PSs (cxOf L2.CX0 P w K mg base N_left_of "left_of" (defScope s_left_of) f cdv A outer s H E).nox (defBody s_left_of) (t_left_of K) :=
  pss_cons (ps_set (i := 3) sc_left_of.nd rfl (Or.inl rfl) (pe_callTy call_listS rfl T.b_list boot_list (pa_cons (pe_fld (pv 0) rfl) (pa_nil)))) (pss_cons (ps_set (i := 4) sc_left_of.nd rfl (Or.inl rfl) (pe_fld (pv 0) rfl)) (pss_cons (ps_for PassesOwn.never rfl (pi_range1 rfl T.b_range (pa_cons (pv 1) (pa_nil))) (pg_name (i := 5) sc_left_of.nd rfl (Or.inl rfl)) (pss_cons (ps_asg (pe_ix ix_any (pv 3) (pv 5) (fun _ _ => rfl)) (pg_tup rfl (pgs_cons (pg_name (i := 6) sc_left_of.nd rfl (Or.inl rfl)) (pgs_cons (pg_name (i := 7) sc_left_of.nd rfl (Or.inl rfl)) (pgs_cons (pg_name (i := 8) sc_left_of.nd rfl (Or.inl rfl)) (pgs_nil)))))) (pss_cons (ps_asg (pe_tup (pa_cons (pe_ifExp (pt_cmpR op_gtI (pv 7) (pe_int) (nomark _)) (pv 4) (pe_non)) (pa_cons (pv 7) (pa_cons (pv 8) (pa_nil))))) (pg_sub (pv 3) (pv 5) set_list)) (pss_one (ps_aug (i := 4) sc_left_of.nd rfl (Or.inl rfl) (pv 7) ip_add))))) (pss_one (ps_ret (pe_cal (cal_raw_standing T) hr (by decide) rfl (pa_cons (pe_fld (pv 0) rfl) (pa_cons (pv 4) (pa_cons (pe_cal (cal_renumbered T) hr (by decide) rfl (pa_cons (pv 3) (pa_cons (pe_cal (cal_left_order T) hr (by decide) rfl (pa_cons (pv 0) (pa_cons (pv 1) (pa_cons (pv 2) (pa_nil))))) (pa_nil)))) (pa_nil)))))))))
theorem cal_left_of (T : TxtW w K mg) : Cal P w K mg base 9 "left_of" (sp_left_of K) := by
  obtain ⟨fd, F⟩ := T.fn_left_of
  exact ⟨_, fd, ["standing", "many", "lot"], F.ok sc_left_of (fun vs H Q E h => len_left_of h) (fun cdv A outer s H vs Q E hr h => ⟨t_left_of K, PSs.nox (der_left_of T hr), pure_left_of T.toTxt h⟩), T.g_left_of, F.kp, F.bindsN fun _ _ _ _ _ _ us hl => match us, hl with | [_, _, _], _ => rfl⟩
theorem der_left (T : TxtW w K mg) {cdv : Value} {A : Around} {outer : List PySem.Env} {s : Shared} {H : Hp} {E : XK} {f : Addr} (hr : Room 11 (A.deeper (envOfC "left" (defScope s_left) s.heap.objs.size f cdv))) :
    PSs (cxOf L2.CX0 P w K mg base N_left "left" (defScope s_left) f cdv A outer s H E).nox (defBody s_left) (t_left K) :=
  pss_cons (ps_expr (pe_cal (cal_check_asked T) hr (by decide) rfl (pa_cons (pv 0) (pa_cons (pv 1) (pa_nil))))) (pss_cons (ps_set (i := 3) sc_left.nd rfl (Or.inl rfl) (pe_cal (cal_must_of T) hr (by decide) rfl (pa_cons (pv 0) (pa_cons (pv 1) (pa_nil))))) (pss_cons (ps_if (PW.pt (pw_or (pt_cmpR op_isNo (pv 3) (pe_non) (nomark _)) (pw_or1 (pt_not (pt_val (pe_cal (cal_is_lot T) hr (by decide) rfl (pa_cons (pv 2) (pa_cons (pv 3) (pa_nil))))))))) (pss_never) (pss_nil)) (pss_one (ps_ret (pe_cal (cal_left_of T) hr (by decide) rfl (pa_cons (pv 0) (pa_cons (pv 3) (pa_cons (pv 2) (pa_nil)))))))))
theorem cal_left (T : TxtW w K mg) : Cal P w K mg base 12 "left" (sp_left K) := by
  obtain ⟨fd, F⟩ := T.fn_left
  exact ⟨_, fd, ["standing", "wish", "lot"], F.ok sc_left (fun vs H Q E h => len_left h) (fun cdv A outer s H vs Q E hr h => ⟨t_left K, PSs.nox (der_left T hr), pure_left T.toTxt h⟩), T.g_left, F.kp, F.bindsN fun _ _ _ _ _ _ us hl => match us, hl with | [_, _, _], _ => rfl⟩
theorem der_law_when_left (T : TxtW w K mg) {cdv : Value} {A : Around} {outer : List PySem.Env} {s : Shared} {H : Hp} {E : XK} {f : Addr} (hr : Room 0 (A.deeper (envOfC "_law_when_left" (defScope s_law_when_left) s.heap.objs.size f cdv))) :
    PSs (cxOf L2.CX0 P w K mg base N_law_when_left "_law_when_left" (defScope s_law_when_left) f cdv A outer s H E).nox (defBody s_law_when_left) (t_law_when_left K) :=
  pss_cons (ps_if (pt_cmpR (op_eqD hr.units) (pe_ix ix_any (pv 1) (pe_int) (fun _ _ => rfl)) (pe_str) (nomark _)) (pss_one (ps_ret (pv 1))) (pss_nil)) (pss_cons (ps_setLc (i := 4) (own := [("_law_deed", 7)]) (g := gName 7) (tt := tTest (tOp rNotNo (tOp (rIxA K) (tOp (rIxA K) (tVar 0) (tVar 7)) (tC (.int 0))) (tC .non))) rfl sc_law_when_left.nd rfl rfl (sw_true rfl rfl rfl (by decide +kernel)) (pi_range2 rfl T.b_range (pa_cons (pv 2) (pa_cons (pe_callB call_lenA rfl T.b_len boot_len (pa_cons (pv 0) (pa_nil))) (pa_nil)))) (blkOk_by (N := N_law_when_left) (sc := defScope s_law_when_left) (by decide +kernel)) (fun _ _ _ _ _ => pg_name (i := 7) sc_law_when_left.nd rfl (Or.inl rfl)) (fun _ _ _ _ _ => pts_one (pt_cmpR op_notNo (pe_ix ix_any (pe_ix ix_any (pv 0) (pv 7) (fun _ _ => rfl)) (pe_int) (fun _ _ => rfl)) (pe_non) (nomark _))) (fun _ _ _ _ _ => pv 7)) (pss_cons (ps_setLc (i := 5) (own := [("_law_deed", 7)]) (g := gName 7) (tt := tTest (tOp rGtI (tOp (rIxA K) (tOp (rIxA K) (tVar 0) (tVar 7)) (tC (.int 1))) (tC (.int 0)))) rfl sc_law_when_left.nd rfl rfl (sw_true rfl rfl rfl (by decide +kernel)) (pi_tup (pv 3)) (blkOk_by (N := N_law_when_left) (sc := defScope s_law_when_left) (by decide +kernel)) (fun _ _ _ _ _ => pg_name (i := 7) sc_law_when_left.nd rfl (Or.inl rfl)) (fun _ _ _ _ _ => pts_one (pt_cmpR op_gtI (pe_ix ix_any (pe_ix ix_any (pv 0) (pv 7) (fun _ _ => rfl)) (pe_int) (fun _ _ => rfl)) (pe_int) (nomark _))) (fun _ _ _ _ _ => pv 7)) (pss_cons (ps_setLc (i := 6) (own := [("_law_deed", 7)]) (g := gName 7) (tt := tTest (tOp rIsNo (tOp (rIxA K) (tOp (rIxA K) (tVar 0) (tVar 7)) (tC (.int 0))) (tC .non))) rfl sc_law_when_left.nd rfl rfl (sw_true rfl rfl rfl (by decide +kernel)) (pi_range2 rfl T.b_range (pa_cons (pv 2) (pa_cons (pe_callB call_lenA rfl T.b_len boot_len (pa_cons (pv 0) (pa_nil))) (pa_nil)))) (blkOk_by (N := N_law_when_left) (sc := defScope s_law_when_left) (by decide +kernel)) (fun _ _ _ _ _ => pg_name (i := 7) sc_law_when_left.nd rfl (Or.inl rfl)) (fun _ _ _ _ _ => pts_one (pt_cmpR op_isNo (pe_ix ix_any (pe_ix ix_any (pv 0) (pv 7) (fun _ _ => rfl)) (pe_int) (fun _ _ => rfl)) (pe_non) (nomark _))) (fun _ _ _ _ _ => pv 7)) (pss_one (ps_ret (pe_op op_addA (pe_tup (pa_cons (pe_str) (pa_cons (pe_bm PySem.F.plainAttrs_list PySem.F.slot_list_index PySem.F.type_list_index mt_idx (pe_op op_addA (pe_op op_addA (pv 4) (pv 5)) (pv 6)) (pa_cons (pe_ix ix_any (pv 1) (pe_int) (fun _ _ => rfl)) (pa_nil))) (pa_nil)))) (pe_slice sl_any (pv 1) (po_some (pe_int)) (po_none))))))))
theorem cal_law_when_left (T : TxtW w K mg) : Cal P w K mg base 1 "_law_when_left" (sp_law_when_left K) := by
  obtain ⟨fd, F⟩ := T.fn_law_when_left
  exact ⟨_, fd, ["_law_deeds_here", "_law_wish_here", "_law_many", "_law_lot"], F.ok sc_law_when_left (fun vs H Q E h => len_law_when_left h) (fun cdv A outer s H vs Q E hr h => ⟨t_law_when_left K, PSs.nox (der_law_when_left T hr), pure_law_when_left T.toTxt h⟩), T.g__law_when_left, F.kp, F.bindsN fun _ _ _ _ _ _ us hl => match us, hl with | [_, _, _, _], _ => rfl⟩
theorem der_law_can (T : TxtW w K mg) {cdv : Value} {A : Around} {outer : List PySem.Env} {s : Shared} {H : Hp} {E : XK} {f : Addr} (hr : Room 3 (A.deeper (envOfC "_law_can" (defScope s_law_can) s.heap.objs.size f cdv))) :
    PSs (cxOf L2.CX0 P w K mg base N_law_can "_law_can" (defScope s_law_can) f cdv A outer s H E).nox (defBody s_law_can) (t_law_can K) :=
  pss_cons (ps_asg (pe_cal (cal_law_left T) hr (by decide) rfl (pa_cons (pv 1) (pa_cons (pv 2) (pa_cons (pv 4) (pa_cons (pv 5) (pa_nil)))))) (pg_tup rfl (pgs_cons (pg_name (i := 6) sc_law_can.nd rfl (Or.inl rfl)) (pgs_cons (pg_name (i := 7) sc_law_can.nd rfl (Or.inl rfl)) (pgs_nil))))) (pss_cons (ps_asg (pe_cal (cal_law_behind T) hr (by decide) rfl (pa_cons (pv 6) (pa_cons (pv 7) (pa_cons (pe_cal (cal_law_when_left T) hr (by decide) rfl (pa_cons (pv 2) (pa_cons (pv 3) (pa_cons (pv 4) (pa_cons (pv 5) (pa_nil)))))) (pa_nil))))) (pg_tup rfl (pgs_cons (pg_name (i := 8) sc_law_can.nd rfl (Or.inl rfl)) (pgs_cons (pg_name (i := 9) sc_law_can.nd rfl (Or.inl rfl)) (pgs_nil))))) (pss_one (ps_ret (pe_cal (cal_law_easy T) hr (by decide) rfl (pa_cons (pv 0) (pa_cons (pv 8) (pa_cons (pv 9) (pa_nil))))))))
theorem cal_law_can (T : TxtW w K mg) : Cal P w K mg base 4 "_law_can" (sp_law_can K) := by
  obtain ⟨fd, F⟩ := T.fn_law_can
  exact ⟨_, fd, ["_law_cells", "_law_head", "_law_deeds_here", "_law_wish_here", "_law_many", "_law_lot"], F.ok sc_law_can (fun vs H Q E h => len_law_can h) (fun cdv A outer s H vs Q E hr h => ⟨t_law_can K, PSs.nox (der_law_can T hr), pure_law_can T.toTxt h⟩), T.g__law_can, F.kp, F.bindsN fun _ _ _ _ _ _ us hl => match us, hl with | [_, _, _, _, _, _], _ => rfl⟩
theorem der_let_by (T : TxtW w K mg) {cdv : Value} {A : Around} {outer : List PySem.Env} {s : Shared} {H : Hp} {E : XK} {f : Addr} (hr : Room 10 (A.deeper (envOfC "let_by" (defScope s_let_by) s.heap.objs.size f cdv))) :
    PSs (cxOf L2.CX0 P w K mg base N_let_by "let_by" (defScope s_let_by) f cdv A outer s H E).nox (defBody s_let_by) (t_let_by K) :=
  pss_one (ps_ret (pe_cal (cal_easy T) hr (by decide) rfl (pa_cons (pe_cal (cal_behind_of T) hr (by decide) rfl (pa_cons (pv 0) (pa_cons (pv 1) (pa_nil)))) (pa_nil))))
theorem cal_let_by (T : TxtW w K mg) : Cal P w K mg base 11 "let_by" (sp_let_by K) := by
  obtain ⟨fd, F⟩ := T.fn_let_by
  exact ⟨_, fd, ["standing", "wish"], F.ok sc_let_by (fun vs H Q E h => len_let_by h) (fun cdv A outer s H vs Q E hr h => ⟨t_let_by K, PSs.nox (der_let_by T hr), pure_let_by T.toTxt h⟩), T.g_let_by, F.kp, F.bindsN fun _ _ _ _ _ _ us hl => match us, hl with | [_, _], _ => rfl⟩
theorem der_wish_when_left (T : TxtW w K mg) {cdv : Value} {A : Around} {outer : List PySem.Env} {s : Shared} {H : Hp} {E : XK} {f : Addr} (hr : Room 1 (A.deeper (envOfC "wish_when_left" (defScope s_wish_when_left) s.heap.objs.size f cdv))) :
    PSs (cxOf L2.CX0 P w K mg base N_wish_when_left "wish_when_left" (defScope s_wish_when_left) f cdv A outer s H E).nox (defBody s_wish_when_left) (t_wish_when_left K) :=
  pss_cons (ps_if (pt_cmpR (op_eqD hr.units) (pe_ix ix_any (pv 1) (pe_int) (fun _ _ => rfl)) (pe_globS rfl T.c_OPEN) (nomark _)) (pss_one (ps_ret (pv 1))) (pss_nil)) (pss_one (ps_ret (pe_op op_addA (pe_op op_addA (pe_slice sl_any (pv 1) (po_none) (po_some (pe_int))) (pe_tup (pa_cons (pe_bm PySem.F.plainAttrs_list PySem.F.slot_list_index PySem.F.type_list_index mt_idx (pe_cal (cal_left_order T) hr (by decide) rfl (pa_cons (pv 0) (pa_cons (pv 2) (pa_cons (pv 3) (pa_nil))))) (pa_cons (pe_ix ix_any (pv 1) (pe_int) (fun _ _ => rfl)) (pa_nil))) (pa_nil)))) (pe_slice sl_any (pv 1) (po_some (pe_int)) (po_none)))))
theorem cal_wish_when_left (T : TxtW w K mg) : Cal P w K mg base 2 "wish_when_left" (sp_wish_when_left K) := by
  obtain ⟨fd, F⟩ := T.fn_wish_when_left
  exact ⟨_, fd, ["standing", "wish", "many", "lot"], F.ok sc_wish_when_left (fun vs H Q E h => len_wish_when_left h) (fun cdv A outer s H vs Q E hr h => ⟨t_wish_when_left K, PSs.nox (der_wish_when_left T hr), pure_wish_when_left T.toTxt h⟩), T.g_wish_when_left, F.kp, F.bindsN fun _ _ _ _ _ _ us hl => match us, hl with | [_, _, _, _], _ => rfl⟩
theorem der_is_carrying (T : TxtW w K mg) {cdv : Value} {A : Around} {outer : List PySem.Env} {s : Shared} {H : Hp} {E : XK} {f : Addr} (hr : Room 11 (A.deeper (envOfC "is_carrying" (defScope s_is_carrying) s.heap.objs.size f cdv))) :
    PSs (cxOf L2.CX0 P w K mg base N_is_carrying "is_carrying" (defScope s_is_carrying) f cdv A outer s H E).nox (defBody s_is_carrying) (t_is_carrying K) :=
  pss_cons (ps_expr (pe_cal (cal_check_asked T) hr (by decide) rfl (pa_cons (pv 0) (pa_cons (pv 1) (pa_nil))))) (pss_cons (ps_set (i := 3) sc_is_carrying.nd rfl (Or.inl rfl) (pe_cal (cal_must_of T) hr (by decide) rfl (pa_cons (pv 0) (pa_cons (pv 1) (pa_nil))))) (pss_cons (ps_if (PW.pt (pw_or (pt_cmpR op_isNo (pv 3) (pe_non) (nomark _)) (pw_or1 (pt_not (pt_val (pe_cal (cal_is_lot T) hr (by decide) rfl (pa_cons (pv 2) (pa_cons (pv 3) (pa_nil))))))))) (pss_one (ps_ret (pe_bl))) (pss_nil)) (pss_one (ps_ret (pe_cal (cal_let_by T) hr (by decide) rfl (pa_cons (pe_cal (cal_left_of T) hr (by decide) rfl (pa_cons (pv 0) (pa_cons (pv 3) (pa_cons (pv 2) (pa_nil))))) (pa_cons (pe_cal (cal_wish_when_left T) hr (by decide) rfl (pa_cons (pv 0) (pa_cons (pv 1) (pa_cons (pv 3) (pa_cons (pv 2) (pa_nil)))))) (pa_nil))))))))
theorem cal_is_carrying (T : TxtW w K mg) : Cal P w K mg base 12 "is_carrying" (sp_is_carrying K) := by
  obtain ⟨fd, F⟩ := T.fn_is_carrying
  exact ⟨_, fd, ["standing", "wish", "thing"], F.ok sc_is_carrying (fun vs H Q E h => len_is_carrying h) (fun cdv A outer s H vs Q E hr h => ⟨t_is_carrying K, PSs.nox (der_is_carrying T hr), pure_is_carrying T.toTxt h⟩), T.g_is_carrying, F.kp, F.bindsN fun _ _ _ _ _ _ us hl => match us, hl with | [_, _, _], _ => rfl⟩
theorem der_law_sum (T : TxtW w K mg) {cdv : Value} {A : Around} {outer : List PySem.Env} {s : Shared} {H : Hp} {E : XK} {f : Addr} (hr : Room 0 (A.deeper (envOfC "_law_sum" (defScope s_law_sum) s.heap.objs.size f cdv))) :
    PSs (cxOf L2.CX0 P w K mg base N_law_sum "_law_sum" (defScope s_law_sum) f cdv A outer s H E).nox (defBody s_law_sum) (t_law_sum K) :=
  pss_cons (ps_set (i := 5) sc_law_sum.nd rfl (Or.inl rfl) (pe_op op_addA (pe_ifExp (pt_cmpR (op_eqD hr.units) (pe_ix ix_any (pv 1) (pe_int) (fun _ _ => rfl)) (pe_str) (nomark _)) (pe_ix ix_any (pv 1) (pe_int) (fun _ _ => rfl)) (pe_ix ix_any (pv 1) (pe_int) (fun _ _ => rfl))) (pe_ix ix_any (pe_ix ix_any (pv 0) (pv 4) (fun _ _ => rfl)) (pe_int) (fun _ _ => rfl)))) (pss_cons (ps_for PassesOwn.never rfl (pi_range1 rfl T.b_range (pa_cons (pe_callB call_lenA rfl T.b_len boot_len (pa_cons (pv 0) (pa_nil))) (pa_nil))) (pg_name (i := 6) sc_law_sum.nd rfl (Or.inl rfl)) (pss_cons (ps_set (i := 7) sc_law_sum.nd rfl (Or.inl rfl) (pe_ifExp (PW.pt (pw_and (pt_cmpR (op_eqD hr.units) (pe_ix ix_any (pv 1) (pe_int) (fun _ _ => rfl)) (pe_str) (nomark _)) (pw_and1 (pt_cmpR (op_eqD hr.units) (pe_ix ix_any (pv 1) (pe_int) (fun _ _ => rfl)) (pv 6) (nomark _))))) (pe_ix ix_any (pv 1) (pe_int) (fun _ _ => rfl)) (pe_ix ix_any (pe_ix ix_any (pv 0) (pv 6) (fun _ _ => rfl)) (pe_int) (fun _ _ => rfl)))) (pss_cons (ps_if (PW.pt (pw_or (pt_cmpR op_in_seq (pv 6) (pv 3) rfl) (pw_or1 (PW.pt (pw_and (pt_cmpR op_geI (pv 6) (pv 2) (nomark _)) (pw_and1 (pt_cmpR op_notNo (pe_ix ix_any (pe_ix ix_any (pv 0) (pv 6) (fun _ _ => rfl)) (pe_int) (fun _ _ => rfl)) (pe_non) (nomark _)))))))) (pss_one (ps_set (i := 5) sc_law_sum.nd rfl (Or.inl rfl) (pe_op op_addA (pv 5) (pv 7)))) (pss_nil)) (pss_one (ps_if (PW.pt (pw_and (pt_chain op_ltI op_ltI (pv 4) (pv 6) (pv 2)) (pw_and1 (pt_cmpR op_notIn_seq (pv 6) (pv 3) rfl)))) (pss_one (ps_set (i := 5) sc_law_sum.nd rfl (Or.inl rfl) (pe_op op_addA (pv 5) (pv 7)))) (pss_nil)))))) (pss_one (ps_ret (pv 5))))
theorem cal_law_sum (T : TxtW w K mg) : Cal P w K mg base 1 "_law_sum" (sp_law_sum K) := by
  obtain ⟨fd, F⟩ := T.fn_law_sum
  exact ⟨_, fd, ["_law_deeds_here", "_law_wish_here", "_law_many", "_law_lot", "_law_deed"], F.ok sc_law_sum (fun vs H Q E h => len_law_sum h) (fun cdv A outer s H vs Q E hr h => ⟨t_law_sum K, PSs.nox (der_law_sum T hr), pure_law_sum T.toTxt h⟩), T.g__law_sum, F.kp, F.bindsN fun _ _ _ _ _ _ us hl => match us, hl with | [_, _, _, _, _], _ => rfl⟩
theorem der_law_fits (T : TxtW w K mg) {cdv : Value} {A : Around} {outer : List PySem.Env} {s : Shared} {H : Hp} {E : XK} {f : Addr} (hr : Room 0 (A.deeper (envOfC "_law_fits" (defScope s_law_fits) s.heap.objs.size f cdv))) :
    PSs (cxOf L2.CX0 P w K mg base N_law_fits "_law_fits" (defScope s_law_fits) f cdv A outer s H E).nox (defBody s_law_fits) (t_law_fits K) :=
  pss_cons (ps_setLc (i := 6) (own := [("_law_first", 9), ("_law_need", 5), ("_law_waits", 10)]) (g := gTup K 3 (gCons (gName 9) (gCons (gName 5) (gCons (gName 10) (gNil))))) (tt := tYes) rfl sc_law_fits.nd rfl rfl (sw_true rfl rfl rfl (by decide +kernel)) (pi_tup (pv 2)) (blkOk_by (N := N_law_fits) (sc := defScope s_law_fits) (by decide +kernel)) (fun _ _ _ _ _ => pg_tup rfl (pgs_cons (pg_name (i := 9) sc_law_fits.nd rfl (Or.inl rfl)) (pgs_cons (pg_name (i := 5) sc_law_fits.nd rfl (Or.inl rfl)) (pgs_cons (pg_name (i := 10) sc_law_fits.nd rfl (Or.inl rfl)) (pgs_nil))))) (fun _ _ _ _ _ => pts_nil) (fun _ _ _ _ _ => pv 9)) (pss_cons (ps_for PassesOwn.never rfl (pi_range1 rfl T.b_range (pa_cons (pv 3) (pa_nil))) (pg_name (i := 7) sc_law_fits.nd rfl (Or.inl rfl)) (pss_cons (ps_set (i := 5) sc_law_fits.nd rfl (Or.inl rfl) (pe_ix ix_any (pe_ix ix_any (pv 2) (pv 7) (fun _ _ => rfl)) (pe_int) (fun _ _ => rfl))) (pss_cons (ps_setLc (i := 8) (own := [("_law_first", 9)]) (g := gName 9) (tt := tTest (tOp rNotNo (tVar 9) (tC .non))) rfl sc_law_fits.nd rfl rfl (sw_true rfl rfl rfl (by decide +kernel)) (pi_list (pv 6)) (blkOk_by (N := N_law_fits) (sc := defScope s_law_fits) (by decide +kernel)) (fun _ _ _ _ _ => pg_name (i := 9) sc_law_fits.nd rfl (Or.inl rfl)) (fun _ _ _ _ _ => pts_one (pt_cmpR op_notNo (pv 9) (pe_non) (nomark _))) (fun _ _ _ _ _ => pv 9)) (pss_cons (ps_if (PW.pt (pw_and (pt_cmpR op_gtI (pe_callB call_lenA rfl T.b_len boot_len (pa_cons (pv 8) (pa_nil))) (pe_int) (nomark _)) (pw_and1 (pt_cmpR op_gtI (pe_op op_subI (pe_op op_addA (pv 1) (pv 5)) (pe_callB (cr_min rfl) rfl T.b_min boot_min (pa_cons (pv 8) (pa_nil)))) (pv 0) (nomark _))))) (pss_one (ps_ret (pe_bl))) (pss_nil)) (pss_cons (ps_asg (pe_ifExp (PW.pt (pw_and (pt_cmpR op_in_seq (pv 7) (pv 4) rfl) (pw_and1 (pt_cmpR op_gtI (pv 5) (pe_int) (nomark _))))) (pv 1) (pe_non)) (pg_sub (pv 6) (pv 7) set_list)) (pss_one (ps_set (i := 1) sc_law_fits.nd rfl (Or.inl rfl) (pe_op op_addA (pv 1) (pv 5))))))))) (pss_one (ps_ret (pe_bl))))
theorem cal_law_fits (T : TxtW w K mg) : Cal P w K mg base 1 "_law_fits" (sp_law_fits K) := by
  obtain ⟨fd, F⟩ := T.fn_law_fits
  exact ⟨_, fd, ["_law_cells", "_law_head", "_law_deeds_here", "_law_many", "_law_lot"], F.ok sc_law_fits (fun vs H Q E h => len_law_fits h) (fun cdv A outer s H vs Q E hr h => ⟨t_law_fits K, PSs.nox (der_law_fits T hr), pure_law_fits T.toTxt h⟩), T.g__law_fits, F.kp, F.bindsN fun _ _ _ _ _ _ us hl => match us, hl with | [_, _, _, _, _], _ => rfl⟩
theorem der_need_behind (T : TxtW w K mg) {cdv : Value} {A : Around} {outer : List PySem.Env} {s : Shared} {H : Hp} {E : XK} {f : Addr} (hr : Room 0 (A.deeper (envOfC "need_behind" (defScope s_need_behind) s.heap.objs.size f cdv))) :
    PSs (cxOf L2.CX0 P w K mg base N_need_behind "need_behind" (defScope s_need_behind) f cdv A outer s H E).nox (defBody s_need_behind) (t_need_behind K) :=
  pss_one (ps_ret (pe_ifExp (PW.pt (pw_and (pt_cmpR (op_eqD hr.units) (pe_ix ix_any (pv 1) (pe_int) (fun _ _ => rfl)) (pe_globS rfl T.c_ROW) (nomark _)) (pw_and1 (pt_cmpR (op_eqD hr.units) (pe_ix ix_any (pv 1) (pe_int) (fun _ _ => rfl)) (pv 2) (nomark _))))) (pe_ix ix_any (pv 1) (pe_int) (fun _ _ => rfl)) (pe_ix ix_any (pe_ix ix_any (pe_fld (pv 0) rfl) (pv 2) (fun _ _ => rfl)) (pe_int) (fun _ _ => rfl))))
theorem cal_need_behind (T : TxtW w K mg) : Cal P w K mg base 1 "need_behind" (sp_need_behind K) := by
  obtain ⟨fd, F⟩ := T.fn_need_behind
  exact ⟨_, fd, ["standing", "wish", "deed"], F.ok sc_need_behind (fun vs H Q E h => len_need_behind h) (fun cdv A outer s H vs Q E hr h => ⟨t_need_behind K, PSs.nox (der_need_behind T hr), pure_need_behind T.toTxt h⟩), T.g_need_behind, F.kp, F.bindsN fun _ _ _ _ _ _ us hl => match us, hl with | [_, _, _], _ => rfl⟩
theorem der_cells_of (T : TxtW w K mg) {cdv : Value} {A : Around} {outer : List PySem.Env} {s : Shared} {H : Hp} {E : XK} {f : Addr} (hr : Room 0 (A.deeper (envOfC "cells_of" (defScope s_cells_of) s.heap.objs.size f cdv))) :
    PSs (cxOf L2.CX0 P w K mg base N_cells_of "cells_of" (defScope s_cells_of) f cdv A outer s H E).nox (defBody s_cells_of) (t_cells_of K) :=
  pss_one (ps_ret (pe_ifExp (pt_cmpR (op_eqD hr.units) (pe_ix ix_any (pv 0) (pe_int) (fun _ _ => rfl)) (pe_globS rfl T.c_ROW) (nomark _)) (pe_ix ix_any (pv 0) (pe_int) (fun _ _ => rfl)) (pe_ix ix_any (pv 0) (pe_int) (fun _ _ => rfl))))
theorem cal_cells_of (T : TxtW w K mg) : Cal P w K mg base 1 "cells_of" (sp_cells_of K) := by
  obtain ⟨fd, F⟩ := T.fn_cells_of
  exact ⟨_, fd, ["wish"], F.ok sc_cells_of (fun vs H Q E h => len_cells_of h) (fun cdv A outer s H vs Q E hr h => ⟨t_cells_of K, PSs.nox (der_cells_of T hr), pure_cells_of T.toTxt h⟩), T.g_cells_of, F.kp, F.bindsN fun _ _ _ _ _ _ us hl => match us, hl with | [_], _ => rfl⟩
theorem der_sum_of (T : TxtW w K mg) {cdv : Value} {A : Around} {outer : List PySem.Env} {s : Shared} {H : Hp} {E : XK} {f : Addr} (hr : Room 1 (A.deeper (envOfC "sum_of" (defScope s_sum_of) s.heap.objs.size f cdv))) :
    PSs (cxOf L2.CX0 P w K mg base N_sum_of "sum_of" (defScope s_sum_of) f cdv A outer s H E).nox (defBody s_sum_of) (t_sum_of K) :=
  pss_cons (ps_setLc (i := 5) (own := [("other", 8)]) (g := gName 8) (tt := tTest (tOp rNotNo (tOp (rIxA K) (tOp (rIxA K) (tFld K (tVar 0) "deeds") (tVar 8)) (tC (.int 0))) (tC .non))) rfl sc_sum_of.nd rfl rfl (sw_true rfl rfl rfl (by decide +kernel)) (pi_range2 rfl T.b_range (pa_cons (pv 2) (pa_cons (pe_callB call_lenA rfl T.b_len boot_len (pa_cons (pe_fld (pv 0) rfl) (pa_nil))) (pa_nil)))) (blkOk_by (N := N_sum_of) (sc := defScope s_sum_of) (by decide +kernel)) (fun _ _ _ _ _ => pg_name (i := 8) sc_sum_of.nd rfl (Or.inl rfl)) (fun _ _ _ _ _ => pts_one (pt_cmpR op_notNo (pe_ix ix_any (pe_ix ix_any (pe_fld (pv 0) rfl) (pv 8) (fun _ _ => rfl)) (pe_int) (fun _ _ => rfl)) (pe_non) (nomark _))) (fun _ _ _ _ _ => pv 8)) (pss_cons (ps_set (i := 6) sc_sum_of.nd rfl (Or.inl rfl) (pe_callB (cr_sum rfl) rfl T.b_sum boot_sum (pa_cons (pe_lc (own := [("other", 8)]) (g := gName 8) (tt := tYes) rfl sc_sum_of.nd (pi_list (pe_op op_addA (pv 5) (pe_callTy call_listS rfl T.b_list boot_list (pa_cons (pv 3) (pa_nil))))) (blkOk_by (N := N_sum_of) (sc := defScope s_sum_of) (by decide +kernel)) (fun _ _ _ _ _ => pg_name (i := 8) sc_sum_of.nd rfl (Or.inl rfl)) (fun _ _ _ _ _ => pts_nil) (fun _ _ _ _ _ => pe_cal (cal_need_behind T) hr (by decide) rfl (pa_cons (pv 0) (pa_cons (pv 1) (pa_cons (pv 8) (pa_nil)))))) (pa_nil)))) (pss_cons (ps_setLc (i := 7) (own := [("other", 8)]) (g := gName 8) (tt := tTest (tOp (rIn K true) (tVar 8) (tVar 3))) rfl sc_sum_of.nd rfl rfl (sw_true rfl rfl rfl (by decide +kernel)) (pi_range2 rfl T.b_range (pa_cons (pe_op op_addA (pv 4) (pe_int)) (pa_cons (pv 2) (pa_nil)))) (blkOk_by (N := N_sum_of) (sc := defScope s_sum_of) (by decide +kernel)) (fun _ _ _ _ _ => pg_name (i := 8) sc_sum_of.nd rfl (Or.inl rfl)) (fun _ _ _ _ _ => pts_one (pt_cmpR op_notIn_seq (pv 8) (pv 3) rfl)) (fun _ _ _ _ _ => pv 8)) (pss_one (ps_ret (pe_op op_addA (pe_op op_addA (pe_op op_addA (pe_cal (cal_cells_of T) hr (by decide) rfl (pa_cons (pv 1) (pa_nil))) (pv 6)) (pe_ix ix_any (pe_ix ix_any (pe_fld (pv 0) rfl) (pv 4) (fun _ _ => rfl)) (pe_int) (fun _ _ => rfl))) (pe_callB (cr_sum rfl) rfl T.b_sum boot_sum (pa_cons (pe_lc (own := [("other", 8)]) (g := gName 8) (tt := tYes) rfl sc_sum_of.nd (pi_list (pv 7)) (blkOk_by (N := N_sum_of) (sc := defScope s_sum_of) (by decide +kernel)) (fun _ _ _ _ _ => pg_name (i := 8) sc_sum_of.nd rfl (Or.inl rfl)) (fun _ _ _ _ _ => pts_nil) (fun _ _ _ _ _ => pe_ix ix_any (pe_ix ix_any (pe_fld (pv 0) rfl) (pv 8) (fun _ _ => rfl)) (pe_int) (fun _ _ => rfl))) (pa_nil))))))))
theorem cal_sum_of (T : TxtW w K mg) : Cal P w K mg base 2 "sum_of" (sp_sum_of K) := by
  obtain ⟨fd, F⟩ := T.fn_sum_of
  exact ⟨_, fd, ["standing", "wish", "many", "lot", "deed"], F.ok sc_sum_of (fun vs H Q E h => len_sum_of h) (fun cdv A outer s H vs Q E hr h => ⟨t_sum_of K, PSs.nox (der_sum_of T hr), pure_sum_of T.toTxt h⟩), T.g_sum_of, F.kp, F.bindsN fun _ _ _ _ _ _ us hl => match us, hl with | [_, _, _, _, _], _ => rfl⟩
theorem der_carry_sum (T : TxtW w K mg) {cdv : Value} {A : Around} {outer : List PySem.Env} {s : Shared} {H : Hp} {E : XK} {f : Addr} (hr : Room 12 (A.deeper (envOfC "carry_sum" (defScope s_carry_sum) s.heap.objs.size f cdv))) :
    PSs (cxOf L2.CX0 P w K mg base N_carry_sum "carry_sum" (defScope s_carry_sum) f cdv A outer s H E).nox (defBody s_carry_sum) (t_carry_sum K) :=
  pss_cons (ps_expr (pe_cal (cal_left T) hr (by decide) rfl (pa_cons (pv 0) (pa_cons (pv 1) (pa_cons (pv 2) (pa_nil)))))) (pss_cons (ps_if (PW.pt (pw_or (pt_not (pt_val (pe_cal (cal_is_number T) hr (by decide) rfl (pa_cons (pv 3) (pa_cons (pe_callB call_lenA rfl T.b_len boot_len (pa_cons (pe_fld (pv 0) rfl) (pa_nil))) (pa_nil)))))) (pw_or1 (pt_cmpR op_notIn_seq (pv 3) (pv 2) rfl)))) (pss_never) (pss_nil)) (pss_one (ps_ret (pe_cal (cal_sum_of T) hr (by decide) rfl (pa_cons (pv 0) (pa_cons (pv 1) (pa_cons (pe_cal (cal_must_of T) hr (by decide) rfl (pa_cons (pv 0) (pa_cons (pv 1) (pa_nil)))) (pa_cons (pv 2) (pa_cons (pv 3) (pa_nil))))))))))
theorem cal_carry_sum (T : TxtW w K mg) : Cal P w K mg base 13 "carry_sum" (sp_carry_sum K) := by
  obtain ⟨fd, F⟩ := T.fn_carry_sum
  exact ⟨_, fd, ["standing", "wish", "lot", "deed"], F.ok sc_carry_sum (fun vs H Q E h => len_carry_sum h) (fun cdv A outer s H vs Q E hr h => ⟨t_carry_sum K, PSs.nox (der_carry_sum T hr), pure_carry_sum T.toTxt h⟩), T.g_carry_sum, F.kp, F.bindsN fun _ _ _ _ _ _ us hl => match us, hl with | [_, _, _, _], _ => rfl⟩
theorem der_law_own_sum (T : TxtW w K mg) {cdv : Value} {A : Around} {outer : List PySem.Env} {s : Shared} {H : Hp} {E : XK} {f : Addr} (hr : Room 0 (A.deeper (envOfC "_law_own_sum" (defScope s_law_own_sum) s.heap.objs.size f cdv))) :
    PSs (cxOf L2.CX0 P w K mg base N_law_own_sum "_law_own_sum" (defScope s_law_own_sum) f cdv A outer s H E).nox (defBody s_law_own_sum) (t_law_own_sum K) :=
  pss_cons (ps_if (PW.pt (pw_or (PW.pt (pw_and (pt_cmpR (op_eqD hr.units) (pe_ix ix_any (pv 1) (pe_int) (fun _ _ => rfl)) (pe_str) (nomark _)) (pw_and1 (pt_cmpR op_notNo (pe_ix ix_any (pe_ix ix_any (pv 0) (pe_ix ix_any (pv 1) (pe_int) (fun _ _ => rfl)) (fun _ _ => rfl)) (pe_int) (fun _ _ => rfl)) (pe_non) (nomark _))))) (pw_or1 (PW.pt (pw_and (pt_cmpR (op_eqD hr.units) (pe_ix ix_any (pv 1) (pe_int) (fun _ _ => rfl)) (pe_str) (nomark _)) (pw_and1 (pt_cmpR (op_eqD hr.units) (pe_ix ix_any (pv 1) (pe_int) (fun _ _ => rfl)) (pe_int) (nomark _)))))))) (pss_one (ps_ret (pe_int))) (pss_nil)) (pss_cons (ps_set (i := 4) sc_law_own_sum.nd rfl (Or.inl rfl) (pe_ifExp (pt_cmpR (op_eqD hr.units) (pe_ix ix_any (pv 1) (pe_int) (fun _ _ => rfl)) (pe_str) (nomark _)) (pe_ix ix_any (pv 1) (pe_int) (fun _ _ => rfl)) (pe_non))) (pss_cons (ps_set (i := 5) sc_law_own_sum.nd rfl (Or.inl rfl) (pe_ifExp (pt_cmpR (op_eqD hr.units) (pe_ix ix_any (pv 1) (pe_int) (fun _ _ => rfl)) (pe_str) (nomark _)) (pe_op op_addA (pe_ix ix_any (pv 1) (pe_int) (fun _ _ => rfl)) (pe_ix ix_any (pv 1) (pe_int) (fun _ _ => rfl))) (pe_op op_addA (pe_ix ix_any (pv 1) (pe_int) (fun _ _ => rfl)) (pe_ix ix_any (pv 1) (pe_int) (fun _ _ => rfl))))) (pss_cons (ps_for PassesOwn.never rfl (pi_range1 rfl T.b_range (pa_cons (pe_callB call_lenA rfl T.b_len boot_len (pa_cons (pv 0) (pa_nil))) (pa_nil))) (pg_name (i := 6) sc_law_own_sum.nd rfl (Or.inl rfl)) (pss_one (ps_if (PW.pt (pw_and (pt_cmpR (op_neD hr.units) (pv 6) (pv 4) (nomark _)) (pw_and1 (PW.pt (pw_or (pt_cmpR op_in_seq (pv 6) (pv 3) rfl) (pw_or1 (PW.pt (pw_and (pt_cmpR op_geI (pv 6) (pv 2) (nomark _)) (pw_and1 (pt_cmpR op_notNo (pe_ix ix_any (pe_ix ix_any (pv 0) (pv 6) (fun _ _ => rfl)) (pe_int) (fun _ _ => rfl)) (pe_non) (nomark _))))))))))) (pss_one (ps_set (i := 5) sc_law_own_sum.nd rfl (Or.inl rfl) (pe_op op_addA (pv 5) (pe_ix ix_any (pe_ix ix_any (pv 0) (pv 6) (fun _ _ => rfl)) (pe_int) (fun _ _ => rfl))))) (pss_nil)))) (pss_one (ps_ret (pv 5))))))
theorem cal_law_own_sum (T : TxtW w K mg) : Cal P w K mg base 1 "_law_own_sum" (sp_law_own_sum K) := by
  obtain ⟨fd, F⟩ := T.fn_law_own_sum
  exact ⟨_, fd, ["_law_deeds_here", "_law_wish_here", "_law_many", "_law_lot"], F.ok sc_law_own_sum (fun vs H Q E h => len_law_own_sum h) (fun cdv A outer s H vs Q E hr h => ⟨t_law_own_sum K, PSs.nox (der_law_own_sum T hr), pure_law_own_sum T.toTxt h⟩), T.g__law_own_sum, F.kp, F.bindsN fun _ _ _ _ _ _ us hl => match us, hl with | [_, _, _, _], _ => rfl⟩
end
end RC
end
section
set_option Elab.async false
set_option linter.all false
set_option maxRecDepth 100000
set_option maxHeartbeats 4000000
namespace RC
open PySem PySem.Spec PyProof.Rows L2
local macro_rules | `(tactic| walk_at "sub") => `(tactic| first | exact sub_nil | (apply sub_cons; walk_at "sub") | (apply sub_drop; walk_at "sub"))
local macro_rules | `(tactic| walk_at "hr") => `(tactic| (repeat apply Exists.intro) <;> (refine And.intro rfl ?_) <;> (repeat' apply And.intro) <;> (first | rfl | assumption | omega | skip))
local macro_rules | `(tactic| walk_at "ev") => `(tactic| first
  | exact ty_var rfl
  | exact ty_int
  | exact ty_bl
  | exact ty_non
  | exact ty_str
  | exact ta_nil
  | (apply ta_cons <;> walk_at "ev")
  | (apply tt_test <;> walk_at "ev")
  | (apply tt_B <;> walk_at "ev")
  | (apply tt_not <;> walk_at "ev")
  | (apply tt_and <;> (first | walk_at "ev" | (intro _; walk_at "ev")))
  | (apply tt_or <;> (first | walk_at "ev" | (intro _; walk_at "ev")))
  | (apply ty_and <;> (first | walk_at "ev" | (intro _; walk_at "ev")))
  | (apply ty_or <;> (first | walk_at "ev" | (intro _; walk_at "ev")))
  | (apply ty_not <;> walk_at "ev")
  | (apply ty_succ <;> walk_at "ev")
  | (apply ty_add <;> walk_at "ev")
  | (apply ty_sub <;> walk_at "ev")
  | (apply ty_lt <;> walk_at "ev")
  | (apply ty_le <;> walk_at "ev")
  | (apply ty_gt <;> walk_at "ev")
  | (apply ty_ge <;> walk_at "ev")
  | (apply ty_leleI <;> walk_at "ev")
  | (apply ty_ltltI <;> walk_at "ev")
  | (apply ty_isOpen <;> walk_at "ev")
  | (apply ty_isRow <;> walk_at "ev")
  | (apply ty_isWait <;> walk_at "ev")
  | (apply ty_o1 <;> walk_at "ev")
  | (apply ty_o2 <;> walk_at "ev")
  | (apply ty_o3 <;> walk_at "ev")
  | (apply ty_r1 <;> walk_at "ev")
  | (apply ty_r2 <;> walk_at "ev")
  | (apply ty_r3 <;> walk_at "ev")
  | (apply ty_eqI <;> walk_at "ev")
  | (apply ty_eqS <;> (first | walk_at "ev" | decide +kernel))
  | (apply ty_wrote <;> walk_at "ev")
  | (apply ty_bare <;> walk_at "ev")
  | (apply ty_isN <;> walk_at "ev")
  | (apply ty_notN <;> walk_at "ev")
  | (apply ty_neI <;> walk_at "ev")
  | (apply ty_neg <;> walk_at "ev")
  | (apply ty_inTN <;> walk_at "ev")
  | (apply ty_inLN <;> walk_at "ev")
  | (apply ty_niTN <;> walk_at "ev")
  | (apply ty_isi <;> (first | walk_at "ev" | exact kit_ii | exact kit_ib | exact kit_tt | exact kit_ss | exact kit_bb))
  | exact tyc_len (k := 0) rfl rfl
  | exact tyc_len (k := 1) rfl rfl
  | (apply ty_lenT <;> walk_at "ev")
  | (apply ty_lenL <;> walk_at "ev")
  | (apply ty_d0 <;> walk_at "ev")
  | (apply ty_d1 <;> walk_at "ev")
  | (apply ty_d2 <;> walk_at "ev")
  | (apply ty_di <;> (first | walk_at "ev" | assumption))
  | (apply ty_ixT <;> (first | walk_at "ev" | rfl | exact atI_map_nat _ (by assumption) | (show _ = _)))
  | (apply ty_ixL <;> (first | walk_at "ev" | rfl | exact atI_map_nat _ (by assumption) | (show _ = _)))
  | (apply ty_cells (by assumption) <;> walk_at "ev")
  | (apply ty_head (by assumption) <;> walk_at "ev")
  | (apply ty_deeds (by assumption) <;> walk_at "ev")
  | (apply ty_tupleL <;> walk_at "ev")
  | (apply ty_tupleT <;> walk_at "ev")
  | (apply ty_slT <;> walk_at "ev")
  | exact to_no
  | (apply to_some <;> walk_at "ev")
  | (apply ty_tup <;> (first | walk_at "ev" | decide | (simp; done)))
  | (apply ty_call <;> (first | walk_at "ev" | walk_at "hr")))
local macro_rules | `(tactic| walk_at "bv") => `(tactic| first | rfl | (refine congrArg BV ?_; simp; done) | (refine congrArg BV ?_; simp; omega) | (simp; done) | (simp; omega) | omega)
section
variable {K : PySem.W.Frag} {mg : Str → Option Value} {vs : List V} {H : Hp} {Q : VK} {E : XK}
section
variable {X : Cx} {bmB : List Value} {B newId initId : String} {C : Addr} {x : Str} {p pos : Pos}
/-- X(), X an own exception class without own __init__ -/
theorem pmk_own0 (F : ExcBaseFacts B newId initId bmB) (q : PySem.W.excIn X.K C bmB newId = true) (gC : X.mg x = some (.ref C)) (kC : PySem.W.keepIn X.K (.ref C) = true) (r : Raises X (.ref C)) (hg : Gl X x)
    (hdb : (x == ("__debug__" : Str)) = false := by decide) : PMk X (.Call (.Name x p) [] [] pos) (fun σ H Q => Q (.ref C) none H) := by
  intro pins s σ H Q I h
  refine wpAny_Call_Name_kw (ld_glob I hg gC ?_ hdb)
  refine PySem.W.callWith_K0 I.kIn kC ?_
  show wpAny _ _ (call (.ref C) []) _ _ _
  obtain ⟨bm, N, nm, qn, bs, hdct, sn, sub, ab, col, dd, k0, k1, k2, k3, k5, mN, hC, hN, hni, T⟩ := exc_obj I.kIn q
  refine wpAny_call_exc_subT F T hC hN hni (fun h' e hm => ?_) (Nat.zero_le _)
  exact mk_of I hm r h (I.hok.gone hm.new)
end
/-- the text, with what is said of the exceptions -/
structure TxtX (P : Program) (w : World) (K : PySem.W.Frag) (mg : Str → Option Value) : Prop extends TxtW w K mg where
  prog : P = PySem.Challenge.pw_ringclaims_k13_whole_leaving_and_carryin
  nr : ∃ fI cc cda, NrF K (He.ga K "NoRoom") fI cc cda ∧ PySem.W.findIn K (.ref (He.ga K "NoRoom")) "__init__" = some (some (.ref fI)) ∧ PySem.W.typeIn K (.ref fI) = some (.type "function")
  g_NoRoom : mg "NoRoom" = some (.ref (He.ga K "NoRoom"))
  g_NoRows : mg "NoRows" = some (.ref (He.ga K "NoRows"))
  g_RingError : mg "RingError" = some (.ref (He.ga K "RingError"))
  g_super : mg "super" = none
  rows : PySem.W.excIn K (He.ga K "NoRows") He.veBase "ValueError.__new__" = true ∧ PySem.W.keepIn K (.ref (He.ga K "NoRows")) = true ∧ PySem.W.subIn K (.ref (He.ga K "NoRows")) (.type "BaseException") = some true ∧ PySem.W.typeIn K (.ref (He.ga K "NoRows")) = some (.type "type")
  xf : XfC K (He.ga K "NoRoom")
  m11 : PySem.W.exmOne K (.ref (He.ga K "NoRoom")) (.ref (He.ga K "NoRoom")) = some true
  m21 : PySem.W.exmOne K (.ref (He.ga K "NoRows")) (.ref (He.ga K "NoRoom")) = some false
  m22 : PySem.W.exmOne K (.ref (He.ga K "NoRows")) (.ref (He.ga K "NoRows")) = some true
def carE (K : PySem.W.Frag) (c h : Int) (ds : List Dd) (d : Nat) (F H : Hp) (Q : VK) (E : XK) : Prop :=
  match carF c h ds d with
  | .let_ h' ds' => RET (SS K c h' ds') F H Q
  | .room k => ∀ (dx : Addr) (fs : List (Str × V)) (H' : Hp), H dx = none → H' dx = some (.xd fs) → fs.lookup ("deed" : Str) = some (.int (k : Nat)) → Same H H' → E (.ref (He.ga K "NoRoom")) (some dx) H'
  | .rows => ∀ H', Same H H' → E (.ref (He.ga K "NoRows")) none H'
def sp_carried (K : PySem.W.Frag) : Sp := fun vs H Q E => ∃ (F : Hp) (c h : Int) (ds : List Dd) (d : Nat), Same F H ∧ ARGS [SS K c h ds, IV (d : Nat)] vs F ∧ d < ds.length ∧ ds.length ≤ 100 ∧ NL ds ∧ carE K c h ds d F H Q E
def tRz (t : L2.St → Hp → XK → Prop) (W : WX) : TS := fun _ σ H => t σ H fun cls d H' => W cls d σ H'
def t_carried (K : PySem.W.Frag) (W : WX) : TS := tSeq (tDrop (tCall (sp_check_free K) [] L2.E0 (tCons (tVar 0) tNil))) (tSeq (tDrop (tCall (sp_check_deed K) [] L2.E0 (tCons (tVar 0) (tCons (tVar 1) tNil))))
  (tSeq (tIfS (tTest (tOp rIsNo (tOp (rIxA K) (tOp (rIxA K) (tFld K (tVar 0) "deeds") (tVar 1)) (tC (.int 0))) (tC .non))) (tRz (fun σ H Q => Q (.ref (He.ga K "NoRows")) none H) W) tNext)
  (tSeq (tIfS (tNot (tTest (tCall (sp_fits_with K) [] L2.E0 (tCons (tVar 0) (tCons (tOp (rIxA K) (tOp (rIxA K) (tFld K (tVar 0) "deeds") (tVar 1)) (tC (.int 1))) tNil))))) (tRz (tMkO (He.ga K "NoRoom") (sp_NoRoom (He.ga K "NoRoom")) [] (tCons (tVar 1) tNil)) W) tNext)
  (tRet (tCall (sp_carried_of K) [] L2.E0 (tCons (tVar 0) (tCons (tVar 1) tNil)))))))
section
variable {P : Program} {w : World} {base : Heap}
theorem der_carried (T : TxtX P w K mg) {cdv : Value} {A : Around} {outer : List PySem.Env} {s : Shared} {E : XK} {f : Addr} (hr : Room 9 (A.deeper (envOfC "carried" (defScope s_carried) s.heap.objs.size f cdv))) :
    PSs (cxOf (L2.CX P w) P w K mg base N_carried "carried" (defScope s_carried) f cdv A outer s H E) (defBody s_carried) (t_carried K fun cls d _ H => E cls d H) := by
  have tk : Takes (cxOf (L2.CX P w) P w K mg base N_carried "carried" (defScope s_carried) f cdv A outer s H E) (fun cls d _ H => E cls d H) := takes_of rfl rfl rfl rfl
  obtain ⟨fI, cc, cda, N, iC, tI⟩ := T.nr
  obtain ⟨fd, F0, hb0⟩ := nr_fn (w := w) (base := base) T.prog N T.g_super
  have T' := T.toTxtW
  exact pss_cons (ps_expr (pe_cal (cal_check_free T') hr (by decide) rfl (pa_cons (pv 0) (pa_nil)))) (pss_cons (ps_expr (pe_cal (cal_check_deed T') hr (by decide) rfl (pa_cons (pv 0) (pa_cons (pv 1) (pa_nil))))) (pss_cons (ps_if (pt_cmpR op_isNo (pe_ix ix_any (pe_ix ix_any (pe_fld (pv 0) rfl) (pv 1) (fun _ _ => rfl)) (pe_int) (fun _ _ => rfl)) (pe_non) (nomark _)) (pss_one (ps_raise rfl tk (pmk_own0 F.excBase_ValueError T.rows.1 T.g_NoRows T.rows.2.1 (raises_own T.rows.2.2.1 T.rows.2.2.2) rfl))) (pss_nil))
    (pss_cons (ps_if (pt_not (pt_val (pe_cal (cal_fits_with T') hr (by decide) rfl (pa_cons (pv 0) (pa_cons (pe_ix ix_any (pe_ix ix_any (pe_fld (pv 0) rfl) (pv 1) (fun _ _ => rfl)) (pe_int) (fun _ _ => rfl)) (pa_nil)))))) (pss_one (ps_raise rfl tk (pmk_oex N.oex iC tI F0 (hr.mono (by decide)) hb0 .nil L2.pass0 rfl T.g_NoRoom (pa_cons (pv 1) pa_nil)))) (pss_nil)) (pss_one (ps_ret (pe_cal (cal_carried_of T') hr (by decide) rfl (pa_cons (pv 0) (pa_cons (pv 1) (pa_nil)))))))))
end
end
end RC

end
section
set_option Elab.async false
set_option linter.all false
set_option maxRecDepth 100000
set_option maxHeartbeats 4000000
namespace RC
open PySem PySem.Spec PyProof.Rows L2
local macro_rules | `(tactic| walk_at "sub") => `(tactic| first | exact sub_nil | (apply sub_cons; walk_at "sub") | (apply sub_drop; walk_at "sub"))
local macro_rules | `(tactic| walk_at "hr") => `(tactic| (repeat apply Exists.intro) <;> (refine And.intro rfl ?_) <;> (repeat' apply And.intro) <;> (first | rfl | assumption | omega | skip))
local macro_rules | `(tactic| walk_at "ev") => `(tactic| first
  | exact ty_var rfl
  | exact ty_int
  | exact ty_bl
  | exact ty_non
  | exact ty_str
  | exact ta_nil
  | (apply ta_cons <;> walk_at "ev")
  | (apply tt_test <;> walk_at "ev")
  | (apply tt_B <;> walk_at "ev")
  | (apply tt_not <;> walk_at "ev")
  | (apply tt_and <;> (first | walk_at "ev" | (intro _; walk_at "ev")))
  | (apply tt_or <;> (first | walk_at "ev" | (intro _; walk_at "ev")))
  | (apply ty_and <;> (first | walk_at "ev" | (intro _; walk_at "ev")))
  | (apply ty_or <;> (first | walk_at "ev" | (intro _; walk_at "ev")))
  | (apply ty_not <;> walk_at "ev")
  | (apply ty_succ <;> walk_at "ev")
  | (apply ty_add <;> walk_at "ev")
  | (apply ty_sub <;> walk_at "ev")
  | (apply ty_lt <;> walk_at "ev")
  | (apply ty_le <;> walk_at "ev")
  | (apply ty_gt <;> walk_at "ev")
  | (apply ty_ge <;> walk_at "ev")
  | (apply ty_leleI <;> walk_at "ev")
  | (apply ty_ltltI <;> walk_at "ev")
  | (apply ty_isOpen <;> walk_at "ev")
  | (apply ty_isRow <;> walk_at "ev")
  | (apply ty_isWait <;> walk_at "ev")
  | (apply ty_o1 <;> walk_at "ev")
  | (apply ty_o2 <;> walk_at "ev")
  | (apply ty_o3 <;> walk_at "ev")
  | (apply ty_r1 <;> walk_at "ev")
  | (apply ty_r2 <;> walk_at "ev")
  | (apply ty_r3 <;> walk_at "ev")
  | (apply ty_eqI <;> walk_at "ev")
  | (apply ty_eqS <;> (first | walk_at "ev" | decide +kernel))
  | (apply ty_wrote <;> walk_at "ev")
  | (apply ty_bare <;> walk_at "ev")
  | (apply ty_isN <;> walk_at "ev")
  | (apply ty_notN <;> walk_at "ev")
  | (apply ty_neI <;> walk_at "ev")
  | (apply ty_neg <;> walk_at "ev")
  | (apply ty_inTN <;> walk_at "ev")
  | (apply ty_inLN <;> walk_at "ev")
  | (apply ty_niTN <;> walk_at "ev")
  | (apply ty_isi <;> (first | walk_at "ev" | exact kit_ii | exact kit_ib | exact kit_tt | exact kit_ss | exact kit_bb))
  | exact tyc_len (k := 0) rfl rfl
  | exact tyc_len (k := 1) rfl rfl
  | (apply ty_lenT <;> walk_at "ev")
  | (apply ty_lenL <;> walk_at "ev")
  | (apply ty_d0 <;> walk_at "ev")
  | (apply ty_d1 <;> walk_at "ev")
  | (apply ty_d2 <;> walk_at "ev")
  | (apply ty_di <;> (first | walk_at "ev" | assumption))
  | (apply ty_ixT <;> (first | walk_at "ev" | rfl | exact atI_map_nat _ (by assumption) | (show _ = _)))
  | (apply ty_ixL <;> (first | walk_at "ev" | rfl | exact atI_map_nat _ (by assumption) | (show _ = _)))
  | (apply ty_cells (by assumption) <;> walk_at "ev")
  | (apply ty_head (by assumption) <;> walk_at "ev")
  | (apply ty_deeds (by assumption) <;> walk_at "ev")
  | (apply ty_tupleL <;> walk_at "ev")
  | (apply ty_tupleT <;> walk_at "ev")
  | (apply ty_slT <;> walk_at "ev")
  | exact to_no
  | (apply to_some <;> walk_at "ev")
  | (apply ty_tup <;> (first | walk_at "ev" | decide | (simp; done)))
  | (apply ty_call <;> (first | walk_at "ev" | walk_at "hr")))
local macro_rules | `(tactic| walk_at "bv") => `(tactic| first | rfl | (refine congrArg BV ?_; simp; done) | (refine congrArg BV ?_; simp; omega) | (simp; done) | (simp; omega) | omega)
section
variable {K : PySem.W.Frag} {mg : Str → Option Value} {vs : List V} {H : Hp} {Q : VK} {E : XK}
theorem enterE {F H : Hp} {Ps : List PV} {vs : List V} {D : Ends} {N : List Str} {t : TS} (s : Same F H) (ha : ARGS Ps vs F) (h : Ok ⟨W0, F, H, F⟩ [] (Ps.map some ++ List.replicate (N.length - Ps.length) none) t D) : t D (L2.start N vs) H := by
  refine h _ F H ⟨Stp.refl, fun _ _ => rfl, s, adds_nil.mpr trivial, Same.refl F, fun _ z => nomatch z⟩ ?_
  unfold L2.start
  rw [ha.len]
  exact env_start _ ha
theorem pure_carried (T : Txt K mg) (h : sp_carried K vs H Q E) : t_carried K (fun cls d _ H => E cls d H) (endsOf Q) (L2.start N_carried vs) H := by
  obtain ⟨F, c, hd, ds, d, s, ha, hdl, hl, hn, k⟩ := h
  have S := T.std
  have hi : ds[d]? = some (at_ ds d) := getD_lt hdl
  have hcar : carF c hd ds d = match (at_ ds d).1 with
    | none => .rows
    | some _ => if c < hd + (at_ ds d).2 - ((ds.getD 0 (none, 0)).1.getD 0) then .room d else .let_ (carTo hd ds d).1 (carTo hd ds d).2 := rfl
  have sameR : ∀ {F1 H1 : Hp}, Run ⟨W0, F, H, F⟩ [] F1 H1 → Same H H1 := fun r b o q => r.st.kp b o (fun z => z) q
  by_cases hw : wrote (at_ ds d) = true
  · obtain ⟨kk, hk1, hk2⟩ := hn
    have hd0 : d < kk := (hk2 d _ hi).mp hw
    have h0 : ds[0]? = some (at_ ds 0) := getD_lt (by omega)
    have hw0 : wrote (at_ ds 0) = true := (hk2 0 _ h0).mpr (by omega)
    obtain ⟨f, n0, e0⟩ : ∃ f n0, at_ ds 0 = (some f, n0) := by
      cases e : at_ ds 0 with
      | mk x y => cases x with
        | none =>
          rw [e] at hw0
          exact nomatch hw0
        | some f => exact ⟨f, y, rfl⟩
    obtain ⟨f2, n2, e2⟩ : ∃ f n0, at_ ds d = (some f, n0) := by
      cases e : at_ ds d with
      | mk x y => cases x with
        | none =>
          rw [e] at hw
          exact nomatch hw
        | some f => exact ⟨f, y, rfl⟩
    have hf0 : (ds.getD 0 (none, 0)).1.getD 0 = f := by
      show (at_ ds 0).1.getD 0 = f
      rw [e0]
      rfl
    rw [e2] at hcar
    dsimp only at hcar
    rw [hf0] at hcar
    by_cases hc : c < hd + n2 - f
    · rw [if_pos hc] at hcar
      unfold carE at k
      rw [hcar] at k
      refine enterE s ha (ok_drop (ty_call (P := NV) (ta_cons (ty_var rfl) ta_nil) ⟨c, hd, ds, rfl, by omega, rfl⟩) (ok_drop (ty_call (P := NV) (ta_cons (ty_var rfl) (ta_cons (ty_var rfl) ta_nil)) ⟨c, hd, ds, d, rfl, hdl, rfl⟩)
        (ok_ifS (b := !wrote (at_ ds d)) (tt_test (ty_bare (ty_d0 (d := at_ ds d) (ty_di (ty_deeds S (ty_var rfl)) (ty_var rfl) hi)))) (fun z => ?_) (fun z => ok_tl (ok_ifS (b := true) (tt_not (b := false) (tt_B ((ty_call (ta_cons (ty_var rfl) (ta_cons (ty_d1 (d := at_ ds d) (ty_di (ty_deeds S (ty_var rfl)) (ty_var rfl) hi)) ta_nil)) ⟨c, hd, ds, (at_ ds d).2, rfl, rfl⟩).to ?_))) (fun _ => ?_) (fun z => nomatch z))))))
      · rw [hw] at z
        exact nomatch z
      · rw [h0, e0]
        exact congrArg BV (show decide (hd + (at_ ds d).2 - f ≤ c) = false from by rw [e2]; exact decide_eq_false (show ¬ hd + n2 - f ≤ c from by omega))
      · intro σ F1 H1 r e
        obtain ⟨v1, a1, b1⟩ := e.2 1 _ rfl
        have b1' := IV.v b1
        subst b1'
        have sm := sameR r
        refine ⟨_, a1, by simp, fun a ha => ⟨a, _, rfl, upd_same, fun dx h1 h2 => ⟨rfl, dx, _, upd_same, (upd_ne h2).trans upd_same, (upd_ne h2).symm.trans h1, ?_⟩⟩⟩
        have h1' := (upd_ne h2).symm.trans h1
        refine k dx _ _ (by
          cases z : H dx with
          | none => rfl
          | some o =>
            have q := sm dx o z
            rw [h1'] at q
            exact nomatch q) upd_same rfl fun b o q => ?_
        have q1 := sm b o q
        have nb : b ≠ a := fun z => by rw [z, ha] at q1; exact nomatch q1
        have nd : b ≠ dx := fun z => by rw [z, h1'] at q1; exact nomatch q1
        rw [upd_ne nd, L2.del_ne nb, upd_ne nb, upd_ne nd, upd_ne nb]
        exact q1
    · rw [if_neg hc] at hcar
      unfold carE at k
      rw [hcar] at k
      refine enter (R := fun Ps P => Ps = [SS K c hd ds, IV (d : Nat)] ∧ P = SS K c (carTo hd ds d).1 (carTo hd ds d).2) (E := E) ⟨F, _, _, s, ha, ⟨rfl, rfl⟩, k⟩ fun Ps P hR C hW hr hfl => ?_
      obtain ⟨rfl, rfl⟩ := hR
      refine ok_drop (ty_call (P := NV) (ta_cons (ty_var rfl) ta_nil) ⟨c, hd, ds, rfl, by omega, rfl⟩) (ok_drop (ty_call (P := NV) (ta_cons (ty_var rfl) (ta_cons (ty_var rfl) ta_nil)) ⟨c, hd, ds, d, rfl, hdl, rfl⟩)
        (ok_passE (b := !wrote (at_ ds d)) (tt_test (ty_bare (ty_d0 (d := at_ ds d) (ty_di (ty_deeds S (ty_var rfl)) (ty_var rfl) hi)))) (by rw [hw] <;> rfl) (ok_pass (tt_not (b := true) (tt_B ((ty_call (ta_cons (ty_var rfl) (ta_cons (ty_d1 (d := at_ ds d) (ty_di (ty_deeds S (ty_var rfl)) (ty_var rfl) hi)) ta_nil)) ⟨c, hd, ds, (at_ ds d).2, rfl, rfl⟩).to ?_)))
          (ok_ret (ty_call (ta_cons (ty_var rfl) (ta_cons (ty_var rfl) ta_nil)) ⟨c, hd, ds, d, rfl, hdl, hw, hl, rfl⟩) hr))))
      rw [h0, e0]
      exact congrArg BV (show decide (hd + (at_ ds d).2 - f ≤ c) = true from by rw [e2]; exact decide_eq_true (show hd + n2 - f ≤ c from by omega))
  · have hno : (at_ ds d).1 = none := by
      cases e : at_ ds d with
      | mk x y => cases x with
        | none => rfl
        | some f =>
          rw [e] at hw
          exact absurd rfl hw
    rw [hno] at hcar
    unfold carE at k
    rw [hcar] at k
    refine enterE s ha (ok_drop (ty_call (P := NV) (ta_cons (ty_var rfl) ta_nil) ⟨c, hd, ds, rfl, by omega, rfl⟩) (ok_drop (ty_call (P := NV) (ta_cons (ty_var rfl) (ta_cons (ty_var rfl) ta_nil)) ⟨c, hd, ds, d, rfl, hdl, rfl⟩)
      (ok_ifS (b := !wrote (at_ ds d)) (tt_test (ty_bare (ty_d0 (d := at_ ds d) (ty_di (ty_deeds S (ty_var rfl)) (ty_var rfl) hi)))) (fun z => ?_) (fun z => ?_))))
    · intro σ F1 H1 r e
      exact k H1 (sameR r)
    · exfalso
      cases e : wrote (at_ ds d) with
      | true => exact hw e
      | false =>
        rw [e] at z
        exact nomatch z
end
section
variable {P : Program} {w : World} {base : Heap} {K : PySem.W.Frag} {mg : Str → Option Value}
theorem ok_carried (T : TxtX P w K mg) : ∃ fd, FnOk P w K mg base (L2.CX P w) 10 (He.fAd K ("carried", none)) fd ["standing", "deed"] (sp_carried K) ∧ mg "carried" = some (.ref (He.fAd K ("carried", none))) ∧ PySem.W.keepIn K (.ref (He.fAd K ("carried", none))) = true ∧ L2.Binds K fd ["standing", "deed"] [] := by
  obtain ⟨fd, F⟩ := T.toTxt.fn_carried
  exact ⟨fd, F.ok sc_carried (fun vs H Q E ⟨F, c, h, ds, d, s, ha, _⟩ => ha.len) (fun cdv A outer s H vs Q E hr h => ⟨_, der_carried T hr, pure_carried T.toTxt h⟩), T.toTxt.g_carried, F.kp, F.bindsN fun _ _ _ _ _ _ us hl => match us, hl with | [_, _], _ => rfl⟩
theorem pe_carried {X : Cx} {e : Expr} {es : List Expr} {t : TA} {p pos : Pos} {j : Nat} {W : WX} (T : TxtX X.prog X.w X.K X.mg) (hr : Room j X.A) (tk : Takes X W) (ha : PA X (e :: es) t) (hj : 10 ≤ j := by decide) (hg : Gl X "carried" := by rfl)
    (he : starEach (e :: es) X.env = (false, eval e X.env) :: starEach es X.env := by rfl) (hpl : (backTo pos (starEach es X.env)).any (·.1) = false := by rfl) : PE X (.Call (.Name "carried" p) (e :: es) [] pos) (tCallS (sp_carried X.K) (WE W) t) := by
  obtain ⟨fd, F, hm, hk, hb⟩ := ok_carried (base := X.base) T
  exact pe_callS F (hr.mono hj) hg hm hk hb (fun σ => passAt tk σ) ha (by decide) he hpl
end
section
end
end RC

end
section
set_option Elab.async false
set_option linter.all false
set_option maxRecDepth 100000
set_option maxHeartbeats 4000000
namespace RC
open PySem PySem.Spec PyProof.Rows L2
local macro_rules | `(tactic| walk_at "sub") => `(tactic| first | exact sub_nil | (apply sub_cons; walk_at "sub") | (apply sub_drop; walk_at "sub"))
local macro_rules | `(tactic| walk_at "hr") => `(tactic| (repeat apply Exists.intro) <;> (refine And.intro rfl ?_) <;> (repeat' apply And.intro) <;> (first | rfl | assumption | omega | skip))
local macro_rules | `(tactic| walk_at "ev") => `(tactic| first
  | exact ty_var rfl
  | exact ty_int
  | exact ty_bl
  | exact ty_non
  | exact ty_str
  | exact ta_nil
  | (apply ta_cons <;> walk_at "ev")
  | (apply tt_test <;> walk_at "ev")
  | (apply tt_B <;> walk_at "ev")
  | (apply tt_not <;> walk_at "ev")
  | (apply tt_and <;> (first | walk_at "ev" | (intro _; walk_at "ev")))
  | (apply tt_or <;> (first | walk_at "ev" | (intro _; walk_at "ev")))
  | (apply ty_and <;> (first | walk_at "ev" | (intro _; walk_at "ev")))
  | (apply ty_or <;> (first | walk_at "ev" | (intro _; walk_at "ev")))
  | (apply ty_not <;> walk_at "ev")
  | (apply ty_succ <;> walk_at "ev")
  | (apply ty_add <;> walk_at "ev")
  | (apply ty_sub <;> walk_at "ev")
  | (apply ty_lt <;> walk_at "ev")
  | (apply ty_le <;> walk_at "ev")
  | (apply ty_gt <;> walk_at "ev")
  | (apply ty_ge <;> walk_at "ev")
  | (apply ty_leleI <;> walk_at "ev")
  | (apply ty_ltltI <;> walk_at "ev")
  | (apply ty_isOpen <;> walk_at "ev")
  | (apply ty_isRow <;> walk_at "ev")
  | (apply ty_isWait <;> walk_at "ev")
  | (apply ty_o1 <;> walk_at "ev")
  | (apply ty_o2 <;> walk_at "ev")
  | (apply ty_o3 <;> walk_at "ev")
  | (apply ty_r1 <;> walk_at "ev")
  | (apply ty_r2 <;> walk_at "ev")
  | (apply ty_r3 <;> walk_at "ev")
  | (apply ty_eqI <;> walk_at "ev")
  | (apply ty_eqS <;> (first | walk_at "ev" | decide +kernel))
  | (apply ty_wrote <;> walk_at "ev")
  | (apply ty_bare <;> walk_at "ev")
  | (apply ty_isN <;> walk_at "ev")
  | (apply ty_notN <;> walk_at "ev")
  | (apply ty_neI <;> walk_at "ev")
  | (apply ty_neg <;> walk_at "ev")
  | (apply ty_inTN <;> walk_at "ev")
  | (apply ty_inLN <;> walk_at "ev")
  | (apply ty_niTN <;> walk_at "ev")
  | (apply ty_isi <;> (first | walk_at "ev" | exact kit_ii | exact kit_ib | exact kit_tt | exact kit_ss | exact kit_bb))
  | exact tyc_len (k := 0) rfl rfl
  | exact tyc_len (k := 1) rfl rfl
  | (apply ty_lenT <;> walk_at "ev")
  | (apply ty_lenL <;> walk_at "ev")
  | (apply ty_d0 <;> walk_at "ev")
  | (apply ty_d1 <;> walk_at "ev")
  | (apply ty_d2 <;> walk_at "ev")
  | (apply ty_di <;> (first | walk_at "ev" | assumption))
  | (apply ty_ixT <;> (first | walk_at "ev" | rfl | exact atI_map_nat _ (by assumption) | (show _ = _)))
  | (apply ty_ixL <;> (first | walk_at "ev" | rfl | exact atI_map_nat _ (by assumption) | (show _ = _)))
  | (apply ty_cells (by assumption) <;> walk_at "ev")
  | (apply ty_head (by assumption) <;> walk_at "ev")
  | (apply ty_deeds (by assumption) <;> walk_at "ev")
  | (apply ty_tupleL <;> walk_at "ev")
  | (apply ty_tupleT <;> walk_at "ev")
  | (apply ty_slT <;> walk_at "ev")
  | exact to_no
  | (apply to_some <;> walk_at "ev")
  | (apply ty_tup <;> (first | walk_at "ev" | decide | (simp; done)))
  | (apply ty_call <;> (first | walk_at "ev" | walk_at "hr")))
local macro_rules | `(tactic| walk_at "bv") => `(tactic| first | rfl | (refine congrArg BV ?_; simp; done) | (refine congrArg BV ?_; simp; omega) | (simp; done) | (simp; omega) | omega)
section
variable {K : PySem.W.Frag} {mg : Str → Option Value} {vs : List V} {H : Hp} {Q : VK} {E : XK}
def tt_let (K : PySem.W.Frag) (W : WX) : TS := tSeq (tAsg (tCallS (sp_carried K) (WE W) (tCons (tVar 0) (tCons (tVar 1) tNil))) (gName 3)) (tAsg (tTup (tCons (tC (.str "let")) (tCons (tFld K (tVar 3) "head") (tCons (tFld K (tVar 3) "deeds") tNil)))) (gName 2))
def tt_room (K : PySem.W.Frag) (a : Addr) (cls : Value) (d : Option Addr) : TS := tAsg (tTup (tCons (tC (.str "room")) (tCons (tXf a cls d (He.ga K "NoRoom") "deed" (tVar 4)) tNil))) (gName 2)
def tt_one (x : Str) : Addr → Value → Option Addr → TS := fun _ _ _ => tAsg (tTup (tCons (tC (.str x)) tNil)) (gName 2)
def tt_l (K : PySem.W.Frag) : List (Value × (Addr → Value → Option Addr → TS)) := [(.ref (He.ga K "NoRows"), tt_one "rows"), (.ref (He.ga K "RingError"), tt_one "other")]
def t_law_told (K : PySem.W.Frag) : TS := tSeq (tAsg (tTup (tCons (tC (.str "other")) tNil)) (gName 2)) (tSeq (fun D σ H => tt_let K (wAsMany K (.ref (He.ga K "NoRoom")) 4 (tt_room K) (fun _ _ _ _ => False) (tt_l K) D) D σ H) (tRet (tVar 2)))
end
section
variable {P : Program} {w : World} {base : Heap} {K : PySem.W.Frag} {mg : Str → Option Value}
theorem der_law_told (T : TxtX P w K mg) {cdv : Value} {A : Around} {outer : List PySem.Env} {s : Shared} {H : Hp} {E : XK} {f : Addr} (hr : Room 10 (A.deeper (envOfC "_law_told" (defScope s_law_told) s.heap.objs.size f cdv))) :
    PSs (cxOf L2.CX0 P w K mg base N_law_told "_law_told" (defScope s_law_told) f cdv A outer s H E).nox (defBody s_law_told) (t_law_told K) := by
  obtain ⟨fI, cc, cda, N, iC, tI⟩ := T.nr
  exact pss_cons (ps_set (i := 2) sc_law_told.nd rfl (Or.inl rfl) (pe_tup (pa_cons pe_str pa_nil))) (pss_cons (ps_try_asMany (i := 4) (n := "error") (tb := tt_let K) (ts := tt_room K) (l := tt_l K) rfl rfl sc_law_told.nd rfl rfl ⟨rfl, by decide, .inl T.g_NoRoom⟩ takes_none5
    (fun W pn xe tk _ => pss_cons (ps_set (i := 3) sc_law_told.nd rfl (Or.inl rfl) (pe_carried T hr tk (pa_cons (pv 0) (pa_cons (pv 1) pa_nil)))) (pss_one (ps_set (i := 2) sc_law_told.nd rfl (Or.inl rfl) (pe_tup (pa_cons pe_str (pa_cons (pe_fld (pv 3) rfl) (pa_cons (pe_fld (pv 3) rfl) pa_nil)))))))
    (fun a oe cls d pn hz hf => pss_one (ps_set (i := 2) sc_law_told.nd rfl (Or.inl rfl) (pe_tup (pa_cons pe_str (pa_cons (pe_xf T.xf N.nod hz hf (pv 4)) pa_nil)))))
    (.cons ⟨rfl, by decide, .inl T.g_NoRows⟩ (fun a oe cls d pn hz hf => pss_one (ps_set (i := 2) sc_law_told.nd rfl (Or.inl rfl) (pe_tup (pa_cons pe_str pa_nil)))) (.cons ⟨rfl, by decide, .inl T.g_RingError⟩ (fun a oe cls d pn hz hf => pss_one (ps_set (i := 2) sc_law_told.nd rfl (Or.inl rfl) (pe_tup (pa_cons pe_str pa_nil)))) .nil)))
    (pss_one (ps_ret (pv 2))))
end
end RC

end
section
set_option Elab.async false
set_option linter.all false
set_option maxRecDepth 100000
set_option maxHeartbeats 4000000
namespace RC
open PySem PySem.Spec PyProof.Rows L2
local macro_rules | `(tactic| walk_at "sub") => `(tactic| first | exact sub_nil | (apply sub_cons; walk_at "sub") | (apply sub_drop; walk_at "sub"))
local macro_rules | `(tactic| walk_at "hr") => `(tactic| (repeat apply Exists.intro) <;> (refine And.intro rfl ?_) <;> (repeat' apply And.intro) <;> (first | rfl | assumption | omega | skip))
local macro_rules | `(tactic| walk_at "ev") => `(tactic| first
  | exact ty_var rfl
  | exact ty_int
  | exact ty_bl
  | exact ty_non
  | exact ty_str
  | exact ta_nil
  | (apply ta_cons <;> walk_at "ev")
  | (apply tt_test <;> walk_at "ev")
  | (apply tt_B <;> walk_at "ev")
  | (apply tt_not <;> walk_at "ev")
  | (apply tt_and <;> (first | walk_at "ev" | (intro _; walk_at "ev")))
  | (apply tt_or <;> (first | walk_at "ev" | (intro _; walk_at "ev")))
  | (apply ty_and <;> (first | walk_at "ev" | (intro _; walk_at "ev")))
  | (apply ty_or <;> (first | walk_at "ev" | (intro _; walk_at "ev")))
  | (apply ty_not <;> walk_at "ev")
  | (apply ty_succ <;> walk_at "ev")
  | (apply ty_add <;> walk_at "ev")
  | (apply ty_sub <;> walk_at "ev")
  | (apply ty_lt <;> walk_at "ev")
  | (apply ty_le <;> walk_at "ev")
  | (apply ty_gt <;> walk_at "ev")
  | (apply ty_ge <;> walk_at "ev")
  | (apply ty_leleI <;> walk_at "ev")
  | (apply ty_ltltI <;> walk_at "ev")
  | (apply ty_isOpen <;> walk_at "ev")
  | (apply ty_isRow <;> walk_at "ev")
  | (apply ty_isWait <;> walk_at "ev")
  | (apply ty_o1 <;> walk_at "ev")
  | (apply ty_o2 <;> walk_at "ev")
  | (apply ty_o3 <;> walk_at "ev")
  | (apply ty_r1 <;> walk_at "ev")
  | (apply ty_r2 <;> walk_at "ev")
  | (apply ty_r3 <;> walk_at "ev")
  | (apply ty_eqI <;> walk_at "ev")
  | (apply ty_eqS <;> (first | walk_at "ev" | decide +kernel))
  | (apply ty_wrote <;> walk_at "ev")
  | (apply ty_bare <;> walk_at "ev")
  | (apply ty_isN <;> walk_at "ev")
  | (apply ty_notN <;> walk_at "ev")
  | (apply ty_neI <;> walk_at "ev")
  | (apply ty_neg <;> walk_at "ev")
  | (apply ty_inTN <;> walk_at "ev")
  | (apply ty_inLN <;> walk_at "ev")
  | (apply ty_niTN <;> walk_at "ev")
  | (apply ty_isi <;> (first | walk_at "ev" | exact kit_ii | exact kit_ib | exact kit_tt | exact kit_ss | exact kit_bb))
  | exact tyc_len (k := 0) rfl rfl
  | exact tyc_len (k := 1) rfl rfl
  | (apply ty_lenT <;> walk_at "ev")
  | (apply ty_lenL <;> walk_at "ev")
  | (apply ty_d0 <;> walk_at "ev")
  | (apply ty_d1 <;> walk_at "ev")
  | (apply ty_d2 <;> walk_at "ev")
  | (apply ty_di <;> (first | walk_at "ev" | assumption))
  | (apply ty_ixT <;> (first | walk_at "ev" | rfl | exact atI_map_nat _ (by assumption) | (show _ = _)))
  | (apply ty_ixL <;> (first | walk_at "ev" | rfl | exact atI_map_nat _ (by assumption) | (show _ = _)))
  | (apply ty_cells (by assumption) <;> walk_at "ev")
  | (apply ty_head (by assumption) <;> walk_at "ev")
  | (apply ty_deeds (by assumption) <;> walk_at "ev")
  | (apply ty_tupleL <;> walk_at "ev")
  | (apply ty_tupleT <;> walk_at "ev")
  | (apply ty_slT <;> walk_at "ev")
  | exact to_no
  | (apply to_some <;> walk_at "ev")
  | (apply ty_tup <;> (first | walk_at "ev" | decide | (simp; done)))
  | (apply ty_call <;> (first | walk_at "ev" | walk_at "hr")))
local macro_rules | `(tactic| walk_at "bv") => `(tactic| first | rfl | (refine congrArg BV ?_; simp; done) | (refine congrArg BV ?_; simp; omega) | (simp; done) | (simp; omega) | omega)
section
variable {K : PySem.W.Frag} {mg : Str → Option Value} {vs : List V} {H : Hp} {Q : VK} {E : XK}
def XdV (a dd : Addr) (fs : List (Str × V)) : PV := ⟨fun v F => v = .ref a ∧ F dd = some (.xd fs), fun e ⟨h1, h2⟩ => ⟨h1, e _ _ h2⟩⟩
theorem env_del {G : Gm} {σ : L2.St} {F : Hp} (i : Nat) (h : Env G σ F) : Env (G.set i none) (σ.set i none) F := by
  refine ⟨by rw [List.length_set, List.length_set]; exact h.1, fun j P hj => ?_⟩
  by_cases e : i = j
  · subst e
    rw [List.getElem?_set] at hj
    simp at hj
  · rw [List.getElem?_set_ne e] at hj
    obtain ⟨v, h1, h2⟩ := h.2 j P hj
    exact ⟨v, (List.getElem?_set_ne e).trans h1, h2⟩
theorem ty_xf {W : Wd} {G : Gm} {C a dd : Addr} {f : Str} {fs : List (Str × V)} {k : Int} {i : Nat} (hi : G[i]? = some (some (XdV a dd fs))) (hl : fs.lookup f = some (.int k)) : Ty W G (tXf a (.ref C) (some dd) C f (tVar i)) (IV k) := fun σ F e H s j Q q =>
  (ty_var hi) σ F e H s j _ fun x F1 H1 g1 p => ⟨p.1, rfl, dd, fs, .int k, rfl, g1.sm s j _ _ p.2, hl, q _ F1 H1 g1 (.int k)⟩
section
variable {P : Program} {w : World}
theorem pure_law_told (T : TxtX P w K mg) (h : sp_law_told K vs H Q E) : t_law_told K (endsOf Q) (L2.start N_law_told vs) H := enter h fun Ps PP hR C hW hr hf => by
  obtain ⟨c, hd, ds, d, rfl, hdl, hl, hn, rfl⟩ := hR
  have S := T.toTxt.std
  refine ok_asg (P := DV (.tuple [.str "other"])) (ty_tup (ta_cons ty_str ta_nil)) ?_
  intro σ F1 H1 r e
  obtain ⟨v0, a0, b0⟩ := e.2 0 _ rfl
  obtain ⟨v1, a1, b1⟩ := e.2 1 _ rfl
  refine ⟨v0, a0, v1, a1, F1, c, hd, ds, d, r.sm, ⟨b0, b1, trivial⟩, hdl, hl, hn, ?_⟩
  unfold carE
  cases hc : carF c hd ds d with
  | let_ h' ds' =>
    rw [hc] at hr hf
    intro v H2 s2 p2
    have g := Go.same (r.sm) r.j s2
    have r2 := r.go g
    have e2 := (e.mono (g.le r.sm)).set 3 p2
    refine (show Ok C [] _ (tSeq (tAsg (tTup (tCons (tC (.str "let")) (tCons (tFld K (tVar 3) "head") (tCons (tFld K (tVar 3) "deeds") tNil)))) (gName 2)) (tRet (tVar 2))) (endsOf Q) from ?_) _ _ H2 r2 e2
    exact ok_asg (P := DV (.tuple [.str "let", .int h', dsD ds'])) (ty_tup (ta_cons ty_str (ta_cons (ty_head S (ty_var rfl)) (ta_cons (ty_deeds S (ty_var rfl)) ta_nil))) (by show 3 ≤ 100000; decide)) (ok_ret (ty_var rfl) hr)
  | room k =>
    rw [hc] at hr hf
    intro dx fs H2 hn1 hx hfl s2
    have g := Go.same (r.sm) r.j s2
    have r2 := r.go g
    refine ⟨true, T.m11, fun _ a ha => ?_, fun z => nomatch z⟩
    have e2 := (e.mono (g.le r.sm)).set (P := XdV a dx fs) (v := .ref a) 4 ⟨rfl, (fz_none hn1).trans hx⟩
    show tTup (tCons (tC (.str "room")) (tCons (tXf a (.ref (He.ga K "NoRoom")) (some dx) (He.ga K "NoRoom") "deed" (tVar 4)) tNil)) (σ.set 4 (some (.ref a))) H2 (fun v H' => tRet (tVar 2) (endsOf Q) (((σ.set 4 (some (.ref a))).set 2 (some v)).set 4 none) H')
    refine ty_tup (W := C.w []) (ds := [.str "room", .int (k : Nat)]) (ta_cons ty_str (ta_cons (ty_xf (G := _) (i := 4) rfl hfl) ta_nil)) (by show 2 ≤ 100000; decide) _ _ e2 H2 r2.sm r2.j _ fun v F3 H3 g3 p3 => ?_
    have e3 := env_del 4 ((e2.mono (g3.le r2.sm)).set 2 p3)
    exact (show Ok C [] _ (tRet (tVar 2)) (endsOf Q) from ok_ret (ty_var rfl) hr) _ _ H3 (r2.go g3) e3
  | rows =>
    rw [hc] at hr hf
    intro H2 s2
    have g := Go.same (r.sm) r.j s2
    have r2 := r.go g
    refine ⟨false, T.m21, (fun z => nomatch z), fun _ => ⟨true, T.m22, fun _ a ha => ?_, fun z => nomatch z⟩⟩
    have e2 := e.mono (g.le r.sm)
    exact (show Ok C [] _ (tSeq (tAsg (tTup (tCons (tC (.str "rows")) tNil)) (gName 2)) (tRet (tVar 2))) (endsOf Q) from ok_asg (P := DV (.tuple [.str "rows"])) (ty_tup (ta_cons ty_str ta_nil)) (ok_ret (ty_var rfl) hr)) _ _ H2 r2 e2
end
end
end RC

end
section
set_option Elab.async false
set_option linter.all false
set_option maxRecDepth 100000
set_option maxHeartbeats 2000000
namespace RC
open PySem PySem.Spec PyProof.Rows L2
section
variable {P : Program} {w : World} {K : PySem.W.Frag} {mg : Str → Option Value} {base : Heap}
theorem cal_law_told (T : TxtX P w K mg) : Cal P w K mg base 11 "_law_told" (sp_law_told K) := by
  obtain ⟨fd, F⟩ := T.toTxt.fn_law_told
  exact ⟨_, fd, ["_law_standing_here", "_law_deed"], F.ok sc_law_told (fun vs H Q E h => Pr.len (fun Ps P ⟨c, h, ds, d, e, _⟩ => by rw [e]; rfl) h) (fun cdv A outer s H vs Q E hr h => ⟨t_law_told K, PSs.nox (der_law_told T hr), pure_law_told T h⟩), T.g__law_told, F.kp, F.bindsN fun _ _ _ _ _ _ us hl => match us, hl with | [_, _], _ => rfl⟩
theorem der_law_led_right (T : TxtX P w K mg) {cdv : Value} {A : Around} {outer : List PySem.Env} {s : Shared} {H : Hp} {E : XK} {f : Addr} (hr : Room 11 (A.deeper (envOfC "_law_led_right" (defScope s_law_led_right) s.heap.objs.size f cdv))) :
    PSs (cxOf L2.CX0 P w K mg base N_law_led_right "_law_led_right" (defScope s_law_led_right) f cdv A outer s H E).nox (defBody s_law_led_right) (t_law_led_right K) :=
  pss_cons (ps_for PassesOwn.never rfl (pi_range1 rfl T.b_range (pa_cons (pe_int) (pa_nil))) (pg_name (i := 4) sc_law_led_right.nd rfl (Or.inl rfl)) (pss_cons (ps_set (i := 5) sc_law_led_right.nd rfl (Or.inl rfl) (pe_cal (cal_law_pick T.toTxtW) hr (by decide) rfl (pa_cons (pv 0) (pa_cons (pe_callB call_lenA rfl T.b_len boot_len (pa_cons (pv 3) (pa_nil))) (pa_nil))))) (pss_cons (ps_set (i := 6) sc_law_led_right.nd rfl (Or.inl rfl) (pe_cal (cal_law_carried T.toTxtW) hr (by decide) rfl (pa_cons (pv 1) (pa_cons (pv 2) (pa_cons (pv 3) (pa_cons (pv 5) (pa_nil))))))) (pss_cons (ps_set (i := 7) sc_law_led_right.nd rfl (Or.inl rfl) (pe_cal (cal_law_told T) hr (by decide) rfl (pa_cons (pe_makeStanding T.toTxtW hr (pa_cons (pv 1) (pa_cons (pv 2) (pa_cons (pv 3) (pa_nil))))) (pa_cons (pv 5) (pa_nil))))) (pss_cons (ps_if (pt_cmpR (op_neD hr.units) (pv 7) (pv 6) (nomark _)) (pss_one (ps_ret (pe_bl))) (pss_nil)) (pss_one (ps_if (pt_cmpR (op_eqD hr.units) (pe_ix ix_any (pv 6) (pe_int) (fun _ _ => rfl)) (pe_str) (nomark _)) (pss_cons (ps_par (i := 2) (j := 3) rfl sc_law_led_right.nd rfl rfl (by decide) rfl rfl (pa_cons (pe_ix ix_any (pv 6) (pe_int) (fun _ _ => rfl)) (pa_cons (pe_ix ix_any (pv 6) (pe_int) (fun _ _ => rfl)) (pa_nil))) rfl) (pss_one (ps_if (PW.pt (pw_or (pt_cmpR op_gtI (pv 2) (pe_op op_powI (pe_int) (pe_int)) (nomark _)) (pw_or1 (pt_not (pt_val (pe_callB (cr_any rfl) rfl T.b_any boot_any (pa_cons (pe_lc (own := [("_law_first", 8), ("_law_need", 9), ("_law_waits", 10)]) (g := gTup K 3 (gCons (gName 8) (gCons (gName 9) (gCons (gName 10) (gNil))))) (tt := tYes) rfl sc_law_led_right.nd (pi_tup (pv 3)) (blkOk_by (N := N_law_led_right) (sc := defScope s_law_led_right) (by decide +kernel)) (fun _ _ _ _ _ => pg_tup rfl (pgs_cons (pg_name (i := 8) sc_law_led_right.nd rfl (Or.inl rfl)) (pgs_cons (pg_name (i := 9) sc_law_led_right.nd rfl (Or.inl rfl)) (pgs_cons (pg_name (i := 10) sc_law_led_right.nd rfl (Or.inl rfl)) (pgs_nil))))) (fun _ _ _ _ _ => pts_nil) (fun _ _ _ _ _ => pe_cmpR op_notNo (pv 8) (pe_non) (nomark _))) (pa_nil)))))))) (pss_one (ps_ret (pe_bl))) (pss_nil)))) (pss_nil)))))))) (pss_one (ps_ret (pe_bl)))
theorem cal_law_led_right (T : TxtX P w K mg) : Cal P w K mg base 12 "_law_led_right" (sp_law_led_right K) := by
  obtain ⟨fd, F⟩ := T.fn_law_led_right
  exact ⟨_, fd, ["_law_tape_here", "_law_cells", "_law_head", "_law_deeds_here"], F.ok sc_law_led_right (fun vs H Q E h => len_law_led_right h) (fun cdv A outer s H vs Q E hr h => ⟨t_law_led_right K, PSs.nox (der_law_led_right T hr), pure_law_led_right T.toTxt h⟩), T.g__law_led_right, F.kp, F.bindsN fun _ _ _ _ _ _ us hl => match us, hl with | [_, _, _, _], _ => rfl⟩
theorem der_law (T : TxtX P w K mg) {cdv : Value} {A : Around} {outer : List PySem.Env} {s : Shared} {H : Hp} {E : XK} {f : Addr} (hr : Room 13 (A.deeper (envOfC "law" (defScope s_law) s.heap.objs.size f cdv))) :
    PSs (cxOf L2.CX0 P w K mg base N_law "law" (defScope s_law) f cdv A outer s H E).nox (defBody s_law) (t_law K) :=
  pss_cons (ps_set (i := 1) sc_law.nd rfl (Or.inl rfl) (pe_cal (cal_law_tape T.toTxtW) hr (by decide) rfl (pa_cons (pv 0) (pa_nil)))) (pss_cons (ps_for PassesOwn.never rfl (pi_range1 rfl T.b_range (pa_cons (pe_int) (pa_nil))) (pg_name (i := 2) sc_law.nd rfl (Or.inl rfl)) (pss_cons (ps_asg (pe_cal (cal_law_pressed T.toTxtW) hr (by decide) rfl (pa_cons (pv 1) (pa_cons (pe_op op_addA (pe_int) (pe_cal (cal_law_pick T.toTxtW) hr (by decide) rfl (pa_cons (pv 1) (pa_cons (pe_int) (pa_nil))))) (pa_cons (pe_cal (cal_law_any T.toTxtW) hr (by decide) rfl (pa_cons (pv 1) (pa_cons (pe_lst (pa_cons (pe_int) (pa_cons (pe_int) (pa_cons (pe_int) (pa_nil))))) (pa_nil)))) (pa_nil))))) (pg_tup rfl (pgs_cons (pg_name (i := 3) sc_law.nd rfl (Or.inr rfl)) (pgs_cons (pg_name (i := 4) sc_law.nd rfl (Or.inl rfl)) (pgs_cons (pg_name (i := 5) sc_law.nd rfl (Or.inr rfl)) (pgs_cons (pg_name (i := 6) sc_law.nd rfl (Or.inr rfl)) (pgs_cons (pg_name (i := 7) sc_law.nd rfl (Or.inr rfl)) (pgs_nil)))))))) (pss_cons (ps_set (i := 8) sc_law.nd rfl (Or.inr rfl) (pe_makeStanding T.toTxtW hr (pa_cons (pv 3) (pa_cons (pv 4) (pa_cons (pv 5) (pa_nil)))))) (pss_cons (ps_for PassesOwn.never rfl (pi_list (pe_cal (cal_law_lots T.toTxtW) hr (by decide) rfl (pa_cons (pe_ifExp (pt_cmpR op_notNo (pv 7) (pe_non) (nomark _)) (pe_callB (call_min2A rfl) rfl T.b_min boot_min (pa_cons (pv 7) (pa_cons (pe_int) (pa_nil)))) (pe_int)) (pa_nil)))) (pg_name (i := 9) sc_law.nd rfl (Or.inr rfl)) (pss_one (ps_if (pt_cmpR op_isNo (pv 7) (pe_non) (nomark _)) (pss_one (ps_if (pt_cmpR op_notBl (pe_cal (cal_is_carrying T.toTxtW) hr (by decide) rfl (pa_cons (pv 8) (pa_cons (pv 6) (pa_cons (pv 9) (pa_nil))))) (pe_bl) (nomark _)) (pss_one (ps_ret (pe_bl))) (pss_nil))) (pss_cons (ps_asg (pe_cal (cal_law_left T.toTxtW) hr (by decide) rfl (pa_cons (pv 4) (pa_cons (pv 5) (pa_cons (pv 7) (pa_cons (pv 9) (pa_nil)))))) (pg_tup rfl (pgs_cons (pg_name (i := 10) sc_law.nd rfl (Or.inl rfl)) (pgs_cons (pg_name (i := 11) sc_law.nd rfl (Or.inl rfl)) (pgs_nil))))) (pss_cons (ps_set (i := 12) sc_law.nd rfl (Or.inl rfl) (pe_cal (cal_left T.toTxtW) hr (by decide) rfl (pa_cons (pv 8) (pa_cons (pv 6) (pa_cons (pv 9) (pa_nil)))))) (pss_cons (ps_if (pt_cmpR (op_neD hr.units) (pe_tup (pa_cons (pe_fld (pv 12) rfl) (pa_cons (pe_fld (pv 12) rfl) (pa_cons (pe_fld (pv 12) rfl) (pa_nil))))) (pe_tup (pa_cons (pv 3) (pa_cons (pv 10) (pa_cons (pv 11) (pa_nil))))) (nomark _)) (pss_one (ps_ret (pe_bl))) (pss_nil)) (pss_cons (ps_set (i := 13) sc_law.nd rfl (Or.inl rfl) (pe_cal (cal_law_can T.toTxtW) hr (by decide) rfl (pa_cons (pv 3) (pa_cons (pv 4) (pa_cons (pv 5) (pa_cons (pv 6) (pa_cons (pv 7) (pa_cons (pv 9) (pa_nil))))))))) (pss_cons (ps_set (i := 14) sc_law.nd rfl (Or.inl rfl) (pe_cal (cal_is_carrying T.toTxtW) hr (by decide) rfl (pa_cons (pv 8) (pa_cons (pv 6) (pa_cons (pv 9) (pa_nil)))))) (pss_cons (ps_if (PW.pt (pw_or (pt_not (pt_val (pe_cal (cal_law_fits T.toTxtW) hr (by decide) rfl (pa_cons (pv 3) (pa_cons (pv 4) (pa_cons (pv 5) (pa_cons (pv 7) (pa_cons (pv 9) (pa_nil))))))))) (pw_or (pt_not (pt_val (pe_callB call_isT rfl T.b_isinstance boot_isinstance (pa_cons (pv 14) (pa_cons (pe_bltn (v := .ty "bool") rfl T.b_bool boot_bool rfl) (pa_nil)))))) (pw_or1 (pt_cmpR (op_neD hr.units) (pv 14) (pv 13) (nomark _)))))) (pss_one (ps_ret (pe_bl))) (pss_nil)) (pss_cons (ps_setLc (i := 15) (own := [("_law_deed", 17)]) (g := gName 17) (tt := tYes) rfl sc_law.nd rfl rfl (sw_true rfl rfl rfl (by decide +kernel)) (pi_tup (pv 9)) (blkOk_by (N := N_law) (sc := defScope s_law) (by decide +kernel)) (fun _ _ _ _ _ => pg_name (i := 17) sc_law.nd rfl (Or.inl rfl)) (fun _ _ _ _ _ => pts_nil) (fun _ _ _ _ _ => pe_cal (cal_law_sum T.toTxtW) hr (by decide) rfl (pa_cons (pv 5) (pa_cons (pv 6) (pa_cons (pv 7) (pa_cons (pv 9) (pa_cons (pv 17) (pa_nil)))))))) (pss_cons (ps_if (pt_cmpR (op_neD hr.units) (pe_lc (own := [("_law_deed", 17)]) (g := gName 17) (tt := tYes) rfl sc_law.nd (pi_tup (pv 9)) (blkOk_by (N := N_law) (sc := defScope s_law) (by decide +kernel)) (fun _ _ _ _ _ => pg_name (i := 17) sc_law.nd rfl (Or.inl rfl)) (fun _ _ _ _ _ => pts_nil) (fun _ _ _ _ _ => pe_cal (cal_carry_sum T.toTxtW) hr (by decide) rfl (pa_cons (pv 8) (pa_cons (pv 6) (pa_cons (pv 9) (pa_cons (pv 17) (pa_nil))))))) (pv 15) (nomark _)) (pss_one (ps_ret (pe_bl))) (pss_nil)) (pss_cons (ps_setLc (i := 16) (own := [("_law_deed", 17), ("_law_one", 18)]) (g := gTup K 2 (gCons (gName 17) (gCons (gName 18) (gNil)))) (tt := tAnd (tTest (tOp rGtI (tOp (rIxA K) (tOp (rIxA K) (tVar 5) (tVar 17)) (tC (.int 1))) (tC (.int 0)))) (tTest (tOp rGtI (tVar 18) (tVar 3)))) rfl sc_law.nd rfl rfl (sw_true rfl rfl rfl (by decide +kernel)) (pi_zipTL rfl T.b_zip (pa_cons (pv 9) (pa_cons (pv 15) (pa_nil)))) (blkOk_by (N := N_law) (sc := defScope s_law) (by decide +kernel)) (fun _ _ _ _ _ => pg_tup rfl (pgs_cons (pg_name (i := 17) sc_law.nd rfl (Or.inl rfl)) (pgs_cons (pg_name (i := 18) sc_law.nd rfl (Or.inl rfl)) (pgs_nil)))) (fun _ _ _ _ _ => pts_one (PW.pt (pw_and (pt_cmpR op_gtI (pe_ix ix_any (pe_ix ix_any (pv 5) (pv 17) (fun _ _ => rfl)) (pe_int) (fun _ _ => rfl)) (pe_int) (nomark _)) (pw_and1 (pt_cmpR op_gtI (pv 18) (pv 3) (nomark _)))))) (fun _ _ _ _ _ => pv 18)) (pss_one (ps_if (pt_cmpR (op_neD hr.units) (pv 13) (pe_and (pe_cmpR (op_eqD hr.units) (pe_callB call_lenA rfl T.b_len boot_len (pa_cons (pv 16) (pa_nil))) (pe_int) (nomark _)) (pe_one (pe_cmpR op_leI (pe_cal (cal_law_own_sum T.toTxtW) hr (by decide) rfl (pa_cons (pv 5) (pa_cons (pv 6) (pa_cons (pv 7) (pa_cons (pv 9) (pa_nil)))))) (pv 3) (nomark _)))) (nomark _)) (pss_one (ps_ret (pe_bl))) (pss_nil))))))))))))))) (pss_one (ps_if (pt_not (pt_val (pe_cal (cal_law_led_right T) hr (by decide) rfl (pa_cons (pv 1) (pa_cons (pv 3) (pa_cons (pv 4) (pa_cons (pv 5) (pa_nil)))))))) (pss_one (ps_ret (pe_bl))) (pss_nil))))))) (pss_one (ps_ret (pe_bl))))
theorem cal_law (T : TxtX P w K mg) : Cal P w K mg base 14 "law" (sp_law K) := by
  obtain ⟨fd, F⟩ := T.fn_law
  exact ⟨_, fd, ["_law_script"], F.ok sc_law (fun vs H Q E h => len_law h) (fun cdv A outer s H vs Q E hr h => ⟨t_law K, PSs.nox (der_law T hr), pure_law T.toTxt h⟩), T.g_law, F.kp, F.bindsN fun _ _ _ _ _ _ us hl => match us, hl with | [_], _ => rfl⟩
end
end RC
end
set_option Elab.async false
set_option linter.all false
set_option maxRecDepth 100000
set_option maxHeartbeats 4000000
namespace RC
open PySem PySem.Spec PyProof.Rows L2
section
variable {K : PySem.W.Frag} {mg : Str → Option Value} {h : Heap} {w : World}
theorem szB_ok {K : PySem.W.Frag} (b : szB K = true) : (∃ t, PySem.W.nsIn K (He.ga K "SIZES") "row" = some (some (.int 4 t))) ∧ (∃ t, PySem.W.nsIn K (He.ga K "SIZES") "open" = some (some (.int 4 t))) := by
  obtain ⟨b1, b⟩ := Bool.and_eq_true_iff.mp b
  obtain ⟨b2, _⟩ := Bool.and_eq_true_iff.mp b
  refine ⟨?_, ?_⟩
  · split at b1
    · rename_i t e
      exact ⟨t, e⟩
    · cases b1
  · split at b2
    · rename_i t e
      exact ⟨t, e⟩
    · cases b2
theorem txt_of (X : K.In h) (G : h.Ns mainGlobals mg) (c : obX K = vlX w) : TxtX R.prog w K mg := by
  have c1 : He.SaysD faL fnL K := congrArg (fun z : AlX => z.1) c
  have c2 : nrObs K = nrVal := congrArg (fun z : AlX => z.2.1) c
  have c3 : (nrAll K && szB K) = true := congrArg (fun z : AlX => z.2.2.1) c
  have c4 : He.dicW K (He.ga K "SIZES") = some (He.keysIn w.params ["row", "open", "wait"]) := congrArg (fun z : AlX => z.2.2.2) c
  obtain ⟨n1, n2⟩ := Bool.and_eq_true_iff.mp c3
  obtain ⟨N, xf⟩ := nrAll_ok c2 n1
  obtain ⟨s1, s2⟩ := szB_ok n2
  have hall : ∀ f ∈ faL, f.ok K = true := by
    have z := (He.ba (show ((faL.all fun f => f.ok K) && fnL.all fun d => d.ok K) = true from congrArg (fun z : He.AlD => z.1) c1)).1
    exact List.all_eq_true.mp z
  have hg : ∀ x ∈ glL, mg x = some (.ref (He.ga K x)) := fun x hx => He.glo_ok X G (hall _ (List.mem_append_left _ (List.mem_map_of_mem hx)))
  have hf : ∀ x ∈ frL, mg x = none := fun x hx => He.free_ok X G (hall _ (List.mem_append_right _ (List.mem_append_left _ (List.mem_map_of_mem hx))))
  have hc : ∀ (i : Nat) (f : He.Fa), faC[i]? = some f → f.ok K = true := fun i f e => hall _ (List.mem_append_right _ (List.mem_append_right _ (List.mem_append_left _ (List.mem_of_getElem? e))))
  have hx : ∀ (i : Nat) (f : He.Fa), faX[i]? = some f → f.ok K = true := fun i f e => hall _ (List.mem_append_right _ (List.mem_append_right _ (List.mem_append_right _ (List.mem_of_getElem? e))))
  have T : Txt K mg := {
    fn := fun i d e => c1.def_ i e
    gl := fun i x e => hg x (List.mem_of_getElem? e)
    fr := fun i x e => hf x (List.mem_of_getElem? e)
    c_MOST_CELLS := He.int_ok X G (hc 0 _ rfl)
    c_MOST_HEAD := He.int_ok X G (hc 1 _ rfl)
    c_MOST_DEEDS := He.int_ok X G (hc 2 _ rfl)
    c_ROW := He.str_ok X G (hc 3 _ rfl)
    c_OPEN := He.str_ok X G (hc 4 _ rfl)
    c_WAIT := He.str_ok X G (hc 5 _ rfl)
    std := ⟨He.cls_ok (hc 6 _ rfl), He.noat_ok (hc 7 _ rfl), He.noat_ok (hc 8 _ rfl), He.noat_ok (hc 9 _ rfl)⟩
    mks := He.mkr_ok (hc 10 _ rfl) }
  have T2 : TxtW w K mg := { toTxt := T, sz := He.dicW_ok c4, szr := s1, szo := s2, szg := He.glo_ok X G (hc 11 _ rfl) }
  exact { toTxtW := T2, prog := rfl, nr := N, g_NoRoom := T.g_NoRoom, g_NoRows := T.g_NoRows, g_RingError := T.g_RingError, g_super := He.free_ok X G (hx 0 _ rfl), rows := He.exc_ok (hx 1 _ rfl), xf := xf, m11 := He.exm_ok (hx 2 _ rfl), m21 := He.exm_ok (hx 3 _ rfl), m22 := He.exm_ok (hx 4 _ rfl) }
end
end RC
open PySem PySem.W PySem.Calls PyProof.Rows
theorem PySem.Challenge.cw_ringclaims_k13_whole_leaving_and_carryin_holds : PySem.Challenge.rw_ringclaims_k13_whole_leaving_and_carryin.Holds := by
  w_on; o_law
  refine HandSHeadRun.head_any (r := OpenLaw.row PySem.Challenge.rw_ringclaims_k13_whole_leaving_and_carryin) (q := view (OpenLaw.row PySem.Challenge.rw_ringclaims_k13_whole_leaving_and_carryin).prog [99]) (H := RC.hkP) (ob := RC.obP) (M := 6000) (loose := RC.lnL) (d := HandSHeadRun.topDef (OpenLaw.row PySem.Challenge.rw_ringclaims_k13_whole_leaving_and_carryin).prog 99) (kwd := []) RC.obP_eq
    (by kernel_rfl) (fun s => by kernel_rfl) RC.runP (by kernel_rfl) (by kernel_rfl) (by kernel_rfl) (by rfl) (by first | assumption | decide +kernel) (by decide +kernel) ⟨rfl, rfl, rfl, rfl, rfl, by decide +kernel⟩ ?hw ?hc
  case hw => w_witness2
  case hc =>
    refine L2.walk_ofE (l := PySem.Challenge.rw_ringclaims_k13_whole_leaving_and_carryin) (n := 63) (k := 14) (x := "_law_script") (CX := L2.CX0) rfl (by decide) (by kernel_rfl) ⟨rfl, by decide, by decide⟩ ?F (fun _ _ _ _ z => z)
    intro w mg fa h Y G hmg0
    obtain ⟨K, KX, c⟩ := Y
    have hmg : mg ("law" : PySem.Str) = some (.ref fa) := by
      have e : (HandSHeadRun.topDef (OpenLaw.row PySem.Challenge.rw_ringclaims_k13_whole_leaving_and_carryin).prog 99).name = ("law" : PySem.Str) := by kernel_rfl
      rw [← e]
      exact hmg0
    have T := RC.txt_of KX G c
    obtain ⟨fd, F⟩ := T.fn_law
    have e := hmg.symm.trans T.g_law
    cases e
    have b := L2.FunD.bindsA (ps := ["_law_script"]) F fun _ _ _ _ _ _ us hl => match us, hl with | [_], _ => rfl
    exact ⟨K, fd, RC.sp_law K, KX, fun s v => b s [v] rfl, fun H a ns hl _ hS => ⟨a, ns, rfl, hS, hl, fun _ => rfl⟩, fun base _ _ => F.ok RC.sc_law (fun vs H Q E h => RC.len_law h) (fun cdv A outer s H vs Q E hr h => ⟨RC.t_law K, L2.PSs.nox (RC.der_law T hr), RC.pure_law T.toTxt h⟩)⟩
